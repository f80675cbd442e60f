import PyProof.Rows.All
import HandS.ForMost
import HandS.ForExc
import HandS.CallSlots
import HandS.ExcInit
import HandS.Lambda
import HandS.HeadHook4
import HandS.Iter
import HandS.Zip
import HandS.Defaults
import HandS.WordsExc
import HandS.TupAny
import HandS.IsInst
import HandS.Deep
import HandS.Conv
import HandS.WordsDict
import KE.KExcLine
import HandS.ExcSuper
import HandS.HeadWalk
import HandS.ExcIs
import HandS.ExcField
import HandS.ExcValue
import HandS.ExcOwn
import PyProof.ReprRoads
import HandS.HeadEnd
import HandS.Head2
import KE.KStateDown
import KE.KTryMore
import HandS.Words
import KE.GoesMore
import PyProof.ReprLen
import HandS.MakeKwOnly
import HandS.SetFor
import HandS.Strs
import PyProof.Rows.SortShellAny
import HandS.DictComp
import HandS.More
import HandS.Style
import HandS.Small
import PyProof.CallFns
import PySem.Challenge.RW_keysalone_k03_foreign_screens

set_option Elab.async false
set_option linter.all false
set_option maxRecDepth 100000
/-! Ka: plain data D of the program's values, a store of what is changed, and the readings over them. -/
namespace Kx
open PySem PySem.Spec L2

/-- plain values. tup, lst, dic, ins, exc: things that are never changed any more, by what they hold; loc n: a thing that is changed, in the store -/
inductive D where
  | non | bl (b : Bool) | int (i : Int) | str (x : Str)
  | tup (ds : List D) | lst (ds : List D) | rol (ds : List D) | dic (ks ds : List D)
  | ins (c : Str) (ns : List Str) (ds : List D) | exc (c : Str) (ns : List Str) (ds : List D)
  | loc (n : Nat) | fn (x : Str) | ty (n : String)
  deriving Inhabited

/-- what is changed -/
inductive Cell where
  | dead | lst (ds : List D) | dic (ks ds : List D) | ins (c : Str) (ns : List Str) (ds : List D)
  deriving Inhabited
abbrev Store := List Cell
abbrev En := List (Option D)

inductive Res (α : Type) where
  | ok (a : α) (S : Store) | exc (c : Str) (ns : List Str) (ds : List D) (S : Store) | err

def Res.bind {α β : Type} (r : Res α) (f : α → Store → Res β) : Res β :=
  match r with
  | .ok a S => f a S
  | .exc c ns ds S => .exc c ns ds S
  | .err => .err

abbrev ME := En → Store → Res D
abbrev MT := En → Store → Res Bool
abbrev MA := En → Store → Res (List D)
abbrev FN := List D → Store → Res D

inductive SRes where
  | nx (G : En) (S : Store) | rt (d : D) (S : Store) | bk (G : En) (S : Store) | ct (G : En) (S : Store)
  | exc (c : Str) (ns : List Str) (ds : List D) (G : En) (S : Store) | err
abbrev MS := En → Store → SRes

/-! ### the relation with the layer's values and heap -/
def isDead : Cell → Bool
  | .dead => true
  | _ => false
/-- the addresses of the store's cells, and of what is being made -/
structure Rg where
  as : List Addr
  z : List Addr
def Live (r : Rg) (S : Store) (a : Addr) : Prop := (∃ (n : Nat) (c : Cell), r.as[n]? = some a ∧ S[n]? = some c ∧ isDead c = false) ∨ a ∈ r.z

/-- a list, a tuple of the written part -/
def KL (K : PySem.W.Frag) (a : Addr) (xs : List V) : Prop := ∃ (o : Obj) (its : Array Value) (n : Nat), K.lookup a = some o ∧ o.cls = .type "list" ∧ o.dict = none ∧ o.data = .seq its n ∧ its.size ≤ sizeLine ∧ Vals xs its.toList
def KT (K : PySem.W.Frag) (a : Addr) (xs : List V) : Prop := ∃ (o : Obj) (its : Array Value) (n : Nat), K.lookup a = some o ∧ o.cls = .type "tuple" ∧ o.data = .seq its n ∧ its.size ≤ sizeLine ∧ Vals xs its.toList

/-- the defs that make lambdas, over all laws -/
def lamDefs : List He.Defn := [("Library", some "__init__"), ("_law_act", none), ("_law_all", none), ("_law_are_changes", none), ("_law_asked_right", none), ("_law_bent_right", none), ("_law_doors_right", none), ("_law_fault", none), ("_law_foreign_right", none), ("_law_great_right", none), ("_law_hand_right", none), ("_law_is_condition", none), ("_law_is_deed", none), ("_law_is_row", none), ("_law_leads_right", none), ("_law_middles_right", none), ("_law_more_right", none), ("_law_parts_right", none), ("_law_promises", none), ("_law_refused_right", none), ("_law_right", none), ("_law_rows_right", none), ("_law_state_right", none), ("_law_tables", none), ("_law_tries", none), ("_law_turn", none), ("_law_uses_right", none), ("_law_with_right", none), ("law", none), ("least_row", none), ("shut_rows", none), ("state_rows", none)]
/-- their tables of code objects and the names of these -/
def tabsK (K : PySem.W.Frag) : List (Addr × Str) := lamDefs.filterMap fun p => match K.lookup (He.fAd K p) with
  | some ⟨_, _, .func fd, _⟩ => some ((He.cT K p).2, fd.qualname ++ ".<locals>." ++ "<lambda>")
  | _ => none
/-- neither a table nor a thing told by a predicate -/
def NoTab (o : HO) : Prop := (∀ ps, o ≠ .tbl ps) ∧ ∀ φ, o ≠ .ext φ

def kD : Key → D
  | .inl i => .int i
  | .inr x => .str x

/-- what the representation leans on: the written part, the module's names, the addresses of the store's things, those that live, the heap -/
structure Ctx where
  K : PySem.W.Frag
  mg : Str → Option Value
  r : List Addr
  lv : Addr → Prop
  H : Hp

/-- at a: an exception of the class at C, its dict none or at d; its other parts untold -/
def exv (a C : Addr) (d : Option Addr) : HO := .ext fun h => ∃ (vs : Array Value) (sl : Array (Option Value)), h.get? a = some ({ cls := .ref C, dict := d, data := .fields vs, slots := sl } : Obj)
/-- the own dict of an exception, or none as long as it has no field -/
def XdAt (c : Ctx) : Option Addr → List (Str × V) → Prop
  | none, fs => fs = []
  | some dx, fs => c.H dx = some (.xd fs) ∧ ¬ c.lv dx

mutual
def DV (c : Ctx) : D → V → Prop
  | .non, v => v = .non
  | .bl b, v => v = .bl b
  | .int i, v => v = .int i
  | .str x, v => v = .str x
  | .tup ds, v => ∃ a vs, v = .ref a ∧ ((Rd c.H a (.tup vs) ∧ ¬ c.lv a) ∨ KT c.K a vs) ∧ DVs c ds vs
  | .lst ds, v => ∃ a vs, v = .ref a ∧ (c.H a = some (.lst vs) ∧ ¬ c.lv a) ∧ DVs c ds vs
  | .rol ds, v => ∃ a vs, v = .ref a ∧ ((Rd c.H a (.lst vs) ∧ ¬ c.lv a) ∨ KL c.K a vs) ∧ DVs c ds vs
  | .dic ks ds, v => ∃ a kvs, v = .ref a ∧ c.H a = some (.dK kvs) ∧ ¬ c.lv a ∧ ks = kvs.map (fun p => kD p.1) ∧ DVs c ds (kvs.map (·.2))
  | .ins x ns ds, v => ∃ a C dx fs, v = .ref a ∧ c.mg x = some (.ref C) ∧ c.H a = some (.ins C dx fs) ∧ ¬ c.lv a ∧ ns = fs.map (·.1) ∧ DVs c ds (fs.map (·.2))
  | .exc x ns ds, v => ∃ a C d fs, v = .ref a ∧ c.mg x = some (.ref C) ∧ c.H a = some (exv a C d) ∧ ¬ c.lv a ∧ XdAt c d fs ∧ ns = fs.map (·.1) ∧ DVs c ds (fs.map (·.2))
  | .loc n, v => ∃ a, v = .ref a ∧ c.r[n]? = some a
  | .fn x, v => ∃ a, v = .ref a ∧ c.mg x = some (.ref a)
  | .ty n, v => v = .ty n
def DVs (c : Ctx) : List D → List V → Prop
  | [], vs => vs = []
  | d :: ds, vs => ∃ v r, vs = v :: r ∧ DV c d v ∧ DVs c ds r
end
end Kx

set_option Elab.async false
set_option linter.all false
set_option maxRecDepth 100000
set_option autoImplicit false
namespace Kx
open PySem PySem.Spec L2

abbrev cx (K : PySem.W.Frag) (mg : Str → Option Value) (r : Rg) (S : Store) (H : Hp) : Ctx := ⟨K, mg, r.as, Live r S, H⟩

/-- values go on -/
structure Ex0 (r : Rg) (S : Store) (H : Hp) (r' : Rg) (S' : Store) (H' : Hp) : Prop where
  pre : ∀ (n : Nat) (a : Addr), r.as[n]? = some a → r'.as[n]? = some a
  kp : ∀ a o, H a = some o → (∀ ps, o ≠ .tbl ps) → ¬ Live r S a → H' a = some o ∧ ¬ Live r' S' a
/-- how the heap and the store may go on -/
structure Ext (r : Rg) (S : Store) (H : Hp) (r' : Rg) (S' : Store) (H' : Hp) : Prop extends Ex0 r S H r' S' H' where
  zeq : r'.z = r.z
  zs : ∀ a, a ∈ r.z → H' a = H a
theorem Ex0.trans {r r1 r2 : Rg} {S S1 S2 : Store} {H H1 H2 : Hp} (e : Ex0 r S H r1 S1 H1) (f : Ex0 r1 S1 H1 r2 S2 H2) : Ex0 r S H r2 S2 H2 :=
  ⟨fun n a h => f.pre n a (e.pre n a h), fun a o h t n => let ⟨h1, n1⟩ := e.kp a o h t n; f.kp a o h1 t n1⟩
theorem Ext.refl {r : Rg} {S : Store} {H : Hp} : Ext r S H r S H := ⟨⟨fun _ _ h => h, fun _ _ h _ n => ⟨h, n⟩⟩, rfl, fun _ _ => rfl⟩
theorem Ext.trans {r r1 r2 : Rg} {S S1 S2 : Store} {H H1 H2 : Hp} (e : Ext r S H r1 S1 H1) (f : Ext r1 S1 H1 r2 S2 H2) : Ext r S H r2 S2 H2 :=
  ⟨e.toEx0.trans f.toEx0, f.zeq.trans e.zeq, fun a h => (f.zs a (by rw [e.zeq]; exact h)).trans (e.zs a h)⟩

section
variable {K : PySem.W.Frag} {mg : Str → Option Value} {r r' : Rg} {S S' : Store} {H H' : Hp}
theorem Rd.some {H : Hp} {a : Addr} {u : HO} (h : Rd H a u) (hu : ∀ ps, u ≠ .tbl ps) : ∃ o, H a = some o ∧ (∀ ps, o ≠ .tbl ps) ∧ ∀ H' : Hp, H' a = some o → Rd H' a u := by
  rcases h with h | ⟨o, h⟩
  · exact ⟨_, h, hu, fun _ e => .inl e⟩
  · exact ⟨_, h, (fun _ z => by cases z), fun _ e => .inr ⟨o, e⟩⟩
theorem ntL {xs : List V} : ∀ ps, HO.lst xs ≠ .tbl ps := fun _ z => by cases z
theorem ntT {xs : List V} : ∀ ps, HO.tup xs ≠ .tbl ps := fun _ z => by cases z
theorem ntD {xs : List (Key × V)} : ∀ ps, HO.dK xs ≠ .tbl ps := fun _ z => by cases z
theorem ntI {C dx : Addr} {xs : List (Str × V)} : ∀ ps, HO.ins C dx xs ≠ .tbl ps := fun _ z => by cases z
theorem ntX {xs : List (Str × V)} : ∀ ps, HO.xd xs ≠ .tbl ps := fun _ z => by cases z
theorem ntV {a C : Addr} {d : Option Addr} : ∀ ps, exv a C d ≠ .tbl ps := fun _ z => by unfold exv at z; cases z
mutual
theorem DV.ex0 (e : Ex0 r S H r' S' H') : ∀ {d : D} {v : V}, DV (cx K mg r S H) d v → DV (cx K mg r' S' H') d v
  | .non, _, h => h
  | .bl _, _, h => h
  | .int _, _, h => h
  | .str _, _, h => h
  | .ty _, _, h => h
  | .fn _, _, h => h
  | .loc _, _, ⟨a, h1, h2⟩ => ⟨a, h1, e.pre _ _ h2⟩
  | .tup ds, _, ⟨a, vs, h1, h2, h3⟩ => by
    refine ⟨a, vs, h1, ?_, DVs.ex0 e h3⟩
    rcases h2 with ⟨h2, n⟩ | h2
    · obtain ⟨o, q, t, g⟩ := Rd.some h2 ntT
      obtain ⟨q1, q2⟩ := e.kp a o q t n
      exact .inl ⟨g _ q1, q2⟩
    · exact .inr h2
  | .lst ds, _, ⟨a, vs, h1, h2, h3⟩ => ⟨a, vs, h1, e.kp a _ h2.1 ntL h2.2, DVs.ex0 e h3⟩
  | .rol ds, _, ⟨a, vs, h1, h2, h3⟩ => by
    refine ⟨a, vs, h1, ?_, DVs.ex0 e h3⟩
    rcases h2 with ⟨h2, n⟩ | h2
    · obtain ⟨o, q, t, g⟩ := Rd.some h2 ntL
      obtain ⟨q1, q2⟩ := e.kp a o q t n
      exact .inl ⟨g _ q1, q2⟩
    · exact .inr h2
  | .dic ks ds, _, ⟨a, kvs, h1, h2, n, h3, h4⟩ => by
    obtain ⟨q1, q2⟩ := e.kp a _ h2 ntD n
    exact ⟨a, kvs, h1, q1, q2, h3, DVs.ex0 e h4⟩
  | .ins x ns ds, _, ⟨a, C, dx, fs, h1, hm, h2, n, h3, h4⟩ => by
    obtain ⟨q1, q2⟩ := e.kp a _ h2 ntI n
    exact ⟨a, C, dx, fs, h1, hm, q1, q2, h3, DVs.ex0 e h4⟩
  | .exc x ns ds, _, ⟨a, C, d, fs, h1, hm, h2, n, hd, h3, h4⟩ => by
    obtain ⟨q1, q2⟩ := e.kp a _ h2 ntV n
    refine ⟨a, C, d, fs, h1, hm, q1, q2, ?_, h3, DVs.ex0 e h4⟩
    cases d with
    | none => exact hd
    | some dx => exact e.kp dx _ hd.1 ntX hd.2
theorem DVs.ex0 (e : Ex0 r S H r' S' H') : ∀ {ds : List D} {vs : List V}, DVs (cx K mg r S H) ds vs → DVs (cx K mg r' S' H') ds vs
  | [], _, h => h
  | _ :: _, _, ⟨v, t, h1, h2, h3⟩ => ⟨v, t, h1, DV.ex0 e h2, DVs.ex0 e h3⟩
end
theorem DV.ext (e : Ext r S H r' S' H') {d : D} {v : V} (h : DV (cx K mg r S H) d v) : DV (cx K mg r' S' H') d v := DV.ex0 e.toEx0 h
theorem DVs.ext (e : Ext r S H r' S' H') {ds : List D} {vs : List V} (h : DVs (cx K mg r S H) ds vs) : DVs (cx K mg r' S' H') ds vs := DVs.ex0 e.toEx0 h
end

section
variable {c : Ctx}
theorem DVs.nil : DVs c [] [] := rfl
theorem DVs.cons {d : D} {ds : List D} {v : V} {vs : List V} (h : DV c d v) (t : DVs c ds vs) : DVs c (d :: ds) (v :: vs) := ⟨v, vs, rfl, h, t⟩
theorem DVs.length : ∀ {ds : List D} {vs : List V}, DVs c ds vs → ds.length = vs.length
  | [], _, h => by cases h; rfl
  | _ :: _, _, ⟨v, t, h1, _, h3⟩ => by subst h1; simp [DVs.length h3]
theorem DVs.append : ∀ {ds es : List D} {vs us : List V}, DVs c ds vs → DVs c es us → DVs c (ds ++ es) (vs ++ us)
  | [], _, _, _, h, t => by cases h; exact t
  | _ :: _, _, _, _, ⟨v, r, h1, h2, h3⟩, t => by subst h1; exact ⟨v, _, rfl, h2, DVs.append h3 t⟩
theorem DVs.get : ∀ {ds : List D} {vs : List V} {i : Nat} {d : D}, DVs c ds vs → ds[i]? = some d → ∃ v, vs[i]? = some v ∧ DV c d v
  | [], _, _, _, _, h => by simp at h
  | _ :: _, _, 0, _, ⟨v, r, h1, h2, _⟩, h => by subst h1; simp at h; subst h; exact ⟨v, rfl, h2⟩
  | _ :: _, _, i + 1, _, ⟨v, r, h1, _, h3⟩, h => by subst h1; simp at h; obtain ⟨u, g1, g2⟩ := DVs.get h3 h; exact ⟨u, by simpa using g1, g2⟩
theorem DVs.getV : ∀ {ds : List D} {vs : List V} {i : Nat} {v : V}, DVs c ds vs → vs[i]? = some v → ∃ d, ds[i]? = some d ∧ DV c d v
  | [], _, _, _, h, e => by cases h; simp at e
  | _ :: _, _, 0, _, ⟨v, r, h1, h2, _⟩, h => by subst h1; simp at h; subst h; exact ⟨_, rfl, h2⟩
  | _ :: _, _, i + 1, _, ⟨v, r, h1, _, h3⟩, h => by subst h1; simp at h; obtain ⟨u, g1, g2⟩ := DVs.getV h3 h; exact ⟨u, by simpa using g1, g2⟩
theorem DVs.take : ∀ {ds : List D} {vs : List V} (n : Nat), DVs c ds vs → DVs c (ds.take n) (vs.take n)
  | _, _, 0, _ => by simp [DVs]
  | [], _, _ + 1, h => by cases h; simp [DVs]
  | _ :: _, _, n + 1, ⟨v, r, h1, h2, h3⟩ => by subst h1; exact ⟨v, _, rfl, h2, DVs.take n h3⟩
theorem DVs.drop : ∀ {ds : List D} {vs : List V} (n : Nat), DVs c ds vs → DVs c (ds.drop n) (vs.drop n)
  | _, _, 0, h => h
  | [], _, _ + 1, h => by cases h; simp [DVs]
  | _ :: _, _, n + 1, ⟨v, r, h1, h2, h3⟩ => by subst h1; exact DVs.drop n h3
theorem DVs.set {d : D} {v : V} (h : DV c d v) : ∀ {ds : List D} {vs : List V} (n : Nat), DVs c ds vs → DVs c (ds.set n d) (vs.set n v)
  | [], _, _, t => by cases t; simp [DVs]
  | _ :: _, _, 0, ⟨w, r, h1, h2, h3⟩ => by subst h1; exact ⟨v, r, rfl, h, h3⟩
  | _ :: _, _, n + 1, ⟨w, r, h1, h2, h3⟩ => by subst h1; exact ⟨w, _, rfl, h2, DVs.set h n h3⟩
theorem DVs.reverse : ∀ {ds : List D} {vs : List V}, DVs c ds vs → DVs c ds.reverse vs.reverse
  | [], _, h => by cases h; simp [DVs]
  | _ :: _, _, ⟨v, r, h1, h2, h3⟩ => by subst h1; rw [List.reverse_cons, List.reverse_cons]; exact DVs.append (DVs.reverse h3) ⟨v, [], rfl, h2, rfl⟩
end

/-- what stands at the address of a cell -/
def CellOk (c : Ctx) (a : Addr) : Cell → Prop
  | .dead => True
  | .lst ds => ∃ vs, c.H a = some (.lst vs) ∧ DVs c ds vs
  | .dic ks ds => ∃ kvs, c.H a = some (.dK kvs) ∧ ks = kvs.map (fun p => kD p.1) ∧ DVs c ds (kvs.map (·.2))
  | .ins x ns ds => ∃ C dx fs, c.mg x = some (.ref C) ∧ c.H a = some (.ins C dx fs) ∧ ns = fs.map (·.1) ∧ DVs c ds (fs.map (·.2))

structure Sim (K : PySem.W.Frag) (mg : Str → Option Value) (r : Rg) (S : Store) (H : Hp) : Prop where
  len : r.as.length = S.length
  inj : ∀ (i j : Nat) (a : Addr) (ci cj : Cell), r.as[i]? = some a → r.as[j]? = some a → S[i]? = some ci → S[j]? = some cj → isDead ci = false → isDead cj = false → i = j
  cell : ∀ (n : Nat) (c : Cell) (a : Addr), S[n]? = some c → r.as[n]? = some a → CellOk (cx K mg r S H) a c
  zn : ∀ (n : Nat) (c : Cell) (a : Addr), S[n]? = some c → r.as[n]? = some a → isDead c = false → a ∉ r.z
  res : ∀ a, a ∈ r.z → ∃ o, H a = some o ∧ NoTab o
  tab : LamX.Tabs (tabsK K) H

section
variable {K : PySem.W.Frag} {mg : Str → Option Value} {r r' : Rg} {S S' : Store} {H H' : Hp}
theorem CellOk.some {c : Ctx} {a : Addr} {k : Cell} (h : CellOk c a k) (n : isDead k = false) : ∃ o, c.H a = some o ∧ NoTab o := by
  cases k with
  | dead => cases n
  | lst ds => obtain ⟨vs, h, _⟩ := h; exact ⟨_, h, ntL, fun _ z => by cases z⟩
  | dic ks ds => obtain ⟨kvs, h, _⟩ := h; exact ⟨_, h, ntD, fun _ z => by cases z⟩
  | ins x ns ds => obtain ⟨C, dx, fs, _, h, _⟩ := h; exact ⟨_, h, ntI, fun _ z => by cases z⟩
theorem Sim.live (s : Sim K mg r S H) {a : Addr} (h : Live r S a) : ∃ o, H a = some o ∧ NoTab o := by
  rcases h with ⟨n, c, h1, h2, h3⟩ | h
  · exact (s.cell n c a h2 h1).some h3
  · exact s.res a h
theorem Sim.fresh (s : Sim K mg r S H) {p : Addr} (h : H p = none) : ¬ Live r S p := fun l => by
  obtain ⟨o, e, _⟩ := s.live l
  rw [h] at e; cases e
/-- the tables stand apart from what is written -/
theorem tabs_upd {T : List (Addr × Str)} {p : Addr} {o : HO} (t : LamX.Tabs T H) (hp : ∀ u, H p = some u → NoTab u) : LamX.Tabs T (upd H p o) := fun q hq => by
  obtain ⟨ps, h1, h2, h3⟩ := t q hq
  have n1 : q.1 ≠ p := fun z => (hp _ (by rw [← z]; exact h1)).1 ps rfl
  refine ⟨ps, by rw [upd_ne n1]; exact h1, h2, fun pos cv hc => ?_⟩
  obtain ⟨c, e1, e2⟩ := h3 pos cv hc
  refine ⟨c, e1, ?_⟩
  have n2 : c ≠ p := fun z => (hp _ (by rw [← z]; exact e2)).2 _ rfl
  rw [upd_ne n2]; exact e2
theorem tabs_new {T : List (Addr × Str)} {p : Addr} {o : HO} (t : LamX.Tabs T H) (hp : H p = none) : LamX.Tabs T (upd H p o) := tabs_upd t fun u z => by rw [hp] at z; cases z
theorem Sim.addr (s : Sim K mg r S H) {n : Nat} {c : Cell} (h : S[n]? = some c) : ∃ a, r.as[n]? = some a := by
  have h1 : n < S.length := (List.getElem?_eq_some_iff.mp h).1
  have h2 : n < r.as.length := by rw [s.len]; exact h1
  exact ⟨r.as[n], List.getElem?_eq_getElem h2⟩
/-- contents go along -/
theorem CellOk.ext (e : Ex0 r S H r' S' H') {a : Addr} {k : Cell} (h : CellOk (cx K mg r S H) a k) (ha : isDead k = false → H' a = H a) : CellOk (cx K mg r' S' H') a k := by
  cases k with
  | dead => trivial
  | lst ds => obtain ⟨vs, h1, h2⟩ := h; exact ⟨vs, (ha rfl).trans h1, DVs.ex0 e h2⟩
  | dic ks ds => obtain ⟨kvs, h1, h2, h3⟩ := h; exact ⟨kvs, (ha rfl).trans h1, h2, DVs.ex0 e h3⟩
  | ins x ns ds => obtain ⟨C, dx, fs, hm, h1, h2, h3⟩ := h; exact ⟨C, dx, fs, hm, (ha rfl).trans h1, h2, DVs.ex0 e h3⟩

/-- a new thing, by its value -/
theorem Sim.newv (s : Sim K mg r S H) {p : Addr} {o : HO} (hp : H p = none) : Sim K mg r S (upd H p o) ∧ Ext r S H r S (upd H p o) := by
  have e : Ext r S H r S (upd H p o) := ⟨⟨fun _ _ h => h, fun a u h _ n => ⟨by rw [upd_ne (ne_of_none h hp)]; exact h, n⟩⟩, rfl, fun a h => by
    obtain ⟨u, q, _⟩ := s.res a h
    rw [upd_ne (ne_of_none q hp)]⟩
  refine ⟨⟨s.len, s.inj, fun n c a h1 h2 => ?_, s.zn, fun a h => ?_, tabs_new s.tab hp⟩, e⟩
  · refine (s.cell n c a h1 h2).ext e.toEx0 fun hd => ?_
    obtain ⟨u, q, _⟩ := (s.cell n c a h1 h2).some hd
    rw [upd_ne (ne_of_none q hp)]
  · rw [e.zs a h]; exact s.res a h
/-- a cell is written -/
theorem Sim.write (s : Sim K mg r S H) {n : Nat} {a : Addr} {c c' : Cell} {o : HO} (hn : S[n]? = some c) (hr : r.as[n]? = some a) (hl : isDead c = false) (hl' : isDead c' = false)
    (ok : ∀ S' H', S' = S.set n c' → H' = upd H a o → Ext r S H r S' H' → CellOk (cx K mg r S' H') a c') :
    Sim K mg r (S.set n c') (upd H a o) ∧ Ext r S H r (S.set n c') (upd H a o) := by
  have hlt : n < S.length := (List.getElem?_eq_some_iff.mp hn).1
  have key : ∀ m k, (S.set n c')[m]? = some k → isDead k = false → ∃ k', S[m]? = some k' ∧ isDead k' = false := fun m k q d => by
    by_cases hm : m = n
    · subst hm; exact ⟨c, hn, hl⟩
    · rw [List.getElem?_set_ne (Ne.symm hm)] at q
      exact ⟨k, q, d⟩
  have lv : ∀ b, Live r (S.set n c') b → Live r S b := fun b h => by
    rcases h with ⟨m, k, h1, h2, h3⟩ | h
    · obtain ⟨k', q1, q2⟩ := key m k h2 h3
      exact .inl ⟨m, k', h1, q1, q2⟩
    · exact .inr h
  have la : Live r S a := .inl ⟨n, c, hr, hn, hl⟩
  have az : ∀ b, b ∈ r.z → b ≠ a := fun b hb z => s.zn n c a hn hr hl (by rw [← z]; exact hb)
  have e : Ext r S H r (S.set n c') (upd H a o) := ⟨⟨fun _ _ h => h, fun b u h _ nb => ⟨by
    have : b ≠ a := fun z => nb (by rw [z]; exact la)
    rw [upd_ne this]; exact h, fun z => nb (lv b z)⟩⟩, rfl, fun b hb => upd_ne (az b hb)⟩
  refine ⟨⟨by rw [List.length_set]; exact s.len, fun i j b ci cj h1 h2 h3 h4 h5 h6 => ?_, fun m k b h1 h2 => ?_, fun m k b h1 h2 h3 => ?_, fun b hb => ?_, tabs_upd s.tab fun u z => ?_⟩, e⟩
  rotate_right
  · obtain ⟨u', q1, q2⟩ := (s.cell n c a hn hr).some hl
    have q1 : H a = some u' := q1
    rw [q1] at z
    cases z
    exact q2
  · obtain ⟨ci', q1, q2⟩ := key i ci h3 h5
    obtain ⟨cj', q3, q4⟩ := key j cj h4 h6
    exact s.inj i j b ci' cj' h1 h2 q1 q3 q2 q4
  · by_cases hm : m = n
    · subst hm
      rw [List.getElem?_set_self hlt] at h1
      cases h1
      rw [hr] at h2
      cases h2
      exact ok _ _ rfl rfl e
    · rw [List.getElem?_set_ne (Ne.symm hm)] at h1
      refine (s.cell m k b h1 h2).ext e.toEx0 fun hd => ?_
      have : b ≠ a := fun z => hm (s.inj m n a k c (by rw [← z]; exact h2) hr h1 hn hd hl)
      rw [upd_ne this]
  · obtain ⟨k', q1, q2⟩ := key m k h1 h3
    exact s.zn m k' b q1 h2 q2
  · rw [upd_ne (az b hb)]; exact s.res b hb
/-- a cell is frozen: from now on it is a value -/
theorem Sim.kill (s : Sim K mg r S H) {n : Nat} : Sim K mg r (S.set n .dead) H ∧ Ext r S H r (S.set n .dead) H := by
  have key : ∀ m k, (S.set n .dead)[m]? = some k → isDead k = false → S[m]? = some k := fun m k h2 h3 => by
    by_cases hm : m = n
    · subst hm
      by_cases hlt : m < S.length
      · rw [List.getElem?_set_self hlt] at h2
        cases h2; cases h3
      · rw [List.getElem?_eq_none (by rw [List.length_set]; omega)] at h2
        cases h2
    · rw [List.getElem?_set_ne (Ne.symm hm)] at h2
      exact h2
  have lv : ∀ b, Live r (S.set n .dead) b → Live r S b := fun b h => by
    rcases h with ⟨m, k, h1, h2, h3⟩ | h
    · exact .inl ⟨m, k, h1, key m k h2 h3, h3⟩
    · exact .inr h
  have e : Ext r S H r (S.set n .dead) H := ⟨⟨fun _ _ h => h, fun b u h _ nb => ⟨h, fun z => nb (lv b z)⟩⟩, rfl, fun _ _ => rfl⟩
  refine ⟨⟨by rw [List.length_set]; exact s.len, fun i j b ci cj h1 h2 h3 h4 h5 h6 => s.inj i j b ci cj h1 h2 (key i ci h3 h5) (key j cj h4 h6) h5 h6, fun m k b h1 h2 => ?_, fun m k b h1 h2 h3 => s.zn m k b (key m k h1 h3) h2 h3, s.res, s.tab⟩, e⟩
  cases hk : isDead k with
  | true => cases k with
    | dead => trivial
    | _ => cases hk
  | false => exact (s.cell m k b (key m k h1 hk) h2).ext e.toEx0 fun _ => rfl
/-- a new cell -/
theorem Sim.newc (s : Sim K mg r S H) {p : Addr} {o : HO} {c : Cell} (hp : H p = none) (hl : isDead c = false) (ok : ∀ r' S' H', r' = Rg.mk (r.as ++ [p]) r.z → S' = S ++ [c] → H' = upd H p o → Ext r S H r' S' H' → CellOk (cx K mg r' S' H') p c) :
    Sim K mg ⟨r.as ++ [p], r.z⟩ (S ++ [c]) (upd H p o) ∧ Ext r S H ⟨r.as ++ [p], r.z⟩ (S ++ [c]) (upd H p o) := by
  have at_ : ∀ m b k, (r.as ++ [p])[m]? = some b → (S ++ [c])[m]? = some k → (m < r.as.length ∧ r.as[m]? = some b ∧ S[m]? = some k) ∨ (m = r.as.length ∧ b = p ∧ k = c) := fun m b k h1 h2 => by
    by_cases hm : m < r.as.length
    · left
      rw [List.getElem?_append_left hm] at h1
      rw [List.getElem?_append_left (by rw [← s.len]; exact hm)] at h2
      exact ⟨hm, h1, h2⟩
    · right
      have hlt : m < (r.as ++ [p]).length := (List.getElem?_eq_some_iff.mp h1).1
      have hm2 : m = r.as.length := by simp at hlt; omega
      subst hm2
      refine ⟨rfl, ?_, ?_⟩
      · simpa using h1.symm
      · rw [s.len] at h2
        simpa using h2.symm
  have lv : ∀ b, Live ⟨r.as ++ [p], r.z⟩ (S ++ [c]) b → Live r S b ∨ b = p := fun b h => by
    rcases h with ⟨m, k, h1, h2, h3⟩ | h
    · rcases at_ m b k h1 h2 with ⟨_, q1, q2⟩ | ⟨_, q, _⟩
      · exact .inl (.inl ⟨m, k, q1, q2, h3⟩)
      · exact .inr q
    · exact .inl (.inr h)
  have pz : ∀ b, b ∈ r.z → b ≠ p := fun b hb z => by
    obtain ⟨u, q, _⟩ := s.res b hb
    rw [z, hp] at q; cases q
  have e : Ext r S H ⟨r.as ++ [p], r.z⟩ (S ++ [c]) (upd H p o) := ⟨⟨fun n a h => by
      show (r.as ++ [p])[n]? = some a
      rw [List.getElem?_append_left (List.getElem?_eq_some_iff.mp h).1]; exact h, fun b u h _ nb => ⟨by rw [upd_ne (ne_of_none h hp)]; exact h, fun z => by
    rcases lv b z with q | q
    · exact nb q
    · rw [q, hp] at h; cases h⟩⟩, rfl, fun b hb => upd_ne (pz b hb)⟩
  refine ⟨⟨by simp [s.len], fun i j b ci cj h1 h2 h3 h4 h5 h6 => ?_, fun m k b h1 h2 => ?_, fun m k b h1 h2 h3 => ?_, fun b hb => ?_, tabs_new s.tab hp⟩, e⟩
  · rcases at_ i b ci h1 h3 with ⟨_, q1, q2⟩ | ⟨q1, q2, q3⟩
    · rcases at_ j b cj h2 h4 with ⟨_, q3, q4⟩ | ⟨q3, q4, q5⟩
      · exact s.inj i j b ci cj q1 q3 q2 q4 h5 h6
      · subst q4
        exact absurd (.inl ⟨i, ci, q1, q2, h5⟩) (s.fresh hp)
    · rcases at_ j b cj h2 h4 with ⟨_, q4, q5⟩ | ⟨q4, q5, q6⟩
      · subst q2
        exact absurd (.inl ⟨j, cj, q4, q5, h6⟩) (s.fresh hp)
      · omega
  · rcases at_ m b k h2 h1 with ⟨_, q1, q2⟩ | ⟨q1, q2, q3⟩
    · refine (s.cell m k b q2 q1).ext e.toEx0 fun hd => ?_
      obtain ⟨u, q, _⟩ := (s.cell m k b q2 q1).some hd
      rw [upd_ne (ne_of_none q hp)]
    · subst q2 q3
      exact ok _ _ _ rfl rfl rfl e
  · rcases at_ m b k h2 h1 with ⟨_, q1, q2⟩ | ⟨q1, q2, q3⟩
    · exact s.zn m k b q2 q1 h3
    · intro hz
      exact pz b hz q2
  · rw [e.zs b hb]; exact s.res b hb
/-- what is being made: reserved, changed, let go -/
theorem Sim.reserve (s : Sim K mg r S H) {p : Addr} {o : HO} (hp : H p = none) (ho : NoTab o := by constructor <;> (intro _ z; cases z)) : Sim K mg ⟨r.as, p :: r.z⟩ S (upd H p o) ∧ Ex0 r S H ⟨r.as, p :: r.z⟩ S (upd H p o) := by
  have lv : ∀ b, Live ⟨r.as, p :: r.z⟩ S b → Live r S b ∨ b = p := fun b h => by
    rcases h with h | h
    · exact .inl (.inl h)
    · rcases List.mem_cons.mp h with h | h
      · exact .inr h
      · exact .inl (.inr h)
  have e : Ex0 r S H ⟨r.as, p :: r.z⟩ S (upd H p o) := ⟨fun _ _ h => h, fun b u h _ nb => ⟨by rw [upd_ne (ne_of_none h hp)]; exact h, fun z => by
    rcases lv b z with q | q
    · exact nb q
    · rw [q, hp] at h; cases h⟩⟩
  refine ⟨⟨s.len, s.inj, fun m k b h1 h2 => ?_, fun m k b h1 h2 h3 hz => ?_, fun b hb => ?_, tabs_new s.tab hp⟩, e⟩
  · refine (s.cell m k b h1 h2).ext e fun hd => ?_
    obtain ⟨u, q, _⟩ := (s.cell m k b h1 h2).some hd
    rw [upd_ne (ne_of_none q hp)]
  · rcases List.mem_cons.mp hz with hz | hz
    · obtain ⟨u, q, _⟩ := (s.cell m k b h1 h2).some h3
      have q : H b = some u := q
      rw [hz, hp] at q; cases q
    · exact s.zn m k b h1 h2 h3 hz
  · by_cases hbp : b = p
    · rw [hbp, upd_same]; exact ⟨_, rfl, ho⟩
    · rw [upd_ne hbp]
      rcases List.mem_cons.mp hb with h | h
      · exact absurd h hbp
      · exact s.res b h
theorem Sim.remake (s : Sim K mg r S H) {p : Addr} {o : HO} (hp : p ∈ r.z) (ho : NoTab o := by constructor <;> (intro _ z; cases z)) : Sim K mg r S (upd H p o) ∧ Ex0 r S H r S (upd H p o) := by
  have e : Ex0 r S H r S (upd H p o) := ⟨fun _ _ h => h, fun b u h _ nb => ⟨by
    have : b ≠ p := fun z => nb (.inr (by rw [z]; exact hp))
    rw [upd_ne this]; exact h, nb⟩⟩
  refine ⟨⟨s.len, s.inj, fun m k b h1 h2 => ?_, s.zn, fun b hb => ?_, tabs_upd s.tab fun u z => ?_⟩, e⟩
  rotate_right
  · obtain ⟨u', q1, q2⟩ := s.res p hp
    rw [q1] at z
    cases z
    exact q2
  · refine (s.cell m k b h1 h2).ext e fun hd => ?_
    have : b ≠ p := fun z => s.zn m k b h1 h2 hd (by rw [z]; exact hp)
    rw [upd_ne this]
  · by_cases hbp : b = p
    · rw [hbp, upd_same]; exact ⟨_, rfl, ho⟩
    · rw [upd_ne hbp]; exact s.res b hb
theorem Sim.release {as z : List Addr} {p : Addr} (s : Sim K mg ⟨as, p :: z⟩ S H) : Sim K mg ⟨as, z⟩ S H ∧ Ex0 ⟨as, p :: z⟩ S H ⟨as, z⟩ S H := by
  have lv : ∀ b, Live ⟨as, z⟩ S b → Live ⟨as, p :: z⟩ S b := fun b h => by
    rcases h with h | h
    · exact .inl h
    · exact .inr (List.mem_cons_of_mem _ h)
  have e : Ex0 ⟨as, p :: z⟩ S H ⟨as, z⟩ S H := ⟨fun _ _ h => h, fun b u h _ nb => ⟨h, fun q => nb (lv b q)⟩⟩
  exact ⟨⟨s.len, s.inj, fun m k b h1 h2 => (s.cell m k b h1 h2).ext e fun _ => rfl, fun m k b h1 h2 h3 hz => s.zn m k b h1 h2 h3 (List.mem_cons_of_mem _ hz), fun b hb => s.res b (List.mem_cons_of_mem _ hb), s.tab⟩, e⟩
end
end Kx

set_option Elab.async false
set_option linter.all false
set_option maxRecDepth 100000
set_option autoImplicit false
namespace Kx
open PySem PySem.Spec L2

/-! ### readings -/
def EnvR (c : Ctx) (G : En) (s : L2.St) : Prop := G.length = s.length ∧ ∀ (i : Nat) (d : D), G[i]? = some (some d) → ∃ v, s[i]? = some (some v) ∧ DV c d v
theorem EnvR.ext {K : PySem.W.Frag} {mg : Str → Option Value} {r r' : Rg} {S S' : Store} {H H' : Hp} {G : En} {s : L2.St} (e : Ext r S H r' S' H') (h : EnvR (cx K mg r S H) G s) : EnvR (cx K mg r' S' H') G s :=
  ⟨h.1, fun i d q => let ⟨v, h1, h2⟩ := h.2 i d q; ⟨v, h1, h2.ext e⟩⟩
theorem EnvR.set {c : Ctx} {G : En} {s : L2.St} {d : D} {v : V} (h : EnvR c G s) (i : Nat) (hv : DV c d v) : EnvR c (G.set i (some d)) (s.set i (some v)) := by
  refine ⟨by simp [h.1], fun j e q => ?_⟩
  by_cases hj : j = i
  · subst hj
    have hlt : j < (G.set j (some d)).length := (List.getElem?_eq_some_iff.mp q).1
    have hlt' : j < G.length := by simpa using hlt
    rw [List.getElem?_set_self hlt'] at q
    cases q
    exact ⟨v, List.getElem?_set_self (by rw [← h.1]; exact hlt'), hv⟩
  · rw [List.getElem?_set_ne (Ne.symm hj)] at q
    obtain ⟨u, h1, h2⟩ := h.2 j e q
    exact ⟨u, by rw [List.getElem?_set_ne (Ne.symm hj)]; exact h1, h2⟩
theorem EnvR.none {c : Ctx} {G : En} {s : L2.St} (h : EnvR c G s) (i : Nat) : EnvR c (G.set i Option.none) (s.set i Option.none) := by
  refine ⟨by simp [h.1], fun j e q => ?_⟩
  by_cases hj : j = i
  · subst hj
    have hlt : j < (G.set j Option.none).length := (List.getElem?_eq_some_iff.mp q).1
    rw [List.getElem?_set_self (by simpa using hlt)] at q
    cases q
  · rw [List.getElem?_set_ne (Ne.symm hj)] at q
    obtain ⟨u, h1, h2⟩ := h.2 j e q
    exact ⟨u, by rw [List.getElem?_set_ne (Ne.symm hj)]; exact h1, h2⟩

/-- the dict of an exception that is in the air -/
def XdR (r : Rg) (S : Store) (H : Hp) : Option Addr → List (Str × V) → Prop
  | none, fs => fs = []
  | some dx, fs => H dx = some (.xd fs) ∧ ¬ Live r S dx

section
variable (K : PySem.W.Frag) (mg : Str → Option Value)
/-- an exception leaves -/
def Exw (r : Rg) (S : Store) (H : Hp) (x : Str) (ns : List Str) (ds : List D) (S' : Store) (Q : Value → Option Addr → Rg → Hp → Prop) : Prop :=
  ∀ r' H' C d fs, Ext r S H r' S' H' → Sim K mg r' S' H' → mg x = some (.ref C) → XdR r' S' H' d fs → ns = fs.map (·.1) → DVs (cx K mg r' S' H') ds (fs.map (·.2)) → Q (.ref C) d r' H'
def GoodE (r : Rg) (S : Store) (H : Hp) (W : Value → Option Addr → Hp → Prop) (Q : VK) : Res D → Prop
  | .ok d S' => ∀ r' H' v, Ext r S H r' S' H' → Sim K mg r' S' H' → DV (cx K mg r' S' H') d v → Q v H'
  | .exc x ns ds S' => Exw K mg r S H x ns ds S' fun C d _ H' => W C d H'
  | .err => False
def GoodT (r : Rg) (S : Store) (H : Hp) (W : Value → Option Addr → Hp → Prop) (Q : Bool → Hp → Prop) : Res Bool → Prop
  | .ok b S' => ∀ r' H', Ext r S H r' S' H' → Sim K mg r' S' H' → Q b H'
  | .exc x ns ds S' => Exw K mg r S H x ns ds S' fun C d _ H' => W C d H'
  | .err => False
def GoodA (r : Rg) (S : Store) (H : Hp) (W : Value → Option Addr → Hp → Prop) (Q : List V → Hp → Prop) : Res (List D) → Prop
  | .ok ds S' => ∀ r' H' vs, Ext r S H r' S' H' → Sim K mg r' S' H' → DVs (cx K mg r' S' H') ds vs → Q vs H'
  | .exc x ns ds S' => Exw K mg r S H x ns ds S' fun C d _ H' => W C d H'
  | .err => False
def GoodS (r : Rg) (S : Store) (H : Hp) (W : WX) (D : Ends) : SRes → Prop
  | .nx G S' => ∀ r' H' s, Ext r S H r' S' H' → Sim K mg r' S' H' → EnvR (cx K mg r' S' H') G s → D.nx s H'
  | .bk G S' => ∀ r' H' s, Ext r S H r' S' H' → Sim K mg r' S' H' → EnvR (cx K mg r' S' H') G s → D.bk s H'
  | .ct G S' => ∀ r' H' s, Ext r S H r' S' H' → Sim K mg r' S' H' → EnvR (cx K mg r' S' H') G s → D.ct s H'
  | .rt d S' => ∀ r' H' v, Ext r S H r' S' H' → Sim K mg r' S' H' → DV (cx K mg r' S' H') d v → D.rt v H'
  | .exc x ns ds G S' => Exw K mg r S H x ns ds S' fun C d r' H' => ∀ s, EnvR (cx K mg r' S' H') G s → W C d s H'
  | .err => False
def rdE (W : WX) (m : ME) : TE := fun s H Q => ∃ r G S, Sim K mg r S H ∧ EnvR (cx K mg r S H) G s ∧ GoodE K mg r S H (fun C d H' => W C d s H') Q (m G S)
def rdT (W : WX) (m : MT) : TT := fun s H Q => ∃ r G S, Sim K mg r S H ∧ EnvR (cx K mg r S H) G s ∧ GoodT K mg r S H (fun C d H' => W C d s H') Q (m G S)
def rdA (W : WX) (m : MA) : TA := fun s H Q => ∃ r G S, Sim K mg r S H ∧ EnvR (cx K mg r S H) G s ∧ GoodA K mg r S H (fun C d H' => W C d s H') Q (m G S)
def rdS (W : WX) (m : MS) : TS := fun D s H => ∃ r G S, Sim K mg r S H ∧ EnvR (cx K mg r S H) G s ∧ GoodS K mg r S H W D (m G S)
/-- what a def promises -/
def spF (f : FN) : Sp := fun vs H Q E => ∃ r S ds, Sim K mg r S H ∧ DVs (cx K mg r S H) ds vs ∧ GoodE K mg r S H E Q (f ds S)
end

section
variable {K : PySem.W.Frag} {mg : Str → Option Value} {r r1 : Rg} {S S1 : Store} {H H1 : Hp}
theorem Exw.mono {x : Str} {ns : List Str} {ds : List D} {S' : Store} {Q Q' : Value → Option Addr → Rg → Hp → Prop} (e : Ext r S H r1 S1 H1) (h : Exw K mg r S H x ns ds S' Q) (hq : ∀ C d r' H', Q C d r' H' → Q' C d r' H') : Exw K mg r1 S1 H1 x ns ds S' Q' :=
  fun r' H' C d fs e' s hm hx hn hd => hq _ _ _ _ (h r' H' C d fs (e.trans e') s hm hx hn hd)
theorem GoodE.mono {W W' : Value → Option Addr → Hp → Prop} {Q Q' : VK} {z : Res D} (e : Ext r S H r1 S1 H1) (hw : ∀ C d H', W C d H' → W' C d H') (hq : ∀ v H', Q v H' → Q' v H') (h : GoodE K mg r S H W Q z) : GoodE K mg r1 S1 H1 W' Q' z := by
  cases z with
  | ok d S' => exact fun r' H' v e' s hd => hq _ _ (h r' H' v (e.trans e') s hd)
  | exc x ns ds S' => exact Exw.mono e (Q := fun C d _ H' => W C d H') h fun C d _ H' w => hw C d H' w
  | err => exact h
end
end Kx

set_option Elab.async false
set_option linter.all false
set_option maxRecDepth 100000
set_option autoImplicit false
namespace Kx
open PySem PySem.Spec L2

/-- a def keeps its promise where nothing is being shown (guards) -/
structure FnG (P : Program) (w : World) (K : PySem.W.Frag) (mg : Str → Option Value) (base : Heap) (k : Nat) (f : Addr) (fd : FuncData) (ps : List Str) (sp : Sp) : Prop where
  len : ∀ vs H Q E, sp vs H Q E → vs.length = ps.length
  run : ∀ (A : Around) (outer : List Env) (s : Shared) (H : Hp) (args : Args) (us : List Value) (vs : List V) (Q : VK) (E : XK), A.guards = some [] → Room k A → Env0 P w K mg base A outer s H → BindsTo s fd args (ps.zip us) → Vals vs us → sp vs H Q E →
    codeAny (model P w) A (.call (.ref f) args) (CR (CX P w) outer P w H s Q E) s
theorem FnG.mono {P : Program} {w : World} {K : PySem.W.Frag} {mg : Str → Option Value} {base : Heap} {j k : Nat} {f : Addr} {fd : FuncData} {ps : List Str} {sp : Sp} (F : FnG P w K mg base j f fd ps sp) (h : j ≤ k) : FnG P w K mg base k f fd ps sp :=
  ⟨F.len, fun A outer s H args us vs Q E hG hr => F.run A outer s H args us vs Q E hG (hr.mono h)⟩
/-- the end of a call that was run -/
theorem call_end {X : Cx} {pins : List (Addr × Obj)} {st : L2.St} {H : Hp} {s s' : Shared} {Q : VK} {E : XK} {z : Result} (I : Inv X pins st H s) (hx : PassesAt (CX X.prog X.w) X st E) (h : CR (CX X.prog X.w) X.stack X.prog X.w H s Q E z s') :
    (∃ u, z = .ok (.ret u) ∧ EP X pins st Q u s') ∨ ∃ e, z = .error e ∧ X.xe e s' := by
  rcases z with e | fl
  · exact Or.inr ⟨e, rfl, hx pins H s e s' I h⟩
  · rcases fl with _ | _ | _ | u
    · exact (show False from h).elim
    · exact (show False from h).elim
    · exact (show False from h).elim
    · exact Or.inl ⟨u, rfl, I.after h⟩
theorem FnG.calls {X : Cx} {k : Nat} {f : Addr} {fd : FuncData} {ps : List Str} {sp : Sp} {ds us : List Value} {dvs vs : List V} {E : XK} {pins : List (Addr × Obj)} {st : L2.St} {H : Hp} {s : Shared} {Q : VK} (F : FnG X.prog X.w X.K X.mg X.base k f fd ps sp) (hG : X.A.guards = some []) (hr : Room k X.A)
    (hb : Binds X.K fd ps ds) (hd : Vals dvs ds) (hx : PassesAt (CX X.prog X.w) X st E) (I : Inv X pins st H s) (rv : Vals vs us) (h : sp (vs ++ dvs) H Q E) : wpAny (model X.prog X.w) X.A (call (.ref f) us) (EP X pins st Q) X.xe s := by
  have rr : Vals (vs ++ dvs) (us ++ ds) := rv.append hd
  have hlen : (us ++ ds).length = ps.length := (rr.length).symm.trans (F.len _ _ _ _ h)
  have go := F.run X.A X.stack s H ⟨us, []⟩ (us ++ ds) (vs ++ dvs) Q E hG hr I.env0 (hb s us I.kIn hlen) rr h
  refine wpAny_call (codeAny_mono go ?_)
  intro z s' hz
  rcases call_end I hx hz with ⟨u, e, h⟩ | ⟨er, e, h⟩
  · subst e; exact h
  · subst e; exact h

/-! ### the combinators -/
abbrev OP1 := D → Store → Option D
abbrev OP2 := D → D → Store → Option D
abbrev OPN := List D → Store → Option D
def opt {α : Type} (o : Option α) (S : Store) : Res α := match o with
  | some z => .ok z S
  | none => .err
def eVar (i : Nat) : ME := fun G S => match G[i]? with
  | some (some d) => .ok d S
  | _ => .err
def eC (d : D) : ME := fun _ S => .ok d S
def e1 (f : OP1) (a : ME) : ME := fun G S => (a G S).bind fun d S1 => opt (f d S1) S1
def e2 (f : OP2) (a b : ME) : ME := fun G S => (a G S).bind fun d S1 => (b G S1).bind fun e S2 => opt (f d e S2) S2
def eN (f : OPN) (a : MA) : ME := fun G S => (a G S).bind fun ds S1 => opt (f ds S1) S1
def eF (f : FN) (a : MA) : ME := fun G S => (a G S).bind f
def aNil : MA := fun _ S => .ok [] S
def aCons (a : ME) (b : MA) : MA := fun G S => (a G S).bind fun d S1 => (b G S1).bind fun ds S2 => .ok (d :: ds) S2
def small (ds : List D) : Bool := decide (ds.length ≤ sizeLine)
def eTup (a : MA) : ME := fun G S => (a G S).bind fun ds S1 => if small ds then .ok (.tup ds) S1 else .err
def eLst (a : MA) : ME := fun G S => (a G S).bind fun ds S1 => if small ds then .ok (.lst ds) S1 else .err
def eLstC (a : MA) : ME := fun G S => (a G S).bind fun ds S1 => if small ds then .ok (.loc S1.length) (S1 ++ [.lst ds]) else .err
def tOfE (a : ME) : MT := fun G S => (a G S).bind fun d S1 => match d with
  | .bl b => .ok b S1
  | _ => .err
def tAndM (a b : MT) : MT := fun G S => (a G S).bind fun k S1 => if k = true then b G S1 else .ok false S1
def tOrM (a b : MT) : MT := fun G S => (a G S).bind fun k S1 => if k = true then .ok true S1 else b G S1
def tNotM (a : MT) : MT := fun G S => (a G S).bind fun k S1 => .ok (!k) S1
def eAnd (a b : ME) : ME := fun G S => (a G S).bind fun d S1 => match d with
  | .bl true => b G S1
  | .bl false => .ok (.bl false) S1
  | _ => .err
def eOr (a b : ME) : ME := fun G S => (a G S).bind fun d S1 => match d with
  | .bl false => b G S1
  | .bl true => .ok (.bl true) S1
  | _ => .err
def eNot (a : ME) : ME := fun G S => (a G S).bind fun d S1 => match d with
  | .bl b => .ok (.bl (!b)) S1
  | _ => .err
def eIf (t : MT) (a b : ME) : ME := fun G S => (t G S).bind fun k S1 => if k = true then a G S1 else b G S1
def eChain (f g : OP2) (a b c : ME) : ME := fun G S => (a G S).bind fun x S1 => (b G S1).bind fun y S2 => match f x y S2 with
  | some (.bl true) => (c G S2).bind fun z S3 => opt (g y z S3) S3
  | some (.bl false) => .ok (.bl false) S2
  | _ => .err

/-! ### weakening -/
theorem PEw {X : Cx} {e : Expr} {t t' : TE} (h : PE X e t) (w : ∀ s H Q, t' s H Q → t s H Q) : PE X e t' := ⟨fun pins s σ H Q I hw => h.run pins s σ H Q I (w σ H Q hw)⟩
theorem PTw {X : Cx} {e : Expr} {t t' : TT} (h : PT X e t) (w : ∀ s H Q, t' s H Q → t s H Q) : PT X e t' := ⟨fun pins s σ H Q I hw => h.run pins s σ H Q I (w σ H Q hw)⟩
theorem PWw {X : Cx} {e : Expr} {t t' : TT} (h : PW X e t) (w : ∀ s H Q, t' s H Q → t s H Q) : PW X e t' := ⟨fun wh pins s σ H Q I hw => h.run wh pins s σ H Q I (w σ H Q hw)⟩
theorem PAw {X : Cx} {e : List Expr} {t t' : TA} (h : PA X e t) (w : ∀ s H Q, t' s H Q → t s H Q) : PA X e t' := ⟨fun pos pins s σ H Q I hw => h.run pos pins s σ H Q I (w σ H Q hw)⟩
theorem PSw {X : Cx} {e : Stmt} {t t' : TS} (h : PS X e t) (w : ∀ D s H, t' D s H → t D s H) : PS X e t' := ⟨fun pins s σ H D I hw => h.run pins s σ H D I (w D σ H hw)⟩
theorem PSsw {X : Cx} {e : List Stmt} {t t' : TS} (h : PSs X e t) (w : ∀ D s H, t' D s H → t D s H) : PSs X e t' := ⟨fun pins s σ H D I hw => h.run pins s σ H D I (w D σ H hw)⟩

abbrev JE (X : Cx) (W : WX) (e : Expr) (m : ME) : Prop := PE X e (rdE X.K X.mg W m)
abbrev JT (X : Cx) (W : WX) (e : Expr) (m : MT) : Prop := PT X e (rdT X.K X.mg W m)
abbrev JW (X : Cx) (W : WX) (e : Expr) (m : MT) : Prop := PW X e (rdT X.K X.mg W m)
abbrev JA (X : Cx) (W : WX) (e : List Expr) (m : MA) : Prop := PA X e (rdA X.K X.mg W m)
abbrev JS (X : Cx) (W : WX) (e : Stmt) (m : MS) : Prop := PS X e (rdS X.K X.mg W m)
abbrev JB (X : Cx) (W : WX) (e : List Stmt) (m : MS) : Prop := PSs X e (rdS X.K X.mg W m)

section
variable {K : PySem.W.Frag} {mg : Str → Option Value} {r : Rg} {S : Store} {H : Hp} {W : Value → Option Addr → Hp → Prop} {Q : VK}
/-- two in a row -/
theorem gE {z : Res D} {k : D → Store → Res D} (g : GoodE K mg r S H W Q (z.bind k)) :
    GoodE K mg r S H W (fun x H1 => ∃ r1 S1 d, Ext r S H r1 S1 H1 ∧ Sim K mg r1 S1 H1 ∧ DV (cx K mg r1 S1 H1) d x ∧ GoodE K mg r1 S1 H1 W Q (k d S1)) z := by
  cases z with
  | ok d S1 => exact fun r' H' v e s hd => ⟨r', S1, d, e, s, hd, GoodE.mono e (fun _ _ _ h => h) (fun _ _ h => h) g⟩
  | exc x ns ds S' => exact g
  | err => exact g
theorem gEA {z : Res D} {k : D → Store → Res (List D)} {Q : List V → Hp → Prop} (g : GoodA K mg r S H W Q (z.bind k)) :
    GoodE K mg r S H W (fun x H1 => ∃ r1 S1 d, Ext r S H r1 S1 H1 ∧ Sim K mg r1 S1 H1 ∧ DV (cx K mg r1 S1 H1) d x ∧ GoodA K mg r1 S1 H1 W Q (k d S1)) z := by
  cases z with
  | ok d S1 =>
    refine fun r' H' v e s hd => ⟨r', S1, d, e, s, hd, ?_⟩
    have g : GoodA K mg r S H W Q (k d S1) := g
    cases hk : k d S1 with
    | ok ds S2 => rw [hk] at g; exact fun r2 H2 vs e2 s2 h2 => g r2 H2 vs (e.trans e2) s2 h2
    | exc x ns ds S2 => rw [hk] at g; exact Exw.mono (Q := fun C d _ H' => W C d H') e g fun _ _ _ _ h => h
    | err => rw [hk] at g; exact g
  | exc x ns ds S' => exact g
  | err => exact g
theorem gAE {z : Res (List D)} {k : List D → Store → Res D} (g : GoodE K mg r S H W Q (z.bind k)) :
    GoodA K mg r S H W (fun xs H1 => ∃ r1 S1 ds, Ext r S H r1 S1 H1 ∧ Sim K mg r1 S1 H1 ∧ DVs (cx K mg r1 S1 H1) ds xs ∧ GoodE K mg r1 S1 H1 W Q (k ds S1)) z := by
  cases z with
  | ok ds S1 => exact fun r' H' v e s hd => ⟨r', S1, ds, e, s, hd, GoodE.mono e (fun _ _ _ h => h) (fun _ _ h => h) g⟩
  | exc x ns ds S' => exact g
  | err => exact g
theorem gAA {z : Res (List D)} {k : List D → Store → Res (List D)} {Q : List V → Hp → Prop} (g : GoodA K mg r S H W Q (z.bind k)) :
    GoodA K mg r S H W (fun xs H1 => ∃ r1 S1 ds, Ext r S H r1 S1 H1 ∧ Sim K mg r1 S1 H1 ∧ DVs (cx K mg r1 S1 H1) ds xs ∧ GoodA K mg r1 S1 H1 W Q (k ds S1)) z := by
  cases z with
  | ok d S1 =>
    refine fun r' H' v e s hd => ⟨r', S1, d, e, s, hd, ?_⟩
    have g : GoodA K mg r S H W Q (k d S1) := g
    cases hk : k d S1 with
    | ok ds S2 => rw [hk] at g; exact fun r2 H2 vs e2 s2 h2 => g r2 H2 vs (e.trans e2) s2 h2
    | exc x ns ds S2 => rw [hk] at g; exact Exw.mono (Q := fun C d _ H' => W C d H') e g fun _ _ _ _ h => h
    | err => rw [hk] at g; exact g
  | exc x ns ds S' => exact g
  | err => exact g
theorem gET {z : Res D} {k : D → Store → Res Bool} {Q : Bool → Hp → Prop} (g : GoodT K mg r S H W Q (z.bind k)) :
    GoodE K mg r S H W (fun x H1 => ∃ r1 S1 d, Ext r S H r1 S1 H1 ∧ Sim K mg r1 S1 H1 ∧ DV (cx K mg r1 S1 H1) d x ∧ GoodT K mg r1 S1 H1 W Q (k d S1)) z := by
  cases z with
  | ok d S1 =>
    refine fun r' H' v e s hd => ⟨r', S1, d, e, s, hd, ?_⟩
    have g : GoodT K mg r S H W Q (k d S1) := g
    cases hk : k d S1 with
    | ok b S2 => rw [hk] at g; exact fun r2 H2 e2 s2 => g r2 H2 (e.trans e2) s2
    | exc x ns ds S2 => rw [hk] at g; exact Exw.mono (Q := fun C d _ H' => W C d H') e g fun _ _ _ _ h => h
    | err => rw [hk] at g; exact g
  | exc x ns ds S' => exact g
  | err => exact g
theorem gTT {z : Res Bool} {k : Bool → Store → Res Bool} {Q : Bool → Hp → Prop} (g : GoodT K mg r S H W Q (z.bind k)) :
    GoodT K mg r S H W (fun b H1 => ∃ r1 S1, Ext r S H r1 S1 H1 ∧ Sim K mg r1 S1 H1 ∧ GoodT K mg r1 S1 H1 W Q (k b S1)) z := by
  cases z with
  | ok d S1 =>
    refine fun r' H' e s => ⟨r', S1, e, s, ?_⟩
    have g : GoodT K mg r S H W Q (k d S1) := g
    cases hk : k d S1 with
    | ok b S2 => rw [hk] at g; exact fun r2 H2 e2 s2 => g r2 H2 (e.trans e2) s2
    | exc x ns ds S2 => rw [hk] at g; exact Exw.mono (Q := fun C d _ H' => W C d H') e g fun _ _ _ _ h => h
    | err => rw [hk] at g; exact g
  | exc x ns ds S' => exact g
  | err => exact g
theorem gTE {z : Res Bool} {k : Bool → Store → Res D} (g : GoodE K mg r S H W Q (z.bind k)) :
    GoodT K mg r S H W (fun b H1 => ∃ r1 S1, Ext r S H r1 S1 H1 ∧ Sim K mg r1 S1 H1 ∧ GoodE K mg r1 S1 H1 W Q (k b S1)) z := by
  cases z with
  | ok d S1 => exact fun r' H' e s => ⟨r', S1, e, s, GoodE.mono e (fun _ _ _ h => h) (fun _ _ h => h) g⟩
  | exc x ns ds S' => exact g
  | err => exact g
theorem GoodE.imp {z : Res D} {Q' : VK} (g : GoodE K mg r S H W Q z) (h : ∀ v H', Q v H' → Q' v H') : GoodE K mg r S H W Q' z := GoodE.mono Ext.refl (fun _ _ _ h => h) h g
theorem GoodA.imp {z : Res (List D)} {Q Q' : List V → Hp → Prop} (g : GoodA K mg r S H W Q z) (h : ∀ v H', Q v H' → Q' v H') : GoodA K mg r S H W Q' z := by
  cases z with
  | ok ds S1 => exact fun r' H' v e s hd => h _ _ (g r' H' v e s hd)
  | exc x ns ds S' => exact g
  | err => exact g
theorem GoodT.imp {z : Res Bool} {Q Q' : Bool → Hp → Prop} (g : GoodT K mg r S H W Q z) (h : ∀ v H', Q v H' → Q' v H') : GoodT K mg r S H W Q' z := by
  cases z with
  | ok ds S1 => exact fun r' H' e s => h _ _ (g r' H' e s)
  | exc x ns ds S' => exact g
  | err => exact g
/-- the end of a chain of readings -/
theorem GoodE.here {d : D} {v : V} (g : GoodE K mg r S H W Q (.ok d S)) (s : Sim K mg r S H) (h : DV (cx K mg r S H) d v) : Q v H := g r H v Ext.refl s h
end

section
variable {X : Cx} {W : WX} {a b c : Expr} {es : List Expr} {ma mb mc : ME} {mA : MA} {ta tb : MT} {pos : Pos}
/-! ### expressions -/
theorem je_var {i : Nat} {x : Str} (hN : X.N[i]? = some x) (hv : Vis X.env.scope x) (hd : (x == ("__debug__" : Str)) = false := by decide) (hcd : (x == ("__classdict__" : Str)) = false := by decide) : JE X W (.Name x pos) (eVar i) :=
  PEw (pe_var hN hv hd hcd) fun s H Q ⟨r, G, S, sim, env, g⟩ => by
    unfold eVar at g
    split at g
    · rename_i d hd
      obtain ⟨v, h1, h2⟩ := env.2 i d hd
      exact ⟨v, h1, g.here sim h2⟩
    · exact g.elim
/-- a value that needs no heap -/
def CV (K : PySem.W.Frag) (mg : Str → Option Value) (d : D) (v : V) : Prop := ∀ c : Ctx, c.K = K → c.mg = mg → DV c d v
theorem je_c {e : Expr} {d : D} {v : V} (h : PE X e (tC v)) (cv : CV X.K X.mg d v) : JE X W e (eC d) :=
  PEw h fun s H Q ⟨r, G, S, sim, env, g⟩ => g.here sim (cv _ rfl rfl)
theorem je_int {i : Int} {j : Nat} : JE X W (.Constant (.int i) j pos) (eC (.int i)) := je_c pe_int fun _ _ _ => rfl
theorem je_bl {i : Bool} {j : Nat} : JE X W (.Constant (.bool i) j pos) (eC (.bl i)) := je_c pe_bl fun _ _ _ => rfl
theorem je_non {j : Nat} : JE X W (.Constant .none j pos) (eC .non) := je_c pe_non fun _ _ _ => rfl
theorem je_str {x : Str} {j : Nat} : JE X W (.Constant (.str x) j pos) (eC (.str x)) := je_c pe_str fun _ _ _ => rfl

section
variable (K : PySem.W.Frag) (mg : Str → Option Value)
/-- what is wanted of the value z, the store as it was -/
def Wants (r : Rg) (S : Store) (H : Hp) (z : D) (Q : VK) : Prop := ∀ r' H' v, Ext r S H r' S H' → Sim K mg r' S H' → DV (cx K mg r' S H') z v → Q v H'
def rd1 (f : OP1) : V → Hp → VK → Prop := fun x H Q => ∃ r S d z, Sim K mg r S H ∧ DV (cx K mg r S H) d x ∧ f d S = some z ∧ Wants K mg r S H z Q
def rd2 (f : OP2) : R2 := fun x y H Q => ∃ r S d e z, Sim K mg r S H ∧ DV (cx K mg r S H) d x ∧ DV (cx K mg r S H) e y ∧ f d e S = some z ∧ Wants K mg r S H z Q
def rdN (f : OPN) : List V → Hp → VK → Prop := fun xs H Q => ∃ r S ds z, Sim K mg r S H ∧ DVs (cx K mg r S H) ds xs ∧ f ds S = some z ∧ Wants K mg r S H z Q
end
theorem wants_of {K : PySem.W.Frag} {mg : Str → Option Value} {r : Rg} {S : Store} {H : Hp} {W : Value → Option Addr → Hp → Prop} {Q : VK} {o : Option D} (g : GoodE K mg r S H W Q (opt o S)) : ∃ z, o = some z ∧ Wants K mg r S H z Q := by
  cases o with
  | none => exact g.elim
  | some z => exact ⟨z, rfl, g⟩
theorem je_1 {e : Expr} {f : OP1} (h : ∀ {t : TE}, PE X a t → PE X e (fun s H Q => t s H fun x H1 => rd1 X.K X.mg f x H1 Q)) (ha : JE X W a ma) : JE X W e (e1 f ma) :=
  PEw (h ha) fun s H Q ⟨r, G, S, sim, env, g⟩ => ⟨r, G, S, sim, env, (gE g).imp fun x H1 ⟨r1, S1, d, e1, s1, dx, g1⟩ => let ⟨z, hz, hw⟩ := wants_of g1; ⟨r1, S1, d, z, s1, dx, hz, hw⟩⟩
theorem je_2 {e : Expr} {f : OP2} (h : ∀ {t u : TE}, PE X a t → PE X b u → PE X e (tOp (rd2 X.K X.mg f) t u)) (ha : JE X W a ma) (hb : JE X W b mb) : JE X W e (e2 f ma mb) :=
  PEw (h ha hb) fun s H Q ⟨r, G, S, sim, env, g⟩ => ⟨r, G, S, sim, env, (gE g).imp fun x H1 ⟨r1, S1, d, e1, s1, dx, g1⟩ => ⟨r1, G, S1, s1, env.ext e1, (gE g1).imp fun y H2 ⟨r2, S2, e, e2, s2, dy, g2⟩ =>
    let ⟨z, hz, hw⟩ := wants_of g2; ⟨r2, S2, d, e, z, s2, dx.ext e2, dy, hz, hw⟩⟩⟩
theorem je_op {op : Operator} {f : OP2} (ho : OpR X (binaryOp op) (rd2 X.K X.mg f)) (ha : JE X W a ma) (hb : JE X W b mb) : JE X W (.BinOp a op b pos) (e2 f ma mb) := je_2 (fun h k => pe_op ho h k) ha hb
theorem je_un {op : UnaryOp} {f : OP1} (ho : UnR X (unaryOp op) (rd1 X.K X.mg f)) (ha : JE X W a ma) : JE X W (.UnaryOp op a pos) (e1 f ma) := je_1 (fun h => pe_un ho h) ha
theorem je_cmp {op : CmpOp} {f : OP2} (ho : OpR X (compareOp op) (rd2 X.K X.mg f)) (ha : JE X W a ma) (hb : JE X W b mb) (hm : behindInMarks op b = false := by rfl) : JE X W (.Compare a [op] [b] pos) (e2 f ma mb) := je_2 (fun h k => pe_cmpR ho h k hm) ha hb
theorem je_ix {f : OP2} (ho : IxR X (rd2 X.K X.mg f)) (ha : JE X W a ma) (hb : JE X W b mb) (hs : PlainIx b := by intro _ _; rfl) : JE X W (.Subscript a b pos) (e2 f ma mb) := je_2 (fun h k => pe_ix ho h k hs) ha hb
theorem ja_nil : JA X W [] aNil := PAw pa_nil fun s H Q ⟨r, G, S, sim, env, g⟩ => g r H [] Ext.refl sim rfl
theorem ja_cons (ha : JE X W a ma) (hb : JA X W es mA) (hs : starEach (a :: es) X.env = (false, eval a X.env) :: starEach es X.env := by rfl) : JA X W (a :: es) (aCons ma mA) :=
  PAw (pa_cons ha hb hs) fun s H Q ⟨r, G, S, sim, env, g⟩ => ⟨r, G, S, sim, env, (gEA g).imp fun x H1 ⟨r1, S1, d, e1, s1, dx, g1⟩ => ⟨r1, G, S1, s1, env.ext e1, (gAA g1).imp fun ys H2 ⟨r2, S2, ds, e2, s2, dy, g2⟩ =>
    g2 r2 H2 _ Ext.refl s2 (DVs.cons (dx.ext e2) dy)⟩⟩
theorem je_N {e : Expr} {f : OPN} (h : ∀ {t : TA}, PA X es t → PE X e (tCB (rdN X.K X.mg f) t)) (ha : JA X W es mA) : JE X W e (eN f mA) :=
  PEw (h ha) fun s H Q ⟨r, G, S, sim, env, g⟩ => ⟨r, G, S, sim, env, (gAE g).imp fun xs H1 ⟨r1, S1, ds, e1, s1, dx, g1⟩ => let ⟨z, hz, hw⟩ := wants_of g1; ⟨r1, S1, ds, z, s1, dx, hz, hw⟩⟩
/-- a built-in function, a built-in type called -/
theorem je_callB {x : Str} {id : String} {f : OPN} {p : Pos} (hc : CallR X (.builtin id) (rdN X.K X.mg f)) (hg : Gl X x) (hm : X.mg x = none) (hv : bootBuiltins x = some (.builtin id)) (ha : JA X W (a :: es) mA) (hn : x ≠ "__name__" := by decide) (hdb : (x == ("__debug__" : Str)) = false := by decide)
    (he : starEach (a :: es) X.env = (false, eval a X.env) :: starEach es X.env := by rfl) (hpl : (backTo pos (starEach es X.env)).any (·.1) = false := by rfl) : JE X W (.Call (.Name x p) (a :: es) [] pos) (eN f mA) :=
  je_N (fun h => pe_callB hc hg hm hv h hn hdb he hpl) ha
theorem je_callTy {x : Str} {T : String} {f : OPN} {p : Pos} (hc : CallR X (.type T) (rdN X.K X.mg f)) (hg : Gl X x) (hm : X.mg x = none) (hv : bootBuiltins x = some (.type T)) (ha : JA X W (a :: es) mA) (hn : x ≠ "__name__" := by decide) (hdb : (x == ("__debug__" : Str)) = false := by decide)
    (he : starEach (a :: es) X.env = (false, eval a X.env) :: starEach es X.env := by rfl) (hpl : (backTo pos (starEach es X.env)).any (·.1) = false := by rfl) : JE X W (.Call (.Name x p) (a :: es) [] pos) (eN f mA) :=
  je_N (fun h => pe_callTy hc hg hm hv h hn hdb he hpl) ha
theorem small_ok {ds : List D} (h : small ds = true) : ds.length ≤ sizeLine := of_decide_eq_true h
theorem je_tup {k : Nat} (ha : JA X W es mA) : JE X W (.Tuple es k pos) (eTup mA) :=
  PEw (pe_tup ha) fun s H Q ⟨r, G, S, sim, env, g⟩ => ⟨r, G, S, sim, env, (gAE g).imp fun xs H1 ⟨r1, S1, ds, e1, s1, dx, g1⟩ => by
    cases hz : small ds with
    | false => rw [hz] at g1; exact g1.elim
    | true =>
      rw [hz] at g1
      refine ⟨by rw [← DVs.length dx]; exact small_ok hz, fun p hp => ?_⟩
      obtain ⟨sm, ex⟩ := s1.newv (o := .tup xs) hp
      exact g1 r1 _ _ ex sm ⟨p, xs, rfl, .inl ⟨.inl upd_same, s1.fresh hp⟩, dx.ext ex⟩⟩
theorem je_lst (ha : JA X W es mA) : JE X W (.List es pos) (eLst mA) :=
  PEw (pe_lst ha) fun s H Q ⟨r, G, S, sim, env, g⟩ => ⟨r, G, S, sim, env, (gAE g).imp fun xs H1 ⟨r1, S1, ds, e1, s1, dx, g1⟩ => by
    cases hz : small ds with
    | false => rw [hz] at g1; exact g1.elim
    | true =>
      rw [hz] at g1
      refine ⟨by rw [← DVs.length dx]; exact small_ok hz, fun p hp => ?_⟩
      obtain ⟨sm, ex⟩ := s1.newv (o := .lst xs) hp
      exact g1 r1 _ _ ex sm ⟨p, xs, rfl, ⟨upd_same, s1.fresh hp⟩, dx.ext ex⟩⟩
theorem je_lstC (ha : JA X W es mA) : JE X W (.List es pos) (eLstC mA) :=
  PEw (pe_lst ha) fun s H Q ⟨r, G, S, sim, env, g⟩ => ⟨r, G, S, sim, env, (gAE g).imp fun xs H1 ⟨r1, S1, ds, e1, s1, dx, g1⟩ => by
    cases hz : small ds with
    | false => rw [hz] at g1; exact g1.elim
    | true =>
      rw [hz] at g1
      refine ⟨by rw [← DVs.length dx]; exact small_ok hz, fun p hp => ?_⟩
      obtain ⟨sm, ex⟩ := s1.newc (o := .lst xs) (c := .lst ds) hp rfl fun r' S' H' er eS eH e => ⟨xs, by subst eH; exact upd_same, dx.ext e⟩
      exact g1 _ _ _ ex sm ⟨p, rfl, by show (r1.as ++ [p])[S1.length]? = some p; rw [← s1.len]; simp⟩⟩

/-! ### own functions -/
theorem je_call {f : FN} {fa : Addr} {fd : FuncData} {ps : List Str} {k : Nat} {x : Str} {p : Pos} (F : FnG X.prog X.w X.K X.mg X.base k fa fd ps (spF X.K X.mg f)) (hG : X.A.guards = some []) (hr : Room k X.A) (hg : Gl X x) (hm : X.mg x = some (.ref fa)) (hk : PySem.W.keepIn X.K (.ref fa) = true) (hb : Binds X.K fd ps [])
    (tk : Takes X W) (ha : JA X W (a :: es) mA) (hdb : (x == ("__debug__" : Str)) = false := by decide) (he : starEach (a :: es) X.env = (false, eval a X.env) :: starEach es X.env := by rfl) (hpl : (backTo pos (starEach es X.env)).any (·.1) = false := by rfl) :
    JE X W (.Call (.Name x p) (a :: es) [] pos) (eF f mA) := by
  refine ⟨fun pins s0 st H Q I h => ?_⟩
  obtain ⟨r, G, S, sim, env, g⟩ := h
  have h1 : rdA X.K X.mg W mA st H (fun vs H1 => spF X.K X.mg f vs H1 Q (fun C d H' => W C d st H')) :=
    ⟨r, G, S, sim, env, (gAE g).imp fun xs H1 ⟨r1, S1, ds, e1, s1, dx, g1⟩ => ⟨r1, S1, ds, s1, dx, g1⟩⟩
  refine wpAny_Call_Name_kw (ld_glob I hg hm ?_ hdb)
  refine PySem.W.callWith_K (h₀ := X.base) I.ok.mod.kin hk ?_ he hpl
  refine thn (ha.run pos pins s0 st H _ I h1) ?_
  rintro us s1 ⟨vs, H1, I1, rv, q⟩
  exact ⟨I1.kIn, F.calls hG hr hb .nil (passAt tk st) I1 rv (by rw [List.append_nil]; exact q)⟩
theorem je_call0 {f : FN} {fa : Addr} {fd : FuncData} {ps : List Str} {k : Nat} {x : Str} {p : Pos} (F : FnG X.prog X.w X.K X.mg X.base k fa fd ps (spF X.K X.mg f)) (hG : X.A.guards = some []) (hr : Room k X.A) (hg : Gl X x) (hm : X.mg x = some (.ref fa)) (hk : PySem.W.keepIn X.K (.ref fa) = true) (hb : Binds X.K fd ps [])
    (tk : Takes X W) (hdb : (x == ("__debug__" : Str)) = false := by decide) : JE X W (.Call (.Name x p) [] [] pos) (eF f aNil) := by
  refine ⟨fun pins s0 st H Q I h => ?_⟩
  obtain ⟨r, G, S, sim, env, g⟩ := h
  refine wpAny_Call_Name_kw (ld_glob I hg hm ?_ hdb)
  exact PySem.W.callWith_K0 I.kIn hk (F.calls (us := []) (vs := []) (dvs := []) (ds := []) hG hr hb .nil (passAt tk st) I .nil ⟨r, S, [], sim, rfl, g⟩)

/-! ### tests -/
theorem jt_val (ha : JE X W a ma) (he : ∀ whole, isTrue a X.env whole = (do let v ← whole; standAt a.pos; holding [v] (truthy v)) := by intro _; rfl) : JT X W a (tOfE ma) :=
  PTw (pt_val ha he) fun s H Q ⟨r, G, S, sim, env, g⟩ => ⟨r, G, S, sim, env, (gET g).imp fun x H1 ⟨r1, S1, d, e1, s1, dx, g1⟩ => by
    cases d <;> try exact g1.elim
    rename_i k
    exact ⟨k, dx, g1 r1 H1 Ext.refl s1⟩⟩
theorem jt_cmp {op : CmpOp} {f : OP2} (ho : OpR X (compareOp op) (rd2 X.K X.mg f)) (ha : JE X W a ma) (hb : JE X W b mb) (hm : behindInMarks op b = false := by rfl) : JT X W (.Compare a [op] [b] pos) (tOfE (e2 f ma mb)) :=
  PTw (pt_cmpR ho ha hb hm) fun s H Q ⟨r, G, S, sim, env, g⟩ => by
    have g' := gET g
    refine ⟨r, G, S, sim, env, (gE g').imp fun x H1 ⟨r1, S1, d, e1, s1, dx, g1⟩ => ⟨r1, G, S1, s1, env.ext e1, (gE g1).imp fun y H2 ⟨r2, S2, e, e2, s2, dy, g2⟩ => ?_⟩⟩
    obtain ⟨z, hz, hw⟩ := wants_of g2
    refine ⟨r2, S2, d, e, z, s2, dx.ext e2, dy, hz, fun r3 H3 v e3 s3 dv => ?_⟩
    obtain ⟨r4, S4, d4, e4, s4, dx4, g4⟩ := hw r3 H3 v e3 s3 dv
    cases d4 <;> try exact g4.elim
    rename_i k
    exact ⟨k, dx4, g4 r4 H3 Ext.refl s4⟩
theorem jt_not (ha : JT X W a ta) : JT X W (.UnaryOp .Not a pos) (tNotM ta) :=
  PTw (pt_not ha) fun s H Q ⟨r, G, S, sim, env, g⟩ => ⟨r, G, S, sim, env, (gTT g).imp fun k H1 ⟨r1, S1, e1, s1, g1⟩ => g1 r1 H1 Ext.refl s1⟩
theorem jw_and1 (ha : JT X W a ta) : JW X W (.BoolOp .And [a] pos) ta := pw_and1 ha
theorem jw_or1 (ha : JT X W a ta) : JW X W (.BoolOp .Or [a] pos) ta := pw_or1 ha
theorem jw_and {rest : List Expr} (ha : JT X W a ta) (hb : JW X W (.BoolOp .And (b :: rest) pos) tb) : JW X W (.BoolOp .And (a :: b :: rest) pos) (tAndM ta tb) :=
  PWw (pw_and ha hb) fun s H Q ⟨r, G, S, sim, env, g⟩ => ⟨r, G, S, sim, env, (gTT g).imp fun k H1 ⟨r1, S1, e1, s1, g1⟩ => by
    cases k with
    | true => exact ⟨r1, G, S1, s1, env.ext e1, g1⟩
    | false => exact g1 r1 H1 Ext.refl s1⟩
theorem jw_or {rest : List Expr} (ha : JT X W a ta) (hb : JW X W (.BoolOp .Or (b :: rest) pos) tb) : JW X W (.BoolOp .Or (a :: b :: rest) pos) (tOrM ta tb) :=
  PWw (pw_or ha hb) fun s H Q ⟨r, G, S, sim, env, g⟩ => ⟨r, G, S, sim, env, (gTT g).imp fun k H1 ⟨r1, S1, e1, s1, g1⟩ => by
    cases k with
    | false => exact ⟨r1, G, S1, s1, env.ext e1, g1⟩
    | true => exact g1 r1 H1 Ext.refl s1⟩
theorem jt_w (h : JW X W a ta) : JT X W a ta := h.pt
/-! ### as values -/
theorem je_one {op : BoolOp} (ha : JE X W a ma) : JE X W (.BoolOp op [a] pos) ma := pe_one ha
theorem je_and {rest : List Expr} (ha : JE X W a ma) (hb : JE X W (.BoolOp .And (b :: rest) pos) mb) : JE X W (.BoolOp .And (a :: b :: rest) pos) (eAnd ma mb) :=
  PEw (pe_and ha hb) fun s H Q ⟨r, G, S, sim, env, g⟩ => ⟨r, G, S, sim, env, (gE g).imp fun x H1 ⟨r1, S1, d, e1, s1, dx, g1⟩ => by
    cases d <;> try exact g1.elim
    rename_i k
    refine ⟨k, dx, ?_⟩
    cases k with
    | true => exact ⟨r1, G, S1, s1, env.ext e1, g1⟩
    | false => exact g1.here s1 rfl⟩
theorem je_or {rest : List Expr} (ha : JE X W a ma) (hb : JE X W (.BoolOp .Or (b :: rest) pos) mb) : JE X W (.BoolOp .Or (a :: b :: rest) pos) (eOr ma mb) :=
  PEw (pe_or ha hb) fun s H Q ⟨r, G, S, sim, env, g⟩ => ⟨r, G, S, sim, env, (gE g).imp fun x H1 ⟨r1, S1, d, e1, s1, dx, g1⟩ => by
    cases d <;> try exact g1.elim
    rename_i k
    refine ⟨k, dx, ?_⟩
    cases k with
    | false => exact ⟨r1, G, S1, s1, env.ext e1, g1⟩
    | true => exact g1.here s1 rfl⟩
theorem je_not (ha : JE X W a ma) : JE X W (.UnaryOp .Not a pos) (eNot ma) :=
  PEw (pe_not ha) fun s H Q ⟨r, G, S, sim, env, g⟩ => ⟨r, G, S, sim, env, (gE g).imp fun x H1 ⟨r1, S1, d, e1, s1, dx, g1⟩ => by
    cases d <;> try exact g1.elim
    rename_i k
    exact ⟨k, dx, g1.here s1 rfl⟩⟩
theorem je_if (hc : JT X W c ta) (ha : JE X W a ma) (hb : JE X W b mb) : JE X W (.IfExp c a b pos) (eIf ta ma mb) :=
  PEw (pe_ifExp hc ha hb) fun s H Q ⟨r, G, S, sim, env, g⟩ => ⟨r, G, S, sim, env, (gTE g).imp fun k H1 ⟨r1, S1, e1, s1, g1⟩ => by
    cases k with
    | true => exact ⟨r1, G, S1, s1, env.ext e1, g1⟩
    | false => exact ⟨r1, G, S1, s1, env.ext e1, g1⟩⟩
theorem je_chain {op op' : CmpOp} {f f' : OP2} (ho : OpR X (compareOp op) (rd2 X.K X.mg f)) (ho' : OpR X (compareOp op') (rd2 X.K X.mg f')) (ha : JE X W a ma) (hb : JE X W b mb) (hc : JE X W c mc)
    (hm : lastMarks [op, op'] [b, c] = false := by with_unfolding_all rfl) : JE X W (.Compare a [op, op'] [b, c] pos) (eChain f f' ma mb mc) :=
  PEw (pe_chain ho ho' ha hb hc hm) fun s H Q ⟨r, G, S, sim, env, g⟩ => ⟨r, G, S, sim, env, (gE g).imp fun x H1 ⟨r1, S1, d, e1, s1, dx, g1⟩ => ⟨r1, G, S1, s1, env.ext e1, (gE g1).imp fun y H2 ⟨r2, S2, e, e2, s2, dy, g2⟩ => by
    have fin : ∀ k, f d e S2 = some (.bl k) → rd2 X.K X.mg f x y H2 fun z H3 => ∃ k, z = .bl k ∧ (if k = true then rdE X.K X.mg W mc s H3 fun w' H4 => rd2 X.K X.mg f' y w' H4 Q else Q (.bl false) H3) := fun k hk => by
      refine ⟨r2, S2, d, e, .bl k, s2, dx.ext e2, dy, hk, fun r3 H3 v e3 s3 dv => ⟨k, dv, ?_⟩⟩
      rw [hk] at g2
      cases k with
      | false => exact g2 r3 H3 _ e3 s3 rfl
      | true =>
        have g3 : GoodE X.K X.mg r2 S2 H2 (fun C d H' => W C d s H') Q ((mc G S2).bind fun z S3 => opt (f' e z S3) S3) := g2
        have g4 := gE (g3.mono (r1 := r3) (S1 := S2) (H1 := H3) e3 (fun _ _ _ h => h) (fun _ _ h => h))
        exact ⟨r3, G, S2, s3, (env.ext e1).ext (e2.trans e3), g4.imp fun w' H4 ⟨r4, S4, z, e4, s4, dz, g5⟩ => let ⟨q, hq, hw⟩ := wants_of g5; ⟨r4, S4, e, z, q, s4, dy.ext (e3.trans e4), dz, hq, hw⟩⟩
    cases hf : f d e S2 with
    | none => rw [hf] at g2; exact g2.elim
    | some q =>
      cases q with
      | bl k => exact fin k hf
      | _ => rw [hf] at g2; exact g2.elim⟩⟩
theorem jt_chain {op op' : CmpOp} {f f' : OP2} (ho : OpR X (compareOp op) (rd2 X.K X.mg f)) (ho' : OpR X (compareOp op') (rd2 X.K X.mg f')) (ha : JE X W a ma) (hb : JE X W b mb) (hc : JE X W c mc)
    (hm : lastMarks [op, op'] [b, c] = false := by with_unfolding_all rfl) : JT X W (.Compare a [op, op'] [b, c] pos) (tOfE (eChain f f' ma mb mc)) := by
  refine PTw (pt_chain ho ho' ha hb hc hm) fun s H Q ⟨r, G, S, sim, env, g⟩ => ?_
  have g' := gET g
  refine ⟨r, G, S, sim, env, (gE g').imp fun x H1 ⟨r1, S1, d, e1, s1, dx, g1⟩ => ⟨r1, G, S1, s1, env.ext e1, (gE g1).imp fun y H2 ⟨r2, S2, e, e2, s2, dy, g2⟩ => ?_⟩⟩
  have out : ∀ v H3, (∃ r1 S1_1 d, Ext r S H r1 S1_1 H3 ∧ Sim X.K X.mg r1 S1_1 H3 ∧ DV (cx X.K X.mg r1 S1_1 H3) d v ∧ GoodT X.K X.mg r1 S1_1 H3 (fun C d H' => W C d s H') Q (match d with | .bl b => .ok b S1_1 | _ => .err)) → ∃ k, v = .bl k ∧ Q k H3 := fun v H3 ⟨r4, S4, d4, e4, s4, dx4, g4⟩ => by
    cases d4 <;> try exact g4.elim
    rename_i k
    exact ⟨k, dx4, g4 r4 H3 Ext.refl s4⟩
  cases hf : f d e S2 with
  | none => rw [hf] at g2; exact g2.elim
  | some q =>
    cases q with
    | bl k =>
      refine ⟨r2, S2, d, e, .bl k, s2, dx.ext e2, dy, hf, fun r3 H3 v e3 s3 dv => ⟨k, dv, ?_⟩⟩
      rw [hf] at g2
      cases k with
      | false => exact out _ _ (g2 r3 H3 _ e3 s3 rfl)
      | true =>
        have g3 := gE (show GoodE X.K X.mg r2 S2 H2 _ _ ((mc G S2).bind fun z S3 => opt (f' e z S3) S3) from g2)
        have g4 := g3.mono (r1 := r3) (S1 := S2) (H1 := H3) e3 (fun _ _ _ h => h) (fun _ _ h => h)
        exact ⟨r3, G, S2, s3, (env.ext e1).ext (e2.trans e3), g4.imp fun w' H4 ⟨r4, S4, z, e4, s4, dz, g5⟩ => let ⟨q, hq, hw⟩ := wants_of g5; ⟨r4, S4, e, z, q, s4, dy.ext e4, dz, hq, fun r5 H5 v5 e5 s5 d5 => out _ _ (hw r5 H5 v5 e5 s5 d5)⟩⟩
    | _ => rw [hf] at g2; exact g2.elim
end
end Kx

set_option Elab.async false
set_option linter.all false
set_option maxRecDepth 100000
set_option autoImplicit false
namespace Kx
open PySem PySem.Spec L2

/-! ### statements -/
def sb {α : Type} (z : Res α) (G : En) (k : α → Store → SRes) : SRes := match z with
  | .ok a S => k a S
  | .exc c ns ds S => .exc c ns ds G S
  | .err => .err
def sNext : MS := fun G S => .nx G S
def sSeq (a b : MS) : MS := fun G S => match a G S with
  | .nx G1 S1 => b G1 S1
  | z => z
def sExpr (e : ME) : MS := fun G S => sb (e G S) G fun _ S1 => .nx G S1
def sRet (e : ME) : MS := fun G S => sb (e G S) G fun d S1 => .rt d S1
def sRetN : MS := fun _ S => .rt .non S
def sBreak : MS := fun G S => .bk G S
def sCont : MS := fun G S => .ct G S
def sIf (t : MT) (a b : MS) : MS := fun G S => sb (t G S) G fun k S1 => if k = true then a G S1 else b G S1
abbrev MG := D → En → Option En
abbrev MGs := List D → En → Option En
def gN (i : Nat) : MG := fun d G => some (G.set i (some d))
def gNo : MGs := fun ds G => match ds with
  | [] => some G
  | _ => none
def gCo (g : MG) (gs : MGs) : MGs := fun ds G => match ds with
  | d :: r => (g d G).bind (gs r)
  | _ => none
def gTp (gs : MGs) : MG := fun d G => match d with
  | .tup ds => gs ds G
  | _ => none
def sAsg (e : ME) (g : MG) : MS := fun G S => sb (e G S) G fun d S1 => match g d G with
  | some G1 => .nx G1 S1
  | none => .err
/-- a, b = x, y: the pair is not made -/
def sPar (i j : Nat) (a b : ME) : MS := fun G S => sb (a G S) G fun d S1 => sb (b G S1) G fun e S2 => .nx ((G.set i (some d)).set j (some e)) S2
def sAug (i : Nat) (f : OP2) (e : ME) : MS := fun G S => match G[i]? with
  | some (some x) => sb (e G S) G fun d S1 => match f x d S1 with
    | some z => .nx (G.set i (some z)) S1
    | none => .err
  | _ => .err

section
variable {K : PySem.W.Frag} {mg : Str → Option Value} {r r1 : Rg} {S S1 : Store} {H H1 : Hp} {W : WX} {D : Ends} {s : L2.St} {G : En}
theorem GoodS.mono {z : SRes} (e : Ext r S H r1 S1 H1) (h : GoodS K mg r S H W D z) : GoodS K mg r1 S1 H1 W D z := by
  cases z with
  | nx G S' => exact fun r' H' s e' a b => h r' H' s (e.trans e') a b
  | rt d S' => exact fun r' H' s e' a b => h r' H' s (e.trans e') a b
  | bk G S' => exact fun r' H' s e' a b => h r' H' s (e.trans e') a b
  | ct G S' => exact fun r' H' s e' a b => h r' H' s (e.trans e') a b
  | exc x ns ds G S' => exact Exw.mono (Q := fun C d r' H' => ∀ s, EnvR (cx K mg r' S' H') G s → W C d s H') e h fun _ _ _ _ h => h
  | err => exact h
theorem gES {z : Res Kx.D} {k : Kx.D → Store → SRes} (env : EnvR (cx K mg r S H) G s) (g : GoodS K mg r S H W D (sb z G k)) :
    GoodE K mg r S H (fun C d H' => W C d s H') (fun x H1 => ∃ r1 S1 d, Ext r S H r1 S1 H1 ∧ Sim K mg r1 S1 H1 ∧ DV (cx K mg r1 S1 H1) d x ∧ GoodS K mg r1 S1 H1 W D (k d S1)) z := by
  cases z with
  | ok d S1 => exact fun r' H' v e s hd => ⟨r', S1, d, e, s, hd, GoodS.mono e g⟩
  | exc x ns ds S' => exact fun r' H' C d fs e sm hm hx hn hd => g r' H' C d fs e sm hm hx hn hd s (env.ext e)
  | err => exact g
theorem gTS {z : Res Bool} {k : Bool → Store → SRes} (env : EnvR (cx K mg r S H) G s) (g : GoodS K mg r S H W D (sb z G k)) :
    GoodT K mg r S H (fun C d H' => W C d s H') (fun b H1 => ∃ r1 S1, Ext r S H r1 S1 H1 ∧ Sim K mg r1 S1 H1 ∧ GoodS K mg r1 S1 H1 W D (k b S1)) z := by
  cases z with
  | ok d S1 => exact fun r' H' e s => ⟨r', S1, e, s, GoodS.mono e g⟩
  | exc x ns ds S' => exact fun r' H' C d fs e sm hm hx hn hd => g r' H' C d fs e sm hm hx hn hd s (env.ext e)
  | err => exact g
end

section
variable {X : Cx} {W : WX} {a b c e : Expr} {st : Stmt} {rest body body2 : List Stmt} {ma mb me : ME} {mt : MT} {ms m1 m2 : MS} {pos : Pos}
theorem jb_nil : JB X W [] sNext := PSsw pss_nil fun D s H ⟨r, G, S, sim, env, g⟩ => g r H s Ext.refl sim env
theorem jb_cons (h1 : JS X W st m1) (h2 : JB X W rest m2) : JB X W (st :: rest) (sSeq m1 m2) :=
  PSsw (pss_cons h1 h2) fun D s H ⟨r, G, S, sim, env, g⟩ => ⟨r, G, S, sim, env, by
    unfold sSeq at g
    cases hz : m1 G S with
    | nx G1 S1 => rw [hz] at g; exact fun r' H' s' e sm ev => ⟨r', G1, S1, sm, ev, GoodS.mono e g⟩
    | rt d S1 => rw [hz] at g; exact g
    | bk G1 S1 => rw [hz] at g; exact g
    | ct G1 S1 => rw [hz] at g; exact g
    | exc x ns ds G1 S1 => rw [hz] at g; exact g
    | err => rw [hz] at g; exact g⟩
theorem jb_one (h1 : JS X W st m1) : JB X W [st] m1 := pss_one h1
theorem js_pass : JS X W (.Pass pos) sNext := PSw ps_pass fun D s H ⟨r, G, S, sim, env, g⟩ => g r H s Ext.refl sim env
theorem js_break : JS X W (.Break pos) sBreak := PSw ps_break fun D s H ⟨r, G, S, sim, env, g⟩ => g r H s Ext.refl sim env
theorem js_cont : JS X W (.Continue pos) sCont := PSw ps_continue fun D s H ⟨r, G, S, sim, env, g⟩ => g r H s Ext.refl sim env
theorem js_expr (he : JE X W e me) (hs : swapsWith e none pos.line X.env = pure false := by rfl) : JS X W (.Expr e pos) (sExpr me) :=
  PSw (ps_expr he hs) fun D s H ⟨r, G, S, sim, env, g⟩ => ⟨r, G, S, sim, env, (gES env g).imp fun x H1 ⟨r1, S1, d, e1, s1, dx, g1⟩ => g1 r1 H1 s Ext.refl s1 (env.ext e1)⟩
theorem js_ret (he : JE X W e me) : JS X W (.Return (some e) pos) (sRet me) :=
  PSw (ps_ret he) fun D s H ⟨r, G, S, sim, env, g⟩ => ⟨r, G, S, sim, env, (gES env g).imp fun x H1 ⟨r1, S1, d, e1, s1, dx, g1⟩ => g1 r1 H1 x Ext.refl s1 dx⟩
theorem js_retN : JS X W (.Return none pos) sRetN := PSw ps_retN fun D s H ⟨r, G, S, sim, env, g⟩ => g r H .non Ext.refl sim rfl
theorem js_if (hc : JT X W c mt) (ha : JB X W body m1) (hb : JB X W body2 m2) : JS X W (.If c body body2 pos) (sIf mt m1 m2) :=
  PSw (ps_if hc ha hb) fun D s H ⟨r, G, S, sim, env, g⟩ => ⟨r, G, S, sim, env, (gTS env g).imp fun k H1 ⟨r1, S1, e1, s1, g1⟩ => by
    cases k with
    | true => exact ⟨r1, G, S1, s1, env.ext e1, g1⟩
    | false => exact ⟨r1, G, S1, s1, env.ext e1, g1⟩⟩
/-! ### targets -/
/-- only the slots is may have changed -/
def Keeps (is : List Nat) (s s' : L2.St) : Prop := ∀ vs : List Nat, (∀ i ∈ is, i ∈ vs) → wipe s' vs = wipe s vs
def rdG (K : PySem.W.Frag) (mg : Str → Option Value) (g : MG) (is : List Nat) : TG := fun v s H Q => ∃ r G S d G', Sim K mg r S H ∧ EnvR (cx K mg r S H) G s ∧ DV (cx K mg r S H) d v ∧ g d G = some G' ∧
  ∀ r' H' s', Ext r S H r' S H' → Sim K mg r' S H' → EnvR (cx K mg r' S H') G' s' → Keeps is s s' → Q s' H'
def rdGs (K : PySem.W.Frag) (mg : Str → Option Value) (g : MGs) (is : List Nat) : TGs := fun vs s H Q => ∃ r G S ds G', Sim K mg r S H ∧ EnvR (cx K mg r S H) G s ∧ DVs (cx K mg r S H) ds vs ∧ g ds G = some G' ∧
  ∀ r' H' s', Ext r S H r' S H' → Sim K mg r' S H' → EnvR (cx K mg r' S H') G' s' → Keeps is s s' → Q s' H'
abbrev JG (X : Cx) (tg : Expr) (g : MG) (is : List Nat) : Prop := PG X tg (rdG X.K X.mg g is)
abbrev JGs (X : Cx) (tg : List Expr) (g : MGs) (is : List Nat) : Prop := PGs X tg (rdGs X.K X.mg g is)
theorem wipe_set {s : L2.St} {i : Nat} {v : Option V} : ∀ {vs : List Nat}, i ∈ vs → wipe (s.set i v) vs = wipe s vs
  | [], h => by simp at h
  | w :: vs, h => by
    unfold wipe
    by_cases hm : i ∈ vs
    · rw [wipe_set hm]
    · have hw : i = w := by
        rcases List.mem_cons.mp h with h | h
        · exact h
        · exact absurd h hm
      subst hw
      have : ∀ us : List Nat, (wipe (s.set i v) us).set i none = (wipe s us).set i none := by
        intro us
        induction us with
        | nil => simp [wipe]
        | cons u us ih =>
          unfold wipe
          by_cases hu : u = i
          · subst hu; rw [ih]
          · rw [List.set_comm _ _ hu, List.set_comm _ _ hu, ih]
      exact this vs
theorem Keeps.refl {is : List Nat} {s : L2.St} : Keeps is s s := fun _ _ => rfl
theorem Keeps.trans {is is' : List Nat} {s s1 s2 : L2.St} (h : Keeps is s s1) (k : Keeps is' s1 s2) : Keeps (is ++ is') s s2 := fun vs hv => (k vs fun i hi => hv i (List.mem_append_right _ hi)).trans (h vs fun i hi => hv i (List.mem_append_left _ hi))
theorem PGw {tg : Expr} {t t' : TG} (h : PG X tg t) (w : ∀ v s H Q, t' v s H Q → t v s H Q) : PG X tg t' := ⟨fun pins s σ H v u Q I r hw => h.run pins s σ H v u Q I r (w v σ H Q hw)⟩
theorem PGsw {tg : List Expr} {t t' : TGs} (h : PGs X tg t) (w : ∀ v s H Q, t' v s H Q → t v s H Q) : PGs X tg t' := ⟨fun pins s σ H v u Q I r hw => h.run pins s σ H v u Q I r (w v σ H Q hw)⟩
theorem jg_name {i : Nat} {x : Str} (hN : X.N.Nodup) (hi : X.N[i]? = some x) (hx : Loc X.env.scope x) (hf : X.fn x = true ∨ X.env.scope.names.lookup x = some .local := by first | exact .inl rfl | exact .inr rfl | assumption) : JG X (.Name x pos) (gN i) [i] :=
  PGw (pg_name hN hi hx hf) fun v s H Q ⟨r, G, S, d, G', sim, env, dv, hg, k⟩ => by
    cases hg
    exact k r H _ Ext.refl sim (env.set i dv) fun vs hv => wipe_set (hv i (List.mem_singleton.mpr rfl))
theorem jgs_nil : JGs X [] gNo [] := PGsw pgs_nil fun vs s H Q ⟨r, G, S, ds, G', sim, env, dv, hg, k⟩ => by
  cases ds with
  | nil => cases hg; exact ⟨dv, k r H _ Ext.refl sim env Keeps.refl⟩
  | cons _ _ => cases hg
theorem jgs_cons {es : List Expr} {g : MG} {gs : MGs} {is js : List Nat} (h1 : JG X e g is) (h2 : JGs X es gs js) (hs : (assignEach (e :: es) X.env).map (·.2) = assign e X.env :: (assignEach es X.env).map (·.2) := by rfl)  : JGs X (e :: es) (gCo g gs) (is ++ js) :=
  PGsw (pgs_cons h1 h2 hs) fun vs s H Q ⟨r, G, S, ds, G', sim, env, dv, hg, k⟩ => by
    cases ds with
    | nil => cases hg
    | cons d ds =>
      obtain ⟨v, vr, ev, hd, hr⟩ := dv
      have hg : (g d G).bind (gs ds) = some G' := hg
      cases q : g d G with
      | none => rw [q] at hg; cases hg
      | some G1 =>
        rw [q] at hg
        exact ⟨v, vr, ev, r, G, S, d, G1, sim, env, hd, q, fun r' H' s' e sm ev kp => ⟨r', G1, S, ds, G', sm, ev, DVs.ext e hr, hg, fun r2 H2 s2 e2 sm2 ev2 kp2 => k r2 H2 s2 (e.trans e2) sm2 ev2 (kp.trans kp2)⟩⟩
theorem sqT_of {c : Ctx} {a : Addr} {vs : List V} (h : (Rd c.H a (.tup vs) ∧ ¬ c.lv a) ∨ KT c.K a vs) : SqT c.K c.H a vs := by
  rcases h with ⟨h, _⟩ | h
  · exact .inl h
  · exact .inr h
theorem sqL_of {c : Ctx} {a : Addr} {vs : List V} (h : (Rd c.H a (.lst vs) ∧ ¬ c.lv a) ∨ KL c.K a vs) : SqL c.K c.H a vs := by
  rcases h with ⟨h, _⟩ | h
  · exact .inl h
  · exact .inr h
def gsLen (gs : MGs) (n : Nat) : Prop := ∀ ds G G', gs ds G = some G' → ds.length = n
theorem gsLen_nil : gsLen gNo 0 := fun ds G G' h => by
  cases ds with
  | nil => rfl
  | cons _ _ => cases h
theorem gsLen_cons {g : MG} {gs : MGs} {n : Nat} (h : gsLen gs n) : gsLen (gCo g gs) (n + 1) := fun ds G G' q => by
  cases ds with
  | nil => cases q
  | cons d ds =>
    have q : (g d G).bind (gs ds) = some G' := q
    cases z : g d G with
    | none => rw [z] at q; cases q
    | some G1 => rw [z] at q; simp [h ds G1 G' q]
theorem jg_tup {es : List Expr} {k n : Nat} {gs : MGs} {is : List Nat} (hl : gsLen gs n) (h : JGs X es gs is) (hc : X.calm = true := by rfl) (hn : (assignEach es X.env).length = n := by rfl) (hst : (assignEach es X.env).findIdx? (·.1) = none := by rfl) : JG X (.Tuple es k pos) (gTp gs) is :=
  PGw (pg_tup hc h hn hst) fun v s H Q ⟨r, G, S, d, G', sim, env, dv, hg, k⟩ => by
    cases d <;> try cases hg
    obtain ⟨a, vs, e, hq, hd⟩ := dv
    exact ⟨a, vs, e, sqT_of hq, by rw [← DVs.length hd]; exact hl _ _ _ hg, r, G, S, _, G', sim, env, hd, hg, k⟩
theorem js_asg {tg : Expr} {g : MG} {is : List Nat} (he : JE X W e me) (hg : JG X tg g is) (hs : swapsWithSole [tg] e pos.line X.env = pure false := by rfl) (hw : swappedStores [tg] e X.env = pure none := by rfl)
    (h1 : (assignEach [tg] X.env).map (·.2) = [assign tg X.env] := by rfl) : JS X W (.Assign [tg] e pos) (sAsg me g) :=
  PSw (ps_asg he hg hs hw h1) fun D s H ⟨r, G, S, sim, env, g'⟩ => ⟨r, G, S, sim, env, (gES env g').imp fun x H1 ⟨r1, S1, d, e1, s1, dx, g1⟩ => by
    cases q : g d G with
    | none => rw [q] at g1; exact g1.elim
    | some G1 => rw [q] at g1; exact ⟨r1, G, S1, d, G1, s1, env.ext e1, dx, q, fun r' H' s' e sm ev _ => g1 r' H' s' e sm ev⟩⟩
theorem js_set {i : Nat} {x : Str} {pos' : Pos} (he : JE X W e me) (hN : X.N.Nodup) (hi : X.N[i]? = some x) (hx : Loc X.env.scope x) (hs : swapsWith e (some (.Name x pos')) pos.line X.env = pure false := by rfl) (hf : X.fn x = true ∨ X.env.scope.names.lookup x = some .local := by first | exact .inl rfl | exact .inr rfl | assumption) :
    JS X W (.Assign [.Name x pos'] e pos) (sAsg me (gN i)) :=
  PSw (ps_set hN hi hx he hs hf) fun D s H ⟨r, G, S, sim, env, g'⟩ => ⟨r, G, S, sim, env, (gES env g').imp fun x H1 ⟨r1, S1, d, e1, s1, dx, g1⟩ => g1 r1 H1 _ Ext.refl s1 ((env.ext e1).set i dx)⟩
theorem js_par {i j : Nat} {x y : Str} {px py pt : Pos} {kt k2 : Nat} {pt2 : Pos} (ha : JE X W a ma) (hb : JE X W b mb) (hN : X.N.Nodup) (hi : X.N[i]? = some x) (hj : X.N[j]? = some y) (hij : i ≠ j)
    (hx : X.env.scope.names.lookup x = some .local) (hy : X.env.scope.names.lookup y = some .local) (hc : X.calm = true := by rfl)
    (hw : swappedStores [.Tuple [.Name x px, .Name y py] kt pt] (.Tuple [a, b] k2 pt2) X.env = pure (some [x, y]) := by rfl)
    (hs : swapsWithSole [.Tuple [.Name x px, .Name y py] kt pt] (.Tuple [a, b] k2 pt2) pos.line X.env = pure false := by rfl)
    (hs1 : starEach [a, b] X.env = (false, eval a X.env) :: starEach [b] X.env := by rfl) (hs2 : starEach [b] X.env = [(false, eval b X.env)] := by rfl) :
    JS X W (.Assign [.Tuple [.Name x px, .Name y py] kt pt] (.Tuple [a, b] k2 pt2) pos) (sPar i j ma mb) :=
  PSw (ps_par (ta := tCons (rdE X.K X.mg W ma) (tCons (rdE X.K X.mg W mb) tNil)) hc hN hi hj hij hx hy (pa_cons ha (pa_cons hb pa_nil hs2) hs1) hw hs) fun D s H ⟨r, G, S, sim, env, g'⟩ =>
    ⟨r, G, S, sim, env, (gES env g').imp fun x H1 ⟨r1, S1, d, e1, s1, dx, g1⟩ => ⟨r1, G, S1, s1, env.ext e1, (gES (env.ext e1) g1).imp fun y H2 ⟨r2, S2, e, e2, s2, dy, g2⟩ =>
      ⟨x, y, rfl, g2 r2 H2 _ Ext.refl s2 ((((env.ext e1).ext e2).set i (dx.ext e2)).set j dy)⟩⟩⟩
theorem js_aug {i : Nat} {x : Str} {pos' : Pos} {op : Operator} {f : OP2} (he : JE X W e me) (ho : PIp X op (rd2 X.K X.mg f)) (hN : X.N.Nodup) (hi : X.N[i]? = some x) (hx : Loc X.env.scope x) (hf : X.fn x = true ∨ X.env.scope.names.lookup x = some .local := by first | exact .inl rfl | exact .inr rfl | assumption) :
    JS X W (.AugAssign (.Name x pos') op e pos) (sAug i f me) :=
  PSw (ps_aug hN hi hx he ho hf) fun D s H ⟨r, G, S, sim, env, g'⟩ => by
    unfold sAug at g'
    split at g'
    · rename_i d0 h0
      obtain ⟨v, hv, dv⟩ := env.2 i d0 h0
      refine ⟨v, hv, r, G, S, sim, env, (gES env g').imp fun y H1 ⟨r1, S1, d, e1, s1, dx, g1⟩ => ?_⟩
      cases q : f d0 d S1 with
      | none => rw [q] at g1; exact g1.elim
      | some z => rw [q] at g1; exact ⟨r1, S1, d0, d, z, s1, dv.ext e1, dx, q, fun r2 H2 v2 e2 s2 d2 => g1 r2 H2 _ e2 s2 (((env.ext e1).ext e2).set i d2)⟩
    · exact g'.elim
end

/-! ### loops -/
abbrev MI := En → Store → Res (List D)
def forL (g : MG) (body : MS) : List D → En → Store → SRes
  | [], G, S => .nx G S
  | d :: ds, G, S => match g d G with
    | none => .err
    | some G1 => match body G1 S with
      | .nx G2 S2 => forL g body ds G2 S2
      | .ct G2 S2 => forL g body ds G2 S2
      | .bk G2 S2 => .nx G2 S2
      | z => z
def sFor (it : MI) (g : MG) (body : MS) : MS := fun G S => sb (it G S) G fun ds S1 => forL g body ds G S1
def whileL (t : MT) (body : MS) : Nat → En → Store → SRes
  | 0, _, _ => .err
  | n + 1, G, S => sb (t G S) G fun k S1 => if k = true then (match body G S1 with
      | .nx G2 S2 => whileL t body n G2 S2
      | .ct G2 S2 => whileL t body n G2 S2
      | .bk G2 S2 => .nx G2 S2
      | z => z) else .nx G S1
def sWhile (n : Nat) (t : MT) (body : MS) : MS := fun G S => whileL t body n G S

/-- J walks just these values, whatever comes -/
def ItemsR (K : PySem.W.Frag) (mg : Str → Option Value) (r : Rg) (S : Store) (H : Hp) (ds : List D) (J : It) : Prop :=
  ∀ r2 S2 H2, Ex0 r S H r2 S2 H2 → Sim K mg r2 S2 H2 → ∀ i : Nat, (∀ d, ds[i]? = some d → J.go i H2 ∧ ∀ x H3, J.yld i H2 x H3 → ∃ r3, Ext r2 S2 H2 r3 S2 H3 ∧ Sim K mg r3 S2 H3 ∧ DV (cx K mg r3 S2 H3) d x) ∧ (ds.length ≤ i → J.stop i H2)
def GoodI (K : PySem.W.Frag) (mg : Str → Option Value) (r : Rg) (S : Store) (H : Hp) (W : Value → Option Addr → Hp → Prop) (R : It → Hp → Prop) : Res (List D) → Prop
  | .ok ds S' => ∀ r' H' J, Ext r S H r' S' H' → Sim K mg r' S' H' → ItemsR K mg r' S' H' ds J → R J H'
  | .exc x ns ds S' => Exw K mg r S H x ns ds S' fun C d _ H' => W C d H'
  | .err => False
def rdI (K : PySem.W.Frag) (mg : Str → Option Value) (W : WX) (m : MI) : TI := fun s H R => ∃ r G S, Sim K mg r S H ∧ EnvR (cx K mg r S H) G s ∧ GoodI K mg r S H (fun C d H' => W C d s H') R (m G S)
abbrev JI (X : Cx) (W : WX) (tg iter : Expr) (m : MI) : Prop := PI X tg iter (rdI X.K X.mg W m)
theorem PIw {X : Cx} {tg iter : Expr} {t t' : TI} (h : PI X tg iter t) (w : ∀ s H R, t' s H R → t s H R) : PI X tg iter t' := ⟨fun pins s σ H R I hw => h.run pins s σ H R I (w σ H R hw)⟩

section
variable {K : PySem.W.Frag} {mg : Str → Option Value} {r r1 : Rg} {S S1 : Store} {H H1 : Hp} {W : WX} {D : Ends} {s : L2.St} {G : En}
theorem gIS {z : Res (List Kx.D)} {k : List Kx.D → Store → SRes} (env : EnvR (cx K mg r S H) G s) (g : GoodS K mg r S H W D (sb z G k)) :
    GoodI K mg r S H (fun C d H' => W C d s H') (fun J H1 => ∃ r1 S1 ds, Ext r S H r1 S1 H1 ∧ Sim K mg r1 S1 H1 ∧ ItemsR K mg r1 S1 H1 ds J ∧ GoodS K mg r1 S1 H1 W D (k ds S1)) z := by
  cases z with
  | ok d S1 => exact fun r' H' v e s hd => ⟨r', S1, d, e, s, hd, GoodS.mono e g⟩
  | exc x ns ds S' => exact fun r' H' C d fs e sm hm hx hn hd => g r' H' C d fs e sm hm hx hn hd s (env.ext e)
  | err => exact g
theorem GoodI.imp {z : Res (List Kx.D)} {W : Value → Option Addr → Hp → Prop} {R R' : It → Hp → Prop} (g : GoodI K mg r S H W R z) (h : ∀ v H', R v H' → R' v H') : GoodI K mg r S H W R' z := by
  cases z with
  | ok ds S1 => exact fun r' H' v e s hd => h _ _ (g r' H' v e s hd)
  | exc x ns ds S' => exact g
  | err => exact g
end
section
variable {X : Cx} {W : WX} {tg iter c : Expr} {body : List Stmt} {mi : MI} {g : MG} {mb : MS} {mt : MT} {pos : Pos}
theorem js_for {is : List Nat} (hi : JI X W tg iter mi) (hg : JG X tg g is) (hb : JB X W body mb) (hp : PassesOwn (model X.prog X.w) X.A X.env X.xe) (hc : X.calm = true := by rfl) (hs : ∀ x, foldedSetIterable iter X.env x = pure x := by intro _; rfl) : JS X W (.For tg iter body [] pos) (sFor mi g mb) := by
  refine PSw (ps_for hp hc hi hg hb (hs := hs)) fun D s H ⟨r, G, S, sim, env, g'⟩ => ?_
  refine ⟨r, G, S, sim, env, (gIS env g').imp fun J H1 ⟨r1, S1, ds, e1, s1, it, g1⟩ => ?_⟩
  refine ⟨fun i m s2 H2 => ∃ r2 G2 S2, i + m = ds.length ∧ Ext r1 S1 H1 r2 S2 H2 ∧ Sim X.K X.mg r2 S2 H2 ∧ EnvR (cx X.K X.mg r2 S2 H2) G2 s2 ∧ GoodS X.K X.mg r2 S2 H2 W D (forL g mb (ds.drop i) G2 S2),
    ⟨ds.length, r1, G, S1, by omega, Ext.refl, s1, env.ext e1, g1⟩, ?_⟩
  rintro i m s2 H2 ⟨r2, G2, S2, hm, e2, s2', ev2, g2⟩
  cases hd : ds[i]? with
  | none =>
    have hl : ds.length ≤ i := List.getElem?_eq_none_iff.mp hd
    rw [List.drop_eq_nil_of_le hl] at g2
    exact .inl ⟨(it r2 S2 H2 e2.toEx0 s2' i).2 hl, g2 r2 H2 s2 Ext.refl s2' ev2⟩
  | some d =>
    have hlt : i < ds.length := (List.getElem?_eq_some_iff.mp hd).1
    obtain ⟨go, yld⟩ := (it r2 S2 H2 e2.toEx0 s2' i).1 d hd
    have hdr : ds.drop i = d :: ds.drop (i + 1) := by
      rw [List.drop_eq_getElem_cons hlt]
      have := (List.getElem?_eq_some_iff.mp hd).2
      rw [this]
    rw [hdr] at g2
    unfold forL at g2
    refine .inr ⟨go, fun s3 H3 => ∃ r3 G3 S3, Ext r1 S1 H1 r3 S3 H3 ∧ Sim X.K X.mg r3 S3 H3 ∧ EnvR (cx X.K X.mg r3 S3 H3) G3 s3 ∧ GoodS X.K X.mg r3 S3 H3 W D (forL g mb (ds.drop (i + 1)) G3 S3), ?_, ?_⟩
    · rintro s3 H3 ⟨r3, G3, S3, e3, s3', ev3, g3⟩
      exact ⟨m - 1, by omega, r3, G3, S3, by omega, e3, s3', ev3, g3⟩
    · intro x H3 hy
      obtain ⟨r3, e3, s3, dx⟩ := yld x H3 hy
      cases hgd : g d G2 with
      | none => rw [hgd] at g2; exact g2.elim
      | some G3 =>
        rw [hgd] at g2
        dsimp only at g2
        refine ⟨r3, G2, S2, d, G3, s3, ev2.ext e3, dx, hgd, fun r4 H4 s4 e4 sm4 ev4 _ => ⟨r4, G3, S2, sm4, ev4, ?_⟩⟩
        have E4 : Ext r1 S1 H1 r4 S2 H4 := e2.trans (e3.trans e4)
        have g2 := GoodS.mono (e3.trans e4) g2
        cases hz : mb G3 S2 with
        | nx G5 S5 => rw [hz] at g2; exact fun r5 H5 s5 e5 sm5 ev5 => ⟨r5, G5, S5, E4.trans e5, sm5, ev5, GoodS.mono e5 g2⟩
        | ct G5 S5 => rw [hz] at g2; exact fun r5 H5 s5 e5 sm5 ev5 => ⟨r5, G5, S5, E4.trans e5, sm5, ev5, GoodS.mono e5 g2⟩
        | bk G5 S5 => rw [hz] at g2; exact g2
        | rt d5 S5 => rw [hz] at g2; exact g2
        | exc x5 ns5 ds5 G5 S5 => rw [hz] at g2; exact g2
        | err => rw [hz] at g2; exact g2
theorem js_while {n : Nat} (hc : JT X W c mt) (hb : JB X W body mb) (hp : PassesOwn (model X.prog X.w) X.A X.env X.xe) : JS X W (.While c body [] pos) (sWhile n mt mb) := by
  refine PSw (ps_while hp hc hb) fun D s H ⟨r, G, S, sim, env, g'⟩ => ?_
  refine ⟨fun m s2 H2 => ∃ r2 G2 S2, Sim X.K X.mg r2 S2 H2 ∧ EnvR (cx X.K X.mg r2 S2 H2) G2 s2 ∧ GoodS X.K X.mg r2 S2 H2 W D (whileL mt mb m G2 S2), ⟨n, r, G, S, sim, env, g'⟩, ?_⟩
  rintro m s2 H2 ⟨r2, G2, S2, sm2, ev2, g2⟩
  cases m with
  | zero => exact g2.elim
  | succ m =>
    refine ⟨r2, G2, S2, sm2, ev2, (gTS ev2 g2).imp fun k H3 ⟨r3, S3, e3, s3, g3⟩ => ?_⟩
    cases k with
    | false => exact g3 r3 H3 s2 Ext.refl s3 (ev2.ext e3)
    | true =>
      refine ⟨fun s4 H4 => ∃ r4 G4 S4, Sim X.K X.mg r4 S4 H4 ∧ EnvR (cx X.K X.mg r4 S4 H4) G4 s4 ∧ GoodS X.K X.mg r4 S4 H4 W D (whileL mt mb m G4 S4), fun s4 H4 h => ⟨m, Nat.lt_succ_self m, h⟩, r3, G2, S3, s3, ev2.ext e3, ?_⟩
      have g3 : GoodS X.K X.mg r3 S3 H3 W D (match mb G2 S3 with
        | .nx G2 S2 => whileL mt mb m G2 S2
        | .ct G2 S2 => whileL mt mb m G2 S2
        | .bk G2 S2 => .nx G2 S2
        | z => z) := g3
      cases hz : mb G2 S3 with
      | nx G5 S5 => rw [hz] at g3; exact fun r5 H5 s5 e5 sm5 ev5 => ⟨r5, G5, S5, sm5, ev5, GoodS.mono e5 g3⟩
      | ct G5 S5 => rw [hz] at g3; exact fun r5 H5 s5 e5 sm5 ev5 => ⟨r5, G5, S5, sm5, ev5, GoodS.mono e5 g3⟩
      | bk G5 S5 => rw [hz] at g3; exact g3
      | rt d5 S5 => rw [hz] at g3; exact g3
      | exc x5 ns5 ds5 G5 S5 => rw [hz] at g3; exact g3
      | err => rw [hz] at g3; exact g3
end

/-! ### a def -/
def startG (k : Nat) (ds : List D) : En := ds.map some ++ List.replicate (k - ds.length) none
def fnRes : SRes → Res D
  | .rt d S' => .ok d S'
  | .nx _ S' => .ok .non S'
  | .exc c n d _ S' => .exc c n d S'
  | _ => .err
def mkFn (np ns : Nat) (body : MS) : FN := fun ds S => if ds.length = np then fnRes (body (startG ns ds) S) else .err
theorem startR {c : Ctx} {ds : List D} {vs : List V} {N : List Str} (h : DVs c ds vs) : EnvR c (startG N.length ds) (L2.start N vs) := by
  have hl := DVs.length h
  refine ⟨by simp [startG, L2.start, hl], fun i d q => ?_⟩
  unfold startG at q
  unfold L2.start
  by_cases hi : i < ds.length
  · rw [List.getElem?_append_left (by simpa using hi), List.getElem?_map] at q
    cases e : ds[i]? with
    | none => rw [e] at q; cases q
    | some d' =>
      rw [e] at q
      cases q
      obtain ⟨v, h1, h2⟩ := DVs.get h e
      exact ⟨v, by rw [List.getElem?_append_left (by simpa using (hl ▸ hi : i < vs.length)), List.getElem?_map, h1]; rfl, h2⟩
  · rw [List.getElem?_append_right (by simpa using hi), List.getElem?_replicate] at q
    split at q <;> cases q
section
variable {P : Program} {w : World} {K : PySem.W.Frag} {mg : Str → Option Value} {base : Heap} {x qual : Str} {params : Arguments} {body : List Stmt} {scope : Scope} {dvs : List V} {kws : List (Str × V)} {f : Addr} {fd : FuncData}
theorem spF_len {n m : Nat} {b : MS} {ps : List Str} (hn : ps.length = n) : ∀ vs H Q E, spF K mg (mkFn n m b) vs H Q E → vs.length = ps.length := fun vs H Q E ⟨r, S, ds, sim, hd, g⟩ => by
  unfold mkFn at g
  split at g
  · rename_i h
    rw [← DVs.length hd, h, hn]
  · exact g.elim
/-- THE RULE for a def: its body keeps the reading -/
theorem fn_ok {N ps : List Str} {k n m : Nat} {b : MS} (F : FunD K x qual params body scope dvs kws f fd) (Sc : FnScope N ps scope) (hn : ps.length = n) (hm : N.length = m)
    (hb : ∀ (cdv : Value) (A : Around) (outer : List Env) (s : Shared) (H : Hp) (E : XK), fd.code = cdv → A.guards = some [] → Room k (A.deeper (PyProof.Rows.envOfC qual scope s.heap.objs.size f cdv)) →
      JB (cxOf (CX P w) P w K mg base N qual scope f cdv A outer s H E) (fun C d _ H' => E C d H') body b) : FnG P w K mg base (k + 1) f fd ps (spF K mg (mkFn n m b)) := by
  obtain ⟨oc, od, dV, kV, doc, pm, an, cdv, ct, osl, efd, lk, hcd, _, _⟩ := F.ex
  subst efd
  refine ⟨spF_len hn, ?_⟩
  intro A outer s H args us vs Q E hG hr e0 hbt rv hsp
  have hlen := spF_len (K := K) (mg := mg) (m := m) (b := b) hn _ _ _ _ hsp
  have keep : ∀ b o, base.get? b = some o → s.heap.get? b = some o := fun b o e => (e0.bs b o e).1
  have KX : K.In s.heap := e0.mod.kin.keeps keep
  have lim : s.heap.NoLimit := e0.mod.nolimit.keeps keep
  have kinds : ∀ y ∈ ps.zip us, scope.names.lookup y.1 = some .local ∨ (scope.names.lookup y.1 = some .cell ∧ ((cellsFrom (s.heap.objs.size + 1) scope.names []).lookup y.1).isSome = true) := by
    rintro ⟨nm, v⟩ hy
    rcases Sc.par nm (List.of_mem_zip hy).1 with q | q
    · exact Or.inl q
    · exact Or.inr ⟨q, PySem.W.cellsFrom_some _ _ _ (Or.inl q)⟩
  refine codeAny_call_function hr.depth (KX _ _ lk) rfl Sc.co Sc.gen rfl (PySem.W.codeRec_of KX hcd) (hbt _ _ _ _ ?_)
  refine wpAny_newFunctionEnv_cells Sc.kind kinds ?_
  intro env he s1 x
  subst he
  refine ⟨lim.keeps x.toInCall.keep, codeAny_func ?_⟩
  have ht := hb cdv A outer s H E rfl hG (hr.deeper _)
  have I : Inv (cxOf (CX P w) P w K mg base N qual scope f cdv A outer s H E) [] (L2.start N vs) H s1 := inv_start Sc hr.hd e0 hlen rv x
  have hq : rdS K mg (fun C d _ H' => E C d H') b { nx := fun _ H' => Q .non H', rt := Q } (L2.start N vs) H := by
    obtain ⟨r, S', ds, sim, hd, g⟩ := hsp
    unfold mkFn at g
    split at g
    · refine ⟨r, startG m ds, S', sim, by rw [← hm]; exact startR hd, ?_⟩
      cases hz : b (startG m ds) S' with
      | nx G1 S1 => rw [hz] at g; exact fun r' H' s' e sm ev => g r' H' .non e sm rfl
      | rt d S1 => rw [hz] at g; exact g
      | bk G1 S1 => rw [hz] at g; exact g.elim
      | ct G1 S1 => rw [hz] at g; exact g.elim
      | exc x ns ds G1 S1 => rw [hz] at g; exact fun r' H' C d fs e sm hm hx hn hd s' _ => g r' H' C d fs e sm hm hx hn hd
      | err => rw [hz] at g; exact g.elim
    · exact g.elim
  have run := ht.run [] s1 (L2.start N vs) H _ I hq
  refine wpAny_mono run ?_ (fun e s' hs => hs)
  intro fl s' hs
  match fl, hs with
  | .ret u, ⟨v, st', H', J, r2, q⟩ => exact ⟨v, H', J.os, J.bare, J.base, J.hok, r2, q⟩
  | .next, ⟨st', H', J, q⟩ => exact ⟨V.non, H', J.os, J.bare, J.base, J.hok, rfl, q⟩
  | .brk, ⟨_, _, _, q⟩ => exact q.elim
  | .cont, ⟨_, _, _, q⟩ => exact q.elim
end
end Kx

set_option Elab.async false
set_option linter.all false
set_option maxRecDepth 100000
set_option autoImplicit false
namespace Kx
open PySem PySem.Spec L2

/-! ### what is walked -/
def signs (x : Str) : List D := x.cps.toList.map fun c => .str ⟨#[c]⟩
def itemsD : D → Option (List D)
  | .tup ds => some ds
  | .lst ds => some ds
  | .rol ds => some ds
  | .str x => some (signs x)
  | _ => none
def iVal (e : ME) : MI := fun G S => (e G S).bind fun d S1 => opt (itemsD d) S1
def rngD (lo : Int) (n : Nat) : List D := (List.range n).map fun (k : Nat) => D.int (lo + (k : Int))
def iRange1 (e : ME) : MI := fun G S => (e G S).bind fun d S1 => match d with
  | .int j => if -(2 ^ 62) ≤ j ∧ j < 2 ^ 62 then .ok (rngD 0 j.toNat) S1 else .err
  | _ => .err
def iRange2 (a b : ME) : MI := fun G S => (a G S).bind fun d S1 => (b G S1).bind fun e S2 => match d, e with
  | .int i, .int j => if -(2 ^ 62) ≤ i ∧ i < 2 ^ 62 ∧ -(2 ^ 62) ≤ j ∧ j < 2 ^ 62 then .ok (rngD i (j - i).toNat) S2 else .err
  | _, _ => .err
def numbered (ds : List D) : List D := (List.range ds.length).map fun (k : Nat) => D.tup [.int (k : Int), ds.getD k .non]
def pairs (ds es : List D) : List D := (ds.zip es).map fun p => .tup [p.1, p.2]

section
variable {K : PySem.W.Frag} {mg : Str → Option Value} {r r' : Rg} {S S' : Store} {H H' : Hp}
/-- a list, a tuple at an address that stays -/
theorem lstAt {c : Ctx} {a : Addr} {vs : List V} (h : c.H a = some (.lst vs) ∧ ¬ c.lv a) : (Rd c.H a (.lst vs) ∧ ¬ c.lv a) ∨ KL c.K a vs := .inl ⟨.inl h.1, h.2⟩
def LstAt (c : Ctx) (a : Addr) (vs : List V) : Prop := (Rd c.H a (.lst vs) ∧ ¬ c.lv a) ∨ KL c.K a vs
def TupAt (c : Ctx) (a : Addr) (vs : List V) : Prop := (Rd c.H a (.tup vs) ∧ ¬ c.lv a) ∨ KT c.K a vs
theorem LstAt.ext (e : Ex0 r S H r' S' H') {a : Addr} {vs : List V} (h : LstAt (cx K mg r S H) a vs) : LstAt (cx K mg r' S' H') a vs := by
  rcases h with ⟨h2, n⟩ | h2
  · obtain ⟨o, q, t, g⟩ := Rd.some h2 ntL
    obtain ⟨q1, q2⟩ := e.kp a o q t n
    exact .inl ⟨g _ q1, q2⟩
  · exact .inr h2
theorem TupAt.ext (e : Ex0 r S H r' S' H') {a : Addr} {vs : List V} (h : TupAt (cx K mg r S H) a vs) : TupAt (cx K mg r' S' H') a vs := by
  rcases h with ⟨h2, n⟩ | h2
  · obtain ⟨o, q, t, g⟩ := Rd.some h2 ntT
    obtain ⟨q1, q2⟩ := e.kp a o q t n
    exact .inl ⟨g _ q1, q2⟩
  · exact .inr h2
theorem LstAt.sq {a : Addr} {vs : List V} (h : LstAt (cx K mg r S H) a vs) : SqL K H a vs := sqL_of h
theorem TupAt.sq {a : Addr} {vs : List V} (h : TupAt (cx K mg r S H) a vs) : SqT K H a vs := sqT_of h
theorem items_lst {a : Addr} {vs : List V} {ds : List D} (h : LstAt (cx K mg r S H) a vs) (hd : DVs (cx K mg r S H) ds vs) : ItemsR K mg r S H ds (Itl K a) := fun r2 S2 H2 e s2 i => by
  have h2 := (h.ext e).sq
  refine ⟨fun d q => ?_, fun q => ⟨vs, h2, by rw [← DVs.length hd]; exact q⟩⟩
  obtain ⟨v, q1, q2⟩ := DVs.get (DVs.ex0 e hd) q
  refine ⟨⟨vs, v, h2, q1⟩, fun x H3 ⟨e3, hx⟩ => ?_⟩
  subst e3
  have := hx vs h2
  rw [q1] at this; cases this
  exact ⟨r2, Ext.refl, s2, q2⟩
theorem items_tup {a : Addr} {vs : List V} {ds : List D} (h : TupAt (cx K mg r S H) a vs) (hd : DVs (cx K mg r S H) ds vs) : ItemsR K mg r S H ds (Itt K a) := fun r2 S2 H2 e s2 i => by
  have h2 := (h.ext e).sq
  refine ⟨fun d q => ?_, fun q => ⟨vs, h2, by rw [← DVs.length hd]; exact q⟩⟩
  obtain ⟨v, q1, q2⟩ := DVs.get (DVs.ex0 e hd) q
  refine ⟨⟨vs, v, h2, q1⟩, fun x H3 ⟨e3, hx⟩ => ?_⟩
  subst e3
  have := hx vs h2
  rw [q1] at this; cases this
  exact ⟨r2, Ext.refl, s2, q2⟩
theorem items_str {x : Str} : ItemsR K mg r S H (signs x) (Its x) := fun r2 S2 H2 e s2 i => by
  refine ⟨fun d q => ?_, fun q => by
    have q : x.cps.size ≤ i := by simpa [signs] using q
    exact q⟩
  unfold signs at q
  rw [List.getElem?_map] at q
  cases hc : x.cps.toList[i]? with
  | none => rw [hc] at q; cases q
  | some c =>
    rw [hc] at q
    cases q
    have hc' : x.cps[i]? = some c := by simpa using hc
    refine ⟨(Array.getElem?_eq_some_iff.mp hc').1, fun v H3 ⟨e3, c', q1, q2⟩ => ?_⟩
    subst e3
    rw [hc'] at q1; cases q1
    exact ⟨r2, Ext.refl, s2, q2⟩
theorem items_rng {lo : Int} {n : Nat} : ItemsR K mg r S H (rngD lo n) (Itr lo n) := fun r2 S2 H2 e s2 i => by
  refine ⟨fun d q => ?_, fun q => by
    have q : n ≤ i := by simpa [rngD] using q
    exact q⟩
  unfold rngD at q
  rw [List.getElem?_map] at q
  cases hc : (List.range n)[i]? with
  | none => rw [hc] at q; cases q
  | some c =>
    rw [hc] at q
    cases q
    obtain ⟨h1, h2⟩ := List.getElem?_eq_some_iff.mp hc
    have hi : i < n := by simpa using h1
    have ec : c = i := by rw [← h2]; simp
    refine ⟨hi, fun v H3 ⟨e3, q1⟩ => ?_⟩
    subst e3
    exact ⟨r2, Ext.refl, s2, by rw [ec]; exact q1⟩
theorem newpair {x y : V} {d e : D} (s : Sim K mg r S H) {T : Addr} (hT : H T = none) (hx : DV (cx K mg r S H) d x) (hy : DV (cx K mg r S H) e y) :
    Ext r S H r S (upd H T (.tup [x, y])) ∧ Sim K mg r S (upd H T (.tup [x, y])) ∧ DV (cx K mg r S (upd H T (.tup [x, y]))) (.tup [d, e]) (.ref T) := by
  obtain ⟨sm, ex⟩ := s.newv (o := .tup [x, y]) hT
  exact ⟨ex, sm, T, [x, y], rfl, .inl ⟨.inl upd_same, s.fresh hT⟩, DVs.cons (hx.ext ex) (DVs.cons (hy.ext ex) DVs.nil)⟩
theorem items_enum {a : Addr} {vs : List V} {ds : List D} (h : LstAt (cx K mg r S H) a vs) (hd : DVs (cx K mg r S H) ds vs) : ItemsR K mg r S H (numbered ds) (Ite K a) := fun r2 S2 H2 e s2 i => by
  have h2 := (h.ext e).sq
  refine ⟨fun d q => ?_, fun q => ⟨vs, h2, by rw [← DVs.length hd]; simpa [numbered] using q⟩⟩
  unfold numbered at q
  rw [List.getElem?_map] at q
  cases hc : (List.range ds.length)[i]? with
  | none => rw [hc] at q; cases q
  | some c =>
    rw [hc] at q
    cases q
    obtain ⟨h1, h3⟩ := List.getElem?_eq_some_iff.mp hc
    have hi : i < ds.length := by simpa using h1
    have ec : c = i := by rw [← h3]; simp
    obtain ⟨v, q1, q2⟩ := DVs.get (DVs.ex0 e hd) (List.getElem?_eq_getElem hi)
    refine ⟨⟨vs, v, h2, q1⟩, fun x H3 ⟨T, y, e1, hT, e3, hx⟩ => ?_⟩
    subst e1 e3
    have := hx vs h2
    rw [q1] at this; cases this
    obtain ⟨ex, sm, dv⟩ := newpair s2 hT (show DV (cx K mg r2 S2 H2) (.int (c : Int)) (.int ((i : Nat) : Int)) by rw [ec]; rfl) (show DV (cx K mg r2 S2 H2) (ds.getD c .non) _ by rw [ec, List.getD_eq_getElem?_getD, List.getElem?_eq_getElem hi]; exact q2)
    exact ⟨r2, ex, sm, dv⟩
theorem items_zip {a b : Addr} {vs us : List V} {ds es : List D} (h : LstAt (cx K mg r S H) a vs) (hd : DVs (cx K mg r S H) ds vs) (h' : LstAt (cx K mg r S H) b us) (hd' : DVs (cx K mg r S H) es us) : ItemsR K mg r S H (pairs ds es) (Itz K a b) := fun r2 S2 H2 e s2 i => by
  have h2 := (h.ext e).sq
  have h2' := (h'.ext e).sq
  have l1 := DVs.length hd
  have l2 := DVs.length hd'
  refine ⟨fun d q => ?_, fun q => ⟨vs, us, h2, h2', by simp [pairs] at q; omega⟩⟩
  unfold pairs at q
  rw [List.getElem?_map] at q
  cases hc : (ds.zip es)[i]? with
  | none => rw [hc] at q; cases q
  | some p =>
    rw [hc] at q
    cases q
    obtain ⟨d1, d2⟩ := List.getElem?_zip_eq_some.mp hc
    obtain ⟨v, q1, q2⟩ := DVs.get (DVs.ex0 e hd) d1
    obtain ⟨u, q3, q4⟩ := DVs.get (DVs.ex0 e hd') d2
    refine ⟨⟨vs, us, v, u, h2, h2', q1, q3⟩, fun x H3 ⟨T, y, y', e1, hT, e3, hx, hx'⟩ => ?_⟩
    subst e1 e3
    have := hx vs h2
    rw [q1] at this; cases this
    have := hx' us h2'
    rw [q3] at this; cases this
    obtain ⟨ex, sm, dv⟩ := newpair s2 hT q2 q4
    exact ⟨r2, ex, sm, dv⟩
theorem items_zipT {a b : Addr} {vs us : List V} {ds es : List D} (h : TupAt (cx K mg r S H) a vs) (hd : DVs (cx K mg r S H) ds vs) (h' : TupAt (cx K mg r S H) b us) (hd' : DVs (cx K mg r S H) es us) : ItemsR K mg r S H (pairs ds es) (RZ.ItzT K a b) := fun r2 S2 H2 e s2 i => by
  have h2 := (h.ext e).sq
  have h2' := (h'.ext e).sq
  have l1 := DVs.length hd
  have l2 := DVs.length hd'
  refine ⟨fun d q => ?_, fun q => ⟨vs, us, h2, h2', by simp [pairs] at q; omega⟩⟩
  unfold pairs at q
  rw [List.getElem?_map] at q
  cases hc : (ds.zip es)[i]? with
  | none => rw [hc] at q; cases q
  | some p =>
    rw [hc] at q
    cases q
    obtain ⟨d1, d2⟩ := List.getElem?_zip_eq_some.mp hc
    obtain ⟨v, q1, q2⟩ := DVs.get (DVs.ex0 e hd) d1
    obtain ⟨u, q3, q4⟩ := DVs.get (DVs.ex0 e hd') d2
    refine ⟨⟨vs, us, v, u, h2, h2', q1, q3⟩, fun x H3 ⟨T, y, y', e1, hT, e3, hx, hx'⟩ => ?_⟩
    subst e1 e3
    have := hx vs h2
    rw [q1] at this; cases this
    have := hx' us h2'
    rw [q3] at this; cases this
    obtain ⟨ex, sm, dv⟩ := newpair s2 hT q2 q4
    exact ⟨r2, ex, sm, dv⟩
theorem gEI {z : Res D} {k : D → Store → Res (List D)} {W : Value → Option Addr → Hp → Prop} {R : It → Hp → Prop} (g : GoodI K mg r S H W R (z.bind k)) :
    GoodE K mg r S H W (fun x H1 => ∃ r1 S1 d, Ext r S H r1 S1 H1 ∧ Sim K mg r1 S1 H1 ∧ DV (cx K mg r1 S1 H1) d x ∧ GoodI K mg r1 S1 H1 W R (k d S1)) z := by
  cases z with
  | ok d S1 =>
    refine fun r' H' v e s hd => ⟨r', S1, d, e, s, hd, ?_⟩
    have g : GoodI K mg r S H W R (k d S1) := g
    cases hk : k d S1 with
    | ok ds S2 => rw [hk] at g; exact fun r2 H2 J e2 s2 h2 => g r2 H2 J (e.trans e2) s2 h2
    | exc x ns ds S2 => rw [hk] at g; exact Exw.mono (Q := fun C d _ H' => W C d H') e g fun _ _ _ _ h => h
    | err => rw [hk] at g; exact g
  | exc x ns ds S' => exact g
  | err => exact g
end

section
variable {X : Cx} {W : WX} {tg a b : Expr} {ma mb : ME} {p pos : Pos}
/-- what a value is walked by -/
def iAny (K : PySem.W.Frag) (te : TE) : TI := fun s H R => te s H fun x H1 => (∃ a xs, x = .ref a ∧ SqL K H1 a xs ∧ R (Itl K a) H1) ∨ (∃ a xs, x = .ref a ∧ SqT K H1 a xs ∧ R (Itt K a) H1) ∨ ∃ y, x = .str y ∧ R (Its y) H1
theorem pi_any {te : TE} (he : PE X a te) : PI X tg a (iAny X.K te) := by
  refine ⟨fun pins s σ H R I h => ?_⟩
  refine thn (he.run pins s σ H _ I h) fun v s1 ⟨x, H1, I1, r1, q1⟩ => ?_
  rcases q1 with ⟨a, xs, e, hq, q⟩ | ⟨a, xs, e, hq, q⟩ | ⟨x, e, q⟩
  · subst e
    cases r1
    obtain ⟨its, rv, p, hz⟩ := I1.list hq
    refine wpAny_pyIter_list p.isList ?_
    refine ⟨s1.heap.objs.size, [s1.heap.objs.size], _, _, H1, rfl, I1.kept (t' := s1.toks) fun b o e => Heap.get?_push_of_some _ e, turn_list a _, ⟨_, Heap.get?_push_size _ rfl, rfl, rfl⟩, fun b hb => ?_, q⟩
    have e : b = s1.heap.objs.size := by simpa using hb
    subst e
    exact I1.fpOk (Nat.le_refl _) (I1.hok.fresh (Nat.le_refl _))
  · subst e
    cases r1
    obtain ⟨its, rv, p, hz⟩ := I1.tuple hq
    refine wpAny_pyIter_tuple (show s1.heap.IsTuple a its.toArray from p) ?_
    refine ⟨s1.heap.objs.size, [s1.heap.objs.size], _, _, H1, rfl, I1.kept (t' := s1.toks) fun b o e => Heap.get?_push_of_some _ e, turn_tuple a _, ⟨_, Heap.get?_push_size _ rfl, rfl, rfl⟩, fun b hb => ?_, q⟩
    have e : b = s1.heap.objs.size := by simpa using hb
    subst e
    exact I1.fpOk (Nat.le_refl _) (I1.hok.fresh (Nat.le_refl _))
  · subst e
    obtain ⟨t, rfl⟩ := r1
    cases ha : x.cps.all (· < 128)
    · exact wpAny_pyIter_wide ha (pi_one (tk := s1.toks) I1 _ (turn_str _ x t "str_iterator" (.inr rfl)) ⟨_, Heap.get?_push_size _ rfl, rfl, rfl⟩ q)
    · exact wpAny_pyIter_ascii ha (pi_one (tk := s1.toks) I1 _ (turn_str _ x t "str_ascii_iterator" (.inl rfl)) ⟨_, Heap.get?_push_size _ rfl, rfl, rfl⟩ q)
theorem ji_val (ha : JE X W a ma) : JI X W tg a (iVal ma) :=
  PIw (pi_any ha) fun s H R ⟨r, G, S, sim, env, g⟩ => ⟨r, G, S, sim, env, (gEI g).imp fun x H1 ⟨r1, S1, d, e1, s1, dx, g1⟩ => by
    cases d <;> try exact g1.elim
    · exact .inr (.inr ⟨_, dx, g1 r1 H1 _ Ext.refl s1 items_str⟩)
    · obtain ⟨a, vs, e, hq, hd⟩ := dx
      exact .inr (.inl ⟨a, vs, e, sqT_of hq, g1 r1 H1 _ Ext.refl s1 (items_tup hq hd)⟩)
    · obtain ⟨a, vs, e, hq, hd⟩ := dx
      exact .inl ⟨a, vs, e, sqL_of (lstAt hq), g1 r1 H1 _ Ext.refl s1 (items_lst (lstAt hq) hd)⟩
    · obtain ⟨a, vs, e, hq, hd⟩ := dx
      exact .inl ⟨a, vs, e, sqL_of hq, g1 r1 H1 _ Ext.refl s1 (items_lst hq hd)⟩⟩
theorem ji_range1 (hg : Gl X "range") (hm : X.mg "range" = none) (ha : JE X W a ma) (hs : starEach [a] X.env = [(false, eval a X.env)] := by rfl) : JI X W tg (.Call (.Name "range" p) [a] [] pos) (iRange1 ma) :=
  PIw (pi_range1 hg hm (pa_cons ha pa_nil hs) hs) fun s H R ⟨r, G, S, sim, env, g⟩ => ⟨r, G, S, sim, env, (gEI g).imp fun x H1 ⟨r1, S1, d, e1, s1, dx, g1⟩ => by
    cases d <;> try exact g1.elim
    rename_i j
    have g1 : GoodI X.K X.mg r1 S1 H1 _ R (if -(2 ^ 62) ≤ j ∧ j < 2 ^ 62 then .ok (rngD 0 j.toNat) S1 else .err) := g1
    split at g1
    · rename_i h
      exact ⟨j, by rw [show x = .int j from dx], h.1, h.2, g1 r1 H1 _ Ext.refl s1 items_rng⟩
    · exact g1.elim⟩
theorem ji_range2 (hg : Gl X "range") (hm : X.mg "range" = none) (ha : JE X W a ma) (hb : JE X W b mb) (hs : starEach [a, b] X.env = [(false, eval a X.env), (false, eval b X.env)] := by rfl) (hs1 : starEach [a, b] X.env = (false, eval a X.env) :: starEach [b] X.env := by rfl) (hs2 : starEach [b] X.env = [(false, eval b X.env)] := by rfl) : JI X W tg (.Call (.Name "range" p) [a, b] [] pos) (iRange2 ma mb) :=
  PIw (pi_range2 hg hm (pa_cons ha (pa_cons hb pa_nil hs2) hs1) hs hs2) fun s H R ⟨r, G, S, sim, env, g⟩ => ⟨r, G, S, sim, env, (gEI g).imp fun x H1 ⟨r1, S1, d, e1, s1, dx, g1⟩ => ⟨r1, G, S1, s1, env.ext e1, (gEI g1).imp fun y H2 ⟨r2, S2, e, e2, s2, dy, g2⟩ => by
    obtain ⟨i0, rfl⟩ : ∃ i0, d = .int i0 := by cases d <;> first | exact ⟨_, rfl⟩ | exact g2.elim
    obtain ⟨j0, rfl⟩ : ∃ j0, e = .int j0 := by cases e <;> first | exact ⟨_, rfl⟩ | exact g2.elim
    have g2 : GoodI X.K X.mg r2 S2 H2 _ R (if -(2 ^ 62) ≤ i0 ∧ i0 < 2 ^ 62 ∧ -(2 ^ 62) ≤ j0 ∧ j0 < 2 ^ 62 then .ok (rngD i0 (j0 - i0).toNat) S2 else .err) := g2
    split at g2
    · rename_i h
      exact ⟨i0, j0, by rw [show x = .int i0 from dx, show y = .int j0 from dy], h, g2 r2 H2 _ Ext.refl s2 items_rng⟩
    · exact g2.elim⟩⟩
def iEnumL (e : ME) : MI := fun G S => (e G S).bind fun d S1 => match d with
  | .lst ds => .ok (numbered ds) S1
  | _ => .err
theorem ji_enum {elts : List Expr} {kk : Nat} {tpos : Pos} (hg : Gl X "enumerate") (hm : X.mg "enumerate" = none) (ha : JE X W a ma) (hs : starEach [a] X.env = [(false, eval a X.env)] := by rfl) : JI X W (.Tuple elts kk tpos) (.Call (.Name "enumerate" p) [a] [] pos) (iEnumL ma) :=
  PIw (pi_enum hg hm (pa_cons ha pa_nil hs) hs) fun s H R ⟨r, G, S, sim, env, g⟩ => ⟨r, G, S, sim, env, (gEI g).imp fun x H1 ⟨r1, S1, d, e1, s1, dx, g1⟩ => by
    cases d <;> try exact g1.elim
    obtain ⟨a, vs, e, hq, hd⟩ := dx
    exact ⟨a, vs, by rw [e], sqL_of (lstAt hq), g1 r1 H1 _ Ext.refl s1 (items_enum (lstAt hq) hd)⟩⟩
def iZip (a b : ME) : MI := fun G S => (a G S).bind fun d S1 => (b G S1).bind fun e S2 => match d, e with
  | .lst ds, .lst es => .ok (pairs ds es) S2
  | .tup ds, .tup es => .ok (pairs ds es) S2
  | _, _ => .err
theorem ji_zip {elts : List Expr} {kk : Nat} {tpos : Pos} (hg : Gl X "zip") (hm : X.mg "zip" = none) (ha : JE X W a ma) (hb : JE X W b mb) (hs : starEach [a, b] X.env = (false, eval a X.env) :: starEach [b] X.env := by rfl) (hs2 : starEach [b] X.env = [(false, eval b X.env)] := by rfl)
    (hpl : (backTo pos (starEach [b] X.env)).any (·.1) = false := by rfl) : JI X W (.Tuple elts kk tpos) (.Call (.Name "zip" p) [a, b] [] pos) (iZip ma mb) :=
  PIw (RZ.pi_zipA hg hm (pa_cons ha (pa_cons hb pa_nil hs2) hs) hs hpl) fun s H R ⟨r, G, S, sim, env, g⟩ => ⟨r, G, S, sim, env, (gEI g).imp fun x H1 ⟨r1, S1, d, e1, s1, dx, g1⟩ => ⟨r1, G, S1, s1, env.ext e1, (gEI g1).imp fun y H2 ⟨r2, S2, e, e2, s2, dy, g2⟩ => by
    cases d <;> try exact g2.elim
    · cases e <;> try exact g2.elim
      obtain ⟨a, vs, ea, hq, hd⟩ := dx.ext e2
      obtain ⟨b, us, eb, hq', hd'⟩ := dy
      exact ⟨a, b, vs, us, by rw [ea, eb], .inr ⟨sqT_of hq, sqT_of hq', g2 r2 H2 _ Ext.refl s2 (items_zipT hq hd hq' hd')⟩⟩
    · cases e <;> try exact g2.elim
      obtain ⟨a, vs, ea, hq, hd⟩ := dx.ext e2
      obtain ⟨b, us, eb, hq', hd'⟩ := dy
      exact ⟨a, b, vs, us, by rw [ea, eb], .inl ⟨sqL_of (lstAt hq), sqL_of (lstAt hq'), g2 r2 H2 _ Ext.refl s2 (items_zip (lstAt hq) hd (lstAt hq') hd')⟩⟩⟩⟩
end

/-! ### comprehensions -/
def wipeG (G : En) : List Nat → En
  | [] => G
  | v :: vs => (wipeG G vs).set v none
def lcL (g : MG) (vs : List Nat) (tt : MT) (me : ME) (G : En) : List D → Store → Res (List D)
  | [], S => .ok [] S
  | d :: ds, S => match g d (wipeG G vs) with
    | none => .err
    | some G1 => match tt G1 S with
      | .ok true S1 => (match me G1 S1 with
        | .ok y S2 => (match lcL g vs tt me G ds S2 with
          | .ok ys S3 => .ok (y :: ys) S3
          | _ => .err)
        | _ => .err)
      | .ok false S1 => lcL g vs tt me G ds S1
      | _ => .err
def eLc (it : MI) (g : MG) (vs : List Nat) (tt : MT) (me : ME) : ME := fun G S => (it G S).bind fun ds S1 => match lcL g vs tt me G ds S1 with
  | .ok ys S2 => if small ys then .ok (.lst ys) S2 else .err
  | _ => .err
def tYes : MT := fun _ S => .ok true S
abbrev W0 : WX := fun _ _ _ _ => False
abbrev JTs (X : Cx) (es : List Expr) (m : MT) : Prop := PTs X es (rdT X.K X.mg W0 m)
theorem PTsw {X : Cx} {es : List Expr} {t t' : TT} (h : PTs X es t) (w : ∀ s H Q, t' s H Q → t s H Q) : PTs X es t' := ⟨fun pins s σ H Q I hw => h.run pins s σ H Q I (w σ H Q hw)⟩
theorem jts_nil {X : Cx} : JTs X [] tYes := PTsw pts_nil fun s H Q ⟨r, G, S, sim, env, g⟩ => g r H Ext.refl sim
theorem jts_one {X : Cx} {c : Expr} {t : MT} (h : JT X W0 c t) : JTs X [c] t := pts_one h
theorem EnvR.ex0 {K : PySem.W.Frag} {mg : Str → Option Value} {r r' : Rg} {S S' : Store} {H H' : Hp} {G : En} {s : L2.St} (e : Ex0 r S H r' S' H') (h : EnvR (cx K mg r S H) G s) : EnvR (cx K mg r' S' H') G s :=
  ⟨h.1, fun i d q => let ⟨v, h1, h2⟩ := h.2 i d q; ⟨v, h1, DV.ex0 e h2⟩⟩
theorem EnvR.wipe {c : Ctx} {G : En} {s : L2.St} (h : EnvR c G s) : ∀ vs : List Nat, EnvR c (wipeG G vs) (L2.wipe s vs)
  | [] => h
  | v :: vs => (h.wipe vs).none v
section
variable {X : Cx} {W : WX} {elt tg iter : Expr} {ifs : List Expr} {scope : Scope} {own : List (Str × Nat)} {pos : Pos} {mi : MI} {g : MG} {is : List Nat} {tt : MT} {me : ME}
theorem wipe_twice (s : L2.St) (vs : List Nat) : L2.wipe (L2.wipe s vs) vs = L2.wipe s vs := by
  have key : ∀ us : List Nat, (∀ i ∈ us, i ∈ vs) → L2.wipe (L2.wipe s vs) us = L2.wipe s vs := by
    intro us
    induction us with
    | nil => intro _; rfl
    | cons u us ih =>
      intro h
      show (L2.wipe (L2.wipe s vs) us).set u none = _
      rw [ih fun i hi => h i (List.mem_cons_of_mem _ hi)]
      have hu : ∀ ws : List Nat, u ∈ ws → (L2.wipe s ws).set u none = L2.wipe s ws := by
        intro ws
        induction ws with
        | nil => intro h; simp at h
        | cons w ws ih2 =>
          intro hw
          show ((L2.wipe s ws).set w none).set u none = (L2.wipe s ws).set w none
          by_cases e : w = u
          · subst e; simp
          · have : u ∈ ws := by
              rcases List.mem_cons.mp hw with q | q
              · exact absurd q.symm e
              · exact q
            rw [List.set_comm _ _ e, ih2 this]
      exact hu vs (h u List.mem_cons_self)
  exact key vs fun _ h => h
theorem lc_read {ov : List Nat} (hi : ∀ i ∈ is, i ∈ ov) {s : L2.St} {H : Hp} {Q : VK} (h : rdE X.K X.mg W (eLc mi g ov tt me) s H Q) :
    tLc (rdI X.K X.mg W mi) (rdG X.K X.mg g is) (rdT X.K X.mg W0 tt) (rdE X.K X.mg W0 me) ov s H Q := by
  obtain ⟨r, G, S, sim, env, gd⟩ := h
  refine ⟨r, G, S, sim, env, ?_⟩
  unfold eLc at gd
  cases hm : mi G S with
  | err => rw [hm] at gd; exact gd
  | exc x ns ds S' => rw [hm] at gd; exact gd
  | ok ds S1 =>
    rw [hm] at gd
    have gd : GoodE X.K X.mg r S H (fun C d H' => W C d s H') Q (match lcL g ov tt me G ds S1 with
      | .ok ys S2 => if small ys then .ok (.lst ys) S2 else .err
      | _ => .err) := gd
    intro r1 H1 J e1 s1 it D hD
    obtain ⟨sD, eD⟩ := s1.reserve (o := .lst []) hD
    cases hl : lcL g ov tt me G ds S1 with
    | err => rw [hl] at gd; exact gd.elim
    | exc x ns ds S' => rw [hl] at gd; exact gd.elim
    | ok ys0 S0 =>
      rw [hl] at gd
      dsimp only at gd
      cases hz : small ys0 with
      | false => rw [hz] at gd; exact gd.elim
      | true =>
        rw [hz] at gd
        have hsz := small_ok hz
        have DnotZ : D ∉ r1.z := fun hz => by
          obtain ⟨u, q, _⟩ := s1.res D hz
          rw [hD] at q; cases q
        refine ⟨fun i m H2 => ∃ as S2 acc vs ys, i + m = ds.length ∧ Ex0 r1 S1 H1 ⟨as, D :: r1.z⟩ S2 H2 ∧ (∀ a, a ∈ r1.z → H2 a = H1 a) ∧ Sim X.K X.mg ⟨as, D :: r1.z⟩ S2 H2 ∧ H2 D = some (.lst vs) ∧ DVs (cx X.K X.mg ⟨as, D :: r1.z⟩ S2 H2) acc vs ∧ EnvR (cx X.K X.mg ⟨as, D :: r1.z⟩ S2 H2) G s ∧
            lcL g ov tt me G (ds.drop i) S2 = .ok ys S0 ∧ acc ++ ys = ys0, ⟨ds.length, r1.as, S1, [], [], ys0, by omega, eD, ?_, sD, upd_same, DVs.nil, (env.ext e1).ex0 eD, hl, rfl⟩, ?_⟩
        · intro a ha
          obtain ⟨u, q, _⟩ := s1.res a ha
          rw [upd_ne (ne_of_none q hD)]
        · rintro i m H2 ⟨as, S2, acc, vs, ys, hm, ex, zz, s2, hDv, hacc, ev2, hr, hys⟩
          obtain ⟨sr, er⟩ := s2.release
          cases hd : ds[i]? with
          | none =>
            have hlen : ds.length ≤ i := List.getElem?_eq_none_iff.mp hd
            rw [List.drop_eq_nil_of_le hlen] at hr
            unfold lcL at hr
            cases hr
            rw [List.append_nil] at hys
            subst hys
            refine .inl ⟨(it _ _ _ ex s2 i).2 hlen, ?_⟩
            exact gd ⟨as, r1.z⟩ H2 (.ref D) (e1.trans ⟨ex.trans er, rfl, zz⟩) sr ⟨D, vs, rfl, ⟨hDv, fun l => by
              rcases l with ⟨n, c, h1, h2, h3⟩ | l
              · exact s2.zn n c D h2 h1 h3 List.mem_cons_self
              · exact DnotZ l⟩, DVs.ex0 er hacc⟩
          | some d =>
            have hlt : i < ds.length := (List.getElem?_eq_some_iff.mp hd).1
            have hdr : ds.drop i = d :: ds.drop (i + 1) := by
              rw [List.drop_eq_getElem_cons hlt]
              have := (List.getElem?_eq_some_iff.mp hd).2
              rw [this]
            rw [hdr] at hr
            unfold lcL at hr
            obtain ⟨go, yld⟩ := (it _ _ _ ex s2 i).1 d hd
            refine .inr ⟨go, fun H3 => ∃ as S3 acc vs ys, Ex0 r1 S1 H1 ⟨as, D :: r1.z⟩ S3 H3 ∧ (∀ a, a ∈ r1.z → H3 a = H1 a) ∧ Sim X.K X.mg ⟨as, D :: r1.z⟩ S3 H3 ∧ H3 D = some (.lst vs) ∧ DVs (cx X.K X.mg ⟨as, D :: r1.z⟩ S3 H3) acc vs ∧ EnvR (cx X.K X.mg ⟨as, D :: r1.z⟩ S3 H3) G s ∧
              lcL g ov tt me G (ds.drop (i + 1)) S3 = .ok ys S0 ∧ acc ++ ys = ys0, fun H3 ⟨as3, S3, acc3, vs3, ys3, q⟩ => ⟨m - 1, by omega, as3, S3, acc3, vs3, ys3, by omega, q⟩, ?_⟩
            intro x H3 hy
            obtain ⟨r3, e3, s3, dx⟩ := yld x H3 hy
            cases hgd : g d (wipeG G ov) with
            | none => rw [hgd] at hr; cases hr
            | some G1 =>
              rw [hgd] at hr
              dsimp only at hr
              refine ⟨r3, wipeG G ov, S2, d, G1, s3, (ev2.ext e3).wipe _, dx, hgd, fun r4 H4 s4 e4 sm4 ev4 kp => ⟨by rw [kp _ hi, wipe_twice], r4, G1, S2, sm4, ev4, ?_⟩⟩
              cases ht : tt G1 S2 with
              | err => rw [ht] at hr; cases hr
              | exc a1 a2 a3 a4 => rw [ht] at hr; cases hr
              | ok k S5 =>
                rw [ht] at hr
                intro r5 H5 e5 s5
                cases k with
                | false =>
                  have hr : lcL g ov tt me G (ds.drop (i + 1)) S5 = .ok ys S0 := hr
                  have E : Ext ⟨as, D :: r1.z⟩ S2 H2 r5 S5 H5 := e3.trans (e4.trans e5)
                  obtain ⟨as5, z5⟩ := r5
                  have ez : z5 = D :: r1.z := E.zeq
                  subst ez
                  exact ⟨as5, S5, acc, vs, ys, ex.trans E.toEx0, fun a ha => (E.zs a (List.mem_cons_of_mem _ ha)).trans (zz a ha), s5, (E.zs D List.mem_cons_self).trans hDv, DVs.ext E hacc, ev2.ext E, hr, hys⟩
                | true =>
                  have hr : (match me G1 S5 with
                    | .ok y S2 => (match lcL g ov tt me G (ds.drop (i + 1)) S2 with
                      | .ok ys S3 => (.ok (y :: ys) S3 : Res (List Kx.D))
                      | _ => .err)
                    | _ => .err) = .ok ys S0 := hr
                  refine ⟨r5, G1, S5, s5, ev4.ext e5, ?_⟩
                  cases hme : me G1 S5 with
                  | err => rw [hme] at hr; cases hr
                  | exc a1 a2 a3 a4 => rw [hme] at hr; cases hr
                  | ok y S6 =>
                    rw [hme] at hr
                    dsimp only at hr
                    cases hl2 : lcL g ov tt me G (ds.drop (i + 1)) S6 with
                    | err => rw [hl2] at hr; cases hr
                    | exc a1 a2 a3 a4 => rw [hl2] at hr; cases hr
                    | ok ys' S7 =>
                      rw [hl2] at hr
                      cases hr
                      intro r6 H6 v e6 s6 dv
                      have E : Ext ⟨as, D :: r1.z⟩ S2 H2 r6 S6 H6 := e3.trans (e4.trans (e5.trans e6))
                      obtain ⟨as6, z6⟩ := r6
                      have ez : z6 = D :: r1.z := E.zeq
                      subst ez
                      have hD6 : H6 D = some (.lst vs) := (E.zs D List.mem_cons_self).trans hDv
                      have hlen : acc.length = vs.length := DVs.length hacc
                      refine ⟨vs, hD6, ?_, ?_⟩
                      · have : (acc ++ y :: ys').length = ys0.length := by rw [hys]
                        simp at this
                        omega
                      · obtain ⟨s7, e7⟩ := s6.remake (p := D) (o := .lst (vs ++ [v])) List.mem_cons_self
                        refine ⟨as6, S6, acc ++ [y], vs ++ [v], ys', (ex.trans E.toEx0).trans e7, fun a ha => ?_, s7, upd_same, ?_, (ev2.ext E).ex0 e7, hl2, by rw [← hys]; simp⟩
                        · have : a ≠ D := fun z => DnotZ (by rw [← z]; exact ha)
                          rw [upd_ne this]
                          exact (E.zs a (List.mem_cons_of_mem _ ha)).trans (zz a ha)
                        · exact DVs.ex0 e7 (DVs.append (DVs.ext E hacc) (DVs.cons dv DVs.nil))
theorem je_lc (hI : JI X W tg iter mi) (hN : X.N.Nodup) (ok : BlkOk X.N X.env.scope scope own) (hi : ∀ i ∈ is, i ∈ own.map (·.2))
    (hg : ∀ (s : Shared) (H : Hp) (C : Addr) (cl : List (Str × Addr)) (fp : List Addr), JG (X.blk s H scope (compEnvC scope cl C X.env) fp) tg g is)
    (ht : ∀ (s : Shared) (H : Hp) (C : Addr) (cl : List (Str × Addr)) (fp : List Addr), JTs (X.blk s H scope (compEnvC scope cl C X.env) fp) ifs tt)
    (he : ∀ (s : Shared) (H : Hp) (C : Addr) (cl : List (Str × Addr)) (fp : List Addr), JE (X.blk s H scope (compEnvC scope cl C X.env) fp) W0 elt me) (hc : X.calm = true := by rfl) (hs : ∀ x, foldedSetIterable iter X.env x = pure x := by intro _; rfl) :
    JE X W (.ListComp elt [⟨tg, iter, ifs, 0⟩] scope pos) (eLc mi g (own.map (·.2)) tt me) :=
  PEw (pe_lc (own := own) hc hN hI ok hg ht he hs) fun s H Q h => lc_read hi h
theorem js_setLc {i : Nat} {y : Str} {py spos : Pos} (hI : JI X W tg iter mi) (hN : X.N.Nodup) (hy : X.N[i]? = some y) (hyl : X.env.scope.names.lookup y = some .local)
    (hsw : swapsWith (.ListComp elt [⟨tg, iter, ifs, 0⟩] scope pos) (some (.Name y py)) spos.line X.env = pure true) (ok : BlkOk X.N X.env.scope scope own) (hi : ∀ i ∈ is, i ∈ own.map (·.2))
    (hg : ∀ (s : Shared) (H : Hp) (C : Addr) (cl : List (Str × Addr)) (fp : List Addr), JG (X.blk s H scope (compEnvC scope cl C X.env) fp) tg g is)
    (ht : ∀ (s : Shared) (H : Hp) (C : Addr) (cl : List (Str × Addr)) (fp : List Addr), JTs (X.blk s H scope (compEnvC scope cl C X.env) fp) ifs tt)
    (he : ∀ (s : Shared) (H : Hp) (C : Addr) (cl : List (Str × Addr)) (fp : List Addr), JE (X.blk s H scope (compEnvC scope cl C X.env) fp) W0 elt me) (hc : X.calm = true := by rfl) (hs : ∀ x, foldedSetIterable iter X.env x = pure x := by intro _; rfl) :
    JS X W (.Assign [.Name y py] (.ListComp elt [⟨tg, iter, ifs, 0⟩] scope pos) spos) (sAsg (eLc mi g (own.map (·.2)) tt me) (gN i)) :=
  PSw (ps_setLc (own := own) hc hN hy hyl hsw hI ok hg ht he hs) fun D s H ⟨r, G, S, sim, env, g'⟩ => lc_read (W := W) hi ⟨r, G, S, sim, env, (gES env g').imp fun x H1 ⟨r1, S1, d, e1, s1, dx, g1⟩ => g1 r1 H1 _ Ext.refl s1 ((env.ext e1).set i dx)⟩
end
end Kx

set_option Elab.async false
set_option linter.all false
set_option maxRecDepth 100000
set_option autoImplicit false
namespace Kx
open PySem PySem.Spec L2

/-! ### ints and texts -/
def sumOk (m n : Nat) : Bool := decide (m + n ≤ sizeLine)
theorem sumOk_le {m n : Nat} (h : sumOk m n = true) : m + n ≤ sizeLine := of_decide_eq_true h
def addD : OP2 := fun d e _ => match d, e with
  | .int i, .int j => some (.int (i + j))
  | .str x, .str y => if sumOk x.length y.length then some (.str (x ++ y)) else none
  | .tup ds, .tup es => if sumOk ds.length es.length then some (.tup (ds ++ es)) else none
  | .lst ds, .lst es => if sumOk ds.length es.length then some (.lst (ds ++ es)) else none
  | _, _ => none
def subD : OP2 := fun d e _ => match d, e with
  | .int i, .int j => some (.int (i - j))
  | _, _ => none
def within64 (i : Int) : Bool := decide (-(2 ^ 64) < i) && decide (i < 2 ^ 64)
def repOk (n : Nat) (k : Int) : Bool := decide (-(2 ^ 63) ≤ k) && (decide (k < 2 ^ 63) && decide (n * k.toNat ≤ sizeLine))
def mulD : OP2 := fun d e _ => match d, e with
  | .int i, .int j => if within64 i || within64 j then some (.int (i * j)) else none
  | .lst ds, .int k => if repOk ds.length k then some (.lst (List.replicate k.toNat ds).flatten) else none
  | _, _ => none
def modD : OP2 := fun d e _ => match d, e with
  | .int i, .int j => if 0 < j then some (.int (i % j)) else none
  | _, _ => none
def divD : OP2 := fun d e _ => match d, e with
  | .int i, .int j => if 0 < j ∧ j < 1073741824 then some (.int (i / j)) else none
  | _, _ => none
def powD : OP2 := fun d e _ => match d, e with
  | .int i, .int j => if 0 ≤ j ∧ j ≤ 1000000 ∧ i.natAbs < 2 ^ 64 then some (.int (i ^ j.toNat)) else none
  | _, _ => none
def negD : OP1 := fun d _ => match d with
  | .int i => some (.int (-i))
  | _ => none
def ltD : OP2 := fun d e _ => match d, e with
  | .int i, .int j => some (.bl (decide (i < j)))
  | .str x, .str y => some (.bl (decide (x.cps.toList < y.cps.toList)))
  | _, _ => none
def leD : OP2 := fun d e _ => match d, e with
  | .int i, .int j => some (.bl (decide (i ≤ j)))
  | _, _ => none
def gtD : OP2 := fun d e _ => match d, e with
  | .int i, .int j => some (.bl (decide (j < i)))
  | _, _ => none
def geD : OP2 := fun d e _ => match d, e with
  | .int i, .int j => some (.bl (decide (j ≤ i)))
  | _, _ => none
def isNon : D → Bool
  | .non => true
  | _ => false
def isND : OP2 := fun d e _ => match e with
  | .non => some (.bl (isNon d))
  | _ => none
def notOf : OP2 → OP2 := fun f d e S => match f d e S with
  | some (.bl b) => some (.bl (!b))
  | _ => none

section
variable {X : Cx}
theorem Wants.at {K : PySem.W.Frag} {mg : Str → Option Value} {r : Rg} {S : Store} {H : Hp} {z : D} {Q : VK} {v : V} (h : Wants K mg r S H z Q) (s : Sim K mg r S H) (hd : DV (cx K mg r S H) z v) : Q v H := h r H v Ext.refl s hd
theorem Wants.newL {K : PySem.W.Frag} {mg : Str → Option Value} {r : Rg} {S : Store} {H : Hp} {ds : List D} {vs : List V} {Q : VK} {p : Addr} (h : Wants K mg r S H (.lst ds) Q) (s : Sim K mg r S H) (hd : DVs (cx K mg r S H) ds vs) (hp : H p = none) : Q (.ref p) (upd H p (.lst vs)) := by
  obtain ⟨sm, ex⟩ := s.newv (o := .lst vs) hp
  exact h r _ _ ex sm ⟨p, vs, rfl, ⟨upd_same, s.fresh hp⟩, DVs.ext ex hd⟩
theorem Wants.newT {K : PySem.W.Frag} {mg : Str → Option Value} {r : Rg} {S : Store} {H : Hp} {ds : List D} {vs : List V} {Q : VK} {p : Addr} (h : Wants K mg r S H (.tup ds) Q) (s : Sim K mg r S H) (hd : DVs (cx K mg r S H) ds vs) (hp : H p = none) : Q (.ref p) (upd H p (.tup vs)) := by
  obtain ⟨sm, ex⟩ := s.newv (o := .tup vs) hp
  exact h r _ _ ex sm ⟨p, vs, rfl, .inl ⟨.inl upd_same, s.fresh hp⟩, DVs.ext ex hd⟩
theorem o_add : OpR X (binaryOp .Add) (rd2 X.K X.mg addD) := by
  intro pins s σ H x y v u Q I rx ry ⟨r, S, d, e, z, sim, dx, dy, hz, hw⟩
  unfold addD at hz
  split at hz
  · cases hz
    exact op_add pins s σ H x y v u Q I rx ry ⟨_, _, dx, dy, hw.at sim rfl⟩
  · split at hz
    · rename_i hl
      cases hz
      exact op_add_str pins s σ H x y v u Q I rx ry ⟨_, _, dx, dy, sumOk_le hl, hw.at sim rfl⟩
    · cases hz
  · split at hz
    · rename_i ds es hl
      cases hz
      obtain ⟨a, vs, ea, ha, da⟩ := dx
      obtain ⟨b, us, eb, hb, db⟩ := dy
      have l1 := DVs.length da
      have l2 := DVs.length db
      refine op_catA pins s σ H x y v u Q I rx ry ⟨a, b, vs, us, ea, eb, sqT_of ha, sqT_of hb, by rw [← l1, ← l2]; exact sumOk_le hl, fun h => ?_, fun h h' => ?_, fun h h' p hp => ?_⟩
      · have : ds = [] := List.eq_nil_of_length_eq_zero (by rw [l1, h]; rfl)
        subst this
        exact hw.at sim ⟨b, us, rfl, hb, db⟩
      · have : es = [] := List.eq_nil_of_length_eq_zero (by rw [l2, h']; rfl)
        subst this
        rw [List.append_nil] at hw
        exact hw.at sim ⟨a, vs, rfl, ha, da⟩
      · exact hw.newT sim (da.append db) hp
    · cases hz
  · split at hz
    · rename_i ds es hl
      cases hz
      obtain ⟨a, vs, ea, ha, da⟩ := dx
      obtain ⟨b, us, eb, hb, db⟩ := dy
      have l1 := DVs.length da
      have l2 := DVs.length db
      exact op_cat pins s σ H x y v u Q I rx ry ⟨a, b, vs, us, ea, eb, ha.1, hb.1, by rw [← l1, ← l2]; exact sumOk_le hl, fun p hp => hw.newL sim (da.append db) hp⟩
    · cases hz
  · cases hz
theorem o_sub : OpR X (binaryOp .Sub) (rd2 X.K X.mg subD) := by
  intro pins s σ H x y v u Q I rx ry ⟨r, S, d, e, z, sim, dx, dy, hz, hw⟩
  unfold subD at hz
  split at hz
  · cases hz
    exact op_sub pins s σ H x y v u Q I rx ry ⟨_, _, dx, dy, hw.at sim rfl⟩
  · cases hz
theorem DVs.rep {c : Ctx} {ds : List D} {vs : List V} (h : DVs c ds vs) : ∀ n : Nat, DVs c (List.replicate n ds).flatten (List.replicate n vs).flatten
  | 0 => DVs.nil
  | n + 1 => by
    rw [List.replicate_succ, List.replicate_succ, List.flatten_cons, List.flatten_cons]
    exact h.append (DVs.rep h n)
theorem o_mul : OpR X (binaryOp .Mult) (rd2 X.K X.mg mulD) := by
  intro pins s σ H x y v u Q I rx ry ⟨r, S, d, e, z, sim, dx, dy, hz, hw⟩
  unfold mulD at hz
  split at hz
  · split at hz
    · rename_i hl
      cases hz
      refine op_mul pins s σ H x y v u Q I rx ry ⟨_, _, dx, dy, ?_, hw.at sim rfl⟩
      simp only [Bool.or_eq_true, within64, Bool.and_eq_true, decide_eq_true_eq] at hl
      exact hl
    · cases hz
  · split at hz
    · rename_i ds k hl
      cases hz
      obtain ⟨a, vs, ea, ha, da⟩ := dx
      have l1 := DVs.length da
      simp only [repOk, Bool.and_eq_true, decide_eq_true_eq] at hl
      exact op_rep pins s σ H x y v u Q I rx ry ⟨a, k, vs, ea, dy, ha.1, hl.1, hl.2.1, by rw [← l1]; exact hl.2.2, fun p hp => hw.newL sim (da.rep _) hp⟩
    · cases hz
  · cases hz
theorem o_mod : OpR X (binaryOp .Mod) (rd2 X.K X.mg modD) := by
  intro pins s σ H x y v u Q I rx ry ⟨r, S, d, e, z, sim, dx, dy, hz, hw⟩
  unfold modD at hz
  split at hz
  · split at hz
    · rename_i hl
      cases hz
      exact op_mod pins s σ H x y v u Q I rx ry ⟨_, _, dx, dy, hl, hw.at sim rfl⟩
    · cases hz
  · cases hz
theorem o_div : OpR X (binaryOp .FloorDiv) (rd2 X.K X.mg divD) := by
  intro pins s σ H x y v u Q I rx ry ⟨r, S, d, e, z, sim, dx, dy, hz, hw⟩
  unfold divD at hz
  split at hz
  · split at hz
    · rename_i hl
      cases hz
      exact op_fdiv pins s σ H x y v u Q I rx ry ⟨_, _, dx, dy, hl, hw.at sim rfl⟩
    · cases hz
  · cases hz
theorem o_pow : OpR X (binaryOp .Pow) (rd2 X.K X.mg powD) := by
  intro pins s σ H x y v u Q I rx ry ⟨r, S, d, e, z, sim, dx, dy, hz, hw⟩
  unfold powD at hz
  split at hz
  · split at hz
    · rename_i hl
      cases hz
      exact op_pow pins s σ H x y v u Q I rx ry ⟨_, _, dx, dy, hl, hw.at sim rfl⟩
    · cases hz
  · cases hz
theorem o_neg : UnR X (unaryOp .USub) (rd1 X.K X.mg negD) := by
  intro pins s σ H x v Q I rx ⟨r, S, d, z, sim, dx, hz, hw⟩
  unfold negD at hz
  split at hz
  · cases hz
    exact un_neg pins s σ H x v Q I rx ⟨_, dx, hw.at sim rfl⟩
  · cases hz
theorem o_lt : OpR X (compareOp .Lt) (rd2 X.K X.mg ltD) := by
  intro pins s σ H x y v u Q I rx ry ⟨r, S, d, e, z, sim, dx, dy, hz, hw⟩
  unfold ltD at hz
  split at hz
  · cases hz
    exact op_lt pins s σ H x y v u Q I rx ry ⟨_, _, dx, dy, hw.at sim rfl⟩
  · cases hz
    exact op_lt_str pins s σ H x y v u Q I rx ry ⟨_, _, dx, dy, hw.at sim rfl⟩
  · cases hz
theorem o_le : OpR X (compareOp .LtE) (rd2 X.K X.mg leD) := by
  intro pins s σ H x y v u Q I rx ry ⟨r, S, d, e, z, sim, dx, dy, hz, hw⟩
  unfold leD at hz
  split at hz
  · cases hz
    exact op_le pins s σ H x y v u Q I rx ry ⟨_, _, dx, dy, hw.at sim rfl⟩
  · cases hz
theorem o_gt : OpR X (compareOp .Gt) (rd2 X.K X.mg gtD) := by
  intro pins s σ H x y v u Q I rx ry ⟨r, S, d, e, z, sim, dx, dy, hz, hw⟩
  unfold gtD at hz
  split at hz
  · cases hz
    exact op_gt pins s σ H x y v u Q I rx ry ⟨_, _, dx, dy, hw.at sim rfl⟩
  · cases hz
theorem o_ge : OpR X (compareOp .GtE) (rd2 X.K X.mg geD) := by
  intro pins s σ H x y v u Q I rx ry ⟨r, S, d, e, z, sim, dx, dy, hz, hw⟩
  unfold geD at hz
  split at hz
  · cases hz
    exact op_ge pins s σ H x y v u Q I rx ry ⟨_, _, dx, dy, hw.at sim rfl⟩
  · cases hz
theorem isNon_ok {c : Ctx} {d : D} {x : V} (dx : DV c d x) : decide (x = .non) = isNon d := by
  cases d with
  | non => rw [show x = .non from dx]; rfl
  | bl b => rw [show x = .bl _ from dx]; rfl
  | int b => rw [show x = .int _ from dx]; rfl
  | str b => rw [show x = .str _ from dx]; rfl
  | ty b => rw [show x = .ty _ from dx]; rfl
  | tup ds => obtain ⟨a, vs, e, _⟩ := dx; rw [e]; rfl
  | lst ds => obtain ⟨a, vs, e, _⟩ := dx; rw [e]; rfl
  | rol ds => obtain ⟨a, vs, e, _⟩ := dx; rw [e]; rfl
  | dic ks ds => obtain ⟨a, vs, e, _⟩ := dx; rw [e]; rfl
  | ins c ns ds => obtain ⟨a, C, dx, fs, e, _⟩ := dx; rw [e]; rfl
  | exc c ns ds => obtain ⟨a, C, dx, fs, e, _⟩ := dx; rw [e]; rfl
  | loc n => obtain ⟨a, e, _⟩ := dx; rw [e]; rfl
  | fn n => obtain ⟨a, e, _⟩ := dx; rw [e]; rfl
theorem isND_ok {c : Ctx} {d e z : D} {S : Store} {x y : V} (hz : isND d e S = some z) (dx : DV c d x) (dy : DV c e y) : y = .non ∧ z = .bl (decide (x = .non)) := by
  unfold isND at hz
  split at hz
  · cases hz
    exact ⟨dy, by rw [isNon_ok dx]⟩
  · cases hz
theorem o_is : OpR X (compareOp .Is) (rd2 X.K X.mg isND) := by
  intro pins s σ H x y v u Q I rx ry ⟨r, S, d, e, z, sim, dx, dy, hz, hw⟩
  obtain ⟨h1, h2⟩ := isND_ok hz dx dy
  subst h2
  exact op_isN pins s σ H x y v u Q I rx ry ⟨h1, hw.at sim rfl⟩
theorem o_isnot : OpR X (compareOp .IsNot) (rd2 X.K X.mg (notOf isND)) := by
  intro pins s σ H x y v u Q I rx ry ⟨r, S, d, e, z, sim, dx, dy, hz, hw⟩
  unfold notOf at hz
  split at hz
  · rename_i b hb
    obtain ⟨h1, h2⟩ := isND_ok hb dx dy
    cases hz
    cases h2
    exact op_notN pins s σ H x y v u Q I rx ry ⟨h1, hw.at sim rfl⟩
  · cases hz
end

/-! ### == of data -/
mutual
def toP (S : Store) : D → Option PyData
  | .non => some .none
  | .bl b => some (.bool b)
  | .int i => some (.int i)
  | .str x => some (.str x)
  | .tup ds => (toPs S ds).map .tuple
  | .lst ds => (toPs S ds).map .list
  | _ => none
def toPs (S : Store) : List D → Option (List PyData)
  | [] => some []
  | d :: ds => match toP S d, toPs S ds with
    | some p, some ps => some (p :: ps)
    | _, _ => none
end
mutual
theorem toP_dp {c : Ctx} {S : Store} (d : D) (v : V) (p : PyData) (h : DV c d v) (e : toP S d = some p) : Dp c.K c.H v p := by
  match d with
  | .non => simp only [toP, Option.some.injEq] at e; subst e; rw [show v = V.non from h]; exact .non
  | .bl b => simp only [toP, Option.some.injEq] at e; subst e; rw [show v = V.bl b from h]; exact .bl b
  | .int i => simp only [toP, Option.some.injEq] at e; subst e; rw [show v = V.int i from h]; exact .int i
  | .str x => simp only [toP, Option.some.injEq] at e; subst e; rw [show v = V.str x from h]; exact .str x
  | .tup ds =>
    obtain ⟨a, vs, h1, h2, h3⟩ := h
    simp only [toP] at e
    cases q : toPs S ds with
    | none => rw [q] at e; simp at e
    | some ps =>
      rw [q] at e
      simp only [Option.map_some, Option.some.injEq] at e
      subst e h1
      exact .tup (sqT_of h2) (toPs_dp ds vs ps h3 q)
  | .lst ds =>
    obtain ⟨a, vs, h1, h2, h3⟩ := h
    simp only [toP] at e
    cases q : toPs S ds with
    | none => rw [q] at e; simp at e
    | some ps =>
      rw [q] at e
      simp only [Option.map_some, Option.some.injEq] at e
      subst e h1
      exact .lst (sqL_of (lstAt h2)) (toPs_dp ds vs ps h3 q)
  | .rol ds => simp [toP] at e
  | .dic ks ds => simp [toP] at e
  | .ins a b ds => simp [toP] at e
  | .exc a b ds => simp [toP] at e
  | .loc n => simp [toP] at e
  | .fn n => simp [toP] at e
  | .ty n => simp [toP] at e
theorem toPs_dp {c : Ctx} {S : Store} (ds : List D) (vs : List V) (ps : List PyData) (h : DVs c ds vs) (e : toPs S ds = some ps) : DpAll c.K c.H vs ps := by
  match ds with
  | [] => simp only [toPs, Option.some.injEq] at e; subst e; rw [show vs = [] from h]; exact .nil
  | d :: ds =>
    obtain ⟨v, r, h1, h2, h3⟩ := h
    simp only [toPs] at e
    cases q : toP S d with
    | none => rw [q] at e; simp at e
    | some p =>
      cases q' : toPs S ds with
      | none => rw [q, q'] at e; simp at e
      | some ps' =>
        rw [q, q'] at e
        simp only [Option.some.injEq] at e
        subst e h1
        exact .cons (toP_dp d v p h2 q) (toPs_dp ds r ps' h3 q')
end
def eqD : OP2 := fun d e S => match d, e with
  | .str x, .str y => some (.bl (decide (x = y)))
  | .int i, .int j => some (.bl (decide (i = j)))
  | .bl i, .bl j => some (.bl (decide (i = j)))
  | d, e => match toP S d, toP S e with
    | some p, some q => if SeqAt.shaped p && SeqAt.shaped q then some (.bl (PyData.eqv p q)) else none
    | _, _ => none
theorem dec_vstr {x y : Str} : decide (V.str x = V.str y) = decide (x = y) := by rw [Bool.eq_iff_iff]; simp
theorem dec_vint {x y : Int} : decide (V.int x = V.int y) = decide (x = y) := by rw [Bool.eq_iff_iff]; simp
theorem dec_vbl {x y : Bool} : decide (V.bl x = V.bl y) = decide (x = y) := by rw [Bool.eq_iff_iff]; simp
section
variable {X : Cx}
theorem o_eq (hu : X.A.units + 64 < cLine) : OpR X (compareOp .Eq) (rd2 X.K X.mg eqD) := by
  intro pins s σ H x y v u Q I rx ry ⟨r, S, d, e, z, sim, dx, dy, hz, hw⟩
  unfold eqD at hz
  split at hz
  · cases hz
    cases (show x = .str _ from dx)
    cases (show y = .str _ from dy)
    exact op_eq pins s σ H _ _ v u Q I rx ry ⟨rfl, by rw [dec_vstr]; exact hw.at sim rfl⟩
  · cases hz
    cases (show x = .int _ from dx)
    cases (show y = .int _ from dy)
    exact op_eq pins s σ H _ _ v u Q I rx ry ⟨rfl, by rw [dec_vint]; exact hw.at sim rfl⟩
  · cases hz
    cases (show x = .bl _ from dx)
    cases (show y = .bl _ from dy)
    exact op_eq pins s σ H _ _ v u Q I rx ry ⟨rfl, by rw [dec_vbl]; exact hw.at sim rfl⟩
  · split at hz
    · rename_i p q hp hq
      split at hz
      · rename_i hs
        cases hz
        obtain ⟨h1, h2⟩ := Bool.and_eq_true_iff.mp hs
        exact op_eqD hu pins s σ H x y v u Q I rx ry ⟨p, q, toP_dp _ _ _ dx hp, toP_dp _ _ _ dy hq, h1, h2, hw.at sim rfl⟩
      · cases hz
    · cases hz
theorem o_ne (hu : X.A.units + 64 < cLine) : OpR X (compareOp .NotEq) (rd2 X.K X.mg (notOf eqD)) := by
  intro pins s σ H x y v u Q I rx ry ⟨r, S, d, e, z, sim, dx, dy, hz, hw⟩
  unfold notOf at hz
  split at hz
  · rename_i b hb
    cases hz
    unfold eqD at hb
    split at hb
    · cases hb
      cases (show x = .str _ from dx)
      cases (show y = .str _ from dy)
      exact op_ne pins s σ H _ _ v u Q I rx ry ⟨rfl, by rw [dec_vstr]; exact hw.at sim rfl⟩
    · cases hb
      cases (show x = .int _ from dx)
      cases (show y = .int _ from dy)
      exact op_ne pins s σ H _ _ v u Q I rx ry ⟨rfl, by rw [dec_vint]; exact hw.at sim rfl⟩
    · cases hb
      cases (show x = .bl _ from dx)
      cases (show y = .bl _ from dy)
      exact op_ne pins s σ H _ _ v u Q I rx ry ⟨rfl, by rw [dec_vbl]; exact hw.at sim rfl⟩
    · split at hb
      · rename_i p q hp hq
        split at hb
        · rename_i hs
          cases hb
          obtain ⟨h1, h2⟩ := Bool.and_eq_true_iff.mp hs
          exact op_neD hu pins s σ H x y v u Q I rx ry ⟨p, q, toP_dp _ _ _ dx hp, toP_dp _ _ _ dy hq, h1, h2, hw.at sim rfl⟩
        · cases hb
      · cases hb
  · cases hz
end
end Kx

set_option Elab.async false
set_option linter.all false
set_option maxRecDepth 100000
set_option autoImplicit false
namespace Kx
open PySem PySem.Spec L2

/-! ### lists, dicts by what they hold -/
def lstOf (S : Store) : D → Option (List D)
  | .lst ds => some ds
  | .rol ds => some ds
  | .loc n => match S[n]? with
    | some (.lst ds) => some ds
    | _ => none
  | _ => none
def dicOf (S : Store) : D → Option (List D × List D)
  | .dic ks ds => some (ks, ds)
  | .loc n => match S[n]? with
    | some (.dic ks ds) => some (ks, ds)
    | _ => none
  | _ => none
def kOf : D → Option Key
  | .int i => some (.inl i)
  | .str x => some (.inr x)
  | _ => none
theorem kOf_kD (k : Key) : kOf (kD k) = some k := by cases k <;> rfl
theorem kD_of {d : D} {k : Key} (h : kOf d = some k) : d = kD k := by
  cases d <;> simp only [kOf, Option.some.injEq, reduceCtorEq] at h
  · subst h; rfl
  · subst h; rfl
theorem DV_kD {c : Ctx} {k : Key} {v : V} (h : DV c (kD k) v) : v = kV k := by cases k <;> exact h
def dget : List D → List D → Key → Option D
  | a :: ks, d :: ds, k => if kOf a = some k then some d else dget ks ds k
  | _, _, _ => none
def dputs : List D → List D → Key → D → List D
  | a :: ks, d :: ds, k, e => (if kOf a = some k then e else d) :: dputs ks ds k e
  | _, _, _, _ => []
def dhas (ks : List D) (k : Key) : Bool := ks.any fun a => decide (kOf a = some k)
def dput (ks ds : List D) (k : Key) (e : D) : List D × List D := if dhas ks k then (ks, dputs ks ds k e) else (ks ++ [kD k], ds ++ [e])
section
variable {c : Ctx}
theorem dget_ok {k : Key} : ∀ {kvs : List (Key × V)} {ds : List D}, DVs c ds (kvs.map (·.2)) → (∀ d, dget (kvs.map fun p => kD p.1) ds k = some d → ∃ v, valV kvs k = some v ∧ DV c d v) ∧ (dget (kvs.map fun p => kD p.1) ds k = none → valV kvs k = none)
  | [], ds, h => ⟨fun d q => by (cases ds <;> simp [dget] at q), fun _ => rfl⟩
  | p :: kvs, ds, h => by
    cases ds with
    | nil => cases h
    | cons d ds =>
      obtain ⟨v, r, h1, h2, h3⟩ := h
      cases h1
      have ih := dget_ok (k := k) h3
      by_cases hk : p.1 = k
      · have e : kOf (kD p.1) = some k := by rw [kOf_kD, hk]
        refine ⟨fun d' q => ?_, fun q => ?_⟩
        · simp only [List.map_cons, dget, if_pos e, Option.some.injEq] at q
          subst q
          exact ⟨p.2, valV_pos hk, h2⟩
        · simp only [List.map_cons, dget, if_pos e] at q
          cases q
      · have e : ¬ kOf (kD p.1) = some k := by rw [kOf_kD]; simpa using hk
        refine ⟨fun d' q => ?_, fun q => ?_⟩
        · simp only [List.map_cons, dget, if_neg e] at q
          rw [valV_neg hk]
          exact ih.1 d' q
        · simp only [List.map_cons, dget, if_neg e] at q
          rw [valV_neg hk]
          exact ih.2 q
theorem dhas_ok {k : Key} {kvs : List (Key × V)} : dhas (kvs.map fun p => kD p.1) k = kvs.any fun kv => decide (kv.1 = k) := by
  unfold dhas
  rw [List.any_map]
  congr 1
  funext p
  simp [kOf_kD]
theorem dputs_ok {k : Key} {e : D} {v : V} (he : DV c e v) : ∀ {kvs : List (Key × V)} {ds : List D}, DVs c ds (kvs.map (·.2)) → DVs c (dputs (kvs.map fun p => kD p.1) ds k e) ((kvs.map fun kv => if kv.1 = k then (kv.1, v) else kv).map (·.2))
  | [], ds, h => by cases ds with
    | nil => exact DVs.nil
    | cons d ds => obtain ⟨_, _, h1, _⟩ := h; cases h1
  | p :: kvs, ds, h => by
    cases ds with
    | nil => cases h
    | cons d ds =>
      obtain ⟨u, r, h1, h2, h3⟩ := h
      cases h1
      have ih := dputs_ok he (k := k) h3
      simp only [List.map_cons, dputs, kOf_kD, Option.some.injEq]
      by_cases hk : p.1 = k
      · rw [if_pos hk, if_pos hk]; exact DVs.cons he ih
      · rw [if_neg hk, if_neg hk]; exact DVs.cons h2 ih
theorem dput_ok {k : Key} {e : D} {v : V} {kvs : List (Key × V)} {ds : List D} (he : DV c e v) (h : DVs c ds (kvs.map (·.2))) :
    (dput (kvs.map fun p => kD p.1) ds k e).1 = (putK kvs k v).map (fun p => kD p.1) ∧ DVs c (dput (kvs.map fun p => kD p.1) ds k e).2 ((putK kvs k v).map (·.2)) := by
  unfold dput putK
  rw [dhas_ok]
  split
  · refine ⟨?_, dputs_ok he h⟩
    rw [List.map_map]
    apply List.map_congr_left
    intro p _
    simp only [Function.comp_apply]
    split <;> rfl
  · refine ⟨by simp, ?_⟩
    rw [List.map_append]
    exact h.append (DVs.cons he DVs.nil)
end
section
variable {K : PySem.W.Frag} {mg : Str → Option Value} {r : Rg} {S : Store} {H : Hp}
theorem lstOf_ok (s : Sim K mg r S H) {d : D} {v : V} {ds : List D} (h : DV (cx K mg r S H) d v) (e : lstOf S d = some ds) : ∃ a vs, v = .ref a ∧ SqL K H a vs ∧ DVs (cx K mg r S H) ds vs := by
  cases d <;> simp only [lstOf, Option.some.injEq, reduceCtorEq] at e
  · subst e
    obtain ⟨a, vs, h1, h2, h3⟩ := h
    exact ⟨a, vs, h1, sqL_of (lstAt h2), h3⟩
  · subst e
    obtain ⟨a, vs, h1, h2, h3⟩ := h
    exact ⟨a, vs, h1, sqL_of h2, h3⟩
  · rename_i n
    obtain ⟨a, h1, h2⟩ := h
    split at e
    · rename_i ds' q
      cases e
      obtain ⟨vs, h3, h4⟩ := s.cell n _ a q h2
      exact ⟨a, vs, h1, .inl (.inl h3), h4⟩
    · cases e
theorem dicOf_ok (s : Sim K mg r S H) {d : D} {v : V} {ks ds : List D} (h : DV (cx K mg r S H) d v) (e : dicOf S d = some (ks, ds)) : ∃ a kvs, v = .ref a ∧ H a = some (.dK kvs) ∧ ks = kvs.map (fun p => kD p.1) ∧ DVs (cx K mg r S H) ds (kvs.map (·.2)) := by
  cases d <;> simp only [dicOf, Option.some.injEq, reduceCtorEq, Prod.mk.injEq] at e
  · obtain ⟨rfl, rfl⟩ := e
    obtain ⟨a, kvs, h1, h2, _, h3, h4⟩ := h
    exact ⟨a, kvs, h1, h2, h3, h4⟩
  · rename_i n
    obtain ⟨a, h1, h2⟩ := h
    split at e
    · rename_i ks' ds' q
      cases e
      obtain ⟨kvs, h3, h4, h5⟩ := s.cell n _ a q h2
      exact ⟨a, kvs, h1, h3, h4, h5⟩
    · cases e
end
/-! ### subscripts -/
def idxD : OP2 := fun d e S => match d, e with
  | .tup ds, .int i => atI ds i
  | .str x, .int i => if x.length ≤ sizeLine then (atI x.cps.toList i).map fun c => .str ⟨#[c]⟩ else none
  | d, e => match lstOf S d, e with
    | some ds, .int i => atI ds i
    | _, e => match dicOf S d, kOf e with
      | some (ks, ds), some k => dget ks ds k
      | _, _ => none
theorem atI_ok {c : Ctx} {ds : List D} {vs : List V} {i : Int} {d : D} (h : DVs c ds vs) (e : atI ds i = some d) : ∃ v, atI vs i = some v ∧ DV c d v := by
  unfold atI at e ⊢
  rw [← DVs.length h]
  cases q : ixN ds.length i with
  | none => rw [q] at e; cases e
  | some j =>
    rw [q] at e
    exact DVs.get h e
section
variable {X : Cx}
theorem o_idx (hu : X.A.units + 1 < cLine) : IxR X (rd2 X.K X.mg idxD) := by
  intro value slice pins s σ H x y v u Q I rx ry ⟨r, S, d, e, z, sim, dx, dy, hz, hw⟩ hs
  unfold idxD at hz
  split at hz
  · obtain ⟨a, vs, ea, ha, da⟩ := dx
    obtain ⟨w, h1, h2⟩ := atI_ok da hz
    exact ix_tup value slice pins s σ H x y v u Q I rx ry ⟨a, vs, _, w, ea, dy, sqT_of ha, h1, hw.at sim h2⟩ hs
  · split at hz
    · rename_i x' i hl
      cases hc : atI x'.cps.toList i with
      | none => rw [hc] at hz; cases hz
      | some c =>
        rw [hc] at hz
        cases hz
        exact ix_str value slice pins s σ H x y v u Q I rx ry ⟨x', i, c, dx, dy, hl, hc, hw.at sim rfl⟩ hs
    · cases hz
  · split at hz
    · rename_i ds i0 hl _ _
      obtain ⟨a, vs, ea, ha, da⟩ := lstOf_ok sim dx hl
      obtain ⟨w, h1, h2⟩ := atI_ok da hz
      exact ix_list value slice pins s σ H x y v u Q I rx ry ⟨a, vs, i0, w, ea, dy, ha, h1, hw.at sim h2⟩ hs
    · split at hz
      · rename_i ks ds k hd hk
        obtain ⟨a, kvs, ea, ha, ek, dk⟩ := dicOf_ok sim dx hd
        subst ek ea
        rw [kD_of hk] at dy
        have ey := DV_kD dy
        subst ey
        obtain ⟨w, h1, h2⟩ := (dget_ok dk).1 z hz
        have g : DGet H a (kV k) (some w) := by
          have := DGet.k (k := k) ha
          rw [h1] at this
          exact this
        obtain rfl : v = Value.ref a := rx
        exact PyProof.Rows.tail_any (dict_typeIs I g) PySem.F.slot_dict_getitem.lookup (d_getItem hu I g ry fun w' s' I' rw' => ⟨w, H, I', rw', hw.at sim h2⟩) hs
      · cases hz
end
/-! ### slices -/
def cutD (ds : List D) (lo hi : Option Int) : List D := (ds.drop (HT.sIx ds.length 0 lo)).take (HT.sIx ds.length ds.length hi - HT.sIx ds.length 0 lo)
def slD (d : D) (lo hi : Option Int) (S : Store) : Option D := match d with
  | .tup ds => some (.tup (cutD ds lo hi))
  | .str x => if x.length ≤ sizeLine then some (.str (cutS x lo hi)) else none
  | d => (lstOf S d).map fun ds => .lst (cutD ds lo hi)
abbrev MO := En → Store → Res (Option Int)
def oNone : MO := fun _ S => .ok none S
def oSome (e : ME) : MO := fun G S => (e G S).bind fun d S1 => match d with
  | .int i => .ok (some i) S1
  | _ => .err
def eSl (a : ME) (lo hi : MO) : ME := fun G S => (a G S).bind fun d S1 => (lo G S1).bind fun l S2 => (hi G S2).bind fun h S3 => opt (slD d l h S3) S3
section
variable {K : PySem.W.Frag} {mg : Str → Option Value} {r : Rg} {S : Store} {H : Hp}
def GoodO (K : PySem.W.Frag) (mg : Str → Option Value) (r : Rg) (S : Store) (H : Hp) (W : Value → Option Addr → Hp → Prop) (Q : Option Int → Hp → Prop) : Res (Option Int) → Prop
  | .ok b S' => ∀ r' H', Ext r S H r' S' H' → Sim K mg r' S' H' → Q b H'
  | .exc x ns ds S' => Exw K mg r S H x ns ds S' fun C d _ H' => W C d H'
  | .err => False
def rdO (K : PySem.W.Frag) (mg : Str → Option Value) (W : WX) (m : MO) : TO := fun s H Q => ∃ r G S, Sim K mg r S H ∧ EnvR (cx K mg r S H) G s ∧ GoodO K mg r S H (fun C d H' => W C d s H') Q (m G S)
abbrev JO (X : Cx) (W : WX) (e : Option Expr) (m : MO) : Prop := PO X e (rdO X.K X.mg W m)
theorem POw {X : Cx} {e : Option Expr} {t t' : TO} (h : PO X e t) (w : ∀ s H Q, t' s H Q → t s H Q) : PO X e t' := ⟨fun pins s σ H Q I hw => h.run pins s σ H Q I (w σ H Q hw)⟩
theorem jo_none {X : Cx} {W : WX} : JO X W none oNone := POw po_none fun s H Q ⟨r, G, S, sim, env, g⟩ => g r H Ext.refl sim
theorem gEO {z : Res D} {k : D → Store → Res (Option Int)} {W : Value → Option Addr → Hp → Prop} {Q : Option Int → Hp → Prop} (g : GoodO K mg r S H W Q (z.bind k)) :
    GoodE K mg r S H W (fun x H1 => ∃ r1 S1 d, Ext r S H r1 S1 H1 ∧ Sim K mg r1 S1 H1 ∧ DV (cx K mg r1 S1 H1) d x ∧ GoodO K mg r1 S1 H1 W Q (k d S1)) z := by
  cases z with
  | ok d S1 =>
    refine fun r' H' v e s hd => ⟨r', S1, d, e, s, hd, ?_⟩
    have g : GoodO K mg r S H W Q (k d S1) := g
    cases hk : k d S1 with
    | ok b S2 => rw [hk] at g; exact fun r2 H2 e2 s2 => g r2 H2 (e.trans e2) s2
    | exc x ns ds S2 => rw [hk] at g; exact Exw.mono (Q := fun C d _ H' => W C d H') e g fun _ _ _ _ h => h
    | err => rw [hk] at g; exact g
  | exc x ns ds S' => exact g
  | err => exact g
theorem gOE {z : Res (Option Int)} {k : Option Int → Store → Res D} {W : Value → Option Addr → Hp → Prop} {Q : VK} (g : GoodE K mg r S H W Q (z.bind k)) :
    GoodO K mg r S H W (fun o H1 => ∃ r1 S1, Ext r S H r1 S1 H1 ∧ Sim K mg r1 S1 H1 ∧ GoodE K mg r1 S1 H1 W Q (k o S1)) z := by
  cases z with
  | ok d S1 => exact fun r' H' e s => ⟨r', S1, e, s, GoodE.mono e (fun _ _ _ h => h) (fun _ _ h => h) g⟩
  | exc x ns ds S' => exact g
  | err => exact g
theorem GoodO.imp {z : Res (Option Int)} {W : Value → Option Addr → Hp → Prop} {Q Q' : Option Int → Hp → Prop} (g : GoodO K mg r S H W Q z) (h : ∀ v H', Q v H' → Q' v H') : GoodO K mg r S H W Q' z := by
  cases z with
  | ok ds S1 => exact fun r' H' e s => h _ _ (g r' H' e s)
  | exc x ns ds S' => exact g
  | err => exact g
theorem jo_some {X : Cx} {W : WX} {e : Expr} {m : ME} (h : JE X W e m) : JO X W (some e) (oSome m) :=
  POw (po_some h) fun s H Q ⟨r, G, S, sim, env, g⟩ => ⟨r, G, S, sim, env, (gEO g).imp fun x H1 ⟨r1, S1, d, e1, s1, dx, g1⟩ => by
    cases d <;> try exact g1.elim
    rename_i i
    exact ⟨i, dx, g1 r1 H1 Ext.refl s1⟩⟩
theorem cut_dv {c : Ctx} {ds : List D} {vs : List V} {lo hi : Option Int} (h : DVs c ds vs) : DVs c (cutD ds lo hi) (cutV vs lo hi) := by
  unfold cutD cutV
  rw [← DVs.length h]
  exact (h.drop _).take _
def rdSl (K : PySem.W.Frag) (mg : Str → Option Value) : V → Option Int → Option Int → Hp → VK → Prop := fun x lo hi H Q => ∃ r S d z, Sim K mg r S H ∧ DV (cx K mg r S H) d x ∧ slD d lo hi S = some z ∧ Wants K mg r S H z Q
theorem o_sl {X : Cx} : SlR X (rdSl X.K X.mg) := by
  intro pins s σ H x v vl vu lo hi sl Q I rx hs pl pu ⟨r, S, d, z, sim, dx, hz, hw⟩
  unfold slD at hz
  split at hz
  · cases hz
    obtain ⟨a, vs, ea, ha, da⟩ := dx
    refine sl_tupA pins s σ H x v vl vu lo hi sl Q I rx hs pl pu ⟨a, vs, ea, sqT_of ha, fun hwh => ?_, fun _ p hp => hw.newT sim (cut_dv da) hp⟩
    have e : cutV vs lo hi = vs := by
      unfold cutV
      rw [hwh.1, hwh.2]
      simp
    have dc := cut_dv (lo := lo) (hi := hi) da
    rw [e] at dc
    exact hw.at sim ⟨a, vs, rfl, ha, dc⟩
  · split at hz
    · rename_i hl
      cases hz
      exact sl_str pins s σ H x v vl vu lo hi sl Q I rx hs pl pu ⟨_, dx, hl, hw.at sim rfl⟩
    · cases hz
  · rename_i d' _ _
    cases hl : lstOf S d with
    | none => rw [hl] at hz; cases hz
    | some ds =>
      rw [hl] at hz
      cases hz
      obtain ⟨a, vs, ea, ha, da⟩ := lstOf_ok sim dx hl
      exact sl_list pins s σ H x v vl vu lo hi sl Q I rx hs pl pu ⟨a, vs, ea, ha, fun p hp => hw.newL sim (cut_dv da) hp⟩
theorem je_sl {X : Cx} {W : WX} {a : Expr} {lo hi : Option Expr} {ma : ME} {ml mh : MO} {p2 pos : Pos} (ha : JE X W a ma) (hl : JO X W lo ml) (hh : JO X W hi mh) : JE X W (.Subscript a (.Slice lo hi none p2) pos) (eSl ma ml mh) :=
  PEw (pe_slice o_sl ha hl hh) fun s H Q ⟨r, G, S, sim, env, g⟩ => ⟨r, G, S, sim, env, (gE g).imp fun x H1 ⟨r1, S1, d, e1, s1, dx, g1⟩ => ⟨r1, G, S1, s1, env.ext e1, (gOE g1).imp fun l H2 ⟨r2, S2, e2, s2, g2⟩ =>
    ⟨r2, G, S2, s2, (env.ext e1).ext e2, (gOE g2).imp fun h H3 ⟨r3, S3, e3, s3, g3⟩ => let ⟨z, hz, hw⟩ := wants_of g3; ⟨r3, S3, d, z, s3, (dx.ext e2).ext e3, hz, hw⟩⟩⟩⟩
end
/-! ### built-in calls by values -/
def lenD : OPN := fun xs S => match xs with
  | [.str x] => if x.length ≤ sizeLine then some (.int x.length) else none
  | [.tup ds] => some (.int ds.length)
  | [d] => match lstOf S d with
    | some ds => some (.int ds.length)
    | none => (dicOf S d).map fun p => .int p.2.length
  | _ => none
def intD : OPN := fun xs _ => match xs with
  | [.int i] => some (.int i)
  | [.bl b] => some (.int (if b then 1 else 0))
  | _ => none
def min2D : OPN := fun xs _ => match xs with
  | [.int i, .int j] => some (.int (if j < i then j else i))
  | _ => none
def boolsD : List D → Option (List Bool)
  | [] => some []
  | .bl b :: ds => (boolsD ds).map (b :: ·)
  | _ => none
def allD : OPN := fun xs S => match xs with
  | [d] => ((lstOf S d).bind boolsD).map fun bs => .bl (bs.all id)
  | _ => none
def anyD : OPN := fun xs S => match xs with
  | [d] => ((lstOf S d).bind boolsD).map fun bs => .bl (bs.any id)
  | _ => none
def tupD : OPN := fun xs S => match xs with
  | [.tup ds] => some (.tup ds)
  | [d] => (lstOf S d).map .tup
  | _ => none
def listD : OPN := fun xs S => match xs with
  | [.tup ds] => some (.lst ds)
  | [d] => (lstOf S d).map .lst
  | _ => none
theorem dvs1 {c : Ctx} {d : D} {vs : List V} (h : DVs c [d] vs) : ∃ v, vs = [v] ∧ DV c d v := by
  obtain ⟨v, r, h1, h2, h3⟩ := h
  cases (show r = [] from h3)
  exact ⟨v, h1, h2⟩
theorem dvs2 {c : Ctx} {d e : D} {vs : List V} (h : DVs c [d, e] vs) : ∃ v u, vs = [v, u] ∧ DV c d v ∧ DV c e u := by
  obtain ⟨v, r, h1, h2, h3⟩ := h
  obtain ⟨u, h4, h5⟩ := dvs1 h3
  exact ⟨v, u, by rw [h1, h4], h2, h5⟩
section
variable {X : Cx}
theorem c_len : CallR X (.builtin "len") (rdN X.K X.mg lenD) := by
  intro pins s σ H xs us Q I rv ⟨r, S, ds, z, sim, dx, hz, hw⟩
  unfold lenD at hz
  split at hz
  · split at hz
    · rename_i hl
      cases hz
      obtain ⟨v, ev, dv⟩ := dvs1 dx
      exact call_len pins s σ H xs us Q I rv ⟨v, _, ev, by rw [show v = .str _ from dv]; exact ⟨hl, rfl⟩, hw.at sim rfl⟩
    · cases hz
  · cases hz
    obtain ⟨v, ev, a, vs, ea, ha, da⟩ := dvs1 dx
    refine call_len pins s σ H xs us Q I rv ⟨v, vs.length, ev, by rw [ea]; exact .inr ⟨vs, sqT_of ha, rfl⟩, ?_⟩
    rw [← DVs.length da]
    exact hw.at sim rfl
  · obtain ⟨v, ev, dv⟩ := dvs1 dx
    split at hz
    · rename_i hl
      cases hz
      obtain ⟨a, vs, ea, ha, da⟩ := lstOf_ok sim dv hl
      refine call_len pins s σ H xs us Q I rv ⟨v, vs.length, ev, by rw [ea]; exact .inl ⟨vs, ha, rfl⟩, ?_⟩
      rw [← DVs.length da]
      exact hw.at sim rfl
    · rename_i d _ _ _ _
      cases hd : dicOf S d with
      | none => rw [hd] at hz; cases hz
      | some p =>
        obtain ⟨ks, es⟩ := p
        rw [hd] at hz
        cases hz
        obtain ⟨a, kvs, ea, ha, ek, dk⟩ := dicOf_ok sim dv hd
        refine call_lenD pins s σ H xs us Q I rv ⟨a, kvs, by rw [ev, ea], ha, ?_⟩
        have e1 := DVs.length dk
        rw [List.length_map] at e1
        rw [← e1]
        exact hw.at sim rfl
  · cases hz
theorem c_int : CallR X (.type "int") (rdN X.K X.mg intD) := by
  intro pins s σ H xs us Q I rv ⟨r, S, ds, z, sim, dx, hz, hw⟩
  unfold intD at hz
  split at hz
  · cases hz
    obtain ⟨v, ev, dv⟩ := dvs1 dx
    exact call_int1 pins s σ H xs us Q I rv (.inl ⟨_, by rw [ev, show v = .int _ from dv], hw.at sim rfl⟩)
  · cases hz
    obtain ⟨v, ev, dv⟩ := dvs1 dx
    exact call_int1 pins s σ H xs us Q I rv (.inr ⟨_, by rw [ev, show v = .bl _ from dv], hw.at sim rfl⟩)
  · cases hz
theorem c_min2 (hc : X.calm = true) : CallR X (.builtin "min") (rdN X.K X.mg min2D) := by
  intro pins s σ H xs us Q I rv ⟨r, S, ds, z, sim, dx, hz, hw⟩
  unfold min2D at hz
  split at hz
  · cases hz
    obtain ⟨v, u, ev, dv, du⟩ := dvs2 dx
    exact call_min2 hc pins s σ H xs us Q I rv ⟨_, _, by rw [ev, show v = .int _ from dv, show u = .int _ from du], hw.at sim rfl⟩
  · cases hz
theorem bools_ok {c : Ctx} : ∀ {ds : List D} {vs : List V} {bs : List Bool}, DVs c ds vs → boolsD ds = some bs → vs = bs.map V.bl
  | [], vs, bs, h, e => by cases e; rw [show vs = [] from h]; rfl
  | d :: ds, vs, bs, ⟨v, r, h1, h2, h3⟩, e => by
    cases d <;> simp only [boolsD, reduceCtorEq] at e
    rename_i b
    cases q : boolsD ds with
    | none => rw [q] at e; cases e
    | some bs' =>
      rw [q] at e
      cases e
      rw [h1, show v = .bl b from h2, bools_ok h3 q]
      rfl
theorem c_all (hc : X.calm = true) : CallR X (.builtin "all") (rdN X.K X.mg allD) := by
  intro pins s σ H xs us Q I rv ⟨r, S, ds, z, sim, dx, hz, hw⟩
  unfold allD at hz
  split at hz
  · rename_i d
    obtain ⟨v, ev, dv⟩ := dvs1 dx
    cases hl : lstOf S d with
    | none => rw [hl] at hz; cases hz
    | some es =>
      rw [hl] at hz
      cases hb : boolsD es with
      | none => rw [show (some es).bind boolsD = none from hb] at hz; cases hz
      | some bs =>
        rw [show (some es).bind boolsD = some bs from hb] at hz
        cases hz
        obtain ⟨a, vs, ea, ha, da⟩ := lstOf_ok sim dv hl
        exact cr_all hc pins s σ H xs us Q I rv ⟨a, bs, by rw [ev, ea], by rw [← bools_ok da hb]; exact ha, hw.at sim rfl⟩
  · cases hz
theorem c_any (hc : X.calm = true) : CallR X (.builtin "any") (rdN X.K X.mg anyD) := by
  intro pins s σ H xs us Q I rv ⟨r, S, ds, z, sim, dx, hz, hw⟩
  unfold anyD at hz
  split at hz
  · rename_i d
    obtain ⟨v, ev, dv⟩ := dvs1 dx
    cases hl : lstOf S d with
    | none => rw [hl] at hz; cases hz
    | some es =>
      rw [hl] at hz
      cases hb : boolsD es with
      | none => rw [show (some es).bind boolsD = none from hb] at hz; cases hz
      | some bs =>
        rw [show (some es).bind boolsD = some bs from hb] at hz
        cases hz
        obtain ⟨a, vs, ea, ha, da⟩ := lstOf_ok sim dv hl
        exact cr_any hc pins s σ H xs us Q I rv ⟨a, bs, by rw [ev, ea], by rw [← bools_ok da hb]; exact ha, hw.at sim rfl⟩
  · cases hz
theorem c_tuple : CallR X (.type "tuple") (rdN X.K X.mg tupD) := by
  intro pins s σ H xs us Q I rv ⟨r, S, ds, z, sim, dx, hz, hw⟩
  unfold tupD at hz
  split at hz
  · cases hz
    obtain ⟨v, ev, a, vs, ea, ha, da⟩ := dvs1 dx
    exact call_tuple_of pins s σ H xs us Q I rv ⟨a, vs, by rw [ev, ea], .inr ⟨sqT_of ha, hw.at sim ⟨a, vs, rfl, ha, da⟩⟩⟩
  · rename_i d _
    obtain ⟨v, ev, dv⟩ := dvs1 dx
    cases hl : lstOf S d with
    | none => rw [hl] at hz; cases hz
    | some es =>
      rw [hl] at hz
      cases hz
      obtain ⟨a, vs, ea, ha, da⟩ := lstOf_ok sim dv hl
      exact call_tuple_of pins s σ H xs us Q I rv ⟨a, vs, by rw [ev, ea], .inl ⟨ha, fun p hp => hw.newT sim da hp⟩⟩
  · cases hz
theorem c_list : CallR X (.type "list") (rdN X.K X.mg listD) := by
  intro pins s σ H xs us Q I rv ⟨r, S, ds, z, sim, dx, hz, hw⟩
  unfold listD at hz
  split at hz
  · cases hz
    obtain ⟨v, ev, a, vs, ea, ha, da⟩ := dvs1 dx
    exact call_list_of pins s σ H xs us Q I rv ⟨a, vs, by rw [ev, ea], .inr (sqT_of ha), fun p hp => hw.newL sim da hp⟩
  · rename_i d _
    obtain ⟨v, ev, dv⟩ := dvs1 dx
    cases hl : lstOf S d with
    | none => rw [hl] at hz; cases hz
    | some es =>
      rw [hl] at hz
      cases hz
      obtain ⟨a, vs, ea, ha, da⟩ := lstOf_ok sim dv hl
      exact call_list_of pins s σ H xs us Q I rv ⟨a, vs, by rw [ev, ea], .inl ha, fun p hp => hw.newL sim da hp⟩
  · cases hz
end
end Kx

set_option Elab.async false
set_option linter.all false
set_option maxRecDepth 100000
set_option autoImplicit false
namespace Kx
open PySem PySem.Spec L2

/-! ### in -/
def flatD : D → Bool
  | .non => true
  | .bl _ => true
  | .int _ => true
  | .str _ => true
  | _ => false
def eqF : D → D → Bool
  | .non, .non => true
  | .bl a, .bl b => a == b
  | .bl a, .int b => (if a then 1 else 0) == b
  | .int a, .bl b => a == (if b then 1 else 0)
  | .int a, .int b => a == b
  | .str a, .str b => a == b
  | _, _ => false
def inF (x : D) (ds : List D) : Bool := ds.any fun y => eqF y x
def oneSign (x : Str) : Option Nat := match x.cps.toList with
  | [c] => some c
  | _ => none
def inD : OP2 := fun x y S => match x, y with
  | .str a, .str b => (oneSign a).map fun c => .bl (decide (c ∈ b.cps.toList))
  | x, .tup ds => if flatD x && ds.all flatD then some (.bl (inF x ds)) else none
  | x, y => match lstOf S y with
    | some ds => if flatD x && ds.all flatD then some (.bl (inF x ds)) else match toP S x, toPs S ds with
      | some p, some ps => if SeqAt.shaped p && SeqAt.shaped (.list ps) then some (.bl (ps.any fun z => PyData.eqv z p)) else none
      | _, _ => none
    | none => match dicOf S y, kOf x with
      | some (ks, ds), some k => some (.bl (dget ks ds k).isSome)
      | _, _ => none
section
variable {c : Ctx}
theorem flat_ok {d : D} {v : V} (h : DV c d v) (f : flatD d = true) : flatV v = true := by
  cases d <;> first | cases f | skip
  · rw [show v = .non from h]; rfl
  · rw [show v = .bl _ from h]; rfl
  · rw [show v = .int _ from h]; rfl
  · rw [show v = .str _ from h]; rfl
theorem eqF_ok {d e : D} {v u : V} (h : DV c d v) (k : DV c e u) (f : flatD d = true) (g : flatD e = true) : eqV v u = eqF d e := by
  cases d <;> first | cases f | skip
  all_goals (cases e <;> first | cases g | skip)
  all_goals (rw [show v = _ from h, show u = _ from k]; rfl)
theorem flats_ok : ∀ {ds : List D} {vs : List V}, DVs c ds vs → ds.all flatD = true → vs.all flatV = true
  | [], vs, h, _ => by rw [show vs = [] from h]; rfl
  | d :: ds, vs, ⟨v, r, h1, h2, h3⟩, f => by
    simp only [List.all_cons, Bool.and_eq_true] at f
    rw [h1, List.all_cons, flat_ok h2 f.1, flats_ok h3 f.2]
    rfl
theorem inF_ok {x : D} {v : V} (hx : DV c x v) (fx : flatD x = true) : ∀ {ds : List D} {vs : List V}, DVs c ds vs → ds.all flatD = true → inV v vs = inF x ds
  | [], vs, h, _ => by rw [show vs = [] from h]; rfl
  | d :: ds, vs, ⟨u, r, h1, h2, h3⟩, f => by
    simp only [List.all_cons, Bool.and_eq_true] at f
    have ih := inF_ok hx fx h3 f.2
    unfold inV inF at ih ⊢
    rw [h1, List.any_cons, List.any_cons, ih, eqF_ok h2 hx f.1 fx]
theorem oneSign_ok {x : Str} {k : Nat} (h : oneSign x = some k) : x = ⟨#[k]⟩ := by
  unfold oneSign at h
  split at h
  · rename_i c' e
    cases h
    cases x with
    | mk cps =>
      simp only at e
      congr 1
      apply Array.ext'
      rw [e]
  · cases h
end
section
variable {X : Cx}
theorem o_in (hu : X.A.units + 65 < cLine) : OpR X (compareOp .In) (rd2 X.K X.mg inD) := by
  intro pins s σ H x y v u Q I rx ry ⟨r, S, d, e, z, sim, dx, dy, hz, hw⟩
  unfold inD at hz
  split at hz
  · rename_i a b
    cases hc : oneSign a with
    | none => rw [hc] at hz; cases hz
    | some k =>
      rw [hc] at hz
      cases hz
      exact op_in_sign pins s σ H x y v u Q I rx ry ⟨k, b, by rw [show x = .str a from dx, oneSign_ok hc], dy, hw.at sim rfl⟩
  · split at hz
    · rename_i hf
      cases hz
      obtain ⟨f1, f2⟩ := Bool.and_eq_true_iff.mp hf
      obtain ⟨p, vs, ep, hp, dp⟩ := dy
      refine op_in_seq pins s σ H x y v u Q I rx ry ⟨p, vs, ep, .inr (sqT_of hp), flat_ok dx f1, flats_ok dp f2, ?_⟩
      rw [inF_ok dx f1 dp f2]
      exact hw.at sim rfl
    · cases hz
  · split at hz
    · rename_i ds hl
      obtain ⟨p, vs, ep, hp, dp⟩ := lstOf_ok sim dy (by assumption)
      split at hz
      · rename_i hf
        cases hz
        obtain ⟨f1, f2⟩ := Bool.and_eq_true_iff.mp hf
        refine op_in_seq pins s σ H x y v u Q I rx ry ⟨p, vs, ep, .inl hp, flat_ok dx f1, flats_ok dp f2, ?_⟩
        rw [inF_ok dx f1 dp f2]
        exact hw.at sim rfl
      · split at hz
        · rename_i pd ps h1 h2
          split at hz
          · rename_i hs
            cases hz
            obtain ⟨g1, g2⟩ := Bool.and_eq_true_iff.mp hs
            subst ep
            exact op_inD hu pins s σ H x _ v u Q I rx ry ⟨pd, ps, toP_dp _ _ _ dx h1, .lst hp (toPs_dp _ _ _ dp h2), g1, g2, hw.at sim rfl⟩
          · cases hz
        · cases hz
    · split at hz
      · rename_i ks ds k hd hk
        cases hz
        obtain ⟨a, kvs, ea, ha, ek, dk⟩ := dicOf_ok sim dy hd
        subst ek ea
        rw [kD_of hk] at dx
        have ex := DV_kD dx
        subst ex
        have g := DGet.k (k := k) ha
        have eo : (valV kvs k).isSome = (dget (kvs.map fun p => kD p.1) ds k).isSome := by
          cases q : dget (kvs.map fun p => kD p.1) ds k with
          | none => rw [(dget_ok dk).2 q]; rfl
          | some d' => obtain ⟨w, h1, _⟩ := (dget_ok dk).1 d' q; rw [h1]; rfl
        obtain rfl : u = Value.ref a := ry
        exact d_in (by omega) I g rx fun s' I' => ⟨.bl _, H, I', rfl, by rw [eo]; exact hw.at sim rfl⟩
      · cases hz
theorem o_notin (hu : X.A.units + 65 < cLine) : OpR X (compareOp .NotIn) (rd2 X.K X.mg (notOf inD)) := by
  intro pins s σ H x y v u Q I rx ry ⟨r, S, d, e, z, sim, dx, dy, hz, hw⟩
  unfold notOf at hz
  split at hz
  · rename_i bb hb
    cases hz
    unfold inD at hb
    split at hb
    · rename_i a b
      cases hc : oneSign a with
      | none => rw [hc] at hb; cases hb
      | some k =>
        rw [hc] at hb
        cases hb
        exact op_notIn_sign pins s σ H x y v u Q I rx ry ⟨k, b, by rw [show x = .str a from dx, oneSign_ok hc], dy, hw.at sim rfl⟩
    · split at hb
      · rename_i hf
        cases hb
        obtain ⟨f1, f2⟩ := Bool.and_eq_true_iff.mp hf
        obtain ⟨p, vs, ep, hp, dp⟩ := dy
        refine op_notIn_seq pins s σ H x y v u Q I rx ry ⟨p, vs, ep, .inr (sqT_of hp), flat_ok dx f1, flats_ok dp f2, ?_⟩
        rw [inF_ok dx f1 dp f2]
        exact hw.at sim rfl
      · cases hb
    · split at hb
      · rename_i ds hl
        obtain ⟨p, vs, ep, hp, dp⟩ := lstOf_ok sim dy (by assumption)
        split at hb
        · rename_i hf
          cases hb
          obtain ⟨f1, f2⟩ := Bool.and_eq_true_iff.mp hf
          refine op_notIn_seq pins s σ H x y v u Q I rx ry ⟨p, vs, ep, .inl hp, flat_ok dx f1, flats_ok dp f2, ?_⟩
          rw [inF_ok dx f1 dp f2]
          exact hw.at sim rfl
        · split at hb
          · rename_i pd ps h1 h2
            split at hb
            · rename_i hs
              cases hb
              obtain ⟨g1, g2⟩ := Bool.and_eq_true_iff.mp hs
              subst ep
              exact op_notInD hu pins s σ H x _ v u Q I rx ry ⟨pd, ps, toP_dp _ _ _ dx h1, .lst hp (toPs_dp _ _ _ dp h2), g1, g2, hw.at sim rfl⟩
            · cases hb
          · cases hb
      · split at hb
        · rename_i ks ds k hd hk
          cases hb
          obtain ⟨a, kvs, ea, ha, ek, dk⟩ := dicOf_ok sim dy hd
          subst ek ea
          rw [kD_of hk] at dx
          have ex := DV_kD dx
          subst ex
          have g := DGet.k (k := k) ha
          have eo : (valV kvs k).isSome = (dget (kvs.map fun p => kD p.1) ds k).isSome := by
            cases q : dget (kvs.map fun p => kD p.1) ds k with
            | none => rw [(dget_ok dk).2 q]; rfl
            | some d' => obtain ⟨w, h1, _⟩ := (dget_ok dk).1 d' q; rw [h1]; rfl
          obtain rfl : u = Value.ref a := ry
          exact d_notIn (by omega) I g rx fun s' I' => ⟨.bl _, H, I', rfl, by rw [eo]; exact hw.at sim rfl⟩
        · cases hb
  · cases hz
end

/-! ### a dict that is changed: displayed, stored into -/
def eDicC (ks : List Key) (a : MA) : ME := fun G S => (a G S).bind fun ds S1 => if ds.length = ks.length then .ok (.loc S1.length) (S1 ++ [.dic (ks.map kD) ds]) else .err
def eDicV (ks : List Key) (a : MA) : ME := fun G S => (a G S).bind fun ds S1 => if ds.length = ks.length then .ok (.dic (ks.map kD) ds) S1 else .err
theorem put_new {k : Key} {v : V} : ∀ {kvs : List (Key × V)}, k ∉ kvs.map (·.1) → putK kvs k v = kvs ++ [(k, v)] := fun {kvs} h => by
  unfold putK
  rw [if_neg]
  intro q
  obtain ⟨p, hp, e⟩ := List.any_eq_true.mp q
  exact h (List.mem_map.mpr ⟨p, hp, of_decide_eq_true e⟩)
theorem merge_new : ∀ (more kvs : List (Key × V)), ((kvs ++ more).map (·.1)).Nodup → mergeK kvs more = kvs ++ more
  | [], kvs, _ => by simp [mergeK]
  | p :: more, kvs, h => by
    have h1 : p.1 ∉ kvs.map (·.1) := by
      intro q
      rw [List.map_append, List.nodup_append] at h
      exact h.2.2 _ q _ (List.mem_cons_self) rfl
    show mergeK (putK kvs p.1 p.2) more = _
    rw [put_new h1]
    have := merge_new more (kvs ++ [(p.1, p.2)]) (by simpa using h)
    rw [this]
    simp
/-- the pairs of a display: the keys written -/
inductive JPs (X : Cx) (W : WX) (pos : Pos) : List (Option Expr) → List Expr → List Key → MA → Prop
  | nil : JPs X W pos [] [] [] aNil
  | consS {x : Str} {j : Nat} {p : Pos} {v : Expr} {ks : List (Option Expr)} {vs : List Expr} {kk : List Key} {mv : ME} {ma : MA} : JE X W v mv → JPs X W pos ks vs kk ma → JPs X W pos (some (.Constant (.str x) j p) :: ks) (v :: vs) (.inr x :: kk) (aCons mv ma)
section
variable {K : PySem.W.Frag} {mg : Str → Option Value} {X : Cx} {W : WX} {pos : Pos}
theorem jps_read {keys : List (Option Expr)} {vals : List Expr} {kk : List Key} {ma : MA} (h : JPs X W pos keys vals kk ma) :
    ∃ trs, PPs X pos keys vals trs ∧ keys.all (·.isSome) = true ∧ keys.length = vals.length ∧ keys.length = kk.length ∧
      ∀ (r : Rg) (G : En) (S : Store) (H : Hp) (s : L2.St) (R : List (V × V) → Hp → Prop), Sim X.K X.mg r S H → EnvR (cx X.K X.mg r S H) G s → GoodA X.K X.mg r S H (fun C d H' => W C d s H') (fun xs H' => xs.length = kk.length → R ((kk.map kV).zip xs) H') (ma G S) → tPairs trs s H R := by
  induction h with
  | nil => exact ⟨[], pps_nil, rfl, rfl, rfl, fun r G S H s R sim env g => g r H [] Ext.refl sim rfl rfl⟩
  | @consS x j p v ks vs kk mv ma hv hr ih =>
    obtain ⟨trs, h1, h2, h3, h4, h5⟩ := ih
    refine ⟨_, pps_cons pe_str hv h1, by simpa using h2, by simpa using h3, by simpa using h4, fun r G S H s R sim env g => ?_⟩
    refine ⟨r, G, S, sim, env, (gEA g).imp fun y H1 ⟨r1, S1, d, e1, s1, dy, g1⟩ => h5 r1 G S1 H1 s _ s1 (env.ext e1) ((gAA g1).imp fun ys H2 ⟨r2, S2, ds, e2, s2, dys, g2⟩ hlen => ?_)⟩
    have := g2 r2 H2 (y :: ys) Ext.refl s2 (DVs.cons (dy.ext e2) dys) (by simpa using hlen)
    exact this
theorem zip_snd {α β : Type} : ∀ {l : List α} {m : List β}, m.length = l.length → (l.zip m).map (·.2) = m
  | [], [], _ => rfl
  | a :: l, b :: m, h => by simp [zip_snd (l := l) (m := m) (by simpa using h)]
theorem zip_fst {α β : Type} : ∀ {l : List α} {m : List β}, m.length = l.length → (l.zip m).map (·.1) = l
  | [], [], _ => rfl
  | a :: l, b :: m, h => by simp [zip_fst (l := l) (m := m) (by simpa using h)]
theorem zip_kV : ∀ {kk : List Key} {xs : List V}, (kk.map kV).zip xs = (kk.zip xs).map fun kv => (kV kv.1, kv.2)
  | [], _ => rfl
  | _ :: _, [] => rfl
  | k :: kk, x :: xs => by simp [zip_kV (kk := kk) (xs := xs)]
theorem disp_read {trs : List (TE × TE)} {kk : List Key} {ma : MA} {s : L2.St} {H : Hp} {Q : VK} {r : Rg} {G : En} {S : Store} (hnd : kk.Nodup) (h15 : kk.length ≤ 15)
    (h5 : ∀ (r : Rg) (G : En) (S : Store) (H : Hp) (s : L2.St) (R : List (V × V) → Hp → Prop), Sim X.K X.mg r S H → EnvR (cx X.K X.mg r S H) G s → GoodA X.K X.mg r S H (fun C d H' => W C d s H') (fun xs H' => xs.length = kk.length → R ((kk.map kV).zip xs) H') (ma G S) → tPairs trs s H R)
    (sim : Sim X.K X.mg r S H) (env : EnvR (cx X.K X.mg r S H) G s) (S1 : Store) (ds : List D) (he : ma G S = .ok ds S1)
    (hq : ∀ (as : List Addr) (p : Addr) (H1 : Hp) (vs : List V), Ex0 r S H ⟨as, p :: r.z⟩ S1 H1 → (∀ a, a ∈ r.z → H1 a = H a) → Sim X.K X.mg ⟨as, p :: r.z⟩ S1 H1 → DVs (cx X.K X.mg ⟨as, p :: r.z⟩ S1 H1) ds vs → H1 p = some (.dK (kk.zip vs)) → p ∉ r.z → Q (.ref p) H1) :
    ds.length = kk.length → tDisp trs s H Q := by
  intro hlen p hp
  obtain ⟨sp, ep⟩ := sim.reserve (o := .dK []) hp
  refine h5 _ G S _ s _ sp (env.ex0 ep) ?_
  rw [he]
  intro r1 H1 xs e1 s1 dxs hl
  obtain ⟨as1, z1⟩ := r1
  have ez : z1 = p :: r.z := e1.zeq
  subst ez
  refine ⟨(e1.zs p List.mem_cons_self).trans upd_same, kk.zip xs, zip_kV, by rw [List.length_zip]; omega, ?_⟩
  have em : mergeK [] (kk.zip xs) = kk.zip xs := by
    have := merge_new (kk.zip xs) [] (by rw [List.nil_append, zip_fst hl]; exact hnd)
    simpa using this
  rw [em]
  obtain ⟨s2, e2⟩ := s1.remake (p := p) (o := .dK (kk.zip xs)) List.mem_cons_self
  have pz : p ∉ r.z := fun hz => by
    obtain ⟨u, q, _⟩ := sim.res p hz
    rw [hp] at q; cases q
  refine hq as1 p _ xs (ep.trans (e1.toEx0.trans e2)) (fun a ha => ?_) s2 (DVs.ex0 e2 dxs) upd_same pz
  have hap : a ≠ p := fun q => pz (by rw [← q]; exact ha)
  rw [upd_ne hap, e1.zs a (List.mem_cons_of_mem _ ha), upd_ne hap]
/-- an exception while the pairs are reckoned -/
theorem disp_exc {trs : List (TE × TE)} {kk : List Key} {ma : MA} {s : L2.St} {H : Hp} {Q : VK} {r : Rg} {G : En} {S S1 : Store} {x : Str} {ns : List Str} {ds : List D}
    (h5 : ∀ (r : Rg) (G : En) (S : Store) (H : Hp) (s : L2.St) (R : List (V × V) → Hp → Prop), Sim X.K X.mg r S H → EnvR (cx X.K X.mg r S H) G s → GoodA X.K X.mg r S H (fun C d H' => W C d s H') (fun xs H' => xs.length = kk.length → R ((kk.map kV).zip xs) H') (ma G S) → tPairs trs s H R)
    (sim : Sim X.K X.mg r S H) (env : EnvR (cx X.K X.mg r S H) G s) (he : ma G S = .exc x ns ds S1) (g : Exw X.K X.mg r S H x ns ds S1 fun C d _ H' => W C d s H') : tDisp trs s H Q := by
  intro p hp
  obtain ⟨sp, ep⟩ := sim.reserve (o := .dK []) hp
  refine h5 _ G S _ s _ sp (env.ex0 ep) ?_
  rw [he]
  intro r1 H1 C d fs e1 s1 hm hx hn hd
  obtain ⟨as1, z1⟩ := r1
  have ez : z1 = p :: r.z := e1.zeq
  subst ez
  obtain ⟨s3, e3⟩ := s1.release
  have pz : p ∉ r.z := fun hz => by
    obtain ⟨u, q, _⟩ := sim.res p hz
    rw [hp] at q; cases q
  refine g ⟨as1, r.z⟩ H1 C d fs ⟨ep.trans (e1.toEx0.trans e3), rfl, fun a ha => ?_⟩ s3 hm ?_ hn (DVs.ex0 e3 hd)
  · have hap : a ≠ p := fun q => pz (by rw [← q]; exact ha)
    rw [e1.zs a (List.mem_cons_of_mem _ ha), upd_ne hap]
  · cases d with
    | none => exact hx
    | some dx => exact ⟨hx.1, (e3.kp dx _ hx.1 ntX hx.2).2⟩
theorem keys_zip {kk : List Key} {vs : List V} (hv : vs.length = kk.length) : kk.map kD = (kk.zip vs).map fun p => kD p.1 := by
  rw [show (fun p : Key × V => kD p.1) = kD ∘ Prod.fst from rfl, ← List.map_map, zip_fst hv]
/-- what was reserved becomes a cell -/
theorem Sim.adopt {as z : List Addr} {p : Addr} {S : Store} {H : Hp} {c : Cell} (s : Sim K mg ⟨as, p :: z⟩ S H) (pz : p ∉ z) (hl : isDead c = false) (ok : ∀ c0 : Ctx, c0 = cx K mg ⟨as ++ [p], z⟩ (S ++ [c]) H → Ex0 ⟨as, p :: z⟩ S H ⟨as ++ [p], z⟩ (S ++ [c]) H → CellOk c0 p c) :
    Sim K mg ⟨as ++ [p], z⟩ (S ++ [c]) H ∧ Ex0 ⟨as, p :: z⟩ S H ⟨as ++ [p], z⟩ (S ++ [c]) H := by
  have len : as.length = S.length := s.len
  have at_ : ∀ m b k, (as ++ [p])[m]? = some b → (S ++ [c])[m]? = some k → (m < as.length ∧ as[m]? = some b ∧ S[m]? = some k) ∨ (m = as.length ∧ b = p ∧ k = c) := fun m b k h1 h2 => by
    by_cases hm : m < as.length
    · left
      rw [List.getElem?_append_left hm] at h1
      rw [List.getElem?_append_left (by omega)] at h2
      exact ⟨hm, h1, h2⟩
    · right
      have hlt : m < (as ++ [p]).length := (List.getElem?_eq_some_iff.mp h1).1
      have hm2 : m = as.length := by simp at hlt; omega
      subst hm2
      refine ⟨rfl, by simpa using h1.symm, ?_⟩
      rw [len] at h2
      simpa using h2.symm
  have lv : ∀ b, Live ⟨as ++ [p], z⟩ (S ++ [c]) b → Live ⟨as, p :: z⟩ S b := fun b h => by
    rcases h with ⟨m, k, h1, h2, h3⟩ | h
    · rcases at_ m b k h1 h2 with ⟨_, q1, q2⟩ | ⟨_, q, _⟩
      · exact .inl ⟨m, k, q1, q2, h3⟩
      · exact .inr (by rw [q]; exact List.mem_cons_self)
    · exact .inr (List.mem_cons_of_mem _ h)
  have e : Ex0 ⟨as, p :: z⟩ S H ⟨as ++ [p], z⟩ (S ++ [c]) H := ⟨fun n a h => by
    show (as ++ [p])[n]? = some a
    rw [List.getElem?_append_left (List.getElem?_eq_some_iff.mp h).1]; exact h, fun b u h _ nb => ⟨h, fun q => nb (lv b q)⟩⟩
  refine ⟨⟨by simp [len], fun i j b ci cj h1 h2 h3 h4 h5 h6 => ?_, fun m k b h1 h2 => ?_, fun m k b h1 h2 h3 hz => ?_, fun b hb => s.res b (List.mem_cons_of_mem _ hb), s.tab⟩, e⟩
  · rcases at_ i b ci h1 h3 with ⟨_, q1, q2⟩ | ⟨q1, q2, q3⟩
    · rcases at_ j b cj h2 h4 with ⟨_, q3, q4⟩ | ⟨q3, q4, q5⟩
      · exact s.inj i j b ci cj q1 q3 q2 q4 h5 h6
      · exact absurd (show b ∈ p :: z by rw [q4]; exact List.mem_cons_self) (s.zn i ci b q2 q1 h5)
    · rcases at_ j b cj h2 h4 with ⟨_, q4, q5⟩ | ⟨q4, q5, q6⟩
      · exact absurd (show b ∈ p :: z by rw [q2]; exact List.mem_cons_self) (s.zn j cj b q5 q4 h6)
      · omega
  · rcases at_ m b k h2 h1 with ⟨_, q1, q2⟩ | ⟨q1, q2, q3⟩
    · exact (s.cell m k b q2 q1).ext e fun _ => rfl
    · subst q2 q3
      exact ok _ rfl e
  · rcases at_ m b k h2 h1 with ⟨_, q1, q2⟩ | ⟨q1, q2, q3⟩
    · exact s.zn m k b q2 q1 h3 (List.mem_cons_of_mem _ hz)
    · exact pz (by rw [← q2]; exact hz)
theorem je_dicV {keys : List (Option Expr)} {vals : List Expr} {kk : List Key} {ma : MA} (h : JPs X W pos keys vals kk ma) (hnd : kk.Nodup) (h15 : kk.length ≤ 15) (h0 : keys ≠ []) : JE X W (.Dict keys vals pos) (eDicV kk ma) := by
  obtain ⟨trs, h1, h2, h3, h4, h5⟩ := jps_read h
  refine PEw (pe_disp h1 h2 h3 h0 (by omega)) fun s H Q ⟨r, G, S, sim, env, g⟩ => ?_
  unfold eDicV at g
  cases he : ma G S with
  | err => rw [he] at g; exact g.elim
  | exc x ns ds S1 => rw [he] at g; exact disp_exc h5 sim env he g
  | ok ds S1 =>
    rw [he] at g
    have g : GoodE X.K X.mg r S H (fun C d H' => W C d s H') Q (if ds.length = kk.length then .ok (.dic (kk.map kD) ds) S1 else .err) := g
    split at g
    · rename_i hl
      refine disp_read hnd h15 h5 sim env S1 ds he (fun as p H1 vs e1 zz s1 dv hp pz => ?_) hl
      obtain ⟨s3, e3⟩ := s1.release
      have hv : vs.length = kk.length := (DVs.length dv).symm.trans hl
      refine g _ H1 _ ⟨e1.trans e3, rfl, zz⟩ s3 ⟨p, kk.zip vs, rfl, hp, fun l => ?_, keys_zip hv, by rw [zip_snd hv]; exact DVs.ex0 e3 dv⟩
      rcases l with ⟨n, c, h1, h2, h3⟩ | l
      · exact s1.zn n c p h2 h1 h3 List.mem_cons_self
      · exact pz l
    · exact g.elim
theorem je_dicC {keys : List (Option Expr)} {vals : List Expr} {kk : List Key} {ma : MA} (h : JPs X W pos keys vals kk ma) (hnd : kk.Nodup) (h15 : kk.length ≤ 15) (h0 : keys ≠ []) : JE X W (.Dict keys vals pos) (eDicC kk ma) := by
  obtain ⟨trs, h1, h2, h3, h4, h5⟩ := jps_read h
  refine PEw (pe_disp h1 h2 h3 h0 (by omega)) fun s H Q ⟨r, G, S, sim, env, g⟩ => ?_
  unfold eDicC at g
  cases he : ma G S with
  | err => rw [he] at g; exact g.elim
  | exc x ns ds S1 => rw [he] at g; exact disp_exc h5 sim env he g
  | ok ds S1 =>
    rw [he] at g
    have g : GoodE X.K X.mg r S H (fun C d H' => W C d s H') Q (if ds.length = kk.length then .ok (.loc S1.length) (S1 ++ [.dic (kk.map kD) ds]) else .err) := g
    split at g
    · rename_i hl
      refine disp_read hnd h15 h5 sim env S1 ds he (fun as p H1 vs e1 zz s1 dv hp pz => ?_) hl
      have hv : vs.length = kk.length := (DVs.length dv).symm.trans hl
      obtain ⟨s3, e3⟩ := s1.adopt (c := .dic (kk.map kD) ds) pz rfl fun c0 hc e => by
        subst hc
        exact ⟨kk.zip vs, hp, keys_zip hv, by rw [zip_snd hv]; exact DVs.ex0 e dv⟩
      refine g _ H1 _ ⟨e1.trans e3, rfl, zz⟩ s3 ⟨p, rfl, ?_⟩
      have len : as.length = S1.length := s1.len
      show (as ++ [p])[S1.length]? = some p
      rw [← len]; simp
    · exact g.elim
end
end Kx

set_option Elab.async false
set_option linter.all false
set_option maxRecDepth 100000
set_option autoImplicit false
/-! Kj: an own exception class, its __init__ saying super().__init__(text) and self.f = f, called. -/
namespace Kx
open PySem PySem.Spec L2 PySem.W PySem.Calls Builtin Builtin.ObjectAttr

/-- the params of such an __init__ -/
def parB (ps : Arguments) (a b : Str) : Bool := match ps with
  | ⟨[], [x, y], none, [], [], none, []⟩ => decide (x.arg = a) && decide (y.arg = b)
  | _ => false
/-- its body -/
def bodB (ss : List Stmt) (a b : Str) : Bool := match ss with
  | [.Expr (.Call (.Attribute (.Call (.Name s _) [] [] _) i p) [.Constant (.str _) _ _] [] q) _, .Assign [.Attribute (.Name c _) d _] (.Name e _) _] =>
    (p.endLine == q.line) && (decide (s = "super") && (decide (i = "__init__") && (decide (c = a) && (decide (d = b) && decide (e = b)))))
  | _ => false
theorem parB_ok {ps : Arguments} {a b : Str} (h : parB ps a b = true) : ∃ (n1 n2 : Option Expr) (p1 p2 : Pos), ps = ⟨[], [⟨a, n1, p1⟩, ⟨b, n2, p2⟩], none, [], [], none, []⟩ := by
  unfold parB at h
  split at h
  · rename_i x y
    obtain ⟨h1, h2⟩ := Bool.and_eq_true_iff.mp h
    obtain ⟨x, n1, p1⟩ := x
    obtain ⟨y, n2, p2⟩ := y
    cases of_decide_eq_true h1
    cases of_decide_eq_true h2
    exact ⟨n1, n2, p1, p2, rfl⟩
  · cases h
theorem bodB_ok {ss : List Stmt} {a b : Str} (h : bodB ss a b = true) : ∃ (p1 p2 p3 p4 p5 p6 p7 p8 p9 p10 : Pos) (t : Str) (j : Nat), (p3.endLine == p5.line) = true ∧
    ss = [.Expr (.Call (.Attribute (.Call (.Name "super" p1) [] [] p2) "__init__" p3) [.Constant (.str t) j p4] [] p5) p6, .Assign [.Attribute (.Name a p7) b p8] (.Name b p9) p10] := by
  unfold bodB at h
  split at h
  · obtain ⟨h0, h⟩ := Bool.and_eq_true_iff.mp h
    obtain ⟨h1, h⟩ := Bool.and_eq_true_iff.mp h
    obtain ⟨h2, h⟩ := Bool.and_eq_true_iff.mp h
    obtain ⟨h3, h⟩ := Bool.and_eq_true_iff.mp h
    obtain ⟨h4, h5⟩ := Bool.and_eq_true_iff.mp h
    cases of_decide_eq_true h1
    cases of_decide_eq_true h2
    cases of_decide_eq_true h3
    cases of_decide_eq_true h4
    cases of_decide_eq_true h5
    exact ⟨_, _, _, _, _, _, _, _, _, _, _, _, h0, rfl⟩
  · cases h
/-- the field's names of this program -/
def fieldB (b : Str) : Bool := decide (b = "place") || (decide (b = "value") || (decide (b = "line") || decide (b = "most")))
theorem fieldB_ok {b : Str} (h : fieldB b = true) : b = "place" ∨ b = "value" ∨ b = "line" ∨ b = "most" := by
  unfold fieldB at h
  simpa using h
section
variable {s : Shared} {b : Str} {n1 n2 : Option Expr} {p1 p2 : Pos} {name qual : Str} {body : List Stmt} {scope : Scope} {cl : List (Str × Addr)} {doc pm : Value} {an : Option Addr} {cdv ct x u : Value} {kV : Value}
theorem binds_p (hb : fieldB b = true) : BindsTo s (fnX name qual ⟨[], [⟨"self", n1, p1⟩, ⟨b, n2, p2⟩], none, [], [], none, []⟩ body scope cl .none .none doc pm an cdv ct) ⟨[x, u], []⟩ [("self", x), (b, u)] := by
  refine BindsTo.of_eq ?_
  rcases fieldB_ok hb with rfl | rfl | rfl | rfl <;> kernel_rfl
theorem binds_k (hb : fieldB b = true) : BindsTo s (fnX name qual ⟨[], [⟨"self", n1, p1⟩, ⟨b, n2, p2⟩], none, [], [], none, []⟩ body scope cl .none .none doc pm an cdv ct) ⟨[x], [(b, u)]⟩ [("self", x), (b, u)] := by
  refine BindsTo.of_eq ?_
  rcases fieldB_ok hb with rfl | rfl | rfl | rfl <;> kernel_rfl
end

/-- what the written part says of the __init__ at fI of the class at C -/
structure XI (file : Str) (K : Frag) (C fI : Addr) (b : Str) where
  name : Str
  qual : Str
  params : Arguments
  body : List Stmt
  scope : Scope
  doc : Value
  pm : Value
  an : Option Addr
  cda : Addr
  ct : Value
  cc : Addr
  oc : Value
  od : Option Addr
  osl : Array (Option Value)
  lk : K.lookup fI = some ⟨oc, od, .func (fnX name qual params body scope [("__class__", cc)] .none .none doc pm an (.ref cda) ct), osl⟩
  par : parB params "self" b = true
  bod : bodB body "self" b = true
  fld : fieldB b = true
  cod : codeIn K (.ref cda) qual = true
  fil : ∃ ccl cdd vs ccs tf, K.lookup cda = some ⟨ccl, cdd, .fields vs, ccs⟩ ∧ vs[2]? = some (.str file tf)
  cel : ∃ cl cld csl, K.lookup cc = some ⟨cl, cld, .cell (some (.ref C)), csl⟩
  kd : scope.kind = .function
  co : scope.isCoroutine = false
  ge : scope.isGenerator = false
  n1 : scope.names.lookup ("super" : Str) = some .globalImplicit
  n2 : scope.names.lookup ("__class__" : Str) = some .free
  n3 : scope.names.lookup ("self" : Str) = some .local
  n4 : scope.names.lookup b = some .local
  n5 : ∀ x ∈ scope.names, x.2 ≠ .cell
/-- of the class at C, over the built-in B -/
structure XC (K : Frag) (C : Addr) (B newId initId : String) (bmB : List Value) (b : Str) : Prop where
  fb : ExcBaseFacts B newId initId bmB
  st : StoreFacts B bmB "object.__setattr__" "object"
  kf : KxsFacts B initId
  q : excInitIn K C bmB newId = true
  sa : findIn K (.ref C) "__setattr__" = some (some (.builtin "object.__setattr__"))
  ov : excOver K C bmB = true
  tk : takerIn K C b = some none
  hd : hasDictIn K C = true
  su : ks_superIn K C C "__init__" = some (some (.builtin initId))
  sB : subIn K (.ref C) (.type B) = some true
  sC : mroIn K C (.ref C) = some true
  op : nsIn K cStatics "thirdparty.any" = some none

section
variable {P : Program} {w : World} {A : Around} {s : Shared} {K : Frag} {C fI x t : Addr} {b : Str} {u : Value} {args : Args} {R : Result → Shared → Prop} {h₀ : Heap} {mg mb : Str → Option Value} {B newId initId : String} {bmB : List Value}
theorem sup_call {o : Expr} {m : Str} {p3 p4 p5 : Pos} {txt : Str} {j : Nat} {env : Env} (hln : (p3.endLine == p5.line) = true) : eval (.Call (.Attribute o m p3) [.Constant (.str txt) j p4] [] p5) env = (do
      let ov ← attributeBase o m env (eval o env)
      standAt p3.atName
      let (f, first) ← holding [ov] (getMethod ov m (plainOf o env))
      callWith p5 f first (backTo p5 (starEach [.Constant (.str txt) j p4] env)) []) := by
  rw [arm_eval_Call]
  refine congrArg (fun k => attributeBase o m env (eval o env) >>= k) (funext fun ov => ?_)
  refine congrArg (fun k => standAt p3.atName >>= k) (funext fun _ => ?_)
  exact mcall_line rfl hln
theorem int_fn {env : Env} (h : env.scope.kind = .function) : interactive env = false := by
  unfold interactive
  rw [h] <;> rfl
theorem mem0 {α : Type} {a : α} {l : List α} : a ∈ a :: l := List.mem_cons_self
theorem mem1 {α : Type} {a b : α} {l : List α} : a ∈ b :: a :: l := List.mem_cons_of_mem _ List.mem_cons_self
/-- self.b = v: the first field -/
theorem set_first {E : Value → Shared → Prop} {v : Value} {Q : Unit → Shared → Prop} {fv : Array Value} (T : XC K C B newId initId bmB b) (X : K.In s.heap) (hx : s.heap.get? x = some { cls := .ref C, data := .fields fv })
    (hq : ∀ h' tk' dx, (∀ c o, c ≠ x → s.heap.get? c = some o → h'.get? c = some o) → s.heap.objs.size ≤ dx → dx ≠ x → h'.get? x = some { cls := .ref C, dict := some dx, data := .fields fv } →
      h'.Ns1 dx (fun y => if y = b then some v else none) → Q () ⟨h', s.gens, s.drawn, tk', s.os⟩) : wpAny (model P w) A (setAttr (.ref x) b v) Q E s := by
  obtain ⟨hp, g, d, t0, os⟩ := s
  refine set_plain (od := none) X ⟨hx, rfl, rfl, trivial⟩ T.sa (osa_openX (od := none) T.st X ⟨hx, rfl, rfl, trivial⟩ T.ov T.tk fun bb => ?_)
  have hxs : x ≠ hp.objs.size := Nat.ne_of_lt (Heap.lt_size hx)
  obtain ⟨cd, hcd, hh⟩ := any_some T.hd
  have hcls : Looks (model P w) hp (classData C) cd := looks_clsIn X hcd
  obtain ⟨nm, bs, mro, ns, qn, hd, sn, sb, ab, col, del⟩ := cd
  dsimp only at hh
  subst hh
  show wpAny _ _ (storeInOwnDict (.ref x) (.ref C) (.str b t0) b v bb) _ _ _
  unfold storeInOwnDict ownDictForStores
  cases bb <;> repeat (first | with_reducible refine HandSPX.store_in_new ?_ ?_ | with_reducible refine wpAny_loadPart_at hx ?_ | with_reducible refine hcls.at ?_ | wp_step)
  all_goals first
    | exact ⟨_, #[], _, (Heap.get?_update_ne _ _ _ _ hxs.symm).trans (Heap.get?_push_at rfl rfl), rfl, fun e he => absurd he (by simp), fun _ => rfl⟩
    | (intro h' tk' hn' hs
       have hx1 : (hp.push { cls := .type "dict", data := .dict #[] }).get? x = some { cls := .ref C, data := .fields fv } := Heap.get?_push_of_some _ hx
       refine hq h' tk' hp.objs.size (fun c o hb ho => ?_) (Nat.le_refl _) hxs.symm ?_ hn'
       · exact (hs.2 c (Nat.ne_of_lt (Heap.lt_size ho))).trans ((Heap.get?_update_ne _ _ _ _ hb).trans (Heap.get?_push_of_some _ ho))
       · exact (hs.2 x hxs).trans (Heap.get?_update_self _ hx1 rfl))
theorem init_walk (I : XI P.main.file K C fI b) (T : XC K C B newId initId bmB b) (hroom : A.depth < recursionLimit) (X₀ : K.In h₀) (G : h₀.Ns mainGlobals mg) (hs : mg "super" = none) (Bt : h₀.Ns builtinsNs mb) (hb : ∀ y : Str, y ≠ "__name__" → mb y = bootBuiltins y) (nl : h₀.NoLimit)
    (htop : (P.main.scope.names.lookup ("super" : Str)).isSome = false) (k0 : ∀ c o, h₀.get? c = some o → s.heap.get? c = some o) (z0 : h₀.objs.size ≤ s.heap.objs.size) (hx0 : h₀.get? x = none) (hx : s.heap.get? x = some (excObj C t none .none))
    (hbind : BindsTo s (fnX I.name I.qual I.params I.body I.scope [("__class__", I.cc)] .none .none I.doc I.pm I.an (.ref I.cda) I.ct) args [("self", .ref x), (b, u)])
    (q : ∀ h' tk dx t', (∀ c o, h₀.get? c = some o → h'.get? c = some o) → h₀.get? dx = none → dx ≠ x → h'.get? x = some (excObj C t' (some dx) .none) → h'.Ns1 dx (fun y => if y = b then some u else none) → R (.ok (.ret .none)) ⟨h', s.gens, s.drawn, tk, s.os⟩) :
    codeAny (model P w) A (.call (.ref fI) args) R s := by
  obtain ⟨ccl, cdd, vs, ccs, tf, hcode, hvs⟩ := I.fil
  obtain ⟨cl, cld, csl, hcell⟩ := I.cel
  obtain ⟨a1, a2, q1, q2, hpar⟩ := parB_ok I.par
  obtain ⟨p1, p2, p3, p4, p5, p6, p7, p8, p9, p10, txt, j, hln, hbod⟩ := bodB_ok I.bod
  have hboot : bootBuiltins "super" = some (.type "super") := by kernel_rfl
  have Xs : K.In s.heap := X₀.keeps k0
  have hself : ("self" : Str) ≠ b := by
    rcases fieldB_ok I.fld with rfl | rfl | rfl | rfl <;> decide
  refine ks_codeAny_call_defAt (binds := [("self", .ref x), (b, u)]) hroom (Xs _ _ I.lk) rfl (nl.keeps k0) (codeRec_of Xs I.cod) rfl hbind I.n5 (fun y hy => ?_) (fun h1 hns hk1 => ?_) I.co I.ge I.kd
  · rcases List.mem_cons.mp hy with rfl | hy
    · exact I.n3
    · rcases List.mem_cons.mp hy with rfl | hy
      · exact I.n4
      · cases hy
  have e1 : ([(("self" : Str), Value.ref x), (b, u)] : List (Str × Value)).reverse.lookup ("self" : Str) = some (Value.ref x) := by
    have : (("self" : Str) == b) = false := by simpa using hself
    simp [List.lookup, this]
  have e2 : ([(("self" : Str), Value.ref x), (b, u)] : List (Str × Value)).reverse.lookup b = some u := by simp [List.lookup]
  have hxL : x ≠ s.heap.objs.size := Nat.ne_of_lt (Heap.lt_size hx)
  have F1 : PyProof.Rows.Fr h₀ s.heap.objs.size h1 (fun y => ([(("self" : Str), Value.ref x), (b, u)] : List (Str × Value)).reverse.lookup y) := ⟨hns, fun c o e => hk1 c o (k0 c o e), z0⟩
  have N1 : PyProof.Rows.News h₀ s.heap.objs.size h1 [(x, excObj C t none .none)] := fun p hp => by
    rcases List.mem_cons.mp hp with rfl | hp
    · exact ⟨hk1 _ _ hx, hxL, hx0⟩
    · cases hp
  rw [hbod]
  have I1 : InstAt h1 x (excObj C t none .none) C none := InstAt.of_exc0 N1 mem0
  obtain ⟨cdD, hcdD, _⟩ := any_some T.hd
  have X1 : K.In h1 := X₀.keeps F1.keep
  obtain ⟨oD, hD1, hD2⟩ : ∃ oD, h1.get? C = some oD ∧ oD.data = .cls cdD := by
    unfold clsIn at hcdD
    split at hcdD
    · rename_i c d cd' sl ho
      cases hcdD
      exact ⟨_, X1 _ _ ho, rfl⟩
    · cases hcdD
  refine ks_wpAt_execs_cons (ks_wpAt_Expr_any (ks_wpAt_MethodCall (pl := plainOf (.Call (.Name "super" p1) [] [] p2) _) ?_ (sup_call hln)) (int_fn I.kd))
  refine ks_wpAt_super_base (f := fI) (cc := I.cda) (ar := ⟨"self", a1, q1⟩) I.n1 I.n2 (by decide) rfl (X1 _ _ I.lk) rfl (by rw [hpar]; rfl) rfl (X1 _ _ hcode) rfl hvs (by simp) htop ?_
  refine ks_loadName_global I.kd I.n1 (Calls.loadGlobal_builtin (G.keeps F1.keep) hs (Bt.keeps F1.keep) ((hb _ (by decide +kernel)).trans hboot) ⟨rfl, ?_⟩)
  refine wpAny_loadName_free I.kd I.n2 rfl ⟨_, X1 _ _ hcell, rfl⟩ ?_
  refine wpAny_loadName_local I.kd I.n3 F1.ns e1 ?_
  refine ks_wpAny_isType_cls hD1 hD2 ⟨rfl, ?_⟩
  refine ks_wpAny_call_super hD1 hD2 I1.at_ I1.cls (fun c e => ?_) (looks_mroIn X1 T.sC) (fun h2 e k => ?_)
  · cases e
  obtain ⟨F2, N2, l2⟩ := ks_newsPush (s := ⟨h1, s.gens, s.drawn, s.toks + 2, s.os⟩) F1 N1 rfl e k
  have I2 : InstAt h2 x (excObj C t none .none) C none := InstAt.of_exc0 N2 mem1
  refine kxs_method T.kf F2 X₀ N2 mem0 I2 T.op T.su T.sB (by decide) fun q3 h3 F3 N3 l3 => ?_
  refine kxs_callWith1 N3 mem0 (Calls.spliced_cons (Calls.Constant_str (k := j) (pos := p4) (Calls.spliced_nil ⟨kxs_at N3 mem0, ?_⟩)))
  have nx2 : h1.objs.size ≠ x := Nat.ne_of_gt (l2 _ mem0)
  have nx3 : q3 ≠ x := Nat.ne_of_gt (l3 _ mem1)
  refine kxs_call F3 X₀ N3 T.fb T.q mem0 (.tail nx3 (.tail nx2 (.head fun p hp => by cases hp))) (show 1 ≤ sizeLine by rw [sizeLine_eq]; omega) fun t4 h4 F4 N4 l4 => ?_
  refine ks_wpAt_execs_cons (ks_wpAt_Assign_Attr (wpAt_of_wpAny ?_) ?_)
  · refine ESX.ldL F4.ns e2 ?_ I.kd I.n4 ?_
    · refine ESX.ldL F4.ns e1 ?_ I.kd I.n3 (by decide)
      have hx4 := (N4 (x, excObj C t4 none .none) (List.mem_cons_of_mem _ (List.mem_cons_of_mem _ mem1))).1
      refine set_first T (X₀.keeps F4.keep) hx4 fun h5 tk dx k5 z5 d5 e5 n5 => ?_
      refine wpAt_of_wpAny (wpAny_pure (q h5 tk dx t4 (fun c o e => k5 c o (fun z => by rw [z, hx0] at e; cases e) (F4.keep c o e)) ?_ d5 e5 n5))
      cases zd : h₀.get? dx with
      | none => rfl
      | some o =>
        have y := Heap.lt_size (F4.keep dx o zd)
        exact absurd z5 (Nat.not_le_of_lt y)
    · rcases fieldB_ok I.fld with rfl | rfl | rfl | rfl <;> decide
  · rfl
/-- C(u) -/
theorem exc_pos {base : Heap} {E : Value → Shared → Prop} {Q : Value → Shared → Prop} (I : XI P.main.file K C fI b) (T : XC K C B newId initId bmB b) (iC : findIn K (.ref C) "__init__" = some (some (.ref fI))) (tI : typeIn K (.ref fI) = some (.type "function")) (hroom : A.depth + 1 < recursionLimit)
    (M : Mod K mg base) (hk : ∀ c o, base.get? c = some o → s.heap.get? c = some o) (hs : mg "super" = none) (htop : (P.main.scope.names.lookup ("super" : Str)).isSome = false)
    (q : ∀ h' tk x dx t', (∀ c o, s.heap.get? c = some o → h'.get? c = some o) → s.heap.objs.size ≤ x → s.heap.get? dx = none → dx ≠ x → h'.get? x = some (excObj C t' (some dx) .none) → h'.Ns1 dx (fun y => if y = b then some u else none) → Q (.ref x) ⟨h', s.gens, s.drawn, tk, s.os⟩) :
    wpAny (model P w) A (call (.ref C) [u]) Q E s := by
  have X : K.In s.heap := M.kin.keeps hk
  obtain ⟨nm, N, qn, bs, bm, hdct, sn, sub, ab, col, dd, k0, k1, k2, k3, k5, hC, hT⟩ := excInit_of X T.q
  obtain ⟨mb, Bt, hbt⟩ := M.blt
  obtain ⟨h, g, d, t0, os⟩ := s
  obtain ⟨a1, a2, q1, q2, hpar⟩ := parB_ok I.par
  have kp : ∀ c o, h.get? c = some o → (h.push (kdv_tup [u])).get? c = some o := fun c o e => Heap.get?_push_of_some _ e
  have kb : ∀ c o, base.get? c = some o → (h.push (kdv_tup [u])).get? c = some o := fun c o e => kp c o (hk c o e)
  have hget : ((h.push (kdv_tup [u])).push (HandSPX.excO C h.objs.size)).get? (h.objs.size + 1) = some (HandSPX.excO C h.objs.size) := by heap_get
  refine wpAny_call (HandSPX.call_own T.fb hT hC (looks_findIn X iC) (fun self => bind_fn X self tI) (show 1 ≤ sizeLine by rw [sizeLine_eq]; omega) ?_)
  refine init_walk (u := u) (h₀ := h.push (kdv_tup [u])) I T ?_ (M.kin.keeps kb) (M.glob.keeps kb) hs (Bt.keeps kb) hbt (M.nolimit.keeps kb) htop (fun c o e => Heap.get?_push_of_some _ e) (by show (h.push (kdv_tup [u])).objs.size ≤ ((h.push (kdv_tup [u])).push (HandSPX.excO C h.objs.size)).objs.size; rw [Heap.size_push (h.push _)]; exact Nat.le_succ _) (x := h.objs.size + 1) ?_ hget ?_ fun h' tk dx t' k1 k2 k3 k4 k5 => ?_
  · exact hroom
  · exact Heap.get?_none_of_le (by rw [Heap.size_push]; exact Nat.le_refl _)
  · rw [hpar]; exact binds_p I.fld
  · refine ⟨rfl, q h' tk _ dx t' (fun c o e => k1 c o (kp c o e)) (Nat.le_succ _) ?_ k3 k4 k5⟩
    cases z : h.get? dx with
    | none => rfl
    | some o => rw [kp dx o z] at k2; cases k2
end

/-! ### C(b=u) -/
section
variable {prog : Program} {w : World} {M : Model} {A : Around} {E : Value → Shared → Prop} {R : Result → Shared → Prop} {h : Heap} {g : Array GenState} {d : Drawn} {t : Nat} {os : OsState}
variable {nm q : Str} {C N : Addr} {bs bm bmB : List Value} {hdct : Bool} {sn : List Str} {sub : List Value} {ab : Bool} {col : Option Bool} {dd : Option Addr} {k0 k1 k2 k3 k5 : Option Value} {B newId initId : String} {b : Str} {u : Value}
theorem chk_new_kw (F : ExcBaseFacts B newId initId bmB) (hT : ∀ X : String, bm.contains (.type X) = bmB.contains (.type X)) {Q : Unit → Shared → Prop}
    (hC : h.get? C = some (excClassObj nm q C N bs bm hdct sn sub ab col dd k0 k1 k2 k3 k5 newId)) (hq : Q () ⟨h, g, d, t, os⟩) : wpAny M A (checkBuiltinCall newId ⟨[.ref C], [(b, u)]⟩) Q E ⟨h, g, d, t, os⟩ := by
  have hc : (Value.ref C :: bm).contains (.type B) = true := by rw [List.contains_cons, hT, F.hasB, Bool.or_true]
  have hst := F.noStar
  simp only [checkBuiltinCall, F.newKind, F.newSplit, F.newRow]
  repeat (first | refine wpAny_loadPart_at hC ?_ | (refine wpAny_isSubtype_exc hC ?_; rw [hc]) | refine wpAny_staticBase_exc hC ?_ | refine wpAny_madeBy_exc hC ?_ | simp only [bne_self_eq_false, Bool.false_eq_true, if_false] | wp_step)
  exact hq
theorem new_kw (F : ExcBaseFacts B newId initId bmB) (hT : ∀ X : String, bm.contains (.type X) = bmB.contains (.type X))
    (hC : h.get? C = some (excClassObj nm q C N bs bm hdct sn sub ab col dd k0 k1 k2 k3 k5 newId))
    (hq : R (.ok (.ret (.ref (h.objs.size + 1)))) ⟨(h.push (kdv_tup [])).push (HandSPX.excO C h.objs.size), g, d, t, os⟩) :
    codeAny (model prog w) A (.builtin newId ⟨[.ref C], [(b, u)]⟩) R ⟨h, g, d, t, os⟩ := by
  have hends := F.ends
  have hcB : (Value.ref C :: bm).contains (.type B) = true := by rw [List.contains_cons, hT, F.hasB, Bool.or_true]
  have hcA : (Value.ref C :: bm).contains (.type "AttributeError") = false := by rw [List.contains_cons, hT, F.noAttr]; rfl
  have hcN : (Value.ref C :: bm).contains (.type "NameError") = false := by rw [List.contains_cons, hT, F.noName]; rfl
  refine codeAny_builtinAt F.entry ?_
  unfold Builtin.«BaseException.__new__»
  refine wpAt_bind ?_
  show wpAt _ _ _ (stack >>= _) _ _ _
  refine wpAt_bind (wpAt_stack fun p below => wpAt_of_wpAny ?_)
  wp_walk
  refine wpAt_of_wpAny ?_
  rw [F.owner]
  repeat (first | with_reducible refine wpAny_madeHere_exc F.canon hC ?_ | with_reducible refine wpAny_loadPart_at hC ?_ | (with_reducible refine wpAny_isSubtype_exc hC ?_; first | rw [hcB] | rw [hcA] | rw [hcN]) | wp_step)
  show R _ _
  rw [Heap.size_push]
  exact hq
theorem type_kw (F : ExcBaseFacts B newId initId bmB) (hT : ∀ X : String, bm.contains (.type X) = bmB.contains (.type X)) {fI : Addr} {Q : Fin → Shared → Prop}
    (hC : h.get? C = some (excClassObj nm q C N bs bm hdct sn sub ab col dd k0 k1 k2 k3 k5 newId))
    (hi : W.Looks (model prog w) h (typeLookup (.ref C) "__init__") (some (.ref fI))) (hb : ∀ self, W.Looks (model prog w) h (bindSpecial (.ref fI) self) (.ref fI, [self]))
    (hq : codeAny (model prog w) A (.call (.ref fI) ⟨[.ref (h.objs.size + 1)], [(b, u)]⟩)
      (fun r s' => match r with | .ok (.ret v) => v = .none ∧ Q (.done (.ret (.ref (h.objs.size + 1)))) s' | .ok _ => False | .error e => E e s')
      ⟨(h.push (kdv_tup [])).push (HandSPX.excO C h.objs.size), g, d, t, os⟩) :
    wpAny (model prog w) A (Builtin.«type.__call__» ⟨[.ref C], [(b, u)]⟩) Q E ⟨h, g, d, t, os⟩ := by
  repeat (first | with_reducible refine wpAny_loadPart_at hC ?_ | with_reducible refine wpAny_madeBy_exc hC ?_ | wp_step)
  refine codeAny_call_builtin_code (Code.quiet_builtin _ F.quiet) (chk_new_kw F hT hC ?_)
  refine new_kw F hT hC ?_
  show wpAny _ _ _ _ _ _
  have k : ∀ b o, h.get? b = some o → ((h.push (kdv_tup [])).push (HandSPX.excO C h.objs.size)).get? b = some o := fun b o e => Heap.get?_push_of_some _ (Heap.get?_push_of_some _ e)
  have hC1 := k _ _ hC
  have hget : ((h.push (kdv_tup [])).push (HandSPX.excO C h.objs.size)).get? (h.objs.size + 1) = some (HandSPX.excO C h.objs.size) := by heap_get
  have hcC : (Value.ref C :: bm).contains (.ref C) = true := by simp
  have i1 := hi.keeps k
  have b1 := (hb (.ref (h.objs.size + 1))).keeps k
  unfold isInstance
  repeat (first | with_reducible refine wpAny_loadPart_at hget ?_ | (with_reducible refine wpAny_isSubtype_exc hC1 ?_; rw [hcC]) | wp_step)
  show wpAny _ _ (typeLookup (.ref C) _) _ _ _
  refine i1.at ?_
  refine wpAny_holding (wpAny_bind (b1.at ?_))
  refine wpAny_bind (wpAny_call (codeAny_mono hq fun r s' z => ?_))
  rcases r with e | (v | _ | _ | _) <;> first | exact z | exact z.elim | skip
  obtain ⟨rfl, z⟩ := z
  first
    | exact wpAny_pure (wpAny_pure z)
    | (wp_walk; exact z)
theorem chk_type_kw {Q : Unit → Shared → Prop} (hC : h.get? C = some (excClassObj nm q C N bs bm hdct sn sub ab col dd k0 k1 k2 k3 k5 newId))
    (hq : Q () ⟨h, g, d, t, os⟩) : wpAny M A (checkBuiltinCall "type.__call__" ⟨[.ref C], [(b, u)]⟩) Q E ⟨h, g, d, t, os⟩ := by
  have f3 := tc_sub
  have hT : (⟨h, g, d, t, os⟩ : Shared).TypeIs (.ref C) "type" := ⟨_, hC, rfl⟩
  simp only [checkBuiltinCall, tc_kind, tc_split]
  repeat (any_goals (first | assumption | with_reducible refine wpAny_loadPart_at hC ?_ | with_reducible refine wpAny_onRaise ?_ | with_reducible refine wpAny_map ?_ | wp_step))
theorem call_kw (F : ExcBaseFacts B newId initId bmB) (hT : ∀ X : String, bm.contains (.type X) = bmB.contains (.type X)) {fI : Addr}
    (hC : h.get? C = some (excClassObj nm q C N bs bm hdct sn sub ab col dd k0 k1 k2 k3 k5 newId))
    (hi : W.Looks (model prog w) h (typeLookup (.ref C) "__init__") (some (.ref fI))) (hb : ∀ self, W.Looks (model prog w) h (bindSpecial (.ref fI) self) (.ref fI, [self]))
    (hq : codeAny (model prog w) (A.under (.builtin "type.__call__" ⟨[.ref C], [(b, u)]⟩)) (.call (.ref fI) ⟨[.ref (h.objs.size + 1)], [(b, u)]⟩) (W.InitBack (h.objs.size + 1) R)
      ⟨(h.push (kdv_tup [])).push (HandSPX.excO C h.objs.size), g, d, t, os⟩) :
    codeAny (model prog w) A (.call (.ref C) ⟨[], [(b, u)]⟩) R ⟨h, g, d, t, os⟩ := by
  have f1 := tc_lookup
  have f2 := tc_bind (.ref C)
  have hTy : (⟨h, g, d, t, os⟩ : Shared).TypeIs (.ref C) "type" := ⟨_, hC, rfl⟩
  refine codeAny_of_tree ?_
  show wpAny _ _ (callAny (.ref C) _) _ _ _
  repeat (any_goals (first | assumption | with_reducible refine wpAny_loadPart_at hC ?_ | wp_step))
  refine ⟨rfl, ?_⟩
  refine codeAny_call_builtin_at (Code.quiet_builtin _ (by decide +kernel)) entry_typeCall (chk_type_kw hC (type_kw F hT hC hi hb ?_))
  refine codeAny_mono hq fun r s' z => ?_
  rcases r with e | (v | _ | _ | _) <;> exact z
end
end Kx

set_option Elab.async false
set_option linter.all false
set_option maxRecDepth 100000
set_option autoImplicit false
/-! Kk: isinstance of an own exception, its field read, an own exception made as a value. -/
namespace Kx
open PySem PySem.Spec L2 PySem.W PySem.Calls
open He (ga ma)
section
variable {prog : Program} {w : World} {A : Around} {E : Value → Shared → Prop} {s : Shared} {K : Frag} {x D : Addr} {ox : Obj} {od : Option Obj}
theorem find_data {C : Addr} {name : Str} {a g : Value} (hc : (clsIn K C).isSome = true) (ha : findIn K (.ref C) name = some (some a)) (hg : specialIn K a "__get__" = some (some g)) (ht : takesIn K a = some true) : findObj K C od name = some (.bind g a) := by
  obtain ⟨cd, hc⟩ := Option.isSome_iff_exists.mp hc
  unfold findObj
  rw [hc, Option.bind_some, ha, Option.bind_some]
  simp [hg, ht]
theorem exc_class {Q : Option Value → Shared → Prop} (T : ExcC K D) (X : K.In s.heap) (I : InstAt s.heap x ox D od) (h : Q (some (.ref D)) { s with toks := s.toks + 1 }) : wpAny (model prog w) A (getAttr? (.ref x) "__class__") Q E s := by
  have hf : findObj K D od "__class__" = some (.bind (.builtin "getset_descriptor.__get__") (.builtin "object.__class__")) := find_data (by obtain ⟨cd, hc, _⟩ := any_some T.hd; rw [hc]; rfl) T.ha T.hn T.ht
  obtain ⟨hp, g, d, t, os⟩ := s
  have L0 := I.type (M := model prog w)
  have L1 := looks_findIn (M := model prog w) X T.hg
  have L2 := looks_findIn (M := model prog w) X T.hk
  have L3 := looks_find (M := model prog w) X I hf
  have sub : Looks (model prog w) hp (isInstance (.ref x) (.type "BaseException")) true := L0.andThen (looks_subIn X T.hs)
  have hx2 : (Value.builtin "BaseException.__getattribute__" == Value.builtin "object.__getattribute__") = false := by decide +kernel
  have hx1 : (onTheHeap (Value.ref D) && Value.builtin "BaseException.__getattribute__" == Value.builtin "object.__getattribute__") = false := by rw [hx2]; rfl
  unfold getAttr? getAttrBy? getAttrBy
  refine wpAny_bind (wpAny_mkText (wpAny_bind (wpAny_attempt (wpAny_holding (wpAny_bind (L0.at (wpAny_bind (L1.at ?_))))))))
  show wpAny _ _ (if (onTheHeap (Value.ref D) && Value.builtin "BaseException.__getattribute__" == Value.builtin "object.__getattribute__") = true then _ else _) _ _ _
  rw [hx1, if_neg Bool.false_ne_true]
  unfold getAttrByItsOwn hookBefore
  refine wpAny_bind ?_
  rw [if_pos (show onTheHeap (Value.ref D) = true from rfl)]
  refine L2.at ?_
  refine wpAny_bind (wpAny_attempt (wpAny_holding ?_))
  unfold callGetattribute
  rw [if_neg (show ¬ ((false && onTheHeap (Value.builtin "BaseException.__getattribute__")) = true) from Bool.false_ne_true)]
  unfold boundAndCalled
  rw [PySem.F.excAttr_ValueError.ga.bind (.ref x)]
  refine wpAny_bind (wpAny_pure ?_)
  show wpAny _ _ (call (.builtin "BaseException.__getattribute__") [.ref x, .str "__class__" t]) _ _ _
  refine wpAny_call (codeAny_call_builtin PySem.F.excAttr_ValueError.ga.plain PySem.F.entry_bexc_ga ?_)
  refine @check_slot (model prog w) _ _ ⟨hp, g, d, t + 1, os⟩ "BaseException.__getattribute__" "BaseException" "__getattribute__" (.ref x) [.str "__class__" t] [] _ (by decide +kernel) (by decide +kernel) sub (PySem.F.args_bexc_ga (.ref x) (.str "__class__" t)) ?_
  unfold Builtin.«object.__getattribute__»
  refine wpAny_bind (wpAny_of_eq (a := ((Value.ref x : Value), [Value.str "__class__" t])) (by first | rfl | (simp only [slotArgs]; rfl)) ?_)
  refine wpAny_bind (wpAny_pure (wpAny_bind (L0.at (wpAny_bind (L3.at ?_)))))
  show wpAny _ _ (holding [Value.builtin "object.__class__"] (call (.builtin "getset_descriptor.__get__") [.builtin "object.__class__", .ref x, .ref D]) >>= ret) _ _ _
  refine wpAny_bind (wpAny_holding (wpAny_call (class_get (s := ⟨hp, g, d, t + 1, os⟩) (ox := ox) (od := od) X I T.hm ?_)))
  refine wpAny_pure ?_
  show wpAny _ _ (handedOut (.ref D)) _ _ _
  rw [handedOut_of (v := .ref D) rfl]
  first
    | exact wpAny_pure (wpAny_pure h)
    | exact wpAny_pure h
    | exact wpAny_pure (wpAny_bind (wpAny_pure (wpAny_pure h)))
theorem kit_exc (T : ExcC K D) : KitX K (.ref x) (.ref D) (fun h => InstAt h x ox D od) where
  ty := fun _ _ _ I => I.type
  it := fun _ _ X _ => by
    obtain ⟨cd, hc, _⟩ := any_some T.hd
    unfold clsIn at hc
    split at hc
    · rename_i c' d' cd' sl' ho
      intro A' Q' E' s' k q
      unfold isType loadHead
      exact wpAny_bind (wpAny_loadPart (k _ _ (X _ _ ho)) (wpAny_pure q))
    · cases hc
  ne := fun h tp dd its n sl X htp => by
    obtain ⟨cd, hc, _⟩ := any_some T.hd
    refine Bool.eq_false_iff.mpr fun q => ?_
    have e : D = tp := Value.ref.inj (beq_iff_eq.mp q)
    subst e
    unfold clsIn at hc
    split at hc
    · rename_i c' d' cd' sl' ho
      cases (X _ _ ho).symm.trans htp
    · cases hc
  ca := fun X I k => exc_class T X I k
end

/-! ### the classes of the program -/
/-- own exception classes, own plain classes; which own classes, which built-in types stand above; which fields are read -/
structure ITab where
  exs : List Str
  ins : List Str
  sub : List (Str × List Str)
  bas : List (Str × List String)
  fld : List (Str × List Str)
def ITab.cls (T : ITab) : List Str := T.exs ++ T.ins
def ITab.isSub (T : ITab) (c x : Str) : Bool := ((T.sub.lookup c).getD []).contains x
def ITab.isBas (T : ITab) (c : Str) (n : String) : Bool := ((T.bas.lookup c).getD []).contains n
def ITab.has (T : ITab) (c f : Str) : Bool := ((T.fld.lookup c).getD []).contains f
def valTys : List String := ["NoneType", "bool", "int", "str", "tuple", "list", "dict"]
def askTys : List String := ["str", "int", "bool", "tuple", "list", "dict", "ValueError", "LookupError", "OverflowError", "NoneType"]
def tyTy (a b : String) : Bool := a == b || (a == "bool" && b == "int")
theorem tyTy_ok : (valTys.all fun a => askTys.all fun b => kitB a b == some (tyTy a b)) = true := by decide +kernel
/-- what the written part says of them -/
structure IFacts (T : ITab) (K : Frag) (mg : Str → Option Value) : Prop where
  glo : ∀ c, c ∈ T.cls → mg c = some (.ref (ga K c))
  exc : ∀ c, c ∈ T.exs → ExcC K (ga K c)
  ins : ∀ c, c ∈ T.ins → Cls K (ga K c) ∧ findIn K (.ref (ga K c)) "__class__" = some (some (.builtin "object.__class__")) ∧ specialIn K (.builtin "object.__class__") "__get__" = some (some (.builtin "getset_descriptor.__get__")) ∧
    takesIn K (.builtin "object.__class__") = some true ∧ mroIn K (ga K c) (.type "object") = some true
  own : ∀ c x, c ∈ T.cls → x ∈ T.cls → kitOne K (.ref (ga K c)) (.ref (ga K x)) = some (T.isSub c x)
  bas : ∀ c n, c ∈ T.cls → n ∈ askTys → kitOne K (.ref (ga K c)) (.type n) = some (T.isBas c n)
  val : ∀ n x, n ∈ valTys → x ∈ T.cls → kitOne K (.type n) (.ref (ga K x)) = some false
  fld : ∀ c f, c ∈ T.cls → T.has c f = true → findIn K (.ref (ga K c)) f = some none
  ne : ∀ c, c ∈ T.ins → findIn K (.ref (ga K c)) "__ne__" = some (some (.builtin "object.__ne__"))
/-- the type of a value -/
inductive Tg where
  | ty (n : String) | own (c : Str)
def Tg.v (K : Frag) : Tg → Value
  | .ty n => .type n
  | .own c => .ref (ga K c)
def tagC : Cell → Option Tg
  | .dead => none
  | .lst _ => some (.ty "list")
  | .dic _ _ => some (.ty "dict")
  | .ins c _ _ => some (.own c)
def tagD (S : Store) : D → Option Tg
  | .non => some (.ty "NoneType")
  | .bl _ => some (.ty "bool")
  | .int _ => some (.ty "int")
  | .str _ => some (.ty "str")
  | .tup _ => some (.ty "tuple")
  | .lst _ => some (.ty "list")
  | .rol _ => some (.ty "list")
  | .dic _ _ => some (.ty "dict")
  | .ins c _ _ => some (.own c)
  | .exc c _ _ => some (.own c)
  | .loc n => (S[n]?).bind tagC
  | .fn _ => none
  | .ty _ => none
def isOne (T : ITab) : Tg → D → Option Bool
  | .ty a, .ty n => if valTys.contains a && askTys.contains n then some (tyTy a n) else none
  | .own c, .ty n => if T.cls.contains c && askTys.contains n then some (T.isBas c n) else none
  | .ty a, .fn x => if valTys.contains a && T.cls.contains x then some false else none
  | .own c, .fn x => if T.cls.contains c && T.cls.contains x then some (T.isSub c x) else none
  | _, _ => none
def isAny (T : ITab) (t : Tg) : List D → Option Bool
  | [] => some false
  | d :: ds => match isOne T t d with
    | some true => some true
    | some false => isAny T t ds
    | none => none
/-- a value that isinstance asks: an instance's class must be one of the table -/
def askOk (T : ITab) (S : Store) : D → Bool
  | .ins c _ _ => T.ins.contains c
  | .exc c _ _ => T.exs.contains c
  | .loc n => match S[n]? with
    | some (.ins c _ _) => T.ins.contains c
    | _ => true
  | _ => true
def isiD (T : ITab) : OPN := fun ds S => match ds with
  | [d, e] => if askOk T S d then match tagD S d, e with
    | some t, .tup cs => (isAny T t cs).map .bl
    | some t, c => (isOne T t c).map .bl
    | none, _ => none else none
  | _ => none
theorem mem_of {α : Type} [BEq α] [LawfulBEq α] {a : α} {l : List α} (h : l.contains a = true) : a ∈ l := by simpa using h
section
variable {T : ITab} {K : Frag} {mg : Str → Option Value}
theorem isOne_ok {c : Ctx} (F : IFacts T c.K c.mg) {t : Tg} {e : D} {y : V} {u : Value} {b : Bool} (h : isOne T t e = some b) (dy : DV c e y) (ry : RelV y u) : kitOne c.K (t.v c.K) u = some b := by
  unfold isOne at h
  split at h
  · split at h
    · rename_i a n hc
      cases h
      obtain ⟨h1, h2⟩ := Bool.and_eq_true_iff.mp hc
      cases (show y = .ty n from dy)
      cases (show u = .type n from ry)
      have := List.all_eq_true.mp (List.all_eq_true.mp tyTy_ok a (mem_of h1)) n (mem_of h2)
      exact kit_ty (beq_iff_eq.mp this)
    · cases h
  · split at h
    · rename_i a n hc
      cases h
      obtain ⟨h1, h2⟩ := Bool.and_eq_true_iff.mp hc
      cases (show y = .ty n from dy)
      cases (show u = .type n from ry)
      exact F.bas _ _ (mem_of h1) (mem_of h2)
    · cases h
  · split at h
    · rename_i a n hc
      cases h
      obtain ⟨h1, h2⟩ := Bool.and_eq_true_iff.mp hc
      obtain ⟨q, e1, e2⟩ := dy
      subst e1
      cases (show u = .ref q from ry)
      rw [F.glo _ (mem_of h2)] at e2
      cases e2
      exact F.val _ _ (mem_of h1) (mem_of h2)
    · cases h
  · split at h
    · rename_i a n hc
      cases h
      obtain ⟨h1, h2⟩ := Bool.and_eq_true_iff.mp hc
      obtain ⟨q, e1, e2⟩ := dy
      subst e1
      cases (show u = .ref q from ry)
      rw [F.glo _ (mem_of h2)] at e2
      cases e2
      exact F.own _ _ (mem_of h1) (mem_of h2)
    · cases h
  · cases h
theorem isAny_ok {c : Ctx} (F : IFacts T c.K c.mg) {t : Tg} : ∀ {es : List D} {ys : List V} {us : List Value} {b : Bool}, isAny T t es = some b → DVs c es ys → Vals ys us → kitAny c.K (t.v c.K) us = some b
  | [], ys, us, b, h, dy, ry => by
    cases dy
    cases ry
    exact h
  | e :: es, ys, us, b, h, ⟨y, r, e1, dy, dr⟩, ry => by
    subst e1
    cases ry with
    | cons r1 r2 =>
      unfold isAny at h
      split at h
      · rename_i h1
        cases h
        exact kitAny_cons (isOne_ok F h1 dy r1) (fun z => by cases z) (fun _ => rfl)
      · rename_i h1
        exact kitAny_cons (isOne_ok F h1 dy r1) (fun _ => isAny_ok F h dr r2) (fun z => by cases z)
      · cases h
end
section
variable {X : Cx} {T : ITab} {pins : List (Addr × Obj)} {σ : L2.St} {H : Hp} {s : Shared}
/-- an exception that is a value -/
theorem exv_at {P : Program} {w : World} {h : Heap} {e C : Addr} {d : Option Addr} (hok : HOk P w H h) (he : H e = some (exv e C d)) : ∃ (vs : Array Value) (sl : Array (Option Value)), h.get? e = some ({ cls := .ref C, dict := d, data := .fields vs, slots := sl } : Obj) := by
  have x : ObjOk P w H h e (.ext fun h => ∃ (vs : Array Value) (sl : Array (Option Value)), h.get? e = some ({ cls := .ref C, dict := d, data := .fields vs, slots := sl } : Obj)) := hok e _ he
  exact x.1
theorem exv_ok {P : Program} {w : World} {h : Heap} {e C : Addr} {d : Option Addr} {vs : Array Value} {sl : Array (Option Value)} (he : h.get? e = some ({ cls := .ref C, dict := d, data := .fields vs, slots := sl } : Obj)) : ObjOk P w H h e (exv e C d) :=
  ⟨⟨vs, sl, he⟩, ⟨_, he⟩, fun h1 h2 z k => by
    obtain ⟨v, t, q⟩ := z
    exact ⟨v, t, k _ q⟩⟩
/-- the instance, with its dict -/
theorem exv_inst {P : Program} {w : World} {h : Heap} {e C : Addr} {d : Option Addr} {fs : List (Str × V)} {K : Frag} {mg : Str → Option Value} {r : List Addr} {lv : Addr → Prop} (hok : HOk P w H h) (he : H e = some (exv e C d)) (hd : XdAt ⟨K, mg, r, lv, H⟩ d fs) :
    ∃ ox od, InstAt h e ox C od ∧ ∀ f v, fs.lookup f = some v → ∃ o u, od = some o ∧ RelV v u ∧ lookIn f o = some (some u) := by
  obtain ⟨vs, sl, ho⟩ := exv_at hok he
  cases d with
  | none => exact ⟨_, none, ⟨ho, rfl, rfl, trivial⟩, fun f v q => by rw [show fs = [] from hd] at q; cases q⟩
  | some dx =>
    obtain ⟨mA, hns, rel⟩ := (show ObjOk P w H h dx (.xd fs) from hok dx _ hd.1)
    obtain ⟨od, h1, h2⟩ := lookIn_ns hns
    refine ⟨_, some od, ⟨ho, rfl, rfl, h1⟩, fun f v q => ?_⟩
    obtain ⟨u, hu, ru⟩ := RelO.some_of (v := v) (o := mA f) (by rw [← q]; exact rel f)
    exact ⟨od, u, rfl, ru, by rw [h2, hu]⟩
theorem kit_D {r : Rg} {S : Store} {d : D} {x : V} {u : Value} {t : Tg} (F : IFacts T X.K X.mg) (I : Inv X pins σ H s) (sim : Sim X.K X.mg r S H) (dx : DV (cx X.K X.mg r S H) d x) (rx : RelV x u) (ht : tagD S d = some t) (ha : askOk T S d = true) :
    ∃ P : Heap → Prop, KitX X.K u (t.v X.K) P ∧ P s.heap ∧ u ≠ .builtin "__main__.__loader__#opaque" := by
  have insI : ∀ {c : Str} {C a dx : Addr} {fs : List (Str × V)}, T.ins.contains c = true → X.mg c = some (.ref C) → H a = some (.ins C dx fs) → TyX X.K H (.ref a) (.ref (ga X.K c)) := fun {c C a dx fs} hc hm hH => by
    have g1 := F.glo c (List.mem_append_right _ (mem_of hc))
    rw [g1] at hm
    cases hm
    obtain ⟨c1, c2, c3, c4, c5⟩ := F.ins c (mem_of hc)
    exact .base (.ins hH c1 c2 c3 c4 c5)
  match d with
  | .non => cases ht; cases (show x = .non from dx); exact kit_of I rx (.base .non)
  | .bl b => cases ht; cases (show x = .bl b from dx); exact kit_of I rx (.base (.bl b))
  | .int b => cases ht; cases (show x = .int b from dx); exact kit_of I rx (.base (.int b))
  | .str b => cases ht; cases (show x = .str b from dx); exact kit_of I rx (.base (.str b))
  | .tup ds =>
    cases ht
    obtain ⟨a, vs, ea, h2, _⟩ := dx
    subst ea
    rcases h2 with ⟨h2, _⟩ | ⟨o, its, n, h2, h3, _⟩
    · rcases h2 with h2 | ⟨o, h2⟩
      · exact kit_of I rx (.base (.tup h2))
      · exact kit_of I rx (.fTuple h2)
    · exact kit_of I rx (.kTuple h2 h3)
  | .lst ds =>
    cases ht
    obtain ⟨a, vs, ea, h2, _⟩ := dx
    subst ea
    exact kit_of I rx (.base (.lst h2.1))
  | .rol ds =>
    cases ht
    obtain ⟨a, vs, ea, h2, _⟩ := dx
    subst ea
    rcases h2 with ⟨h2, _⟩ | ⟨o, its, n, h2, h3, _⟩
    · rcases h2 with h2 | ⟨o, h2⟩
      · exact kit_of I rx (.base (.lst h2))
      · exact kit_of I rx (.base (.frz h2))
    · exact kit_of I rx (.kList h2 h3)
  | .dic ks ds =>
    cases ht
    obtain ⟨a, kvs, ea, h2, _⟩ := dx
    subst ea
    exact kit_of I rx (.base (.dK h2))
  | .ins c ns ds =>
    cases ht
    obtain ⟨a, C, dd, fs, ea, hm, h2, _⟩ := dx
    subst ea
    exact kit_of I rx (insI ha hm h2)
  | .exc c ns ds =>
    cases ht
    obtain ⟨a, C, dd, fs, ea, hm, h2, _, hd, _⟩ := dx
    subst ea
    cases (show u = .ref a from rx)
    have hm : X.mg c = some (.ref C) := hm
    rw [F.glo c (List.mem_append_left _ (mem_of ha))] at hm
    cases hm
    obtain ⟨ox, od, J, _⟩ := exv_inst I.hok h2 hd
    exact ⟨_, kit_exc (F.exc c (mem_of ha)), J, fun z => nomatch z⟩
  | .loc n =>
    obtain ⟨a, ea, h2⟩ := dx
    subst ea
    have ht : (S[n]?).bind tagC = some t := ht
    cases hS : S[n]? with
    | none => rw [hS] at ht; cases ht
    | some cl =>
      rw [hS] at ht
      have ck := sim.cell n cl a hS h2
      cases cl with
      | dead => cases ht
      | lst ds =>
        cases ht
        obtain ⟨vs, h3, _⟩ := ck
        exact kit_of I rx (.base (.lst h3))
      | dic ks ds =>
        cases ht
        obtain ⟨vs, h3, _⟩ := ck
        exact kit_of I rx (.base (.dK h3))
      | ins c ns ds =>
        cases ht
        have ha : (match S[n]? with
          | some (.ins c _ _) => T.ins.contains c
          | _ => true) = true := ha
        rw [hS] at ha
        obtain ⟨C, dd, fs, hm, h3, _⟩ := ck
        exact kit_of I rx (insI ha hm h3)
  | .fn n => cases ht
  | .ty n => cases ht
theorem c_isi (F : IFacts T X.K X.mg) : CallR X (.builtin "isinstance") (rdN X.K X.mg (isiD T)) := by
  intro pins s σ H xs us Q I rv ⟨r, S, ds, z, sim, dx, hz, hw⟩
  unfold isiD at hz
  split at hz
  · rename_i d e
    obtain ⟨v1, v2, ev, dv1, dv2⟩ := dvs2 dx
    subst ev
    obtain ⟨u1, u2, rfl, r1, r2⟩ := vals2 rv
    split at hz
    · rename_i hask
      split at hz
      · rename_i t cs ht
        cases hA : isAny T t cs with
        | none => rw [hA] at hz; cases hz
        | some b =>
          rw [hA] at hz
          cases hz
          obtain ⟨P, Z, p, hx⟩ := kit_D F I sim dv1 r1 ht hask
          obtain ⟨a, vs, ea, h2, dvs⟩ := dv2
          subst ea
          cases (show u2 = .ref a from r2)
          have key : ∃ (its : List Value) (n : Nat) (dd : Option Addr) (sl : Array (Option Value)), s.heap.get? a = some ⟨.type "tuple", dd, .seq its.toArray n, sl⟩ ∧ Vals vs its := by
            rcases h2 with ⟨h2, _⟩ | ⟨o, its, n, h2, h3, h4, _, h6⟩
            · rcases h2 with h2 | ⟨o, h2⟩
              · obtain ⟨_, its, rv, o, g1, g2, n, g3⟩ := (show ObjOk X.prog X.w H s.heap a (.tup vs) from I.hok a _ h2)
                obtain ⟨oc, od, dt, sl⟩ := o
                simp only at g2 g3
                subst g2 g3
                exact ⟨_, n, od, sl, g1, rv⟩
              · obtain ⟨_, _, its, rv, o, g1, g2, n, g3⟩ := (show ObjOk X.prog X.w H s.heap a (.frz o (.tup vs)) from I.hok a _ h2)
                obtain ⟨oc, od, dt, sl⟩ := o
                simp only at g2 g3
                subst g2 g3
                exact ⟨_, n, od, sl, g1, rv⟩
            · have g1 := I.kIn a o h2
              obtain ⟨oc, od, dt, sl⟩ := o
              simp only at h3 h4
              subst h3 h4
              exact ⟨its.toList, n, od, sl, by simpa using g1, h6⟩
          obtain ⟨its, n, dd, sl, g1, rvs⟩ := key
          exact kia_tup Z I.kIn p g1 (isAny_ok (c := cx X.K X.mg r S H) F hA dvs rvs) hx fun tk => ⟨.bl b, H, I.tok tk, rfl, hw.at sim rfl⟩
      · rename_i e _ _ t ht _
        cases hA : isOne T t e with
        | none => rw [hA] at hz; cases hz
        | some b =>
          rw [hA] at hz
          cases hz
          obtain ⟨P, Z, p, hx⟩ := kit_D F I sim dv1 r1 ht hask
          exact kia_one Z I.kIn p (isOne_ok (c := cx X.K X.mg r S H) F hA dv2 r2) hx fun tk => ⟨.bl b, H, I.tok tk, rfl, hw.at sim rfl⟩
      · cases hz
    · cases hz
  · cases hz

/-! ### fields -/
def fldOf : List Str → List D → Str → Option D
  | n :: ns, d :: ds, f => if f = n then some d else fldOf ns ds f
  | _, _, _ => none
theorem fldOf_ok {c : Ctx} {f : Str} {d : D} : ∀ {fs : List (Str × V)} {ds : List D}, fldOf (fs.map (·.1)) ds f = some d → DVs c ds (fs.map (·.2)) → ∃ v, fs.lookup f = some v ∧ DV c d v
  | [], _, h, _ => by cases h
  | (n, v) :: fs, [], h, _ => by cases h
  | (n, v) :: fs, e :: ds, h, ⟨w, r, e1, h2, h3⟩ => by
    cases e1
    have h : (if f = n then some e else fldOf (fs.map (·.1)) ds f) = some d := h
    by_cases hf : f = n
    · rw [if_pos hf] at h
      cases h
      exact ⟨v, by rw [lookup_put, if_pos hf], h2⟩
    · rw [if_neg hf] at h
      obtain ⟨u, g1, g2⟩ := fldOf_ok h h3
      exact ⟨u, by rw [lookup_put, if_neg hf]; exact g1, g2⟩
def fldD (T : ITab) (f : Str) : OP1 := fun d S => match d with
  | .exc c ns ds => if T.exs.contains c && T.has c f then fldOf ns ds f else none
  | .ins c ns ds => if T.ins.contains c && T.has c f then fldOf ns ds f else none
  | .loc n => match S[n]? with
    | some (.ins c ns ds) => if T.ins.contains c && T.has c f then fldOf ns ds f else none
    | _ => none
  | _ => none
theorem je_fld {W : WX} {e : Expr} {f : Str} {pos : Pos} {me : ME} (F : IFacts T X.K X.mg) (he : JE X W e me) (hb : attributeBase e f X.env (eval e X.env) = eval e X.env := by rfl) : JE X W (.Attribute e f pos) (e1 (fldD T f) me) := by
  refine je_1 (fun {t} ht => ⟨fun pins s σ H Q I h => ?_⟩) he
  refine attr_of hb (thn (ht.run pins s σ H _ I h) fun u s1 ⟨x, H1, I1, rx, r, S, d, z, sim, dx, hz, hw⟩ => ?_)
  have insI : ∀ {c : Str} {C a dd : Addr} {fs : List (Str × V)} {ds : List D}, (T.ins.contains c && T.has c f) = true → X.mg c = some (.ref C) → H1 a = some (.ins C dd fs) → u = .ref a → fldOf (fs.map (·.1)) ds f = some z → DVs (cx X.K X.mg r S H1) ds (fs.map (·.2)) →
      wpAny (model X.prog X.w) X.A (getAttr u f true) (EP X pins σ Q) X.xe s1 := fun {c C a dd fs ds} hc hm hH hu hl hd => by
    subst hu
    obtain ⟨h1, h2⟩ := Bool.and_eq_true_iff.mp hc
    have hc' : c ∈ T.cls := List.mem_append_right _ (mem_of h1)
    rw [F.glo c hc'] at hm
    cases hm
    obtain ⟨v, hv, dv⟩ := fldOf_ok hl hd
    exact getattr_ok I1 hH (F.ins c (mem_of h1)).1 (F.fld c f hc' h2) hv fun u' s2 I2 ru => ⟨v, H1, I2, ru, hw.at sim dv⟩
  unfold fldD at hz
  split at hz
  · split at hz
    · rename_i c ns ds hc
      obtain ⟨a, C, dd, fs, ea, hm, h2, _, hd, hn, hds⟩ := dx
      subst ea hn
      cases (show u = .ref a from rx)
      obtain ⟨h1, h3⟩ := Bool.and_eq_true_iff.mp hc
      have hc' : c ∈ T.cls := List.mem_append_left _ (mem_of h1)
      have hm : X.mg c = some (.ref C) := hm
      rw [F.glo c hc'] at hm
      cases hm
      obtain ⟨v, hv, dv⟩ := fldOf_ok hz hds
      obtain ⟨ox, od, J, look⟩ := exv_inst I1.hok h2 hd
      obtain ⟨o, u', e1, ru, e2⟩ := look f v hv
      subst e1
      have E := F.exc c (mem_of h1)
      exact HandSPX.exc_get I1.kIn J E.hg E.hk E.hs (findObj_own E.hd (F.fld c f hc' h3) rfl e2) (handed_of ru) ⟨v, H1, I1.tok _, ru, hw.at sim dv⟩
    · cases hz
  · split at hz
    · rename_i c ns ds hc
      obtain ⟨a, C, dd, fs, ea, hm, h2, _, hn, hds⟩ := dx
      subst ea hn
      exact insI hc hm h2 rx hz hds
    · cases hz
  · rename_i n
    obtain ⟨a, ea, h2⟩ := dx
    subst ea
    split at hz
    · rename_i c ns ds hS
      split at hz
      · rename_i hc
        obtain ⟨C, dd, fs, hm, h3, hn, hds⟩ := sim.cell n _ a hS h2
        subst hn
        exact insI hc hm h3 rx hz hds
      · cases hz
    · cases hz
  · cases hz
end
end Kx

set_option Elab.async false
set_option linter.all false
set_option maxRecDepth 100000
set_option autoImplicit false
/-! Kl: own exceptions made as values. -/
namespace Kx
open PySem PySem.Spec L2 PySem.W PySem.Calls
open He (ga ma)
section
variable {P : Program} {w : World} {A : Around} {s : Shared} {K : Frag} {C fI : Addr} {b : Str} {u : Value} {mg : Str → Option Value} {B newId initId : String} {bmB : List Value}
theorem exc_kw {base : Heap} {E : Value → Shared → Prop} {Q : Value → Shared → Prop} (I : XI P.main.file K C fI b) (T : XC K C B newId initId bmB b) (iC : findIn K (.ref C) "__init__" = some (some (.ref fI))) (tI : typeIn K (.ref fI) = some (.type "function")) (hroom : A.depth + 1 < recursionLimit)
    (M : Mod K mg base) (hk : ∀ c o, base.get? c = some o → s.heap.get? c = some o) (hs : mg "super" = none) (htop : (P.main.scope.names.lookup ("super" : Str)).isSome = false)
    (q : ∀ h' tk x dx t', (∀ c o, s.heap.get? c = some o → h'.get? c = some o) → s.heap.objs.size ≤ x → s.heap.get? dx = none → dx ≠ x → h'.get? x = some (excObj C t' (some dx) .none) → h'.Ns1 dx (fun y => if y = b then some u else none) → Q (.ref x) ⟨h', s.gens, s.drawn, tk, s.os⟩) :
    wpAny (model P w) A (call (.ref C) [] [(b, u)]) Q E s := by
  have X : K.In s.heap := M.kin.keeps hk
  obtain ⟨nm, N, qn, bs, bm, hdct, sn, sub, ab, col, dd, k0, k1, k2, k3, k5, hC, hT⟩ := excInit_of X T.q
  obtain ⟨mb, Bt, hbt⟩ := M.blt
  obtain ⟨h, g, d, t0, os⟩ := s
  obtain ⟨a1, a2, q1, q2, hpar⟩ := parB_ok I.par
  have kp : ∀ c o, h.get? c = some o → (h.push (kdv_tup [])).get? c = some o := fun c o e => Heap.get?_push_of_some _ e
  have kb : ∀ c o, base.get? c = some o → (h.push (kdv_tup [])).get? c = some o := fun c o e => kp c o (hk c o e)
  have hget : ((h.push (kdv_tup [])).push (HandSPX.excO C h.objs.size)).get? (h.objs.size + 1) = some (HandSPX.excO C h.objs.size) := by heap_get
  refine wpAny_call (call_kw T.fb hT hC (looks_findIn X iC) (fun self => bind_fn X self tI) ?_)
  refine init_walk (u := u) (h₀ := h.push (kdv_tup [])) I T ?_ (M.kin.keeps kb) (M.glob.keeps kb) hs (Bt.keeps kb) hbt (M.nolimit.keeps kb) htop (fun c o e => Heap.get?_push_of_some _ e) (by show (h.push (kdv_tup [])).objs.size ≤ ((h.push (kdv_tup [])).push (HandSPX.excO C h.objs.size)).objs.size; rw [Heap.size_push (h.push _)]; exact Nat.le_succ _) (x := h.objs.size + 1) ?_ hget ?_ fun h' tk dx t' k1 k2 k3 k4 k5 => ?_
  · exact hroom
  · exact Heap.get?_none_of_le (by rw [Heap.size_push]; exact Nat.le_refl _)
  · rw [hpar]; exact binds_k I.fld
  · refine ⟨rfl, q h' tk _ dx t' (fun c o e => k1 c o (kp c o e)) (Nat.le_succ _) ?_ k3 k4 k5⟩
    cases z : h.get? dx with
    | none => rfl
    | some o => rw [kp dx o z] at k2; cases k2
end
/-- an own exception class with one field -/
structure XK1 (P : Program) (K : Frag) (C : Addr) (b : Str) : Prop where
  ex : ∃ fI B newId initId bmB, Nonempty (XI P.main.file K C fI b) ∧ XC K C B newId initId bmB b ∧ findIn K (.ref C) "__init__" = some (some (.ref fI)) ∧ typeIn K (.ref fI) = some (.type "function")
  kp : keepIn K (.ref C) = true
  ra : subIn K (.ref C) (.type "BaseException") = some true ∧ typeIn K (.ref C) = some (.type "type")
/-- an own exception class whose __init__ is the built-in's -/
structure XK0 (K : Frag) (C : Addr) : Prop where
  ex : ∃ B newId initId bmB, ExcBaseFacts B newId initId bmB ∧ findIn K (.ref C) "__init__" = some (some (.builtin initId)) ∧ excInitIn K C bmB newId = true
  kp : keepIn K (.ref C) = true
  ra : subIn K (.ref C) (.type "BaseException") = some true ∧ typeIn K (.ref C) = some (.type "type")
def eExc (c f : Str) (m : ME) : ME := fun G S => (m G S).bind fun d S1 => .ok (.exc c [f] [d]) S1
def eExc0 (c : Str) : ME := fun _ S => .ok (.exc c [] []) S
section
variable {X : Cx} {W : WX} {pins : List (Addr × Obj)} {σ : L2.St} {H : Hp} {s : Shared}
/-- the two things laid -/
theorem laid2 {h' : Heap} {tk : Nat} {x dx C t : Addr} {b : Str} {y : V} {u : Value} (I : Inv X pins σ H s) (k : ∀ c o, s.heap.get? c = some o → h'.get? c = some o) (hx : s.heap.get? x = none) (hd : s.heap.get? dx = none) (ne : dx ≠ x)
    (ox : h'.get? x = some (excObj C t (some dx) .none)) (od : h'.Ns1 dx (fun y => if y = b then some u else none)) (ry : RelV y u) :
    H x = none ∧ H dx = none ∧ Inv X pins σ (upd (upd H dx (.xd [(b, y)])) x (exv x C (some dx))) ⟨h', s.gens, s.drawn, tk, s.os⟩ := by
  have n1 : H x = none := I.hok.gone hx
  have n2 : H dx = none := I.hok.gone hd
  refine ⟨n1, n2, ?_⟩
  obtain ⟨G, g1, g2⟩ := restrict h' fun c => decide (c ≠ x)
  have gk : ∀ c, c ≠ x → G.get? c = h'.get? c := fun c hc => g1 c (decide_eq_true hc)
  have gx : G.get? x = none := g2 x (by simp)
  have sx : ∀ c o, s.heap.get? c = some o → c ≠ x := fun c o e z => by rw [z, hx] at e; cases e
  have J := I.laidN (t' := tk) (h' := G) (a := dx) (o := .xd [(b, y)]) (fun c o e => (gk c (sx c o e)).trans (k c o e)) hd n2 ⟨_, od.at fun o q => (gk dx ne).trans q, relO_put (fs := []) ry fun g => True.intro⟩
  have J2 := J.laidN (t' := tk) (h' := h') (a := x) (o := exv x C (some dx)) (fun c o e => by
    have hc : c ≠ x := fun z => by rw [z, gx] at e; cases e
    rw [← gk c hc]; exact e) gx (by rw [upd_ne ne.symm]; exact n1) (exv_ok ox)
  exact J2

theorem room_deep {k : Nat} {A : Around} (r : Room k A) : A.depth + 1 < recursionLimit := by
  have := r.dp
  omega
/-- what is told of the new exception -/
theorem exc_tell {K : Frag} {mg : Str → Option Value} {r : Rg} {S : Store} {H : Hp} {c b : Str} {C x dx : Addr} {d : D} {y : V} (sim : Sim K mg r S H) (hm : mg c = some (.ref C)) (n1 : H x = none) (n2 : H dx = none) (ne : dx ≠ x) (dy : DV (cx K mg r S H) d y) :
    Sim K mg r S (upd (upd H dx (.xd [(b, y)])) x (exv x C (some dx))) ∧ Ext r S H r S (upd (upd H dx (.xd [(b, y)])) x (exv x C (some dx))) ∧ DV (cx K mg r S (upd (upd H dx (.xd [(b, y)])) x (exv x C (some dx)))) (.exc c [b] [d]) (.ref x) := by
  obtain ⟨s1, e1⟩ := sim.newv (o := .xd [(b, y)]) n2
  have nx : upd H dx (.xd [(b, y)]) x = none := by rw [upd_ne ne.symm]; exact n1
  obtain ⟨s2, e2⟩ := s1.newv (o := exv x C (some dx)) nx
  refine ⟨s2, e1.trans e2, x, C, some dx, [(b, y)], rfl, hm, upd_same, s1.fresh nx, ⟨?_, sim.fresh n2⟩, rfl, DVs.cons ((dy.ext e1).ext e2) DVs.nil⟩
  show upd _ _ _ dx = _
  rw [upd_ne ne, upd_same]
theorem je_exc1 {x b : Str} {C : Addr} {e : Expr} {m : ME} {p pos : Pos} {k : Nat} (T : XK1 X.prog X.K C b) (hs : X.mg "super" = none) (htop : (X.prog.main.scope.names.lookup ("super" : Str)).isSome = false) (hr : Room k X.A) (hg : Gl X x) (hm : X.mg x = some (.ref C)) (ha : JE X W e m)
    (hdb : (x == ("__debug__" : Str)) = false := by decide) (he : starEach [e] X.env = (false, eval e X.env) :: starEach [] X.env := by rfl) : JE X W (.Call (.Name x p) [e] [] pos) (eExc x b m) := by
  obtain ⟨fI, B, newId, initId, bmB, ⟨XIi⟩, XCi, iC, tI⟩ := T.ex
  refine PEw (t := fun σ H Q => rdE X.K X.mg W m σ H fun y H1 => ∀ x dx, H1 x = none → H1 dx = none → dx ≠ x → Q (.ref x) (upd (upd H1 dx (.xd [(b, y)])) x (exv x C (some dx)))) ⟨fun pins s σ H Q I h => ?_⟩ ?_
  · refine wpAny_Call_Name_kw (ld_glob I hg hm ?_ hdb)
    refine callWith_K (h₀ := X.base) I.ok.mod.kin T.kp ?_ he rfl
    rw [he]
    refine Calls.spliced_cons (thn (ha.run pins s σ H _ I h) fun u s1 ⟨y, H1, I1, ry, q⟩ => Calls.spliced_nil ⟨I1.kIn, ?_⟩)
    refine exc_pos XIi XCi iC tI (room_deep hr) I1.mod (fun c o e => I1.bk c o e) hs htop fun h' tk x dx t' k1 k2 k3 k4 k5 k6 => ?_
    obtain ⟨n1, n2, J⟩ := laid2 (tk := tk) I1 k1 (Heap.get?_none_of_le k2) k3 k4 k5 k6 ry
    exact ⟨.ref x, _, J, rfl, q x dx n1 n2 k4⟩
  · intro σ H Q ⟨r, G, S, sim, env, g⟩
    refine ⟨r, G, S, sim, env, (gE g).imp fun y H1 ⟨r1, S1, d, e1, s1, dy, g1⟩ x dx n1 n2 ne => ?_⟩
    obtain ⟨s2, e2, dv⟩ := exc_tell (b := b) s1 hm n1 n2 ne dy
    exact g1 r1 _ _ e2 s2 dv
theorem je_exck {x b : Str} {C : Addr} {e : Expr} {m : ME} {p pos kp : Pos} {k : Nat} (T : XK1 X.prog X.K C b) (hs : X.mg "super" = none) (htop : (X.prog.main.scope.names.lookup ("super" : Str)).isSome = false) (hr : Room k X.A) (hg : Gl X x) (hm : X.mg x = some (.ref C)) (ha : JE X W e m)
    (hdb : (x == ("__debug__" : Str)) = false := by decide) : JE X W (.Call (.Name x p) [] [⟨some b, e, kp⟩] pos) (eExc x b m) := by
  obtain ⟨fI, B, newId, initId, bmB, ⟨XIi⟩, XCi, iC, tI⟩ := T.ex
  refine PEw (t := fun σ H Q => rdE X.K X.mg W m σ H fun y H1 => ∀ x dx, H1 x = none → H1 dx = none → dx ≠ x → Q (.ref x) (upd (upd H1 dx (.xd [(b, y)])) x (exv x C (some dx)))) ⟨fun pins s σ H Q I h => ?_⟩ ?_
  · refine wpAny_Call_Name_kw (ld_glob I hg hm ?_ hdb)
    refine callWith_KW0 (h₀ := X.base) I.ok.mod.kin T.kp rfl ?_
    refine thn ((pk_cons (nm := some b) (kpos := kp) ha pk_nil).run pos pins s σ H (fun ys H1 => ∃ y, ys = [y] ∧ ∀ x dx, H1 x = none → H1 dx = none → dx ≠ x → Q (.ref x) (upd (upd H1 dx (.xd [(b, y)])) x (exv x C (some dx)))) I ?_) fun us s1 ⟨ys, H1, I1, ry, y, ey, q⟩ => ⟨I1.kIn, ?_⟩
    · obtain ⟨r, G, S, sim, env, g⟩ := h
      exact ⟨r, G, S, sim, env, g.imp fun y H1 q => ⟨y, rfl, q⟩⟩
    subst ey
    obtain ⟨u, eu, ru⟩ : ∃ u, us = [u] ∧ RelV y u := by
      cases ry with
      | cons r1 r2 => cases r2; exact ⟨_, rfl, r1⟩
    subst eu
    refine exc_kw XIi XCi iC tI (room_deep hr) I1.mod (fun c o e => I1.bk c o e) hs htop fun h' tk x dx t' k1 k2 k3 k4 k5 k6 => ?_
    obtain ⟨n1, n2, J⟩ := laid2 (tk := tk) I1 k1 (Heap.get?_none_of_le k2) k3 k4 k5 k6 ru
    exact ⟨.ref x, _, J, rfl, q x dx n1 n2 k4⟩
  · intro σ H Q ⟨r, G, S, sim, env, g⟩
    refine ⟨r, G, S, sim, env, (gE g).imp fun y H1 ⟨r1, S1, d, e1, s1, dy, g1⟩ x dx n1 n2 ne => ?_⟩
    obtain ⟨s2, e2, dv⟩ := exc_tell (b := b) s1 hm n1 n2 ne dy
    exact g1 r1 _ _ e2 s2 dv
theorem je_exc0 {x : Str} {C : Addr} {p pos : Pos} (T : XK0 X.K C) (hg : Gl X x) (hm : X.mg x = some (.ref C)) (hdb : (x == ("__debug__" : Str)) = false := by decide) : JE X W (.Call (.Name x p) [] [] pos) (eExc0 x) := by
  obtain ⟨B, newId, initId, bmB, F, hi, q⟩ := T.ex
  refine PEw (t := fun σ H Q => ∀ x, H x = none → Q (.ref x) (upd H x (exv x C none))) ⟨fun pins s σ H Q I h => ?_⟩ ?_
  · refine wpAny_Call_Name_kw (ld_glob I hg hm ?_ hdb)
    refine callWith_K0 I.kIn T.kp ?_
    obtain ⟨nm, N, qn, bs, bm, hdct, sn, sub, ab, col, dd, k0, k1, k2, k3, k5, hC, hT⟩ := excInit_of I.kIn q
    have hn : ∀ j, s.heap.get? (s.heap.objs.size + j) = none := fun j => Heap.get?_none_of_le (Nat.le_add_right _ _)
    refine call_B F hT hC (looks_findIn I.kIn hi) (Nat.zero_le _) fun h' k he ht => ?_
    have n1 : H (s.heap.objs.size + 1) = none := I.hok.gone (hn 1)
    exact ⟨.ref _, _, I.laidN (t' := s.toks) (h' := h') (a := s.heap.objs.size + 1) (o := exv (s.heap.objs.size + 1) C none) k (hn 1) n1 (exv_ok he), rfl, h _ n1⟩
  · intro σ H Q ⟨r, G, S, sim, env, g⟩ x n1
    obtain ⟨s2, e2⟩ := sim.newv (o := exv x C none) n1
    exact g r _ _ e2 s2 ⟨x, C, none, [], rfl, hm, upd_same, sim.fresh n1, rfl, rfl, DVs.nil⟩
end
end Kx

set_option Elab.async false
set_option linter.all false
set_option maxRecDepth 100000
set_option autoImplicit false
/-! Km: repr of values. -/
namespace Kx
open PySem PySem.Spec L2
mutual
def toR : D → Option PyData
  | .non => some .none
  | .bl b => some (.bool b)
  | .int i => some (.int i)
  | .str x => some (.str x)
  | .tup ds => (toRs ds).map .tuple
  | .lst ds => (toRs ds).map .list
  | .dic ks ds => match toKs ks, toRs ds with
    | some a, some b => if a.length = b.length then some (.dict (a.zip b)) else none
    | _, _ => none
  | _ => none
def toRs : List D → Option (List PyData)
  | [] => some []
  | d :: ds => match toR d, toRs ds with
    | some p, some ps => some (p :: ps)
    | _, _ => none
def toKs : List D → Option (List PyData)
  | [] => some []
  | d :: ds => match toR d, toKs ds with
    | some p, some ps => some (p :: ps)
    | _, _ => none
end
def keyP : Key → PyData
  | .inl i => .int i
  | .inr x => .str x
theorem toKs_map : ∀ {l : List Key} {ps : List PyData}, toKs (l.map kD) = some ps → ps = l.map keyP
  | [], ps, h => by
    simp only [List.map_nil, toKs, Option.some.injEq] at h
    subst h; rfl
  | k :: l, ps, h => by
    simp only [List.map_cons, toKs] at h
    cases q : toKs (l.map kD) with
    | none => rw [q] at h; cases k <;> simp [kD, toR] at h
    | some r =>
      rw [q] at h
      have := toKs_map q
      subst this
      cases k with
      | inl i => simp only [kD, toR, Option.some.injEq] at h; subst h; rfl
      | inr i => simp only [kD, toR, Option.some.injEq] at h; subst h; rfl
/-- the keys as they lie -/
theorem reads_keys {P : Program} {w : World} {h : Heap} {es : List DictEntry} {kvs : List (Key × Value)} (p : Pairs (mixKind P w) es kvs) : ReadsAll h (es.map (·.key)) ((kvs.map (·.1)).map keyP) [] := by
  induction p with
  | nil => exact ReadsAll.nil
  | cons h1 h2 _ ih =>
    rcases keyIs_shape h1 with ⟨i, t, e1, e2⟩ | ⟨x, t, e1, e2⟩
    · simp only [List.map_cons, e1, e2]
      exact ReadsAll.cons (Reads.int i t) ih
    · simp only [List.map_cons, e1, e2]
      exact ReadsAll.cons (Reads.str x t) ih
theorem pairs_vals {P : Program} {w : World} {es : List DictEntry} {kvs : List (Key × Value)} (p : Pairs (mixKind P w) es kvs) : es.map (·.val) = kvs.map (·.2) := by
  induction p with
  | nil => rfl
  | cons h1 h2 _ ih => simp [h2, ih]
theorem kv_fst {kvs : List (Key × V)} {vs : List (Key × Value)} (h : KV kvs vs) : kvs.map (·.1) = vs.map (·.1) ∧ Vals (kvs.map (·.2)) (vs.map (·.2)) := by
  induction h with
  | nil => exact ⟨rfl, .nil⟩
  | cons h1 h2 ih => exact ⟨by simp [h1.1, ih.1], .cons h1.2 ih.2⟩
theorem zip_of {α β : Type} : ∀ {l : List α} {m : List β}, l.length = m.length → (l.zip m).map (·.1) = l ∧ (l.zip m).map (·.2) = m
  | [], [], _ => ⟨rfl, rfl⟩
  | a :: l, b :: m, h => by
    obtain ⟨h1, h2⟩ := zip_of (l := l) (m := m) (by simpa using h)
    exact ⟨by simp [h1], by simp [h2]⟩
section
variable {X : Cx} {pins : List (Addr × Obj)} {σ : L2.St} {H : Hp} {s : Shared}
mutual
theorem toR_ok {r : Rg} {S : Store} (I : Inv X pins σ H s) (hS : H sysModules = none) (d : D) (v : V) (u : Value) (p : PyData) (h : DV (cx X.K X.mg r S H) d v) (rv : RelV v u) (e : toR d = some p) : ∃ as, Reads s.heap u p as ∧ sysModules ∉ as := by
  match d with
  | .non => simp only [toR, Option.some.injEq] at e; subst e; cases (show v = .non from h); cases rv; exact ⟨_, Reads.none, by simp⟩
  | .bl b => simp only [toR, Option.some.injEq] at e; subst e; cases (show v = .bl b from h); cases rv; exact ⟨_, Reads.bool b, by simp⟩
  | .int b => simp only [toR, Option.some.injEq] at e; subst e; cases (show v = .int b from h); obtain ⟨t, rfl⟩ := rv; exact ⟨_, Reads.int b t, by simp⟩
  | .str b => simp only [toR, Option.some.injEq] at e; subst e; cases (show v = .str b from h); obtain ⟨t, rfl⟩ := rv; exact ⟨_, Reads.str b t, by simp⟩
  | .tup ds =>
    obtain ⟨a, vs, h1, h2, h3⟩ := h
    simp only [toR] at e
    cases q : toRs ds with
    | none => rw [q] at e; simp at e
    | some ps =>
      rw [q] at e
      simp only [Option.map_some, Option.some.injEq] at e
      subst e h1
      cases (show u = .ref a from rv)
      obtain ⟨its, rvs, ⟨o, ho, hc, n, hd⟩, _⟩ := I.tuple (sqT_of h2)
      obtain ⟨as, hr, hn⟩ := toRs_ok I hS ds _ its ps h3 rvs q
      exact ⟨_, Reads.tuple ho hc hd hr, hn⟩
  | .lst ds =>
    obtain ⟨a, vs, h1, h2, h3⟩ := h
    simp only [toR] at e
    cases q : toRs ds with
    | none => rw [q] at e; simp at e
    | some ps =>
      rw [q] at e
      simp only [Option.map_some, Option.some.injEq] at e
      subst e h1
      cases (show u = .ref a from rv)
      obtain ⟨its, rvs, ⟨o, n, ho, hc, _, hd⟩, _⟩ := I.list (sqL_of (lstAt h2))
      obtain ⟨as, hr, hn⟩ := toRs_ok I hS ds _ its ps h3 rvs q
      refine ⟨_, Reads.list ho hc hd hr, fun m => ?_⟩
      rcases List.mem_cons.mp m with m | m
      · have h2 : H a = some (.lst vs) := h2.1
        rw [← m, hS] at h2; cases h2
      · exact hn m
  | .dic ks ds =>
    obtain ⟨a, kvs, h1, h2, _, h3, h4⟩ := h
    simp only [toR] at e
    cases q : toRs ds with
    | none => rw [q] at e; cases q' : toKs ks <;> rw [q'] at e <;> simp at e
    | some ps =>
      cases q' : toKs ks with
      | none => rw [q'] at e; simp at e
      | some kk =>
        rw [q, q'] at e
        simp only at e
        split at e
        · rename_i hl
          cases e
          subst h1
          cases (show u = .ref a from rv)
          obtain ⟨_, hne, vs, hkv, o, es, ep, ho, hx, hd, _, hp, _⟩ := (show ObjOk X.prog X.w H s.heap a (.dK kvs) from I.hok a _ h2)
          obtain ⟨f1, f2⟩ := kv_fst hkv
          have hk : kk = (vs.map (·.1)).map keyP := by
            rw [← f1, List.map_map]
            have := toKs_map (l := kvs.map (·.1)) (ps := kk) (by rw [List.map_map]; rw [h3] at q'; exact q')
            rw [List.map_map] at this
            exact this
          obtain ⟨z1, z2⟩ := zip_of hl
          obtain ⟨as, hr, hn⟩ := toRs_ok I hS ds _ (vs.map (·.2)) ps h4 f2 q
          refine ⟨_, Reads.dict (as := []) (bs := as) ho hx.1 hd (by rw [z1, hk]; exact reads_keys hp) (by rw [z2, pairs_vals hp]; exact hr), fun m => ?_⟩
          rcases List.mem_cons.mp m with m | m
          · rw [← m] at hne; simp at hne
          · exact hn (by simpa using m)
        · cases e
  | .rol ds => simp [toR] at e
  | .ins a b ds => simp [toR] at e
  | .exc a b ds => simp [toR] at e
  | .loc n => simp [toR] at e
  | .fn n => simp [toR] at e
  | .ty n => simp [toR] at e
theorem toRs_ok {r : Rg} {S : Store} (I : Inv X pins σ H s) (hS : H sysModules = none) (ds : List D) (vs : List V) (us : List Value) (ps : List PyData) (h : DVs (cx X.K X.mg r S H) ds vs) (rv : Vals vs us) (e : toRs ds = some ps) : ∃ as, ReadsAll s.heap us ps as ∧ sysModules ∉ as := by
  match ds with
  | [] => simp only [toRs, Option.some.injEq] at e; subst e; cases (show vs = [] from h); cases rv; exact ⟨_, ReadsAll.nil, by simp⟩
  | d :: ds =>
    obtain ⟨v, r', h1, h2, h3⟩ := h
    simp only [toRs] at e
    cases q : toR d with
    | none => rw [q] at e; simp at e
    | some p =>
      cases q' : toRs ds with
      | none => rw [q, q'] at e; simp at e
      | some ps' =>
        rw [q, q'] at e
        simp only [Option.some.injEq] at e
        subst e h1
        cases rv with
        | cons r1 r2 =>
          obtain ⟨as, a1, a2⟩ := toR_ok I hS d _ _ p h2 r1 q
          obtain ⟨bs, b1, b2⟩ := toRs_ok I hS ds _ _ ps' h3 r2 q'
          refine ⟨_, ReadsAll.cons a1 b1, fun m => ?_⟩
          rcases List.mem_append.mp m with m | m
          · exact a2 m
          · exact b2 m
end

def isThing : D → Bool
  | .tup _ => true
  | .lst _ => true
  | .dic _ _ => true
  | _ => false
/-- may be shown: a thing, not a scalar -/
def showOk (p : PyData) : Bool := p.showable && (decide (p.shown.length ≤ sizeLine) && decide (p.depth ≤ 60))
def showD : OPN := fun ds _ => match ds with
  | [d] => if isThing d then match toR d with
      | some p => if showOk p then some (.str p.shown) else none
      | none => none
    else none
  | _ => none
theorem isRef {c : Ctx} {d : D} {v : V} (h : DV c d v) (k : isThing d = true) : ∃ a, v = .ref a := by
  cases d with
  | tup ds => obtain ⟨a, _, e, _⟩ := h; exact ⟨a, e⟩
  | lst ds => obtain ⟨a, _, e, _⟩ := h; exact ⟨a, e⟩
  | dic _ ds => obtain ⟨a, _, e, _⟩ := h; exact ⟨a, e⟩
  | _ => exact absurd k Bool.false_ne_true
theorem c_repr (hg : X.A.guards = some []) (hu : X.A.units + 64 < cLine) (hS : ∃ o, X.K.lookup sysModules = some o) : CallR X (.builtin "repr") (rdN X.K X.mg showD) := by
  intro pins s σ H xs us Q I rv ⟨r, S, ds, z, sim, dx, hz, hw⟩
  obtain ⟨o, ho⟩ := hS
  have hs0 : H sysModules = none := (I.bs _ o (I.mod.kin _ _ ho)).2
  unfold showD at hz
  split at hz
  · rename_i d
    obtain ⟨v, ev, dv⟩ := dvs1 dx
    subst ev
    obtain ⟨u, rfl, ru⟩ : ∃ u, us = [u] ∧ RelV v u := by
      cases rv with
      | cons r1 r2 => cases r2; exact ⟨_, rfl, r1⟩
    split at hz
    · rename_i hk
      cases hp : toR d with
      | none => rw [hp] at hz; cases hz
      | some p =>
        rw [hp] at hz
        have hz : (if showOk p = true then some (D.str p.shown) else none) = some z := hz
        split at hz
        · rename_i hc
          cases hz
          obtain ⟨as, h1, h2⟩ := toR_ok I hs0 d v u p dv ru hp
          obtain ⟨a, ea⟩ := isRef dv hk
          subst ea
          cases (show u = .ref a from ru)
          obtain ⟨c1, c2⟩ := Bool.and_eq_true_iff.mp hc
          obtain ⟨c2, c3⟩ := Bool.and_eq_true_iff.mp c2
          have c3 := of_decide_eq_true c3
          exact repr_of_reads' h1 c1 (fun _ => h2) hg (by omega) (fun _ _ e => e) (fun h' t tk hk => ⟨.str _, H, I.kept hk, ⟨t, rfl⟩, hw.at sim rfl⟩) (of_decide_eq_true c2)
        · cases hz
    · cases hz
  · cases hz
end
end Kx

set_option Elab.async false
set_option linter.all false
set_option maxRecDepth 100000
set_option autoImplicit false
/-! Kn: a dict stored into, the empty dict. -/
namespace Kx
open PySem PySem.Spec L2
def putC (S : Store) (n : Nat) (k : Key) (e : D) : Option Store := match S[n]? with
  | some (.dic ks ds) => if ks.length < sizeLine then some (S.set n (.dic (dput ks ds k e).1 (dput ks ds k e).2)) else none
  | _ => none
def putM (d y e : D) (S : Store) : Option Store := match d, kOf y with
  | .loc n, some k => putC S n k e
  | _, _ => none
def sPut (mv mo mi : ME) : MS := fun G S => sb (mv G S) G fun e S1 => sb (mo G S1) G fun d S2 => sb (mi G S2) G fun y S3 => match putM d y e S3 with
  | some S4 => .nx G S4
  | none => .err
section
variable {K : PySem.W.Frag} {mg : Str → Option Value} {r : Rg} {S S' : Store} {H : Hp}
theorem putM_ok {d y e : D} {x i v : V} (sim : Sim K mg r S H) (hx : DV (cx K mg r S H) d x) (hy : DV (cx K mg r S H) y i) (hv : DV (cx K mg r S H) e v) (h : putM d y e S = some S') :
    ∃ a H', x = .ref a ∧ DPut H a i v H' ∧ Sim K mg r S' H' ∧ Ext r S H r S' H' := by
  unfold putM at h
  split at h
  · rename_i n k hk
    unfold putC at h
    split at h
    · rename_i ks ds hS
      split at h
      · rename_i hl
        cases h
        obtain ⟨a, ea, ha⟩ := hx
        obtain ⟨kvs, h1, h2, h3⟩ := sim.cell n _ a hS ha
        subst h2
        rw [kD_of hk] at hy
        have ei := DV_kD hy
        subst ei
        obtain ⟨s1, e1⟩ := sim.write (o := .dK (putK kvs k v)) (c' := .dic (dput (kvs.map fun p => kD p.1) ds k e).1 (dput (kvs.map fun p => kD p.1) ds k e).2) hS ha rfl rfl fun S1 H1 es eh ex => by
          subst es eh
          obtain ⟨g1, g2⟩ := dput_ok (k := k) (hv.ext ex) (DVs.ext ex h3)
          exact ⟨putK kvs k v, upd_same, g1, g2⟩
        exact ⟨a, _, ea, DPut.k h1 (by simpa using hl), s1, e1⟩
      · cases h
    · cases h
  · cases h
end
section
variable {X : Cx} {W : WX} {o i value : Expr} {mo mi mv : ME} {pos pos' : Pos}
theorem js_put (hu : X.A.units + 64 < cLine) (hv : JE X W value mv) (ho : JE X W o mo) (hi : JE X W i mi) (hs : swapsWith value (some (.Subscript o i pos')) pos.line X.env = pure false := by rfl) :
    JS X W (.Assign [.Subscript o i pos'] value pos) (sPut mv mo mi) :=
  PSw (ps_dput (by omega) ho hi hv hs) fun D s H ⟨r, G, S, sim, env, g⟩ => ⟨r, G, S, sim, env, (gES env g).imp fun v H1 ⟨r1, S1, e, e1, s1, dv, g1⟩ =>
    ⟨r1, G, S1, s1, env.ext e1, (gES (env.ext e1) g1).imp fun x H2 ⟨r2, S2, d, e2, s2, dx, g2⟩ =>
      ⟨r2, G, S2, s2, (env.ext e1).ext e2, (gES ((env.ext e1).ext e2) g2).imp fun y H3 ⟨r3, S3, dd, e3, s3, dy, g3⟩ => by
        cases q : putM d dd e S3 with
        | none => rw [q] at g3; exact g3.elim
        | some S4 =>
          rw [q] at g3
          obtain ⟨a, H4, ea, hp, s4, e4⟩ := putM_ok s3 (dx.ext e3) dy ((dv.ext e2).ext e3) q
          exact ⟨a, H4, ea, hp, g3 r3 H4 _ e4 s4 ((((env.ext e1).ext e2).ext e3).ext e4)⟩⟩⟩⟩
def eDic0 : ME := fun _ S => .ok (.dic [] []) S
def eDic0C : ME := fun _ S => .ok (.loc S.length) (S ++ [.dic [] []])
theorem je_dic0 : JE X W (.Dict [] [] pos) eDic0 :=
  PEw pe_dnewK fun s H Q ⟨r, G, S, sim, env, g⟩ p hp => by
    obtain ⟨s1, e1⟩ := sim.newv (o := .dK []) hp
    exact g r _ _ e1 s1 ⟨p, [], rfl, upd_same, sim.fresh hp, rfl, DVs.nil⟩
theorem je_dic0C : JE X W (.Dict [] [] pos) eDic0C :=
  PEw pe_dnewK fun s H Q ⟨r, G, S, sim, env, g⟩ p hp => by
    obtain ⟨s1, e1⟩ := sim.newc (o := .dK []) (c := .dic [] []) hp rfl fun r1 S1 H1 er es eh ex => by
      subst eh
      exact ⟨[], upd_same, rfl, DVs.nil⟩
    refine g _ _ _ e1 s1 ⟨p, rfl, ?_⟩
    show (r.as ++ [p])[S.length]? = some p
    rw [← sim.len]; simp
end
end Kx

set_option Elab.async false
set_option linter.all false
set_option maxRecDepth 100000
set_option autoImplicit false
/-! Ko: facts of the head as Bool, the Hook, the law's end. -/
namespace Kx
open PySem PySem.Spec L2 PySem.W PySem.Calls
open He (ga ma Fa DefD)
def scB (sc : Scope) (b : Str) : Bool := decide (sc.kind = .function) && (!sc.isCoroutine && (!sc.isGenerator && (decide (sc.names.lookup ("super" : Str) = some .globalImplicit) && (decide (sc.names.lookup ("__class__" : Str) = some .free) &&
  (decide (sc.names.lookup ("self" : Str) = some .local) && (decide (sc.names.lookup b = some .local) && sc.names.all fun x => decide (x.2 ≠ .cell)))))))
def codB (file : Str) (K : Frag) (cda : Addr) : Bool := match K.lookup cda with
  | some ⟨_, _, .fields vs, _⟩ => match (vs[2]? : Option Value) with
    | some (.str f _) => decide (f = file)
    | _ => false
  | _ => false
def celB (K : Frag) (cc C : Addr) : Bool := match K.lookup cc with
  | some ⟨_, _, .cell (some (.ref D)), _⟩ => decide (D = C)
  | _ => false
def fdB (file : Str) (K : Frag) (C : Addr) (b : Str) (fd : FuncData) : Bool := match fd.body, fd.closure, fd.code with
  | .stmts body, [(c, cc)], .ref cda => decide (c = "__class__") && (decide (fd.globals = mainGlobals) && (decide (fd.builtins = builtinsNs) && (decide (fd.defaults = .none) && (decide (fd.kwdefaults = .none) &&
      (parB fd.params "self" b && (bodB body "self" b && (fieldB b && (codeIn K (.ref cda) fd.qualname && (codB file K cda && (celB K cc C && scB fd.scope b))))))))))
  | _, _, _ => false
def xiB (file : Str) (K : Frag) (C fI : Addr) (b : Str) : Bool := match K.lookup fI with
  | some ⟨_, _, .func fd, _⟩ => fdB file K C b fd
  | _ => false
theorem b2 {a b : Bool} (h : (a && b) = true) : a = true ∧ b = true := Bool.and_eq_true_iff.mp h
theorem codB_ok {file : Str} {K : Frag} {cda : Addr} (h : codB file K cda = true) : ∃ ccl cdd vs ccs tf, K.lookup cda = some ⟨ccl, cdd, .fields vs, ccs⟩ ∧ vs[2]? = some (.str file tf) := by
  unfold codB at h
  split at h
  · rename_i a b vs c hl
    split at h
    · rename_i f t hv
      cases of_decide_eq_true h
      exact ⟨_, _, vs, _, t, hl, hv⟩
    · cases h
  · cases h
theorem celB_ok {K : Frag} {cc C : Addr} (h : celB K cc C = true) : ∃ cl cld csl, K.lookup cc = some ⟨cl, cld, .cell (some (.ref C)), csl⟩ := by
  unfold celB at h
  split at h
  · rename_i hl
    cases of_decide_eq_true h
    exact ⟨_, _, _, hl⟩
  · cases h
theorem xiB_ok {file : Str} {K : Frag} {C fI : Addr} {b : Str} (h : xiB file K C fI b = true) : Nonempty (XI file K C fI b) := by
  unfold xiB at h
  split at h
  · rename_i oc od fd osl hl
    unfold fdB at h
    split at h
    · rename_i body c cc cda hb hc hd
      obtain ⟨h1, h⟩ := b2 h
      obtain ⟨h2, h⟩ := b2 h
      obtain ⟨h3, h⟩ := b2 h
      obtain ⟨h4, h⟩ := b2 h
      obtain ⟨h5, h⟩ := b2 h
      obtain ⟨h6, h⟩ := b2 h
      obtain ⟨h7, h⟩ := b2 h
      obtain ⟨h8, h⟩ := b2 h
      obtain ⟨h9, h⟩ := b2 h
      obtain ⟨h10, h⟩ := b2 h
      obtain ⟨h11, h⟩ := b2 h
      unfold scB at h
      obtain ⟨g1, h⟩ := b2 h
      obtain ⟨g2, h⟩ := b2 h
      obtain ⟨g3, h⟩ := b2 h
      obtain ⟨g4, h⟩ := b2 h
      obtain ⟨g5, h⟩ := b2 h
      obtain ⟨g6, h⟩ := b2 h
      obtain ⟨g7, g8⟩ := b2 h
      obtain ⟨name, qual, params, fbody, scope, globals, closure, defaults, kwd, doc, pm, an, code, ct, builtins⟩ := fd
      simp only at hb hc hd h2 h3 h4 h5 h6 h7 h9 g1 g2 g3 g4 g5 g6 g7 g8
      subst hb hc hd
      have e1 := of_decide_eq_true h1
      have e2 := of_decide_eq_true h2
      have e3 := of_decide_eq_true h3
      have e4 := of_decide_eq_true h4
      have e5 := of_decide_eq_true h5
      subst e1 e2 e3 e4 e5
      exact ⟨⟨name, qual, params, body, scope, doc, pm, an, cda, ct, cc, oc, od, osl, hl, h6, h7, h8, h9, codB_ok h10, celB_ok h11, of_decide_eq_true g1, by simpa using g2, by simpa using g3, of_decide_eq_true g4, of_decide_eq_true g5, of_decide_eq_true g6, of_decide_eq_true g7,
        fun x hx => of_decide_eq_true (List.all_eq_true.mp g8 x hx)⟩⟩
    · cases h
  · cases h
/-- the built-in above: ValueError, OverflowError -/
inductive Bs where
  | ve | oe
def Bs.B : Bs → String
  | .ve => "ValueError"
  | .oe => "OverflowError"
def Bs.new : Bs → String
  | .ve => "ValueError.__new__"
  | .oe => "OverflowError.__new__"
def Bs.init : Bs → String
  | .ve => "ValueError.__init__"
  | .oe => "OverflowError.__init__"
def Bs.bm : Bs → List Value
  | .ve => [.type "ValueError", .type "Exception", .type "BaseException", .type "object"]
  | .oe => [.type "OverflowError", .type "ArithmeticError", .type "Exception", .type "BaseException", .type "object"]
theorem Bs.fb : ∀ k : Bs, ExcBaseFacts k.B k.new k.init k.bm
  | .ve => PySem.F.excBase_ValueError
  | .oe => PySem.F.excBase_OverflowError
theorem Bs.st : ∀ k : Bs, StoreFacts k.B k.bm "object.__setattr__" "object"
  | .ve => PySem.F.store_ValueError
  | .oe => PySem.F.store_OverflowError
theorem Bs.kf : ∀ k : Bs, KxsFacts k.B k.init
  | .ve => kxs_ValueError
  | .oe => kxs_OverflowError
def xcB (K : Frag) (C : Addr) (k : Bs) (b : Str) : Bool := excInitIn K C k.bm k.new && (decide (findIn K (.ref C) "__setattr__" = some (some (.builtin "object.__setattr__"))) && (excOver K C k.bm && (decide (takerIn K C b = some none) && (hasDictIn K C &&
  (decide (ks_superIn K C C "__init__" = some (some (.builtin k.init))) && (decide (subIn K (.ref C) (.type k.B) = some true) && (decide (mroIn K C (.ref C) = some true) && decide (nsIn K cStatics "thirdparty.any" = some none))))))))
theorem xcB_ok {K : Frag} {C : Addr} {k : Bs} {b : Str} (h : xcB K C k b = true) : XC K C k.B k.new k.init k.bm b := by
  obtain ⟨h1, h⟩ := b2 h
  obtain ⟨h2, h⟩ := b2 h
  obtain ⟨h3, h⟩ := b2 h
  obtain ⟨h4, h⟩ := b2 h
  obtain ⟨h5, h⟩ := b2 h
  obtain ⟨h6, h⟩ := b2 h
  obtain ⟨h7, h⟩ := b2 h
  obtain ⟨h8, h9⟩ := b2 h
  exact ⟨k.fb, k.st, k.kf, h1, of_decide_eq_true h2, h3, of_decide_eq_true h4, h5, of_decide_eq_true h6, of_decide_eq_true h7, of_decide_eq_true h8, of_decide_eq_true h9⟩
def raB (K : Frag) (C : Addr) : Bool := decide (subIn K (.ref C) (.type "BaseException") = some true) && decide (typeIn K (.ref C) = some (.type "type"))
theorem raB_ok {K : Frag} {C : Addr} (h : raB K C = true) : subIn K (.ref C) (.type "BaseException") = some true ∧ typeIn K (.ref C) = some (.type "type") := ⟨of_decide_eq_true (b2 h).1, of_decide_eq_true (b2 h).2⟩
/-- the class named x, its field b -/
def x1B (P : Program) (K : Frag) (x : Str) (k : Bs) (b : Str) : Bool := xiB P.main.file K (ga K x) (ma K (ga K x) "__init__") b && (xcB K (ga K x) k b && (decide (findIn K (.ref (ga K x)) "__init__" = some (some (.ref (ma K (ga K x) "__init__")))) &&
  (decide (typeIn K (.ref (ma K (ga K x) "__init__")) = some (.type "function")) && (keepIn K (.ref (ga K x)) && raB K (ga K x)))))
theorem x1B_ok {P : Program} {K : Frag} {x : Str} {k : Bs} {b : Str} (h : x1B P K x k b = true) : XK1 P K (ga K x) b := by
  obtain ⟨h1, h⟩ := b2 h
  obtain ⟨h2, h⟩ := b2 h
  obtain ⟨h3, h⟩ := b2 h
  obtain ⟨h4, h⟩ := b2 h
  obtain ⟨h5, h6⟩ := b2 h
  exact ⟨⟨_, _, _, _, _, xiB_ok h1, xcB_ok h2, of_decide_eq_true h3, of_decide_eq_true h4⟩, h5, raB_ok h6⟩
def x0B (K : Frag) (x : Str) : Bool := decide (findIn K (.ref (ga K x)) "__init__" = some (some (.builtin "LookupError.__init__"))) && (excInitIn K (ga K x) [.type "LookupError", .type "Exception", .type "BaseException", .type "object"] "LookupError.__new__" && (keepIn K (.ref (ga K x)) && raB K (ga K x)))
theorem x0B_ok {K : Frag} {x : Str} (h : x0B K x = true) : XK0 K (ga K x) := by
  obtain ⟨h1, h⟩ := b2 h
  obtain ⟨h2, h⟩ := b2 h
  obtain ⟨h3, h4⟩ := b2 h
  exact ⟨⟨_, _, _, _, PySem.F.excBase_LookupError, of_decide_eq_true h1, h2⟩, h3, raB_ok h4⟩
/-! ### the table of classes -/
def excB (K : Frag) (D : Addr) : Bool := decide (findIn K (.ref D) "__getattribute__" = some (some (.builtin "BaseException.__getattribute__"))) && (decide (findIn K (.ref D) "__getattr__" = some none) && (decide (subIn K (.ref D) (.type "BaseException") = some true) && (hasDictIn K D &&
  (decide (findIn K (.ref D) "__class__" = some (some (.builtin "object.__class__"))) && (decide (specialIn K (.builtin "object.__class__") "__get__" = some (some (.builtin "getset_descriptor.__get__"))) && (decide (takesIn K (.builtin "object.__class__") = some true) && decide (mroIn K D (.type "object") = some true)))))))
theorem excB_ok {K : Frag} {D : Addr} (h : excB K D = true) : ExcC K D := by
  obtain ⟨h1, h⟩ := b2 h
  obtain ⟨h2, h⟩ := b2 h
  obtain ⟨h3, h⟩ := b2 h
  obtain ⟨h4, h⟩ := b2 h
  obtain ⟨h5, h⟩ := b2 h
  obtain ⟨h6, h⟩ := b2 h
  obtain ⟨h7, h8⟩ := b2 h
  exact ⟨of_decide_eq_true h1, of_decide_eq_true h2, of_decide_eq_true h3, h4, of_decide_eq_true h5, of_decide_eq_true h6, of_decide_eq_true h7, of_decide_eq_true h8⟩
def insB (K : Frag) (x : Str) : Bool := (Fa.cls x).ok K && (decide (findIn K (.ref (ga K x)) "__class__" = some (some (.builtin "object.__class__"))) && (decide (specialIn K (.builtin "object.__class__") "__get__" = some (some (.builtin "getset_descriptor.__get__"))) && (decide (takesIn K (.builtin "object.__class__") = some true) && decide (mroIn K (ga K x) (.type "object") = some true))))
def itB (T : ITab) (K : Frag) : Bool := (T.cls.all fun c => (Fa.glo c).ok K) && ((T.exs.all fun c => excB K (ga K c)) && ((T.ins.all fun c => insB K c) && ((T.cls.all fun c => T.cls.all fun x => decide (kitOne K (.ref (ga K c)) (.ref (ga K x)) = some (T.isSub c x))) &&
  ((T.cls.all fun c => askTys.all fun n => decide (kitOne K (.ref (ga K c)) (.type n) = some (T.isBas c n))) && ((valTys.all fun n => T.cls.all fun x => decide (kitOne K (.type n) (.ref (ga K x)) = some false)) &&
    ((T.cls.all fun c => ((T.fld.lookup c).getD []).all fun f => decide (findIn K (.ref (ga K c)) f = some none)) && T.ins.all fun c => decide (findIn K (.ref (ga K c)) "__ne__" = some (some (.builtin "object.__ne__")))))))))
theorem itB_ok {T : ITab} {K : Frag} {h : Heap} {mg : Str → Option Value} (X : K.In h) (G : h.Ns mainGlobals mg) (e : itB T K = true) : IFacts T K mg := by
  obtain ⟨h1, e⟩ := b2 e
  obtain ⟨h2, e⟩ := b2 e
  obtain ⟨h3, e⟩ := b2 e
  obtain ⟨h4, e⟩ := b2 e
  obtain ⟨h5, e⟩ := b2 e
  obtain ⟨h6, e⟩ := b2 e
  obtain ⟨h7, h8⟩ := b2 e
  refine ⟨fun c hc => He.glo_ok X G (List.all_eq_true.mp h1 c hc), fun c hc => excB_ok (List.all_eq_true.mp h2 c hc), fun c hc => ?_, fun c x hc hx => of_decide_eq_true (List.all_eq_true.mp (List.all_eq_true.mp h4 c hc) x hx),
    fun c n hc hn => of_decide_eq_true (List.all_eq_true.mp (List.all_eq_true.mp h5 c hc) n hn), fun n x hn hx => of_decide_eq_true (List.all_eq_true.mp (List.all_eq_true.mp h6 n hn) x hx), fun c f hc hf => of_decide_eq_true (List.all_eq_true.mp (List.all_eq_true.mp h7 c hc) f (mem_of hf)), fun c hc => of_decide_eq_true (List.all_eq_true.mp h8 c hc)⟩
  have q := List.all_eq_true.mp h3 c hc
  obtain ⟨q1, q⟩ := b2 q
  obtain ⟨q2, q⟩ := b2 q
  obtain ⟨q3, q⟩ := b2 q
  obtain ⟨q4, q5⟩ := b2 q
  exact ⟨He.cls_ok q1, of_decide_eq_true q2, of_decide_eq_true q3, of_decide_eq_true q4, of_decide_eq_true q5⟩
/-! ### the Hook -/
def asK (g : Addr → Option Obj) (n : Nat) : List Addr := cStatics :: sysModules :: He.asD g n
/-- the code objects and tables of the defs that make lambdas -/
def tabC (K : Frag) : List (Addr × Addr) := lamDefs.filterMap fun p => match K.lookup (He.fAd K p) with
  | some ⟨_, _, .func _, _⟩ => some (He.cT K p)
  | _ => none
def tabB (g : Addr → Option Obj) (K : Frag) : Bool := ((tabC K).all fun q => PySem.W.codeHdIn K q.1 q.2 && (match g q.2 with
  | some o => He.emptyTab o
  | none => false)) && (tabsK K).all fun p => (tabsK K).all fun q => !decide (p.1 = q.1) || decide (p.2 = q.2)
structure TabH (h : Heap) (K : Frag) : Prop where
  hd : ∀ q ∈ tabC K, PySem.W.codeHdIn K q.1 q.2 = true
  out : ∀ q ∈ tabC K, K.lookup q.2 = none
  emp : ∀ q ∈ tabC K, h.get? q.2 = some { cls := .none, data := .fields #[] }
  uq : ∀ p ∈ tabsK K, ∀ q ∈ tabsK K, p.1 = q.1 → p.2 = q.2
def TBs (K : Frag) (mg : Str → Option Value) (base : Heap) : Prop := ∀ q ∈ tabC K, LamX.TabB base mg q.1 q.2
theorem tabs_tabC {K : Frag} : ∀ p ∈ tabsK K, ∃ q ∈ tabC K, q.2 = p.1 := fun p hp => by
  obtain ⟨d, hd, e⟩ := List.mem_filterMap.mp hp
  split at e
  · rename_i oc od fd osl hl
    cases e
    exact ⟨He.cT K d, List.mem_filterMap.mpr ⟨d, hd, by rw [hl]⟩, rfl⟩
  · cases e
def frK (g : Addr → Option Obj) (n : Nat) : Frag := He.frT g (asK g n)
def obsK (n : Nat) (fa : List Fa) (fn : List DefD) (ex : Frag → Bool) (g : Addr → Option Obj) : He.AlD := ((He.obsD fa fn (frK g n)).1 && (ex (frK g n) && tabB g (frK g n)), (He.obsD fa fn (frK g n)).2)
theorem tabH_of {h : Heap} {n : Nat} (e : tabB h.get? (frK h.get? n) = true) : TabH h (frK h.get? n) := by
  obtain ⟨e1, e2⟩ := b2 e
  have key : ∀ q ∈ tabC (frK h.get? n), PySem.W.codeHdIn (frK h.get? n) q.1 q.2 = true ∧ ∃ o, h.get? q.2 = some o ∧ He.emptyTab o = true := fun q hq => by
    obtain ⟨f1, f2⟩ := b2 (List.all_eq_true.mp e1 q hq)
    refine ⟨f1, ?_⟩
    cases z : h.get? q.2 with
    | none => rw [z] at f2; cases f2
    | some o => rw [z] at f2; exact ⟨o, rfl, f2⟩
  refine ⟨fun q hq => (key q hq).1, fun q hq => ?_, fun q hq => ?_, fun p hp q hq z => ?_⟩
  · obtain ⟨_, o, z1, z2⟩ := key q hq
    exact He.frT_none z1 z2
  · obtain ⟨_, o, z1, z2⟩ := key q hq
    rw [z1, He.emptyTab_eq z2]
  · have := List.all_eq_true.mp (List.all_eq_true.mp e2 p hp) q hq
    simpa [z] using this
def hookK (n : Nat) (fa : List Fa) (fn : List DefD) (ex : Frag → Bool) : Hook where
  α := He.AlD
  obs := fun s => obsK n fa fn ex s.heap.get?
  val := fun _ => He.valD fn
  says := fun _ h => ∃ K : Frag, K.In h ∧ He.SaysD fa fn K ∧ ex K = true ∧ TabH h K
  of := fun _ s e => by
    have e : obsK n fa fn ex s.heap.get? = He.valD fn := e
    have e1 := congrArg Prod.fst e
    have e2 := congrArg Prod.snd e
    obtain ⟨q1, q2⟩ := b2 e1
    obtain ⟨q2, q3⟩ := b2 q2
    exact ⟨_, He.frT_in, Prod.ext q1 e2, q2, tabH_of q3⟩
  keeps := fun _ _ _ ⟨K, hK, c1, c2, c3⟩ k => ⟨K, Frag.In.keeps hK k, c1, c2, c3.hd, c3.out, fun q hq => k _ _ (c3.emp q hq), c3.uq⟩
theorem obsK_eq {n : Nat} {fa : List Fa} {fn : List DefD} {ex : Frag → Bool} {g : Addr → Option Obj} {s : Shared} (h : ∀ a, g a = s.heap.get? a) : obsK n fa fn ex g = (hookK n fa fn ex).obs s := by
  have e : g = s.heap.get? := funext h
  rw [e] <;> rfl

/-! ### the law's end -/
section
variable {P : Program} {w : World} {K : Frag} {mg mb : Str → Option Value} {k : Nat} {fa a : Addr} {fd : FuncData} {x : Str} {sp : Sp} {t : Shared} {vs : List Value} {ns : List Int}
/-- the wish of a call that ends well -/
abbrev Fine (t : Shared) (r : Result) (t' : Shared) : Prop := r = .ok (.ret (.bool true)) ∧ OldK t.heap t'.heap ∧ t'.os = t.os ∧ PyProof.Rows.AllBare t'.gens
def TabA (K : Frag) (b : Addr) : Prop := b ∈ (tabC K).map (·.2)
instance (K : Frag) (b : Addr) : Decidable (TabA K b) := inferInstanceAs (Decidable (b ∈ (tabC K).map (·.2)))
theorem TabH.at (T : TabH t.heap K) {b : Addr} (h : TabA K b) : t.heap.get? b = some { cls := .none, data := .fields #[] } := by
  obtain ⟨q, hq, e⟩ := List.mem_map.mp h
  rw [← e]; exact T.emp q hq
/-- where the main module's built-ins are found -/
def BltM (mg : Str → Option Value) (h : Heap) : Prop := ∃ (bm : Addr) (ob : Obj), mg "__builtins__" = some (.ref bm) ∧ bm ≠ builtinsNs ∧ h.get? bm = some ob ∧ ob.cls = .type "module" ∧ ob.dict = some builtinsNs ∧ ob.data = .plain
theorem law_core {H : Hp} (kx : K.In t.heap) (T : TabH t.heap K) (bm : BltM mg t.heap) (gl : t.heap.Ns mainGlobals mg) (bt : t.heap.Ns builtinsNs mb) (bb : ∀ x : Str, x ≠ "__name__" → mb x = bootBuiltins x) (nl : t.heap.NoLimit) (ng : t.gens = #[])
    (ob : t.heap.get? a = some { cls := .type "list", data := .seq vs.toArray }) (hr : Room k callerA) (F : ∀ base : Heap, K.In base → base.Ns mainGlobals mg → TBs K mg base → FnG P w K mg base k fa fd [x] sp)
    (bi : ∀ (s : Shared) (u : Value), BindsTo s fd ⟨[u], []⟩ [(x, u)]) (hsp : sp [.ref a] H (fun v _ => v = .bl true) fun _ _ _ => False)
    (hH : ∀ b, TabA K b → H b = some (.tbl #[])) (oh : ∀ b, H b = none ∨ TabA K b ∨ ∃ o xs, H b = some (.frz o (.lst xs))) (hok : HOk P w H t.heap) (hA : ∀ b, H b ≠ none → b = a ∨ TabA K b) (hK : H a ≠ none → K.lookup a = none) : codeAny (model P w) callerA (.call (.ref fa) ⟨[.ref a], []⟩) (Fine t) t := by
  have hid : ∀ {b : Addr} {o : Obj}, t.heap.get? b = some o → H b = none → (hidT t.heap H).get? b = some o := fun e n => hidT_get e n
  have only : ∀ {b : Addr} {o : Obj}, t.heap.get? b = some o → (∀ us n, o.data ≠ .seq us n) → o.data ≠ .fields #[] → H b = none := fun {b o} e n1 n2 => by
    cases q : H b with
    | none => rfl
    | some u =>
      rcases hA b (by rw [q]; exact fun z => nomatch z) with z | z
      · rw [z, ob] at e
        cases e
        exact absurd rfl (n1 _ _)
      · rw [T.at z] at e
        cases e
        exact absurd rfl n2
  have dic : ∀ {b : Addr} {o : Obj} {es : Array DictEntry} {ep : Nat}, t.heap.get? b = some o → o.data = .dict es ep → H b = none := fun {b o es ep} e d => only e (fun _ _ z => by rw [d] at z; cases z) fun z => by rw [d] at z; cases z
  have nsp : ∀ {b : Addr} {m : Str → Option Value}, t.heap.Ns b m → (hidT t.heap H).Ns b m := fun {b m} ⟨o, es, ep, e, d, r⟩ => ⟨o, es, ep, hid e (dic e d), d, r⟩
  have kb : K.In (hidT t.heap H) := fun b o e => hid (kx b o e) (by
    cases q : H b with
    | none => rfl
    | some u =>
      rcases hA b (by rw [q]; exact fun z => nomatch z) with z | z
      · have n := hK (by rw [← z, q]; exact fun z => nomatch z)
        rw [← z, e] at n; cases n
      · obtain ⟨q', hq, e'⟩ := List.mem_map.mp z
        have n := T.out q' hq
        rw [e', e] at n; cases n)
  obtain ⟨mc, l1, l2⟩ := nl
  have M : Mod K mg (hidT t.heap H) := ⟨kb, nsp gl, ⟨mb, nsp bt, bb⟩, ⟨mc, nsp l1, l2⟩⟩
  have e0 : Env0 P w K mg (hidT t.heap H) callerA [] t H := ⟨rfl, M, fun b o e => of_hidT e, Nat.le_of_eq (hidT_size _ _), trivial, fun b hb => absurd (show b ∈ ([] : List Addr) from hb) (by simp), hok, .of_eq ng⟩
  have tb : TBs K mg (hidT t.heap H) := fun q hq => by
    have hq2 : TabA K q.2 := List.mem_map.mpr ⟨q, hq, rfl⟩
    refine ⟨PySem.W.codeHd_of_K kb (T.hd q hq), ?_, fun z => ?_⟩
    · obtain ⟨bm, ob', b1, b2, b3, b4, b5, b6⟩ := bm
      refine ⟨bm, ob', b1, b2, fun z => ?_, fun z => ?_, hid b3 (only b3 (fun _ _ z => by rw [b6] at z; cases z) fun z => by rw [b6] at z; cases z), b4, b5, b6⟩
      · obtain ⟨o, es, ep, e, d, _⟩ := gl
        rw [z, e] at b3
        cases b3
        rw [d] at b6; cases b6
      · rw [z, T.at hq2] at b3
        cases b3
        cases b6
    · obtain ⟨o, es, ep, e, d, _⟩ := gl
      rw [z, T.at hq2] at e
      cases e
      cases d
  have go := (F _ kb (nsp gl) tb).run callerA [] t H ⟨[.ref a], []⟩ [.ref a] [.ref a] _ _ rfl hr e0 (bi t (.ref a)) (.cons rfl .nil) hsp
  refine codeAny_mono go fun r t' h => ?_
  cases r with
  | error e =>
    obtain ⟨_, _, _, _, _, _, _, _, _, _, _, _, q⟩ := h
    exact q.elim
  | ok fl =>
    cases fl with
    | next => exact False.elim h
    | brk => exact False.elim h
    | cont => exact False.elim h
    | ret u =>
      obtain ⟨v, H', os, bare, un, hok', rv, q⟩ := h
      cases (show v = .bl true from q)
      cases (show u = Value.bool true from rv)
      have same : ∀ b o, ¬ TabA K b → t.heap.get? b = some o → t'.heap.get? b = some o := fun b o nb e => by
        rcases oh b with z | z | ⟨o1, xs, z⟩
        · exact un.keep b o e z (fun y => absurd (show b ∈ ([] : List Addr) from y) (by simp)) (by simp)
        · exact absurd z nb
        · obtain ⟨g1, _⟩ := hok b _ z
          obtain ⟨g2, _⟩ := hok' b _ (un.frzs b o1 _ z)
          rw [e] at g1; cases g1
          exact g2
      have grow : ∀ b, TabA K b → ∃ more : Array Value, t'.heap.get? b = some { cls := .none, data := .fields more } := fun b hb => by
        obtain ⟨more, z⟩ := un.tbls b #[] (hH b hb)
        exact ⟨_, hok' b _ z⟩
      refine ⟨rfl, ⟨fun b o e => ?_, fun b o e => ?_⟩, os, bare⟩
      · by_cases hb : TabA K b
        · obtain ⟨q, hq, e'⟩ := List.mem_map.mp hb
          obtain ⟨more, hm⟩ := grow b hb
          rw [T.at hb] at e
          cases e
          have hc : PySem.W.CodeHd t.heap q.1 q.2 := PySem.W.codeHd_of_K kx (T.hd q hq)
          rw [← e'] at hm ⊢
          exact .inr (.inl ⟨(hc.tab (T.emp q hq)).isCodeTable, rfl, #[], more, rfl, by rw [Array.empty_append]; exact hm⟩)
        · exact .inl (same b o hb e)
      · by_cases hb : TabA K b
        · obtain ⟨more, hm⟩ := grow b hb
          exact ⟨_, hm⟩
        · exact ⟨o, same b o hb e⟩
/-- the plain promise: the law answers True at every script -/
def LawOk (f : FN) (n : Nat) : Prop := ∀ ns : List Int, ns.length ≤ n → ∃ S, f [.rol (ns.map .int)] [] = .ok (.bl true) S
theorem dv_ints {c : Ctx} : ∀ {ns : List Int}, DVs c (ns.map .int) (ns.map V.int)
  | [] => DVs.nil
  | n :: ns => DVs.cons rfl (dv_ints (ns := ns))
theorem sim0 {H : Hp} (hT : ∀ p ∈ tabsK K, H p.1 = some (.tbl #[])) : Sim K mg ⟨[], []⟩ [] H := ⟨rfl, fun i j a ci cj h => by simp at h, fun n c a h => by simp at h, fun n c a h => by simp at h, fun a h => by simp at h, fun p hp => LamX.TabS.nil (hT p hp)⟩
theorem law_sp {H : Hp} {f : FN} {n : Nat} (h : LawOk f n) (hl : ns.length ≤ n) (hT : ∀ p ∈ tabsK K, H p.1 = some (.tbl #[])) (sq : SqL K H a (ns.map V.int)) : spF K mg f [.ref a] H (fun v _ => v = .bl true) fun _ _ _ => False := by
  obtain ⟨S, e⟩ := h ns hl
  refine ⟨⟨[], []⟩, [], [.rol (ns.map .int)], sim0 hT, DVs.cons ⟨a, _, rfl, ?_, dv_ints⟩ DVs.nil, ?_⟩
  · rcases sq with sq | ⟨o, its, m, h1, h2, h3, h4, h5, h6⟩
    · refine .inl ⟨sq, fun l => ?_⟩
      rcases l with ⟨n, c, h1, _⟩ | l
      · simp at h1
      · simp at l
    · exact .inr ⟨o, its, m, h1, h2, h3, h4, h5, h6⟩
  · rw [e]
    exact fun _ _ v _ _ d => d
theorem law_run (kx : K.In t.heap) (T : TabH t.heap K) (bm : BltM mg t.heap) (gl : t.heap.Ns mainGlobals mg) (bt : t.heap.Ns builtinsNs mb) (bb : ∀ x : Str, x ≠ "__name__" → mb x = bootBuiltins x) (nl : t.heap.NoLimit) (ng : t.gens = #[])
    (ob : t.heap.get? a = some { cls := .type "list", data := .seq vs.toArray }) (hi : PyProof.Rows.IntsAre vs ns) (hz : ns.length ≤ sizeLine) (hr : Room k callerA) (F : ∀ base : Heap, K.In base → base.Ns mainGlobals mg → TBs K mg base → FnG P w K mg base k fa fd [x] sp)
    (bi : ∀ (s : Shared) (u : Value), BindsTo s fd ⟨[u], []⟩ [(x, u)]) (hsp : ∀ H : Hp, (∀ b, TabA K b → H b = some (.tbl #[])) → SqL K H a (ns.map V.int) → sp [.ref a] H (fun v _ => v = .bl true) fun _ _ _ => False) : codeAny (model P w) callerA (.call (.ref fa) ⟨[.ref a], []⟩) (Fine t) t := by
  have rv := vals_ints hi
  have nT : ¬ TabA K a := fun z => by
    have q := T.at z
    rw [ob] at q
    have z' : Data.seq vs.toArray _ = Data.fields #[] := congrArg Obj.data (Option.some.inj q)
    cases z'
  cases hk : K.lookup a with
  | some o =>
    have e := kx a o hk
    rw [ob] at e
    cases e
    let Hh : Hp := fun b => if TabA K b then some (.tbl #[]) else none
    have h1 : ∀ b, TabA K b → Hh b = some (.tbl #[]) := fun b z => if_pos z
    have h2 : ∀ b, ¬ TabA K b → Hh b = none := fun b z => if_neg z
    refine law_core (H := Hh) kx T bm gl bt bb nl ng ob hr F bi (hsp _ h1 (.inr ⟨_, vs.toArray, _, hk, rfl, rfl, rfl, ?_, by simpa using rv⟩)) h1 (fun b => ?_) (fun b u z => ?_) (fun b z => ?_) (fun z => absurd (h2 a nT) z)
    · rw [List.size_toArray, hi.length]; exact hz
    · by_cases q : TabA K b
      · exact .inr (.inl q)
      · exact .inl (h2 b q)
    · by_cases q : TabA K b
      · rw [h1 b q] at z
        cases z
        exact T.at q
      · rw [h2 b q] at z; cases z
    · by_cases q : TabA K b
      · exact .inr q
      · exact absurd (h2 b q) z
  | none =>
    let Hh : Hp := fun b => if b = a then some (.frz { cls := .type "list", data := .seq vs.toArray } (.lst (ns.map V.int))) else if TabA K b then some (.tbl #[]) else none
    have ha : Hh a = some (.frz { cls := .type "list", data := .seq vs.toArray } (.lst (ns.map V.int))) := if_pos rfl
    have h1 : ∀ b, TabA K b → Hh b = some (.tbl #[]) := fun b z => (if_neg (show ¬ b = a from fun y => nT (by rw [← y]; exact z))).trans (if_pos z)
    have h2 : ∀ b, b ≠ a → ¬ TabA K b → Hh b = none := fun b h z => (if_neg h).trans (if_neg z)
    refine law_core (H := Hh) kx T bm gl bt bb nl ng ob hr F bi (hsp _ h1 (.inl (.inr ⟨_, ha⟩))) h1 (fun b => ?_) (fun b u z => ?_) (fun b z => ?_) (fun _ => hk)
    · by_cases q : b = a
      · exact .inr (.inr ⟨_, _, by rw [q]; exact ha⟩)
      · by_cases q2 : TabA K b
        · exact .inr (.inl q2)
        · exact .inl (h2 b q q2)
    · by_cases q : b = a
      · subst q
        rw [ha] at z
        cases z
        exact ⟨ob, by rw [List.length_map]; exact hz, vs, _, rv, ob⟩
      · by_cases q2 : TabA K b
        · rw [h1 b q2] at z
          cases z
          exact T.at q2
        · rw [h2 b q q2] at z; cases z
    · by_cases q : b = a
      · exact .inl q
      · by_cases q2 : TabA K b
        · exact .inr q2
        · exact absurd (h2 b q q2) z
end
/-- a law: F gives the written part and the promise over every base -/
theorem walk_G {l : OpenLaw} {n k : Nat} {q : Program} {loose : List Str} {XP : (Str → Option Value) → Heap → Prop} {YP : World → Heap → Prop} {d : DefRec} {x : Str} {f : FN}
    (hn : l.most = some n) (hn2 : n ≤ sizeLine) (hdf : d.params.defaults = []) (hr : Room k callerA) (hf : LawOk f n)
    (F : ∀ (w : World) (mg : Str → Option Value) (fa : Addr) (h : Heap), YP w h → h.Ns mainGlobals mg → mg d.name = some (.ref fa) →
      ∃ (K : Frag) (fd : FuncData), K.In h ∧ TabH h K ∧ (∀ (s : Shared) (u : Value), BindsTo s fd ⟨[u], []⟩ [(x, u)]) ∧ ∀ base : Heap, K.In base → base.Ns mainGlobals mg → TBs K mg base → FnG l.prog w K mg base k fa fd [x] (spF K mg f)) :
    WalkO q loose XP YP l.row.toRowW d [] (fun f vs => PySem.call f vs) := by
  refine Att.attach_call hn hdf fun w s0 t mg mb fa o pm cd doc a vs ns G Y ho hd hcd hmg hobj hints hlen hg => ?_
  obtain ⟨K, fd, kx, kt, hb, hF⟩ := F w mg fa _ Y G.T.g hmg
  refine law_run kx kt G.T.bmain G.T.g G.T.b G.T.builtins G.T.nolimit hg hobj hints (Nat.le_trans hlen hn2) hr hF hb fun H hT hS => law_sp hf hlen (fun p hp => ?_) hS
  obtain ⟨q, hq, e⟩ := tabs_tabC p hp
  rw [← e]
  exact hT _ (List.mem_map.mpr ⟨q, hq, rfl⟩)
end Kx

set_option Elab.async false
set_option linter.all false
set_option maxRecDepth 100000
set_option autoImplicit false
/-! Kp: what a def's walk leans on, in one bundle; short rules over it. -/
namespace Kx
open PySem PySem.Spec L2 PySem.W PySem.Calls
open He (ga ma fAd Fa DefD)
/-! ### constants of the module -/
mutual
def conB (K : Frag) : D → Value → Bool
  | .non, .none => true
  | .bl b, .bool c => b == c
  | .int i, .int j _ => decide (i = j)
  | .str x, .str y _ => decide (x = y)
  | .tup ds, .ref a => match K.lookup a with
    | some o => decide (o.cls = .type "tuple") && (match o.data with
      | .seq its _ => decide (its.size ≤ sizeLine) && conBs K ds its.toList
      | _ => false)
    | none => false
  | _, _ => false
def conBs (K : Frag) : List D → List Value → Bool
  | [], [] => true
  | d :: ds, u :: us => conB K d u && conBs K ds us
  | _, _ => false
end
mutual
theorem conB_ok {c : Ctx} (d : D) (u : Value) (h : conB c.K d u = true) : ∃ v, RelV v u ∧ DV c d v := by
  match d, u with
  | .non, .none => exact ⟨.non, rfl, rfl⟩
  | .bl b, .bool b' =>
    have e : b = b' := by simpa [conB] using h
    subst e
    exact ⟨.bl b, rfl, rfl⟩
  | .int i, .int j t =>
    have e : i = j := by simpa [conB] using h
    subst e
    exact ⟨.int i, ⟨t, rfl⟩, rfl⟩
  | .str x, .str y t =>
    have e : x = y := by simpa [conB] using h
    subst e
    exact ⟨.str x, ⟨t, rfl⟩, rfl⟩
  | .tup ds, .ref a =>
    simp only [conB] at h
    split at h
    · rename_i o hl
      obtain ⟨h1, h2⟩ := b2 h
      split at h2
      · rename_i its n hd
        obtain ⟨h3, h4⟩ := b2 h2
        obtain ⟨vs, r1, r2⟩ := conBs_ok ds its.toList h4
        exact ⟨.ref a, rfl, a, vs, rfl, .inr ⟨o, its, n, hl, of_decide_eq_true h1, hd, of_decide_eq_true h3, r1⟩, r2⟩
      · cases h2
    · cases h
theorem conBs_ok {c : Ctx} (ds : List D) (us : List Value) (h : conBs c.K ds us = true) : ∃ vs, Vals vs us ∧ DVs c ds vs := by
  match ds, us with
  | [], [] => exact ⟨[], .nil, rfl⟩
  | d :: ds, u :: us =>
    simp only [conBs] at h
    obtain ⟨h1, h2⟩ := b2 h
    obtain ⟨v, r1, r2⟩ := conB_ok d u h1
    obtain ⟨vs, q1, q2⟩ := conBs_ok ds us h2
    exact ⟨v :: vs, .cons r1 q1, DVs.cons r2 q2⟩
end
/-- the module's name x holds d -/
def conX (K : Frag) (x : Str) (d : D) : Bool := match nsIn K mainGlobals x with
  | some (some u) => conB K d u
  | _ => false
/-- the keyword-only default x of the def at p, if it is an object -/
def kwAd (p : He.Defn) (x : Str) (K : Frag) : Addr := match K.lookup (fAd K p) with
  | some ⟨_, _, .func fd, _⟩ => (match fd.kwdefaults with
    | .ref d => (match nsIn K d x with
      | some (some (.ref a)) => a
      | _ => 0)
    | _ => 0)
  | _ => 0
/-- the names that a law's text leans on: the classes, the built-ins unshadowed, the exceptions with a field, those without, the defs, the constants -/
structure Nm where
  T : ITab
  frs : List Str
  x1s : List (Str × Bs × Str)
  x0s : List Str
  fns : List DefD
  cns : List (Str × D) := []
  tld : Bool := false
  mks : List Str := []
  mts : List (Str × Str) := []
  kds : List (He.Defn × Str × D) := []
structure Tp (P : Program) (N : Nm) (K : Frag) (mg : Str → Option Value) : Prop where
  it : IFacts N.T K mg
  sys : ∃ o, K.lookup sysModules = some o
  fr : ∀ x, x ∈ N.frs → mg x = none
  x1 : ∀ p, p ∈ N.x1s → mg p.1 = some (.ref (ga K p.1)) ∧ XK1 P K (ga K p.1) p.2.2
  x0 : ∀ x, x ∈ N.x0s → mg x = some (.ref (ga K x)) ∧ XK0 K (ga K x)
  fn : ∀ d, d ∈ N.fns → ∃ fd, FunD K d.name d.qual d.params d.body d.scope (d.dvs K) (d.kws K) (fAd K d.at_) fd
  gl : ∀ d, d ∈ N.fns → d.at_.2 = none → mg d.at_.1 = some (.ref (fAd K d.at_))
  top : (P.main.scope.names.lookup ("super" : Str)).isSome = false
  su : mg "super" = none
  uq : ∀ p ∈ tabsK K, ∀ q ∈ tabsK K, p.1 = q.1 → p.2 = q.2
  cn : ∀ p, p ∈ N.cns → ∃ u, mg p.1 = some u ∧ conB K p.2 u = true
  td : N.tld = true → ∀ c, c ∈ N.T.exs → exmAny K (.ref (ga K c)) [.ref (ga K "KeysError"), .ref (ga K "TooGreat"), .ref (ga K "NothingLeft")] = some true
  mkc : ∀ c, c ∈ N.mks → makesIn K (ga K c) = true ∧ keepIn K (.ref (ga K c)) = true
  mt : ∀ p, p ∈ N.mts → Meth K (ga K p.1) p.2 (fAd K (p.1, some p.2))
  kd : ∀ p, p ∈ N.kds → conB K p.2.2 (.ref (kwAd p.1 p.2.1 K)) = true
def mkB (K : Frag) (c : Str) : Bool := makesIn K (ga K c) && keepIn K (.ref (ga K c))
def mtB (K : Frag) (p : Str × Str) : Bool := decide (findIn K (.ref (ga K p.1)) p.2 = some (some (.ref (fAd K (p.1, some p.2))))) && (isFn K (.ref (fAd K (p.1, some p.2))) && keepIn K (.ref (fAd K (p.1, some p.2))))
def tldB (T : ITab) (K : Frag) : Bool := T.exs.all fun c => decide (exmAny K (.ref (ga K c)) [.ref (ga K "KeysError"), .ref (ga K "TooGreat"), .ref (ga K "NothingLeft")] = some true)
def Nm.fa (N : Nm) : List Fa := .free "super" :: (N.frs.map .free ++ N.x1s.map (fun p => .glo p.1) ++ N.x0s.map .glo ++ (N.fns.filter fun d => d.at_.2.isNone).map fun d => .glo d.at_.1)
def Nm.ex (P : Program) (N : Nm) (K : Frag) : Bool := itB N.T K && ((K.lookup sysModules).isSome && ((N.x1s.all fun p => x1B P K p.1 p.2.1 p.2.2) && ((N.x0s.all fun x => x0B K x) && ((N.cns.all fun p => conX K p.1 p.2) && ((!N.tld || tldB N.T K) && ((N.mks.all (mkB K)) && ((N.mts.all (mtB K)) && (N.kds.all fun p => conB K p.2.2 (.ref (kwAd p.1 p.2.1 K))))))))))
theorem tp_of {P : Program} {N : Nm} {K : Frag} {h : Heap} {mg : Str → Option Value} (X : K.In h) (G : h.Ns mainGlobals mg) (c : He.SaysD N.fa N.fns K) (e : N.ex P K = true) (T : TabH h K) (ht : (P.main.scope.names.lookup ("super" : Str)).isSome = false) : Tp P N K mg := by
  obtain ⟨e1, e⟩ := b2 e
  obtain ⟨e2, e⟩ := b2 e
  obtain ⟨e3, e⟩ := b2 e
  obtain ⟨e4, e⟩ := b2 e
  obtain ⟨e5, e⟩ := b2 e
  obtain ⟨e6, e⟩ := b2 e
  obtain ⟨e7, e⟩ := b2 e
  obtain ⟨e8, e9⟩ := b2 e
  have mem : ∀ {f : Fa}, f ∈ N.frs.map Fa.free ++ N.x1s.map (fun p => Fa.glo p.1) ++ N.x0s.map Fa.glo ++ (N.fns.filter fun d => d.at_.2.isNone).map (fun d => Fa.glo d.at_.1) → f.ok K = true := fun {f} hf => c.facts (List.mem_cons_of_mem _ hf)
  refine ⟨itB_ok X G e1, Option.isSome_iff_exists.mp e2, fun x hx => ?_, fun p hp => ⟨?_, x1B_ok (List.all_eq_true.mp e3 p hp)⟩, fun x hx => ⟨?_, x0B_ok (List.all_eq_true.mp e4 x hx)⟩, fun d hd => c.defs hd, fun d hd hn => ?_, ht, He.free_ok X G (c.facts (List.mem_cons_self)), T.uq, fun p hp => ?_, fun ht c hc => ?_, fun c hc => b2 (List.all_eq_true.mp e7 c hc), fun p hp => ?_, fun p hp => List.all_eq_true.mp e9 p hp⟩
  rotate_right
  · obtain ⟨q1, q⟩ := b2 (List.all_eq_true.mp e8 p hp)
    obtain ⟨q2, q3⟩ := b2 q
    exact ⟨of_decide_eq_true q1, q2, q3⟩
  rotate_right 2
  rotate_left
  · rw [ht] at e6
    exact of_decide_eq_true (List.all_eq_true.mp e6 c hc)
  rotate_right
  · have q := List.all_eq_true.mp e5 p hp
    unfold conX at q
    split at q
    · rename_i u hu
      exact ⟨u, mg_of X G hu, q⟩
    · cases q
  · exact He.free_ok X G (mem (List.mem_append_left _ (List.mem_append_left _ (List.mem_append_left _ (List.mem_map_of_mem hx)))))
  · exact He.glo_ok X G (mem (List.mem_append_left _ (List.mem_append_left _ (List.mem_append_right _ (List.mem_map.mpr ⟨p, hp, rfl⟩)))))
  · exact He.glo_ok X G (mem (List.mem_append_left _ (List.mem_append_right _ (List.mem_map_of_mem hx))))
  · have q := He.glo_ok X G (x := d.at_.1) (mem (List.mem_append_right _ (List.mem_map.mpr ⟨d, List.mem_filter.mpr ⟨hd, by rw [hn]; rfl⟩, rfl⟩)))
    have e : fAd K d.at_ = ga K d.at_.1 := by
      unfold fAd
      rw [hn]
    rw [e]
    exact q
/-- a def of the module keeps the reading f -/
structure Has (P : Program) (w : World) (K : Frag) (mg : Str → Option Value) (x : Str) (ps : List Str) (k : Nat) (f : FN) : Prop where
  ex : ∃ fa fd, mg x = some (.ref fa) ∧ keepIn K (.ref fa) = true ∧ Binds K fd ps [] ∧ (ps.length = 1 → ∀ (s : Shared) (u : Value), BindsTo s fd ⟨[u], []⟩ (ps.zip [u])) ∧ ∀ base, TBs K mg base → FnG P w K mg base k fa fd ps (spF K mg f)
/-- what a walk leans on -/
structure Cn (N : Nm) (X : Cx) (W : WX) (k : Nat) : Prop where
  tp : Tp X.prog N X.K X.mg
  hr : Room k X.A
  hG : X.A.guards = some []
  tk : Takes X W
  nd : X.N.Nodup
  tb : TBs X.K X.mg X.base
/-- the code object of a def that makes lambdas, its table -/
def LamAt (K : Frag) (code : Value) (qual : Str) : Prop := ∃ c P, code = .ref c ∧ (c, P) ∈ tabC K ∧ (P, qual ++ ".<locals>." ++ "<lambda>") ∈ tabsK K
section
variable {N : Nm} {X : Cx} {W : WX} {k : Nat}
theorem Cn.u64 (c : Cn N X W k) : X.A.units + 64 < cLine := c.hr.units
theorem Cn.u1 (c : Cn N X W k) : X.A.units + 1 < cLine := by have := c.hr.un; omega
theorem Cn.u65 (c : Cn N X W k) : X.A.units + 65 < cLine := by have := c.hr.un; omega
theorem Cn.blk (c : Cn N X W k) (s : Shared) (H : Hp) (scope : Scope) (env : Env) (fp : List Addr) : Cn N (X.blk s H scope env fp) W0 k := ⟨c.tp, c.hr, c.hG, fun u s' ⟨_, _, _, _, _, _, _, _, _, _, _, _, _, _, _, _, z⟩ => z.elim, c.nd, c.tb⟩
theorem Cn.cx {P : Program} {w : World} {K : Frag} {mg : Str → Option Value} {base : Heap} {Ns : List Str} {qual : Str} {scope : Scope} {f : Addr} {cdv : Value} {A : Around} {outer : List Env} {s : Shared} {H : Hp} {E : XK} (tp : Tp P N K mg) (hG : A.guards = some [])
    (hr : Room k (A.deeper (PyProof.Rows.envOfC qual scope s.heap.objs.size f cdv))) (nd : Ns.Nodup) (tb : TBs K mg base) : Cn N (cxOf (CX P w) P w K mg base Ns qual scope f cdv A outer s H E) (fun C d _ H' => E C d H') k :=
  ⟨tp, hr, hG, takes_of rfl rfl rfl rfl, nd, tb⟩
theorem own_cx {P : Program} {w : World} {K : Frag} {mg : Str → Option Value} {base : Heap} {Ns : List Str} {qual : Str} {scope : Scope} {f : Addr} {cdv : Value} {A : Around} {outer : List Env} {s : Shared} {H : Hp} {E : XK} :
    PassesOwn (model P w) (cxOf (CX P w) P w K mg base Ns qual scope f cdv A outer s H E).A (cxOf (CX P w) P w K mg base Ns qual scope f cdv A outer s H E).env (cxOf (CX P w) P w K mg base Ns qual scope f cdv A outer s H E).xe := passes_of (X := cxOf (CX P w) P w K mg base Ns qual scope f cdv A outer s H E) rfl
/-- THE RULE for a def of the module -/
theorem has_of {P : Program} {w : World} {K : Frag} {mg : Str → Option Value} {d : DefD} {ps Ns : List Str} {n m : Nat} {b : MS} (tp : Tp P N K mg) (hd : d ∈ N.fns) (h0 : d.at_.2 = none) (h1 : d.dfl = []) (hp : d.at_.1 = d.name) (Sc : FnScope Ns ps d.scope) (hn : ps.length = n) (hm : Ns.length = m)
    (hb : ∀ (kV doc pm : Value) (an : Option Addr) (cdv ct : Value) (us : List Value), us.length = ps.length → bindArgs (fnOf d.name d.qual d.params d.body d.scope .none kV doc pm an cdv ct) ⟨us, []⟩ = pure (ps.zip us))
    (hB : ∀ (base : Heap) (f : Addr) (cdv : Value) (A : Around) (outer : List Env) (s : Shared) (H : Hp) (E : XK), Cn N (cxOf (CX P w) P w K mg base Ns d.qual d.scope f cdv A outer s H E) (fun C d _ H' => E C d H') k → (d.at_ ∈ lamDefs → LamAt K cdv d.qual) →
      JB (cxOf (CX P w) P w K mg base Ns d.qual d.scope f cdv A outer s H E) (fun C d _ H' => E C d H') d.body b) : Has P w K mg d.name ps (k + 1) (mkFn n m b) := by
  obtain ⟨fd, F⟩ := tp.fn d hd
  have e : d.dvs K = [] := by unfold He.DefD.dvs; rw [h1]; rfl
  rw [e] at F
  refine ⟨fAd K d.at_, fd, hp ▸ tp.gl d hd h0, F.kp, F.bindsN hb, fun h s u => F.bindsA hb s [u] (by simpa using h.symm), fun base tb => ?_⟩
  refine fn_ok F Sc hn hm fun cdv A outer s H E hcd hG hr => hB base (fAd K d.at_) cdv A outer s H E (Cn.cx tp hG hr Sc.nd tb) fun hl => ?_
  obtain ⟨oc, od, dV, kV, doc, pm, an, cdv', ct, osl, efd, lk, hcd', _, _⟩ := F.ex
  have e1 : fd.code = cdv' := by rw [efd]
  have e2 : fd.qualname = d.qual := by rw [efd]
  rw [← hcd, e1]
  obtain ⟨c, rfl⟩ := He.codeIn_ref hcd'
  have e3 := He.codeOf_eq lk e1
  refine ⟨c, (He.cT K d.at_).2, rfl, List.mem_filterMap.mpr ⟨d.at_, hl, ?_⟩, List.mem_filterMap.mpr ⟨d.at_, hl, ?_⟩⟩
  · rw [lk]
    show some (He.codeOf K d.at_, (He.cT K d.at_).2) = _
    rw [e3]
  · rw [lk]
    show some ((He.cT K d.at_).2, fd.qualname ++ ".<locals>." ++ "<lambda>") = _
    rw [e2]
end
section
variable {N : Nm} {X : Cx} {W : WX} {k : Nat} {a b c : Expr} {es : List Expr} {ma mb mc : ME} {mA : MA} {pos p : Pos}
/-! ### names -/
theorem q_var {i : Nat} {x : Str} (hN : X.N[i]? = some x := by rfl) (hv : Vis X.env.scope x := by first | exact .inl rfl | exact .inr (.inl rfl) | exact .inr (.inr rfl)) (hd : (x == ("__debug__" : Str)) = false := by decide) (hcd : (x == ("__classdict__" : Str)) = false := by decide) : JE X W (.Name x pos) (eVar i) := je_var hN hv hd hcd
theorem q_cls {x : Str} (C : Cn N X W k) (h : N.T.cls.contains x = true := by rfl) (hg : Gl X x := by rfl) (hd : (x == ("__debug__" : Str)) = false := by decide) : JE X W (.Name x pos) (eC (.fn x)) :=
  je_c (pe_glob hg (C.tp.it.glo x (mem_of h)) (v := .ref (ga X.K x)) rfl hd) fun c h1 h2 => ⟨_, rfl, by rw [h2]; exact C.tp.it.glo x (mem_of h)⟩
theorem q_ty {x : Str} {n : String} (C : Cn N X W k) (hv : bootBuiltins x = some (.type n)) (h : N.frs.contains x = true := by rfl) (hg : Gl X x := by rfl) (hn : x ≠ "__name__" := by decide) (hd : (x == ("__debug__" : Str)) = false := by decide) : JE X W (.Name x pos) (eC (.ty n)) :=
  je_c (pe_bltn hg (C.tp.fr x (mem_of h)) hv (v := .ty n) rfl hn hd) fun c h1 h2 => rfl
theorem q_con {x : Str} {d : D} (C : Cn N X W k) (i : Nat) (h : N.cns[i]? = some (x, d) := by rfl) (hg : Gl X x := by rfl) (hd : (x == ("__debug__" : Str)) = false := by decide) : JE X W (.Name x pos) (eC d) := by
  obtain ⟨u, h1, h2⟩ := C.tp.cn _ (List.mem_of_getElem? h)
  refine ⟨fun pins s σ H Q I hh => ?_⟩
  obtain ⟨r, G, S, sim, env, g⟩ := hh
  obtain ⟨v, r1, r2⟩ := conB_ok (c := cx X.K X.mg r S H) d u h2
  exact ld_glob I hg h1 ⟨v, H, I, r1, g.here sim r2⟩ hd
/-! ### calls -/
theorem q_b {x : Str} {id : String} {f : OPN} (C : Cn N X W k) (hc : CallR X (.builtin id) (rdN X.K X.mg f)) (hv : bootBuiltins x = some (.builtin id)) (ha : JA X W (a :: es) mA) (h : N.frs.contains x = true := by rfl) (hg : Gl X x := by rfl) (hn : x ≠ "__name__" := by decide) (hdb : (x == ("__debug__" : Str)) = false := by decide)
    (he : starEach (a :: es) X.env = (false, eval a X.env) :: starEach es X.env := by rfl) (hpl : (backTo pos (starEach es X.env)).any (·.1) = false := by rfl) : JE X W (.Call (.Name x p) (a :: es) [] pos) (eN f mA) := je_callB hc hg (C.tp.fr x (mem_of h)) hv ha hn hdb he hpl
theorem q_t {x : Str} {T : String} {f : OPN} (C : Cn N X W k) (hc : CallR X (.type T) (rdN X.K X.mg f)) (hv : bootBuiltins x = some (.type T)) (ha : JA X W (a :: es) mA) (h : N.frs.contains x = true := by rfl) (hg : Gl X x := by rfl) (hn : x ≠ "__name__" := by decide) (hdb : (x == ("__debug__" : Str)) = false := by decide)
    (he : starEach (a :: es) X.env = (false, eval a X.env) :: starEach es X.env := by rfl) (hpl : (backTo pos (starEach es X.env)).any (·.1) = false := by rfl) : JE X W (.Call (.Name x p) (a :: es) [] pos) (eN f mA) := je_callTy hc hg (C.tp.fr x (mem_of h)) hv ha hn hdb he hpl
theorem q_call {x : Str} {f : FN} {ps : List Str} {j : Nat} (C : Cn N X W k) (F : Has X.prog X.w X.K X.mg x ps j f) (hj : j ≤ k) (ha : JA X W (a :: es) mA) (hg : Gl X x := by rfl) (hdb : (x == ("__debug__" : Str)) = false := by decide)
    (he : starEach (a :: es) X.env = (false, eval a X.env) :: starEach es X.env := by rfl) (hpl : (backTo pos (starEach es X.env)).any (·.1) = false := by rfl) : JE X W (.Call (.Name x p) (a :: es) [] pos) (eF f mA) := by
  obtain ⟨fa, fd, h1, h2, h3, _, h4⟩ := F.ex
  exact je_call (h4 X.base C.tb) C.hG (C.hr.mono hj) hg h1 h2 h3 C.tk ha hdb he hpl
theorem q_call0 {x : Str} {f : FN} {ps : List Str} {j : Nat} (C : Cn N X W k) (F : Has X.prog X.w X.K X.mg x ps j f) (hj : j ≤ k) (hg : Gl X x := by rfl) (hdb : (x == ("__debug__" : Str)) = false := by decide) : JE X W (.Call (.Name x p) [] [] pos) (eF f aNil) := by
  obtain ⟨fa, fd, h1, h2, h3, _, h4⟩ := F.ex
  exact je_call0 (h4 X.base C.tb) C.hG (C.hr.mono hj) hg h1 h2 h3 C.tk hdb
/-! ### exceptions -/
theorem q_x1 {x f : Str} {s : Bs} (C : Cn N X W k) (h : (x, s, f) ∈ N.x1s) (ha : JE X W a ma) (hg : Gl X x := by rfl) (hdb : (x == ("__debug__" : Str)) = false := by decide) (he : starEach [a] X.env = (false, eval a X.env) :: starEach [] X.env := by rfl) : JE X W (.Call (.Name x p) [a] [] pos) (eExc x f ma) :=
  je_exc1 (C.tp.x1 _ h).2 C.tp.su C.tp.top C.hr hg (C.tp.x1 _ h).1 ha hdb he
theorem q_xk {x f : Str} {s : Bs} {kp : Pos} (C : Cn N X W k) (h : (x, s, f) ∈ N.x1s) (ha : JE X W a ma) (hg : Gl X x := by rfl) (hdb : (x == ("__debug__" : Str)) = false := by decide) : JE X W (.Call (.Name x p) [] [⟨some f, a, kp⟩] pos) (eExc x f ma) :=
  je_exck (C.tp.x1 _ h).2 C.tp.su C.tp.top C.hr hg (C.tp.x1 _ h).1 ha hdb
theorem q_x0 {x : Str} (C : Cn N X W k) (h : N.x0s.contains x = true := by rfl) (hg : Gl X x := by rfl) (hdb : (x == ("__debug__" : Str)) = false := by decide) : JE X W (.Call (.Name x p) [] [] pos) (eExc0 x) :=
  je_exc0 (C.tp.x0 x (mem_of h)).2 hg (C.tp.x0 x (mem_of h)).1 hdb
theorem q_fld {f : Str} (C : Cn N X W k) (ha : JE X W a ma) (hb : attributeBase a f X.env (eval a X.env) = eval a X.env := by rfl) : JE X W (.Attribute a f pos) (e1 (fldD N.T f) ma) := je_fld C.tp.it ha hb
end
theorem bt_len : bootBuiltins "len" = some (.builtin "len") := by decide +kernel
theorem bt_min : bootBuiltins "min" = some (.builtin "min") := by decide +kernel
theorem bt_max : bootBuiltins "max" = some (.builtin "max") := by decide +kernel
theorem bt_all : bootBuiltins "all" = some (.builtin "all") := by decide +kernel
theorem bt_any : bootBuiltins "any" = some (.builtin "any") := by decide +kernel
theorem bt_repr : bootBuiltins "repr" = some (.builtin "repr") := by decide +kernel
theorem bt_isinstance : bootBuiltins "isinstance" = some (.builtin "isinstance") := by decide +kernel
theorem bt_int : bootBuiltins "int" = some (.type "int") := by decide +kernel
theorem bt_str : bootBuiltins "str" = some (.type "str") := by decide +kernel
theorem bt_bool : bootBuiltins "bool" = some (.type "bool") := by decide +kernel
theorem bt_tuple : bootBuiltins "tuple" = some (.type "tuple") := by decide +kernel
theorem bt_list : bootBuiltins "list" = some (.type "list") := by decide +kernel
theorem bt_dict : bootBuiltins "dict" = some (.type "dict") := by decide +kernel
theorem bt_ValueError : bootBuiltins "ValueError" = some (.type "ValueError") := by decide +kernel
theorem bt_LookupError : bootBuiltins "LookupError" = some (.type "LookupError") := by decide +kernel
theorem bt_OverflowError : bootBuiltins "OverflowError" = some (.type "OverflowError") := by decide +kernel
end Kx

set_option Elab.async false
set_option linter.all false
set_option maxRecDepth 100000
set_option autoImplicit false
/-! Kq: the laws' own drawing of values: mirrors and what they do. -/
namespace Kx
open PySem PySem.Spec L2
def b__law_begun : MS := sSeq (sAsg (e2 addD (eSl (eVar 0) (oSome (eVar 1)) (oNone)) (eSl (eVar 0) (oNone) (oSome (eVar 1)))) (gN 2)) (sSeq (sAsg (eLc (iVal (eVar 2)) (gN 5) [5] (tOfE (e2 geD (eVar 5) (e2 powD (eC (.int 10)) (eC (.int 18))))) (eVar 5)) (gN 3)) (sSeq (sAsg (e2 addD (eC (.int 97)) (eVar 1)) (gN 4)) (sSeq (sFor (iVal (eVar 2)) (gN 5) (sAsg (e2 modD (eN intD (aCons (e2 addD (e2 mulD (eVar 4) (eC (.int 48271))) (eVar 5)) (aNil))) (eC (.int 2147483647))) (gN 4))) (sRet (eDicC [.inr "left", .inr "seed", .inr "cells", .inr "spot"] (aCons (eIf (tOfE (e2 (notOf eqD) (eVar 3) (eLst (aNil)))) (e2 idxD (eVar 3) (eC (.int 0))) (eC (.int 0))) (aCons (eVar 4) (aCons (e2 addD (eVar 2) (eLst (aCons (e2 addD (e2 mulD (eC (.int 31)) (eVar 1)) (eC (.int 5))) (aNil)))) (aCons (eC (.int 0)) (aNil))))))))))
def f__law_begun : FN := mkFn 2 6 b__law_begun
def b__law_draw : MS := sSeq (sIf (tOfE (e2 gtD (e2 idxD (eVar 0) (eC (.str "left"))) (eC (.int 0)))) (sSeq (sAsg (e2 modD (eN intD (aCons (e2 idxD (eVar 0) (eC (.str "left"))) (aNil))) (eVar 1)) (gN 2)) (sSeq (sPut (e2 divD (e2 idxD (eVar 0) (eC (.str "left"))) (eVar 1)) (eVar 0) (eC (.str "left"))) (sRet (eVar 2)))) (sNext)) (sSeq (sAsg (e2 idxD (eVar 0) (eC (.str "spot"))) (gN 3)) (sSeq (sPut (e2 addD (eVar 3) (eC (.int 1))) (eVar 0) (eC (.str "spot"))) (sSeq (sPar 4 5 (e2 idxD (eVar 0) (eC (.str "cells"))) (e2 addD (e2 idxD (eVar 0) (eC (.str "seed"))) (e2 mulD (e2 mulD (eC (.int 40503)) (eVar 3)) (eVar 3)))) (sSeq (sAsg (e2 idxD (eVar 4) (e2 modD (eN intD (aCons (eVar 3) (aNil))) (eN lenD (aCons (eVar 4) (aNil))))) (gN 6)) (sSeq (sAsg (e2 modD (eN intD (aCons (e2 addD (e2 mulD (eVar 6) (e2 addD (e2 mulD (eC (.int 2)) (eVar 3)) (eC (.int 3)))) (eVar 5)) (aNil))) (eC (.int 2147483647))) (gN 7)) (sSeq (sAsg (e2 modD (eN intD (aCons (e2 addD (e2 addD (e2 mulD (eVar 7) (eVar 7)) (e2 mulD (eC (.int 69621)) (eVar 3))) (e2 idxD (eVar 0) (eC (.str "seed")))) (aNil))) (eC (.int 2147483629))) (gN 7)) (sRet (e2 modD (e2 divD (e2 modD (eN intD (aCons (e2 addD (e2 mulD (eVar 7) (eC (.int 48271))) (eVar 3)) (aNil))) (eC (.int 2147483647))) (eC (.int 11))) (eVar 1)))))))))
def f__law_draw : FN := mkFn 2 8 b__law_draw
def b__law_of : MS := sRet (e2 idxD (eVar 1) (eF f__law_draw (aCons (eVar 0) (aCons (eN lenD (aCons (eVar 1) (aNil))) (aNil)))))
def f__law_of : FN := mkFn 2 2 b__law_of

/-- the drawer's cell -/
def Dw (l s p : Int) (c : List Int) : Cell := .dic [.str "left", .str "seed", .str "cells", .str "spot"] [.int l, .int s, .lst (c.map .int), .int p]
section
variable {S : Store} {n : Nat} {l s p : Int} {c : List Int}
theorem lst_loc : lstOf S (.loc n) = (match S[n]? with
    | some (.lst ds) => some ds
    | _ => none) := rfl
theorem dic_loc : dicOf S (.loc n) = (match S[n]? with
    | some (.dic ks ds) => some (ks, ds)
    | _ => none) := rfl
theorem dw_left (h : S[n]? = some (Dw l s p c)) : idxD (.loc n) (.str "left") S = some (.int l) := by
  have e1 : lstOf S (.loc n) = none := by rw [lst_loc, h]; rfl
  have e2 : dicOf S (.loc n) = some ([.str "left", .str "seed", .str "cells", .str "spot"], [.int l, .int s, .lst (c.map .int), .int p]) := by rw [dic_loc, h]; rfl
  show (match lstOf S (.loc n), D.str "left" with
    | some ds, .int i => atI ds i
    | _, e => match dicOf S (.loc n), kOf e with
      | some (ks, ds), some k => dget ks ds k
      | _, _ => none) = _
  rw [e1, e2]
  rfl
theorem dw_seed (h : S[n]? = some (Dw l s p c)) : idxD (.loc n) (.str "seed") S = some (.int s) := by
  have e1 : lstOf S (.loc n) = none := by rw [lst_loc, h]; rfl
  have e2 : dicOf S (.loc n) = some ([.str "left", .str "seed", .str "cells", .str "spot"], [.int l, .int s, .lst (c.map .int), .int p]) := by rw [dic_loc, h]; rfl
  show (match lstOf S (.loc n), D.str "seed" with
    | some ds, .int i => atI ds i
    | _, e => match dicOf S (.loc n), kOf e with
      | some (ks, ds), some k => dget ks ds k
      | _, _ => none) = _
  rw [e1, e2]
  rfl
theorem dw_cells (h : S[n]? = some (Dw l s p c)) : idxD (.loc n) (.str "cells") S = some (.lst (c.map .int)) := by
  have e1 : lstOf S (.loc n) = none := by rw [lst_loc, h]; rfl
  have e2 : dicOf S (.loc n) = some ([.str "left", .str "seed", .str "cells", .str "spot"], [.int l, .int s, .lst (c.map .int), .int p]) := by rw [dic_loc, h]; rfl
  show (match lstOf S (.loc n), D.str "cells" with
    | some ds, .int i => atI ds i
    | _, e => match dicOf S (.loc n), kOf e with
      | some (ks, ds), some k => dget ks ds k
      | _, _ => none) = _
  rw [e1, e2]
  rfl
theorem dw_spot (h : S[n]? = some (Dw l s p c)) : idxD (.loc n) (.str "spot") S = some (.int p) := by
  have e1 : lstOf S (.loc n) = none := by rw [lst_loc, h]; rfl
  have e2 : dicOf S (.loc n) = some ([.str "left", .str "seed", .str "cells", .str "spot"], [.int l, .int s, .lst (c.map .int), .int p]) := by rw [dic_loc, h]; rfl
  show (match lstOf S (.loc n), D.str "spot" with
    | some ds, .int i => atI ds i
    | _, e => match dicOf S (.loc n), kOf e with
      | some (ks, ds), some k => dget ks ds k
      | _, _ => none) = _
  rw [e1, e2]
  rfl
theorem sz4 : 4 < sizeLine := by rw [sizeLine_eq]; omega
theorem dw_putL {l' : Int} (h : S[n]? = some (Dw l s p c)) : putM (.loc n) (.str "left") (.int l') S = some (S.set n (Dw l' s p c)) := by
  show putC S n (.inr "left") (.int l') = _
  unfold putC
  rw [h]
  exact (if_pos sz4).trans rfl
theorem dw_putP {p' : Int} (h : S[n]? = some (Dw l s p c)) : putM (.loc n) (.str "spot") (.int p') S = some (S.set n (Dw l s p' c)) := by
  show putC S n (.inr "spot") (.int p') = _
  unfold putC
  rw [h]
  exact (if_pos sz4).trans rfl

theorem get_set {n : Nat} {S : Store} {a b : Cell} (h : S[n]? = some a) : (S.set n b)[n]? = some b := by
  have hlt : n < S.length := (List.getElem?_eq_some_iff.mp h).1
  rw [List.getElem?_set_self hlt]
/-- the first half: a great number is taken apart -/
theorem draw_great {m : Int} (h : S[n]? = some (Dw l s p c)) (hl : 0 < l) (hm : 0 < m) (hM : m < 1073741824) : f__law_draw [.loc n, .int m] S = .ok (.int (l % m)) (S.set n (Dw (l / m) s p c)) := by
  have g : gtD (.int l) (.int 0) S = some (.bl true) := by
    show some (D.bl (decide (0 < l))) = _
    rw [decide_eq_true hl]
  have e1 : modD (.int l) (.int m) S = some (.int (l % m)) := if_pos hm
  have e2 : divD (.int l) (.int m) S = some (.int (l / m)) := if_pos ⟨hm, hM⟩
  have L := dw_left h
  have U := dw_putL (l' := l / m) h
  simp [f__law_draw, b__law_draw, mkFn, fnRes, startG, sSeq, sIf, sb, tOfE, Kx.e2, eN, eVar, eC, aCons, aNil, Res.bind, opt, intD, sAsg, gN, sPut, sRet, L, g, e1, e2, U]

theorem mul_l {i j : Int} {S : Store} (h : within64 i = true) : mulD (.int i) (.int j) S = some (.int (i * j)) := if_pos (by rw [h, Bool.true_or])
theorem mul_r {i j : Int} {S : Store} (h : within64 j = true) : mulD (.int i) (.int j) S = some (.int (i * j)) := if_pos (by rw [h, Bool.or_true])
theorem in64 {i : Int} (h : -(2 ^ 63) ≤ i) (h' : i < 2 ^ 63) : within64 i = true := by
  unfold within64
  rw [Bool.and_eq_true, decide_eq_true_eq, decide_eq_true_eq]
  omega
theorem mod_p {i j : Int} {S : Store} (h : 0 < j) : modD (.int i) (.int j) S = some (.int (i % j)) := if_pos h
theorem div_p {i j : Int} {S : Store} (h : 0 < j) (h' : j < 1073741824) : divD (.int i) (.int j) S = some (.int (i / j)) := if_pos ⟨h, h'⟩
theorem at_some {ds : List D} {i : Int} (h0 : 0 ≤ i) (h : i < ds.length) : ∃ d, d ∈ ds ∧ ds[i.toNat]? = some d ∧ atI ds i = some d := by
  have hlt : i.toNat < ds.length := by omega
  refine ⟨ds[i.toNat], List.getElem_mem hlt, List.getElem?_eq_getElem hlt, ?_⟩
  unfold atI ixN
  rw [if_pos h0, if_pos h]
  exact List.getElem?_eq_getElem hlt

theorem idx_lst {ds : List D} {i : Int} {S : Store} : idxD (.lst ds) (.int i) S = atI ds i := rfl
theorem len_lst {ds : List D} {S : Store} : lenD [.lst ds] S = some (.int ds.length) := rfl
/-- the second half: a number is blended -/
theorem draw_blend {m : Int} (h : S[n]? = some (Dw l s p c)) (hl : ¬ 0 < l) (hp : 0 ≤ p) (hP : p < 2 ^ 60) (hs : 0 ≤ s) (hm : 0 < m) (hM : m < 1073741824) (hc : c ≠ []) :
    ∃ v, f__law_draw [.loc n, .int m] S = .ok (.int v) (S.set n (Dw l s (p + 1) c)) ∧ 0 ≤ v ∧ v < m := by
  have g : gtD (.int l) (.int 0) S = some (.bl false) := by
    show some (D.bl (decide (0 < l))) = _
    rw [decide_eq_false hl]
  have hcl : 0 < c.length := List.length_pos_iff.mpr hc
  have L := dw_left h
  have Pp := dw_spot h
  have U := dw_putP (p' := p + 1) h
  have h1 : (S.set n (Dw l s (p + 1) c))[n]? = some (Dw l s (p + 1) c) := get_set h
  generalize hS1 : S.set n (Dw l s (p + 1) c) = S1 at h1 U ⊢
  have L1 := dw_cells h1
  have L2 := dw_seed h1
  have q1 : mulD (.int 40503) (.int p) S1 = some (.int (40503 * p)) := mul_l rfl
  have q2 : mulD (.int (40503 * p)) (.int p) S1 = some (.int (40503 * p * p)) := mul_r (in64 (by omega) (by omega))
  have q3 : modD (.int p) (.int (c.map D.int).length) S1 = some (.int (p % ((c.map D.int).length : Int))) := mod_p (by simpa using hcl)
  have cpos : (0 : Int) < ((c.map D.int).length : Int) := by simpa using hcl
  obtain ⟨d, hd, _, hat⟩ := at_some (ds := c.map D.int) (i := p % ((c.map D.int).length : Int)) (Int.emod_nonneg _ (by omega)) (Int.emod_lt_of_pos _ cpos)
  obtain ⟨z, _, rfl⟩ := List.mem_map.mp hd
  have q4 : idxD (.lst (c.map D.int)) (.int (p % ((c.map D.int).length : Int))) S1 = some (.int z) := hat
  have q5 : mulD (.int 2) (.int p) S1 = some (.int (2 * p)) := mul_l rfl
  have q6 : mulD (.int z) (.int (2 * p + 3)) S1 = some (.int (z * (2 * p + 3))) := mul_r (in64 (by omega) (by omega))
  have q7 : modD (.int (z * (2 * p + 3) + (s + 40503 * p * p))) (.int 2147483647) S1 = some (.int ((z * (2 * p + 3) + (s + 40503 * p * p)) % 2147483647)) := mod_p (by decide)
  generalize hb : (z * (2 * p + 3) + (s + 40503 * p * p)) % 2147483647 = b1 at q7
  have b1a : 0 ≤ b1 := by rw [← hb]; exact Int.emod_nonneg _ (by decide)
  have b1b : b1 < 2147483647 := by rw [← hb]; exact Int.emod_lt_of_pos _ (by decide)
  have q8 : mulD (.int b1) (.int b1) S1 = some (.int (b1 * b1)) := mul_r (in64 (by omega) (by omega))
  have q9 : mulD (.int 69621) (.int p) S1 = some (.int (69621 * p)) := mul_l rfl
  have q10 : modD (.int (b1 * b1 + 69621 * p + s)) (.int 2147483629) S1 = some (.int ((b1 * b1 + 69621 * p + s) % 2147483629)) := mod_p (by decide)
  generalize hb2 : (b1 * b1 + 69621 * p + s) % 2147483629 = b2 at q10
  have b2a : 0 ≤ b2 := by rw [← hb2]; exact Int.emod_nonneg _ (by decide)
  have b2b : b2 < 2147483629 := by rw [← hb2]; exact Int.emod_lt_of_pos _ (by decide)
  have q11 : mulD (.int b2) (.int 48271) S1 = some (.int (b2 * 48271)) := mul_r rfl
  have q12 : modD (.int (b2 * 48271 + p)) (.int 2147483647) S1 = some (.int ((b2 * 48271 + p) % 2147483647)) := mod_p (by decide)
  have q13 : divD (.int ((b2 * 48271 + p) % 2147483647)) (.int 11) S1 = some (.int ((b2 * 48271 + p) % 2147483647 / 11)) := div_p (by decide) (by decide)
  have q14 : modD (.int ((b2 * 48271 + p) % 2147483647 / 11)) (.int m) S1 = some (.int ((b2 * 48271 + p) % 2147483647 / 11 % m)) := mod_p hm
  refine ⟨(b2 * 48271 + p) % 2147483647 / 11 % m, ?_, Int.emod_nonneg _ (by omega), Int.emod_lt_of_pos _ hm⟩
  have ad : ∀ (i j : Int) (S : Store), addD (.int i) (.int j) S = some (.int (i + j)) := fun _ _ _ => rfl
  have it : ∀ (i : Int) (S : Store), intD [.int i] S = some (.int i) := fun _ _ => rfl
  have ln : lenD [.lst (c.map D.int)] S1 = some (.int ((c.map D.int).length : Int)) := rfl
  simp only [f__law_draw, b__law_draw, mkFn, startG, List.length_cons, List.length_nil, List.map_cons, List.map_nil, Nat.reduceAdd, Nat.reduceSub, List.replicate, List.cons_append, List.nil_append, if_true, sSeq, sIf, sb, tOfE, Kx.e2, eN, eVar, eC, aCons, aNil, Res.bind, opt, sAsg, sPar, gN, sPut, sRet, sNext, List.getElem?_cons_zero, List.getElem?_cons_succ, List.set_cons_zero, List.set_cons_succ,
    L, g, Pp, ad, it, U, L1, L2, q1, q2, ln, q3, q4, q5, q6, q7, q8, q9, q10, q11, q12, q13, q14, Bool.false_eq_true, if_false, fnRes]

/-- the drawer at n is in order, its spot at most b -/
def DrOk (S : Store) (n b : Nat) : Prop := ∃ l s p c, S[n]? = some (Dw l s p c) ∧ 0 ≤ p ∧ p ≤ (b : Int) ∧ 0 ≤ s ∧ c ≠ []
theorem draw_inv {b : Nat} {m : Int} (h : DrOk S n b) (hb : b < 2 ^ 60) (hm : 0 < m) (hM : m < 1073741824) : ∃ v k, f__law_draw [.loc n, .int m] S = .ok (.int v) (S.set n k) ∧ 0 ≤ v ∧ v < m ∧ DrOk (S.set n k) n (b + 1) := by
  obtain ⟨l, s, p, c, h1, h2, h3, h4, h5⟩ := h
  by_cases hl : 0 < l
  · exact ⟨_, _, draw_great h1 hl hm hM, Int.emod_nonneg _ (by omega), Int.emod_lt_of_pos _ hm, _, _, _, _, get_set h1, h2, by push_cast; omega, h4, h5⟩
  · obtain ⟨v, e, v1, v2⟩ := draw_blend h1 hl h2 (by omega) h4 hm hM h5
    exact ⟨v, _, e, v1, v2, _, _, _, _, get_set h1, by omega, by push_cast; omega, h4, h5⟩
theorem of_inv {b : Nat} {ds : List D} (h : DrOk S n b) (hb : b < 2 ^ 60) (hd : ds ≠ []) (hl : ds.length < 1073741824) : ∃ d k, d ∈ ds ∧ f__law_of [.loc n, .lst ds] S = .ok d (S.set n k) ∧ DrOk (S.set n k) n (b + 1) := by
  have hp : 0 < ds.length := List.length_pos_iff.mpr hd
  obtain ⟨v, k, e, v1, v2, ok⟩ := draw_inv (m := (ds.length : Int)) h hb (by omega) (by omega)
  obtain ⟨d, hd, _, hat⟩ := at_some v1 v2
  refine ⟨d, k, hd, ?_, ok⟩
  have i1 : idxD (.lst ds) (.int v) (S.set n k) = some d := hat
  have l1 : lenD [.lst ds] S = some (.int (ds.length : Int)) := rfl
  simp only [f__law_of, b__law_of, mkFn, startG, List.length_cons, List.length_nil, List.map_cons, List.map_nil, Nat.reduceAdd, Nat.reduceSub, List.replicate, List.append_nil, List.cons_append, List.nil_append, if_true, sb, Kx.e2, eN, eF, eVar, aCons, aNil, Res.bind, opt, sRet, List.getElem?_cons_zero, List.getElem?_cons_succ, l1, e, i1, fnRes]
/-! ### the drawer is begun -/
theorem cut_ints {ns : List Int} {a b : Option Int} : ∃ zs : List Int, cutD (ns.map D.int) a b = zs.map .int ∧ zs.length ≤ ns.length := by
  refine ⟨(ns.drop (HT.sIx (ns.map D.int).length 0 a)).take (HT.sIx (ns.map D.int).length (ns.map D.int).length b - HT.sIx (ns.map D.int).length 0 a), ?_, ?_⟩
  · unfold cutD
    rw [List.map_take, List.map_drop]
  · rw [List.length_take, List.length_drop]; omega
theorem toPs_ints {S : Store} : ∀ {gs : List Int}, toPs S (gs.map .int) = some (gs.map PyData.int)
  | [] => by simp [toPs]
  | g :: gs => by simp [toPs, toP, toPs_ints (gs := gs)]
theorem lay_ints : ∀ {gs : List Int}, PyData.canLayAll0 (gs.map PyData.int) = true
  | [] => by simp [PyData.canLayAll0]
  | g :: gs => by simp [PyData.canLayAll0, PyData.canLay0, lay_ints (gs := gs)]
theorem deep_ints : ∀ {gs : List Int}, PyData.depthAll (gs.map PyData.int) ≤ 1
  | [] => by simp [PyData.depthAll]
  | g :: gs => by
    have := deep_ints (gs := gs)
    simp only [List.map_cons, PyData.depthAll, PyData.depth]
    omega
theorem shaped_ints {gs : List Int} : SeqAt.shaped (.list (gs.map PyData.int)) = true := by
  unfold SeqAt.shaped
  have := deep_ints (gs := gs)
  rw [Bool.and_eq_true, decide_eq_true_eq]
  refine ⟨by simp only [PyData.canLay0]; exact lay_ints, ?_⟩
  simp only [PyData.depth]
  omega
theorem ne_nil_ints {gs : List Int} {S : Store} : notOf eqD (.lst (gs.map .int)) (.lst []) S = some (.bl (!gs.isEmpty)) := by
  have e : eqD (.lst (gs.map .int)) (.lst []) S = some (.bl gs.isEmpty) := by
    have e1 : toP S (.lst (gs.map .int)) = some (.list (gs.map PyData.int)) := by simp [toP, toPs_ints]
    have e2 : toP S (.lst []) = some (.list []) := by simp [toP, toPs]
    have e3 : SeqAt.shaped (.list []) = true := by decide
    show (match toP S (.lst (gs.map .int)), toP S (.lst []) with
      | some p, some q => if SeqAt.shaped p && SeqAt.shaped q then some (D.bl (PyData.eqv p q)) else none
      | _, _ => none) = _
    rw [e1, e2]
    show (if (SeqAt.shaped (.list (gs.map PyData.int)) && SeqAt.shaped (.list [])) = true then some (D.bl (PyData.eqv (.list (gs.map PyData.int)) (.list []))) else none) = _
    rw [shaped_ints, e3]
    cases gs with
    | nil => simp [PyData.eqv, PyData.eqvAll]
    | cons g gs => simp [PyData.eqv, PyData.eqvAll]
  unfold notOf
  rw [e]
def G6 (a b c d e f : Option D) : En := [a, b, c, d, e, f]
theorem great_run {S : Store} {a b c d e f : Option D} : ∀ zs : List Int, ∃ gs : List Int, gs.length ≤ zs.length ∧ lcL (gN 5) [5] (tOfE (e2 geD (eVar 5) (e2 powD (eC (.int 10)) (eC (.int 18))))) (eVar 5) (G6 a b c d e f) (zs.map .int) S = .ok (gs.map .int) S
  | [] => ⟨[], Nat.le_refl _, rfl⟩
  | z :: zs => by
    obtain ⟨gs, h1, h2⟩ := great_run (S := S) (a := a) (b := b) (c := c) (d := d) (e := e) (f := f) zs
    have t : (tOfE (Kx.e2 geD (eVar 5) (Kx.e2 powD (eC (.int 10)) (eC (.int 18))))) (G6 a b c d e (some (.int z))) S = .ok (decide ((10 : Int) ^ (18 : Int).toNat ≤ z)) S := rfl
    rw [List.map_cons]
    show ∃ gs : List Int, _ ∧ (match (some (G6 a b c d e (some (D.int z)))) with
      | none => Res.err
      | some G1 => match (tOfE (Kx.e2 geD (eVar 5) (Kx.e2 powD (eC (.int 10)) (eC (.int 18))))) G1 S with
        | .ok true S1 => (match eVar 5 G1 S1 with
          | .ok y S2 => (match lcL (gN 5) [5] (tOfE (Kx.e2 geD (eVar 5) (Kx.e2 powD (eC (.int 10)) (eC (.int 18))))) (eVar 5) (G6 a b c d e f) (zs.map .int) S2 with
            | .ok ys S3 => Res.ok (y :: ys) S3
            | _ => Res.err)
          | _ => Res.err)
        | .ok false S1 => lcL (gN 5) [5] (tOfE (Kx.e2 geD (eVar 5) (Kx.e2 powD (eC (.int 10)) (eC (.int 18))))) (eVar 5) (G6 a b c d e f) (zs.map .int) S1
        | _ => Res.err) = Res.ok (gs.map .int) S
    simp only [t]
    cases decide ((10 : Int) ^ (18 : Int).toNat ≤ z) with
    | false => exact ⟨gs, by simp only [List.length_cons]; omega, h2⟩
    | true =>
      refine ⟨z :: gs, by simp only [List.length_cons]; omega, ?_⟩
      show (match lcL (gN 5) [5] (tOfE (Kx.e2 geD (eVar 5) (Kx.e2 powD (eC (.int 10)) (eC (.int 18))))) (eVar 5) (G6 a b c d e f) (zs.map .int) S with
            | .ok ys S3 => (.ok (D.int z :: ys) S3 : Res (List D))
            | _ => .err) = _
      rw [h2]
      rfl
theorem seed_run {S : Store} {a b c d : Option D} : ∀ (zs : List Int) (s : Int) (f : Option D), 0 ≤ s → s < 2 ^ 62 → ∃ (s' : Int) (f' : Option D), 0 ≤ s' ∧ s' < 2 ^ 62 ∧
    forL (gN 5) (sAsg (e2 modD (eN intD (aCons (e2 addD (e2 mulD (eVar 4) (eC (.int 48271))) (eVar 5)) (aNil))) (eC (.int 2147483647))) (gN 4)) (zs.map .int) (G6 a b c d (some (.int s)) f) S = .nx (G6 a b c d (some (.int s')) f') S
  | [], s, f, h, h' => ⟨s, f, h, h', rfl⟩
  | z :: zs, s, f, h, h' => by
    have p1 : 0 ≤ (s * 48271 + z) % 2147483647 := Int.emod_nonneg _ (by decide)
    have p2 : (s * 48271 + z) % 2147483647 < 2147483647 := Int.emod_lt_of_pos _ (by decide)
    obtain ⟨s', f', h1, h2, h3⟩ := seed_run (S := S) (a := a) (b := b) (c := c) (d := d) zs ((s * 48271 + z) % 2147483647) (some (.int z)) p1 (by omega)
    refine ⟨s', f', h1, h2, ?_⟩
    have q : mulD (.int s) (.int 48271) S = some (.int (s * 48271)) := mul_r rfl
    have q2 : modD (.int (s * 48271 + z)) (.int 2147483647) S = some (.int ((s * 48271 + z) % 2147483647)) := mod_p (by decide)
    have st : (sAsg (Kx.e2 modD (eN intD (aCons (Kx.e2 addD (Kx.e2 mulD (eVar 4) (eC (.int 48271))) (eVar 5)) (aNil))) (eC (.int 2147483647))) (gN 4)) (G6 a b c d (some (.int s)) (some (.int z))) S = .nx (G6 a b c d (some (.int ((s * 48271 + z) % 2147483647))) (some (.int z))) S := by
      have ad : addD (.int (s * 48271)) (.int z) S = some (.int (s * 48271 + z)) := rfl
      have it : intD [.int (s * 48271 + z)] S = some (.int (s * 48271 + z)) := rfl
      simp only [G6, sAsg, sb, Kx.e2, eN, eVar, eC, aCons, aNil, Res.bind, opt, gN, List.getElem?_cons_zero, List.getElem?_cons_succ, List.set_cons_zero, List.set_cons_succ, q, q2, ad, it]
    rw [List.map_cons]
    show (match (sAsg (Kx.e2 modD (eN intD (aCons (Kx.e2 addD (Kx.e2 mulD (eVar 4) (eC (.int 48271))) (eVar 5)) (aNil))) (eC (.int 2147483647))) (gN 4)) (G6 a b c d (some (.int s)) (some (.int z))) S with
      | .nx G2 S2 => forL (gN 5) _ (zs.map .int) G2 S2
      | .ct G2 S2 => forL (gN 5) _ (zs.map .int) G2 S2
      | .bk G2 S2 => .nx G2 S2
      | z => z) = _
    rw [st]
    exact h3
theorem begun_ok {ns : List Int} {k : Int} {S : Store} (hn : ns.length ≤ 63) (hk : 0 ≤ k) (hK : k < 2 ^ 60) : ∃ K, f__law_begun [.rol (ns.map .int), .int k] S = .ok (.loc S.length) (S ++ [K]) ∧ DrOk (S ++ [K]) S.length 0 := by
  obtain ⟨xs, x1, x2⟩ := cut_ints (ns := ns) (a := some k) (b := none)
  obtain ⟨ys, y1, y2⟩ := cut_ints (ns := ns) (a := none) (b := some k)
  have z1 : slD (.rol (ns.map .int)) (some k) none S = some (.lst (xs.map .int)) := by show some (D.lst (cutD (ns.map .int) (some k) none)) = _; rw [x1]
  have z2 : slD (.rol (ns.map .int)) none (some k) S = some (.lst (ys.map .int)) := by show some (D.lst (cutD (ns.map .int) none (some k))) = _; rw [y1]
  have z3 : addD (.lst (xs.map .int)) (.lst (ys.map .int)) S = some (.lst ((xs ++ ys).map .int)) := by
    show (if sumOk (xs.map D.int).length (ys.map D.int).length then some (D.lst (xs.map .int ++ ys.map .int)) else none) = _
    rw [if_pos, List.map_append]
    unfold sumOk
    rw [decide_eq_true_eq, sizeLine_eq, List.length_map, List.length_map]
    omega
  have cl : (xs ++ ys).length ≤ 126 := by rw [List.length_append]; omega
  generalize xs ++ ys = cs at z3 cl
  obtain ⟨gs, g1, g2⟩ := great_run (S := S) (a := some (.rol (ns.map .int))) (b := some (.int k)) (c := some (.lst (cs.map .int))) (d := none) (e := none) (f := none) cs
  have sm : small (gs.map D.int) = true := by
    unfold small
    rw [decide_eq_true_eq, sizeLine_eq, List.length_map]
    omega
  obtain ⟨s', f', s1, s2, s3⟩ := seed_run (S := S) (a := some (.rol (ns.map .int))) (b := some (.int k)) (c := some (.lst (cs.map .int))) (d := some (.lst (gs.map .int))) cs (97 + k) none (by omega) (by omega)
  have z4 : mulD (.int 31) (.int k) S = some (.int (31 * k)) := mul_l rfl
  have z5 : addD (.lst (cs.map .int)) (.lst [.int (31 * k + 5)]) S = some (.lst ((cs ++ [31 * k + 5]).map .int)) := by
    show (if sumOk (cs.map D.int).length 1 then some (D.lst (cs.map .int ++ [.int (31 * k + 5)])) else none) = _
    rw [if_pos, List.map_append]
    · rfl
    · unfold sumOk
      rw [decide_eq_true_eq, sizeLine_eq, List.length_map]
      omega
  obtain ⟨l, lt⟩ : ∃ l : Int, (eIf (tOfE (Kx.e2 (notOf eqD) (eVar 3) (eLst (aNil)))) (Kx.e2 idxD (eVar 3) (eC (.int 0))) (eC (.int 0))) (G6 (some (.rol (ns.map .int))) (some (.int k)) (some (.lst (cs.map .int))) (some (.lst (gs.map .int))) (some (.int s')) f') S = .ok (.int l) S := by
    have t : (tOfE (Kx.e2 (notOf eqD) (eVar 3) (eLst (aNil)))) (G6 (some (.rol (ns.map .int))) (some (.int k)) (some (.lst (cs.map .int))) (some (.lst (gs.map .int))) (some (.int s')) f') S = .ok (!gs.isEmpty) S := by
      have s0 : small [] = true := by decide
      simp only [G6, tOfE, Kx.e2, eVar, eLst, aNil, Res.bind, opt, s0, if_true, List.getElem?_cons_zero, List.getElem?_cons_succ, ne_nil_ints]
    unfold eIf
    rw [t]
    cases gs with
    | nil => exact ⟨0, rfl⟩
    | cons g gs =>
      have q : idxD (.lst ((g :: gs).map .int)) (.int 0) S = some (.int g) := by
        show atI ((g :: gs).map D.int) 0 = _
        unfold atI ixN
        rw [if_pos (Int.le_refl 0), if_pos (by simp only [List.length_map, List.length_cons]; omega)]
        rfl
      refine ⟨g, ?_⟩
      show (Kx.e2 idxD (eVar 3) (eC (.int 0))) (G6 (some (.rol (ns.map .int))) (some (.int k)) (some (.lst (cs.map .int))) (some (.lst ((g :: gs).map .int))) (some (.int s')) f') S = _
      simp only [G6, Kx.e2, eVar, eC, Res.bind, opt, List.getElem?_cons_zero, List.getElem?_cons_succ, q]
  refine ⟨Dw l s' 0 (cs ++ [31 * k + 5]), ?_, l, s', 0, cs ++ [31 * k + 5], by simp, by omega, by omega, s1, by simp⟩
  have lt' := lt
  have e1 : (sAsg (Kx.e2 addD (eSl (eVar 0) (oSome (eVar 1)) (oNone)) (eSl (eVar 0) (oNone) (oSome (eVar 1)))) (gN 2)) (G6 (some (.rol (ns.map .int))) (some (.int k)) none none none none) S = .nx (G6 (some (.rol (ns.map .int))) (some (.int k)) (some (.lst (cs.map .int))) none none none) S := by
    simp only [G6, sAsg, sb, Kx.e2, eSl, oSome, oNone, eVar, Res.bind, opt, gN, List.getElem?_cons_zero, List.getElem?_cons_succ, List.set_cons_zero, List.set_cons_succ, z1, z2, z3]
  have e2' : (sAsg (eLc (iVal (eVar 2)) (gN 5) [5] (tOfE (Kx.e2 geD (eVar 5) (Kx.e2 powD (eC (.int 10)) (eC (.int 18))))) (eVar 5)) (gN 3)) (G6 (some (.rol (ns.map .int))) (some (.int k)) (some (.lst (cs.map .int))) none none none) S = .nx (G6 (some (.rol (ns.map .int))) (some (.int k)) (some (.lst (cs.map .int))) (some (.lst (gs.map .int))) none none) S := by
    have iv : (iVal (eVar 2)) (G6 (some (.rol (ns.map .int))) (some (.int k)) (some (.lst (cs.map .int))) none none none) S = .ok (cs.map .int) S := rfl
    unfold sAsg eLc
    rw [iv]
    simp only [Res.bind, g2, sm, if_true, sb, gN]
    rfl
  have e3 : (sAsg (Kx.e2 addD (eC (.int 97)) (eVar 1)) (gN 4)) (G6 (some (.rol (ns.map .int))) (some (.int k)) (some (.lst (cs.map .int))) (some (.lst (gs.map .int))) none none) S = .nx (G6 (some (.rol (ns.map .int))) (some (.int k)) (some (.lst (cs.map .int))) (some (.lst (gs.map .int))) (some (.int (97 + k))) none) S := rfl
  have e4 : (sFor (iVal (eVar 2)) (gN 5) (sAsg (Kx.e2 modD (eN intD (aCons (Kx.e2 addD (Kx.e2 mulD (eVar 4) (eC (.int 48271))) (eVar 5)) (aNil))) (eC (.int 2147483647))) (gN 4))) (G6 (some (.rol (ns.map .int))) (some (.int k)) (some (.lst (cs.map .int))) (some (.lst (gs.map .int))) (some (.int (97 + k))) none) S = .nx (G6 (some (.rol (ns.map .int))) (some (.int k)) (some (.lst (cs.map .int))) (some (.lst (gs.map .int))) (some (.int s')) f') S := s3
  have e5 : (aCons (eIf (tOfE (Kx.e2 (notOf eqD) (eVar 3) (eLst (aNil)))) (Kx.e2 idxD (eVar 3) (eC (.int 0))) (eC (.int 0))) (aCons (eVar 4) (aCons (Kx.e2 addD (eVar 2) (eLst (aCons (Kx.e2 addD (Kx.e2 mulD (eC (.int 31)) (eVar 1)) (eC (.int 5))) (aNil)))) (aCons (eC (.int 0)) (aNil))))) (G6 (some (.rol (ns.map .int))) (some (.int k)) (some (.lst (cs.map .int))) (some (.lst (gs.map .int))) (some (.int s')) f') S
      = .ok [.int l, .int s', .lst ((cs ++ [31 * k + 5]).map .int), .int 0] S := by
    have ad : addD (.int (31 * k)) (.int 5) S = some (.int (31 * k + 5)) := rfl
    have s0 : small [D.int (31 * k + 5)] = true := by
      unfold small
      rw [decide_eq_true_eq, sizeLine_eq]
      simp
    unfold aCons
    rw [lt]
    simp only [G6, Res.bind, eVar, eC, aNil, aCons, Kx.e2, eLst, opt, List.getElem?_cons_zero, List.getElem?_cons_succ, z4, ad, s0, if_true, z5]
  show (if ([D.rol (ns.map .int), D.int k] : List D).length = 2 then fnRes (b__law_begun (G6 (some (.rol (ns.map .int))) (some (.int k)) none none none none) S) else .err) = _
  rw [if_pos (show ([D.rol (ns.map .int), D.int k] : List D).length = 2 from rfl)]
  unfold b__law_begun
  simp only [sSeq, e1, e2', e3, e4]
  unfold sRet eDicC
  rw [e5]
  rfl
end
/-- a for loop that never leaves early -/
theorem forL_inv {g : MG} {body : MS} {I : Nat → En → Store → Prop} : ∀ (ds : List D) (j : Nat) (G : En) (S : Store), I j G S →
    (∀ (i : Nat) (d : D) (G : En) (S : Store), ds[i]? = some d → I (j + i) G S → ∃ G1 G2 S2, g d G = some G1 ∧ body G1 S = .nx G2 S2 ∧ I (j + i + 1) G2 S2) → ∃ G' S', forL g body ds G S = .nx G' S' ∧ I (j + ds.length) G' S'
  | [], j, G, S, h, _ => ⟨G, S, rfl, h⟩
  | d :: ds, j, G, S, h, st => by
    obtain ⟨G1, G2, S2, h1, h2, h3⟩ := st 0 d G S rfl h
    obtain ⟨G', S', q1, q2⟩ := forL_inv (g := g) (body := body) (I := I) ds (j + 1) G2 S2 h3 fun i e G S he hi => by
      have e1 : j + 1 + i = j + (i + 1) := by omega
      rw [e1] at hi ⊢
      exact st (i + 1) e G S (by simpa using he) hi
    refine ⟨G', S', ?_, by rw [List.length_cons, ← Nat.add_assoc, Nat.add_right_comm]; exact q2⟩
    unfold forL
    rw [h1]
    dsimp only
    rw [h2]
    exact q1
theorem rng_at {lo : Int} {n i : Nat} {d : D} (h : (rngD lo n)[i]? = some d) : i < n ∧ d = .int (lo + (i : Int)) := by
  unfold rngD at h
  rw [List.getElem?_map] at h
  by_cases hi : i < n
  · rw [List.getElem?_range hi] at h
    cases h
    exact ⟨hi, rfl⟩
  · rw [List.getElem?_eq_none (by simpa using hi)] at h
    cases h
theorem rng_len {lo : Int} {n : Nat} : (rngD lo n).length = n := by simp [rngD]
end Kx

set_option Elab.async false
set_option linter.all false
set_option maxRecDepth 100000
set_option autoImplicit false
/-! Kr: raise, and what is caught. -/
namespace Kx
open PySem PySem.Spec L2 PySem.W PySem.Calls
open He (ga ma)
def sRaise (c f : Str) (m : ME) : MS := fun G S => sb (m G S) G fun d S1 => .exc c [f] [d] G S1
section
variable {X : Cx} {W : WX} {pins : List (Addr × Obj)} {σ : L2.St} {H : Hp} {s : Shared}
/-- the exception in the air, its dict told -/
theorem laid1 {h' : Heap} {tk : Nat} {x dx C t : Addr} {b : Str} {y : V} {u : Value} {Q : XK} (I : Inv X pins σ H s) (k : ∀ c o, s.heap.get? c = some o → h'.get? c = some o) (hx : s.heap.get? x = none) (hd : s.heap.get? dx = none) (ne : dx ≠ x)
    (ox : h'.get? x = some (excObj C t (some dx) .none)) (od : h'.Ns1 dx (fun y => if y = b then some u else none)) (ry : RelV y u) (ra : Raises X (.ref C)) (q : ∀ dx, H dx = none → Q (.ref C) (some dx) (upd H dx (.xd [(b, y)]))) :
    MkP X pins σ Q (.ref x) ⟨h', s.gens, s.drawn, tk, s.os⟩ := by
  have n1 : H x = none := I.hok.gone hx
  have n2 : H dx = none := I.hok.gone hd
  obtain ⟨G, g1, g2⟩ := restrict h' fun c => decide (c ≠ x)
  have gk : ∀ c, c ≠ x → G.get? c = h'.get? c := fun c hc => g1 c (decide_eq_true hc)
  have gx : G.get? x = none := g2 x (by simp)
  have sx : ∀ c o, s.heap.get? c = some o → c ≠ x := fun c o e z => by rw [z, hx] at e; cases e
  have J := I.laidN (t' := tk) (h' := G) (a := dx) (o := .xd [(b, y)]) (fun c o e => (gk c (sx c o e)).trans (k c o e)) hd n2 ⟨_, od.at fun o q => (gk dx ne).trans q, relO_put (fs := []) ry fun g => True.intro⟩
  refine ⟨x, _, _, ⟨G, s.gens, s.drawn, tk, s.os⟩, upd H dx (.xd [(b, y)]), .ref C, some dx, rfl, J, fun c o e => ?_, gx, ox, ⟨rfl, rfl⟩, rfl, rfl, ?_, rfl, I.bare, ra, q dx n2⟩
  · have hc : c ≠ x := fun z => by rw [z, gx] at e; cases e
    rw [← gk c hc]; exact e
  · rw [upd_ne ne.symm]; exact n1
theorem js_raise {x b : Str} {C : Addr} {e : Expr} {m : ME} {p pos rp : Pos} {k : Nat} (T : XK1 X.prog X.K C b) (hs : X.mg "super" = none) (htop : (X.prog.main.scope.names.lookup ("super" : Str)).isSome = false) (hr : Room k X.A) (tk : Takes X W) (hg : Gl X x) (hm : X.mg x = some (.ref C)) (ha : JE X W e m)
    (hc : X.calm = true := by rfl) (hdb : (x == ("__debug__" : Str)) = false := by decide) (he : starEach [e] X.env = (false, eval e X.env) :: starEach [] X.env := by rfl) : JS X W (.Raise (some (.Call (.Name x p) [e] [] pos)) none rp) (sRaise x b m) := by
  obtain ⟨fI, B, newId, initId, bmB, ⟨XIi⟩, XCi, iC, tI⟩ := T.ex
  have mk : PMk X (.Call (.Name x p) [e] [] pos) (fun σ H Q => rdE X.K X.mg W m σ H fun y H1 => ∀ dx, H1 dx = none → Q (.ref C) (some dx) (upd H1 dx (.xd [(b, y)]))) := by
    intro pins s σ H Q I h
    refine wpAny_Call_Name_kw (ld_glob I hg hm ?_ hdb)
    refine callWith_K (h₀ := X.base) I.ok.mod.kin T.kp ?_ he rfl
    rw [he]
    refine Calls.spliced_cons (thn (ha.run pins s σ H _ I h) fun u s1 ⟨y, H1, I1, ry, q⟩ => Calls.spliced_nil ⟨I1.kIn, ?_⟩)
    refine exc_pos XIi XCi iC tI (room_deep hr) I1.mod (fun c o e => I1.bk c o e) hs htop fun h' tk x dx t' k1 k2 k3 k4 k5 k6 => ?_
    exact laid1 (tk := tk) I1 k1 (Heap.get?_none_of_le k2) k3 k4 k5 k6 ry (raises_own T.ra.1 T.ra.2) q
  refine PSw (ps_raise hc tk mk) fun D s H ⟨r, G, S, sim, env, g⟩ => ⟨r, G, S, sim, env, (gES env g).imp fun y H1 ⟨r1, S1, d, e1, s1, dy, g1⟩ dx hdx => ?_⟩
  obtain ⟨s2, e2⟩ := s1.newv (o := .xd [(b, y)]) hdx
  exact g1 r1 _ C (some dx) [(b, y)] e2 s2 hm ⟨upd_same, s1.fresh hdx⟩ rfl (DVs.cons (dy.ext e2) DVs.nil) s ((env.ext e1).ext e2)
end
section
variable {N : Nm} {X : Cx} {W : WX} {k : Nat} {a : Expr} {ma : ME} {pos p rp : Pos}
theorem q_raise {x f : Str} {s : Bs} (C : Cn N X W k) (h : (x, s, f) ∈ N.x1s) (ha : JE X W a ma) (hg : Gl X x := by rfl) (hc : X.calm = true := by rfl) (hdb : (x == ("__debug__" : Str)) = false := by decide) (he : starEach [a] X.env = (false, eval a X.env) :: starEach [] X.env := by rfl) : JS X W (.Raise (some (.Call (.Name x p) [a] [] pos)) none rp) (sRaise x f ma) :=
  js_raise (C.tp.x1 _ h).2 C.tp.su C.tp.top C.hr C.tk hg (C.tp.x1 _ h).1 ha hc hdb he
end
end Kx

set_option Elab.async false
set_option linter.all false
set_option maxRecDepth 100000
set_option autoImplicit false
/-! Ks: try .. except (A, B, C) as e: y = e, where the error is kept as a value. -/
namespace Kx
open PySem PySem.Spec L2 PySem.W PySem.Calls PyProof.Rows
open He (ga ma)
section
variable {X : Cx} {pins : List (Addr × Obj)} {σ : L2.St} {H : Hp} {s : Shared}
/-- an object that is there is tracked from now on -/
theorem inv_note {a : Addr} {o : HO} (I : Inv X pins σ H s) (na : H a = none) (h0 : X.s_0.heap.get? a = none) (hL : a ≠ X.env.locals) (hC : ∀ x c, X.env.cells.lookup x = some c → c ≠ a) (hP : ∀ p ∈ X.pn ++ pins, p.1 ≠ a) (new : ObjOk X.prog X.w (upd H a o) s.heap a o) :
    Inv X pins σ (upd H a o) s := by
  have keepS : ∀ b u, H b = some u → upd H a o b = some u := fun b u e => by rw [upd_ne (ne_of_none e na)]; exact e
  have keepN : ∀ b, b ≠ a → H b = none → upd H a o b = none := fun b hb e => by rw [upd_ne hb]; exact e
  refine ⟨I.ok, I.os, I.bare, ⟨I.base.keep, I.base.slot, fun b u e n hx => ?_, I.base.there, fun b xs e => keepS _ _ (I.base.tups b xs e), fun b u xs e => keepS _ _ (I.base.frzs b u xs e), fun b ps e => ?_⟩, I.loc, I.cell, keepN _ (Ne.symm hL) I.free, fun x c e => keepN _ (hC x c e) (I.freeC x c e), fun p hp => ?_, fun b u e => ?_, I.len⟩
  · have hb : b ≠ a := fun z => by rw [z, h0] at e; cases e
    exact keepN _ hb (I.base.free b u e n hx)
  · obtain ⟨more, q⟩ := I.base.tbls b ps e
    exact ⟨more, keepS _ _ q⟩
  · obtain ⟨e, n, r⟩ := I.pin p hp
    exact ⟨e, keepN _ (hP p hp) n, r⟩
  · by_cases hb : b = a
    · subst hb
      rw [upd_same] at e
      cases e
      exact new
    · rw [upd_ne hb] at e
      exact (I.hok b u e).stay (fun _ _ _ q => q) (fun c q => keepS _ _ q) fun c xs q => keepS _ _ q
/-- a new object does not touch what flies -/
theorem fly_push {B : Heap} {l : List Env} {e : Addr} {Z : Obj → Prop} {h : Heap} {o : Obj} (f : HandSPX.FlyingZ B l e Z h) : HandSPX.FlyingZ B l e Z (h.push o) := by
  obtain ⟨f1, f2, f3, oe, vs, T, oT, ts, q1, q2, q3, q4, q5, q6, q7, q8, q9⟩ := f
  have k : ∀ b u, h.get? b = some u → (h.push o).get? b = some u := fun b u z => Heap.get?_push_of_some _ z
  exact ⟨fun b u z => k b u (f1 b u z), f2, f3.of_keeps fun b u z _ => ⟨u, k b u z, rfl⟩, oe, vs, T, oT, ts, k _ _ q1, q2, q3, q4, q5, q6, k _ _ q7, q8, q9⟩
end
/-- what the clause wishes of an exception of the body -/
def wKeep (K : Frag) (cs : List Value) (i j : Nat) (D : Ends) : WX := fun cls d σ H => ∃ C, cls = .ref C ∧ exmAny K cls cs = some true ∧ ∀ a, H a = none → D.nx ((σ.set j (some (.ref a))).set i none) (upd H a (exv a C d))
section
variable {X : Cx} {x1 x2 x3 n y : Str} {C1 C2 C3 : Addr} {i j : Nat} {body : List Stmt} {p1 p2 p3 pt pn py pa pos pos' : Pos} {kt : Nat} {tb : WX → TS}
theorem set3 {α : Type} {l : List α} {i j : Nat} {a b c : α} (h : i ≠ j) : ((l.set i a).set j b).set i c = (l.set j b).set i c := by
  rw [List.set_comm _ _ h, List.set_set]
theorem ps_try_keep (hs : X.stack = X.env :: X.outer) (hf : X.env.frame = some X.env.locals) (hex : X.ex = []) (hN : X.N.Nodup) (hi : X.N[i]? = some n) (hln : X.env.scope.names.lookup n = some .local) (hj : X.N[j]? = some y) (hly : X.env.scope.names.lookup y = some .local) (hij : i ≠ j)
    (g1 : Gl X x1) (g2 : Gl X x2) (g3 : Gl X x3) (m1 : X.mg x1 = some (.ref C1)) (m2 : X.mg x2 = some (.ref C2)) (m3 : X.mg x3 = some (.ref C3)) (d1 : (x1 == ("__debug__" : Str)) = false) (d2 : (x2 == ("__debug__" : Str)) = false) (d3 : (x3 == ("__debug__" : Str)) = false)
    (dn : (n == ("__debug__" : Str)) = false) (dc : (n == ("__classdict__" : Str)) = false)
    (hb : ∀ (W : WX) (pn : List (Addr × Obj)) (xe : Value → Shared → Prop), Takes (X.tr pn xe) W → PSs (X.tr pn xe) body (tb W)) :
    PS X (.Try body [.ExceptHandler (some (.Tuple [.Name x1 p1, .Name x2 p2, .Name x3 p3] kt pt)) (some n) [.Assign [.Name y py] (.Name n pn) pa] pos'] [] [] pos) (fun D σ H => tb (wKeep X.K [.ref C1, .ref C2, .ref C3] i j D) D σ H) := by
  refine ⟨fun pins s σ H D I h => ?_⟩
  have ok := I.ok
  have hfr : X.A.frames = some (X.env :: X.outer) := by rw [ok.frames, hs]
  refine wpAny_Try_except ?_
  refine wpAny_mono ((hb (wKeep X.K [.ref C1, .ref C2, .ref C3] i j D) (X.pn ++ pins) (fun u t1 => wpAny (model X.prog X.w) X.A (noteFrame u X.env) (fun _ t2 => wpAny (model X.prog X.w) X.A (setFlight u none) (fun _ t3 =>
    wpAny (model X.prog X.w) X.A (handleBy u X.env [.ExceptHandler (some (.Tuple [.Name x1 p1, .Name x2 p2, .Name x3 p3] kt pt)) (some n) [.Assign [.Name y py] (.Name n pn) pa] pos']) (SP X pins D) X.xe t3) X.xe t2) X.xe t1) (fun u s' xx => ?_)).run [] s σ H D (I.toTry _) h) (fun fl t1 z => ?_) (fun u t1 z => z)
  · obtain ⟨a, B, sI, pins', σ', H', cls, d, rfl, J', nb, up, sky, na, os, ag, C, rfl, hm, hk⟩ := xx
    have J : Inv X pins σ' H' sI := J'.ofTry ok
    have sky' : Sky B (X.env :: X.outer) a (Zc (.ref C) d) X.env.locals s'.heap := by rw [← hs]; exact sky
    show wpAny (model X.prog X.w) X.A (noteFrame (.ref a) X.env) _ _ _
    refine Sky.land Zc.steady hfr hf sky' fun h3 fl3 up3 => ?_
    have nfr : ∀ {hh : Heap} {o : Obj} {vs : Array Value}, hh.FunFrames B (X.env :: X.outer) → hh.get? a = some o → o.data = .fields vs → a ∉ frs (X.env :: X.outer) := fun {hh o vs} ff e dd z => by
      obtain ⟨_, o', e', q⟩ := ff.mem z
      rw [e] at e'; cases e'
      exact q _ dd
    have sub : ∀ b, b ∈ X.fs → b ∈ frs (X.env :: X.outer) := fun b z => by
      obtain ⟨e, he, q⟩ := List.mem_filterMap.mp z
      exact List.mem_filterMap.mpr ⟨e, List.mem_cons_of_mem _ he, q⟩
    have top : X.env.locals ∈ frs (X.env :: X.outer) := List.mem_filterMap.mpr ⟨X.env, List.mem_cons_self, hf⟩
    have J3 : Inv X pins σ' H' { s' with heap := h3 } := J.landed nb fl3.1 (up.trans up3) os ag
    obtain ⟨oe3, vs3, he3, hz3, hd3⟩ := fl3.there
    have na3 := nfr fl3.2.2.1 he3 hd3
    have nL : a ≠ X.env.locals := fun z => na3 (by rw [z]; exact top)
    have nF : a ∉ X.fs := fun z => na3 (sub a z)
    have S3 := J3.suite he3 hd3 na nL nF
    refine wpAny_handleBy_cons (codeAny_handlers_test ?_) (by intro q; cases q)
    refine wpAny_Tuple_spliced ?_
    show wpAny _ _ (spliced ((false, eval (.Name x1 p1) X.env) :: (false, eval (.Name x2 p2) X.env) :: (false, eval (.Name x3 p3) X.env) :: backTo pt (starEach [] X.env))) _ _ _
    refine Calls.spliced_cons (ld_glob (X := X.suite a ((a, oe3) :: (X.pn ++ pins))) S3 g1 m1 ?_ d1)
    refine Calls.spliced_cons (ld_glob (X := X.suite a ((a, oe3) :: (X.pn ++ pins))) S3 g2 m2 ?_ d2)
    refine Calls.spliced_cons (ld_glob (X := X.suite a ((a, oe3) :: (X.pn ++ pins))) S3 g3 m3 ?_ d3)
    refine Calls.spliced_nil ⟨by show 3 ≤ sizeLine; rw [sizeLine_eq]; omega, ?_⟩
    have fl4 := fly_push (o := { cls := .type "tuple", data := .seq [.ref C1, .ref C2, .ref C3].toArray }) fl3
    have LT : Looks (model X.prog X.w) (h3.push { cls := .type "tuple", data := .seq [.ref C1, .ref C2, .ref C3].toArray }) (typeOf (.ref a)) (.ref C) := fun A Q E s k q => wpAny_typeOf_ref (k _ _ (Heap.get?_push_of_some _ he3)) (by rw [hz3.1]; exact q)
    have LM := exm_tup3 (M := model X.prog X.w) (J3.kIn.keeps fun b o e => Heap.get?_push_of_some _ e) LT (Heap.get?_push_size _ rfl) hm
    refine LM.at ?_
    show codeAny _ _ (.handlers (.ref a) [.ExceptHandler none (some n) [.Assign [.Name y py] (.Name n pn) pa] pos'] X.env) _ _
    refine codeAny_handlers_suite_as ?_
    refine HandSPX.lands_againZ fl4 fun h5 fl5 up5 => ?_
    have up4 : h3.UpToSlots (h3.push { cls := .type "tuple", data := .seq [.ref C1, .ref C2, .ref C3].toArray }) := Heap.UpToSlots.of_keeps fun b o e => Heap.get?_push_of_some _ e
    have J5 : Inv X pins σ' H' { s' with heap := h5 } := J.landed nb fl5.1 (((up.trans up3).trans up4).trans up5) os ag
    obtain ⟨oe5, vs5, he5, hz5, hd5⟩ := fl5.there
    have S5 := J5.suite he5 hd5 na nL nF
    refine store_ok (X := X.suite a ((a, oe5) :: (X.pn ++ pins))) (v := .ref a) S5 hN hi (.inl hln) rfl (fun s6 S6 => ?_) (.inr hln)
    have st := pss_one (ps_set (X := X.suite a ((a, oe5) :: (X.pn ++ pins))) (i := j) (x := y) (pos := pa) (pos' := py) hN hj (.inl hly) (pe_var (X := X.suite a ((a, oe5) :: (X.pn ++ pins))) (i := i) (x := n) (pos := pn) hi (.inl hln) dn dc) rfl (.inr hly))
    have hlen : i < σ'.length := by
      rw [J.len]; exact (List.getElem?_eq_some_iff.mp hi).1
    refine wpAny_mono (st.run [] s6 _ H' { nx := fun σ7 H7 => σ7 = (σ'.set i (some (.ref a))).set j (some (.ref a)) ∧ H7 = H', rt := fun _ _ => False, bk := fun _ _ => False, ct := fun _ _ => False } S6 ⟨.ref a, by rw [List.getElem?_set_self hlen], rfl, rfl⟩) (fun fl s7 z => ?_) (fun _ _ z => False.elim z)
    cases fl with
    | brk => obtain ⟨_, _, _, z⟩ := z; exact z.elim
    | cont => obtain ⟨_, _, _, z⟩ := z; exact z.elim
    | ret u => obtain ⟨_, _, _, _, _, z⟩ := z; exact z.elim
    | next =>
      obtain ⟨σ7, H7, S7, e7, eH⟩ := z
      subst e7 eH
      have J7 : Inv X ((a, oe5) :: pins) ((σ'.set i (some (.ref a))).set j (some (.ref a))) H7 s7 := ⟨ok, S7.os, S7.bare, S7.base, S7.loc, S7.cell, S7.free, S7.freeC, fun p hp => S7.pin p (by
        rw [List.append_nil]
        rcases List.mem_append.mp hp with hp | hp
        · exact List.mem_cons_of_mem _ (List.mem_append_left _ hp)
        · rcases List.mem_cons.mp hp with hp | hp
          · rw [hp]; exact List.mem_cons_self
          · exact List.mem_cons_of_mem _ (List.mem_append_right _ hp)), S7.hok, S7.len⟩
      refine gone_ok J7 hN hi hln fun s8 J8 => ?_
      have pa8 := J8.pin (a, oe5) (List.mem_append_right _ List.mem_cons_self)
      have dropP : Inv X pins (((σ'.set i (some (.ref a))).set j (some (.ref a))).set i none) H7 s8 := ⟨ok, J8.os, J8.bare, J8.base, J8.loc, J8.cell, J8.free, J8.freeC, fun p hp => J8.pin p (by
        rcases List.mem_append.mp hp with hp | hp
        · exact List.mem_append_left _ hp
        · exact List.mem_append_right _ (List.mem_cons_of_mem _ hp)), J8.hok, J8.len⟩
      have hsI : sI.heap.get? a = none := by
        cases q : sI.heap.get? a with
        | none => rfl
        | some o =>
          have z := nb a o q (by rw [hs]; exact na3)
          rw [fl3.2.1] at z; cases z
      have h0 : X.s_0.heap.get? a = none := by
        cases q : X.s_0.heap.get? a with
        | none => rfl
        | some o =>
          obtain ⟨o', z⟩ := J.base.there a o q (by rw [hex]; simp)
          rw [hsI] at z; cases z
      have npin : ∀ p ∈ X.pn ++ pins, p.1 ≠ a := fun p hp z => by
        have q := (J.pin p hp).1
        rw [z, hsI] at q; cases q
      have ncel : ∀ x c, X.env.cells.lookup x = some c → c ≠ a := fun x c e z => by
        obtain ⟨v, o, q, _⟩ := J.cell x c e
        rw [z, hsI] at q; cases q
      obtain ⟨oc, od, dt, sl⟩ := oe5
      have z1 : oc = .ref C := hz5.1
      have z2 : od = d := hz5.2
      have z3 : dt = .fields vs5 := hd5
      subst z1 z2 z3
      have J9 := inv_note (o := exv a C od) dropP na h0 nL ncel npin (exv_ok pa8.1)
      rw [set3 hij] at J9
      exact ⟨_, _, J9, hk a na⟩
  · cases fl with
    | next =>
      obtain ⟨σ', H', J', q⟩ := z
      exact wpAny_execs_nil ⟨σ', H', J'.ofTry ok, q⟩
    | brk =>
      obtain ⟨σ', H', J', q⟩ := z
      exact ⟨σ', H', J'.ofTry ok, q⟩
    | cont =>
      obtain ⟨σ', H', J', q⟩ := z
      exact ⟨σ', H', J'.ofTry ok, q⟩
    | ret u =>
      obtain ⟨v, σ', H', J', r, q⟩ := z
      exact ⟨v, σ', H', J'.ofTry ok, r, q⟩
end
end Kx

set_option Elab.async false
set_option linter.all false
set_option maxRecDepth 100000
set_option autoImplicit false
/-! Kt: told(lambda: e): what e gives, alone in a list, or the word of its error. -/
namespace Kx
open PySem PySem.Spec L2 PySem.W PySem.Calls PyProof.Rows
open He (ga ma)
section
variable {K : Frag} {mg : Str → Option Value} {r : Rg} {S : Store} {H H1 : Hp}
/-- the tables have grown -/
theorem Sim.tabs (s : Sim K mg r S H) (e : LamX.ExtN H H1) (t : LamX.Tabs (tabsK K) H1) : Sim K mg r S H1 ∧ Ext r S H r S H1 := by
  have same : ∀ a o, H a = some o → NoTab o → H1 a = H a := fun a o h n => (e a o h n.1).trans h.symm
  have ex : Ext r S H r S H1 := ⟨⟨fun _ _ h => h, fun a o h t n => ⟨e a o h t, n⟩⟩, rfl, fun a h => by
    obtain ⟨o, q1, q2⟩ := s.res a h
    exact same a o q1 q2⟩
  refine ⟨⟨s.len, s.inj, fun n c a h1 h2 => ?_, s.zn, fun a h => ?_, t⟩, ex⟩
  · refine (s.cell n c a h1 h2).ext ex.toEx0 fun hd => ?_
    obtain ⟨o, q1, q2⟩ := (s.cell n c a h1 h2).some hd
    exact same a o q1 q2
  · obtain ⟨o, q1, q2⟩ := s.res a h
    exact ⟨o, (same a o q1 q2).trans q1, q2⟩
end
section
variable {X : Cx} {pins : List (Addr × Obj)} {σ : L2.St} {H : Hp} {s : Shared}
abbrev ZC (X : Cx) (Ng : List Str) (qg : Str) (sg : Scope) (g : Addr) (cdg : Value) (s : Shared) (H : Hp) : Cx := cxOf (L2.CX X.prog X.w) X.prog X.w X.K X.mg X.base Ng qg sg g cdg X.A X.stack s H (fun _ _ _ => False)
abbrev LO (X : Cx) (ps : Arguments) (b : Expr) (sc : Scope) (pm : Value) (c : Addr) (cv : Value) : Obj := kla_obj "<lambda>" (X.env.qual ++ "<lambda>") ps b sc (cloFrom X.env.cells sc.names []) pm c cv
theorem lam_act {Ng : List Str} {qg : Str} {sg sc : Scope} {g f c : Addr} {cdg pm cv : Value} {ps : Arguments} {b : Expr} {k i : Nat} {y : Str} {pn : List (Addr × Obj)} {xe : Value → Shared → Prop} {W : WX} {tb : XK → TE} {p1 p2 : Pos}
    (I : Inv X pins σ H s) (L : LamX.LamS X.env.scope sc) (of0 : s.heap.get? f = some (LO X ps b sc pm c cv)) (nf : H f = none) (nr : f ∉ frs X.stack)
    (bd : bindArgs (kla_fn "<lambda>" (X.env.qual ++ "<lambda>") ps b sc (cloFrom X.env.cells sc.names []) pm (.ref c) cv) ⟨[], []⟩ = pure [])
    (tk : Takes ((ZC X Ng qg sg g cdg s H).tr pn xe) W) (hr : Room (k + 1) (X.A.deeper (envOfC qg sg s.heap.objs.size g cdg))) (hG : X.A.guards = some [])
    (hB : ∀ (E : XK) (A : Around) (outer : List Env) (s : Shared) (H : Hp), A.guards = some [] → Room k (A.deeper (LamX.lamEnv X sc s.heap.objs.size f c)) → PE (LamX.lamCx X A outer s H E sc f c) b (tb E))
    (hN : Ng[i]? = some y) (hv : Vis sg y) (hd : (y == ("__debug__" : Str)) = false) (hc : (y == ("__classdict__" : Str)) = false) :
    PE ((ZC X Ng qg sg g cdg s H).tr pn xe) (.Call (.Name y p1) [] [] p2) (fun σZ HZ Q => σZ[i]? = some (some (.ref f)) ∧ HZ c = some (LamX.CodeO c (X.env.qual ++ "<lambda>")) ∧ tb (fun C d H' => W C d σZ H') σ HZ Q) := by
  refine ⟨fun pinsZ sZ σZ HZ Q IZ h => ?_⟩
  obtain ⟨h1, h2, h3⟩ := h
  refine wpAny_Call_Name_kw (thn ((pe_var (pos := p1) (i := i) hN hv hd hc).run pinsZ sZ σZ HZ (fun v H1 => v = .ref f ∧ H1 = HZ) IZ ⟨.ref f, h1, rfl, rfl⟩) fun u s1 ⟨v, H1, I1, r1, q1, q2⟩ => ?_)
  subst q1
  rw [q2] at I1
  obtain rfl : u = Value.ref f := r1
  have of1 : s1.heap.get? f = some (LO X ps b sc pm c cv) := I1.base.keep f _ of0 nf nr (by intro z; exact nomatch (show f ∈ ([] : List Addr) from z))
  refine callWith_F0 ⟨_, _, _, _, of1⟩ ?_
  have un : Un (frs X.stack) [] H HZ s.heap s1.heap := I1.base
  obtain ⟨⟨oc, vs, t, k1, k2, k3⟩, _, _⟩ := I1.hok c _ h2
  refine wpAny_call (codeAny_mono (R := CR (L2.CX X.prog X.w) (envOfC qg sg s.heap.objs.size g cdg :: X.stack) X.prog X.w HZ s1 Q (fun C d H' => W C d σZ H')) ?_ fun r s' z => ?_)
  · refine kla_callFunE hr.depth of1 rfl L.co L.gen rfl ⟨c, oc, vs, t, rfl, k1, k2, k3⟩ ?_
    show wpAny _ _ (bindArgs _ ⟨[], []⟩) _ _ _
    rw [bd]
    refine wpAny_pure (wpAny_newFunctionEnv (fun y hy => (L.own y hy).2) (fun y hy => absurd hy (by simp)) (fun h' ns sb => ⟨I1.nolimit.fresh _ sb, ?_⟩) L.kind)
    show codeAny _ _ (.expr b (LamX.lamEnv X sc s1.heap.objs.size f c)) _ _
    have kp : ∀ b o, s1.heap.get? b = some o → h'.get? b = some o := fun b o e => sb.extBut b o (Nat.ne_of_lt (Heap.lt_size e)) (Heap.get?_push_of_some _ e)
    have J : Inv (LamX.lamCx X (X.A.deeper (envOfC qg sg s.heap.objs.size g cdg)) (envOfC qg sg s.heap.objs.size g cdg :: X.stack) s1 HZ (fun C d H' => W C d σZ H') sc f c) [] σ HZ { s1 with heap := h', toks := s1.toks + ([] : List (Str × Value)).length } := LamX.lam_start2 I L I1.env0 hr.hd un ns kp
    refine kla_codeExpr (wpAny_mono ((hB _ (X.A.deeper (envOfC qg sg s.heap.objs.size g cdg)) _ s1 HZ hG (hr.deeper _)).run [] _ _ HZ Q J h3) (fun v s' z => ?_) fun e s' z => z)
    obtain ⟨v', H', J', rv, q⟩ := z
    exact ⟨v', H', J'.os, J'.bare, J'.base, J'.hok, rv, q⟩
  · have px := passAt tk σZ
    cases r with
    | error e => exact px pinsZ HZ s1 e s' I1 z
    | ok fl =>
      cases fl with
      | ret u => exact I1.after z
      | next => exact False.elim z
      | brk => exact False.elim z
      | cont => exact False.elim z
end
section
variable {N : Nm} {X : Cx} {W : WX} {k j : Nat}
theorem Cn.lam (C : Cn N X W j) {A : Around} {outer : List Env} {s : Shared} {H : Hp} {E : XK} {sc : Scope} {f c : Addr} (hG : A.guards = some []) (hr : Room k (A.deeper (LamX.lamEnv X sc s.heap.objs.size f c))) : Cn N (LamX.lamCx X A outer s H E sc f c) (fun C d _ H' => E C d H') k :=
  ⟨C.tp, hr, hG, takes_of rfl rfl rfl rfl, C.nd, C.tb⟩
end
/-- the def told, as the laws have it -/
def ToldB (b : List Stmt) : Prop := ∃ (q1 q2 q3 q4 q5 q6 q7 q8 q9 q10 q11 q12 q13 q14 q15 q16 q17 q18 q19 q20 q21 q22 q23 q24 q25 q26 q27 q28 q29 q30 : Pos),
  b = [.Assign [.Tuple [.Name "_law_found" q1, .Name "_law_error" q2] 0 q3] (.Tuple [.Constant .none 0 q4, .Constant .none 0 q5] 0 q6) q7,
    .Try [.Assign [.Name "_law_found" q8] (.Call (.Name "_law_call" q9) [] [] q10) q11] [.ExceptHandler (some (.Tuple [.Name "KeysError" q12, .Name "TooGreat" q13, .Name "NothingLeft" q14] 0 q15)) (some "e") [.Assign [.Name "_law_error" q16] (.Name "e" q17) q18] q19] [] [] q20,
    .Return (some (.IfExp (.Compare (.Name "_law_error" q21) [.Is] [.Constant .none 0 q22] q23) (.List [.Name "_law_found" q24] q25) (.Call (.Name "_law_error_word" q26) [.Name "_law_error" q27] [] q28) q29)) q30]
def eTold (T : ITab) (f : FN) (m : ME) : ME := fun G S => match m G S with
  | .ok d S1 => .ok (.lst [d]) S1
  | .exc c ns ds S1 => if T.exs.contains c then (match f [.exc c ns ds] S1 with
    | .ok d S2 => .ok d S2
    | _ => .err) else .err
  | .err => .err
structure ToldD (N : Nm) (d : He.DefD) : Prop where
  mem : d ∈ N.fns
  at_ : d.at_ = (("_law_told" : Str), (none : Option Str))
  dfl : d.dfl = []
  nm : d.name = "_law_told"
  sc : FnScope ["_law_call", "_law_found", "_law_error", "e"] ["_law_call"] d.scope
  n0 : d.scope.names.lookup ("_law_call" : Str) = some .local
  n1 : d.scope.names.lookup ("_law_found" : Str) = some .local
  n2 : d.scope.names.lookup ("_law_error" : Str) = some .local
  n3 : d.scope.names.lookup ("e" : Str) = some .local
  g1 : d.scope.names.lookup ("KeysError" : Str) = some .globalImplicit
  g2 : d.scope.names.lookup ("TooGreat" : Str) = some .globalImplicit
  g3 : d.scope.names.lookup ("NothingLeft" : Str) = some .globalImplicit
  g4 : d.scope.names.lookup ("_law_error_word" : Str) = some .globalImplicit
  bind : ∀ (kV doc pm : Value) (an : Option Addr) (cdv ct : Value) (us : List Value), us.length = 1 → bindArgs (fnOf d.name d.qual d.params d.body d.scope .none kV doc pm an cdv ct) ⟨us, []⟩ = pure ((["_law_call"] : List Str).zip us)
  body : ToldB d.body
  tld : N.tld = true
  c1 : N.T.cls.contains "KeysError" = true
  c2 : N.T.cls.contains "TooGreat" = true
  c3 : N.T.cls.contains "NothingLeft" = true
theorem swap_non {a b : Str} {p1 p2 p3 q4 q5 q6 : Pos} {k1 k2 k3 k4 : Nat} {env : Env} : swappedStores [.Tuple [.Name a p1, .Name b p2] k1 p3] (.Tuple [.Constant .none k3 q4, .Constant .none k4 q5] k2 q6) env = pure none := by
  have h : ([Expr.Constant .none k3 q4, Expr.Constant .none k4 q5].all (foldedForSure 8)) = true := by rfl
  unfold swappedStores
  dsimp only
  rw [h]
  split
  · rfl
  · split
    · rfl
    · split
      · rfl
      · rfl
/-- what told makes of the outcome -/
def toldR (f : FN) : ME := eIf (tOfE (e2 isND (eVar 2) (eC .non))) (eLst (aCons (eVar 1) aNil)) (eF f (aCons (eVar 2) aNil))
section
variable {N : Nm} {X : Cx} {W : WX} {k kk j : Nat} {d : He.DefD} {f : FN} {m : ME} {q : Str} {ps : Arguments} {b : Expr} {sc : Scope} {lpos p pos : Pos}
theorem je_told (C : Cn N X W kk) (hk : k + 2 ≤ kk) (D : ToldD N d) (F : Has X.prog X.w X.K X.mg "_law_error_word" ["_law_error"] j f) (hj : j ≤ k + 1) (LA : LamAt X.K X.env.code q) (hq : X.env.qual = q ++ ".<locals>.") (L : LamX.LamS X.env.scope sc) (hdef : defaultsOf ps X.env = ([], []))
    (hbind : ∀ (q : Str) (cl : List (Str × Addr)) (pm cv ctv : Value), bindArgs (kla_fn "<lambda>" q ps b sc cl pm cv ctv) ⟨[], []⟩ = pure [])
    (hB : ∀ (E : XK) (A : Around) (outer : List Env) (s : Shared) (H : Hp) (f c : Addr), A.guards = some [] → Room k (A.deeper (LamX.lamEnv X sc s.heap.objs.size f c)) → JE (LamX.lamCx X A outer s H E sc f c) (fun C d _ H' => E C d H') b m)
    (hg : Gl X "_law_told" := by rfl) : JE X W (.Call (.Name "_law_told" p) [.Lambda ps b sc lpos] [] pos) (eTold N.T f m) := by
  refine ⟨fun pins s σ H Q I h => ?_⟩
  obtain ⟨r, G, S, sim, env, gd⟩ := h
  obtain ⟨fd, FD⟩ := C.tp.fn d D.mem
  have e0 : d.dvs X.K = [] := by unfold He.DefD.dvs; rw [D.dfl]; rfl
  rw [e0] at FD
  have bn := FD.bindsN (ps := ["_law_call"]) D.bind
  obtain ⟨oc, od, dV, kV, doc, pm, an, cdv, ct, osl, efd, lk, hcd, _, _⟩ := FD.ex
  have hm : X.mg "_law_told" = some (.ref (He.fAd X.K d.at_)) := by
    have := C.tp.gl d D.mem (by rw [D.at_])
    rw [show d.at_.1 = "_law_told" by rw [D.at_]] at this
    exact this
  refine wpAny_Call_Name_kw (ld_glob I hg hm ?_ (by decide))
  refine callWith_K (h₀ := X.base) I.ok.mod.kin FD.kp ?_ (by rfl) (by rfl)
  show wpAny _ _ (spliced ((false, eval (.Lambda ps b sc lpos) X.env) :: backTo pos (starEach [] X.env))) _ _ s
  obtain ⟨c, P, hcode, hcm, htm⟩ := LA
  have htm : (P, X.env.qual ++ "<lambda>") ∈ tabsK X.K := by rw [hq]; exact htm
  refine Calls.spliced_cons (LamX.lam_make2 (T := tabsK X.K) (c := c) (P := P) I (C.tb _ hcm) hcode htm (fun p hp e => C.tp.uq p hp _ htm e) sim.tab hdef (L.has I.ok) fun fl c' pm' ctv H1 s1 I1 eN T1 hf nf nr hco => ?_)
  refine Calls.spliced_nil ⟨I1.kIn, ?_⟩
  obtain ⟨sim1, ex1⟩ := sim.tabs eN T1
  have gd1 := gd.mono (r1 := r) (S1 := S) (H1 := H1) ex1 (fun _ _ _ h => h) (fun _ _ h => h)
  have env1 := env.ext ex1
  refine wpAny_call (codeAny_mono (R := CR (L2.CX X.prog X.w) X.stack X.prog X.w H1 s1 Q (fun _ _ _ => False)) ?_ fun z s2 hz => ?_)
  · subst efd
    refine LamX.run_ofS (k := k + 1) (N := ["_law_call", "_law_found", "_law_error", "e"]) (ps := ["_law_call"]) (us := [.ref fl]) (vs := [.ref fl]) lk hcd D.sc (C.hr.mono hk) I1.env0 (bn s1 [.ref fl] I1.kIn rfl) (.cons rfl .nil) rfl fun hr' => ?_
    obtain ⟨q1, q2, q3, q4, q5, q6, q7, q8, q9, q10, q11, q12, q13, q14, q15, q16, q17, q18, q19, q20, q21, q22, q23, q24, q25, q26, q27, q28, q29, q30, eb⟩ := D.body
    rw [eb]
    have CZ : Cn N (ZC X ["_law_call", "_law_found", "_law_error", "e"] d.qual d.scope (He.fAd X.K d.at_) cdv s1 H1) (fun _ _ _ _ => False) (k + 1) := Cn.cx (E := fun _ _ _ => False) C.tp C.hG hr' D.sc.nd C.tb
    have hl1 : X.mg "KeysError" = some (.ref (ga X.K "KeysError")) := C.tp.it.glo _ (mem_of D.c1)
    have hl2 : X.mg "TooGreat" = some (.ref (ga X.K "TooGreat")) := C.tp.it.glo _ (mem_of D.c2)
    have hl3 : X.mg "NothingLeft" = some (.ref (ga X.K "NothingLeft")) := C.tp.it.glo _ (mem_of D.c3)
    have st1 := ps_asg (X := ZC X ["_law_call", "_law_found", "_law_error", "e"] d.qual d.scope (He.fAd X.K d.at_) cdv s1 H1) (tg := .Tuple [.Name "_law_found" q1, .Name "_law_error" q2] 0 q3) (e := .Tuple [.Constant .none 0 q4, .Constant .none 0 q5] 0 q6) (pos := q7) (pe_tup (pa_cons pe_non (pa_cons pe_non pa_nil)))
      (pg_tup rfl (pgs_cons (pg_name (i := 1) D.sc.nd rfl (.inl D.n1) (.inl rfl)) (pgs_cons (pg_name (i := 2) D.sc.nd rfl (.inl D.n2) (.inl rfl)) pgs_nil))) rfl swap_non rfl
    have st2 := ps_try_keep (X := ZC X ["_law_call", "_law_found", "_law_error", "e"] d.qual d.scope (He.fAd X.K d.at_) cdv s1 H1) (i := 3) (j := 2) (n := "e") (y := "_law_error") (x1 := "KeysError") (x2 := "TooGreat") (x3 := "NothingLeft") (p1 := q12) (p2 := q13) (p3 := q14) (pt := q15) (kt := 0) (py := q16) (pn := q17) (pa := q18) (pos' := q19) (pos := q20)
      (body := [.Assign [.Name "_law_found" q8] (.Call (.Name "_law_call" q9) [] [] q10) q11]) rfl rfl rfl D.sc.nd rfl D.n3 rfl D.n2 (by decide) D.g1 D.g2 D.g3 hl1 hl2 hl3 (by decide) (by decide) (by decide) (by decide) (by decide)
      (tb := fun W => tAsg (fun σZ HZ Q => σZ[0]? = some (some (.ref fl)) ∧ HZ c' = some (LamX.CodeO c' (X.env.qual ++ "<lambda>")) ∧ rdE X.K X.mg (fun C d _ H' => W C d σZ H') m σ HZ Q) (gName 1))
      (fun W pn xe tk => pss_one (ps_set (i := 1) D.sc.nd rfl (.inl D.n1) (lam_act (i := 0) (tb := fun E => rdE X.K X.mg (fun C d _ H' => E C d H') m) I1 L hf nf nr (hbind _ _ _ _ _) tk hr' C.hG (fun E A outer s H hG hr => hB E A outer s H fl c' hG hr) rfl (.inl D.n0) (by decide) (by decide)) rfl (.inl rfl)))
    have st3 : JS (ZC X ["_law_call", "_law_found", "_law_error", "e"] d.qual d.scope (He.fAd X.K d.at_) cdv s1 H1) (fun _ _ _ _ => False) (.Return (some (.IfExp (.Compare (.Name "_law_error" q21) [.Is] [.Constant .none 0 q22] q23) (.List [.Name "_law_found" q24] q25) (.Call (.Name "_law_error_word" q26) [.Name "_law_error" q27] [] q28) q29)) q30) (sRet (toldR f)) :=
      js_ret (je_if (jt_cmp o_is (q_var (i := 2) rfl (.inl D.n2)) je_non) (je_lst (ja_cons (q_var (i := 1) rfl (.inl D.n1)) ja_nil)) (q_call CZ F hj (ja_cons (q_var (i := 2) rfl (.inl D.n2)) ja_nil) D.g4))
    refine ⟨_, pss_cons st1 (pss_cons st2 (pss_one st3)), ?_⟩
    refine ⟨by show 2 ≤ sizeLine; rw [sizeLine_eq]; omega, fun tp np => ⟨tp, [.non, .non], rfl, .inl (.inl upd_same), rfl, .non, [.non], rfl, .non, [], rfl, rfl, ?_⟩⟩
    obtain ⟨sim2, ex2⟩ := sim1.newv (o := .tup [.non, .non]) np
    have nc : c' ≠ tp := ne_of_none hco np
    refine ⟨rfl, by rw [upd_ne nc]; exact hco, r, G, S, sim2, env1.ext ex2, ?_⟩
    have gd2 := gd1.mono (r1 := r) (S1 := S) (H1 := upd H1 tp (.tup [.non, .non])) ex2 (fun _ _ _ h => h) (fun _ _ h => h)
    unfold eTold at gd2
    cases hm : m G S with
    | err => rw [hm] at gd2; exact gd2.elim
    | ok dd S1 =>
      rw [hm] at gd2
      intro r3 H3 v e3 s3 dv
      refine ⟨r3, [none, some dd, some .non, none], S1, s3, ⟨rfl, fun i x hx => ?_⟩, ?_⟩
      · match i, hx with
        | 1, hx => cases hx; exact ⟨v, rfl, dv⟩
        | 2, hx => cases hx; exact ⟨.non, rfl, rfl⟩
        | 3, hx => cases hx
        | n + 4, hx => cases hx
      · have er : sRet (toldR f) [none, some dd, some .non, none] S1 = .rt (.lst [dd]) S1 := by
          have sm : small [dd] = true := by
            unfold small
            rw [decide_eq_true_eq, sizeLine_eq]
            simp
          simp only [sRet, toldR, eIf, tOfE, e2, eVar, eC, Res.bind, opt, isND, isNon, eLst, aCons, aNil, List.getElem?_cons_zero, List.getElem?_cons_succ, sb, if_true, sm]
        rw [er]
        exact fun r4 H4 v4 e4 s4 d4 => gd2 r4 H4 v4 (e3.trans e4) s4 d4
    | exc x ns ds S1 =>
      rw [hm] at gd2
      dsimp only at gd2
      cases hx : N.T.exs.contains x with
      | false => rw [hx] at gd2; exact gd2.elim
      | true =>
        rw [hx, if_pos rfl] at gd2
        cases hw : f [.exc x ns ds] S1 with
        | err => rw [hw] at gd2; exact gd2.elim
        | exc a1 a2 a3 a4 => rw [hw] at gd2; exact gd2.elim
        | ok dd S2 =>
          rw [hw] at gd2
          intro r3 H3 C0 dx fs e3 s3 hmx hxd hns hds
          have eC : X.mg x = some (.ref (ga X.K x)) := C.tp.it.glo x (List.mem_append_left _ (mem_of hx))
          rw [eC] at hmx
          cases hmx
          refine ⟨_, rfl, C.tp.td D.tld x (mem_of hx), fun a na => ?_⟩
          obtain ⟨s4, e4⟩ := s3.newv (o := exv a (ga X.K x) dx) na
          refine ⟨r3, [none, some .non, some (.exc x ns ds), none], S1, s4, ⟨rfl, fun i y hy => ?_⟩, ?_⟩
          · match i, hy with
            | 1, hy => cases hy; exact ⟨.non, rfl, rfl⟩
            | 2, hy =>
              cases hy
              refine ⟨.ref a, rfl, a, ga X.K x, dx, fs, rfl, eC, upd_same, s3.fresh na, ?_, hns, DVs.ext e4 hds⟩
              cases dx with
              | none => exact hxd
              | some dd => exact e4.kp dd _ hxd.1 ntX hxd.2
            | 3, hy => cases hy
            | n + 4, hy => cases hy
          · have er : sRet (toldR f) [none, some .non, some (.exc x ns ds), none] S1 = .rt dd S2 := by
              simp only [sRet, toldR, eIf, tOfE, e2, eVar, Kx.eC, Res.bind, opt, isND, isNon, eF, aCons, aNil, List.getElem?_cons_zero, List.getElem?_cons_succ, sb, Bool.false_eq_true, if_false, hw]
            rw [er]
            exact fun r5 H5 v5 e5 s5 d5 => gd2 r5 H5 v5 ((e3.trans e4).trans e5) s5 d5
  · cases z with
    | error e =>
      obtain ⟨_, _, _, _, _, _, _, _, _, _, _, _, w⟩ := hz
      exact w.elim
    | ok fl =>
      cases fl with
      | ret u => exact I1.after hz
      | next => exact False.elim hz
      | brk => exact False.elim hz
      | cont => exact False.elim hz
end
end Kx

set_option Elab.async false
set_option linter.all false
set_option maxRecDepth 100000
set_option autoImplicit false
/-! Ku: enumerate of a tuple; methods of texts and lists. -/
namespace PySem
open AutoSeq1 (wpAny_loadPart')
theorem kx_enum_newT (l : Addr) (vs : Array Value) (n : Nat) (dct : Option Addr) (sl : Array (Option Value)) :
    Meets (Builtin.«enumerate.__new__» ⟨[.type "enumerate", .ref l], []⟩) (fun _ R s => s.heap.get? l = some { cls := .type "tuple", dict := dct, data := .seq vs n, slots := sl } ∧
      R (.ok (.ret (.ref (s.heap.push { cls := .type "tuple_iterator", data := .fields #[.ref l, .int 0 0] }).objs.size)))
        { s with heap := (s.heap.push { cls := .type "tuple_iterator", data := .fields #[.ref l, .int 0 0] }).push { cls := .type "enumerate", data := .fields #[.none, .bool false, .ref s.heap.objs.size, rawInt 0, .none, .none] } }) :=
  .of_wp fun prog w A R s h => by
    obtain ⟨hp, g, d, tk, os⟩ := s
    obtain ⟨ho, h⟩ := h
    have hsub := sub_enumerate
    have hL : Heap.IsTuple (Shared.heap ⟨hp, g, d, tk, os⟩) l vs := ⟨_, ho, rfl, n, rfl⟩
    wp_walk using wpAny_loadPart' ho
    refine wpAny_stack_any fun st => wpAny_pure ?_
    split
    · rename_i c _ _ _ _ _
      cases (c == Value.type "enumerate")
      · wp_walk using wpAny_loadPart' ho, wpAny_pyIter_tuple hL
        exact ⟨_, rfl, h⟩
      · wp_walk using wpAny_loadPart' ho, wpAny_pyIter_tuple hL
        exact ⟨_, rfl, h⟩
    · wp_walk using wpAny_loadPart' ho, wpAny_pyIter_tuple hL
      exact ⟨_, rfl, h⟩
theorem kx_enum_tuple {prog : Program} {w : World} {A : Around} {E : Value → Shared → Prop} {s : Shared} {l : Addr} {vs : Array Value} {Q : Value → Shared → Prop} (hL : s.heap.IsTuple l vs)
    (h : ∀ h', IsEnum h' (s.heap.objs.size + 1) s.heap.objs.size 0 .none → h'.IsTupleIter s.heap.objs.size l 0 → h'.objs.size = s.heap.objs.size + 2 → (∀ b o, s.heap.get? b = some o → h'.get? b = some o) → Q (.ref (s.heap.objs.size + 1)) { s with heap := h' }) :
    wpAny (model prog w) A (call (.type "enumerate") [.ref l]) Q E s := by
  obtain ⟨⟨c, dct, dt, sl⟩, hl, hc, n, hd⟩ := hL
  have hc : c = .type "tuple" := hc
  have hd : dt = .seq vs n := hd
  subst hc hd
  refine callType_new F.called_enumerate (by decide) (F.typeCall_enumerate_1 _) (F.newCall_enumerate_1 _) (fun obj => F.args_object_init_2 obj _) F.entry_enumerate_new (kx_enum_newT l vs n dct sl) ⟨hl, ?_⟩
  have hz : (s.heap.push { cls := .type "tuple_iterator", data := .fields #[.ref l, .int 0 0] }).objs.size = s.heap.objs.size + 1 := Heap.size_push ..
  show _ ∧ _
  rw [hz]
  have he : IsEnum ((s.heap.push { cls := .type "tuple_iterator", data := .fields #[.ref l, .int 0 0] }).push { cls := .type "enumerate", data := .fields #[.none, .bool false, .ref s.heap.objs.size, rawInt 0, .none, .none] }) (s.heap.objs.size + 1) s.heap.objs.size 0 .none := by
    have q := Heap.get?_push_size (s.heap.push { cls := .type "tuple_iterator", data := .fields #[.ref l, .int 0 0] }) (o := { cls := .type "enumerate", data := .fields #[.none, .bool false, .ref s.heap.objs.size, rawInt 0, .none, .none] }) rfl
    rw [hz] at q; exact q
  exact ⟨⟨_, he, rfl⟩, h _ he ⟨_, Heap.get?_push_of_some _ (Heap.get?_push_size _ rfl), rfl, rfl⟩ (by rw [Heap.size_push, hz]) fun b o x => Heap.get?_push_of_some _ (Heap.get?_push_of_some _ x)⟩
end PySem
namespace Kx
open PySem PySem.Spec L2 PySem.W PySem.Calls PyProof.Rows
/-- the tuple at a, each item in a new pair -/
def IteT (K : Frag) (a : Addr) : It :=
  ⟨fun i H => ∃ (xs : List V) (x : V), SqT K H a xs ∧ xs[i]? = some x, fun i H v H' => ∃ T x, v = .ref T ∧ H T = none ∧ H' = upd H T (.tup [.int (i : Nat), x]) ∧ ∀ xs, SqT K H a xs → xs[i]? = some x, fun i H => ∃ xs : List V, SqT K H a xs ∧ xs.length ≤ i⟩
theorem turn_enumT {P : Program} {w : World} {K : Frag} {elts : List Expr} {kk : Nat} {tpos : Pos} (a e it : Addr) (items : Array Value) (hai : a ≠ it) (hea : e ≠ a) :
    Turn P w K (.Tuple elts kk tpos) (IteT K a) [e, it] e (fun i h => (∃ old, IsEnum h e it ((i : Nat) : Int) old) ∧ h.IsTupleIter it a i ∧ e ≠ it) where
  mem := by simp
  obj := fun i h st b hb => by
    obtain ⟨⟨old, he⟩, ⟨o, ho, hc, hd⟩, _⟩ := st
    have z : b = e ∨ b = it := by simpa using hb
    rcases z with rfl | rfl
    · exact ⟨_, he, fun v q => nomatch q⟩
    · exact ⟨o, ho, fun v q => by rw [hd] at q; cases q⟩
  keep := fun i h h' st k => let ⟨⟨old, he⟩, ⟨o, ho, hi⟩, hne⟩ := st; ⟨⟨old, k e (by simp) _ he⟩, ⟨o, k it (by simp) _ ho, hi⟩, hne⟩
  item := by
    intro X hP hw hK hc i pins s σ H E I hf st hg
    subst hP hw hK
    obtain ⟨⟨old, he⟩, hit, hne⟩ := st
    obtain ⟨xs, x, hq, hx⟩ := hg
    obtain ⟨its, rv, p, hz⟩ := I.tuple hq
    obtain ⟨u, hu, ru⟩ := rv.get hx
    have hel : e < s.heap.objs.size := Heap.lt_size he
    have hil : it < s.heap.objs.size := by obtain ⟨_, q, _⟩ := hit; exact Heap.lt_size q
    have D := Draws.tuple (prog := X.prog) (w := X.w) (A := X.A.in1) (I.ok.hd hc) it a hai its.toArray
    have lt : i < its.toArray.size := by simpa using (List.getElem?_eq_some_iff.mp hu).1
    refine wpAny_pyNext_enum_itemD D he ⟨hit, p⟩ lt hne (by
      intro z
      rcases List.mem_cons.mp z with z | z
      · exact hne z
      · exact hea (by simpa using z)) fun y h' tk hy ho hst hT hsz hk => ?_
    have ey : y = u := by
      have : its[i]? = some y := by simpa using hy
      rw [hu] at this; cases this; rfl
    subst ey
    refine ⟨_, rfl, wpAny_letOwnedTupleGo_enum (s := { s with heap := h', toks := tk + 1 }) ho fun h'' he' sb => ?_⟩
    have hT2 : h''.get? s.heap.objs.size = some { cls := .type "tuple", data := .seq #[.int i tk, y] } := (sb.2 _ (Nat.ne_of_gt hel)).trans hT
    have new : ObjOk X.prog X.w (upd H s.heap.objs.size (.tup [.int (i : Nat), x])) h'' s.heap.objs.size (.tup [.int (i : Nat), x]) := ⟨by show 2 ≤ sizeLine; decide, [.int i tk, y], .cons ⟨_, rfl⟩ (.cons ru .nil), ⟨_, hT2, rfl, _, rfl⟩⟩
    have I1 : Inv X pins σ (upd H s.heap.objs.size (.tup [.int (i : Nat), x])) { s with heap := h'', toks := tk + 1 } := I.turnedNew (ch := [e, it]) (fun b ob hb q => (sb.2 b (fun z => hb (by simp [z]))).trans (hk b ob (fun z => hb (by simp [z])) (fun z => hb (by simp [z])) q)) hf (Nat.le_refl _) new
    obtain ⟨⟨oi, hoi, hci⟩, _⟩ := hst
    refine ⟨.ref s.heap.objs.size, _, I1, rfl, ⟨_, x, rfl, I.hok.fresh (Nat.le_refl _), rfl, fun ys hy => ?_⟩, ⟨⟨y, ?_⟩, ⟨oi, (sb.2 it (Ne.symm hne)).trans hoi, hci⟩, hne⟩, fun b hb => ?_⟩
    · rw [I.tuple_inj hy hq]; exact hx
    · have z : ((i + 1 : Nat) : Int) = (i : Int) + 1 := by omega
      rw [z]; exact he'
    · have hb' : b < s.heap.objs.size := by
        have z : b = e ∨ b = it := by simpa using hb
        rcases z with rfl | rfl
        · exact hel
        · exact hil
      rw [upd_ne (Nat.ne_of_lt hb')]
      exact (hf b hb).1
  done := by
    intro X hP hw hK hc i pins s σ H E I hf st hg
    subst hP hw hK
    obtain ⟨⟨old, he⟩, hit, hne⟩ := st
    obtain ⟨xs, hq, hx⟩ := hg
    obtain ⟨its, rv, p, hz⟩ := I.tuple hq
    obtain ⟨f0, f1, f2, f3, f4, f5⟩ := hf it (by simp)
    have hl := rv.length
    have hT : s.TypeIs (.ref e) "enumerate" := ⟨_, he, rfl⟩
    unfold pyNext
    refine wpAny_bind (wpAny_attempt (wpAny_callSpecial?_slot (name := Str.ofString "__next__") hT F.slot_enumerate_next (wpAny_call_entry F.slot_enumerate_next hT F.entry_enumerate_next ?_ (F.args_enumerate_next_1 _))))
    show wpAny _ _ (field (.ref e) 2 >>= _) _ _ _
    refine wpAny_bind (wpAny_field he rfl (x := .ref it) rfl ?_)
    refine wpAny_bind (wpAny_nextOf_tuple_end (I.ok.hd hc) hit p (by simp; omega) fun h' x eb hx' => ?_)
    obtain ⟨o, ho, hcl⟩ := hx'
    refine wpAny_bind (wpAny_isInstance (T := "StopIteration") (b := true) ⟨o, ho, hcl⟩ isSubtype_stop ?_)
    exact wpAny_pure ⟨rfl, I.turned (t' := s.toks) (fun b o hb q => eb b o hb q) f0 f1 f3 f4 f5⟩
  self := fun A i s Q E st h => let ⟨⟨_, he⟩, _⟩ := st; wpAny_pyIter_enum he h
/-- enumerate of a list or of a tuple -/
def iEnumA (K : Frag) (ta : TA) : TI := fun σ H R => ta σ H fun vs H1 => ∃ a xs, vs = [.ref a] ∧ ((SqL K H1 a xs ∧ R (Ite K a) H1) ∨ (SqT K H1 a xs ∧ R (IteT K a) H1))
theorem pi_enumA {X : Cx} {e : Expr} {ta : TA} {p pos tpos : Pos} {elts : List Expr} {kk : Nat} (hg : Gl X "enumerate") (hm : X.mg "enumerate" = none) (ha : PA X [e] ta) (hs : starEach [e] X.env = [(false, eval e X.env)] := by rfl) :
    PI X (.Tuple elts kk tpos) (.Call (.Name "enumerate" p) [e] [] pos) (iEnumA X.K ta) := by
  refine ⟨fun pins s σ H R I h => ?_⟩
  refine Call_ (ld_blt I hg hm boot_enumerate (PyProof.Rows.callWith_type1 (thn (ha.run pos pins s σ H _ I h) fun us s1 ⟨vs, H1, I1, r1, q1⟩ => ?_) hs rfl))
  obtain ⟨a, xs, ex, q⟩ := q1
  subst ex
  cases r1 with
  | cons r rr =>
    cases rr
    cases r
    have fpo : ∀ {h' : Heap}, Inv X pins σ H1 { s1 with heap := h' } → ∀ b ∈ [s1.heap.objs.size + 1, s1.heap.objs.size], FpOk X pins H1 b := fun _ b hb => by
      have z : b = s1.heap.objs.size + 1 ∨ b = s1.heap.objs.size := by simpa using hb
      rcases z with rfl | rfl
      · exact I1.fpOk (Nat.le_succ _) (I1.hok.fresh (Nat.le_succ _))
      · exact I1.fpOk (Nat.le_refl _) (I1.hok.fresh (Nat.le_refl _))
    rcases q with ⟨hq, q⟩ | ⟨hq, q⟩
    · obtain ⟨its, rv, p', hz⟩ := I1.list hq
      refine call_enumerate_list p'.isList fun h' he hit hsz hk => wpAny_pyIter_enum he ?_
      have I2 : Inv X pins σ H1 { s1 with heap := h' } := I1.kept (t' := s1.toks) hk
      exact ⟨s1.heap.objs.size + 1, [s1.heap.objs.size + 1, s1.heap.objs.size], _, _, H1, rfl, I2, turn_enum a (s1.heap.objs.size + 1) s1.heap.objs.size, ⟨⟨.none, he⟩, hit, Nat.succ_ne_self _⟩, fpo I2, q⟩
    · obtain ⟨its, rv, p', hz⟩ := I1.tuple hq
      have la : a < s1.heap.objs.size := by
        obtain ⟨o, ho, _⟩ := p'
        exact Heap.lt_size ho
      refine kx_enum_tuple (vs := its.toArray) p' fun h' he hit hsz hk => wpAny_pyIter_enum he ?_
      have I2 : Inv X pins σ H1 { s1 with heap := h' } := I1.kept (t' := s1.toks) hk
      exact ⟨s1.heap.objs.size + 1, [s1.heap.objs.size + 1, s1.heap.objs.size], _, _, H1, rfl, I2, turn_enumT a (s1.heap.objs.size + 1) s1.heap.objs.size its.toArray (Nat.ne_of_lt la) (Nat.ne_of_gt (Nat.lt_succ_of_lt la)), ⟨⟨.none, he⟩, hit, Nat.succ_ne_self _⟩, fpo I2, q⟩
section
variable {K : Frag} {mg : Str → Option Value} {r r' : Rg} {S S' : Store} {H H' : Hp}
theorem items_enumT {a : Addr} {vs : List V} {ds : List D} (h : TupAt (cx K mg r S H) a vs) (hd : DVs (cx K mg r S H) ds vs) : ItemsR K mg r S H (numbered ds) (IteT K a) := fun r2 S2 H2 e s2 i => by
  have h2 := (h.ext e).sq
  refine ⟨fun d q => ?_, fun q => ⟨vs, h2, by rw [← DVs.length hd]; simpa [numbered] using q⟩⟩
  unfold numbered at q
  rw [List.getElem?_map] at q
  cases hc : (List.range ds.length)[i]? with
  | none => rw [hc] at q; cases q
  | some c =>
    rw [hc] at q
    cases q
    obtain ⟨h1, h3⟩ := List.getElem?_eq_some_iff.mp hc
    have hi : i < ds.length := by simpa using h1
    have ec : c = i := by rw [← h3]; simp
    obtain ⟨v, q1, q2⟩ := DVs.get (DVs.ex0 e hd) (List.getElem?_eq_getElem hi)
    refine ⟨⟨vs, v, h2, q1⟩, fun x H3 ⟨T, y, e1, hT, e3, hx⟩ => ?_⟩
    subst e1 e3
    have := hx vs h2
    rw [q1] at this; cases this
    obtain ⟨ex, sm, dv⟩ := newpair s2 hT (show DV (cx K mg r2 S2 H2) (.int (c : Int)) (.int ((i : Nat) : Int)) by rw [ec]; rfl) (show DV (cx K mg r2 S2 H2) (ds.getD c .non) _ by rw [ec, List.getD_eq_getElem?_getD, List.getElem?_eq_getElem hi]; exact q2)
    exact ⟨r2, ex, sm, dv⟩
end
section
variable {X : Cx} {W : WX} {tg a b : Expr} {ma mb : ME} {p pos : Pos}
def iEnum (e : ME) : MI := fun G S => (e G S).bind fun d S1 => match d with
  | .lst ds => .ok (numbered ds) S1
  | .tup ds => .ok (numbered ds) S1
  | .rol ds => .ok (numbered ds) S1
  | _ => .err
theorem ji_enumA {elts : List Expr} {kk : Nat} {tpos : Pos} (hg : Gl X "enumerate") (hm : X.mg "enumerate" = none) (ha : JE X W a ma) (hs : starEach [a] X.env = [(false, eval a X.env)] := by rfl) : JI X W (.Tuple elts kk tpos) (.Call (.Name "enumerate" p) [a] [] pos) (iEnum ma) :=
  PIw (pi_enumA hg hm (pa_cons ha pa_nil hs) hs) fun s H R ⟨r, G, S, sim, env, g⟩ => ⟨r, G, S, sim, env, (gEI g).imp fun x H1 ⟨r1, S1, d, e1, s1, dx, g1⟩ => by
    cases d <;> try exact g1.elim
    · obtain ⟨a, vs, e, hq, hd⟩ := dx
      exact ⟨a, vs, by rw [e], .inr ⟨sqT_of hq, g1 r1 H1 _ Ext.refl s1 (items_enumT hq hd)⟩⟩
    · obtain ⟨a, vs, e, hq, hd⟩ := dx
      exact ⟨a, vs, by rw [e], .inl ⟨sqL_of (lstAt hq), g1 r1 H1 _ Ext.refl s1 (items_enum (lstAt hq) hd)⟩⟩
    · obtain ⟨a, vs, e, hq, hd⟩ := dx
      exact ⟨a, vs, by rw [e], .inl ⟨sqL_of hq, g1 r1 H1 _ Ext.refl s1 (items_enum hq hd)⟩⟩⟩
end
/-! ### methods of texts -/
def eS1 (f : OP2) (mo me : ME) : ME := fun G S => (mo G S).bind fun d S1 => match d with
  | .str x => (me G S1).bind fun e S2 => opt (f (.str x) e S2) S2
  | _ => .err
def strsD : List D → Option (List Str)
  | [] => some []
  | .str x :: ds => (strsD ds).map (x :: ·)
  | _ => none
def seqOf (S : Store) : D → Option (List D)
  | .tup ds => some ds
  | d => lstOf S d
def splitD : OP2 := fun d e _ => match d, e with
  | .str a, .str b => if (b.length == 0) = false ∧ a.length + 2 ≤ sizeLine then some (.lst ((Txt.split a b).map .str)) else none
  | _, _ => none
def joinOk (a : Str) (ys : List Str) : Bool := decide ((ys.map (·.length)).sum + ys.length * a.length ≤ 16777216)
def joinD : OP2 := fun d e S => match d with
  | .str a => ((seqOf S e).bind strsD).bind fun ys => if joinOk a ys then some (.str (Txt.join a ys)) else none
  | _ => none
section
variable {c : Ctx}
theorem strs_ok : ∀ {ds : List D} {vs : List V} {ys : List Str}, DVs c ds vs → strsD ds = some ys → vs = ys.map V.str
  | [], vs, ys, h, e => by cases e; rw [show vs = [] from h]; rfl
  | d :: ds, vs, ys, ⟨v, r, h1, h2, h3⟩, e => by
    cases d <;> simp only [strsD, reduceCtorEq] at e
    rename_i x
    cases q : strsD ds with
    | none => rw [q] at e; cases e
    | some zs =>
      rw [q] at e
      cases e
      rw [h1, show v = .str x from h2, strs_ok h3 q]
      rfl
theorem dv_strs : ∀ {ys : List Str}, DVs c (ys.map .str) (ys.map V.str)
  | [] => DVs.nil
  | y :: ys => DVs.cons rfl (dv_strs (ys := ys))
end
section
variable {X : Cx} {W : WX} {o e : Expr} {mo me : ME} {apos pos : Pos}
theorem seqOf_ok {K : Frag} {mg : Str → Option Value} {r : Rg} {S : Store} {H : Hp} (s : Sim K mg r S H) {d : D} {v : V} {ds : List D} (h : DV (cx K mg r S H) d v) (q : seqOf S d = some ds) : ∃ a vs, v = .ref a ∧ (SqL K H a vs ∨ SqT K H a vs) ∧ DVs (cx K mg r S H) ds vs := by
  unfold seqOf at q
  split at q
  · cases q
    obtain ⟨a, vs, h1, h2, h3⟩ := h
    exact ⟨a, vs, h1, .inr (sqT_of h2), h3⟩
  · obtain ⟨a, vs, h1, h2, h3⟩ := lstOf_ok s h q
    exact ⟨a, vs, h1, .inl h2, h3⟩
theorem je_S1 {ex : Expr} {f : OP2} {r : V → List V → Hp → VK → Prop} (rule : ∀ {to te : TE}, PE X o to → PE X e te → PE X ex (tM1 r to te)) (ho : JE X W o mo) (he : JE X W e me)
    (ok : ∀ (rg : Rg) (S : Store) (H : Hp) (a : Str) (d z : D) (y : V) (Q : VK), Sim X.K X.mg rg S H → DV (cx X.K X.mg rg S H) d y → f (.str a) d S = some z → Wants X.K X.mg rg S H z Q → r (.str a) [y] H Q) : JE X W ex (eS1 f mo me) :=
  PEw (rule ho he) fun s H Q ⟨rg, G, S, sim, env, g⟩ => ⟨rg, G, S, sim, env, (gE g).imp fun x H1 ⟨r1, S1, d, e1, s1, dx, g1⟩ => by
    cases d <;> try exact g1.elim
    rename_i a
    cases (show x = .str a from dx)
    refine ⟨⟨a, rfl⟩, r1, G, S1, s1, env.ext e1, (gE g1).imp fun y H2 ⟨r2, S2, d2, e2, s2, dy, g2⟩ => ?_⟩
    obtain ⟨z, hz, hw⟩ := wants_of g2
    exact ok r2 S2 H2 a d2 z y Q s2 dy hz hw⟩
theorem je_split (ho : JE X W o mo) (he : JE X W e me) (hs : starEach [e] X.env = [(false, eval e X.env)] := by rfl) (hbase : attributeBase o "split" X.env (eval o X.env) = eval o X.env := by rfl) (hline : (apos.endLine == pos.line) = true := by rfl) :
    JE X W (.Call (.Attribute o "split" apos) [e] [] pos) (eS1 splitD mo me) :=
  je_S1 (fun h k => pe_split h k hs hbase hline) ho he fun rg S H a d z y Q sim dy hz hw => by
    unfold splitD at hz
    cases d <;> simp only [reduceCtorEq] at hz
    rename_i b
    split at hz
    · rename_i hc
      cases hz
      exact ⟨a, b, rfl, by rw [show y = .str b from dy], hc.1, hc.2, fun p hp => hw.newL sim dv_strs hp⟩
    · cases hz
theorem je_join (ho : JE X W o mo) (he : JE X W e me) (hs : starEach [e] X.env = [(false, eval e X.env)] := by rfl) (hbase : attributeBase o "join" X.env (eval o X.env) = eval o X.env := by rfl) (hline : (apos.endLine == pos.line) = true := by rfl) :
    JE X W (.Call (.Attribute o "join" apos) [e] [] pos) (eS1 joinD mo me) :=
  je_S1 (fun h k => pe_join h k hs hbase hline) ho he fun rg S H a d z y Q sim dy hz hw => by
    unfold joinD at hz
    dsimp only at hz
    cases q1 : seqOf S d with
    | none => rw [q1] at hz; cases hz
    | some ds =>
      rw [q1] at hz
      cases q2 : strsD ds with
      | none => rw [show (some ds).bind strsD = none from q2] at hz; cases hz
      | some ys =>
        rw [show (some ds).bind strsD = some ys from q2] at hz
        have hz : (if joinOk a ys = true then some (D.str (Txt.join a ys)) else none) = some z := hz
        split at hz
        · rename_i hc
          cases hz
          obtain ⟨p, vs, ep, hq, dv⟩ := seqOf_ok sim dy q1
          have ev := strs_ok dv q2
          subst ev
          exact ⟨a, p, ys, rfl, by rw [ep], hq, of_decide_eq_true hc, hw.at sim rfl⟩
        · cases hz
end
/-! ### list.index -/
def firstAt (p : PyData) : List PyData → Nat → Option Nat
  | [], _ => none
  | z :: zs, n => if PyData.eqv z p then some n else firstAt p zs (n + 1)
def eL1 (f : OP2) (mo me : ME) : ME := fun G S => (mo G S).bind fun d S1 => match d with
  | .lst x => (me G S1).bind fun e S2 => opt (f (.lst x) e S2) S2
  | _ => .err
def indexD : OP2 := fun d e S => match d with
  | .lst ds => match toPs S ds, toP S e with
    | some ps, some p => if SeqAt.shaped (.list ps) && SeqAt.shaped p then (firstAt p ps 0).map fun n => .int (n : Nat) else none
    | _, _ => none
  | _ => none
theorem firstAt_ok {p : PyData} : ∀ {zs : List PyData} {n j : Nat}, firstAt p zs n = some j → n ≤ j ∧ ∃ z, zs[j - n]? = some z ∧ PyData.eqv z p = true ∧ ∀ m z', m < j - n → zs[m]? = some z' → PyData.eqv z' p = false
  | [], _, _, h => by cases h
  | z :: zs, n, j, h => by
    unfold firstAt at h
    cases q : PyData.eqv z p with
    | true =>
      rw [q, if_pos rfl] at h
      cases h
      refine ⟨Nat.le_refl _, z, by simp, q, fun m z' hm => by omega⟩
    | false =>
      rw [q] at h
      obtain ⟨h1, z1, h2, h3, h4⟩ := firstAt_ok h
      refine ⟨by omega, z1, ?_, h3, fun m z' hm hz => ?_⟩
      · have e : j - n = (j - (n + 1)) + 1 := by omega
        rw [e]; simpa using h2
      · cases m with
        | zero => simp at hz; subst hz; exact q
        | succ m => exact h4 m z' (by omega) (by simpa using hz)
section
variable {X : Cx} {W : WX} {o e : Expr} {mo me : ME} {apos pos : Pos}
theorem je_index (hu : X.A.units + 65 < cLine) (ho : JE X W o mo) (he : JE X W e me) (hbase : attributeBase o "index" X.env (eval o X.env) = eval o X.env := by rfl)
    (hfew : ((backTo pos (starEach [e] X.env)).all (fun x => !x.1) && (backToKw pos (keywordEach [] X.env)).all (fun x => x.1.isSome) && decide ([e].length + ([] : List Keyword).length + (if ([] : List Keyword).isEmpty then 0 else 1) < 30)) = true := by rfl)
    (hline : (apos.endLine == pos.line) = true := by rfl) (hs : starEach [e] X.env = (false, eval e X.env) :: starEach [] X.env := by rfl) : JE X W (.Call (.Attribute o "index" apos) [e] [] pos) (eL1 indexD mo me) :=
  PEw (pe_bm PySem.F.plainAttrs_list PySem.F.slot_list_index PySem.F.type_list_index (mt_indexD hu) ho (pa_cons he pa_nil hs) hbase hfew hline hs rfl) fun s H Q ⟨rg, G, S, sim, env, g⟩ => ⟨rg, G, S, sim, env, (gE g).imp fun x H1 ⟨r1, S1, d, e1, s1, dx, g1⟩ => by
    cases d <;> try exact g1.elim
    rename_i ds
    obtain ⟨a, vs, ea, ha, da⟩ := dx
    subst ea
    refine ⟨.inl ⟨rfl, vs, sqL_of (lstAt ha)⟩, r1, G, S1, s1, env.ext e1, (gE g1).imp fun y H2 ⟨r2, S2, d2, e2, s2, dy, g2⟩ => ?_⟩
    obtain ⟨z, hz, hw⟩ := wants_of g2
    unfold indexD at hz
    dsimp only at hz
    split at hz
    · rename_i pps p q1 q2
      split at hz
      · rename_i hc
        obtain ⟨c1, c2⟩ := b2 hc
        cases q3 : firstAt p pps 0 with
        | none => rw [q3] at hz; cases hz
        | some j =>
          rw [q3] at hz
          cases hz
          obtain ⟨_, z1, f2, f3, f4⟩ := firstAt_ok q3
          have dl := DV.ext e2 (show DV (cx X.K X.mg r1 S1 H1) (.lst ds) (.ref a) from ⟨a, vs, rfl, ha, da⟩)
          exact ⟨a, y, p, pps, j, z1, rfl, rfl, toP_dp (S := S2) (.lst ds) (.ref a) (.list pps) dl (by simp only [toP, q1, Option.map_some]), toP_dp _ _ _ dy q2, c1, c2, by simpa using f2, f3, fun m z' hm hz => f4 m z' (by simpa using hm) hz, hw.at s2 rfl⟩
      · cases hz
    · cases hz⟩
end
end Kx

set_option Elab.async false
set_option linter.all false
set_option maxRecDepth 100000
set_option autoImplicit false
/-! Kv: plain tools: plain data shown and compared, comprehensions, numbered rows. -/
namespace Kx
open PySem PySem.Spec L2
mutual
def plD : D → Bool
  | .non => true
  | .bl _ => true
  | .int i => decide (i.natAbs < 10 ^ 12)
  | .str x => x.cps.all (· < 0x110000)
  | .tup ds => plDs ds
  | .lst ds => plDs ds
  | _ => false
def plDs : List D → Bool
  | [] => true
  | d :: ds => plD d && plDs ds
end
mutual
def dpD : D → Nat
  | .tup ds => dpDs ds + 1
  | .lst ds => dpDs ds + 1
  | _ => 0
def dpDs : List D → Nat
  | [] => 0
  | d :: ds => max (dpD d) (dpDs ds)
end
mutual
def wtD : D → Nat
  | .int _ => 41
  | .str x => x.cps.size
  | .tup ds => wtDs ds
  | .lst ds => wtDs ds
  | _ => 0
def wtDs : List D → Nat
  | [] => 0
  | d :: ds => wtD d + 1 + wtDs ds
end
structure PlOk (S : Store) (d : D) (p : PyData) : Prop where
  tp : toP S d = some p
  tr : toR d = some p
  lay : p.canLay0 = true
  dep : p.depth = dpD d
  wt : p.weight ≤ wtD d
  ish : p.intsShort 13 = true
  shw : p.showable = true
  rf : PyData.eqv p p = true
structure PlsOk (S : Store) (ds : List D) (ps : List PyData) : Prop where
  tp : toPs S ds = some ps
  tr : toRs ds = some ps
  lay : PyData.canLayAll0 ps = true
  dep : PyData.depthAll ps = dpDs ds
  wt : PyData.weightAll ps ≤ wtDs ds
  ish : PyData.intsShortAll 13 ps = true
  shw : PyData.showableAll ps = true
  rf : PyData.eqvAll ps ps = true
theorem log_le {i : Int} (h : i.natAbs < 10 ^ 12) : (if i == 0 then 0 else i.natAbs.log2 + 1) ≤ 41 ∧ i.natAbs.log2 < 1920 := by
  have h2 : i.natAbs.log2 < 40 := by
    by_cases h0 : i.natAbs = 0
    · rw [h0]; decide
    · exact (Nat.log2_lt h0).mpr (Nat.lt_of_lt_of_le h (by decide))
  refine ⟨?_, by omega⟩
  split <;> omega
mutual
theorem plD_ok (S : Store) (d : D) (h : plD d = true) : ∃ p, PlOk S d p := by
  match d with
  | .non => exact ⟨.none, rfl, rfl, rfl, rfl, Nat.le_refl _, rfl, rfl, rfl⟩
  | .bl b => exact ⟨.bool b, rfl, rfl, rfl, rfl, Nat.le_refl _, rfl, rfl, by simp [PyData.eqv]⟩
  | .int i =>
    have h : i.natAbs < 10 ^ 12 := by simpa [plD] using h
    obtain ⟨h1, h2⟩ := log_le h
    exact ⟨.int i, rfl, rfl, rfl, rfl, h1, by simp only [PyData.intsShort, decide_eq_true_eq]; exact PyData.shown_int_le h, by simp only [PyData.showable, decide_eq_true_eq]; exact h2, by simp [PyData.eqv]⟩
  | .str x =>
    have h : x.cps.all (· < 0x110000) = true := by simpa only [plD] using h
    exact ⟨.str x, rfl, rfl, by simp only [PyData.canLay0]; exact h, rfl, Nat.le_refl _, rfl, rfl, by simp [PyData.eqv]⟩
  | .tup ds =>
    obtain ⟨ps, q⟩ := plDs_ok S ds (by simpa only [plD] using h)
    exact ⟨.tuple ps, by simp only [toP, q.tp, Option.map_some], by simp only [toR, q.tr, Option.map_some], by simp only [PyData.canLay0]; exact q.lay, by simp only [PyData.depth, dpD, q.dep], by simp only [PyData.weight, wtD]; exact q.wt, by simp only [PyData.intsShort]; exact q.ish, by simp only [PyData.showable]; exact q.shw, by simp only [PyData.eqv]; exact q.rf⟩
  | .lst ds =>
    obtain ⟨ps, q⟩ := plDs_ok S ds (by simpa only [plD] using h)
    exact ⟨.list ps, by simp only [toP, q.tp, Option.map_some], by simp only [toR, q.tr, Option.map_some], by simp only [PyData.canLay0]; exact q.lay, by simp only [PyData.depth, dpD, q.dep], by simp only [PyData.weight, wtD]; exact q.wt, by simp only [PyData.intsShort]; exact q.ish, by simp only [PyData.showable]; exact q.shw, by simp only [PyData.eqv]; exact q.rf⟩
theorem plDs_ok (S : Store) (ds : List D) (h : plDs ds = true) : ∃ ps, PlsOk S ds ps := by
  match ds with
  | [] => exact ⟨[], by simp only [toPs], by simp only [toRs], by simp only [PyData.canLayAll0], by simp only [PyData.depthAll, dpDs], by simp only [PyData.weightAll]; exact Nat.zero_le _, by simp only [PyData.intsShortAll], by simp only [PyData.showableAll], by simp only [PyData.eqvAll]⟩
  | d :: ds =>
    have h : plD d = true ∧ plDs ds = true := by simpa only [plDs, Bool.and_eq_true] using h
    obtain ⟨p, q⟩ := plD_ok S d h.1
    obtain ⟨ps, r⟩ := plDs_ok S ds h.2
    exact ⟨p :: ps, by simp only [toPs, q.tp, r.tp], by simp only [toRs, q.tr, r.tr], by simp only [PyData.canLayAll0, q.lay, r.lay, Bool.and_self], by simp only [PyData.depthAll, dpDs, q.dep, r.dep], by simp only [PyData.weightAll, wtDs]; have := q.wt; have := r.wt; omega, by simp only [PyData.intsShortAll, q.ish, r.ish, Bool.and_self], by simp only [PyData.showableAll, q.shw, r.shw, Bool.and_self], by simp only [PyData.eqvAll, q.rf, r.rf, Bool.and_self]⟩
end
theorem PlOk.shaped {S : Store} {d : D} {p : PyData} (q : PlOk S d p) (h : dpD d ≤ 64) : SeqAt.shaped p = true := by
  unfold SeqAt.shaped
  rw [q.lay, q.dep]
  simpa using h
/-- a thing equals itself -/
theorem eq_self {S : Store} {d : D} (h : plD d = true) (hd : dpD d ≤ 64) : eqD d d S = some (.bl true) := by
  obtain ⟨p, q⟩ := plD_ok S d h
  have key : (match toP S d, toP S d with
    | some p, some q => if SeqAt.shaped p && SeqAt.shaped q then some (D.bl (PyData.eqv p q)) else none
    | _, _ => none) = some (.bl true) := by
    rw [q.tp]
    simp only [q.shaped hd, Bool.and_self, if_true, q.rf]
  cases d with
  | non => exact key
  | bl b => simp [eqD]
  | int i => simp [eqD]
  | str x => simp [eqD]
  | tup ds => exact key
  | lst ds => exact key
  | _ => simp [plD] at h
theorem ne_self {S : Store} {d : D} (h : plD d = true) (hd : dpD d ≤ 64) : notOf eqD d d S = some (.bl false) := by
  unfold notOf
  rw [eq_self h hd]
  rfl
/-- a thing is shown -/
theorem show_ok {S : Store} {d : D} (h : plD d = true) (hi : isThing d = true) (hd : dpD d ≤ 60) (hw : wtD d ≤ 2 ^ 20) : ∃ t, showD [d] S = some (.str t) := by
  obtain ⟨p, q⟩ := plD_ok S d h
  refine ⟨p.shown, ?_⟩
  unfold showD
  dsimp only
  rw [hi, if_pos rfl, q.tr]
  dsimp only
  rw [if_pos]
  unfold showOk
  have l : p.shown.length ≤ sizeLine := PyData.shown_fits (B := 13) (by decide) (by decide) (PyData.leavesShort_of_canLay0 13 p q.lay q.ish) (Nat.le_trans q.wt hw)
  rw [q.shw, q.dep]
  simp [l, hd]
theorem plDs_append {a b : List D} : plDs (a ++ b) = (plDs a && plDs b) := by
  induction a with
  | nil => simp [plDs]
  | cons d a ih => simp [plDs, ih, Bool.and_assoc]
theorem plDs_all {a : List D} (h : ∀ d ∈ a, plD d = true) : plDs a = true := by
  induction a with
  | nil => simp [plDs]
  | cons d a ih => simp [plDs, h d List.mem_cons_self, ih fun x hx => h x (List.mem_cons_of_mem _ hx)]
theorem plDs_mem {a : List D} (h : plDs a = true) : ∀ d ∈ a, plD d = true := by
  induction a with
  | nil => intro d hd; simp at hd
  | cons x a ih =>
    simp only [plDs, Bool.and_eq_true] at h
    intro d hd
    rcases List.mem_cons.mp hd with rfl | hd
    · exact h.1
    · exact ih h.2 d hd
theorem dpDs_le {n : Nat} {a : List D} (h : ∀ d ∈ a, dpD d ≤ n) : dpDs a ≤ n := by
  induction a with
  | nil => simp [dpDs]
  | cons d a ih =>
    have h1 := h d List.mem_cons_self
    have h2 := ih fun x hx => h x (List.mem_cons_of_mem _ hx)
    simp only [dpDs]
    omega
theorem wtDs_le {n : Nat} {a : List D} (h : ∀ d ∈ a, wtD d ≤ n) : wtDs a ≤ (n + 1) * a.length := by
  induction a with
  | nil => simp [wtDs]
  | cons d a ih =>
    have h1 := h d List.mem_cons_self
    have h2 := ih fun x hx => h x (List.mem_cons_of_mem _ hx)
    simp only [wtDs, List.length_cons, Nat.mul_add]
    omega
/-! ### comprehensions -/
section
variable {g : MG} {vs : List Nat} {tt : MT} {me : ME} {G : En}
theorem lcL_map {f : D → D} {S : Store} : ∀ {ds : List D}, (∀ d ∈ ds, ∃ G1, g d (wipeG G vs) = some G1 ∧ tt G1 S = .ok true S ∧ me G1 S = .ok (f d) S) → lcL g vs tt me G ds S = .ok (ds.map f) S
  | [], _ => rfl
  | d :: ds, h => by
    obtain ⟨G1, h1, h2, h3⟩ := h d List.mem_cons_self
    have ih := lcL_map (f := f) (S := S) (ds := ds) fun x hx => h x (List.mem_cons_of_mem _ hx)
    unfold lcL
    simp only [h1, h2, h3, ih, List.map_cons]
theorem lcL_filter {f : D → D} {p : D → Bool} {S : Store} : ∀ {ds : List D}, (∀ d ∈ ds, ∃ G1, g d (wipeG G vs) = some G1 ∧ tt G1 S = .ok (p d) S ∧ (p d = true → me G1 S = .ok (f d) S)) → lcL g vs tt me G ds S = .ok ((ds.filter p).map f) S
  | [], _ => rfl
  | d :: ds, h => by
    obtain ⟨G1, h1, h2, h3⟩ := h d List.mem_cons_self
    have ih := lcL_filter (f := f) (p := p) (S := S) (ds := ds) fun x hx => h x (List.mem_cons_of_mem _ hx)
    unfold lcL
    cases hp : p d with
    | true =>
      rw [hp] at h2
      simp only [h1, h2, h3 hp, ih, List.filter_cons_of_pos (l := ds) (a := d) hp, List.map_cons]
    | false =>
      rw [hp] at h2
      have hn : ¬ p d = true := by rw [hp]; exact Bool.false_ne_true
      simp only [h1, h2, ih, List.filter_cons_of_neg hn]
/-- with a store that goes along -/
theorem lcL_inv {I : Nat → Store → Prop} {P : D → Prop} : ∀ (ds : List D) (j : Nat) (S : Store), I j S →
    (∀ (i : Nat) (d : D) (S : Store), ds[i]? = some d → I (j + i) S → ∃ G1 y S2, g d (wipeG G vs) = some G1 ∧ tt G1 S = .ok true S ∧ me G1 S = .ok y S2 ∧ P y ∧ I (j + i + 1) S2) →
    ∃ ys S', lcL g vs tt me G ds S = .ok ys S' ∧ ys.length = ds.length ∧ (∀ y ∈ ys, P y) ∧ I (j + ds.length) S'
  | [], j, S, h, _ => ⟨[], S, rfl, rfl, fun y hy => by simp at hy, h⟩
  | d :: ds, j, S, h, st => by
    obtain ⟨G1, y, S2, h1, h2, h3, h4, h5⟩ := st 0 d S rfl h
    obtain ⟨ys, S', q1, q2, q3, q4⟩ := lcL_inv (I := I) (P := P) ds (j + 1) S2 h5 fun i e S he hi => by
      have z : j + 1 + i = j + (i + 1) := by omega
      rw [z] at hi ⊢
      exact st (i + 1) e S (by simpa using he) hi
    refine ⟨y :: ys, S', ?_, by simp [q2], fun x hx => ?_, by rw [List.length_cons, ← Nat.add_assoc, Nat.add_right_comm]; exact q4⟩
    · unfold lcL
      simp only [h1, h2, h3, q1]
    · rcases List.mem_cons.mp hx with rfl | hx
      · exact h4
      · exact q3 x hx
end
/-! ### numbered -/
def numF : Nat → List D → List D
  | _, [] => []
  | k, d :: ds => .tup [.int (k : Int), d] :: numF (k + 1) ds
theorem numbered_eq (ds : List D) : numbered ds = numF 0 ds := by
  have key : ∀ (ds : List D) (k : Nat), numF k ds = (List.range ds.length).map fun (i : Nat) => D.tup [.int ((k + i : Nat) : Int), ds.getD i .non] := by
    intro ds
    induction ds with
    | nil => intro k; rfl
    | cons d ds ih =>
      intro k
      rw [List.length_cons, List.range_succ_eq_map, List.map_cons, List.map_map]
      unfold numF
      rw [ih (k + 1)]
      congr 1
      apply List.map_congr_left
      intro i _
      have e : k + 1 + i = k + (i + 1) := by omega
      simp [e]
  rw [key]
  unfold numbered
  apply List.map_congr_left
  intro i _
  simp
/-! ### statements in a row -/
section
variable {a b : MS} {G G1 : En} {S S1 : Store}
theorem seq_nx (h : a G S = .nx G1 S1) : sSeq a b G S = b G1 S1 := by unfold sSeq; rw [h]
theorem seq_rt {d : D} (h : a G S = .rt d S1) : sSeq a b G S = .rt d S1 := by unfold sSeq; rw [h]
theorem seq_exc {c : Str} {ns : List Str} {ds : List D} (h : a G S = .exc c ns ds G1 S1) : sSeq a b G S = .exc c ns ds G1 S1 := by unfold sSeq; rw [h]
end
theorem eLc_ok {it : MI} {g : MG} {vs : List Nat} {tt : MT} {me : ME} {G : En} {S S1 S2 : Store} {ds ys : List D} (hi : it G S = .ok ds S1) (hl : lcL g vs tt me G ds S1 = .ok ys S2) (hs : small ys = true) : eLc it g vs tt me G S = .ok (.lst ys) S2 := by
  unfold eLc
  rw [hi]
  show (match lcL g vs tt me G ds S1 with
    | .ok ys S2 => if small ys then Res.ok (D.lst ys) S2 else .err
    | _ => .err) = _
  rw [hl]
  dsimp only
  rw [hs]
  rfl
theorem sFor_eq {it : MI} {g : MG} {b : MS} {G : En} {S S1 : Store} {ds : List D} (hi : it G S = .ok ds S1) : sFor it g b G S = forL g b ds G S1 := by
  unfold sFor
  rw [hi]
  rfl
/-- the first numbers -/
def rngN : Nat → Nat → List D
  | _, 0 => []
  | k, n + 1 => .int (k : Int) :: rngN (k + 1) n
theorem rngD_eq (n : Nat) : rngD 0 n = rngN 0 n := by
  have key : ∀ (n k : Nat), rngN k n = (List.range n).map fun (i : Nat) => D.int (((k + i : Nat)) : Int) := by
    intro n
    induction n with
    | zero => intro k; rfl
    | succ n ih =>
      intro k
      rw [List.range_succ_eq_map, List.map_cons, List.map_map]
      unfold rngN
      rw [ih (k + 1)]
      congr 1
      apply List.map_congr_left
      intro i _
      have e : k + 1 + i = k + (i + 1) := by omega
      simp [e]
  rw [key]
  unfold rngD
  apply List.map_congr_left
  intro i _
  simp
theorem range_ok {m : ME} {G : En} {S S1 : Store} {v : Int} (h : m G S = .ok (.int v) S1) (h0 : -1000000 ≤ v) (h1 : v < 1000000) : iRange1 m G S = .ok (rngD 0 v.toNat) S1 := by
  have e : iRange1 m G S = (if -(2 ^ 62) ≤ v ∧ v < 2 ^ 62 then .ok (rngD 0 v.toNat) S1 else .err) := by
    unfold iRange1
    rw [h]
    rfl
  rw [e, if_pos]
  constructor <;> omega
theorem lenL {S : Store} {ds : List D} : lenD [.lst ds] S = some (.int (ds.length : Int)) := rfl
theorem lenT {S : Store} {ds : List D} : lenD [.tup ds] S = some (.int (ds.length : Int)) := rfl
theorem idx0 {a : D} {l : List D} {S : Store} : idxD (.lst (a :: l)) (.int 0) S = some a := by
  show atI (a :: l) 0 = some a
  unfold atI ixN
  rw [if_pos (Int.le_refl 0), if_pos (by simp only [List.length_cons]; omega)]
  rfl
section
variable {G : En} {S S1 S2 : Store} {d : D} {ds : List D}
theorem eF_ok {f : FN} {ma : MA} (ha : ma G S = .ok ds S1) (hf : f ds S1 = .ok d S2) : eF f ma G S = .ok d S2 := by unfold eF; rw [ha]; exact hf
theorem ret_ok {m : ME} (h : m G S = .ok d S1) : sRet m G S = .rt d S1 := by unfold sRet; rw [h]; rfl
theorem asg_ok {m : ME} {i : Nat} (h : m G S = .ok d S1) : sAsg m (gN i) G S = .nx (G.set i (some d)) S1 := by unfold sAsg; rw [h]; rfl
end
theorem cut_take {ds : List D} {m : Nat} (h : m ≤ ds.length) : cutD ds none (some (m : Int)) = ds.take m ∧ cutD ds (some (m : Int)) none = ds.drop m := by
  unfold cutD
  rw [HT.sIx_nat, HT.sIx_nat, HT.sIx_none, HT.sIx_none, Nat.min_eq_left h]
  constructor
  · simp
  · rw [List.take_of_length_le]
    rw [List.length_drop]
    omega
end Kx

set_option Elab.async false
set_option linter.all false
set_option maxRecDepth 100000
set_option autoImplicit false
/-! Kw: own classes: fields stored, instances made, methods called; lists that grow and shrink. -/
namespace Kx
open PySem PySem.Spec L2 PySem.W PySem.Calls
open He (ga ma fAd Fa DefD)
/-! ### fields stored -/
def putN (f : Str) (y : D) : List Str → List D → List Str × List D
  | n :: ns, d :: ds => if n = f then (n :: ns, y :: ds) else ((n :: (putN f y ns ds).1), (d :: (putN f y ns ds).2))
  | _, _ => ([f], [y])
theorem putN_ok {c : Ctx} {f : Str} {y : D} {v : V} (hv : DV c y v) : ∀ {fs : List (Str × V)} {ds : List D}, DVs c ds (fs.map (·.2)) →
    (putN f y (fs.map (·.1)) ds).1 = (putF f v fs).map (·.1) ∧ DVs c (putN f y (fs.map (·.1)) ds).2 ((putF f v fs).map (·.2))
  | [], _, _ => ⟨rfl, v, [], rfl, hv, rfl⟩
  | (n, w) :: fs, [], h => by cases h
  | (n, w) :: fs, e :: ds, ⟨w', r, e1, h2, h3⟩ => by
    cases e1
    rw [show putF f v ((n, w) :: fs) = (if n = f then (n, v) :: fs else (n, w) :: putF f v fs) from rfl,
      show putN f y (((n, w) :: fs).map (·.1)) (e :: ds) = (if n = f then (n :: fs.map (·.1), y :: ds) else ((n :: (putN f y (fs.map (·.1)) ds).1), (e :: (putN f y (fs.map (·.1)) ds).2))) from rfl]
    by_cases hn : n = f
    · rw [if_pos hn, if_pos hn]
      exact ⟨rfl, v, _, rfl, hv, h3⟩
    · rw [if_neg hn, if_neg hn]
      obtain ⟨g1, g2⟩ := putN_ok (f := f) hv h3
      exact ⟨by rw [List.map_cons, ← g1], w, _, rfl, h2, g2⟩
def fldM (T : ITab) (f : Str) (d y : D) (S : Store) : Option Store := match d with
  | .loc n => match S[n]? with
    | some (.ins c ns ds) => if T.ins.contains c && (T.has c f && decide (ns.length < 1000)) then some (S.set n (.ins c (putN f y ns ds).1 (putN f y ns ds).2)) else none
    | _ => none
  | _ => none
def sFldM (T : ITab) (f : Str) (mv mo : ME) : MS := fun G S => sb (mv G S) G fun y S1 => sb (mo G S1) G fun d S2 => match fldM T f d y S2 with
  | some S3 => .nx G S3
  | none => .err
section
variable {X : Cx} {W : WX} {o i value : Expr} {mo mi mv : ME} {pos pos' : Pos} {T : ITab} {f : Str}
theorem js_fld (F : IFacts T X.K X.mg) (hv : JE X W value mv) (ho : JE X W o mo) (hs : swapsWith value (some (.Attribute o f pos')) pos.line X.env = pure false := by rfl) :
    JS X W (.Assign [.Attribute o f pos'] value pos) (sFldM T f mv mo) :=
  PSw (ps_fld ho hv hs) fun D s H ⟨r, G, S, sim, env, g⟩ => ⟨r, G, S, sim, env, (gES env g).imp fun v H1 ⟨r1, S1, y, e1, s1, dv, g1⟩ =>
    ⟨r1, G, S1, s1, env.ext e1, (gES (env.ext e1) g1).imp fun x H2 ⟨r2, S2, d, e2, s2, dx, g2⟩ => by
      cases q : fldM T f d y S2 with
      | none => rw [q] at g2; exact g2.elim
      | some S3 =>
        rw [q] at g2
        unfold fldM at q
        split at q
        · rename_i n
          split at q
          · rename_i c ns ds hS
            split at q
            · rename_i hc
              cases q
              obtain ⟨c1, c2⟩ := b2 hc
              obtain ⟨c4, c3⟩ := b2 c2
              obtain ⟨a, ea, ha⟩ := dx
              obtain ⟨C, dd, fs, hm, h1, h2, h3⟩ := s2.cell n _ a hS ha
              subst h2
              have hcl : c ∈ T.cls := List.mem_append_right _ (mem_of c1)
              have eC : C = ga X.K c := by
                have hm : X.mg c = some (.ref C) := hm
                rw [F.glo c hcl] at hm
                cases hm
                rfl
              have dy := dv.ext e2
              obtain ⟨s3, e3⟩ := s2.write (o := .ins C dd (putF f v fs)) (c' := .ins c (putN f y (fs.map (·.1)) ds).1 (putN f y (fs.map (·.1)) ds).2) hS ha rfl rfl fun S1 H1 es eh ex => by
                subst es eh
                obtain ⟨g1, g2⟩ := putN_ok (f := f) (dy.ext ex) (DVs.ext ex h3)
                exact ⟨C, dd, putF f v fs, hm, upd_same, g1, g2⟩
              have hl : fs.length < 1000 := by simpa using of_decide_eq_true c3
              refine ⟨a, C, dd, fs, ea, h1, ?_, ?_, hl, g2 r2 _ _ e3 s3 (((env.ext e1).ext e2).ext e3)⟩
              · rw [eC]; exact (F.ins c (mem_of c1)).1
              · rw [eC]; exact F.fld c f hcl c4
            · cases q
          · cases q
        · cases q⟩⟩
end
/-! ### what is made is frozen -/
def frzL (f : D → Store → D × Store) : List D → Store → List D × Store
  | [], S => ([], S)
  | d :: ds, S => ((f d S).1 :: (frzL f ds (f d S).2).1, (frzL f ds (f d S).2).2)
def frzF : Nat → D → Store → D × Store
  | 0, d, S => (d, S)
  | k + 1, d, S => match d with
    | .loc n => match S[n]? with
      | some (.lst ds) => (.lst ds, S.set n .dead)
      | some (.dic ks ds) => (.dic ks ds, S.set n .dead)
      | some (.ins c ns ds) => (.ins c ns (frzL (frzF k) ds S).1, (frzL (frzF k) ds S).2.set n .dead)
      | _ => (.loc n, S)
    | d => (d, S)
/-- nothing comes to life -/
def Less (S S' : Store) : Prop := ∀ (n : Nat) (c : Cell), S'[n]? = some c → isDead c = false → S[n]? = some c
theorem Less.trans {S S1 S2 : Store} (a : Less S S1) (b : Less S1 S2) : Less S S2 := fun n c h d => a n c (b n c h d) d
theorem Less.kill {S : Store} {n : Nat} : Less S (S.set n .dead) := fun m k h2 h3 => by
  by_cases hm : m = n
  · subst hm
    by_cases hlt : m < S.length
    · rw [List.getElem?_set_self hlt] at h2
      cases h2; cases h3
    · rw [List.getElem?_eq_none (by rw [List.length_set]; omega)] at h2
      cases h2
  · rw [List.getElem?_set_ne (Ne.symm hm)] at h2
    exact h2
section
variable {K : PySem.W.Frag} {mg : Str → Option Value} {r : Rg} {H : Hp}
theorem no_live {S S1 : Store} {n : Nat} {c : Cell} {a : Addr} (s : Sim K mg r S H) (hn : S[n]? = some c) (hd : isDead c = false) (ha : r.as[n]? = some a) (l : Less S S1) (hlt : n < S1.length) : ¬ Live r (S1.set n .dead) a := fun h => by
  rcases h with ⟨m, k, h1, h2, h3⟩ | h
  · have h4 := Less.kill m k h2 h3
    have h5 := l m k h4 h3
    have e := s.inj m n a k c h1 ha h5 hn h3 hd
    subst e
    rw [List.getElem?_set_self hlt] at h2
    cases h2; cases h3
  · exact s.zn n c a hn ha hd h
def FrzOk (K : PySem.W.Frag) (mg : Str → Option Value) (r : Rg) (H : Hp) (f : D → Store → D × Store) : Prop := ∀ {d : D} {v : V} {S : Store}, Sim K mg r S H → DV (cx K mg r S H) d v →
    Sim K mg r (f d S).2 H ∧ Ext r S H r (f d S).2 H ∧ DV (cx K mg r (f d S).2 H) (f d S).1 v ∧ Less S (f d S).2 ∧ (f d S).2.length = S.length
theorem frzL_ok {f : D → Store → D × Store} (hf : FrzOk K mg r H f) : ∀ {ds : List D} {vs : List V} {S : Store}, Sim K mg r S H → DVs (cx K mg r S H) ds vs →
    Sim K mg r (frzL f ds S).2 H ∧ Ext r S H r (frzL f ds S).2 H ∧ DVs (cx K mg r (frzL f ds S).2 H) (frzL f ds S).1 vs ∧ Less S (frzL f ds S).2 ∧ (frzL f ds S).2.length = S.length
  | [], vs, S, s, h => ⟨s, Ext.refl, h, fun _ _ h _ => h, rfl⟩
  | d :: ds, vs, S, s, ⟨v, r, e1, h2, h3⟩ => by
    obtain ⟨s1, x1, g1, l1, n1⟩ := hf s h2
    obtain ⟨s2, x2, g2, l2, n2⟩ := frzL_ok hf s1 (DVs.ext x1 h3)
    exact ⟨s2, x1.trans x2, ⟨v, r, e1, g1.ext x2, g2⟩, l1.trans l2, n2.trans n1⟩
theorem frzF_ok : ∀ (k : Nat), FrzOk K mg r H (frzF k)
  | 0, d, v, S, s, h => by
    exact ⟨s, Ext.refl, h, fun _ _ h _ => h, rfl⟩
  | k + 1, d, v, S, s, h => by
    match d with
    | .loc n =>
      obtain ⟨a, ea, ha⟩ := h
      have e : frzF (k + 1) (.loc n) S = (match S[n]? with
        | some (.lst ds) => (.lst ds, S.set n .dead)
        | some (.dic ks ds) => (.dic ks ds, S.set n .dead)
        | some (.ins c ns ds) => (.ins c ns (frzL (frzF k) ds S).1, (frzL (frzF k) ds S).2.set n .dead)
        | _ => (.loc n, S)) := rfl
      cases hS : S[n]? with
      | none => rw [e, hS]; exact ⟨s, Ext.refl, ⟨a, ea, ha⟩, fun _ _ h _ => h, rfl⟩
      | some cl =>
        have hlt : n < S.length := (List.getElem?_eq_some_iff.mp hS).1
        have ck := s.cell n cl a hS ha
        cases cl with
        | dead => rw [e, hS]; exact ⟨s, Ext.refl, ⟨a, ea, ha⟩, fun _ _ h _ => h, rfl⟩
        | lst ds =>
          rw [e, hS]
          obtain ⟨s1, e1⟩ := s.kill (n := n)
          obtain ⟨vs, h1, h2⟩ := ck
          exact ⟨s1, e1, ⟨a, vs, ea, ⟨h1, no_live s hS rfl ha (fun _ _ h _ => h) hlt⟩, DVs.ext e1 h2⟩, Less.kill, List.length_set⟩
        | dic ks ds =>
          rw [e, hS]
          obtain ⟨s1, e1⟩ := s.kill (n := n)
          obtain ⟨kvs, h1, h2, h3⟩ := ck
          exact ⟨s1, e1, ⟨a, kvs, ea, h1, no_live s hS rfl ha (fun _ _ h _ => h) hlt, h2, DVs.ext e1 h3⟩, Less.kill, List.length_set⟩
        | ins c ns ds =>
          rw [e, hS]
          obtain ⟨C, dd, fs, hm, h1, h2, h3⟩ := ck
          obtain ⟨s1, e1, g1, l1, n1⟩ := frzL_ok (frzF_ok k) s h3
          obtain ⟨s2, e2⟩ := s1.kill (n := n)
          exact ⟨s2, e1.trans e2, ⟨a, C, dd, fs, ea, hm, h1, no_live s hS rfl ha l1 (by rw [n1]; exact hlt), h2, DVs.ext e2 g1⟩, l1.trans Less.kill, by rw [List.length_set]; exact n1⟩
    | .non => exact ⟨s, Ext.refl, h, fun _ _ h _ => h, rfl⟩
    | .bl _ => exact ⟨s, Ext.refl, h, fun _ _ h _ => h, rfl⟩
    | .int _ => exact ⟨s, Ext.refl, h, fun _ _ h _ => h, rfl⟩
    | .str _ => exact ⟨s, Ext.refl, h, fun _ _ h _ => h, rfl⟩
    | .tup _ => exact ⟨s, Ext.refl, h, fun _ _ h _ => h, rfl⟩
    | .lst _ => exact ⟨s, Ext.refl, h, fun _ _ h _ => h, rfl⟩
    | .rol _ => exact ⟨s, Ext.refl, h, fun _ _ h _ => h, rfl⟩
    | .dic _ _ => exact ⟨s, Ext.refl, h, fun _ _ h _ => h, rfl⟩
    | .ins _ _ _ => exact ⟨s, Ext.refl, h, fun _ _ h _ => h, rfl⟩
    | .exc _ _ _ => exact ⟨s, Ext.refl, h, fun _ _ h _ => h, rfl⟩
    | .fn _ => exact ⟨s, Ext.refl, h, fun _ _ h _ => h, rfl⟩
    | .ty _ => exact ⟨s, Ext.refl, h, fun _ _ h _ => h, rfl⟩
end
end Kx

set_option Elab.async false
set_option linter.all false
set_option maxRecDepth 100000
set_option autoImplicit false
/-! Ky: instances made, methods called, lists that grow and shrink. -/
namespace Kx
open PySem PySem.Spec L2 PySem.W PySem.Calls
open He (ga ma fAd Fa DefD)
/-- a def with keyword-only defaults keeps the reading f -/
structure HasK (P : Program) (w : World) (K : Frag) (mg : Str → Option Value) (d : DefD) (ps : List Str) (k : Nat) (f : FN) : Prop where
  ex : ∃ fd, FunD K d.name d.qual d.params d.body d.scope [] (d.kws K) (fAd K d.at_) fd ∧ ∀ base, TBs K mg base → FnG P w K mg base k (fAd K d.at_) fd ps (spF K mg f)
/-- a method keeps the reading f -/
structure HasM (P : Program) (w : World) (K : Frag) (mg : Str → Option Value) (c m : Str) (ps : List Str) (k : Nat) (f : FN) : Prop where
  ex : ∃ fd, Binds K fd ps [] ∧ ∀ base, TBs K mg base → FnG P w K mg base k (fAd K (c, some m)) fd ps (spF K mg f)
section
variable {N : Nm} {k : Nat}
theorem hasK_of {P : Program} {w : World} {K : Frag} {mg : Str → Option Value} {d : DefD} {ps Ns : List Str} {n m : Nat} {b : MS} (tp : Tp P N K mg) (hd : d ∈ N.fns) (h1 : d.dfl = []) (Sc : FnScope Ns ps d.scope) (hn : ps.length = n) (hm : Ns.length = m)
    (hB : ∀ (base : Heap) (f : Addr) (cdv : Value) (A : Around) (outer : List Env) (s : Shared) (H : Hp) (E : XK), Cn N (cxOf (CX P w) P w K mg base Ns d.qual d.scope f cdv A outer s H E) (fun C d _ H' => E C d H') k → (d.at_ ∈ lamDefs → LamAt K cdv d.qual) →
      JB (cxOf (CX P w) P w K mg base Ns d.qual d.scope f cdv A outer s H E) (fun C d _ H' => E C d H') d.body b) : HasK P w K mg d ps (k + 1) (mkFn n m b) := by
  obtain ⟨fd, F⟩ := tp.fn d hd
  have e : d.dvs K = [] := by unfold He.DefD.dvs; rw [h1]; rfl
  rw [e] at F
  refine ⟨fd, F, fun base tb => ?_⟩
  refine fn_ok F Sc hn hm fun cdv A outer s H E hcd hG hr => hB base (fAd K d.at_) cdv A outer s H E (Cn.cx tp hG hr Sc.nd tb) fun hl => ?_
  obtain ⟨oc, od, dV, kV, doc, pm, an, cdv', ct, osl, efd, lk, hcd', _, _⟩ := F.ex
  have e1 : fd.code = cdv' := by rw [efd]
  have e2 : fd.qualname = d.qual := by rw [efd]
  rw [← hcd, e1]
  obtain ⟨c, rfl⟩ := He.codeIn_ref hcd'
  have e3 := He.codeOf_eq lk e1
  refine ⟨c, (He.cT K d.at_).2, rfl, List.mem_filterMap.mpr ⟨d.at_, hl, ?_⟩, List.mem_filterMap.mpr ⟨d.at_, hl, ?_⟩⟩
  · rw [lk]
    show some (He.codeOf K d.at_, (He.cT K d.at_).2) = _
    rw [e3]
  · rw [lk]
    show some ((He.cT K d.at_).2, fd.qualname ++ ".<locals>." ++ "<lambda>") = _
    rw [e2]
theorem HasK.m {P : Program} {w : World} {K : Frag} {mg : Str → Option Value} {d : DefD} {ps : List Str} {f : FN} {c m : Str} (h : HasK P w K mg d ps k f) (ha : d.at_ = (c, some m))
    (hb : ∀ (kV doc pm : Value) (an : Option Addr) (cdv ct : Value) (us : List Value), us.length = ps.length → bindArgs (fnOf d.name d.qual d.params d.body d.scope .none kV doc pm an cdv ct) ⟨us, []⟩ = pure (ps.zip us)) : HasM P w K mg c m ps k f := by
  obtain ⟨fd, F, G⟩ := h.ex
  rw [ha] at G
  exact ⟨fd, F.bindsN hb, G⟩
end
/-! ### methods -/
def recv (c m : Str) (d : D) (S : Store) : Bool := match d with
  | .ins x ns _ => decide (x = c) && !ns.contains m
  | .loc n => match S[n]? with
    | some (.ins x ns _) => decide (x = c) && !ns.contains m
    | _ => false
  | _ => false
def eM (c m : Str) (f : FN) (mo : ME) (mA : MA) : ME := fun G S => (mo G S).bind fun d S1 => if recv c m d S1 then (mA G S1).bind fun ds S2 => f (d :: ds) S2 else .err
theorem look_none {m : Str} : ∀ {fs : List (Str × V)}, (fs.map (·.1)).contains m = false → fs.lookup m = none
  | [], _ => rfl
  | (n, v) :: fs, h => by
    have h' : ((m == n) || (fs.map (·.1)).contains m) = false := h
    obtain ⟨h1, h2⟩ := Bool.or_eq_false_iff.mp h'
    show (match m == n with
      | true => some v
      | false => fs.lookup m) = none
    rw [h1]
    exact look_none h2
section
variable {K : PySem.W.Frag} {mg : Str → Option Value} {r : Rg} {S : Store} {H : Hp}
theorem recv_ok {c m : Str} {C : Addr} {d : D} {x : V} (hc : mg c = some (.ref C)) (sim : Sim K mg r S H) (dx : DV (cx K mg r S H) d x) (h : recv c m d S = true) : ∃ a dd fs, x = .ref a ∧ H a = some (.ins C dd fs) ∧ fs.lookup m = none := by
  unfold recv at h
  split at h
  · rename_i y ns ds
    obtain ⟨h1, h2⟩ := b2 h
    have h1 := of_decide_eq_true h1
    subst h1
    obtain ⟨a, C', dd, fs, ea, hm, h3, _, h4, _⟩ := dx
    subst h4
    have hm : mg y = some (.ref C') := hm
    rw [hc] at hm
    cases hm
    exact ⟨a, dd, fs, ea, h3, look_none (by simpa using h2)⟩
  · rename_i n
    split at h
    · rename_i y ns ds hS
      obtain ⟨h1, h2⟩ := b2 h
      have h1 := of_decide_eq_true h1
      subst h1
      obtain ⟨a, ea, ha⟩ := dx
      obtain ⟨C', dd, fs, hm, h3, h4, _⟩ := sim.cell n _ a hS ha
      subst h4
      have hm : mg y = some (.ref C') := hm
      rw [hc] at hm
      cases hm
      exact ⟨a, dd, fs, ea, h3, look_none (by simpa using h2)⟩
    · cases h
  · cases h
end
section
variable {N : Nm} {X : Cx} {W : WX} {k : Nat} {a b c o : Expr} {es : List Expr} {ma mb mc mo : ME} {mA mK : MA} {pos p apos : Pos}
theorem q_meth {cl m : Str} {f : FN} {ps : List Str} {j : Nat} {pl : Sem Bool} (C : Cn N X W k) (F : HasM X.prog X.w X.K X.mg cl m ps j f) (hj : j ≤ k) (ho : JE X W o mo) (ha : JA X W (a :: es) mA) (hc : N.T.ins.contains cl = true := by rfl) (hm : (N.mts.contains (cl, m)) = true := by rfl)
    (hst : starEach (a :: es) X.env = (false, eval a X.env) :: starEach es X.env := by rfl) (hpl : (backTo pos (starEach es X.env)).any (·.1) = false := by rfl)
    (ht : eval (.Call (.Attribute o m apos) (a :: es) [] pos) X.env = (do
      let ov ← eval o X.env
      standAt apos.atName
      let (f, first) ← holding [ov] (getMethod ov m pl)
      callWith pos f first (backTo pos (starEach (a :: es) X.env)) (backToKw pos (keywordEach [] X.env))) := by rfl) : JE X W (.Call (.Attribute o m apos) (a :: es) [] pos) (eM cl m f mo mA) := by
  obtain ⟨fd, hb, F⟩ := F.ex
  have hmt := C.tp.mt (cl, m) (mem_of hm)
  have hgl := C.tp.it.glo cl (List.mem_append_right _ (mem_of hc))
  have hcl := (C.tp.it.ins cl (mem_of hc)).1
  refine ⟨fun pins s0 st H Q I h => ?_⟩
  obtain ⟨r, G, S, sim, env, g⟩ := h
  have h1 : rdE X.K X.mg W mo st H (fun x H1 => ∃ a dd fs, x = .ref a ∧ H1 a = some (.ins (ga X.K cl) dd fs) ∧ fs.lookup m = none ∧ rdA X.K X.mg W mA st H1 (fun vs H2 => spF X.K X.mg f (.ref a :: vs) H2 Q (fun C d H' => W C d st H'))) := by
    refine ⟨r, G, S, sim, env, (gE g).imp fun x H1 ⟨r1, S1, d, e1, s1, dx, g1⟩ => ?_⟩
    cases hq : recv cl m d S1 with
    | false => rw [hq] at g1; exact g1.elim
    | true =>
      rw [hq] at g1
      obtain ⟨a, dd, fs, ea, h2, h3⟩ := recv_ok hgl s1 dx hq
      refine ⟨a, dd, fs, ea, h2, h3, r1, G, S1, s1, env.ext e1, (gAE g1).imp fun vs H2 ⟨r2, S2, ds, e2, s2, dv, g2⟩ => ?_⟩
      rw [← ea]
      exact ⟨r2, S2, d :: ds, s2, DVs.cons (dx.ext e2) dv, g2⟩
  refine PySem.W.methodCall_KW (pl := pl) (thn (ho.run pins s0 st H _ I h1) fun u s1 ⟨x, H1, I1, rx, a', dd, fs, ex, ea, l, q⟩ => ?_) ht
  subst ex
  obtain rfl : u = Value.ref a' := rx
  refine getmeth_ok I1 ea hcl hmt l ?_
  refine PySem.W.callWith_K (first := [.ref a']) (h₀ := X.base) I.ok.mod.kin hmt.kp (thn (ha.run pos pins s1 st H1 _ I1 q) fun us s2 ⟨vs, H2, I2, rv, q2⟩ => ⟨I2.kIn, ?_⟩) hst hpl
  exact (F X.base C.tb).calls (us := .ref a' :: us) (vs := .ref a' :: vs) C.hG (C.hr.mono hj) hb .nil (passAt C.tk st) I2 (.cons rfl rv) (by rw [List.append_nil]; exact q2)
theorem q_meth0 {cl m : Str} {f : FN} {ps : List Str} {j : Nat} {pl : Sem Bool} (C : Cn N X W k) (F : HasM X.prog X.w X.K X.mg cl m ps j f) (hj : j ≤ k) (ho : JE X W o mo) (hc : N.T.ins.contains cl = true := by rfl) (hm : (N.mts.contains (cl, m)) = true := by rfl)
    (ht : eval (.Call (.Attribute o m apos) [] [] pos) X.env = (do
      let ov ← eval o X.env
      standAt apos.atName
      let (f, first) ← holding [ov] (getMethod ov m pl)
      callWith pos f first (backTo pos (starEach [] X.env)) (backToKw pos (keywordEach [] X.env))) := by rfl) : JE X W (.Call (.Attribute o m apos) [] [] pos) (eM cl m f mo aNil) := by
  obtain ⟨fd, hb, F⟩ := F.ex
  have hmt := C.tp.mt (cl, m) (mem_of hm)
  have hgl := C.tp.it.glo cl (List.mem_append_right _ (mem_of hc))
  have hcl := (C.tp.it.ins cl (mem_of hc)).1
  refine ⟨fun pins s0 st H Q I h => ?_⟩
  obtain ⟨r, G, S, sim, env, g⟩ := h
  have h1 : rdE X.K X.mg W mo st H (fun x H1 => ∃ a dd fs, x = .ref a ∧ H1 a = some (.ins (ga X.K cl) dd fs) ∧ fs.lookup m = none ∧ spF X.K X.mg f [.ref a] H1 Q (fun C d H' => W C d st H')) := by
    refine ⟨r, G, S, sim, env, (gE g).imp fun x H1 ⟨r1, S1, d, e1, s1, dx, g1⟩ => ?_⟩
    cases hq : recv cl m d S1 with
    | false => rw [hq] at g1; exact g1.elim
    | true =>
      rw [hq] at g1
      obtain ⟨a, dd, fs, ea, h2, h3⟩ := recv_ok hgl s1 dx hq
      refine ⟨a, dd, fs, ea, h2, h3, r1, S1, [d], s1, ?_, g1⟩
      rw [← ea]
      exact DVs.cons dx rfl
  refine PySem.W.methodCall_KW (pl := pl) (thn (ho.run pins s0 st H _ I h1) fun u s1 ⟨x, H1, I1, rx, a', dd, fs, ex, ea, l, q⟩ => ?_) ht
  subst ex
  obtain rfl : u = Value.ref a' := rx
  refine getmeth_ok I1 ea hcl hmt l ?_
  exact PySem.W.callWith_K0 (first := [.ref a']) I1.kIn hmt.kp ((F X.base C.tb).calls (us := [.ref a']) (vs := [.ref a']) (dvs := []) (ds := []) C.hG (C.hr.mono hj) hb .nil (passAt C.tk st) I1 (.cons rfl .nil) q)
end
/-! ### instances made -/
theorem run_makeG {X : Cx} {C f : Addr} {fd : FuncData} {ps ks : List Str} {sp : Sp} {k n : Nat} {E : XK} {g : List Value → List Value → List Value} {gV : List V → List V → List V} {pins : List (Addr × Obj)} {σ : L2.St} {H : Hp} {s : Shared} {Q : VK} {us ws : List Value} {vs zs : List V}
    (M : Mk X.K C f) (F : FnG X.prog X.w X.K X.mg X.base k f fd ps sp) (hG : X.A.guards = some []) (hr : Room (k + 1) X.A) (hb : KBn X.K fd ps (n + 1) ks g gV) (hx : PassesAt (CX X.prog X.w) X σ E)
    (I : Inv X pins σ H s) (r : Vals vs us) (rz : Vals zs ws) (l1 : vs.length = n) (l2 : zs.length = ks.length)
    (h : ∀ x dx, H x = none → H dx = none → dx ≠ x → sp (gV (.ref x :: vs) zs) (upd (upd H dx (.own x)) x (.ins C dx [])) (fun v H2 => v = .non ∧ Q (.ref x) H2) E) :
    wpAny (model X.prog X.w) X.A (call (.ref C) us (ks.zip ws)) (EP X pins σ Q) X.xe s := by
  have hq := h (s.heap.objs.size + 1) s.heap.objs.size (I.hok.fresh (Nat.le_succ _)) (I.hok.fresh (Nat.le_refl _)) (Nat.ne_of_lt (Nat.lt_succ_self _))
  have J := Inv.made (C := C) I
  have rs : Vals (V.ref (s.heap.objs.size + 1) :: vs) (Value.ref (s.heap.objs.size + 1) :: us) := .cons rfl r
  have ra := hb.rel rs rz
  have hn : (Value.ref (s.heap.objs.size + 1) :: us).length = n + 1 := by rw [List.length_cons, ← r.length, l1]
  have go := F.run (X.A.under (.builtin "type.__call__" ⟨.ref C :: us, ks.zip ws⟩)) X.stack _ _ ⟨Value.ref (s.heap.objs.size + 1) :: us, ks.zip ws⟩ (g (Value.ref (s.heap.objs.size + 1) :: us) ws) _ _ E (by exact hG) (hr.make C us (ks.zip ws))
    (J.env0.make C us (ks.zip ws)) (hb.to _ (Value.ref (s.heap.objs.size + 1) :: us) ws J.kIn hn (rz.length.symm.trans l2)) ra hq
  refine wpAny_call (make_map (f := f) I.kIn M.makes M.init (beq_iff_eq.mp M.fn) (codeAny_mono go ?_))
  intro z s' hz
  rcases z with e | fl
  · exact hx pins _ _ e s' J hz
  · rcases fl with _ | _ | _ | u
    · exact (show False from hz).elim
    · exact (show False from hz).elim
    · exact (show False from hz).elim
    · obtain ⟨v, H', I3, rv, ev, q3⟩ := J.after hz
      subst ev
      exact ⟨rv, V.ref (s.heap.objs.size + 1), H', I3, rfl, q3⟩
def GRel (K : Frag) (gD : List D → List D → List D) (gV : List V → List V → List V) : Prop := ∀ (c : Ctx), c.K = K → ∀ {ds es : List D} {vs zs : List V}, DVs c ds vs → DVs c es zs → DVs c (gD ds es) (gV vs zs)
def eMk (c : Str) (z n m : Nat) (f : FN) (g : List D → List D → List D) (mA mK : MA) : ME := fun G S => (mA G S).bind fun ds S1 => (mK G S1).bind fun es S2 =>
  if ds.length = n ∧ es.length = m then (f (g (.loc S2.length :: ds) es) (S2 ++ [.ins c [] []])).bind fun d S3 => match d with
    | .non => .ok (frzF z (.loc S2.length) S3).1 (frzF z (.loc S2.length) S3).2
    | _ => .err
  else .err
abbrev JK (X : Cx) (W : WX) (kws : List Keyword) (m : MA) : Prop := PK X kws (rdA X.K X.mg W m)
theorem PKw {X : Cx} {e : List Keyword} {t t' : TA} (h : PK X e t) (w : ∀ s H Q, t' s H Q → t s H Q) : PK X e t' := ⟨fun pos pins s σ H Q I hw => h.run pos pins s σ H Q I (w σ H Q hw)⟩
section
variable {N : Nm} {X : Cx} {W : WX} {k : Nat} {a b c o : Expr} {es : List Expr} {kws : List Keyword} {ma mb mc mo : ME} {mA mK : MA} {pos p apos kpos : Pos} {nm : Option Str}
theorem jk_nil : JK X W [] aNil := PKw pk_nil fun s H Q ⟨r, G, S, sim, env, g⟩ => g r H [] Ext.refl sim rfl
theorem jk_cons (ha : JE X W a ma) (hb : JK X W kws mA) : JK X W (⟨nm, a, kpos⟩ :: kws) (aCons ma mA) :=
  PKw (pk_cons ha hb) fun s H Q ⟨r, G, S, sim, env, g⟩ => ⟨r, G, S, sim, env, (gEA g).imp fun x H1 ⟨r1, S1, d, e1, s1, dx, g1⟩ => ⟨r1, G, S1, s1, env.ext e1, (gAA g1).imp fun ys H2 ⟨r2, S2, ds, e2, s2, dy, g2⟩ =>
    g2 r2 H2 _ Ext.refl s2 (DVs.cons (dx.ext e2) dy)⟩⟩
theorem q_mk {cl : Str} {f : FN} {ps ks : List Str} {j n z : Nat} {fd : FuncData} {g : List Value → List Value → List Value} {gV : List V → List V → List V} {gD : List D → List D → List D} (C : Cn N X W k)
    (F : ∀ base, TBs X.K X.mg base → FnG X.prog X.w X.K X.mg base j (fAd X.K (cl, some "__init__")) fd ps (spF X.K X.mg f)) (hb : KBn X.K fd ps (n + 1) ks g gV) (hg : GRel X.K gD gV) (hj : j + 1 ≤ k) (ha : JA X W (a :: es) mA) (hk : JK X W kws mK)
    (hc : N.T.ins.contains cl = true := by rfl) (hm : N.mts.contains (cl, "__init__") = true := by rfl) (hmk : N.mks.contains cl = true := by rfl) (hgl : Gl X cl := by rfl) (hdb : (cl == ("__debug__" : Str)) = false := by decide)
    (hall : (backToKw pos (keywordEach kws X.env)).all (·.1.isSome) = true := by rfl) (hks : (backToKw pos (keywordEach kws X.env)).filterMap (·.1) = ks := by rfl)
    (he : starEach (a :: es) X.env = (false, eval a X.env) :: starEach es X.env := by rfl) (hpl : ((backTo pos (starEach (a :: es) X.env)).any (·.1) || (backToKw pos (keywordEach kws X.env)).any (·.1.isNone)) = false := by rfl) :
    JE X W (.Call (.Name cl p) (a :: es) kws pos) (eMk cl z n ks.length f gD mA mK) := by
  have hmt := C.tp.mt (cl, "__init__") (mem_of hm)
  have hg1 := C.tp.it.glo cl (List.mem_append_right _ (mem_of hc))
  obtain ⟨m1, m2⟩ := C.tp.mkc cl (mem_of hmk)
  have M : Mk X.K (ga X.K cl) (fAd X.K (cl, some "__init__")) := ⟨m1, hmt.at_, hmt.fn, m2⟩
  refine ⟨fun pins s0 st H Q I h => ?_⟩
  obtain ⟨r, G, S, sim, env, g0⟩ := h
  have h1 : rdA X.K X.mg W mA st H (fun vs H1 => rdA X.K X.mg W mK st H1 (fun zs H2 => vs.length = n ∧ zs.length = ks.length ∧ ∀ x dx, H2 x = none → H2 dx = none → dx ≠ x →
      spF X.K X.mg f (gV (.ref x :: vs) zs) (upd (upd H2 dx (.own x)) x (.ins (ga X.K cl) dx [])) (fun v H3 => v = .non ∧ Q (.ref x) H3) (fun C d H' => W C d st H'))) := by
    refine ⟨r, G, S, sim, env, (gAE g0).imp fun vs H1 ⟨r1, S1, ds, e1, s1, dv, g1⟩ => ⟨r1, G, S1, s1, env.ext e1, (gAE g1).imp fun zs H2 ⟨r2, S2, es', e2, s2, dz, g2⟩ => ?_⟩⟩
    by_cases hl : ds.length = n ∧ es'.length = ks.length
    · rw [if_pos hl] at g2
      refine ⟨by rw [← DVs.length dv]; exact hl.1, by rw [← DVs.length dz]; exact hl.2, fun x dx hx hd hne => ?_⟩
      obtain ⟨s3, e3⟩ := s2.newv (o := .own x) hd
      have hx' : (upd H2 dx (.own x)) x = none := by rw [upd_ne (Ne.symm hne)]; exact hx
      obtain ⟨s4, e4⟩ := s3.newc (o := .ins (ga X.K cl) dx []) (c := .ins cl [] []) hx' rfl fun r' S' H' er eS eH e => ⟨ga X.K cl, dx, [], hg1, by subst eH; exact upd_same, rfl, rfl⟩
      have e34 := e3.trans e4
      have dloc : DV (cx X.K X.mg ⟨r2.as ++ [x], r2.z⟩ (S2 ++ [.ins cl [] []]) (upd (upd H2 dx (.own x)) x (.ins (ga X.K cl) dx []))) (.loc S2.length) (.ref x) := ⟨x, rfl, by show (r2.as ++ [x])[S2.length]? = some x; rw [← s2.len]; simp⟩
      refine ⟨_, _, _, s4, hg _ rfl (DVs.cons dloc ((DVs.ext (e2.trans e34) dv))) (DVs.ext e34 dz), ?_⟩
      refine (gE (GoodE.mono e34 (fun _ _ _ h => h) (fun _ _ h => h) g2)).imp fun v H3 ⟨r3, S3, d, e5, s5, dx5, g5⟩ => ?_
      cases d <;> try exact g5.elim
      obtain ⟨s6, e6, d6, _, _⟩ := frzF_ok z s5 (dloc.ext e5)
      exact ⟨dx5, g5 r3 H3 _ e6 s6 d6⟩
    · rw [if_neg hl] at g2
      exact g2.elim
  refine wpAny_Call_Name_kw (ld_glob I hgl hg1 ?_ hdb)
  refine PySem.W.callWith_KW (h₀ := X.base) I.ok.mod.kin m2 hall (thn (ha.run pos pins s0 st H _ I h1) fun us s1 ⟨vs, H1, I1, rv, q⟩ => ?_) hpl he
  refine thn (hk.run pos pins s1 st H1 _ I1 q) fun ws s2 ⟨zs, H2, I2, rz, l1, l2, q2⟩ => ⟨I2.kIn, ?_⟩
  rw [hks]
  exact run_makeG M (F X.base C.tb) C.hG (C.hr.mono hj) hb (passAt C.tk st) I2 rv rz l1 l2 q2
theorem KBn.plain {K : Frag} {fd : FuncData} {ps : List Str} {n : Nat} (h : Binds K fd ps []) (hn : ps.length = n) : KBn K fd ps n [] (fun us _ => us) (fun vs _ => vs) :=
  ⟨fun s us ws kin l1 l2 => by
    have q := h s us kin (by rw [List.append_nil, l1, hn])
    rw [List.append_nil] at q
    exact q, fun r _ => r⟩
def gFst : List D → List D → List D := fun ds _ => ds
theorem q_make {cl : Str} {f : FN} {ps : List Str} {j n : Nat} (z : Nat) (C : Cn N X W k) (F : HasM X.prog X.w X.K X.mg cl "__init__" ps j f) (hj : j + 1 ≤ k) (ha : JA X W (a :: es) mA) (hn : ps.length = n + 1 := by rfl)
    (hc : N.T.ins.contains cl = true := by rfl) (hm : N.mts.contains (cl, "__init__") = true := by rfl) (hmk : N.mks.contains cl = true := by rfl) (hgl : Gl X cl := by rfl) (hdb : (cl == ("__debug__" : Str)) = false := by decide)
    (he : starEach (a :: es) X.env = (false, eval a X.env) :: starEach es X.env := by rfl) (hpl : ((backTo pos (starEach (a :: es) X.env)).any (·.1) || (backToKw pos (keywordEach [] X.env)).any (·.1.isNone)) = false := by rfl) :
    JE X W (.Call (.Name cl p) (a :: es) [] pos) (eMk cl z n 0 f gFst mA aNil) := by
  obtain ⟨fd, hb, F⟩ := F.ex
  exact q_mk (ks := []) C F (KBn.plain hb hn) (fun c hc ds es vs zs h1 h2 => h1) hj ha jk_nil hc hm hmk hgl hdb rfl rfl he hpl
end
end Kx

set_option Elab.async false
set_option linter.all false
set_option maxRecDepth 100000
set_option autoImplicit false
/-! Kz: set(..) of texts, its length, sorted. -/
namespace Kx
open PySem PySem.Spec PyProof.Rows
open L2 (Ris SetAt store_at layNew_ris layNew_led relayAll_ris relayAll_led code_set_led1 collect_set)
/-! ### what a set of texts is -/
def wordOf (e : Int × Value) : Str := match e.2 with
  | .str x _ => x
  | _ => Str.empty
def WordE (w : World) (e : Int × Value) : Prop := ∃ x tk, e.2 = Value.str x tk ∧ e.1 = hashStr w x
/-- at a: a set of texts, those of l, n of them; its table can be walked -/
def SetW (w : World) (h : Heap) (a : Addr) (l : List Str) (n : Nat) : Prop :=
  ∃ ob rows ep tb, h.get? a = some ob ∧ ob.ExactSet ∧ ob.data = .set rows ep tb ∧ (∀ e ∈ rows.toList, WordE w e) ∧ (rows.toList.map wordOf).Nodup ∧ (∀ x, x ∈ l ↔ x ∈ rows.toList.map wordOf) ∧
    rows.size < scanBound ∧ tb.fits rows.size = true ∧ rows.size = n ∧ Ris tb.place.toList ∧ (w.params.followText "set-order" = true ∨ tb.led = true)
section
variable {P : Program} {w : World} {h h2 : Heap} {a : Addr} {l : List Str} {n : Nat}
theorem SetW.keep (R : SetW w h a l n) (k : ∀ o, h.get? a = some o → h2.get? a = some o) : SetW w h2 a l n := by
  obtain ⟨ob, rows, ep, tb, q, more⟩ := R
  exact ⟨ob, rows, ep, tb, k ob q, more⟩
theorem SetW.same {l2 : List Str} (R : SetW w h a l n) (e : ∀ x, x ∈ l2 ↔ x ∈ l) : SetW w h a l2 n := by
  obtain ⟨ob, rows, ep, tb, q1, q2, q3, q4, q5, q6, more⟩ := R
  exact ⟨ob, rows, ep, tb, q1, q2, q3, q4, q5, fun x => (e x).trans (q6 x), more⟩
theorem word_elems {r : List (Int × Value)} (g : ∀ e ∈ r, WordE w e) : ElemsOf (strKind P w) r := fun e he => by
  obtain ⟨x, tk, q1, q2⟩ := g e he
  exact ⟨⟨x, by rw [q1]; exact strKind_is P w x tk, q2⟩, by rw [q1] <;> rfl⟩
theorem word_is {e : Int × Value} (g : WordE w e) (x : Str) : (strKind P w).is x e.2 = true ↔ wordOf e = x := by
  obtain ⟨y, tk, q, _⟩ := g
  unfold wordOf
  rw [q]
  show ((y == x) = true) ↔ y = x
  exact beq_iff_eq
theorem word_mem {r : List (Int × Value)} (g : ∀ e ∈ r, WordE w e) (x : Str) : x ∈ r.map wordOf ↔ ∃ e ∈ r, (strKind P w).is x e.2 = true := by
  rw [List.mem_map]
  exact ⟨fun ⟨e, he, q⟩ => ⟨e, he, (word_is (g e he) x).2 q⟩, fun ⟨e, he, q⟩ => ⟨e, he, (word_is (g e he) x).1 q⟩⟩
end
section
variable {P : Program} {w : World} {A : Around} {E : Value → Shared → Prop} {s : Shared} {a : Addr} {l : List Str} {n : Nat}
theorem setW_tail {gw : Bool → Sem Unit} (hgw : ∀ (b : Bool) (t : Shared) (Z : Unit → Shared → Prop), Z () t → wpAny (model P w) A (gw b) Z E t)
    {ob : Obj} {rows : Array (Int × Value)} {ep : Nat} {tb : SetTable} (ho : s.heap.get? a = some ob) (hex : ob.ExactSet) (hd : ob.data = .set rows ep tb)
    {rs : Array (Int × Value)} {tn : SetTable} {l2 : List Str} (g1 : ∀ e ∈ rs.toList, WordE w e) (nd : (rs.toList.map wordOf).Nodup) (me : ∀ x, x ∈ l2 ↔ x ∈ rs.toList.map wordOf)
    (hb : rs.size < scanBound) (hf : tn.fits rs.size = true) (hr : Ris tn.place.toList) (hl : w.params.followText "set-order" = true ∨ tn.led = true) {dummy : Bool} {Z : Option Bool → Shared → Prop}
    (hZ : ∀ h2, Heap.SameBut a s.heap h2 → SetW w h2 a l2 rs.size → Z (some true) { s with heap := h2 }) :
    wpAny (model P w) A (do
        storeSet a rs tn
        if (!dummy && tn.tooFull) = true then do
            gw (relayAll tn rs (SetTable.grown rs.size)).2.2
            storeSet a (relayAll tn rs (SetTable.grown rs.size)).1 (relayAll tn rs (SetTable.grown rs.size)).2.1
            pure (some true)
          else pure (some true)) Z E s := by
  refine wpAny_bind (wpAny_storeSet_of ho hd ?_ (fits_of_scanBound hb))
  have at1 := store_at (es' := rs) (t' := tn) ho hd
  have same1 := Heap.SameBut.update s.heap a (Obj.putSet rs tn)
  split
  · have p1 := relayAll_perm tn rs (SetTable.grown rs.size)
    have p2 := relayAll_fits tn rs (SetTable.grown rs.size)
    have p3 := relayAll_ris tn rs (SetTable.grown rs.size)
    have p4 := relayAll_led tn rs (SetTable.grown rs.size)
    generalize relayAll tn rs (SetTable.grown rs.size) = three at p1 p2 p3 p4 ⊢
    obtain ⟨r3, t3, gave⟩ := three
    dsimp only at p1 p2 p3 p4 ⊢
    have size3 : r3.size = rs.size := by rw [← Array.length_toList, p1.length_eq, Array.length_toList]
    have few : r3.size < scanBound := by rw [size3]; exact hb
    refine wpAny_bind (hgw _ _ _ ?_)
    refine wpAny_bind (wpAny_storeSet_of at1 rfl ?_ (fits_of_scanBound few))
    have at2 := store_at (es' := r3) (t' := t3) at1 rfl
    refine wpAny_pure (hZ _ (same1.trans (Heap.SameBut.update _ a _)) ?_)
    exact ⟨_, r3, _, t3, at2, hex, rfl, fun e he => g1 e (p1.mem_iff.mp he), (p1.map wordOf).nodup_iff.mpr nd, fun x => (me x).trans (p1.map wordOf).mem_iff.symm, few, p2, size3, p3, hl.imp id fun z => by rw [p4]; exact z⟩
  · exact wpAny_pure (hZ _ same1 ⟨_, rs, _, tn, at1, hex, rfl, g1, nd, me, hb, hf, rfl, hr, hl⟩)
theorem setW_add {x : Str} {tk : Tok} {Z : Bool → Shared → Prop} (R : SetW w s.heap a l n) (room : n + 1 < scanBound)
    (hZ : ∀ h2 b m, Heap.SameBut a s.heap h2 → SetW w h2 a (l ++ [x]) m → m ≤ n + 1 → Z b { s with heap := h2 }) :
    wpAny (model P w) A (setAddHashed a (.str x tk) ((strKind P w).hash x)) Z E s := by
  obtain ⟨ob, rows, ep, tb, ho, hex, hd, g, nd, me, hb, hf, hn, hr, hl⟩ := R
  have key : (strKind P w).is x (.str x tk) = true := strKind_is P w x tk
  have scan : (Value.str x tk).scannable = true := rfl
  have elems : ElemsOf (strKind P w) rows.toList := word_elems g
  unfold setAddHashed setAddHashedIn
  refine wpAny_holding (wpAny_bind (wpAny_setState_of ho hd hf ?_))
  dsimp only
  rw [byScan_of scan hb elems]
  simp only [↓reduceIte]
  unfold setAddByScan
  refine wpAny_bind (wpAny_bind (wpAny_rule ?_))
  refine wpAny_bind (wpAny_setScan_of key ho hd hf elems ?_)
  cases look : List.findIdx? (fun e => (strKind P w).is x e.2) rows.toList with
  | some j =>
    dsimp only
    obtain ⟨hj, pj, _⟩ := List.findIdx?_eq_some_iff_getElem.mp look
    have inl : x ∈ l := (me x).2 ((word_mem (P := P) g x).2 ⟨rows.toList[j], List.getElem_mem hj, pj⟩)
    refine wpAny_pure (wpAny_pure ?_)
    refine hZ s.heap _ n (Heap.SameBut.refl a s.heap) ⟨ob, rows, ep, tb, ho, hex, hd, g, nd, fun y => ?_, hb, hf, hn, hr, hl⟩ (Nat.le_succ _)
    rw [List.mem_append, List.mem_singleton, ← me y]
    exact ⟨fun z => z.elim id fun e => e ▸ inl, .inl⟩
  | none =>
    dsimp only
    have out : x ∉ rows.toList.map wordOf := fun z => by
      obtain ⟨e, he, q⟩ := (word_mem (P := P) g x).1 z
      have c := List.findIdx?_eq_none_iff.mp look e he
      rw [q] at c
      cases c
    have gave : ∀ (b : Bool) {t : Shared} {Z2 : Unit → Shared → Prop}, Z2 () t → wpAny (model P w) A (match b with | true => rule "set.scan.the-table-gave-way" | false => pure ()) Z2 E t := fun b t Z2 q => by
      cases b <;> first | exact wpAny_pure q | exact wpAny_rule q
    have p1 := layNew_perm tb rows ((strKind P w).hash x) (.str x tk)
    have p2 := layNew_fits tb rows ((strKind P w).hash x) (.str x tk)
    have p3 := layNew_ris tb rows ((strKind P w).hash x) (.str x tk) hr
    have p4 := layNew_led tb rows ((strKind P w).hash x) (.str x tk)
    generalize layNew tb rows ((strKind P w).hash x) (.str x tk) = four at p1 p2 p3 p4 ⊢
    obtain ⟨rs, tn, dummy, gv⟩ := four
    dsimp only at p1 p2 p3 p4 ⊢
    rw [Array.toList_push] at p1
    have pc : rs.toList.Perm (((strKind P w).hash x, Value.str x tk) :: rows.toList) := p1.trans (List.perm_append_singleton _ _)
    have pk : (rs.toList.map wordOf).Perm (x :: rows.toList.map wordOf) := pc.map wordOf
    have g1 : ∀ e ∈ rs.toList, WordE w e := fun e he => by
      rcases List.mem_cons.mp (pc.mem_iff.mp he) with z | z
      · rw [z]; exact ⟨x, tk, rfl, rfl⟩
      · exact g e z
    have nd1 : (rs.toList.map wordOf).Nodup := pk.nodup_iff.mpr (List.nodup_cons.mpr ⟨out, nd⟩)
    have me1 : ∀ y, y ∈ l ++ [x] ↔ y ∈ rs.toList.map wordOf := fun y => by
      rw [List.mem_append, List.mem_singleton, me y, pk.mem_iff, List.mem_cons]
      exact Or.comm
    have sz : rs.size = n + 1 := by rw [← Array.length_toList, pc.length_eq, List.length_cons, Array.length_toList, hn]
    have few : rs.size < scanBound := by rw [sz]; exact room
    have led1 : w.params.followText "set-order" = true ∨ tn.led = true := hl.imp id fun z => by rw [p4]; exact z
    have fin : ∀ h2 b, Heap.SameBut a s.heap h2 → SetW w h2 a (l ++ [x]) rs.size → Z b { s with heap := h2 } := fun h2 b sb r => hZ h2 b _ sb r (Nat.le_of_eq sz)
    refine wpAny_bind (gave _ ?_)
    split
    · refine wpAny_bind ?_
      rw [hashByValue_scannable 8 scan]
      refine wpAny_pure (setW_tail ?_ ho hex hd g1 nd1 me1 few ?_ ?_ ?_ ?_)
      · intro b t Z2 q; cases b <;> first | exact wpAny_pure q | exact wpAny_rule q
      · first | (split <;> first | exact p2 | exact SetTable.fits_plain_off p2) | exact p2
      · first | (split <;> exact p3) | exact p3
      · first | (split <;> exact led1) | exact led1
      · intro h2 sb r; dsimp only; exact wpAny_pure (fin h2 _ sb r)
    · refine wpAny_bind (wpAny_pure ?_)
      simp only [↓reduceIte]
      refine setW_tail ?_ ho hex hd g1 nd1 me1 few p2 p3 led1 ?_
      · intro b t Z2 q; cases b <;> first | exact wpAny_pure q | exact wpAny_rule q
      · intro h2 sb r; dsimp only; exact wpAny_pure (fin h2 _ sb r)
/-- an empty set, as it is made -/
def set0 (w : World) : Obj := { cls := .type "set", dict := none, data := .set #[] 0 (.fresh 0 0 (!w.params.followText "set-order")) }
theorem setW_new {h : Heap} (ho : h.get? a = some (set0 w)) : SetW w h a [] 0 :=
  ⟨_, #[], 0, _, ho, ⟨rfl, rfl, rfl⟩, rfl, (fun e he => by simp at he), (by simp), (fun k => by simp), (by decide), (by rfl), rfl, List.Pairwise.nil, by
    show _ ∨ (!w.params.followText "set-order") = true
    cases w.params.followText "set-order" with
    | false => exact .inr rfl
    | true => exact .inl rfl⟩
theorem setW_loop {I : Addr} {fp wr : List Addr} {G : Array GenState → Array GenState → Prop} {n : Nat} {Pv : Nat → Value → Prop} {St : Nat → Shared → Prop} {R : Result → Shared → Prop}
    (W : WalksS P w A.in1 I fp wr G n Pv St) (Z : Addr) (hZf : Z ∉ fp) (xs : List Str) (hn : n = xs.length) (hb : xs.length + 1 < scanBound) (hval : ∀ i v, Pv i v → ∃ x t, xs[i]? = some x ∧ v = .str x t) :
    ∀ (k i : Nat) (s : Shared), n - i = k → i ≤ n → St i s → (∃ c, c ≤ i ∧ SetW w s.heap Z (xs.take i) c) →
      (∀ s2 c, Moved (Z :: wr) G s s2 → c ≤ n → SetW w s2.heap Z xs c → R (.ok (.ret .none)) s2) →
      codeAny (model P w) A (.builtin "set.update.loop" ⟨[.ref Z, .ref I], []⟩) R s := by
  have nw : Z ∉ wr := fun q => hZf (W.sub _ q)
  have more : ∀ b ∈ wr, b ∈ Z :: wr := fun b q => List.mem_cons_of_mem _ q
  intro k
  induction k with
  | zero =>
    intro i s hk hi hst ⟨c, hc, hS⟩ hR
    obtain rfl : i = n := by omega
    refine codeAny_builtin F.entry_set_update_loop ?_
    rw [Around.under_plainId F.plain_set_update_loop _]
    show wpAny _ A.in1 (pyNext (.ref I) >>= _) _ _ s
    refine wpAny_bind (W.done s _ _ hst fun s2 hm => ?_)
    show wpAny _ A.in1 (ret Value.none) _ _ s2
    rw [List.take_of_length_le (Nat.le_of_eq hn.symm)] at hS
    exact wpAny_pure (hR s2 c (hm.mono more) hc (hS.keep fun o e => hm.heap Z o nw e))
  | succ k ih =>
    intro i s hk hi hst ⟨c, hc, hS⟩ hR
    have lt : i < n := by omega
    refine codeAny_builtin F.entry_set_update_loop ?_
    rw [Around.under_plainId F.plain_set_update_loop _]
    show wpAny _ A.in1 (pyNext (.ref I) >>= _) _ _ s
    refine wpAny_bind (W.item i s _ _ lt hst fun v s2 hP st2 hm => ?_)
    obtain ⟨x, t, hx, rfl⟩ := hval i v hP
    have hS2 : SetW w s2.heap Z (xs.take i) c := hS.keep fun o e => hm.heap Z o nw e
    show wpAny _ A.in1 (holding [Value.str x t] (setAdd Z (.str x t)) >>= _) _ _ s2
    refine wpAny_bind (wpAny_holding ?_)
    unfold setAdd
    refine wpAny_holding (wpAny_bind ((strKind P w).pyHash (k := x) (strKind_is _ _ _ _) ?_))
    refine setW_add (s := { s2 with toks := s2.toks + 1 }) hS2 (by omega) fun h3 b m sb hS3 hm3 => ?_
    have hS4 : SetW w h3 Z (xs.take (i + 1)) m := hS3.same fun y => by rw [List.take_add_one, hx]; rfl
    refine wpAny_pure ⟨plainId_quiet F.plain_set_update_loop _, ih (i + 1) _ (by omega) lt (W.frame _ s2 _ _ st2 (Nat.le_succ _) fun b hb o e => ?_) ⟨m, by omega, hS4⟩ fun s4 c4 hm4 hc4 hS5 => ?_⟩
    · rw [sb.2 b fun q => hZf (by rw [← q]; exact hb)]; exact e
    · refine hR s4 c4 (Moved.trans W.gtrans ((hm.mono more).then_heap (Nat.le_succ _) fun b o hb e => ?_) hm4) hc4 hS5
      rw [sb.2 b fun q => hb (by rw [q]; exact List.mem_cons_self)]; exact e
set_option maxHeartbeats 3200000 in
theorem call_set_list {p : Addr} {items : Array Value} (xs : List Str) {Q : Value → Shared → Prop} (hh : A.handled = none) (hp : s.heap.IsList p items) (hi : StrsAre items.toList xs) (hb : xs.length + 1 < scanBound)
    (k : ∀ (h2 : Heap) (tk c : Nat), SetW w h2 s.heap.objs.size xs c → c ≤ xs.length → (∀ b o, s.heap.get? b = some o → h2.get? b = some o) → Q (.ref s.heap.objs.size) { s with heap := h2, toks := tk }) :
    wpAny (model P w) A (call (.type "set") [.ref p]) Q E s := by
  have size : items.size = xs.length := by rw [← StrsAre.len_eq hi, Array.length_toList]
  obtain ⟨_, _, q1⟩ := F.called_set.mro
  have q2 := F.called_set.made
  have q3 := F.called_set.sub
  refine wpAny_call (codeAny_of_tree ?_)
  show wpAny _ _ (callAny (.type "set") _) _ _ _
  refine wpAny_pure ⟨Code.quiet_builtin _ (by decide +kernel), codeAny_builtin F.entry_type_call ?_⟩
  rw [Around.under_plain (weight_type_call_type "set" [.ref p] []) rfl]
  have q4 := F.called_set.notType
  have q5 := F.called_set.canCreate
  have q6 := F.typeCall_set_1 (.ref p)
  repeat (any_goals (first | assumption | wp_step))
  refine codeAny_mono (code_set_led1 (.ref p) (E := E) (Q₁ := fun v t => v = .ref s.heap.objs.size ∧ t = { s with heap := s.heap.push (set0 w) }) ⟨rfl, rfl⟩) fun r s1 hr => ?_
  rcases r with e | fl
  · exact hr
  · rcases fl with _ | _ | _ | v
    · exact (show False from hr).elim
    · exact (show False from hr).elim
    · exact (show False from hr).elim
    · obtain ⟨rfl, rfl⟩ := hr
      have at0 : (s.heap.push (set0 w)).get? s.heap.objs.size = some (set0 w) := Heap.get?_push_size _ rfl
      have ty0 : Shared.TypeIs { s with heap := s.heap.push (set0 w) } (.ref s.heap.objs.size) "set" := ⟨_, at0, rfl⟩
      have q7 := F.called_set.init.lookup
      have q8 := F.called_set.init.bind (.ref s.heap.objs.size)
      repeat (any_goals (first | assumption | wp_step))
      refine codeAny_mono (codeAny_call_builtin (R := wants (fun v t => v = .none ∧ ∃ h2 tk c, t = { s with heap := h2, toks := tk } ∧ SetW w h2 s.heap.objs.size xs c ∧ c ≤ xs.length ∧ ∀ b o, s.heap.get? b = some o → h2.get? b = some o) E) F.called_set.init.plain F.entry_set_init (check_set_init_1 ty0 ?_)) fun r2 s2 hr2 => ?_
      · obtain ⟨ol, at1, cl1, nl, dl1⟩ := hp
        obtain ⟨ocls, odict, odata, oslots⟩ := ol
        simp only at cl1 dl1
        subst cl1 dl1
        have at2 : (s.heap.push (set0 w)).get? p = some { cls := .type "list", dict := odict, data := .seq items nl, slots := oslots } := Heap.get?_push_of_some _ at1
        have q9 := F.sub_list_set
        have q10 := F.sub_list_frozenset
        have q11 : (Value.type "list" == Value.type "dict") = false := by decide
        have is1 : (s.heap.push (set0 w)).IsList p items := ⟨_, at2, rfl, nl, rfl⟩
        unfold Builtin.«set.__init__» noKeywords Builtin.Frozenset.updateFrom
        generalize hPI : pyIter = PI
        wp_walk
        subst hPI
        refine wpAny_pyIter_list is1 (wpAny_bind (wpAny_runValue ?_))
        have low : p < s.heap.objs.size := Heap.lt_size at1
        have hd3 : A.in1.in1.in1.handled = none := by simp [hh]
        have ne1 : p ≠ (s.heap.push (set0 w)).objs.size := by rw [Heap.size_push]; exact Nat.ne_of_lt (Nat.lt_succ_of_lt low)
        have out1 : s.heap.objs.size ∉ [(s.heap.push (set0 w)).objs.size, p] := by
          rw [Heap.size_push]
          simp only [List.mem_cons, List.not_mem_nil, or_false, not_or]
          exact ⟨Nat.ne_of_lt (Nat.lt_succ_self _), Nat.ne_of_gt low⟩
        have val : ∀ (i : Nat) (v : Value), items[i]? = some v → ∃ x t, xs[i]? = some x ∧ v = .str x t := fun i v hv => by
          have lt : i < xs.length := by rw [← size]; exact (Array.getElem?_eq_some_iff.mp hv).1
          obtain ⟨t, e⟩ := SS.strs_at hi i v (by rw [Array.getElem?_toList]; exact hv)
          refine ⟨xs[i], t, List.getElem?_eq_getElem lt, ?_⟩
          rw [e, List.getD_eq_getElem?_getD, List.getElem?_eq_getElem lt] <;> rfl
        refine setW_loop ((Walks.list hd3 _ p ne1 items).toS) s.heap.objs.size out1 xs size hb val (items.size - 0) 0 _ (by omega) (Nat.zero_le _) ⟨⟨_, Heap.get?_push_size _ rfl, rfl, rfl⟩, (is1.push _)⟩ ?hA ?hB
        case hA =>
          have at3 : ((s.heap.push (set0 w)).push { cls := .type "list_iterator", data := .fields #[.ref p, .int 0 0] }).get? s.heap.objs.size = some (set0 w) := Heap.get?_push_of_some _ at0
          exact ⟨0, Nat.le_refl 0, setW_new at3⟩
        case hB =>
          intro s3 c hm hc hS
          obtain ⟨h3, g3, d3, tk3, os3⟩ := s3
          obtain rfl : g3 = s.gens := hm.gens
          obtain rfl : d3 = s.drawn := hm.drawn
          obtain rfl : os3 = s.os := hm.os
          show wpAny _ _ _ _ _ _
          refine wpAny_pure ?_
          show wpAny _ _ (ret Value.none) _ _ _
          rw [size] at hc
          refine wpAny_pure ⟨rfl, h3, tk3, c, rfl, hS, hc, fun b o e => ?_⟩
          have lt : b < s.heap.objs.size := Heap.lt_size e
          have ne2 : b ≠ (s.heap.push (set0 w)).objs.size := by rw [Heap.size_push]; exact Nat.ne_of_lt (Nat.lt_succ_of_lt lt)
          exact hm.heap b o (by simp only [List.mem_cons, List.not_mem_nil, or_false, not_or]; exact ⟨Nat.ne_of_lt lt, ne2⟩) (Heap.get?_push_of_some _ (Heap.get?_push_of_some _ e))
      · rcases r2 with e | fl
        · exact hr2
        · rcases fl with _ | _ | _ | v
          · exact (show False from hr2).elim
          · exact (show False from hr2).elim
          · exact (show False from hr2).elim
          · obtain ⟨rfl, h3, tk3, c, rfl, hS, hc, keep⟩ := hr2
            repeat (any_goals (first | assumption | wp_step))
            exact k _ _ _ hS hc keep
set_option maxHeartbeats 3200000 in
theorem call_set_tuple {p : Addr} {items : Array Value} (xs : List Str) {Q : Value → Shared → Prop} (hh : A.handled = none) (hp : s.heap.IsTuple p items) (hi : StrsAre items.toList xs) (hb : xs.length + 1 < scanBound)
    (k : ∀ (h2 : Heap) (tk c : Nat), SetW w h2 s.heap.objs.size xs c → c ≤ xs.length → (∀ b o, s.heap.get? b = some o → h2.get? b = some o) → Q (.ref s.heap.objs.size) { s with heap := h2, toks := tk }) :
    wpAny (model P w) A (call (.type "set") [.ref p]) Q E s := by
  have size : items.size = xs.length := by rw [← StrsAre.len_eq hi, Array.length_toList]
  obtain ⟨_, _, q1⟩ := F.called_set.mro
  have q2 := F.called_set.made
  have q3 := F.called_set.sub
  refine wpAny_call (codeAny_of_tree ?_)
  show wpAny _ _ (callAny (.type "set") _) _ _ _
  refine wpAny_pure ⟨Code.quiet_builtin _ (by decide +kernel), codeAny_builtin F.entry_type_call ?_⟩
  rw [Around.under_plain (weight_type_call_type "set" [.ref p] []) rfl]
  have q4 := F.called_set.notType
  have q5 := F.called_set.canCreate
  have q6 := F.typeCall_set_1 (.ref p)
  repeat (any_goals (first | assumption | wp_step))
  refine codeAny_mono (code_set_led1 (.ref p) (E := E) (Q₁ := fun v t => v = .ref s.heap.objs.size ∧ t = { s with heap := s.heap.push (set0 w) }) ⟨rfl, rfl⟩) fun r s1 hr => ?_
  rcases r with e | fl
  · exact hr
  · rcases fl with _ | _ | _ | v
    · exact (show False from hr).elim
    · exact (show False from hr).elim
    · exact (show False from hr).elim
    · obtain ⟨rfl, rfl⟩ := hr
      have at0 : (s.heap.push (set0 w)).get? s.heap.objs.size = some (set0 w) := Heap.get?_push_size _ rfl
      have ty0 : Shared.TypeIs { s with heap := s.heap.push (set0 w) } (.ref s.heap.objs.size) "set" := ⟨_, at0, rfl⟩
      have q7 := F.called_set.init.lookup
      have q8 := F.called_set.init.bind (.ref s.heap.objs.size)
      repeat (any_goals (first | assumption | wp_step))
      refine codeAny_mono (codeAny_call_builtin (R := wants (fun v t => v = .none ∧ ∃ h2 tk c, t = { s with heap := h2, toks := tk } ∧ SetW w h2 s.heap.objs.size xs c ∧ c ≤ xs.length ∧ ∀ b o, s.heap.get? b = some o → h2.get? b = some o) E) F.called_set.init.plain F.entry_set_init (check_set_init_1 ty0 ?_)) fun r2 s2 hr2 => ?_
      · obtain ⟨ol, at1, cl1, nl, dl1⟩ := hp
        obtain ⟨ocls, odict, odata, oslots⟩ := ol
        simp only at cl1 dl1
        subst cl1 dl1
        have at2 : (s.heap.push (set0 w)).get? p = some { cls := .type "tuple", dict := odict, data := .seq items nl, slots := oslots } := Heap.get?_push_of_some _ at1
        have q9 := F.sub_tuple_set
        have q10 := F.sub_tuple_frozenset
        have q11 : (Value.type "tuple" == Value.type "dict") = false := by decide
        have is1 : (s.heap.push (set0 w)).IsTuple p items := ⟨_, at2, rfl, nl, rfl⟩
        unfold Builtin.«set.__init__» noKeywords Builtin.Frozenset.updateFrom
        generalize hPI : pyIter = PI
        wp_walk
        subst hPI
        refine wpAny_pyIter_tuple is1 (wpAny_bind (wpAny_runValue ?_))
        have low : p < s.heap.objs.size := Heap.lt_size at1
        have hd3 : A.in1.in1.in1.handled = none := by simp [hh]
        have ne1 : p ≠ (s.heap.push (set0 w)).objs.size := by rw [Heap.size_push]; exact Nat.ne_of_lt (Nat.lt_succ_of_lt low)
        have out1 : s.heap.objs.size ∉ [(s.heap.push (set0 w)).objs.size, p] := by
          rw [Heap.size_push]
          simp only [List.mem_cons, List.not_mem_nil, or_false, not_or]
          exact ⟨Nat.ne_of_lt (Nat.lt_succ_self _), Nat.ne_of_gt low⟩
        have val : ∀ (i : Nat) (v : Value), items[i]? = some v → ∃ x t, xs[i]? = some x ∧ v = .str x t := fun i v hv => by
          have lt : i < xs.length := by rw [← size]; exact (Array.getElem?_eq_some_iff.mp hv).1
          obtain ⟨t, e⟩ := SS.strs_at hi i v (by rw [Array.getElem?_toList]; exact hv)
          refine ⟨xs[i], t, List.getElem?_eq_getElem lt, ?_⟩
          rw [e, List.getD_eq_getElem?_getD, List.getElem?_eq_getElem lt] <;> rfl
        refine setW_loop ((Walks.tuple hd3 _ p ne1 items).toS) s.heap.objs.size out1 xs size hb val (items.size - 0) 0 _ (by omega) (Nat.zero_le _) ⟨⟨_, Heap.get?_push_size _ rfl, rfl, rfl⟩, (is1.push _)⟩ ?hA ?hB
        case hA =>
          have at3 : ((s.heap.push (set0 w)).push { cls := .type "tuple_iterator", data := .fields #[.ref p, .int 0 0] }).get? s.heap.objs.size = some (set0 w) := Heap.get?_push_of_some _ at0
          exact ⟨0, Nat.le_refl 0, setW_new at3⟩
        case hB =>
          intro s3 c hm hc hS
          obtain ⟨h3, g3, d3, tk3, os3⟩ := s3
          obtain rfl : g3 = s.gens := hm.gens
          obtain rfl : d3 = s.drawn := hm.drawn
          obtain rfl : os3 = s.os := hm.os
          show wpAny _ _ _ _ _ _
          refine wpAny_pure ?_
          show wpAny _ _ (ret Value.none) _ _ _
          rw [size] at hc
          refine wpAny_pure ⟨rfl, h3, tk3, c, rfl, hS, hc, fun b o e => ?_⟩
          have lt : b < s.heap.objs.size := Heap.lt_size e
          have ne2 : b ≠ (s.heap.push (set0 w)).objs.size := by rw [Heap.size_push]; exact Nat.ne_of_lt (Nat.lt_succ_of_lt lt)
          exact hm.heap b o (by simp only [List.mem_cons, List.not_mem_nil, or_false, not_or]; exact ⟨Nat.ne_of_lt lt, ne2⟩) (Heap.get?_push_of_some _ (Heap.get?_push_of_some _ e))
      · rcases r2 with e | fl
        · exact hr2
        · rcases fl with _ | _ | _ | v
          · exact (show False from hr2).elim
          · exact (show False from hr2).elim
          · exact (show False from hr2).elim
          · obtain ⟨rfl, h3, tk3, c, rfl, hS, hc, keep⟩ := hr2
            repeat (any_goals (first | assumption | wp_step))
            exact k _ _ _ hS hc keep
end
end Kx

set_option Elab.async false
set_option linter.all false
set_option maxRecDepth 100000
set_option autoImplicit false
/-! La: sorted(..) and len(set(..)) of texts. -/
namespace Kx
open PySem PySem.Spec L2 PyProof.Rows
/-! ### the order of texts -/
def leW (a b : Str) : Bool := !ltCps b.cps.toList a.cps.toList
theorem leW_iff {a b : Str} : leW a b = true ↔ ¬ b.cps.toList < a.cps.toList := by
  unfold leW
  rw [ltCps_eq]
  simp
theorem leW_trans {a b c : Str} (h : leW a b = true) (k : leW b c = true) : leW a c = true := by
  rw [leW_iff] at *
  exact List.not_lt.mpr (List.le_trans (List.not_lt.mp h) (List.not_lt.mp k))
theorem leW_total (a b : Str) : leW a b = true ∨ leW b a = true := by
  rw [leW_iff, leW_iff]
  by_cases h : b.cps.toList < a.cps.toList
  · exact .inr (List.not_lt.mpr (List.le_of_lt h))
  · exact .inl h
theorem leW_anti {a b : Str} (h : leW a b = true) (k : leW b a = true) : a = b := by
  rw [leW_iff] at *
  have e := List.le_antisymm (List.not_lt.mp h) (List.not_lt.mp k)
  cases a
  cases b
  congr 1
  exact Array.toList_inj.mp e
def insW (x : Str) : List Str → List Str
  | [] => [x]
  | y :: r => if leW x y then x :: y :: r else y :: insW x r
def sortW : List Str → List Str
  | [] => []
  | x :: r => insW x (sortW r)
def dedW : List Str → List Str
  | [] => []
  | x :: r => if r.contains x then dedW r else x :: dedW r
theorem insW_perm (x : Str) : ∀ l, (insW x l).Perm (x :: l)
  | [] => .refl _
  | y :: r => by
    unfold insW
    split
    · exact .refl _
    · exact ((insW_perm x r).cons y).trans (.swap _ _ _)
theorem sortW_perm : ∀ l, (sortW l).Perm l
  | [] => .refl _
  | x :: r => (insW_perm x (sortW r)).trans ((sortW_perm r).cons x)
theorem insW_sorted {x : Str} : ∀ {l : List Str}, l.Pairwise (fun a b => leW a b = true) → (insW x l).Pairwise (fun a b => leW a b = true)
  | [], _ => by simp [insW]
  | y :: r, h => by
    obtain ⟨h1, h2⟩ := List.pairwise_cons.mp h
    unfold insW
    split
    · rename_i hx
      refine List.pairwise_cons.mpr ⟨fun z hz => ?_, h⟩
      rcases List.mem_cons.mp hz with e | e
      · rw [e]; exact hx
      · exact leW_trans hx (h1 z e)
    · rename_i hx
      have hyx : leW y x = true := (leW_total x y).resolve_left hx
      refine List.pairwise_cons.mpr ⟨fun z hz => ?_, insW_sorted h2⟩
      rcases List.mem_cons.mp ((insW_perm x r).mem_iff.mp hz) with e | e
      · rw [e]; exact hyx
      · exact h1 z e
theorem sortW_sorted : ∀ l, (sortW l).Pairwise (fun a b => leW a b = true)
  | [] => .nil
  | _ :: r => insW_sorted (sortW_sorted r)
theorem risingS_pw : ∀ {l : List Str} {x : Str}, risingS x l = true → (x :: l).Pairwise (fun a b => leW a b = true)
  | [], _, _ => by simp
  | y :: r, x, h => by
    have h : (leW x y && risingS y r) = true := h
    obtain ⟨h1, h2⟩ := Bool.and_eq_true_iff.mp h
    have ih := risingS_pw h2
    refine List.pairwise_cons.mpr ⟨fun z hz => ?_, ih⟩
    rcases List.mem_cons.mp hz with e | e
    · rw [e]; exact h1
    · exact leW_trans h1 ((List.pairwise_cons.mp ih).1 z e)
theorem sortedS_pw {l : List Str} (h : sortedS l = true) : l.Pairwise (fun a b => leW a b = true) := by
  cases l with
  | nil => exact .nil
  | cons x r => exact risingS_pw h
theorem sortW_uniq {l ys : List Str} (hp : ys.Perm l) (hs : sortedS ys = true) : ys = sortW l :=
  List.Perm.eq_of_pairwise (fun a b _ _ h k => leW_anti h k) (sortedS_pw hs) (sortW_sorted l) (hp.trans (sortW_perm l).symm)
theorem dedW_mem {x : Str} : ∀ {l : List Str}, x ∈ dedW l ↔ x ∈ l
  | [] => Iff.rfl
  | y :: r => by
    unfold dedW
    split
    · rename_i h
      rw [dedW_mem, List.mem_cons]
      exact ⟨.inr, fun q => q.elim (fun e => e ▸ (by simpa using h)) id⟩
    · rw [List.mem_cons, List.mem_cons, dedW_mem]
theorem dedW_nodup : ∀ (l : List Str), (dedW l).Nodup
  | [] => .nil
  | y :: r => by
    unfold dedW
    split
    · exact dedW_nodup r
    · rename_i h
      exact List.nodup_cons.mpr ⟨fun q => h (by simpa using dedW_mem.mp q), dedW_nodup r⟩
theorem dedW_perm {l ys : List Str} (nd : ys.Nodup) (h : ∀ x, x ∈ l ↔ x ∈ ys) : ys.Perm (dedW l) := by
  rw [List.perm_iff_count]
  intro x
  rw [nd.count, (dedW_nodup l).count]
  simp only [dedW_mem, h]
theorem dedW_len (l : List Str) : (dedW l).length ≤ l.length := by
  induction l with
  | nil => exact Nat.le_refl _
  | cons x r ih =>
    unfold dedW
    split
    · exact Nat.le_succ_of_le ih
    · exact Nat.succ_le_succ ih
end Kx

set_option Elab.async false
set_option linter.all false
set_option maxRecDepth 100000
set_option autoImplicit false
/-! Lb: the rules for sorted(..), sorted(set(..)), len(set(..)). -/
namespace Kx
open PySem PySem.Spec L2 PyProof.Rows
section
variable {P : Program} {w : World} {A : Around} {E : Value → Shared → Prop} {s : Shared}
/-- sorted(x), what x holds gathered: texts -/
theorem sorted_any {x : Value} {Q : Value → Shared → Prop} {C : List Value → Shared → Prop} (hcol : wpAny (model P w) A.in1 (collect x) C E s)
    (hC : ∀ vs s1, C vs s1 → ∃ ss, StrsAre vs ss ∧ vs.length ≤ sizeLine ∧ ∀ h2 p out c ys, (∀ b o, s1.heap.get? b = some o → h2.get? b = some o) → s1.heap.objs.size ≤ p → h2.get? p = some (seqObj "list" out c) →
      StrsAre out.toList ys → ys.Perm ss → sortedS ys = true → Q (.ref p) { s1 with heap := h2 }) : wpAny (model P w) A (call (.builtin "sorted") [x]) Q E s := by
  refine Calls.call_function_entry kind_sorted plain_sorted entry_sorted (args_sorted1 _) ?_
  unfold Builtin.«sorted»
  refine wpAny_bind (m := checkCount "sorted" 1 1 _) (wpAny_pure ?_)
  refine wpAny_bind (wpAny_mono hcol (fun vs s1 hc => ?_) fun _ _ z => z)
  obtain ⟨ss, hS, hL, fin⟩ := hC vs s1 hc
  refine wpAny_bind (wpAny_newList ?_ hL)
  have at1 : (s1.heap.push (seqObj "list" vs.toArray 0)).get? s1.heap.objs.size = some (seqObj "list" vs.toArray 0) := Heap.get?_push_size _ rfl
  refine wpAny_bind (wpAny_holding (wpAny_call_entry slot_list_sort ⟨_, at1, rfl⟩ entry_list_sort (list_sort_treeKAny strKind_oneLt at1 hS.keysOf (fun _ _ _ e => keyKind_strs (by rw [← e]; exact hS)) hL fun st hp hs => ⟨_, rfl, ?_⟩) (args_list_sort _)))
  obtain ⟨ys, a1, a2, a3⟩ := sorted_out_str hS hp hs
  obtain ⟨c, at2⟩ := sortedHeap_at (vs := vs) (out := (arrOf st).map (·.2)) at1
  refine wpAny_pure ⟨_, rfl, fin _ s1.heap.objs.size _ c ys (fun b u e => ?_) (Nat.le_refl _) at2 a1 a2 a3⟩
  have lt := Heap.lt_size e
  show (sortedHeap (s1.heap.push (seqObj "list" vs.toArray 0)) s1.heap.objs.size vs _).get? b = some u
  rw [sortedHeap_old (Nat.ne_of_lt lt) (by rw [size_push']; exact Nat.lt_succ_of_lt lt)]
  exact Heap.get?_push_of_some _ e
theorem strs_of_words : ∀ (l : List Value), (∀ v ∈ l, ∃ x tk, v = Value.str x tk) → StrsAre l (l.map fun v => wordOf (0, v))
  | [], _ => .nil
  | v :: l, h => by
    obtain ⟨x, tk, rfl⟩ := h v List.mem_cons_self
    exact .cons x tk (strs_of_words l fun u hu => h u (List.mem_cons_of_mem _ hu))
end
section
variable {X : Cx} {a : Expr} {ta : TE} {p p2 q pos : Pos}
theorem vals_strs : ∀ {ys : List Str} {us : List Value}, StrsAre us ys → Vals (ys.map V.str) us
  | _, _, .nil => .nil
  | _, _, .cons y t r => .cons ⟨t, rfl⟩ (vals_strs r)
def tSetW (K : PySem.W.Frag) (ta : TE) (out : List Str → Hp → VK → Prop) : TE := fun σ H Q => ta σ H fun x H1 => ∃ l, ∃ xs : List Str, x = .ref l ∧ (SqL K H1 l (xs.map V.str) ∨ SqT K H1 l (xs.map V.str)) ∧ xs.length < 1000 ∧ out xs H1 Q
def oSorted : List Str → Hp → VK → Prop := fun xs H Q => ∀ p, H p = none → Q (.ref p) (upd H p (.lst ((sortW (dedW xs)).map V.str)))
def oLen : List Str → Hp → VK → Prop := fun xs H Q => Q (.int (dedW xs).length) H
/-- set(e) of texts, then one built-in function -/
theorem pe_fset {out : List Str → Hp → VK → Prop} {fn : Str} {id : String} (hc : X.calm = true) (hg : Gl X fn) (hm : X.mg fn = none) (hv : bootBuiltins fn = some (.builtin id)) (hfn : fn ≠ "__name__") (hfd : (fn == ("__debug__" : Str)) = false) (hg2 : Gl X "set") (hm2 : X.mg "set" = none) (ha : PE X a ta)
    (use : ∀ (pins : List (Addr × Obj)) (s : Shared) (σ : L2.St) (H : Hp) (Q : VK) (r : Addr) (xs : List Str) (c : Nat), Inv X pins σ H s → SetW X.w s.heap r xs c → c ≤ xs.length → xs.length < 1000 → out xs H Q → wpAny (model X.prog X.w) X.A (call (.builtin id) [.ref r]) (EP X pins σ Q) X.xe s)
    (na : starEach [a] X.env = (false, eval a X.env) :: starEach [] X.env := by rfl) : PE X (.Call (.Name fn p) [.Call (.Name "set" p2) [a] [] q] [] pos) (tSetW X.K ta out) := by
  refine ⟨fun pins s σ H Q I h => ?_⟩
  refine Call_ (ld_blt I hg hm hv ?_ hfn hfd)
  refine PyProof.Rows.callWith_builtin1 (PyProof.Rows.args_cons ?_ rfl) rfl rfl
  refine Call_ (ld_blt I hg2 hm2 boot_set ?_)
  refine PyProof.Rows.callWith_type1 (PyProof.Rows.args_cons (thn (ha.run pins s σ H _ I h) fun v s1 ⟨x, H1, I1, r1, q1⟩ => PyProof.Rows.args_nil ?_) na) na rfl
  obtain ⟨l, xs, rfl, hq, h1, q1⟩ := q1
  cases r1
  have fin : ∀ (h' : Heap) (tk c : Nat), SetW X.w h' s1.heap.objs.size xs c → c ≤ xs.length → (∀ b o, s1.heap.get? b = some o → h'.get? b = some o) →
      wpAny (model X.prog X.w) X.A (spliced (backTo pos (starEach [] X.env))) (fun vs s₂ => wpAny (model X.prog X.w) X.A (call (.builtin id) (Value.ref s1.heap.objs.size :: vs)) (EP X pins σ Q) X.xe s₂) X.xe { s1 with heap := h', toks := tk } := fun h' tk c hS hcl hk =>
    PyProof.Rows.args_nil (use pins _ σ H1 Q _ xs c (I1.kept hk) hS hcl h1 q1)
  have few : xs.length + 1 < scanBound := by unfold scanBound; omega
  rcases hq with hq | hq
  · obtain ⟨its, r, pl, _⟩ := I1.list hq
    exact call_set_list xs (I1.ok.hd hc) pl.isList (by simpa using strsAre_of r) few fin
  · obtain ⟨its, r, pl, _⟩ := I1.tuple hq
    exact call_set_tuple xs (I1.ok.hd hc) pl (by simpa using strsAre_of r) few fin
theorem SetW.count {w : World} {h : Heap} {a : Addr} {l : List Str} {n : Nat} (R : SetW w h a l n) : n = (dedW l).length := by
  obtain ⟨ob, rows, ep, tb, _, _, _, _, nd, me, _, _, hn, _⟩ := R
  rw [← (dedW_perm nd me).length_eq, List.length_map, Array.length_toList, hn]
theorem use_len {pins : List (Addr × Obj)} {s : Shared} {σ : L2.St} {H : Hp} {Q : VK} {r : Addr} {xs : List Str} {c : Nat} (I : Inv X pins σ H s) (R : SetW X.w s.heap r xs c) (hcl : c ≤ xs.length) (hx : xs.length < 1000) (hq : oLen xs H Q) :
    wpAny (model X.prog X.w) X.A (call (.builtin "len") [.ref r]) (EP X pins σ Q) X.xe s := by
  have hcnt := R.count
  obtain ⟨ob, rows, ep, tb, ho, hex, hd, _, _, _, _, hf, hn, _⟩ := R
  exact call_len_set ho hex hd hf (by rw [hn]; omega) ⟨.int (dedW xs).length, H, I.tok _, ⟨_, by rw [hn, hcnt]⟩, hq⟩
theorem use_sorted {pins : List (Addr × Obj)} {s : Shared} {σ : L2.St} {H : Hp} {Q : VK} {r : Addr} {xs : List Str} {c : Nat} (hcm : X.calm = true) (I : Inv X pins σ H s) (R : SetW X.w s.heap r xs c) (hcl : c ≤ xs.length) (hx : xs.length < 1000) (hq : oSorted xs H Q) :
    wpAny (model X.prog X.w) X.A (call (.builtin "sorted") [.ref r]) (EP X pins σ Q) X.xe s := by
  obtain ⟨ob, rows, ep, tb, ho, hex, hd, g, nd, me, hb, hf, hn, hr, hl⟩ := R
  have hz : (1000 : Nat) ≤ sizeLine := by rw [sizeLine_eq]; omega
  refine sorted_any (collect_set (A := X.A.in1) (by have := I.ok.hd hcm; simpa using this) ⟨ob, ho, hex.1, hd⟩ hf hb hr hl (Q := fun vs s' => (∀ b o, s.heap.get? b = some o → s'.heap.get? b = some o) ∧ s.heap.objs.size ≤ s'.heap.objs.size ∧ s'.gens = s.gens ∧ s'.os = s.os ∧ vs.Perm (rows.toList.map (·.2)))
    fun s' out k1 k2 k3 k4 k5 => ⟨k1, k2, k3, k4, k5⟩) fun vs s1 ⟨k1, k2, k3, k4, k5⟩ => ?_
  have hS : StrsAre vs (vs.map fun v => wordOf (0, v)) := strs_of_words vs fun v hv => by
    obtain ⟨e, he, z⟩ := List.mem_map.mp (k5.mem_iff.mp hv)
    obtain ⟨x, tk, h1, _⟩ := g e he
    exact ⟨x, tk, by rw [← z]; exact h1⟩
  have pk : (vs.map fun v => wordOf (0, v)).Perm (rows.toList.map wordOf) := by
    have z := k5.map fun v => wordOf (0, v)
    rw [List.map_map] at z
    exact z
  have hlen : vs.length = c := by rw [k5.length_eq, List.length_map, Array.length_toList, hn]
  refine ⟨_, hS, by omega, fun h2 pp o2 c2 ys kk hp at2 sy py sy2 => ?_⟩
  have e1 : ys = sortW (dedW xs) := sortW_uniq ((py.trans pk).trans (dedW_perm nd me)) sy2
  subst e1
  have hn2 : H pp = none := I.hok.fresh (Nat.le_trans k2 hp)
  have hl2 : ((sortW (dedW xs)).map V.str).length ≤ sizeLine := by
    rw [List.length_map, (sortW_perm _).length_eq]
    have := dedW_len xs
    omega
  refine ⟨.ref pp, upd H pp (.lst ((sortW (dedW xs)).map V.str)), I.call' (ch := []) k4 (Un.laid (fun b u e => kk b u (k1 b u e)) (Nat.le_trans k2 hp) hn2) (I.hok.laid (fun b u e => kk b u (k1 b u e)) (Nat.le_trans k2 hp) ⟨hl2, o2.toList, c2, vals_strs sy, by simpa using at2⟩) (by show AllBare s1.gens; rw [k3]; exact I.bare) (fun _ z => nomatch z), rfl, hq pp hn2⟩
/-- sorted(e) of a list, a tuple of texts -/
def rSortW (K : PySem.W.Frag) : List V → Hp → VK → Prop := fun vs H Q => ∃ a, ∃ xs : List Str, vs = [.ref a] ∧ (SqL K H a (xs.map V.str) ∨ SqT K H a (xs.map V.str)) ∧ ∀ p, H p = none → Q (.ref p) (upd H p (.lst ((sortW xs).map V.str)))
theorem cr_sortW : CallR X (.builtin "sorted") (rSortW X.K) := by
  intro pins s σ H vs us Q I rv h
  obtain ⟨a, xs, rfl, hs, q⟩ := h
  rw [Vals.ref1 rv]
  have fin : ∀ (its : List Value), Vals (xs.map V.str) its → its.length ≤ sizeLine → wpAny (model X.prog X.w) X.A.in1 (collect (.ref a)) (fun vs s1 => vs = its ∧ ∃ h1, s1 = { s with heap := h1 } ∧ (∀ b o, s.heap.get? b = some o → h1.get? b = some o)) X.xe s → 
      wpAny (model X.prog X.w) X.A (call (.builtin "sorted") [.ref a]) (EP X pins σ Q) X.xe s := fun its r hz hcol => by
    refine sorted_any hcol fun vs s1 ⟨e1, h1, e2, k1⟩ => ?_
    subst e1 e2
    refine ⟨xs, by simpa using strsAre_of r, hz, fun h2 pp o2 c2 ys kk hp at2 sy py sy2 => ?_⟩
    have e1 : ys = sortW xs := sortW_uniq py sy2
    subst e1
    have n1 : s.heap.get? pp = none := by
      cases q1 : s.heap.get? pp with
      | none => rfl
      | some u => exact absurd (Heap.lt_size (k1 pp u q1)) (Nat.not_lt.mpr hp)
    have n2 : H pp = none := (I.hok.kept k1).fresh hp
    have hl2 : ((sortW xs).map V.str).length ≤ sizeLine := by
      rw [List.length_map, (sortW_perm _).length_eq, ← List.length_map (f := V.str), r.length]
      exact hz
    exact ⟨.ref pp, upd H pp (.lst ((sortW xs).map V.str)), I.laidN (t' := s.toks) (fun b u e => kk b u (k1 b u e)) n1 n2 ⟨hl2, o2.toList, c2, vals_strs sy, by simpa using at2⟩, rfl, q pp n2⟩
  rcases hs with hs | hs
  · obtain ⟨its, r, pl, hz⟩ := I.list hs
    obtain ⟨o, ho, hc, n, hd⟩ := pl.isList
    have hz' : its.length ≤ sizeLine := by rw [← r.length]; exact hz
    exact fin its r hz' (wpAny_collect_seq a (.inl rfl) ho hc hd (fun h' k => ⟨by simp, h', rfl, k⟩) (by simpa using hz'))
  · obtain ⟨its, r, pl, hz⟩ := I.tuple hs
    obtain ⟨o, ho, hc, n, hd⟩ := pl
    have hz' : its.length ≤ sizeLine := by rw [← r.length]; exact hz
    exact fin its r hz' (wpAny_collect_seq a (.inr rfl) ho hc hd (fun h' k => ⟨by simp, h', rfl, k⟩) (by simpa using hz'))
end
end Kx

set_option Elab.async false
set_option linter.all false
set_option maxRecDepth 100000
set_option autoImplicit false
/-! Lc: sorted and sets as mirrors; lists that grow and shrink; lists joined into a cell. -/
namespace Kx
open PySem PySem.Spec L2 PySem.W PySem.Calls
section
variable {c : Ctx}
theorem strsD_ok : ∀ {ds : List D} {vs : List V} {xs : List Str}, strsD ds = some xs → DVs c ds vs → vs = xs.map V.str
  | [], vs, xs, h, d => by
    simp only [strsD, Option.some.injEq] at h
    subst h
    exact d
  | d :: ds, vs, xs, h, ⟨v, r, e, hv, hr⟩ => by
    cases d <;> simp only [strsD, reduceCtorEq] at h
    rename_i x
    cases q : strsD ds with
    | none => rw [q] at h; cases h
    | some ys =>
      rw [q] at h
      simp only [Option.map_some, Option.some.injEq] at h
      subst h e
      rw [show v = V.str x from hv, strsD_ok q hr]
      rfl
end
def wordsOf (S : Store) (d : D) : Option (List Str) := (seqOf S d).bind strsD
def sortSetD : OP1 := fun d S => match wordsOf S d with
  | some xs => if xs.length < 1000 then some (.lst ((sortW (dedW xs)).map .str)) else none
  | none => none
def lenSetD : OP1 := fun d S => match wordsOf S d with
  | some xs => if xs.length < 1000 then some (.int (dedW xs).length) else none
  | none => none
def sortD : OPN := fun ds S => match ds with
  | [d] => match wordsOf S d with
    | some xs => some (.lst ((sortW xs).map .str))
    | none => none
  | _ => none
section
variable {K : PySem.W.Frag} {mg : Str → Option Value} {r : Rg} {S : Store} {H : Hp}
theorem wordsOf_ok {d : D} {x : V} {xs : List Str} (s : Sim K mg r S H) (h : wordsOf S d = some xs) (dx : DV (cx K mg r S H) d x) : ∃ a, x = .ref a ∧ (SqL K H a (xs.map V.str) ∨ SqT K H a (xs.map V.str)) := by
  unfold wordsOf at h
  cases q : seqOf S d with
  | none => rw [q] at h; cases h
  | some ds =>
    rw [q] at h
    obtain ⟨a, vs, ea, hs, hd⟩ := seqOf_ok s dx q
    have e := strsD_ok h hd
    subst e
    exact ⟨a, ea, hs⟩
end
section
variable {N : Nm} {X : Cx} {W : WX} {k : Nat} {a b o : Expr} {es : List Expr} {ma mb mo : ME} {mA : MA} {pos p p2 q apos : Pos}
theorem bt_sorted : bootBuiltins "sorted" = some (.builtin "sorted") := by decide +kernel
theorem q_sortSet (C : Cn N X W k) (ha : JE X W a ma) (hc : X.calm = true := by rfl) (h1 : N.frs.contains "sorted" = true := by rfl) (h2 : N.frs.contains "set" = true := by rfl) (hg : Gl X "sorted" := by rfl) (hg2 : Gl X "set" := by rfl)
    (na : starEach [a] X.env = (false, eval a X.env) :: starEach [] X.env := by rfl) : JE X W (.Call (.Name "sorted" p) [.Call (.Name "set" p2) [a] [] q] [] pos) (e1 sortSetD ma) := by
  refine PEw (pe_fset hc hg (C.tp.fr _ (mem_of h1)) bt_sorted (by decide) (by decide) hg2 (C.tp.fr _ (mem_of h2)) ha (fun pins s σ H Q r xs c I R hcl hx hq => use_sorted hc I R hcl hx hq) na) fun s H Q ⟨r, G, S, sim, env, g⟩ => ?_
  refine ⟨r, G, S, sim, env, (gE g).imp fun x H1 ⟨r1, S1, d, e1, s1, dx, g1⟩ => ?_⟩
  obtain ⟨z, hz, hw⟩ := wants_of g1
  unfold sortSetD at hz
  split at hz
  · rename_i xs hxs
    split at hz
    · rename_i hl
      cases hz
      obtain ⟨l, ea, hs⟩ := wordsOf_ok s1 hxs dx
      exact ⟨l, xs, ea, hs, hl, fun p hp => hw.newL s1 dv_strs hp⟩
    · cases hz
  · cases hz
theorem q_lenSet (C : Cn N X W k) (ha : JE X W a ma) (hc : X.calm = true := by rfl) (h1 : N.frs.contains "len" = true := by rfl) (h2 : N.frs.contains "set" = true := by rfl) (hg : Gl X "len" := by rfl) (hg2 : Gl X "set" := by rfl)
    (na : starEach [a] X.env = (false, eval a X.env) :: starEach [] X.env := by rfl) : JE X W (.Call (.Name "len" p) [.Call (.Name "set" p2) [a] [] q] [] pos) (e1 lenSetD ma) := by
  refine PEw (pe_fset hc hg (C.tp.fr _ (mem_of h1)) bt_len (by decide) (by decide) hg2 (C.tp.fr _ (mem_of h2)) ha (fun pins s σ H Q r xs c I R hcl hx hq => use_len I R hcl hx hq) na) fun s H Q ⟨r, G, S, sim, env, g⟩ => ?_
  refine ⟨r, G, S, sim, env, (gE g).imp fun x H1 ⟨r1, S1, d, e1, s1, dx, g1⟩ => ?_⟩
  obtain ⟨z, hz, hw⟩ := wants_of g1
  unfold lenSetD at hz
  split at hz
  · rename_i xs hxs
    split at hz
    · rename_i hl
      cases hz
      obtain ⟨l, ea, hs⟩ := wordsOf_ok s1 hxs dx
      exact ⟨l, xs, ea, hs, hl, hw.at s1 rfl⟩
    · cases hz
  · cases hz
theorem c_sorted : CallR X (.builtin "sorted") (rdN X.K X.mg sortD) := by
  intro pins s σ H xs us Q I rv ⟨r, S, ds, z, sim, dx, hz, hw⟩
  unfold sortD at hz
  split at hz
  · rename_i d
    split at hz
    · rename_i ws hws
      cases hz
      obtain ⟨v, t, ev, dv, et⟩ := dx
      cases (show t = [] from et)
      subst ev
      obtain ⟨l, ea, hs⟩ := wordsOf_ok sim hws dv
      subst ea
      exact cr_sortW pins s σ H _ us Q I rv ⟨l, ws, rfl, hs, fun p hp => hw.newL sim dv_strs hp⟩
    · cases hz
  · cases hz
end
/-! ### lists that grow and shrink -/
def cellL (d : D) (S : Store) : Option (Nat × List D) := match d with
  | .loc n => match S[n]? with
    | some (.lst ds) => some (n, ds)
    | _ => none
  | _ => none
abbrev MUT := Nat → List D → List D → Store → Option (D × Store)
def eMut (f : MUT) (mo : ME) (mA : MA) : ME := fun G S => (mo G S).bind fun d S1 => if (cellL d S1).isSome then (mA G S1).bind fun es S2 => match cellL d S2 with
  | some (n, ds) => match f n ds es S2 with
    | some z => .ok z.1 z.2
    | none => .err
  | none => .err else .err
def appM : MUT := fun n ds es S => match es with
  | [y] => if ds.length < sizeLine then some (.non, S.set n (.lst (ds ++ [y]))) else none
  | _ => none
def popM : MUT := fun n ds es S => match es with
  | [] => match ds[ds.length - 1]? with
    | some y => some (y, S.set n (.lst ds.dropLast))
    | none => none
  | _ => none
def popAtM : MUT := fun n ds es S => match es with
  | [.int i] => if -(2 ^ 63) ≤ i ∧ i < 2 ^ 63 then match seqIndex? i ds.length with
    | some k => match ds[k]? with
      | some y => some (y, S.set n (.lst (ds.eraseIdx k)))
      | none => none
    | none => none else none
  | _ => none
section
variable {K : PySem.W.Frag} {mg : Str → Option Value} {r : Rg} {S : Store} {H : Hp}
theorem cellL_ok {d : D} {x : V} {n : Nat} {ds : List D} (s : Sim K mg r S H) (dx : DV (cx K mg r S H) d x) (h : cellL d S = some (n, ds)) :
    ∃ a vs, x = .ref a ∧ S[n]? = some (.lst ds) ∧ r.as[n]? = some a ∧ H a = some (.lst vs) ∧ DVs (cx K mg r S H) ds vs := by
  unfold cellL at h
  split at h
  · rename_i m
    split at h
    · rename_i es hS
      obtain ⟨rfl, rfl⟩ := Prod.mk.inj (Option.some.inj h)
      obtain ⟨a, ea, ha⟩ := dx
      obtain ⟨vs, h1, h2⟩ := s.cell m _ a hS ha
      exact ⟨a, vs, ea, hS, ha, h1, h2⟩
    · cases h
  · cases h
theorem DVs.eraseIdx {c : Ctx} : ∀ {ds : List D} {vs : List V} (k : Nat), DVs c ds vs → DVs c (ds.eraseIdx k) (vs.eraseIdx k)
  | [], vs, k, h => by cases h; simp [DVs]
  | _ :: _, vs, 0, ⟨v, t, e, h1, h2⟩ => by subst e; exact h2
  | _ :: _, vs, k + 1, ⟨v, t, e, h1, h2⟩ => by subst e; exact ⟨v, _, rfl, h1, DVs.eraseIdx k h2⟩
theorem DVs.dropLast {c : Ctx} {ds : List D} {vs : List V} (h : DVs c ds vs) : DVs c ds.dropLast vs.dropLast := by
  rw [List.dropLast_eq_take, List.dropLast_eq_take, ← DVs.length h]
  exact DVs.take _ h
end
/-- what a method of a list promises -/
def MutOk (K : PySem.W.Frag) (mg : Str → Option Value) (f : MUT) (rl : V → List V → Hp → VK → Prop) : Prop :=
  ∀ (r : Rg) (S : Store) (H : Hp) (n : Nat) (a : Addr) (ds es : List D) (vs us : List V) (z : D × Store) (Q : VK), Sim K mg r S H → S[n]? = some (.lst ds) → r.as[n]? = some a → H a = some (.lst vs) → DVs (cx K mg r S H) ds vs → DVs (cx K mg r S H) es us → f n ds es S = some z →
    (∀ H' v, Ext r S H r z.2 H' → Sim K mg r z.2 H' → DV (cx K mg r z.2 H') z.1 v → Q v H') → rl (.ref a) us H Q
section
variable {K : PySem.W.Frag} {mg : Str → Option Value}
theorem setL {r : Rg} {S : Store} {H : Hp} {n : Nat} {a : Addr} {ds es : List D} {us : List V} (s : Sim K mg r S H) (hS : S[n]? = some (.lst ds)) (ha : r.as[n]? = some a) (he : DVs (cx K mg r S H) es us) : Sim K mg r (S.set n (.lst es)) (upd H a (.lst us)) ∧ Ext r S H r (S.set n (.lst es)) (upd H a (.lst us)) :=
  s.write (o := .lst us) (c' := .lst es) hS ha rfl rfl fun S1 H1 e1 e2 ex => by
    subst e1 e2
    exact ⟨us, upd_same, DVs.ext ex he⟩
theorem app_ok : MutOk K mg appM rAppend := fun r S H n a ds es vs us z Q s hS ha hH hd he hz hq => by
  unfold appM at hz
  split at hz
  · rename_i y
    split at hz
    · rename_i hl
      cases hz
      obtain ⟨v, t, ev, hv, et⟩ := he
      cases (show t = [] from et)
      subst ev
      obtain ⟨s1, x1⟩ := setL s hS ha (DVs.append hd (DVs.cons hv DVs.nil))
      exact ⟨a, vs, v, rfl, rfl, hH, by rw [← DVs.length hd]; exact hl, hq _ _ x1 s1 rfl⟩
    · cases hz
  · cases hz
theorem pop_ok : MutOk K mg popM rPop := fun r S H n a ds es vs us z Q s hS ha hH hd he hz hq => by
  unfold popM at hz
  split at hz
  · split at hz
    · rename_i y hy
      cases hz
      cases (show us = [] from he)
      obtain ⟨v, h1, h2⟩ := DVs.get hd hy
      obtain ⟨s1, x1⟩ := setL s hS ha hd.dropLast
      exact ⟨a, vs, v, rfl, rfl, hH, by rw [← DVs.length hd]; exact h1, hq _ _ x1 s1 (h2.ext x1)⟩
    · cases hz
  · cases hz
theorem popAt_ok : MutOk K mg popAtM rPopAt := fun r S H n a ds es vs us z Q s hS ha hH hd he hz hq => by
  unfold popAtM at hz
  split at hz
  · rename_i i
    split at hz
    · rename_i hi
      split at hz
      · rename_i k hk
        split at hz
        · rename_i y hy
          cases hz
          obtain ⟨v, t, ev, hv, et⟩ := he
          cases (show t = [] from et)
          subst ev
          obtain ⟨w, h1, h2⟩ := DVs.get hd hy
          obtain ⟨s1, x1⟩ := setL s hS ha (DVs.eraseIdx k hd)
          exact ⟨a, vs, i, k, w, rfl, by rw [show v = V.int i from hv], hH, hi.1, hi.2, by rw [← DVs.length hd]; exact hk, h1, hq _ _ x1 s1 (h2.ext x1)⟩
        · cases hz
      · cases hz
    · cases hz
  · cases hz
end
section
variable {X : Cx} {W : WX} {e o : Expr} {es : List Expr} {mo : ME} {mA : MA} {apos cpos : Pos} {name : Str} {id : String} {f : MUT} {rl : V → List V → Hp → VK → Prop}
theorem je_mut (ok : MutOk X.K X.mg f rl) (slot : Slot "list" name id) (hty : typeOf (.builtin id) = pure (.type "method_descriptor")) (hm : MtM X id rl) (ho : JE X W o mo) (ha : JA X W (e :: es) mA)
    (hbase : attributeBase o name X.env (eval o X.env) = eval o X.env := by rfl)
    (hfew : ((backTo cpos (starEach (e :: es) X.env)).all (fun x => !x.1) && (backToKw cpos (keywordEach [] X.env)).all (fun x => x.1.isSome) && decide ((e :: es).length + ([] : List Keyword).length + (if ([] : List Keyword).isEmpty then 0 else 1) < 30)) = true := by rfl)
    (hline : (apos.endLine == cpos.line) = true := by rfl) (hs : starEach (e :: es) X.env = (false, eval e X.env) :: starEach es X.env := by rfl) (hplain : (backTo cpos (starEach es X.env)).any (·.1) = false := by rfl) :
    JE X W (.Call (.Attribute o name apos) (e :: es) [] cpos) (eMut f mo mA) :=
  PEw (pe_bm PySem.F.plainAttrs_list slot hty hm ho ha hbase hfew hline hs hplain) fun s H Q ⟨r, G, S, sim, env, g⟩ => ⟨r, G, S, sim, env, (gE g).imp fun x H1 ⟨r1, S1, d, e1, s1, dx, g1⟩ => by
    cases hq : (cellL d S1).isSome with
    | false => rw [hq] at g1; exact g1.elim
    | true =>
      rw [hq] at g1
      obtain ⟨⟨n, ds⟩, hn⟩ := Option.isSome_iff_exists.mp hq
      obtain ⟨a, vs, ea, hS, har, hH, hd⟩ := cellL_ok s1 dx hn
      subst ea
      refine ⟨.inl ⟨rfl, vs, SqL.of hH⟩, r1, G, S1, s1, env.ext e1, (gAE g1).imp fun us H2 ⟨r2, S2, es2, e2, s2, du, g2⟩ => ?_⟩
      cases hq2 : cellL d S2 with
      | none => rw [hq2] at g2; exact g2.elim
      | some nd =>
        obtain ⟨m, ds2⟩ := nd
        rw [hq2] at g2
        obtain ⟨a2, vs2, ea2, hS2, har2, hH2, hd2⟩ := cellL_ok s2 (dx.ext e2) hq2
        cases ea2
        have g2 : GoodE X.K X.mg r2 S2 H2 (fun C d H' => W C d s H') Q (match f m ds2 es2 S2 with
          | some z => .ok z.1 z.2
          | none => .err) := g2
        cases hz : f m ds2 es2 S2 with
        | none => rw [hz] at g2; exact g2.elim
        | some z =>
          rw [hz] at g2
          exact ok r2 S2 H2 m a ds2 es2 vs2 us z Q s2 hS2 har2 hH2 hd2 du hz fun H' v x1 s3 dv => g2 r2 H' v x1 s3 dv⟩
theorem je_mut0 (ok : MutOk X.K X.mg f rl) (slot : Slot "list" name id) (hty : typeOf (.builtin id) = pure (.type "method_descriptor")) (hm : MtM X id rl) (ho : JE X W o mo)
    (hbase : attributeBase o name X.env (eval o X.env) = eval o X.env := by rfl) (hline : (apos.endLine == cpos.line) = true := by rfl) :
    JE X W (.Call (.Attribute o name apos) [] [] cpos) (eMut f mo aNil) :=
  PEw (pe_bm0 PySem.F.plainAttrs_list slot hty hm ho hbase hline) fun s H Q ⟨r, G, S, sim, env, g⟩ => ⟨r, G, S, sim, env, (gE g).imp fun x H1 ⟨r1, S1, d, e1, s1, dx, g1⟩ => by
    cases hq : (cellL d S1).isSome with
    | false => rw [hq] at g1; exact g1.elim
    | true =>
      rw [hq] at g1
      obtain ⟨⟨n, ds⟩, hn⟩ := Option.isSome_iff_exists.mp hq
      obtain ⟨a, vs, ea, hS, har, hH, hd⟩ := cellL_ok s1 dx hn
      subst ea
      refine ⟨.inl ⟨rfl, vs, SqL.of hH⟩, ?_⟩
      have g1 : GoodE X.K X.mg r1 S1 H1 (fun C d H' => W C d s H') Q (match cellL d S1 with
        | some (n, ds) => match f n ds [] S1 with
          | some z => .ok z.1 z.2
          | none => .err
        | none => .err) := g1
      rw [hn] at g1
      have g1 : GoodE X.K X.mg r1 S1 H1 (fun C d H' => W C d s H') Q (match f n ds [] S1 with
          | some z => .ok z.1 z.2
          | none => .err) := g1
      cases hz : f n ds [] S1 with
      | none => rw [hz] at g1; exact g1.elim
      | some z =>
        rw [hz] at g1
        exact ok r1 S1 H1 n a ds [] vs [] z Q s1 hS har hH hd rfl hz fun H' v x1 s3 dv => g1 r1 H' v x1 s3 dv⟩
theorem je_append {a : Expr} {ma : ME} (ho : JE X W o mo) (ha : JE X W a ma) (hbase : attributeBase o "append" X.env (eval o X.env) = eval o X.env := by rfl) (hs : starEach [a] X.env = (false, eval a X.env) :: starEach [] X.env := by rfl)
    (hfew : ((backTo cpos (starEach [a] X.env)).all (fun x => !x.1) && (backToKw cpos (keywordEach [] X.env)).all (fun x => x.1.isSome) && decide (([a] : List Expr).length + ([] : List Keyword).length + (if ([] : List Keyword).isEmpty then 0 else 1) < 30)) = true := by rfl) (hline : (apos.endLine == cpos.line) = true := by rfl) :
    JE X W (.Call (.Attribute o "append" apos) [a] [] cpos) (eMut appM mo (aCons ma aNil)) := je_mut app_ok PySem.F.slot_list_append PySem.F.type_list_append mt_append ho (ja_cons ha ja_nil hs) hbase hfew hline hs rfl
theorem je_popAt {a : Expr} {ma : ME} (ho : JE X W o mo) (ha : JE X W a ma) (hbase : attributeBase o "pop" X.env (eval o X.env) = eval o X.env := by rfl) (hs : starEach [a] X.env = (false, eval a X.env) :: starEach [] X.env := by rfl)
    (hfew : ((backTo cpos (starEach [a] X.env)).all (fun x => !x.1) && (backToKw cpos (keywordEach [] X.env)).all (fun x => x.1.isSome) && decide (([a] : List Expr).length + ([] : List Keyword).length + (if ([] : List Keyword).isEmpty then 0 else 1) < 30)) = true := by rfl) (hline : (apos.endLine == cpos.line) = true := by rfl) :
    JE X W (.Call (.Attribute o "pop" apos) [a] [] cpos) (eMut popAtM mo (aCons ma aNil)) := je_mut popAt_ok PySem.F.slot_list_pop PySem.F.type_list_pop mt_popAt ho (ja_cons ha ja_nil hs) hbase hfew hline hs rfl
theorem je_pop (ho : JE X W o mo) (hbase : attributeBase o "pop" X.env (eval o X.env) = eval o X.env := by rfl) (hline : (apos.endLine == cpos.line) = true := by rfl) :
    JE X W (.Call (.Attribute o "pop" apos) [] [] cpos) (eMut popM mo aNil) := je_mut0 pop_ok PySem.F.slot_list_pop PySem.F.type_list_pop mt_pop ho hbase hline
end
/-! ### list + list, with cells; the sum as a cell -/
def plL (S : Store) : D → Option (List D)
  | .lst ds => some ds
  | .loc n => match S[n]? with
    | some (.lst ds) => some ds
    | _ => none
  | _ => none
theorem plL_ok {K : PySem.W.Frag} {mg : Str → Option Value} {r : Rg} {S : Store} {H : Hp} {d : D} {x : V} {ds : List D} (s : Sim K mg r S H) (dx : DV (cx K mg r S H) d x) (h : plL S d = some ds) : ∃ a vs, x = .ref a ∧ H a = some (.lst vs) ∧ DVs (cx K mg r S H) ds vs := by
  cases d <;> simp only [plL, Option.some.injEq, reduceCtorEq] at h
  · subst h
    obtain ⟨a, vs, h1, h2, h3⟩ := dx
    exact ⟨a, vs, h1, h2.1, h3⟩
  · rename_i n
    split at h
    · rename_i es hS
      cases h
      obtain ⟨a, ea, ha⟩ := dx
      obtain ⟨vs, h1, h2⟩ := s.cell n _ a hS ha
      exact ⟨a, vs, ea, h1, h2⟩
    · cases h
def catD : OP2 := fun d e S => match plL S d, plL S e with
  | some ds, some es => if ds.length + es.length ≤ sizeLine then some (.lst (ds ++ es)) else none
  | _, _ => none
def addX : OP2 := fun d e S => match addD d e S with
  | some z => some z
  | none => catD d e S
section
variable {X : Cx} {W : WX} {a b : Expr} {ma mb : ME} {pos : Pos}
theorem o_addX : OpR X (binaryOp .Add) (rd2 X.K X.mg addX) := by
  intro pins s σ H x y v u Q I rx ry ⟨r, S, d, e, z, sim, dx, dy, hz, hw⟩
  unfold addX at hz
  split at hz
  · rename_i z2 hz2
    have e2 := Option.some.inj hz
    subst e2
    exact o_add pins s σ H x y v u Q I rx ry ⟨r, S, d, e, _, sim, dx, dy, hz2, hw⟩
  · unfold catD at hz
    split at hz
    · rename_i ds es h1 h2
      split at hz
      · rename_i hl
        cases hz
        obtain ⟨p, vs, ea, hp, dp⟩ := plL_ok sim dx h1
        obtain ⟨q, us, eb, hq, dq⟩ := plL_ok sim dy h2
        exact op_cat pins s σ H x y v u Q I rx ry ⟨p, q, vs, us, ea, eb, hp, hq, by rw [← DVs.length dp, ← DVs.length dq]; exact hl, fun p hp => hw.newL sim (dp.append dq) hp⟩
      · cases hz
    · cases hz
def eAddC (ma mb : ME) : ME := fun G S => (ma G S).bind fun d S1 => (mb G S1).bind fun e S2 => match plL S2 d, plL S2 e with
  | some ds, some es => if ds.length + es.length ≤ sizeLine then .ok (.loc S2.length) (S2 ++ [.lst (ds ++ es)]) else .err
  | _, _ => .err
theorem je_addC (ha : JE X W a ma) (hb : JE X W b mb) : JE X W (.BinOp a .Add b pos) (eAddC ma mb) :=
  PEw (pe_op op_cat ha hb) fun s H Q ⟨r, G, S, sim, env, g⟩ => ⟨r, G, S, sim, env, (gE g).imp fun x H1 ⟨r1, S1, d, e1, s1, dx, g1⟩ => ⟨r1, G, S1, s1, env.ext e1, (gE g1).imp fun y H2 ⟨r2, S2, e, e2, s2, dy, g2⟩ => by
    split at g2
    · rename_i ds es h1 h2
      split at g2
      · rename_i hl
        obtain ⟨p, vs, ea, hp, dp⟩ := plL_ok s2 (dx.ext e2) h1
        obtain ⟨q, us, eb, hq, dq⟩ := plL_ok s2 dy h2
        refine ⟨p, q, vs, us, ea, eb, hp, hq, by rw [← DVs.length dp, ← DVs.length dq]; exact hl, fun w hw => ?_⟩
        obtain ⟨s3, x3⟩ := s2.newc (o := .lst (vs ++ us)) (c := .lst (ds ++ es)) hw rfl fun r' S' H' er eS eH e => ⟨vs ++ us, by subst eH; exact upd_same, (dp.append dq).ext e⟩
        exact g2 _ _ _ x3 s3 ⟨w, rfl, by show (r2.as ++ [w])[S2.length]? = some w; rw [← s2.len]; simp⟩
      · exact g2.elim
    · exact g2.elim⟩⟩
end
end Kx

set_option Elab.async false
set_option linter.all false
set_option maxRecDepth 100000
set_option autoImplicit false
/-! Ld: dict comprehensions. -/
namespace Kx
open PySem PySem.Spec L2
def dcL (g : MG) (ov : List Nat) (tt : MT) (mk mv : ME) (G : En) : List D → Store → List D → List D → Res (List D × List D)
  | [], S, ks, vs => .ok (ks, vs) S
  | d :: ds, S, ks, vs => match g d (wipeG G ov) with
    | none => .err
    | some G1 => match tt G1 S with
      | .ok true S1 => match mk G1 S1 with
        | .ok y S2 => match mv G1 S2 with
          | .ok z S3 => match kOf y with
            | some k => if ks.length < sizeLine then dcL g ov tt mk mv G ds S3 (dput ks vs k z).1 (dput ks vs k z).2 else .err
            | none => .err
          | _ => .err
        | _ => .err
      | .ok false S1 => dcL g ov tt mk mv G ds S1 ks vs
      | _ => .err
def eDc (mi : MI) (g : MG) (ov : List Nat) (tt : MT) (mk mv : ME) : ME := fun G S => (mi G S).bind fun ds S1 => match dcL g ov tt mk mv G ds S1 [] [] with
  | .ok z S2 => .ok (.dic z.1 z.2) S2
  | _ => .err
section
variable {X : Cx} {W : WX} {kx vx tg iter : Expr} {ifs : List Expr} {scope : Scope} {own : List (Str × Nat)} {pos : Pos} {mi : MI} {g : MG} {is : List Nat} {tt : MT} {mk mv : ME}
theorem dc_read {ov : List Nat} (hi : ∀ i ∈ is, i ∈ ov) {s : L2.St} {H : Hp} {Q : VK} (h : rdE X.K X.mg W (eDc mi g ov tt mk mv) s H Q) :
    tDc (rdI X.K X.mg W mi) (rdG X.K X.mg g is) (rdT X.K X.mg W0 tt) (rdE X.K X.mg W0 mk) (rdE X.K X.mg W0 mv) ov s H Q := by
  obtain ⟨r, G, S, sim, env, gd⟩ := h
  refine ⟨r, G, S, sim, env, ?_⟩
  unfold eDc at gd
  cases hm : mi G S with
  | err => rw [hm] at gd; exact gd
  | exc x ns ds S' => rw [hm] at gd; exact gd
  | ok ds S1 =>
    rw [hm] at gd
    have gd : GoodE X.K X.mg r S H (fun C d H' => W C d s H') Q (match dcL g ov tt mk mv G ds S1 [] [] with
      | .ok z S2 => .ok (.dic z.1 z.2) S2
      | _ => .err) := gd
    intro r1 H1 J e1 s1 it D hD
    obtain ⟨sD, eD⟩ := s1.reserve (o := .dK []) hD
    cases hl : dcL g ov tt mk mv G ds S1 [] [] with
    | err => rw [hl] at gd; exact gd.elim
    | exc x ns ds S' => rw [hl] at gd; exact gd.elim
    | ok out S0 =>
      rw [hl] at gd
      dsimp only at gd
      have DnotZ : D ∉ r1.z := fun hz => by
        obtain ⟨u, q, _⟩ := s1.res D hz
        rw [hD] at q; cases q
      refine ⟨fun i m H2 => ∃ as S2 ks acc kvs, i + m = ds.length ∧ Ex0 r1 S1 H1 ⟨as, D :: r1.z⟩ S2 H2 ∧ (∀ a, a ∈ r1.z → H2 a = H1 a) ∧ Sim X.K X.mg ⟨as, D :: r1.z⟩ S2 H2 ∧ H2 D = some (.dK kvs) ∧ ks = kvs.map (fun p => kD p.1) ∧ DVs (cx X.K X.mg ⟨as, D :: r1.z⟩ S2 H2) acc (kvs.map (·.2)) ∧ EnvR (cx X.K X.mg ⟨as, D :: r1.z⟩ S2 H2) G s ∧
          dcL g ov tt mk mv G (ds.drop i) S2 ks acc = .ok out S0, ⟨ds.length, r1.as, S1, [], [], [], by omega, eD, ?_, sD, upd_same, rfl, DVs.nil, (env.ext e1).ex0 eD, hl⟩, ?_⟩
      · intro a ha
        obtain ⟨u, q, _⟩ := s1.res a ha
        rw [upd_ne (ne_of_none q hD)]
      · rintro i m H2 ⟨as, S2, ks, acc, kvs, hm, ex, zz, s2, hDv, hks, hacc, ev2, hr⟩
        obtain ⟨sr, er⟩ := s2.release
        cases hd : ds[i]? with
        | none =>
          have hlen : ds.length ≤ i := List.getElem?_eq_none_iff.mp hd
          rw [List.drop_eq_nil_of_le hlen] at hr
          unfold dcL at hr
          cases hr
          refine .inl ⟨(it _ _ _ ex s2 i).2 hlen, ?_⟩
          exact gd ⟨as, r1.z⟩ H2 (.ref D) (e1.trans ⟨ex.trans er, rfl, zz⟩) sr ⟨D, kvs, rfl, hDv, fun l => by
            rcases l with ⟨n, c, h1, h2, h3⟩ | l
            · exact s2.zn n c D h2 h1 h3 List.mem_cons_self
            · exact DnotZ l, hks, DVs.ex0 er hacc⟩
        | some d =>
          have hlt : i < ds.length := (List.getElem?_eq_some_iff.mp hd).1
          have hdr : ds.drop i = d :: ds.drop (i + 1) := by
            rw [List.drop_eq_getElem_cons hlt]
            have := (List.getElem?_eq_some_iff.mp hd).2
            rw [this]
          rw [hdr] at hr
          unfold dcL at hr
          obtain ⟨go, yld⟩ := (it _ _ _ ex s2 i).1 d hd
          refine .inr ⟨go, fun H3 => ∃ as S3 ks acc kvs, Ex0 r1 S1 H1 ⟨as, D :: r1.z⟩ S3 H3 ∧ (∀ a, a ∈ r1.z → H3 a = H1 a) ∧ Sim X.K X.mg ⟨as, D :: r1.z⟩ S3 H3 ∧ H3 D = some (.dK kvs) ∧ ks = kvs.map (fun p => kD p.1) ∧ DVs (cx X.K X.mg ⟨as, D :: r1.z⟩ S3 H3) acc (kvs.map (·.2)) ∧ EnvR (cx X.K X.mg ⟨as, D :: r1.z⟩ S3 H3) G s ∧
            dcL g ov tt mk mv G (ds.drop (i + 1)) S3 ks acc = .ok out S0, fun H3 ⟨as3, S3, ks3, acc3, kvs3, q⟩ => ⟨m - 1, by omega, as3, S3, ks3, acc3, kvs3, by omega, q⟩, ?_⟩
          intro x H3 hy
          obtain ⟨r3, e3, s3, dx⟩ := yld x H3 hy
          cases hgd : g d (wipeG G ov) with
          | none => rw [hgd] at hr; cases hr
          | some G1 =>
            rw [hgd] at hr
            dsimp only at hr
            refine ⟨r3, wipeG G ov, S2, d, G1, s3, (ev2.ext e3).wipe _, dx, hgd, fun r4 H4 s4 e4 sm4 ev4 kp => ⟨by rw [kp _ hi, wipe_twice], r4, G1, S2, sm4, ev4, ?_⟩⟩
            cases ht : tt G1 S2 with
            | err => rw [ht] at hr; cases hr
            | exc a1 a2 a3 a4 => rw [ht] at hr; cases hr
            | ok k S5 =>
              rw [ht] at hr
              intro r5 H5 e5 s5
              cases k with
              | false =>
                have hr : dcL g ov tt mk mv G (ds.drop (i + 1)) S5 ks acc = .ok out S0 := hr
                have E : Ext ⟨as, D :: r1.z⟩ S2 H2 r5 S5 H5 := e3.trans (e4.trans e5)
                obtain ⟨as5, z5⟩ := r5
                have ez : z5 = D :: r1.z := E.zeq
                subst ez
                exact ⟨as5, S5, ks, acc, kvs, ex.trans E.toEx0, fun a ha => (E.zs a (List.mem_cons_of_mem _ ha)).trans (zz a ha), s5, (E.zs D List.mem_cons_self).trans hDv, hks, DVs.ext E hacc, ev2.ext E, hr⟩
              | true =>
                have hr : (match mk G1 S5 with
                  | .ok y S2 => match mv G1 S2 with
                    | .ok z S3 => match kOf y with
                      | some k => if ks.length < sizeLine then dcL g ov tt mk mv G (ds.drop (i + 1)) S3 (dput ks acc k z).1 (dput ks acc k z).2 else .err
                      | none => .err
                    | _ => .err
                  | _ => .err) = .ok out S0 := hr
                refine ⟨r5, G1, S5, s5, ev4.ext e5, ?_⟩
                cases hme : mk G1 S5 with
                | err => rw [hme] at hr; cases hr
                | exc a1 a2 a3 a4 => rw [hme] at hr; cases hr
                | ok y S6 =>
                  rw [hme] at hr
                  dsimp only at hr
                  intro r6 H6 v e6 s6 dv
                  refine ⟨r6, G1, S6, s6, (ev4.ext e5).ext e6, ?_⟩
                  cases hmv : mv G1 S6 with
                  | err => rw [hmv] at hr; cases hr
                  | exc a1 a2 a3 a4 => rw [hmv] at hr; cases hr
                  | ok z S7 =>
                    rw [hmv] at hr
                    dsimp only at hr
                    cases hk : kOf y with
                    | none => rw [hk] at hr; cases hr
                    | some kk =>
                      rw [hk] at hr
                      dsimp only at hr
                      by_cases hsz : ks.length < sizeLine
                      · rw [if_pos hsz] at hr
                        intro r7 H7 w e7 s7 dw
                        have E : Ext ⟨as, D :: r1.z⟩ S2 H2 r7 S7 H7 := e3.trans (e4.trans (e5.trans (e6.trans e7)))
                        obtain ⟨as7, z7⟩ := r7
                        have ez : z7 = D :: r1.z := E.zeq
                        subst ez
                        have hD7 : H7 D = some (.dK kvs) := (E.zs D List.mem_cons_self).trans hDv
                        rw [kD_of hk] at dv
                        refine ⟨kvs, kk, DV_kD dv, hD7, by rw [hks, List.length_map] at hsz; exact hsz, ?_⟩
                        obtain ⟨s8, e8⟩ := s7.remake (p := D) (o := .dK (putK kvs kk w)) List.mem_cons_self
                        obtain ⟨p1, p2⟩ := dput_ok (k := kk) (DV.ex0 e8 dw) (DVs.ex0 e8 (DVs.ext E hacc))
                        refine ⟨as7, S7, (dput ks acc kk z).1, (dput ks acc kk z).2, putK kvs kk w, (ex.trans E.toEx0).trans e8, fun a ha => ?_, s8, upd_same, by rw [hks]; exact p1, by rw [hks]; exact p2, (ev2.ext E).ex0 e8, hr⟩
                        have : a ≠ D := fun z => DnotZ (by rw [← z]; exact ha)
                        rw [upd_ne this]
                        exact (E.zs a (List.mem_cons_of_mem _ ha)).trans (zz a ha)
                      · rw [if_neg hsz] at hr
                        cases hr
theorem je_dc (hI : JI X W tg iter mi) (hN : X.N.Nodup) (ok : BlkOk X.N X.env.scope scope own) (hi : ∀ i ∈ is, i ∈ own.map (·.2))
    (hg : ∀ (s : Shared) (H : Hp) (C : Addr) (cl : List (Str × Addr)) (fp : List Addr), JG (X.blk s H scope (compEnvC scope cl C X.env) fp) tg g is)
    (ht : ∀ (s : Shared) (H : Hp) (C : Addr) (cl : List (Str × Addr)) (fp : List Addr), JTs (X.blk s H scope (compEnvC scope cl C X.env) fp) ifs tt)
    (hk : ∀ (s : Shared) (H : Hp) (C : Addr) (cl : List (Str × Addr)) (fp : List Addr), JE (X.blk s H scope (compEnvC scope cl C X.env) fp) W0 kx mk)
    (he : ∀ (s : Shared) (H : Hp) (C : Addr) (cl : List (Str × Addr)) (fp : List Addr), JE (X.blk s H scope (compEnvC scope cl C X.env) fp) W0 vx mv) (hc : X.calm = true := by rfl) (hs : ∀ x, foldedSetIterable iter X.env x = pure x := by intro _; rfl) :
    JE X W (.DictComp kx vx [⟨tg, iter, ifs, 0⟩] scope pos) (eDc mi g (own.map (·.2)) tt mk mv) :=
  PEw (pe_dc (own := own) hc hN hI ok hg ht hk he hs) fun s H Q h => dc_read hi h
end
end Kx

set_option Elab.async false
set_option linter.all false
set_option maxRecDepth 100000
set_option autoImplicit false
/-! Le: a dict's keys gathered: tuple(d), list(d), sorted(d). -/
namespace Kx
open PySem PySem.Spec L2 PyProof.Rows
section
variable {P : Program} {w : World} {A : Around} {E : Value → Shared → Prop} {s : Shared}
theorem tuple_by {x : Value} {T : String} {Q : Value → Shared → Prop} {C : List Value → Shared → Prop} (hT : s.TypeIs x T) (hne : (Value.type T == Value.type "tuple") = false) (hcol : wpAny (model P w) A.in1.in1 (collect x) C E s)
    (hC : ∀ vs s1, C vs s1 → vs.length ≤ sizeLine ∧ Q (.ref s1.heap.objs.size) { s1 with heap := s1.heap.push { cls := .type "tuple", data := .seq vs.toArray } }) : wpAny (model P w) A (call (.type "tuple") [x]) Q E s := by
  have new : codeAny (model P w) A.in1 (.call (.builtin "tuple.__new__") ⟨[.type "tuple", x], []⟩) (wants (fun obj s₁ => s₁.TypeIs obj "tuple" ∧ Q obj s₁) E) s := by
    refine codeAny_of_tree ?_
    show wpAny _ A.in1.in1 (do checkBuiltinCall "tuple.__new__" ⟨[.type "tuple", x], []⟩; again (.builtin "tuple.__new__" ⟨[.type "tuple", x], []⟩)) _ _ s
    refine wpAny_bind (wpAny_of_eq (F.newCall_tuple_1 _) (wpAny_pure ⟨plainId_quiet F.plain_tuple_new _, codeAny_builtin F.entry_tuple_new ?_⟩))
    rw [Around.under_plainId F.plain_tuple_new _]
    have q1 := sub_tuple_self
    have q2 := init_tuple_lookup
    have q3 := madeHere_tuple
    have col : ∀ {R : List Value → Shared → Prop}, (∀ vs s1, C vs s1 → R vs s1) → wpAny (model P w) A.in1.in1 (collect x) R (fun e s' => wants (fun obj s₁ => s₁.TypeIs obj "tuple" ∧ Q obj s₁) E (.error e) s') s := fun h => wpAny_mono hcol h fun _ _ z => z
    wp_walk using wpAny_typeOf hT, col
    intro vs s1 hc
    obtain ⟨hz, hq⟩ := hC vs s1 hc
    show wpAny _ _ (Builtin.Tuple.tupleExact vs.toArray >>= fun v => ret v) _ _ _
    unfold Builtin.Tuple.tupleExact
    refine wpAny_bind (wpAny_newObj_type ?_ (by show vs.toArray.size ≤ sizeLine; simpa using hz))
    refine wpAny_pure ⟨⟨_, Heap.get?_push_size _ rfl, rfl⟩, hq⟩
  refine callType_codes (Q₁ := fun obj s₁ => s₁.TypeIs obj "tuple" ∧ Q obj s₁) F.called_tuple (F.typeCall_tuple_1 _) F.entry_object_init new fun obj s₁ h₁ => ?_
  exact ⟨h₁.1, F.args_object_init_2 obj _, object_init_meets F.called_tuple.init.lookup F.called_tuple.made (by decide) P w A.in1 _ s₁ ⟨h₁.1, rfl, h₁.2⟩⟩
end
section
variable {X : Cx} {pins : List (Addr × Obj)} {σ : L2.St} {H : Hp} {s : Shared} {a : Addr} {kvs : List (Key × V)} {A : Around}
/-- a dict's keys gathered -/
theorem keys_col {R : List Value → Shared → Prop} {E : Value → Shared → Prop} (I : Inv X pins σ H s) (hh : A.handled = none) (hk : H a = some (.dK kvs))
    (h : ∀ h' tk vs, (∀ b o, s.heap.get? b = some o → h'.get? b = some o) → Vals (kvs.map fun kv => kV kv.1) vs → R vs { s with heap := h', toks := tk }) : wpAny (model X.prog X.w) A (collect (.ref a)) R E s := by
  obtain ⟨z, lo, vs, rk, hd⟩ := (show ObjOk X.prog X.w H s.heap a (.dK kvs) from I.hok a _ hk)
  obtain ⟨ep, hat⟩ := hd.dictAt
  have hl : kvs.length = vs.length := Paired.length rk
  refine PySem.W.kdu_collect (PySem.W.kdl_dict (knd := mixKind X.prog X.w) (kvs := vs) (ep := ep) lo) hh hat (by rw [← hl]; exact z) fun h' tk acc keep hacc => h h' tk acc.toList keep ?_
  refine vals_of_at (by have e0 := hacc.1; simp; omega) fun j x w h1 h2 => ?_
  obtain ⟨k, y, hky, hi⟩ := hacc.2 j w (by rw [← Array.getElem?_toList]; exact h2)
  have e1 : (kvs.map (·.1))[j]? = some k := by rw [KV.keys rk, List.getElem?_map, hky] <;> rfl
  have e2 : (kvs.map fun kv => kV kv.1)[j]? = some (kV k) := by
    rw [show (kvs.map fun kv => kV kv.1) = (kvs.map (·.1)).map kV from by rw [List.map_map] <;> rfl, List.getElem?_map, e1] <;> rfl
  rw [e2] at h1
  cases h1
  exact keyIs_rel hi
theorem keys_few (I : Inv X pins σ H s) (hk : H a = some (.dK kvs)) : kvs.length ≤ sizeLine := (show ObjOk X.prog X.w H s.heap a (.dK kvs) from I.hok a _ hk).1
theorem dict_ty (I : Inv X pins σ H s) (hk : H a = some (.dK kvs)) : s.TypeIs (.ref a) "dict" := by
  obtain ⟨z, lo, vs, rk, hd⟩ := (show ObjOk X.prog X.w H s.heap a (.dK kvs) from I.hok a _ hk)
  exact hd.typeIs
end
section
variable {X : Cx}
def rTupK : List V → Hp → VK → Prop := fun xs H Q => ∃ a kvs, xs = [.ref a] ∧ H a = some (.dK kvs) ∧ ∀ p, H p = none → Q (.ref p) (upd H p (.tup (kvs.map fun kv => kV kv.1)))
theorem cr_tupK (hc : X.calm = true) : CallR X (.type "tuple") rTupK := by
  intro pins s σ H xs us Q I rv ⟨a, kvs, ex, hk, q⟩
  subst ex
  rw [Vals.ref1 rv]
  have few := keys_few I hk
  refine tuple_by (dict_ty I hk) (by decide) (keys_col (A := X.A.in1.in1) (R := fun vs s1 => Vals (kvs.map fun kv => kV kv.1) vs ∧ ∃ h' tk, s1 = { s with heap := h', toks := tk } ∧ ∀ b o, s.heap.get? b = some o → h'.get? b = some o) I (by have := I.ok.hd hc; simpa using this) hk fun h' tk vs keep r => ⟨r, h', tk, rfl, keep⟩) fun vs s1 ⟨r, h', tk, e, keep⟩ => ?_
  subst e
  have hl : vs.length ≤ sizeLine := by rw [← r.length, List.length_map]; exact few
  refine ⟨hl, ?_⟩
  have I1 : Inv X pins σ H { s with heap := h', toks := tk } := I.kept keep
  have n1 : H h'.objs.size = none := I1.hok.fresh (Nat.le_refl _)
  exact ⟨.ref h'.objs.size, upd H h'.objs.size (.tup (kvs.map fun kv => kV kv.1)), I1.laid (t' := tk) (fun b o e => Heap.get?_push_of_some _ e) (Nat.le_refl _) (show ObjOk X.prog X.w _ _ _ (.tup (kvs.map fun kv => kV kv.1)) from ⟨by rw [List.length_map]; exact few, vs, r, IsTup.new _ _⟩), rfl, q _ n1⟩
def tupX : OPN := fun xs S => match tupD xs S with
  | some z => some z
  | none => match xs with
    | [d] => (dicOf S d).map fun z => .tup z.1
    | _ => none
def listX : OPN := fun xs S => match listD xs S with
  | some z => some z
  | none => match xs with
    | [d] => (dicOf S d).map fun z => .lst z.1
    | _ => none
theorem dv_keys {c : Ctx} : ∀ {kvs : List (Key × V)}, DVs c (kvs.map fun p => kD p.1) (kvs.map fun kv => kV kv.1)
  | [] => DVs.nil
  | (k, v) :: r => DVs.cons (by cases k <;> rfl) dv_keys
theorem c_tupleX (hc : X.calm = true) : CallR X (.type "tuple") (rdN X.K X.mg tupX) := by
  intro pins s σ H xs us Q I rv ⟨r, S, ds, z, sim, dx, hz, hw⟩
  unfold tupX at hz
  split at hz
  · rename_i z2 hz2
    have e2 := Option.some.inj hz
    subst e2
    exact c_tuple pins s σ H xs us Q I rv ⟨r, S, ds, _, sim, dx, hz2, hw⟩
  · split at hz
    · rename_i d hno
      cases hd : dicOf S d with
      | none => rw [hd] at hz; cases hz
      | some kd =>
        obtain ⟨ks, es⟩ := kd
        rw [hd] at hz
        cases hz
        obtain ⟨v, ev, dv⟩ := dvs1 dx
        subst ev
        obtain ⟨a, kvs, ea, hk, hks, _⟩ := dicOf_ok sim dv hd
        subst ea hks
        exact cr_tupK hc pins s σ H _ us Q I rv ⟨a, kvs, rfl, hk, fun p hp => hw.newT sim dv_keys hp⟩
    · cases hz
theorem c_listX (hc : X.calm = true) : CallR X (.type "list") (rdN X.K X.mg listX) := by
  intro pins s σ H xs us Q I rv ⟨r, S, ds, z, sim, dx, hz, hw⟩
  unfold listX at hz
  split at hz
  · rename_i z2 hz2
    have e2 := Option.some.inj hz
    subst e2
    exact c_list pins s σ H xs us Q I rv ⟨r, S, ds, _, sim, dx, hz2, hw⟩
  · split at hz
    · rename_i d hno
      cases hd : dicOf S d with
      | none => rw [hd] at hz; cases hz
      | some kd =>
        obtain ⟨ks, es⟩ := kd
        rw [hd] at hz
        cases hz
        obtain ⟨v, ev, dv⟩ := dvs1 dx
        subst ev
        obtain ⟨a, kvs, ea, hk, hks, _⟩ := dicOf_ok sim dv hd
        subst ea hks
        exact call_list_dK hc pins s σ H _ us Q I rv ⟨a, kvs, rfl, hk, fun p hp => hw.newL sim dv_keys hp⟩
    · cases hz
/-- sorted, of a dict too -/
def wordsX (S : Store) (d : D) : Option (List Str) := match wordsOf S d with
  | some xs => some xs
  | none => (dicOf S d).bind fun z => strsD z.1
def sortX : OPN := fun ds S => match ds with
  | [d] => match wordsX S d with
    | some xs => if xs.length ≤ 1000 then some (.lst ((sortW xs).map .str)) else none
    | none => none
  | _ => none
theorem c_sortedX (hc : X.calm = true) : CallR X (.builtin "sorted") (rdN X.K X.mg sortX) := by
  intro pins s σ H xs us Q I rv ⟨r, S, ds, z, sim, dx, hz, hw⟩
  unfold sortX at hz
  split at hz
  · rename_i d
    split at hz
    · rename_i ws hws
      split at hz
      · rename_i hlen
        cases hz
        obtain ⟨v, ev, dv⟩ := dvs1 dx
        subst ev
        unfold wordsX at hws
        split at hws
        · rename_i ws2 hws2
          have e2 := Option.some.inj hws
          subst e2
          exact c_sorted pins s σ H _ us Q I rv ⟨r, S, [d], _, sim, dx, by simp only [sortD, hws2], hw⟩
        · cases hd : dicOf S d with
          | none => rw [hd] at hws; cases hws
          | some kd =>
            obtain ⟨ks, es⟩ := kd
            rw [hd] at hws
            have hws : strsD ks = some ws := hws
            obtain ⟨a, kvs, ea, hk, hks, _⟩ := dicOf_ok sim dv hd
            subst ea hks
            rw [Vals.ref1 rv]
            have few := keys_few I hk
            have ew : (kvs.map fun kv => kV kv.1) = ws.map V.str := strsD_ok (c := cx X.K X.mg r S H) hws dv_keys
            refine sorted_any (keys_col (A := X.A.in1) (R := fun vs s1 => Vals (kvs.map fun kv => kV kv.1) vs ∧ ∃ h' tk, s1 = { s with heap := h', toks := tk } ∧ ∀ b o, s.heap.get? b = some o → h'.get? b = some o) I (by have := I.ok.hd hc; simpa using this) hk fun h' tk vs keep r => ⟨r, h', tk, rfl, keep⟩) fun vs s1 ⟨rr, h', tk, e, keep⟩ => ?_
            subst e
            have I1 : Inv X pins σ H { s with heap := h', toks := tk } := I.kept keep
            rw [ew] at rr
            have hl : vs.length ≤ sizeLine := by
              rw [← rr.length, List.length_map, sizeLine_eq]
              omega
            refine ⟨ws, by simpa using strsAre_of rr, hl, fun h2 pp o2 c2 ys kk hp at2 sy py sy2 => ?_⟩
            have e1 : ys = sortW ws := sortW_uniq py sy2
            subst e1
            have n2 : H pp = none := I1.hok.fresh hp
            have hl2 : ((sortW ws).map V.str).length ≤ sizeLine := by
              rw [List.length_map, (sortW_perm _).length_eq, sizeLine_eq]
              omega
            exact ⟨.ref pp, upd H pp (.lst ((sortW ws).map V.str)), I1.laid (t' := tk) kk hp ⟨hl2, o2.toList, c2, vals_strs sy, by simpa using at2⟩, rfl, hw.newL sim dv_strs n2⟩
      · cases hz
    · cases hz
  · cases hz
end
end Kx

set_option Elab.async false
set_option linter.all false
set_option maxRecDepth 100000
set_option autoImplicit false
/-! Lf: instances made with keywords. -/
namespace Kx
open PySem PySem.Spec L2 PySem.W PySem.Calls
open He (ga ma fAd Fa DefD Dv)
theorem vals_get : ∀ {vs : List V} {us : List Value}, Vals vs us → ∀ i : Nat, (vs[i]? = none ∧ us[i]? = none) ∨ ∃ v u, vs[i]? = some v ∧ us[i]? = some u ∧ RelV v u
  | _, _, .nil, i => .inl ⟨by simp, by simp⟩
  | _, _, .cons r t, 0 => .inr ⟨_, _, rfl, rfl, r⟩
  | _, _, .cons r t, i + 1 => by simpa using vals_get t i
def consO {α : Type} : Option α → List α → List α
  | some x, l => x :: l
  | none, l => l
def sel {α : Type} (us mv ws : List α) : Nat → List α
  | 0 => us
  | 1 => mv
  | _ + 2 => ws
/-- how a call's values are laid in the parameters' order: from the positional ones, the defaults, the keywords -/
def pick {α : Type} : List (Nat × Nat) → List α → List α → List α → List α
  | [], _, _, _ => []
  | p :: ix, us, mv, ws => consO (sel us mv ws p.1)[p.2]? (pick ix us mv ws)
theorem pick_vals {vs mz zs : List V} {us mv ws : List Value} (h1 : Vals vs us) (h2 : Vals mz mv) (h3 : Vals zs ws) : ∀ ix : List (Nat × Nat), Vals (pick ix vs mz zs) (pick ix us mv ws)
  | [] => .nil
  | p :: ix => by
    show Vals (consO (sel vs mz zs p.1)[p.2]? (pick ix vs mz zs)) (consO (sel us mv ws p.1)[p.2]? (pick ix us mv ws))
    have key : ∀ {as : List V} {bs : List Value}, Vals as bs → Vals (consO as[p.2]? (pick ix vs mz zs)) (consO bs[p.2]? (pick ix us mv ws)) := fun {as bs} h => by
      rcases vals_get h p.2 with ⟨e1, e2⟩ | ⟨v, u, e1, e2, r⟩
      · rw [e1, e2]; exact pick_vals h1 h2 h3 ix
      · rw [e1, e2]; exact .cons r (pick_vals h1 h2 h3 ix)
    obtain ⟨n, i⟩ := p
    rcases n with _ | _ | n
    · exact key h1
    · exact key h2
    · exact key h3
theorem dvs_get {c : Ctx} {ds : List D} {vs : List V} (h : DVs c ds vs) (i : Nat) : (ds[i]? = none ∧ vs[i]? = none) ∨ ∃ d v, ds[i]? = some d ∧ vs[i]? = some v ∧ DV c d v := by
  cases e : ds[i]? with
  | none =>
    have := List.getElem?_eq_none_iff.mp e
    exact .inl ⟨rfl, List.getElem?_eq_none_iff.mpr (by rw [← DVs.length h]; exact this)⟩
  | some d =>
    obtain ⟨v, h1, h2⟩ := DVs.get h e
    exact .inr ⟨d, v, rfl, h1, h2⟩
theorem pick_dvs {c : Ctx} {ds md es : List D} {vs mz zs : List V} (h1 : DVs c ds vs) (h2 : DVs c md mz) (h3 : DVs c es zs) : ∀ ix : List (Nat × Nat), DVs c (pick ix ds md es) (pick ix vs mz zs)
  | [] => DVs.nil
  | p :: ix => by
    show DVs c (consO (sel ds md es p.1)[p.2]? (pick ix ds md es)) (consO (sel vs mz zs p.1)[p.2]? (pick ix vs mz zs))
    have key : ∀ {as : List D} {bs : List V}, DVs c as bs → DVs c (consO as[p.2]? (pick ix ds md es)) (consO bs[p.2]? (pick ix vs mz zs)) := fun {as bs} h => by
      rcases dvs_get h p.2 with ⟨e1, e2⟩ | ⟨v, u, e1, e2, r⟩
      · rw [e1, e2]; exact pick_dvs h1 h2 h3 ix
      · rw [e1, e2]; exact DVs.cons r (pick_dvs h1 h2 h3 ix)
    obtain ⟨n, i⟩ := p
    rcases n with _ | _ | n
    · exact key h1
    · exact key h2
    · exact key h3
section
variable {N : Nm} {X : Cx} {W : WX} {k : Nat} {a : Expr} {es : List Expr} {kws : List Keyword} {mA mK : MA} {pos p : Pos}
/-- what a keyword-only default tells -/
theorem kd_ok (C : Cn N X W k) {q : He.Defn} {x : Str} {d : D} (i : Nat) (h : N.kds[i]? = some (q, x, d) := by rfl) : ∀ c : Ctx, c.K = X.K → DV c d ((Dv.adr (kwAd q x)).v X.K) := fun c hc => by
  have e := C.tp.kd _ (List.mem_of_getElem? h)
  obtain ⟨v, r1, r2⟩ := conB_ok (c := c) d (.ref (kwAd q x X.K)) (by rw [hc]; exact e)
  cases v <;> first | (obtain ⟨_, z⟩ := r1; cases z; done) | (cases r1; done) | (cases r1; exact r2)
theorem q_makeK {cl : Str} {f : FN} {d : DefD} {ps ks : List Str} {j n : Nat} (z : Nat) (ix : List (Nat × Nat)) (lack : List (Str × Dv)) (dd : List D) (C : Cn N X W k) (F : HasK X.prog X.w X.K X.mg d ps j f) (hat : d.at_ = (cl, some ("__init__" : Str))) (hl : ∀ q, q ∈ lack → q ∈ d.kwd) (h0 : d.kwd ≠ [])
    (hdd : ∀ c : Ctx, c.K = X.K → DVs c dd (lack.map fun q => q.2.v X.K))
    (hbind : ∀ (D : Addr) (doc pm : Value) (an : Option Addr) (cdv ct : Value) (us mv ws : List Value), us.length = n + 1 → mv.length = lack.length → ws.length = ks.length → KwChain D ((lack.map (·.1)).zip mv) (bindArgs (fnOf d.name d.qual d.params d.body d.scope .none (.ref D) doc pm an cdv ct) ⟨us, ks.zip ws⟩) (ps.zip (pick ix us mv ws)))
    (hj : j + 1 ≤ k) (ha : JA X W (a :: es) mA) (hk : JK X W kws mK)
    (hc : N.T.ins.contains cl = true := by rfl) (hm : N.mts.contains (cl, "__init__") = true := by rfl) (hmk : N.mks.contains cl = true := by rfl) (hgl : Gl X cl := by rfl) (hdb : (cl == ("__debug__" : Str)) = false := by decide)
    (hall : (backToKw pos (keywordEach kws X.env)).all (·.1.isSome) = true := by rfl) (hks : (backToKw pos (keywordEach kws X.env)).filterMap (·.1) = ks := by rfl)
    (he : starEach (a :: es) X.env = (false, eval a X.env) :: starEach es X.env := by rfl) (hpl : ((backTo pos (starEach (a :: es) X.env)).any (·.1) || (backToKw pos (keywordEach kws X.env)).any (·.1.isNone)) = false := by rfl) :
    JE X W (.Call (.Name cl p) (a :: es) kws pos) (eMk cl z n ks.length f (fun us ws => pick ix us dd ws) mA mK) := by
  obtain ⟨fd, FD, FG⟩ := F.ex
  rw [hat] at FG
  have hkw : d.kws X.K ≠ [] := by
    unfold He.DefD.kws
    intro e
    exact h0 (List.map_eq_nil_iff.mp e)
  obtain ⟨mv, KB⟩ := FD.kbinds0 (ps := ps) (n + 1) ks (lack.map fun q => (q.1, q.2.v X.K)) (fun us mv ws => pick ix us mv ws) hkw (fun q hq => by
    obtain ⟨y, hy, e⟩ := List.mem_map.mp hq
    exact List.mem_map.mpr ⟨y, hl y hy, e⟩) (fun h1 h2 h3 => pick_vals h1 h2 h3 ix) (fun D doc pm an cdv ct us mv ws l1 l2 l3 => by
      have q := hbind D doc pm an cdv ct us mv ws l1 (by simpa using l2) l3
      rw [List.map_map]
      exact q)
  refine q_mk (n := n) (z := z) C FG KB (fun c hcK ds es vs zs h1 h2 => ?_) hj ha hk hc hm hmk hgl hdb hall hks he hpl
  rw [List.map_map]
  exact pick_dvs h1 (hdd c hcK) h2 ix
end
end Kx

set_option Elab.async false
set_option linter.all false
set_option maxRecDepth 100000
set_option autoImplicit false
/-! Lg: the statements of a class; recursion by fuel; three names at once. -/
namespace Kx
open PySem PySem.Spec L2 PySem.W PySem.Calls
open He (ga ma fAd Fa DefD Dv)
def mthOf (s : Stmt) (j : Nat) : Stmt := match s with
  | .ClassDef _ _ _ body _ _ _ _ _ _ _ => body.getD j (.Pass ⟨0, 0, 0, 0⟩)
  | _ => .Pass ⟨0, 0, 0, 0⟩
def errF : FN := fun _ _ => .err
section
variable {P : Program} {w : World} {K : Frag} {mg : Str → Option Value} {N : Nm}
theorem HasM.mono {c m : Str} {ps : List Str} {j k : Nat} {f : FN} (h : HasM P w K mg c m ps j f) (hj : j ≤ k) : HasM P w K mg c m ps k f := by
  obtain ⟨fd, hb, F⟩ := h.ex
  exact ⟨fd, hb, fun base tb => (F base tb).mono hj⟩
theorem hasM_err {d : DefD} {ps : List Str} {c m : Str} (k : Nat) (tp : Tp P N K mg) (hd : d ∈ N.fns) (h1 : d.dfl = []) (ha : d.at_ = (c, some m))
    (hb : ∀ (kV doc pm : Value) (an : Option Addr) (cdv ct : Value) (us : List Value), us.length = ps.length → bindArgs (fnOf d.name d.qual d.params d.body d.scope .none kV doc pm an cdv ct) ⟨us, []⟩ = pure (ps.zip us)) : HasM P w K mg c m ps k errF := by
  obtain ⟨fd, F⟩ := tp.fn d hd
  have e : d.dvs K = [] := by unfold He.DefD.dvs; rw [h1]; rfl
  rw [e] at F
  refine ⟨fd, F.bindsN hb, fun base tb => ⟨fun vs H Q E ⟨_, _, _, _, _, g⟩ => g.elim, fun A outer s H args us vs Q E _ _ _ _ _ ⟨_, _, _, _, _, g⟩ => g.elim⟩⟩
end
def sPar3 (i j l : Nat) (a b c : ME) : MS := fun G S => sb (a G S) G fun d S1 => sb (b G S1) G fun e S2 => sb (c G S2) G fun f S3 => .nx (((G.set i (some d)).set j (some e)).set l (some f)) S3
section
variable {X : Cx} {W : WX} {a b c : Expr} {ma mb mc : ME} {pos : Pos}
theorem js_par3 {i j l : Nat} {x y z : Str} {px py pz pt : Pos} {kt k2 : Nat} {pt2 : Pos} (ha : JE X W a ma) (hb : JE X W b mb) (hd : JE X W c mc) (hN : X.N.Nodup) (hi : X.N[i]? = some x) (hj : X.N[j]? = some y) (hl : X.N[l]? = some z) (hij : i ≠ j) (hil : i ≠ l) (hjl : j ≠ l)
    (hx : X.env.scope.names.lookup x = some .local) (hy : X.env.scope.names.lookup y = some .local) (hz : X.env.scope.names.lookup z = some .local) (hc : X.calm = true := by rfl)
    (hw : swappedStores [.Tuple [.Name x px, .Name y py, .Name z pz] kt pt] (.Tuple [a, b, c] k2 pt2) X.env = pure (some [x, y, z]) := by rfl)
    (hs : swapsWithSole [.Tuple [.Name x px, .Name y py, .Name z pz] kt pt] (.Tuple [a, b, c] k2 pt2) pos.line X.env = pure false := by rfl)
    (hs1 : starEach [a, b, c] X.env = (false, eval a X.env) :: starEach [b, c] X.env := by rfl) (hs2 : starEach [b, c] X.env = (false, eval b X.env) :: starEach [c] X.env := by rfl) (hs3 : starEach [c] X.env = [(false, eval c X.env)] := by rfl) :
    JS X W (.Assign [.Tuple [.Name x px, .Name y py, .Name z pz] kt pt] (.Tuple [a, b, c] k2 pt2) pos) (sPar3 i j l ma mb mc) :=
  PSw (ps_par3 (ta := tCons (rdE X.K X.mg W ma) (tCons (rdE X.K X.mg W mb) (tCons (rdE X.K X.mg W mc) tNil))) hc hN hi hj hl hij hil hjl hx hy hz (pa_cons ha (pa_cons hb (pa_cons hd pa_nil hs3) hs2) hs1) hw hs) fun D s H ⟨r, G, S, sim, env, g'⟩ =>
    ⟨r, G, S, sim, env, (gES env g').imp fun x H1 ⟨r1, S1, d, e1, s1, dx, g1⟩ => ⟨r1, G, S1, s1, env.ext e1, (gES (env.ext e1) g1).imp fun y H2 ⟨r2, S2, e, e2, s2, dy, g2⟩ =>
      ⟨r2, G, S2, s2, (env.ext e1).ext e2, (gES ((env.ext e1).ext e2) g2).imp fun z H3 ⟨r3, S3, f, e3, s3, dz, g3⟩ =>
        ⟨x, y, z, rfl, g3 r3 H3 _ Ext.refl s3 ((((((env.ext e1).ext e2).ext e3).set i ((dx.ext e2).ext e3)).set j (dy.ext e3)).set l dz)⟩⟩⟩⟩
end
end Kx

set_option Elab.async false
set_option linter.all false
set_option maxRecDepth 100000
set_option autoImplicit false
/-! Lh: x[::1], x[::-1]. -/
namespace HT
open PySem PySem.Spec PyProof.Rows L2
section
variable {prog : Program} {w : World} {A : Around} {E : Value → Shared → Prop} {s : Shared}
theorem fm_map {α β : Type} {f : α → Option β} {g : α → β} : ∀ {l : List α}, (∀ m ∈ l, f m = some (g m)) → l.filterMap f = l.map g
  | [], _ => rfl
  | a :: r, h => by
    rw [List.filterMap_cons, h a List.mem_cons_self, List.map_cons, fm_map fun m hm => h m (List.mem_cons_of_mem _ hm)]
theorem kx_back (xs : Array Value) : ((List.range xs.size).filterMap fun (m : Nat) => xs[(((xs.size : Int) - 1) + (m : Int) * (-1)).toNat]?) = xs.toList.reverse := by
  have e : (List.range xs.size).filterMap (fun (m : Nat) => xs[(((xs.size : Int) - 1) + (m : Int) * (-1)).toNat]?) = (List.range xs.size).map (fun m => xs.toList.reverse.getD m .none) := by
    refine fm_map fun m hm => ?_
    have hlt : m < xs.size := List.mem_range.mp hm
    have e1 : (((xs.size : Int) - 1) + (m : Int) * (-1)).toNat = xs.size - 1 - m := by omega
    rw [e1]
    have h2 : m < xs.toList.reverse.length := by simpa using hlt
    show xs[xs.size - 1 - m]? = some (xs.toList.reverse.getD m .none)
    rw [List.getD_eq_getElem?_getD, List.getElem?_eq_getElem h2, Option.getD_some, List.getElem_reverse, Array.getElem?_eq_getElem (by omega)]
    simp
  rw [e]
  apply List.ext_getElem
  · simp
  · intro i h1 h2
    simp only [List.getElem_map, List.getElem_range]
    rw [List.getD_eq_getElem?_getD, List.getElem?_eq_getElem h2]
    rfl
theorem kx_back_at {sl : Addr} {n : Nat} {t : Tok} {Q : Int × Int × Nat → Shared → Prop} (hs : s.heap.IsSliceOf sl .none .none (.int (-1) t)) (h : Q ((n : Int) - 1, -1, n) s) : wpAny (model prog w) A (Builtin.Slice.sliceApplied (.ref sl) (pure (n : Int))) Q E s := by
  obtain ⟨os, hos, hcs, hds⟩ := id hs
  unfold Builtin.Slice.sliceApplied Builtin.Slice.sliceFields
  refine wpAny_bind (wpAny_bind (wpAny_field hos hds (x := .none) rfl (wpAny_bind (wpAny_field hos hds (x := .none) rfl (wpAny_bind (wpAny_field hos hds (x := .int (-1) t) rfl (wpAny_pure ?_)))))))
  refine wpAny_bind (slicePart_int ?_)
  show wpAny _ _ (if ((-1 : Int) == 0) = true then _ else _) _ _ s
  rw [if_neg (by decide)]
  refine wpAny_bind (slicePart_none (wpAny_bind (slicePart_none (wpAny_bind (wpAny_pure ?_)))))
  show wpAny _ _ (match Builtin.Slice.sliceAdjust none none (-1) (n : Int) with | (lo, hi) => pure (lo, (-1 : Int), Builtin.Slice.slicePlaces lo hi (-1))) _ _ s
  have e1 : Builtin.Slice.sliceAdjust none none (-1) (n : Int) = ((n : Int) - 1, -1) := by
    unfold Builtin.Slice.sliceAdjust
    simp
  have e2 : Builtin.Slice.slicePlaces ((n : Int) - 1) (-1) (-1) = n := by
    unfold Builtin.Slice.slicePlaces
    simp
    try omega
  rw [e1]
  show wpAny _ _ (pure ((n : Int) - 1, (-1 : Int), Builtin.Slice.slicePlaces ((n : Int) - 1) (-1) (-1))) _ _ s
  rw [e2]
  exact wpAny_pure h
theorem kx_tuple_step {t sl : Addr} {items : Array Value} {st : Int} {tk : Tok} {Q : Value → Shared → Prop} (ht : IsTup s.heap t items) (hs : s.heap.IsSliceOf sl .none .none (.int st tk)) (hst : st = -1)
    (h : Q (.ref s.heap.objs.size) { s with heap := s.heap.push { cls := .type "tuple", data := .seq items.toList.reverse.toArray } }) (hsz : items.size ≤ sizeLine) : wpAny (model prog w) A (getItem (.ref t) (.ref sl)) Q E s := by
  subst hst
  have htake : sizeOk (.seq items.toList.reverse.toArray) := by
    show items.toList.reverse.toArray.size ≤ sizeLine
    rw [List.size_toArray, List.length_reverse, Array.length_toList]
    exact hsz
  obtain ⟨os, hos, hcs, hds⟩ := id hs
  have hTs : s.TypeIs (.ref sl) "slice" := ⟨os, hos, hcs⟩
  unfold getItem
  try with_reducible refine wpAny_holding ?_
  first | refine wpAny_bind (wpAny_pure ?_) | skip
  refine wpAny_bind (wpAny_sequenceKey ht.typeIs (by decide) ?_)
  refine wpAny_bind (wpAny_callSpecial?_slot (name := Str.ofString "__getitem__") ht.typeIs PyProof.Rows.slot_tuple_getitem (wpAny_call_entry PyProof.Rows.slot_tuple_getitem ht.typeIs entry_tuple_getitem ?_ (args_tuple_getitem _ _)))
  show wpAny _ _ (Builtin.Tuple.tupleItemsOf (.ref t) >>= _) _ _ s
  refine wpAny_bind (tupleItemsOf_ ht (wpAny_bind (wpAny_typeOf hTs ?_)))
  rw [if_pos (by decide)]
  refine wpAny_bind (kx_back_at hs ?_)
  have hno : ¬ (((((items.size : Nat) : Int) - 1) == 0 && (-1 : Int) == 1 && items.size == items.size) = true) := by
    intro q
    rw [Bool.and_eq_true, Bool.and_eq_true] at q
    exact absurd q.1.2 (by decide)
  show wpAny _ _ (if ((((items.size : Nat) : Int) - 1) == 0 && (-1 : Int) == 1 && items.size == items.size) = true then _ else _) _ _ s
  rw [if_neg hno, kx_back]
  first
    | exact wpAny_bind (m := Builtin.Tuple.tupleExact _) (wpAny_newObj_type (wpAny_pure ⟨_, rfl, wpAny_pure h⟩) htake)
    | exact wpAny_bind (m := Builtin.Tuple.tupleExact _) (wpAny_newObj_type (wpAny_bind (wpAny_pure (wpAny_pure ⟨_, rfl, wpAny_pure h⟩))) htake)
    | exact wpAny_bind (wpAny_bind (m := Builtin.Tuple.tupleExact _) (wpAny_newObj_type (wpAny_pure (wpAny_pure ⟨_, rfl, wpAny_pure h⟩)) htake))
    | exact wpAny_bind (wpAny_bind (m := Builtin.Tuple.tupleExact _) (wpAny_newObj_type (wpAny_pure ⟨_, rfl, wpAny_pure h⟩) htake))
theorem kx_tuple_all {t sl : Addr} {items : Array Value} {tk : Tok} {Q : Value → Shared → Prop} (ht : IsTup s.heap t items) (hs : s.heap.IsSliceOf sl .none .none (.int 1 tk)) (h : Q (.ref t) s) : wpAny (model prog w) A (getItem (.ref t) (.ref sl)) Q E s := by
  obtain ⟨os, hos, hcs, hds⟩ := id hs
  have hTs : s.TypeIs (.ref sl) "slice" := ⟨os, hos, hcs⟩
  unfold getItem
  try with_reducible refine wpAny_holding ?_
  first | refine wpAny_bind (wpAny_pure ?_) | skip
  refine wpAny_bind (wpAny_sequenceKey ht.typeIs (by decide) ?_)
  refine wpAny_bind (wpAny_callSpecial?_slot (name := Str.ofString "__getitem__") ht.typeIs PyProof.Rows.slot_tuple_getitem (wpAny_call_entry PyProof.Rows.slot_tuple_getitem ht.typeIs entry_tuple_getitem ?_ (args_tuple_getitem _ _)))
  show wpAny _ _ (Builtin.Tuple.tupleItemsOf (.ref t) >>= _) _ _ s
  refine wpAny_bind (tupleItemsOf_ ht (wpAny_bind (wpAny_typeOf hTs ?_)))
  rw [if_pos (by decide)]
  have app : ∀ {R : Int × Int × Nat → Shared → Prop} {E2 : Value → Shared → Prop} {B : Around}, R (0, 1, items.size) s → wpAny (model prog w) B (Builtin.Slice.sliceApplied (.ref sl) (pure (items.size : Int))) R E2 s := fun {R E2 B} q => by
    unfold Builtin.Slice.sliceApplied Builtin.Slice.sliceFields
    refine wpAny_bind (wpAny_bind (wpAny_field hos hds (x := .none) rfl (wpAny_bind (wpAny_field hos hds (x := .none) rfl (wpAny_bind (wpAny_field hos hds (x := .int 1 tk) rfl (wpAny_pure ?_)))))))
    refine wpAny_bind (slicePart_int ?_)
    show wpAny _ _ (if ((1 : Int) == 0) = true then _ else _) _ _ s
    rw [if_neg (by decide)]
    refine wpAny_bind (slicePart_none (wpAny_bind (slicePart_none (wpAny_bind (wpAny_pure ?_)))))
    show wpAny _ _ (match Builtin.Slice.sliceAdjust none none 1 (items.size : Int) with | (lo, hi) => pure (lo, (1 : Int), Builtin.Slice.slicePlaces lo hi 1)) _ _ s
    rw [adjust_gen none none items.size]
    show wpAny _ _ (pure (((sIx items.size 0 none : Nat) : Int), (1 : Int), Builtin.Slice.slicePlaces ((sIx items.size 0 none : Nat) : Int) ((sIx items.size items.size none : Nat) : Int) 1)) _ _ s
    rw [places_gen]
    exact wpAny_pure q
  refine wpAny_bind (app ?_)
  show wpAny _ _ (if ((0 : Int) == 0 && (1 : Int) == 1 && items.size == items.size) = true then _ else _) _ _ s
  rw [if_pos (by simp)]
  unfold Builtin.Tuple.tupleIsExact
  refine wpAny_bind (wpAny_bind (wpAny_typeOf ht.typeIs (wpAny_pure ?_)))
  rw [if_pos (by decide)]
  first
    | exact wpAny_bind (wpAny_rule (wpAny_pure ⟨_, rfl, wpAny_pure h⟩))
    | exact wpAny_bind (wpAny_rule (wpAny_bind (wpAny_pure (wpAny_pure ⟨_, rfl, wpAny_pure h⟩))))
    | exact wpAny_bind (wpAny_rule (wpAny_bind (wpAny_pure ⟨_, rfl, wpAny_pure h⟩)))
theorem kx_list_all (items : Array Value) : slicePick items none none (some 1) = items := by
  unfold slicePick
  have e : sliceBounds none none (some 1) items.size = (0, (items.size : Int), 1) := by
    first
    | rfl
    | simp [sliceBounds]
  rw [e]
  show ((sliceRange 0 (items.size : Int) 1).filterMap (items[·]?)).toArray = _
  have e2 : sliceRange 0 (items.size : Int) 1 = List.range items.size := by
    unfold sliceRange
    have h1 : ((1 : Int) > 0) := by decide
    by_cases h : (0 : Int) < items.size
    · have e3 : ((items.size : Int) - 0 + 1 - 1) / 1 = (items.size : Int) := by
        rw [Int.ediv_one]
        omega
      simp only [h1, if_true, h, e3, Int.toNat_natCast]
      rw [show (fun (k : Nat) => (0 + 1 * (k : Int)).toNat) = id from funext fun k => by simp, List.map_id]
    · have e3 : items.size = 0 := by omega
      rw [e3]
      simp
  rw [e2, PySem.W.krv_all]
end
end HT
namespace Kx
open PySem PySem.Spec L2
def StepC (K : PySem.W.Frag) (x : V) (o : Option Int) (H : Hp) (Q : VK) : Prop := ∃ a xs i, o = some i ∧ x = .ref a ∧ ((SqL K H a xs ∧ ((i = 1 ∧ ∀ p, H p = none → Q (.ref p) (upd H p (.lst xs))) ∨ (i = -1 ∧ ∀ p, H p = none → Q (.ref p) (upd H p (.lst xs.reverse))))) ∨
  (SqT K H a xs ∧ ((i = 1 ∧ Q (.ref a) H) ∨ (i = -1 ∧ ∀ p, H p = none → Q (.ref p) (upd H p (.tup xs.reverse))))))
def tStep (K : PySem.W.Frag) (te ts : TE) : TE := fun σ H Q => te σ H fun x H1 => tPart ts σ H1 fun o H2 => StepC K x o H2 Q
section
variable {X : Cx} {W : WX} {e st : Expr} {te ts : TE} {me ms : ME} {p3 pos : Pos}
theorem pe_step (he : PE X e te) (hs : PE X st ts) (hsub : ∀ (a b : Addr), subscripted (.Slice none none (some st) p3) false (.ref a) (.ref b) = operate [.ref a, .ref b] (getItem (.ref a) (.ref b))) : PE X (.Subscript e (.Slice none none (some st) p3) pos) (tStep X.K te ts) := by
  refine ⟨fun pins s σ H Q I h => ?_⟩
  refine PyProof.Rows.Subscript_ (thn (he.run pins s σ H _ I h) fun v s1 ⟨x, H1, I1, r1, q1⟩ => ?_)
  refine wpAny_Slice (thn (po_none.run pins s1 σ H1 (fun o H2 => o = none ∧ H2 = H1) I1 ⟨rfl, rfl⟩) fun vl s2 ⟨l, H2, I2, pl, el, e2⟩ => ?_)
  subst el e2
  refine thn (po_none.run pins s2 σ H2 (fun o H3 => o = none ∧ H3 = H2) I2 ⟨rfl, rfl⟩) fun vu s3 ⟨u, H3, I3, pu, eu, e3⟩ => ?_
  subst eu e3
  have hst : PO X (some st) (tPart ts) := po_some hs
  refine thn (hst.run pins s3 σ H3 _ I3 q1) fun vs s4 ⟨o, H4, I4, ps, a, xs, i, eo, ex, cs⟩ => ?_
  subst eo ex
  cases r1
  have I5 : Inv X pins σ H4 { s4 with heap := s4.heap.push { cls := .type "slice", data := .fields #[vl, vu, vs] } } := I4.kept (t' := s4.toks) fun b ob q => Heap.get?_push_of_some _ q
  have pv : ∀ {v : Value}, IsPart v none → v = .none := fun {v} q => by cases q; rfl
  have pi : ∀ {v : Value} {i : Int}, IsPart v (some i) → ∃ t, v = .int i t := fun {v i} q => by cases q; exact ⟨_, rfl⟩
  obtain rfl := pv pl
  obtain rfl := pv pu
  obtain ⟨tk, rfl⟩ := pi ps
  have sl := Heap.IsSliceOf.new s4.heap .none .none (.int i tk)
  show wpAny (model X.prog X.w) X.A (PyProof.Rows.subscriptTail e (.Slice none none (some st) p3) (.ref a) (.ref s4.heap.objs.size)) (EP X pins σ Q) X.xe { s4 with heap := s4.heap.push { cls := .type "slice", data := .fields #[.none, .none, .int i tk] } }
  have n5 : H4 (s4.heap.push { cls := .type "slice", data := .fields #[.none, .none, .int i tk] }).objs.size = none := I5.hok.fresh (Nat.le_refl _)
  rcases cs with ⟨hq, cs⟩ | ⟨hq, cs⟩
  · obtain ⟨its, r, ht, hz⟩ := I5.list hq
    have hlen := r.length
    refine PyProof.Rows.tail_any (ops := [.ref a, .ref s4.heap.objs.size]) ht.isList.typeIs (PySem.slot_list_getitem.lookup) ?_ (hsub _ _)
    have i0 : (some i : Option Int) ≠ some 0 := by
      intro z
      cases z
      rcases cs with ⟨z, _⟩ | ⟨z, _⟩ <;> cases z
    refine wpAny_getItem_list_slice ht.isList sl .none .none (.int i tk) i0 ?_ (by rw [List.size_toArray]; omega)
    rcases cs with ⟨ei, q⟩ | ⟨ei, q⟩
    · subst ei
      rw [HT.kx_list_all]
      exact ⟨.ref _, _, I5.laid (t' := s4.toks) (o := .lst xs) (fun b ob q => Heap.get?_push_of_some _ q) (Nat.le_refl _) ⟨hz, _, 0, r, Heap.get?_push_size _ rfl⟩, rfl, q _ n5⟩
    · subst ei
      rw [PySem.W.krv_pick]
      exact ⟨.ref _, _, I5.laid (t' := s4.toks) (o := .lst xs.reverse) (fun b ob q => Heap.get?_push_of_some _ q) (Nat.le_refl _) ⟨by rw [List.length_reverse]; exact hz, _, 0, r.reverse, Heap.get?_push_size _ rfl⟩, rfl, q _ n5⟩
  · obtain ⟨its, r, ht, hz⟩ := I5.tuple hq
    have hlen := r.length
    refine PyProof.Rows.tail_any (ops := [.ref a, .ref s4.heap.objs.size]) ht.typeIs (PyProof.Rows.slot_tuple_getitem.lookup) ?_ (hsub _ _)
    rcases cs with ⟨ei, q⟩ | ⟨ei, q⟩
    · subst ei
      exact HT.kx_tuple_all ht sl ⟨.ref a, H4, I5, rfl, q⟩
    · refine HT.kx_tuple_step ht sl ei ?_ (by rw [List.size_toArray]; omega)
      exact ⟨.ref _, _, I5.laid (t' := s4.toks) (o := .tup xs.reverse) (fun b ob q => Heap.get?_push_of_some _ q) (Nat.le_refl _) ⟨by rw [List.length_reverse]; exact hz, _, r.reverse, PyProof.Rows.IsTup.new _ _⟩, rfl, q _ n5⟩
def stepD : OP2 := fun d e S => match e with
  | .int i => if i = 1 then (match d with
      | .tup ds => some (.tup ds)
      | d => (lstOf S d).map .lst)
    else if i = -1 then (match d with
      | .tup ds => some (.tup ds.reverse)
      | d => (lstOf S d).map fun ds => .lst ds.reverse)
    else none
  | _ => none
def eStep (me ms : ME) : ME := fun G S => (me G S).bind fun d S1 => (ms G S1).bind fun e S2 => match e with
  | .int _ => opt (stepD d e S2) S2
  | _ => .err
theorem je_step (he : JE X W e me) (hs : JE X W st ms) (hsub : ∀ (a b : Addr), subscripted (.Slice none none (some st) p3) false (.ref a) (.ref b) = operate [.ref a, .ref b] (getItem (.ref a) (.ref b)) := by intro _ _; with_unfolding_all rfl) :
    JE X W (.Subscript e (.Slice none none (some st) p3) pos) (eStep me ms) :=
  PEw (pe_step he hs hsub) fun s H Q ⟨r, G, S, sim, env, g⟩ => ⟨r, G, S, sim, env, (gE g).imp fun x H1 ⟨r1, S1, d, e1, s1, dx, g1⟩ => ⟨r1, G, S1, s1, env.ext e1, (gE g1).imp fun y H2 ⟨r2, S2, e, e2, s2, dy, g2⟩ => by
    cases e <;> try exact g2.elim
    rename_i i
    refine ⟨i, dy, ?_⟩
    obtain ⟨z, hz, hw⟩ := wants_of g2
    have hz : (if i = 1 then (match d with
      | .tup ds => some (.tup ds)
      | d => (lstOf S2 d).map .lst)
    else if i = -1 then (match d with
      | .tup ds => some (.tup ds.reverse)
      | d => (lstOf S2 d).map fun ds => .lst ds.reverse)
    else none) = some z := hz
    have dx2 := dx.ext e2
    by_cases h1 : i = 1
    · rw [if_pos h1] at hz
      split at hz
      · cases hz
        obtain ⟨a, vs, ea, ha, da⟩ := dx2
        exact ⟨a, vs, i, rfl, ea, .inr ⟨sqT_of ha, .inl ⟨h1, by rw [← ea]; exact hw.at s2 ⟨a, vs, ea, ha, da⟩⟩⟩⟩
      · cases hl : lstOf S2 d with
        | none => rw [hl] at hz; cases hz
        | some ds =>
          rw [hl] at hz
          cases hz
          obtain ⟨a, vs, ea, ha, da⟩ := lstOf_ok s2 dx2 hl
          exact ⟨a, vs, i, rfl, ea, .inl ⟨ha, .inl ⟨h1, fun p hp => hw.newL s2 da hp⟩⟩⟩
    · rw [if_neg h1] at hz
      by_cases h2 : i = -1
      · rw [if_pos h2] at hz
        split at hz
        · cases hz
          obtain ⟨a, vs, ea, ha, da⟩ := dx2
          exact ⟨a, vs, i, rfl, ea, .inr ⟨sqT_of ha, .inr ⟨h2, fun p hp => hw.newT s2 da.reverse hp⟩⟩⟩
        · cases hl : lstOf S2 d with
          | none => rw [hl] at hz; cases hz
          | some ds =>
            rw [hl] at hz
            cases hz
            obtain ⟨a, vs, ea, ha, da⟩ := lstOf_ok s2 dx2 hl
            exact ⟨a, vs, i, rfl, ea, .inl ⟨ha, .inr ⟨h2, fun p hp => hw.newL s2 da.reverse hp⟩⟩⟩
      · rw [if_neg h2] at hz
        cases hz⟩⟩
end
end Kx

set_option Elab.async false
set_option linter.all false
set_option maxRecDepth 100000
set_option autoImplicit false
/-! Li: comprehensions over a list that may be a cell. -/
namespace Kx
open PySem PySem.Spec L2
/-- where the items come from, in the store as it is -/
abbrev SRC := Store → Nat → Option (Option D)
def srcOf (d : D) (S : Store) : Option (SRC × Nat) := match d with
  | .loc n => match S[n]? with
    | some (.lst ds) => some (fun S i => match S[n]? with
      | some (.lst es) => some es[i]?
      | _ => none, ds.length + 1)
    | _ => none
  | d => match itemsD d with
    | some ds => some (fun _ i => some ds[i]?, ds.length + 1)
    | none => none
def lcG (src : SRC) (g : MG) (ov : List Nat) (tt : MT) (me : ME) (G : En) : Nat → Nat → Store → Res (List D)
  | 0, _, _ => .err
  | f + 1, i, S => match src S i with
    | none => .err
    | some none => .ok [] S
    | some (some d) => match g d (wipeG G ov) with
      | none => .err
      | some G1 => match tt G1 S with
        | .ok true S1 => match me G1 S1 with
          | .ok y S2 => match lcG src g ov tt me G f (i + 1) S2 with
            | .ok ys S3 => .ok (y :: ys) S3
            | _ => .err
          | _ => .err
        | .ok false S1 => lcG src g ov tt me G f (i + 1) S1
        | _ => .err
def eLcX (ma : ME) (g : MG) (ov : List Nat) (tt : MT) (me : ME) : ME := fun G S => (ma G S).bind fun d S1 => match srcOf d S1 with
  | some (src, f) => match lcG src g ov tt me G f 0 S1 with
    | .ok ys S2 => if small ys then .ok (.lst ys) S2 else .err
    | _ => .err
  | none => .err
section
variable {K : PySem.W.Frag} {mg : Str → Option Value} {r : Rg} {S : Store} {H : Hp}
def SrcR (K : PySem.W.Frag) (mg : Str → Option Value) (r : Rg) (S : Store) (H : Hp) (src : SRC) (J : It) : Prop := ∀ r2 S2 H2, Ex0 r S H r2 S2 H2 → Sim K mg r2 S2 H2 → ∀ i, (∀ d, src S2 i = some (some d) → J.go i H2 ∧ ∀ x H3, J.yld i H2 x H3 → ∃ r3, Ext r2 S2 H2 r3 S2 H3 ∧ Sim K mg r3 S2 H3 ∧ DV (cx K mg r3 S2 H3) d x) ∧ (src S2 i = some none → J.stop i H2)
theorem src_items {ds : List D} {J : It} (h : ItemsR K mg r S H ds J) : SrcR K mg r S H (fun _ i => some ds[i]?) J := fun r2 S2 H2 e s2 i => ⟨fun d q => (h r2 S2 H2 e s2 i).1 d (Option.some.inj q), fun q => (h r2 S2 H2 e s2 i).2 (List.getElem?_eq_none_iff.mp (Option.some.inj q))⟩
theorem src_cell {n : Nat} {a : Addr} (ha : r.as[n]? = some a) : SrcR K mg r S H (fun S i => match S[n]? with
      | some (.lst es) => some es[i]?
      | _ => none) (Itl K a) := fun r2 S2 H2 e s2 i => by
  have ha2 := e.pre n a ha
  cases hS : S2[n]? with
  | none => exact ⟨(fun d q => by (simp only [hS] at q; cases q)), (fun q => by (simp only [hS] at q; cases q))⟩
  | some c =>
    cases c with
    | lst es =>
      obtain ⟨vs, h1, h2⟩ := s2.cell n _ a hS ha2
      refine ⟨fun d q => ?_, fun q => ?_⟩
      · simp only [hS] at q
        have q : es[i]? = some d := Option.some.inj q
        obtain ⟨v, g1, g2⟩ := DVs.get h2 q
        refine ⟨⟨vs, v, SqL.of h1, g1⟩, fun x H3 ⟨e3, hx⟩ => ?_⟩
        subst e3
        have := hx vs (SqL.of h1)
        rw [g1] at this
        cases this
        exact ⟨r2, Ext.refl, s2, g2⟩
      · simp only [hS] at q
        have q : es[i]? = none := Option.some.inj q
        exact ⟨vs, SqL.of h1, by rw [← DVs.length h2]; exact List.getElem?_eq_none_iff.mp q⟩
    | _ => exact ⟨(fun d q => by (simp only [hS] at q; cases q)), (fun q => by (simp only [hS] at q; cases q))⟩
end
section
variable {X : Cx} {W : WX} {elt tg iter : Expr} {ifs : List Expr} {scope : Scope} {own : List (Str × Nat)} {pos : Pos} {g : MG} {is : List Nat} {tt : MT} {ma me : ME}
theorem lcG_core {ov : List Nat} (hi : ∀ i ∈ is, i ∈ ov) {s : L2.St} {r r1 : Rg} {G : En} {S S1 : Store} {H H1 : Hp} {Q : VK} {src : SRC} {f : Nat} {J : It} (e1 : Ext r S H r1 S1 H1) (s1 : Sim X.K X.mg r1 S1 H1) (env : EnvR (cx X.K X.mg r1 S1 H1) G s) (it : SrcR X.K X.mg r1 S1 H1 src J)
    (gd : GoodE X.K X.mg r1 S1 H1 (fun C d H' => W C d s H') Q (match lcG src g ov tt me G f 0 S1 with
      | .ok ys S2 => if small ys then .ok (.lst ys) S2 else .err
      | _ => .err)) : ∀ D, H1 D = none → ∃ W : Nat → Nat → Hp → Prop, (∃ m, W 0 m (upd H1 D (.lst []))) ∧ ∀ i m H, W i m H →
  (J.stop i H ∧ Q (.ref D) H) ∨ (J.go i H ∧ ∃ Nx : Hp → Prop, (∀ H', Nx H' → ∃ m', m' < m ∧ W (i + 1) m' H') ∧ ∀ x H', J.yld i H x H' → rdG X.K X.mg g is x (L2.wipe s ov) H' fun σ2 H2 => L2.wipe σ2 ov = L2.wipe s ov ∧ rdT X.K X.mg W0 tt σ2 H2 fun b H3 =>
    if b = true then rdE X.K X.mg W0 me σ2 H3 fun y H4 => ∃ acc, H4 D = some (.lst acc) ∧ acc.length < sizeLine ∧ Nx (upd H4 D (.lst (acc ++ [y]))) else Nx H3) := by
  intro D hD
  obtain ⟨sD, eD⟩ := s1.reserve (o := .lst []) hD
  cases hl : lcG src g ov tt me G f 0 S1 with
  | err => rw [hl] at gd; exact gd.elim
  | exc x ns ds S' => rw [hl] at gd; exact gd.elim
  | ok ys0 S0 =>
    rw [hl] at gd
    dsimp only at gd
    cases hz : small ys0 with
    | false => rw [hz] at gd; exact gd.elim
    | true =>
      rw [hz] at gd
      have hsz := small_ok hz
      have DnotZ : D ∉ r1.z := fun hz => by
        obtain ⟨u, q, _⟩ := s1.res D hz
        rw [hD] at q; cases q
      refine ⟨fun i m H2 => ∃ as S2 acc vs ys, Ex0 r1 S1 H1 ⟨as, D :: r1.z⟩ S2 H2 ∧ (∀ a, a ∈ r1.z → H2 a = H1 a) ∧ Sim X.K X.mg ⟨as, D :: r1.z⟩ S2 H2 ∧ H2 D = some (.lst vs) ∧ DVs (cx X.K X.mg ⟨as, D :: r1.z⟩ S2 H2) acc vs ∧ EnvR (cx X.K X.mg ⟨as, D :: r1.z⟩ S2 H2) G s ∧
          lcG src g ov tt me G m i S2 = .ok ys S0 ∧ acc ++ ys = ys0, ⟨f, r1.as, S1, [], [], ys0, eD, ?_, sD, upd_same, DVs.nil, env.ex0 eD, hl, rfl⟩, ?_⟩
      · intro a ha
        obtain ⟨u, q, _⟩ := s1.res a ha
        rw [upd_ne (ne_of_none q hD)]
      · rintro i m H2 ⟨as, S2, acc, vs, ys, ex, zz, s2, hDv, hacc, ev2, hr, hys⟩
        obtain ⟨sr, er⟩ := s2.release
        cases m with
        | zero => unfold lcG at hr; cases hr
        | succ m =>
        unfold lcG at hr
        cases hd : src S2 i with
        | none => rw [hd] at hr; cases hr
        | some od =>
          rw [hd] at hr
          cases od with
          | none =>
            cases hr
            rw [List.append_nil] at hys
            subst hys
            refine .inl ⟨(it _ _ _ ex s2 i).2 hd, ?_⟩
            exact gd ⟨as, r1.z⟩ H2 (.ref D) ⟨ex.trans er, rfl, zz⟩ sr ⟨D, vs, rfl, ⟨hDv, fun l => by
              rcases l with ⟨n, c, h1, h2, h3⟩ | l
              · exact s2.zn n c D h2 h1 h3 List.mem_cons_self
              · exact DnotZ l⟩, DVs.ex0 er hacc⟩
          | some d =>
            obtain ⟨go, yld⟩ := (it _ _ _ ex s2 i).1 d hd
            refine .inr ⟨go, fun H3 => ∃ as S3 acc vs ys, Ex0 r1 S1 H1 ⟨as, D :: r1.z⟩ S3 H3 ∧ (∀ a, a ∈ r1.z → H3 a = H1 a) ∧ Sim X.K X.mg ⟨as, D :: r1.z⟩ S3 H3 ∧ H3 D = some (.lst vs) ∧ DVs (cx X.K X.mg ⟨as, D :: r1.z⟩ S3 H3) acc vs ∧ EnvR (cx X.K X.mg ⟨as, D :: r1.z⟩ S3 H3) G s ∧
              lcG src g ov tt me G m (i + 1) S3 = .ok ys S0 ∧ acc ++ ys = ys0, fun H3 ⟨as3, S3, acc3, vs3, ys3, q⟩ => ⟨m, Nat.lt_succ_self m, as3, S3, acc3, vs3, ys3, q⟩, ?_⟩
            intro x H3 hy
            obtain ⟨r3, e3, s3, dx⟩ := yld x H3 hy
            cases hgd : g d (wipeG G ov) with
            | none => simp only [hgd] at hr; cases hr
            | some G1 =>
              simp only [hgd] at hr
              refine ⟨r3, wipeG G ov, S2, d, G1, s3, (ev2.ext e3).wipe _, dx, hgd, fun r4 H4 s4 e4 sm4 ev4 kp => ⟨by rw [kp _ hi, wipe_twice], r4, G1, S2, sm4, ev4, ?_⟩⟩
              cases ht : tt G1 S2 with
              | err => rw [ht] at hr; cases hr
              | exc a1 a2 a3 a4 => rw [ht] at hr; cases hr
              | ok k S5 =>
                rw [ht] at hr
                intro r5 H5 e5 s5
                cases k with
                | false =>
                  have hr : lcG src g ov tt me G m (i + 1) S5 = .ok ys S0 := hr
                  have E : Ext ⟨as, D :: r1.z⟩ S2 H2 r5 S5 H5 := e3.trans (e4.trans e5)
                  obtain ⟨as5, z5⟩ := r5
                  have ez : z5 = D :: r1.z := E.zeq
                  subst ez
                  exact ⟨as5, S5, acc, vs, ys, ex.trans E.toEx0, fun a ha => (E.zs a (List.mem_cons_of_mem _ ha)).trans (zz a ha), s5, (E.zs D List.mem_cons_self).trans hDv, DVs.ext E hacc, ev2.ext E, hr, hys⟩
                | true =>
                  have hr : (match me G1 S5 with
                    | .ok y S2 => (match lcG src g ov tt me G m (i + 1) S2 with
                      | .ok ys S3 => (.ok (y :: ys) S3 : Res (List Kx.D))
                      | _ => .err)
                    | _ => .err) = .ok ys S0 := hr
                  refine ⟨r5, G1, S5, s5, ev4.ext e5, ?_⟩
                  cases hme : me G1 S5 with
                  | err => rw [hme] at hr; cases hr
                  | exc a1 a2 a3 a4 => rw [hme] at hr; cases hr
                  | ok y S6 =>
                    rw [hme] at hr
                    dsimp only at hr
                    cases hl2 : lcG src g ov tt me G m (i + 1) S6 with
                    | err => rw [hl2] at hr; cases hr
                    | exc a1 a2 a3 a4 => rw [hl2] at hr; cases hr
                    | ok ys' S7 =>
                      rw [hl2] at hr
                      cases hr
                      intro r6 H6 v e6 s6 dv
                      have E : Ext ⟨as, D :: r1.z⟩ S2 H2 r6 S6 H6 := e3.trans (e4.trans (e5.trans e6))
                      obtain ⟨as6, z6⟩ := r6
                      have ez : z6 = D :: r1.z := E.zeq
                      subst ez
                      have hD6 : H6 D = some (.lst vs) := (E.zs D List.mem_cons_self).trans hDv
                      have hlen : acc.length = vs.length := DVs.length hacc
                      refine ⟨vs, hD6, ?_, ?_⟩
                      · have : (acc ++ y :: ys').length = ys0.length := by rw [hys]
                        simp at this
                        omega
                      · obtain ⟨s7, e7⟩ := s6.remake (p := D) (o := .lst (vs ++ [v])) List.mem_cons_self
                        refine ⟨as6, S6, acc ++ [y], vs ++ [v], ys', (ex.trans E.toEx0).trans e7, fun a ha => ?_, s7, upd_same, ?_, (ev2.ext E).ex0 e7, hl2, by rw [← hys]; simp⟩
                        · have : a ≠ D := fun z => DnotZ (by rw [← z]; exact ha)
                          rw [upd_ne this]
                          exact (E.zs a (List.mem_cons_of_mem _ ha)).trans (zz a ha)
                        · exact DVs.ex0 e7 (DVs.append (DVs.ext E hacc) (DVs.cons dv DVs.nil))
theorem lcX_read {ov : List Nat} (hi : ∀ i ∈ is, i ∈ ov) {s : L2.St} {H : Hp} {Q : VK} (h : rdE X.K X.mg W (eLcX ma g ov tt me) s H Q) :
    tLc (iAny X.K (rdE X.K X.mg W ma)) (rdG X.K X.mg g is) (rdT X.K X.mg W0 tt) (rdE X.K X.mg W0 me) ov s H Q := by
  obtain ⟨r, G, S, sim, env, gd⟩ := h
  refine ⟨r, G, S, sim, env, (gE gd).imp fun x H1 ⟨r1, S1, d, e1, s1, dx, g1⟩ => ?_⟩
  cases hs : srcOf d S1 with
  | none => rw [hs] at g1; exact g1.elim
  | some sf =>
    obtain ⟨src, f⟩ := sf
    rw [hs] at g1
    have core : ∀ {J : It}, SrcR X.K X.mg r1 S1 H1 src J → _ := fun {J} it => lcG_core (W := W) hi Ext.refl s1 (env.ext e1) it g1
    unfold srcOf at hs
    split at hs
    · rename_i n
      split at hs
      · rename_i ds hS
        cases hs
        obtain ⟨a, ea, ha⟩ := dx
        obtain ⟨vs, h1, h2⟩ := s1.cell n _ a hS ha
        exact .inl ⟨a, vs, ea, SqL.of h1, core (src_cell ha)⟩
      · cases hs
    · split at hs
      · rename_i ds hds
        cases hs
        cases d <;> simp only [itemsD, Option.some.injEq, reduceCtorEq] at hds
        · subst hds
          exact .inr (.inr ⟨_, dx, core (src_items items_str)⟩)
        · subst hds
          obtain ⟨a, vs, e, hq, hd⟩ := dx
          exact .inr (.inl ⟨a, vs, e, sqT_of hq, core (src_items (items_tup hq hd))⟩)
        · subst hds
          obtain ⟨a, vs, e, hq, hd⟩ := dx
          exact .inl ⟨a, vs, e, sqL_of (lstAt hq), core (src_items (items_lst (lstAt hq) hd))⟩
        · subst hds
          obtain ⟨a, vs, e, hq, hd⟩ := dx
          exact .inl ⟨a, vs, e, sqL_of hq, core (src_items (items_lst hq hd))⟩
      · cases hs
theorem je_lcX (hI : JE X W iter ma) (hN : X.N.Nodup) (ok : BlkOk X.N X.env.scope scope own) (hi : ∀ i ∈ is, i ∈ own.map (·.2))
    (hg : ∀ (s : Shared) (H : Hp) (C : Addr) (cl : List (Str × Addr)) (fp : List Addr), JG (X.blk s H scope (compEnvC scope cl C X.env) fp) tg g is)
    (ht : ∀ (s : Shared) (H : Hp) (C : Addr) (cl : List (Str × Addr)) (fp : List Addr), JTs (X.blk s H scope (compEnvC scope cl C X.env) fp) ifs tt)
    (he : ∀ (s : Shared) (H : Hp) (C : Addr) (cl : List (Str × Addr)) (fp : List Addr), JE (X.blk s H scope (compEnvC scope cl C X.env) fp) W0 elt me) (hc : X.calm = true := by rfl) (hs : ∀ x, foldedSetIterable iter X.env x = pure x := by intro _; rfl) :
    JE X W (.ListComp elt [⟨tg, iter, ifs, 0⟩] scope pos) (eLcX ma g (own.map (·.2)) tt me) :=
  PEw (pe_lc (own := own) hc hN (pi_any hI) ok hg ht he hs) fun s H Q h => lcX_read hi h
end
end Kx

set_option Elab.async false
set_option linter.all false
set_option maxRecDepth 100000
set_option autoImplicit false
/-! Lj: targets that store into dicts, several at once. -/
namespace Kx
open PySem PySem.Spec L2
abbrev MGS := D → En → Store → Option (En × Store)
abbrev MGSs := List D → En → Store → Option (En × Store)
def gsN (i : Nat) : MGS := fun d G S => some (G.set i (some d), S)
def gsSub (mo mi : ME) : MGS := fun d G S => match mo G S with
  | .ok o S1 => match mi G S1 with
    | .ok k S2 => match putM o k d S2 with
      | some S3 => some (G, S3)
      | none => none
    | _ => none
  | _ => none
def gsNo : MGSs := fun ds G S => match ds with
  | [] => some (G, S)
  | _ => none
def gsCo (g : MGS) (gs : MGSs) : MGSs := fun ds G S => match ds with
  | d :: ds => (g d G S).bind fun z => gs ds z.1 z.2
  | [] => none
def gsTp (gs : MGSs) : MGS := fun d G S => match d with
  | .tup ds => gs ds G S
  | _ => none
def sAsgS (me : ME) (g : MGS) : MS := fun G S => sb (me G S) G fun d S1 => match g d G S1 with
  | some z => .nx z.1 z.2
  | none => .err
section
variable (K : PySem.W.Frag) (mg : Str → Option Value)
def rdGS (g : MGS) : TG := fun v s H Q => ∃ r G S d z, Sim K mg r S H ∧ EnvR (cx K mg r S H) G s ∧ DV (cx K mg r S H) d v ∧ g d G S = some z ∧ ∀ r' H' s', Ext r S H r' z.2 H' → Sim K mg r' z.2 H' → EnvR (cx K mg r' z.2 H') z.1 s' → Q s' H'
def rdGSs (g : MGSs) : TGs := fun vs s H Q => ∃ r G S ds z, Sim K mg r S H ∧ EnvR (cx K mg r S H) G s ∧ DVs (cx K mg r S H) ds vs ∧ g ds G S = some z ∧ ∀ r' H' s', Ext r S H r' z.2 H' → Sim K mg r' z.2 H' → EnvR (cx K mg r' z.2 H') z.1 s' → Q s' H'
end
abbrev JGS (X : Cx) (tg : Expr) (g : MGS) : Prop := PG X tg (rdGS X.K X.mg g)
abbrev JGSs (X : Cx) (tg : List Expr) (g : MGSs) : Prop := PGs X tg (rdGSs X.K X.mg g)
section
variable {X : Cx} {W : WX} {e o i : Expr} {me mo mi : ME} {pos : Pos}
theorem jgs_nm {i : Nat} {x : Str} (hN : X.N.Nodup) (hi : X.N[i]? = some x) (hx : Loc X.env.scope x) (hf : X.fn x = true ∨ X.env.scope.names.lookup x = some .local := by first | exact .inl rfl | exact .inr rfl | assumption) : JGS X (.Name x pos) (gsN i) :=
  PGw (pg_name hN hi hx hf) fun v s H Q ⟨r, G, S, d, z, sim, env, dv, hg, k⟩ => by
    cases hg
    exact k r H _ Ext.refl sim (env.set i dv)
theorem jgs_sub (hu : X.A.units + 1 < cLine) (ho : JE X W0 o mo) (hi : JE X W0 i mi) (ha : ∀ v, assign (.Subscript o i pos) X.env v = (do
      let ov ← holding [v] (eval o X.env)
      let iv ← holding [v, ov] (eval i X.env)
      standAt pos
      holding [v, ov, iv] (setItem ov iv v)
      release [v, ov, iv] []) := by intro _; rfl) : JGS X (.Subscript o i pos) (gsSub mo mi) :=
  PGw (pg_sub ho hi (set_dict hu) ha) fun v s H Q ⟨r, G, S, d, z, sim, env, dv, hg, k⟩ => by
    unfold gsSub at hg
    cases h1 : mo G S with
    | err => rw [h1] at hg; cases hg
    | exc a b c d => rw [h1] at hg; cases hg
    | ok od S1 =>
      rw [h1] at hg
      dsimp only at hg
      refine ⟨r, G, S, sim, env, ?_⟩
      rw [h1]
      intro r1 H1 x e1 s1 dx
      refine ⟨r1, G, S1, s1, env.ext e1, ?_⟩
      cases h2 : mi G S1 with
      | err => rw [h2] at hg; cases hg
      | exc a b c d => rw [h2] at hg; cases hg
      | ok kd S2 =>
        rw [h2] at hg
        dsimp only at hg
        intro r2 H2 y e2 s2 dy
        cases h3 : putM od kd d S2 with
        | none => rw [h3] at hg; cases hg
        | some S3 =>
          rw [h3] at hg
          cases hg
          obtain ⟨a, H4, ea, hp, s4, e4⟩ := putM_ok s2 (dx.ext e2) dy ((dv.ext e1).ext e2) h3
          exact ⟨a, H4, ea, hp, k r2 H4 _ (e1.trans (e2.trans e4)) s4 (((env.ext e1).ext e2).ext e4)⟩
theorem jgss_nil : JGSs X [] gsNo := PGsw pgs_nil fun vs s H Q ⟨r, G, S, ds, z, sim, env, dv, hg, k⟩ => by
  cases ds with
  | nil => cases hg; exact ⟨dv, k r H _ Ext.refl sim env⟩
  | cons _ _ => cases hg
theorem jgss_cons {es : List Expr} {g : MGS} {gs : MGSs} (h1 : JGS X e g) (h2 : JGSs X es gs) (hs : (assignEach (e :: es) X.env).map (·.2) = assign e X.env :: (assignEach es X.env).map (·.2) := by rfl) : JGSs X (e :: es) (gsCo g gs) :=
  PGsw (pgs_cons h1 h2 hs) fun vs s H Q ⟨r, G, S, ds, z, sim, env, dv, hg, k⟩ => by
    cases ds with
    | nil => cases hg
    | cons d ds =>
      obtain ⟨v, vr, ev, hd, hr⟩ := dv
      have hg : (g d G S).bind (fun z => gs ds z.1 z.2) = some z := hg
      cases q : g d G S with
      | none => rw [q] at hg; cases hg
      | some z1 =>
        rw [q] at hg
        have hg : gs ds z1.1 z1.2 = some z := hg
        exact ⟨v, vr, ev, r, G, S, d, z1, sim, env, hd, q, fun r' H' s' e sm ev => ⟨r', z1.1, z1.2, ds, z, sm, ev, DVs.ext e hr, hg, fun r2 H2 s2 e2 sm2 ev2 => k r2 H2 s2 (e.trans e2) sm2 ev2⟩⟩
def gssLen (gs : MGSs) (n : Nat) : Prop := ∀ ds G S z, gs ds G S = some z → ds.length = n
theorem gssLen_nil : gssLen gsNo 0 := fun ds G S z h => by
  cases ds with
  | nil => rfl
  | cons _ _ => cases h
theorem gssLen_cons {g : MGS} {gs : MGSs} {n : Nat} (h : gssLen gs n) : gssLen (gsCo g gs) (n + 1) := fun ds G S z q => by
  cases ds with
  | nil => cases q
  | cons d ds =>
    have q : (g d G S).bind (fun z => gs ds z.1 z.2) = some z := q
    cases w : g d G S with
    | none => rw [w] at q; cases q
    | some z1 =>
      rw [w] at q
      simp [h ds z1.1 z1.2 z q]
theorem jgs_tp {es : List Expr} {k n : Nat} {gs : MGSs} (hl : gssLen gs n) (h : JGSs X es gs) (hc : X.calm = true := by rfl) (hn : (assignEach es X.env).length = n := by rfl) (hst : (assignEach es X.env).findIdx? (·.1) = none := by rfl) : JGS X (.Tuple es k pos) (gsTp gs) :=
  PGw (pg_tup hc h hn hst) fun v s H Q ⟨r, G, S, d, z, sim, env, dv, hg, k⟩ => by
    cases d <;> try cases hg
    obtain ⟨a, vs, e, hq, hd⟩ := dv
    exact ⟨a, vs, e, sqT_of hq, by rw [← DVs.length hd]; exact hl _ _ _ _ hg, r, G, S, _, z, sim, env, hd, hg, k⟩
theorem js_asgS {tg : Expr} {g : MGS} (he : JE X W e me) (hg : JGS X tg g) (hs : swapsWithSole [tg] e pos.line X.env = pure false := by rfl) (hw : swappedStores [tg] e X.env = pure none := by rfl)
    (h1 : (assignEach [tg] X.env).map (·.2) = [assign tg X.env] := by rfl) : JS X W (.Assign [tg] e pos) (sAsgS me g) :=
  PSw (ps_asg he hg hs hw h1) fun D s H ⟨r, G, S, sim, env, g'⟩ => ⟨r, G, S, sim, env, (gES env g').imp fun x H1 ⟨r1, S1, d, e1, s1, dx, g1⟩ => by
    cases q : g d G S1 with
    | none => rw [q] at g1; exact g1.elim
    | some z => rw [q] at g1; exact ⟨r1, G, S1, d, z, s1, env.ext e1, dx, q, fun r' H' s' e sm ev => g1 r' H' s' e sm ev⟩⟩
end
end Kx

set_option Elab.async false
set_option linter.all false
set_option maxRecDepth 100000
set_option autoImplicit false
/-! Lk: a cell frozen between two statements; list(..) as a cell. -/
namespace Kx
open PySem PySem.Spec L2
/-- from here on what slot i holds is a value -/
def sFrz (i : Nat) (m : MS) : MS := fun G S => match G[i]? with
  | some (some d) => m (G.set i (some (frzF 1 d S).1)) (frzF 1 d S).2
  | _ => m G S
section
variable {X : Cx} {W : WX} {body : List Stmt} {st : Stmt} {m : MS}
theorem frz_env {K : PySem.W.Frag} {mg : Str → Option Value} {r : Rg} {S : Store} {H : Hp} {G : En} {s : L2.St} {i : Nat} {d : D} (sim : Sim K mg r S H) (env : EnvR (cx K mg r S H) G s) (h : G[i]? = some (some d)) :
    Sim K mg r (frzF 1 d S).2 H ∧ Ext r S H r (frzF 1 d S).2 H ∧ EnvR (cx K mg r (frzF 1 d S).2 H) (G.set i (some (frzF 1 d S).1)) s := by
  obtain ⟨v, h1, h2⟩ := env.2 i d h
  obtain ⟨s1, e1, d1, _, _⟩ := frzF_ok 1 sim h2
  refine ⟨s1, e1, ?_⟩
  have q := (env.ext e1).set i d1
  have e : s.set i (some v) = s := by
    apply List.ext_getElem?
    intro j
    by_cases hj : j = i
    · subst hj
      rw [List.getElem?_set_self (List.getElem?_eq_some_iff.mp h1).1, h1]
    · rw [List.getElem?_set_ne (Ne.symm hj)]
  rw [e] at q
  exact q
theorem frz_read {i : Nat} {D : Ends} {s : L2.St} {H : Hp} (h : rdS X.K X.mg W (sFrz i m) D s H) : rdS X.K X.mg W m D s H := by
  obtain ⟨r, G, S, sim, env, g⟩ := h
  unfold sFrz at g
  split at g
  · rename_i d hd
    obtain ⟨s1, e1, v1⟩ := frz_env sim env hd
    exact ⟨r, _, _, s1, v1, GoodS.mono e1 g⟩
  · exact ⟨r, G, S, sim, env, g⟩
theorem js_frz (i : Nat) (h : JS X W st m) : JS X W st (sFrz i m) := PSw h fun D s H q => frz_read q
theorem jb_frz (i : Nat) (h : JB X W body m) : JB X W body (sFrz i m) := PSsw h fun D s H q => frz_read q
end
/-! ### list(..) as a cell -/
def eListC (ma : ME) : ME := fun G S => (ma G S).bind fun d S1 => match seqOf S1 d with
  | some ds => .ok (.loc S1.length) (S1 ++ [.lst ds])
  | none => .err
section
variable {N : Nm} {X : Cx} {W : WX} {k : Nat} {a : Expr} {ma : ME} {pos p : Pos}
theorem q_listC (C : Cn N X W k) (ha : JE X W a ma) (h : N.frs.contains "list" = true := by rfl) (hg : Gl X "list" := by rfl) (hs : starEach [a] X.env = (false, eval a X.env) :: starEach [] X.env := by rfl) (hpl : (backTo pos (starEach [] X.env)).any (·.1) = false := by rfl) : JE X W (.Call (.Name "list" p) [a] [] pos) (eListC ma) :=
  PEw (pe_callTy call_list_of hg (C.tp.fr _ (mem_of h)) bt_list (pa_cons ha pa_nil hs) (by decide) (by decide) hs hpl) fun s H Q ⟨r, G, S, sim, env, g⟩ => ⟨r, G, S, sim, env, (gE g).imp fun x H1 ⟨r1, S1, d, e1, s1, dx, g1⟩ => by
    cases hq : seqOf S1 d with
    | none => rw [hq] at g1; exact g1.elim
    | some ds =>
      rw [hq] at g1
      obtain ⟨q, vs, ea, hsq, hd⟩ := seqOf_ok s1 dx hq
      refine ⟨q, vs, by rw [ea], hsq, fun l hl => ?_⟩
      obtain ⟨s3, x3⟩ := s1.newc (o := .lst vs) (c := .lst ds) hl rfl fun r' S' H' er eS eH e => ⟨vs, by subst eH; exact upd_same, hd.ext e⟩
      exact g1 _ _ _ x3 s3 ⟨l, rfl, by show (r1.as ++ [l])[S1.length]? = some l; rw [← s1.len]; simp⟩⟩
end
end Kx

set_option Elab.async false
set_option linter.all false
set_option maxRecDepth 100000
set_option autoImplicit false
/-! Ll: == of cells; a slice as a cell. -/
namespace Kx
open PySem PySem.Spec L2
def viewD (S : Store) (d : D) : D := match d with
  | .loc n => match S[n]? with
    | some (.lst ds) => .lst ds
    | _ => d
  | d => d
theorem view_dp {K : PySem.W.Frag} {mg : Str → Option Value} {r : Rg} {S : Store} {H : Hp} {d : D} {x : V} {p : PyData} (s : Sim K mg r S H) (dx : DV (cx K mg r S H) d x) (h : toP S (viewD S d) = some p) : Dp K H x p := by
  unfold viewD at h
  split at h
  · rename_i n
    split at h
    · rename_i ds hS
      obtain ⟨a, ea, ha⟩ := dx
      obtain ⟨vs, h1, h2⟩ := s.cell n _ a hS ha
      simp only [toP] at h
      cases q : toPs S ds with
      | none => rw [q] at h; simp at h
      | some ps =>
        rw [q] at h
        simp only [Option.map_some, Option.some.injEq] at h
        subst h ea
        exact .lst (SqL.of h1) (toPs_dp ds vs ps h2 q)
    · simp [toP] at h
  · exact toP_dp d x p dx h
def eqX : OP2 := fun d e S => match eqD d e S with
  | some z => some z
  | none => match toP S (viewD S d), toP S (viewD S e) with
    | some p, some q => if SeqAt.shaped p && SeqAt.shaped q then some (.bl (PyData.eqv p q)) else none
    | _, _ => none
section
variable {X : Cx}
theorem o_eqX (hu : X.A.units + 64 < cLine) : OpR X (compareOp .Eq) (rd2 X.K X.mg eqX) := by
  intro pins s σ H x y v u Q I rx ry ⟨r, S, d, e, z, sim, dx, dy, hz, hw⟩
  unfold eqX at hz
  split at hz
  · rename_i z2 hz2
    have e2 := Option.some.inj hz
    subst e2
    exact o_eq hu pins s σ H x y v u Q I rx ry ⟨r, S, d, e, _, sim, dx, dy, hz2, hw⟩
  · split at hz
    · rename_i p q hp hq
      split at hz
      · rename_i hs
        cases hz
        obtain ⟨h1, h2⟩ := Bool.and_eq_true_iff.mp hs
        exact op_eqD hu pins s σ H x y v u Q I rx ry ⟨p, q, view_dp sim dx hp, view_dp sim dy hq, h1, h2, hw.at sim rfl⟩
      · cases hz
    · cases hz
theorem o_neX (hu : X.A.units + 64 < cLine) : OpR X (compareOp .NotEq) (rd2 X.K X.mg (notOf eqX)) := by
  intro pins s σ H x y v u Q I rx ry ⟨r, S, d, e, z, sim, dx, dy, hz, hw⟩
  unfold notOf at hz
  split at hz
  · rename_i b hb
    cases hz
    unfold eqX at hb
    split at hb
    · rename_i z2 hz2
      have e2 := Option.some.inj hb
      subst e2
      exact o_ne hu pins s σ H x y v u Q I rx ry ⟨r, S, d, e, _, sim, dx, dy, by unfold notOf; rw [hz2], hw⟩
    · split at hb
      · rename_i p q hp hq
        split at hb
        · rename_i hs
          cases hb
          obtain ⟨h1, h2⟩ := Bool.and_eq_true_iff.mp hs
          exact op_neD hu pins s σ H x y v u Q I rx ry ⟨p, q, view_dp sim dx hp, view_dp sim dy hq, h1, h2, hw.at sim rfl⟩
        · cases hb
      · cases hb
  · cases hz
end
def eSlC (ma : ME) (ml mh : MO) : ME := fun G S => (ma G S).bind fun d S1 => (ml G S1).bind fun lo S2 => (mh G S2).bind fun hi S3 => match lstOf S3 d with
  | some ds => .ok (.loc S3.length) (S3 ++ [.lst (cutD ds lo hi)])
  | none => .err
theorem je_slC {X : Cx} {W : WX} {a : Expr} {lo hi : Option Expr} {ma : ME} {ml mh : MO} {p2 pos : Pos} (ha : JE X W a ma) (hl : JO X W lo ml) (hh : JO X W hi mh) : JE X W (.Subscript a (.Slice lo hi none p2) pos) (eSlC ma ml mh) :=
  PEw (pe_slice sl_list ha hl hh) fun s H Q ⟨r, G, S, sim, env, g⟩ => ⟨r, G, S, sim, env, (gE g).imp fun x H1 ⟨r1, S1, d, e1, s1, dx, g1⟩ => ⟨r1, G, S1, s1, env.ext e1, (gOE g1).imp fun l H2 ⟨r2, S2, e2, s2, g2⟩ =>
    ⟨r2, G, S2, s2, (env.ext e1).ext e2, (gOE g2).imp fun h H3 ⟨r3, S3, e3, s3, g3⟩ => by
      cases hq : lstOf S3 d with
      | none => rw [hq] at g3; exact g3.elim
      | some ds =>
        rw [hq] at g3
        obtain ⟨q, vs, ea, hsq, hd⟩ := lstOf_ok s3 ((dx.ext e2).ext e3) hq
        refine ⟨q, vs, ea, hsq, fun p hp => ?_⟩
        obtain ⟨s4, x4⟩ := s3.newc (o := .lst (cutV vs l h)) (c := .lst (cutD ds l h)) hp rfl fun r' S' H' er eS eH e => ⟨_, by subst eH; exact upd_same, (cut_dv hd).ext e⟩
        exact g3 _ _ _ x4 s4 ⟨p, rfl, by show (r3.as ++ [p])[S3.length]? = some p; rw [← s3.len]; simp⟩⟩⟩⟩
end Kx

set_option Elab.async false
set_option linter.all false
set_option maxRecDepth 100000
set_option autoImplicit false
/-! Lm: own ==, the left side an instance. -/
namespace Kx
open PySem PySem.Spec L2 PySem.W PySem.Calls
open He (ga ma fAd Fa DefD Dv)
section
variable {prog : Program} {w : World} {A : Around} {E : Value → Shared → Prop} {s : Shared} {K : Frag} {x C f : Addr} {ox : Obj} {od : Option Obj} {b tb : Value}
theorem cmp_left {Q : Value → Shared → Prop} (hu : A.units < cLine) (X : K.In s.heap) (I : InstAt s.heap x ox C od) (hb : Looks (model prog w) s.heap (typeOf b) tb) (hn : Value.ref C ≠ tb → Looks (model prog w) s.heap (isSubtype tb (.ref C)) false)
    (hs : findIn K (.ref C) "__eq__" = some (some (.ref f))) (hf : isFn K (.ref f) = true)
    (h : wpAny (model prog w) A (call (.ref f) [.ref x, b]) (CmpBack Q) E s) : wpAny (model prog w) A (richCompare .Eq (.ref x) b) Q E s := by
  have first : wpAny (model prog w) A (tryCompare (.ref x) "__eq__" b) (fun r s' => ∃ v, r = some v ∧ Q v s') E s := by
    unfold tryCompare
    refine wpAny_bind (ifBound_K X I hs hf (wpAny_mono h (fun v s' hv => ?_) fun _ _ e => e))
    cases v <;> first | exact hv.elim | exact wpAny_pure ⟨_, rfl, hv⟩
  unfold richCompare
  simp only [oneThing_ref]
  refine wpAny_holding (wpAny_bind (wpAny_cRoomFor hu ?_))
  refine wpAny_bind (I.type.here (wpAny_bind (hb.here ?_)))
  split
  · rename_i q
    refine wpAny_bind ((hn (by simpa using q)).here ?_)
    simp only [Bool.false_eq_true, if_false]
    refine wpAny_bind (wpAny_mono first (fun r s' z => ?_) fun _ _ e => e)
    obtain ⟨v, rfl, hq⟩ := z
    exact wpAny_pure hq
  · refine wpAny_bind (wpAny_pure ?_)
    simp only [Bool.false_eq_true, if_false]
    refine wpAny_bind (wpAny_mono first (fun r s' z => ?_) fun _ _ e => e)
    obtain ⟨v, rfl, hq⟩ := z
    exact wpAny_pure hq
/-- the left side knows nothing of it -/
theorem cmp_right {a ta : Value} {Q : Value → Shared → Prop} (hu : A.units < cLine) (X : K.In s.heap) (I : InstAt s.heap x ox C od) (h1 : oneThing? .Eq a (.ref x) = none) (ha : Looks (model prog w) s.heap (typeOf a) ta) (hne : (ta != Value.ref C) = true) (hn : Looks (model prog w) s.heap (isSubtype (.ref C) ta) false)
    (hno : wpAny (model prog w) A (tryCompare a "__eq__" (.ref x)) (fun r s' => r = none ∧ s' = s) E s)
    (hs : findIn K (.ref C) "__eq__" = some (some (.ref f))) (hf : isFn K (.ref f) = true)
    (h : wpAny (model prog w) A (call (.ref f) [.ref x, a]) (CmpBack Q) E s) : wpAny (model prog w) A (richCompare .Eq a (.ref x)) Q E s := by
  have second : wpAny (model prog w) A (tryCompare (.ref x) "__eq__" a) (fun r s' => ∃ v, r = some v ∧ Q v s') E s := by
    unfold tryCompare
    refine wpAny_bind (ifBound_K X I hs hf (wpAny_mono h (fun v s' hv => ?_) fun _ _ e => e))
    cases v <;> first | exact hv.elim | exact wpAny_pure ⟨_, rfl, hv⟩
  unfold richCompare
  refine wpAny_holding (wpAny_bind (wpAny_cRoomFor hu ?_))
  rw [h1]
  refine wpAny_bind (ha.here (wpAny_bind (I.type.here ?_)))
  rw [if_pos hne]
  refine wpAny_bind (hn.here ?_)
  simp only [Bool.false_eq_true, if_false]
  refine wpAny_bind (wpAny_mono hno (fun r s' z => ?_) fun _ _ e => e)
  obtain ⟨rfl, rfl⟩ := z
  simp only [Bool.not_false, if_true]
  refine wpAny_bind (wpAny_mono second (fun r s' z => ?_) fun _ _ e => e)
  obtain ⟨v, rfl, hq⟩ := z
  exact wpAny_pure hq
end
/-! ### as a mirror -/
def clsOf (S : Store) (d : D) : Option Str := match d with
  | .ins c _ _ => some c
  | .loc n => match S[n]? with
    | some (.ins c _ _) => some c
    | _ => none
  | _ => none
def notSub (T : ITab) (c : Str) : Tg → Bool
  | .ty n => valTys.contains n
  | .own x => T.cls.contains x && (decide (x = c) || !T.isSub x c)
def okRes : Res D → Res D
  | .ok z S => .ok z S
  | _ => .err
def eqO (T : ITab) (tab : List (Str × FN)) (d e : D) (S : Store) : Res D := match clsOf S d with
  | some c => match tagD S e, tab.lookup c with
    | some t, some f => if T.ins.contains c && (askOk T S e && notSub T c t) then okRes (f [d, e] S) else .err
    | _, _ => .err
  | none => opt (eqX d e S) S
def rdOw (K : Frag) (mg : Str → Option Value) (T : ITab) (tab : List (Str × FN)) : R2 := fun x y H Q => ∃ r S d e, Sim K mg r S H ∧ DV (cx K mg r S H) d x ∧ DV (cx K mg r S H) e y ∧ GoodE K mg r S H (fun _ _ _ => False) Q (eqO T tab d e S)
theorem clsOf_ok {K : Frag} {mg : Str → Option Value} {r : Rg} {S : Store} {H : Hp} {d : D} {x : V} {c : Str} {C : Addr} (hc : mg c = some (.ref C)) (s : Sim K mg r S H) (dx : DV (cx K mg r S H) d x) (h : clsOf S d = some c) : ∃ a dd fs, x = .ref a ∧ H a = some (.ins C dd fs) := by
  unfold clsOf at h
  split at h
  · cases h
    obtain ⟨a, C', dd, fs, ea, hm, h3, _⟩ := dx
    have hm : mg _ = some (.ref C') := hm
    rw [hc] at hm
    cases hm
    exact ⟨a, dd, fs, ea, h3⟩
  · rename_i n
    split at h
    · rename_i c2 ns ds hS
      have ec := Option.some.inj h
      subst ec
      obtain ⟨a, ea, ha⟩ := dx
      obtain ⟨C', dd, fs, hm, h3, _⟩ := s.cell n _ a hS ha
      have hm : mg _ = some (.ref C') := hm
      rw [hc] at hm
      cases hm
      exact ⟨a, dd, fs, ea, h3⟩
    · cases h
  · cases h
theorem kit_sub {K : Frag} {M : Model} {h : Heap} {t c : Value} {v : Bool} (X : K.In h) (e : kitOne K t c = some v) (ne : c ≠ t) : Looks M h (isSubtype t c) v := by
  unfold kitOne at e
  rw [if_neg (fun q => ne (beq_iff_eq.mp q).symm)] at e
  exact (kit_cls X e).2.2
section
variable {N : Nm} {X : Cx} {W : WX} {k : Nat}
/-- the classes with an own == -/
def EqT (N : Nm) (X : Cx) (k : Nat) (tab : List (Str × FN)) : Prop := ∀ c f, tab.lookup c = some f → N.mts.contains (c, "__eq__") = true ∧ ∃ j, j ≤ k ∧ HasM X.prog X.w X.K X.mg c "__eq__" ["self", "other"] j f
theorem o_eqO {tab : List (Str × FN)} (C : Cn N X W k) (ht : EqT N X k tab) : OpR X (compareOp .Eq) (rdOw X.K X.mg N.T tab) := by
  intro pins s σ H x y v u Q I rx ry ⟨r, S, d, e, sim, dx, dy, g⟩
  show wpAny (model X.prog X.w) X.A (richCompare .Eq v u) (EP X pins σ Q) X.xe s
  unfold eqO at g
  split at g
  · rename_i c hc
    split at g
    · rename_i t f htag hf
      split at g
      · rename_i hck
        obtain ⟨c1, c2⟩ := b2 hck
        obtain ⟨c2, c3⟩ := b2 c2
        have hin := mem_of c1
        have hcl : c ∈ N.T.cls := List.mem_append_right _ hin
        have hgl := C.tp.it.glo c hcl
        obtain ⟨hm, j, hj, HM⟩ := ht c f hf
        obtain ⟨fd, hb, FG⟩ := HM.ex
        have hmt := C.tp.mt (c, "__eq__") (mem_of hm)
        obtain ⟨a, dd, fs, ea, hH⟩ := clsOf_ok hgl sim dx hc
        subst ea
        cases rx
        obtain ⟨mA, O, _⟩ := ins_get I.hok hH
        obtain ⟨od, J, _⟩ := O.look
        obtain ⟨P, Z, hp, _⟩ := kit_D C.tp.it I sim dy ry htag c2
        have hty := Z.ty (model X.prog X.w) s.heap I.kIn hp
        refine cmp_left C.hr.units0 I.kIn J hty (fun hne => ?_) hmt.at_ hmt.fn ?_
        · cases t with
          | ty n => exact kit_sub I.kIn (C.tp.it.val n c (mem_of c3) hcl) hne
          | own z =>
            obtain ⟨q1, q2⟩ := b2 c3
            have q3 := C.tp.it.own z c (mem_of q1) hcl
            rcases Bool.or_eq_true_iff.mp q2 with q | q
            · have ez := of_decide_eq_true q
              subst ez
              exact absurd rfl hne
            · have q : N.T.isSub z c = false := by simpa using q
              rw [q] at q3
              exact kit_sub I.kIn q3 hne
        · have hsp : spF X.K X.mg f [.ref a, y] H Q (fun _ _ _ => False) := by
            refine ⟨r, S, [d, e], sim, DVs.cons dx (DVs.cons dy DVs.nil), ?_⟩
            unfold okRes at g
            split at g
            · rename_i z S' hz
              rw [hz]
              exact g
            · exact g.elim
          have go := (FG X.base C.tb).calls (X := X) (us := [.ref a, u]) (vs := [.ref a, y]) (dvs := []) (ds := []) (E := fun _ _ _ => False) (Q := Q) C.hG (C.hr.mono hj) hb .nil (passAt (W := fun _ _ _ _ => False) LamX.takes0 σ) I (.cons rfl (.cons ry .nil)) (by rw [List.append_nil]; exact hsp)
          refine wpAny_mono go (fun w s' q => ?_) fun _ _ e => e
          obtain ⟨z, H', I', rz, q'⟩ := q
          have q2 : EP X pins σ Q w s' := ⟨z, H', I', rz, q'⟩
          cases w <;> first | exact q2 | (cases z <;> first | (obtain ⟨_, z0⟩ := rz; cases z0) | cases rz)
      · exact g.elim
    · exact g.elim
  · obtain ⟨z, hz, hw⟩ := wants_of g
    exact o_eqX C.u64 pins s σ H x y v u Q I rx ry ⟨r, S, d, e, z, sim, dx, dy, hz, hw⟩
end
theorem eqO_cases (T : ITab) (tab : List (Str × FN)) (d e : D) (S : Store) : (∃ z S', eqO T tab d e S = .ok z S') ∨ eqO T tab d e S = .err := by
  unfold eqO
  split
  · split
    · split
      · unfold okRes
        split
        · exact .inl ⟨_, _, rfl⟩
        · exact .inr rfl
      · exact .inr rfl
    · exact .inr rfl
  · cases eqX d e S with
    | none => exact .inr rfl
    | some z => exact .inl ⟨z, S, rfl⟩
def eEqO (T : ITab) (tab : List (Str × FN)) (ma mb : ME) : ME := fun G S => (ma G S).bind fun d S1 => (mb G S1).bind fun e S2 => eqO T tab d e S2
section
variable {N : Nm} {X : Cx} {W : WX} {k : Nat} {a b : Expr} {ma mb : ME} {pos : Pos}
theorem good_eqO {K : Frag} {mg : Str → Option Value} {r : Rg} {S : Store} {H : Hp} {W' : Value → Option Addr → Hp → Prop} {Q : VK} {T : ITab} {tab : List (Str × FN)} {d e : D} (g : GoodE K mg r S H W' Q (eqO T tab d e S)) : GoodE K mg r S H (fun _ _ _ => False) Q (eqO T tab d e S) := by
  rcases eqO_cases T tab d e S with ⟨z, S', q⟩ | q
  · rw [q] at g ⊢
    exact g
  · rw [q] at g
    exact g.elim
theorem q_eqO {tab : List (Str × FN)} (C : Cn N X W k) (ht : EqT N X k tab) (ha : JE X W a ma) (hb : JE X W b mb) (hm : behindInMarks .Eq b = false := by rfl) : JE X W (.Compare a [.Eq] [b] pos) (eEqO N.T tab ma mb) :=
  PEw (pe_cmpR (o_eqO C ht) ha hb hm) fun s H Q ⟨r, G, S, sim, env, g⟩ => ⟨r, G, S, sim, env, (gE g).imp fun x H1 ⟨r1, S1, d, e1, s1, dx, g1⟩ => ⟨r1, G, S1, s1, env.ext e1, (gE g1).imp fun y H2 ⟨r2, S2, e, e2, s2, dy, g2⟩ =>
    ⟨r2, S2, d, e, s2, dx.ext e2, dy, good_eqO g2⟩⟩⟩
end
end Kx

set_option Elab.async false
set_option linter.all false
set_option maxRecDepth 100000
set_option autoImplicit false
/-! Ln: min, max of a list of numbers; x.upper(). -/
namespace Kx
open PySem PySem.Spec L2
def numsD : List D → Option (List Int)
  | [] => some []
  | .int i :: ds => (numsD ds).map (i :: ·)
  | _ => none
theorem numsD_ok {c : Ctx} : ∀ {ds : List D} {vs : List V} {ns : List Int}, numsD ds = some ns → DVs c ds vs → vs = ns.map V.int
  | [], vs, xs, h, d => by
    simp only [numsD, Option.some.injEq] at h
    subst h
    exact d
  | d :: ds, vs, xs, h, ⟨v, r, e, hv, hr⟩ => by
    cases d <;> simp only [numsD, reduceCtorEq] at h
    rename_i x
    cases q : numsD ds with
    | none => rw [q] at h; cases h
    | some ys =>
      rw [q] at h
      simp only [Option.map_some, Option.some.injEq] at h
      subst h e
      rw [show v = V.int x from hv, numsD_ok q hr]
      rfl
def minI : List Int → Int
  | [] => 0
  | [i] => i
  | i :: r => if i ≤ minI r then i else minI r
def maxI : List Int → Int
  | [] => 0
  | [i] => i
  | i :: r => if maxI r ≤ i then i else maxI r
theorem minI_ok : ∀ {l : List Int}, l ≠ [] → minI l ∈ l ∧ ∀ y ∈ l, minI l ≤ y
  | [], h => absurd rfl h
  | [i], _ => by simp [minI]
  | i :: j :: r, _ => by
    obtain ⟨h1, h2⟩ := minI_ok (l := j :: r) (by simp)
    show (if i ≤ minI (j :: r) then i else minI (j :: r)) ∈ _ ∧ ∀ y ∈ _, (if i ≤ minI (j :: r) then i else minI (j :: r)) ≤ y
    split
    · rename_i h
      exact ⟨List.mem_cons_self, fun y hy => by
        rcases List.mem_cons.mp hy with e | e
        · omega
        · have := h2 y e; omega⟩
    · rename_i h
      exact ⟨List.mem_cons_of_mem _ h1, fun y hy => by
        rcases List.mem_cons.mp hy with e | e
        · omega
        · exact h2 y e⟩
theorem maxI_ok : ∀ {l : List Int}, l ≠ [] → maxI l ∈ l ∧ ∀ y ∈ l, y ≤ maxI l
  | [], h => absurd rfl h
  | [i], _ => by simp [maxI]
  | i :: j :: r, _ => by
    obtain ⟨h1, h2⟩ := maxI_ok (l := j :: r) (by simp)
    show (if maxI (j :: r) ≤ i then i else maxI (j :: r)) ∈ _ ∧ ∀ y ∈ _, y ≤ (if maxI (j :: r) ≤ i then i else maxI (j :: r))
    split
    · rename_i h
      exact ⟨List.mem_cons_self, fun y hy => by
        rcases List.mem_cons.mp hy with e | e
        · omega
        · have := h2 y e; omega⟩
    · rename_i h
      exact ⟨List.mem_cons_of_mem _ h1, fun y hy => by
        rcases List.mem_cons.mp hy with e | e
        · omega
        · exact h2 y e⟩
def minX : OPN := fun ds S => match min2D ds S with
  | some z => some z
  | none => match ds with
    | [d] => match (lstOf S d).bind numsD with
      | some (i :: ns) => some (.int (minI (i :: ns)))
      | _ => none
    | _ => none
def maxX : OPN := fun ds S => match ds with
  | [d] => match (lstOf S d).bind numsD with
    | some (i :: ns) => some (.int (maxI (i :: ns)))
    | _ => none
  | _ => none
section
variable {X : Cx}
theorem nums_at {K : PySem.W.Frag} {mg : Str → Option Value} {r : Rg} {S : Store} {H : Hp} {d : D} {x : V} {ns : List Int} (s : Sim K mg r S H) (dx : DV (cx K mg r S H) d x) (h : (lstOf S d).bind numsD = some ns) : ∃ a, x = .ref a ∧ SqL K H a (ns.map V.int) := by
  cases q : lstOf S d with
  | none => rw [q] at h; cases h
  | some ds =>
    rw [q] at h
    obtain ⟨a, vs, ea, hs, hd⟩ := lstOf_ok s dx q
    have e := numsD_ok h hd
    subst e
    exact ⟨a, ea, hs⟩
theorem c_minX (hc : X.calm = true) : CallR X (.builtin "min") (rdN X.K X.mg minX) := by
  intro pins s σ H xs us Q I rv ⟨r, S, ds, z, sim, dx, hz, hw⟩
  unfold minX at hz
  split at hz
  · rename_i z2 hz2
    have e2 := Option.some.inj hz
    subst e2
    exact c_min2 hc pins s σ H xs us Q I rv ⟨r, S, ds, _, sim, dx, hz2, hw⟩
  · split at hz
    · rename_i d hno
      split at hz
      · rename_i i ns hq
        cases hz
        obtain ⟨v, ev, dv⟩ := dvs1 dx
        subst ev
        obtain ⟨a, ea, hs⟩ := nums_at sim dv hq
        subst ea
        obtain ⟨m1, m2⟩ := minI_ok (l := i :: ns) (by simp)
        exact cr_min hc pins s σ H _ us Q I rv ⟨a, i :: ns, rfl, hs, by simp, fun m h1 h2 => by
          have e : m = minI (i :: ns) := by
            have q1 := h2 _ m1
            have q2 := m2 m h1
            omega
          subst e
          exact hw.at sim rfl⟩
      · cases hz
    · cases hz
theorem c_maxX (hc : X.calm = true) : CallR X (.builtin "max") (rdN X.K X.mg maxX) := by
  intro pins s σ H xs us Q I rv ⟨r, S, ds, z, sim, dx, hz, hw⟩
  unfold maxX at hz
  split at hz
  · rename_i d
    split at hz
    · rename_i i ns hq
      cases hz
      obtain ⟨v, ev, dv⟩ := dvs1 dx
      subst ev
      obtain ⟨a, ea, hs⟩ := nums_at sim dv hq
      subst ea
      obtain ⟨m1, m2⟩ := maxI_ok (l := i :: ns) (by simp)
      exact cr_max hc pins s σ H _ us Q I rv ⟨a, i :: ns, rfl, hs, by simp, fun m h1 h2 => by
        have e : m = maxI (i :: ns) := by
          have q1 := h2 _ m1
          have q2 := m2 m h1
          omega
        subst e
        exact hw.at sim rfl⟩
    · cases hz
  · cases hz
end
end Kx

set_option Elab.async false
set_option linter.all false
set_option maxRecDepth 100000
set_option autoImplicit false
/-! Lo: x.upper(). -/
namespace Kx
open PySem PySem.Spec L2
def upD : OP1 := fun d _ => match d with
  | .str a => if a.length ≤ 5592405 then some (.str (Txt.upper a)) else none
  | _ => none
section
variable {X : Cx} {W : WX} {o : Expr} {mo : ME} {apos pos : Pos}
theorem je_upper (ho : JE X W o mo) (hbase : attributeBase o "upper" X.env (eval o X.env) = eval o X.env := by rfl) (hline : (apos.endLine == pos.line) = true := by rfl) : JE X W (.Call (.Attribute o "upper" apos) [] [] pos) (e1 upD mo) :=
  PEw (pe_upper ho hbase hline) fun s H Q ⟨r, G, S, sim, env, g⟩ => ⟨r, G, S, sim, env, (gE g).imp fun x H1 ⟨r1, S1, d, e1, s1, dx, g1⟩ => by
    obtain ⟨z, hz, hw⟩ := wants_of g1
    unfold upD at hz
    split at hz
    · rename_i a
      split at hz
      · rename_i hl
        cases hz
        cases (show x = .str a from dx)
        exact ⟨⟨a, rfl⟩, a, rfl, rfl, hl, hw.at s1 rfl⟩
      · cases hz
    · cases hz⟩
end
end Kx

set_option Elab.async false
set_option linter.all false
set_option maxRecDepth 100000
set_option autoImplicit false
/-! Lp: fuel 0 of a recursive def of the module. -/
namespace Kx
open PySem PySem.Spec L2 PySem.W PySem.Calls
open He (ga ma fAd Fa DefD Dv)
section
variable {P : Program} {w : World} {K : Frag} {mg : Str → Option Value} {N : Nm}
theorem has_err {d : DefD} {ps : List Str} (k : Nat) (tp : Tp P N K mg) (hd : d ∈ N.fns) (h0 : d.at_.2 = none) (h1 : d.dfl = []) (hp : d.at_.1 = d.name)
    (hb : ∀ (kV doc pm : Value) (an : Option Addr) (cdv ct : Value) (us : List Value), us.length = ps.length → bindArgs (fnOf d.name d.qual d.params d.body d.scope .none kV doc pm an cdv ct) ⟨us, []⟩ = pure (ps.zip us)) : Has P w K mg d.name ps k errF := by
  obtain ⟨fd, F⟩ := tp.fn d hd
  have e : d.dvs K = [] := by unfold He.DefD.dvs; rw [h1]; rfl
  rw [e] at F
  refine ⟨fAd K d.at_, fd, hp ▸ tp.gl d hd h0, F.kp, F.bindsN hb, fun h s u => F.bindsA hb s [u] (by simpa using h.symm), fun base tb => ⟨fun vs H Q E ⟨_, _, _, _, _, g⟩ => g.elim, fun A outer s H args us vs Q E _ _ _ _ _ ⟨_, _, _, _, _, g⟩ => g.elim⟩⟩
end
end Kx

set_option Elab.async false
set_option linter.all false
set_option maxRecDepth 100000
set_option autoImplicit false
/-! Lq: own == with a built-in left side, own != . -/
namespace Kx
open PySem PySem.Spec L2 PySem.W PySem.Calls
open He (ga ma fAd Fa DefD Dv)
open AutoSeq1 (wpAny_loadPart')
open PySem.SeqAt MeetsSeq MeetsSeq2 MeetsSeq3 SeqRoads2
theorem int_dec (b : Int) (u : Tok) (l C dx : Addr) :
    Meets (Builtin.«int.__eq__» ⟨[.int b u, .ref l], []⟩) (fun _ R s => s.heap.get? l = some (PySem.W.instObj C dx) ∧ R (.ok (.ret .notImplemented)) s) :=
  .of_wp fun prog w A R s h => by obtain ⟨hp, g, d, tk, os⟩ := s; obtain ⟨hl, h⟩ := h; wp_walk using wpAny_loadPart' hl, wpAny_load hl; exact ⟨_, rfl, h⟩
theorem bl_dec (b : Bool) (l C dx : Addr) :
    Meets (Builtin.«int.__eq__» ⟨[.bool b, .ref l], []⟩) (fun _ R s => s.heap.get? l = some (PySem.W.instObj C dx) ∧ R (.ok (.ret .notImplemented)) s) :=
  .of_wp fun prog w A R s h => by obtain ⟨hp, g, d, tk, os⟩ := s; obtain ⟨hl, h⟩ := h; wp_walk using wpAny_loadPart' hl, wpAny_load hl; exact ⟨_, rfl, h⟩
theorem str_dec (b : Str) (u : Tok) (l C dx : Addr) :
    Meets (Builtin.«str.__eq__» ⟨[.str b u, .ref l], []⟩) (fun _ R s => s.heap.get? l = some (PySem.W.instObj C dx) ∧ R (.ok (.ret .notImplemented)) s) :=
  .of_wp fun prog w A R s h => by obtain ⟨hp, g, d, tk, os⟩ := s; obtain ⟨hl, h⟩ := h; wp_walk using wpAny_loadPart' hl, wpAny_load hl; exact ⟨_, rfl, h⟩
theorem lst_dec (a l C dx : Addr) (items : Array Value) (n : Nat) (dd : Option Addr) (sl : Array (Option Value)) :
    Meets (Builtin.«list.__eq__» ⟨[.ref a, .ref l], []⟩) (fun _ R s => s.heap.get? a = some { cls := .type "list", dict := dd, data := .seq items n, slots := sl } ∧ s.heap.get? l = some (PySem.W.instObj C dx) ∧ (∀ M : Model, Looks M s.heap (isSubtype (.ref C) (.type "list")) false) ∧ R (.ok (.ret .notImplemented)) s) :=
  .of_wp fun prog w A R s h => by
    obtain ⟨hp, g, d, tk, os⟩ := s; obtain ⟨ha, hl, hn, h⟩ := h; wp_walk using wpAny_loadPart' ha, wpAny_loadPart' hl, wpAny_load hl, Looks.here (hn _); exact ⟨_, rfl, h⟩
theorem tup_dec (a l C dx : Addr) (items : Array Value) (n : Nat) (dd : Option Addr) (sl : Array (Option Value)) :
    Meets (Builtin.«tuple.__eq__» ⟨[.ref a, .ref l], []⟩) (fun _ R s => s.heap.get? a = some { cls := .type "tuple", dict := dd, data := .seq items n, slots := sl } ∧ s.heap.get? l = some (PySem.W.instObj C dx) ∧ (∀ M : Model, Looks M s.heap (isSubtype (.ref C) (.type "tuple")) false) ∧ R (.ok (.ret .notImplemented)) s) :=
  .of_wp fun prog w A R s h => by
    obtain ⟨hp, g, d, tk, os⟩ := s; obtain ⟨ha, hl, hn, h⟩ := h; wp_walk using wpAny_loadPart' ha, wpAny_loadPart' hl, wpAny_load hl, Looks.here (hn _); exact ⟨_, rfl, h⟩
section
variable {prog : Program} {w : World} {A : Around} {E : Value → Shared → Prop} {s : Shared} {K : Frag} {x C f : Addr} {ox : Obj} {od : Option Obj} {b tb : Value} {M : Model}
theorem ifBound_objNe {args : List Value} {Q : Option Value → Shared → Prop} (X : K.In s.heap) (I : InstAt s.heap x ox C od) (hs : findIn K (.ref C) "__ne__" = some (some (.builtin "object.__ne__")))
    (h : wpAny M A (call (.builtin "object.__ne__") (.ref x :: args)) (fun v => Q (some v)) E s) : wpAny M A (callSpecialIfBound? (.ref x) "__ne__" args) Q E s := by
  simp only [callSpecialIfBound?, bindSpecialIfBound?]
  refine wpAny_holding (wpAny_bind (wpAny_bind (wpAny_bind (I.type.here ((looks_findIn X hs).here ?_)))))
  refine wpAny_bind (wpAny_askSetting (wpAny_ite ?_))
  have fin : wpAny M A (call (.builtin "object.__ne__") ([.ref x] ++ args) >>= fun v => pure (some v)) Q E s := wpAny_bind (wpAny_mono h (fun v s' h' => wpAny_pure h') fun _ _ h' => h')
  split
  · exact wpAny_bind (wpAny_of_eq (F.slot_object_ne.bind _) (wpAny_pure (by exact fin)))
  · exact wpAny_tryCatch (wpAny_bind (wpAny_of_eq (F.slot_object_ne.bind _) (wpAny_pure (by exact fin))))
theorem objNe_call {Q : Value → Shared → Prop} (hu : A.units + 1 < cLine) (X : K.In s.heap) (I : InstAt s.heap x ox C od) (hm : mroIn K C (.type "object") = some true)
    (hs : findIn K (.ref C) "__eq__" = some (some (.ref f))) (hf : isFn K (.ref f) = true)
    (h : wpAny (model prog w) A.in1 (call (.ref f) [.ref x, b]) (fun v s' => ∃ k, v = .bool k ∧ Q (.bool (!k)) s') E s) :
    wpAny (model prog w) A (call (.builtin "object.__ne__") [.ref x, b]) Q E s := by
  refine wpAny_call (codeAny_call_builtin F.slot_object_ne.plain F.entry_object_ne (check_slot (n := "__ne__") (by decide +kernel) (by decide +kernel) (I.type.andThen (looks_mroIn X hm)) (F.args_object_ne_2 _ _) ?_))
  unfold Builtin.«object.__ne__»
  refine wpAny_bind (wpAny_pure ?_)
  refine wpAny_bind (wpAny_cRoomFor (by show A.units + 1 < cLine; exact hu) ?_)
  refine wpAny_bind (ifBound_K X I hs hf (wpAny_mono h (fun v s' hv => ?_) fun _ _ e => e))
  obtain ⟨k, rfl, q⟩ := hv
  exact wpAny_bind (wpAny_truthy_bool (wpAny_pure q))
end
end Kx
namespace Kx
open PySem PySem.Spec L2 PySem.W PySem.Calls
open He (ga ma fAd Fa DefD Dv)
open PySem.SeqAt MeetsSeq MeetsSeq2 MeetsSeq3 SeqRoads2
section
variable {prog : Program} {w : World} {A : Around} {E : Value → Shared → Prop} {s : Shared} {K : Frag} {x C f : Addr} {ox : Obj} {od : Option Obj} {b tb : Value}
theorem ne_left {Q : Value → Shared → Prop} (hu : A.units + 1 < cLine) (X : K.In s.heap) (I : InstAt s.heap x ox C od) (hm : mroIn K C (.type "object") = some true) (hne : findIn K (.ref C) "__ne__" = some (some (.builtin "object.__ne__")))
    (hb : Looks (model prog w) s.heap (typeOf b) tb) (hn : Value.ref C ≠ tb → Looks (model prog w) s.heap (isSubtype tb (.ref C)) false)
    (hs : findIn K (.ref C) "__eq__" = some (some (.ref f))) (hf : isFn K (.ref f) = true)
    (h : wpAny (model prog w) A.in1 (call (.ref f) [.ref x, b]) (fun v s' => ∃ k, v = .bool k ∧ Q (.bool (!k)) s') E s) : wpAny (model prog w) A (richCompare .NotEq (.ref x) b) Q E s := by
  have first : wpAny (model prog w) A (tryCompare (.ref x) "__ne__" b) (fun r s' => ∃ v, r = some v ∧ Q v s') E s := by
    unfold tryCompare
    refine wpAny_bind (ifBound_objNe X I hne (objNe_call hu X I hm hs hf (wpAny_mono h (fun v s' hv => ?_) fun _ _ e => e)))
    obtain ⟨k, rfl, q⟩ := hv
    exact ⟨k, rfl, wpAny_pure ⟨_, rfl, q⟩⟩
  unfold richCompare
  simp only [oneThing_ref]
  refine wpAny_holding (wpAny_bind (wpAny_cRoomFor (by omega) ?_))
  refine wpAny_bind (I.type.here (wpAny_bind (hb.here ?_)))
  split
  · rename_i q
    refine wpAny_bind ((hn (by simpa using q)).here ?_)
    simp only [Bool.false_eq_true, if_false]
    refine wpAny_bind (wpAny_mono first (fun r s' z => ?_) fun _ _ e => e)
    obtain ⟨v, rfl, hq⟩ := z
    exact wpAny_pure hq
  · refine wpAny_bind (wpAny_pure ?_)
    simp only [Bool.false_eq_true, if_false]
    refine wpAny_bind (wpAny_mono first (fun r s' z => ?_) fun _ _ e => e)
    obtain ⟨v, rfl, hq⟩ := z
    exact wpAny_pure hq
end
/-! ### as mirrors -/
def leftTy : D → Option String
  | .non => some "NoneType"
  | .bl _ => some "bool"
  | .int _ => some "int"
  | .str _ => some "str"
  | .tup _ => some "tuple"
  | .lst _ => some "list"
  | .rol _ => some "list"
  | _ => none
def leftTys : List String := ["NoneType", "bool", "int", "str", "tuple", "list"]
abbrev OPR := D → D → Store → Res D
def eqW (T : ITab) (tab : List (Str × FN)) : OPR := fun d e S => match clsOf S d with
  | some c => eqO T tab d e S
  | none => match clsOf S e with
    | some c => match leftTy d, tab.lookup c with
      | some n, some f => if T.ins.contains c && !T.isBas c n then okRes (f [e, d] S) else .err
      | _, _ => .err
    | none => opt (eqX d e S) S
def notRes : Res D → Res D
  | .ok (.bl b) S => .ok (.bl (!b)) S
  | _ => .err
def neW (T : ITab) (tab : List (Str × FN)) : OPR := fun d e S => match clsOf S d with
  | some c => match tagD S e, tab.lookup c with
    | some t, some f => if T.ins.contains c && (askOk T S e && notSub T c t) then notRes (f [d, e] S) else .err
    | _, _ => .err
  | none => match clsOf S e with
    | some _ => .err
    | none => opt (notOf eqX d e S) S
def rdR (K : Frag) (mg : Str → Option Value) (op : OPR) : R2 := fun x y H Q => ∃ r S d e, Sim K mg r S H ∧ DV (cx K mg r S H) d x ∧ DV (cx K mg r S H) e y ∧ GoodE K mg r S H (fun _ _ _ => False) Q (op d e S)
section
variable {N : Nm} {X : Cx} {W : WX} {k : Nat}
theorem own_run {A' : Around} {c m : Str} {ps : List Str} {j : Nat} {f : FN} {pins : List (Addr × Obj)} {σ : L2.St} {H : Hp} {s : Shared} {vs : List V} {us : List Value} {Q : VK} (C : Cn N X W k) (fr : A'.frames = X.A.frames) (hG : A'.guards = some []) (hr : Room j A')
    (HM : HasM X.prog X.w X.K X.mg c m ps j f) (I : Inv X pins σ H s) (rv : Vals vs us) (h : spF X.K X.mg f vs H Q (fun _ _ _ => False)) :
    wpAny (model X.prog X.w) A' (call (.ref (fAd X.K (c, some m))) us) (EP X pins σ Q) X.xe s := by
  obtain ⟨fd, hb, FG⟩ := HM.ex
  have FG := FG X.base C.tb
  have hlen : us.length = ps.length := (rv.length).symm.trans (FG.len _ _ _ _ h)
  have e0 : Env0 X.prog X.w X.K X.mg X.base A' X.stack s H := by
    have e := I.env0
    exact ⟨by rw [fr]; exact e.frames, e.mod, e.bs, e.bsz, e.funs, e.frf, e.hok, e.bare⟩
  have hb' := hb s us I.kIn (by simpa using hlen)
  rw [List.append_nil] at hb'
  have go := FG.run A' X.stack s H ⟨us, []⟩ us vs Q (fun _ _ _ => False) hG hr e0 hb' rv h
  refine wpAny_call (codeAny_mono go ?_)
  intro z s' hz
  rcases call_end I (passAt (W := fun _ _ _ _ => False) LamX.takes0 σ) hz with ⟨u, e, h⟩ | ⟨er, e, h⟩
  · subst e; exact h
  · subst e; exact h
theorem ep_bool {pins : List (Addr × Obj)} {σ : L2.St} {Q : VK} {v : Value} {s' : Shared} (h : EP X pins σ (fun z H' => ∃ b, z = .bl b ∧ Q z H') v s') : ∃ b, v = .bool b ∧ EP X pins σ Q v s' := by
  obtain ⟨z, H', I', rz, b, rfl, q⟩ := h
  cases rz
  exact ⟨b, rfl, .bl b, H', I', rfl, q⟩
theorem ne_sub {c : Str} {n : String} {K : Frag} {mg : Str → Option Value} {M : Model} {h : Heap} (it : IFacts N.T K mg) (X : K.In h) (hc : c ∈ N.T.cls) (hn : n ∈ askTys) (hb : N.T.isBas c n = false) : Looks M h (isSubtype (.ref (ga K c)) (.type n)) false := by
  have q := it.bas c n hc hn
  rw [hb] at q
  exact kit_sub X q (by intro z; cases z)
end
end Kx

set_option Elab.async false
set_option linter.all false
set_option maxRecDepth 100000
set_option autoImplicit false
/-! Lr: own == and != as rules. -/
namespace Kx
open PySem PySem.Spec L2 PySem.W PySem.Calls
open He (ga ma fAd Fa DefD Dv)
open PySem.SeqAt MeetsSeq MeetsSeq2 MeetsSeq3 SeqRoads2
section
variable {N : Nm} {X : Cx} {W : WX} {k : Nat}
theorem left_no {d : D} {n : String} {x : V} {v : Value} {a C dd : Addr} {fs : List (Str × V)} {pins : List (Addr × Obj)} {σ : L2.St} {H : Hp} {s : Shared} {r : Rg} {S : Store} {E : Value → Shared → Prop} (hn : leftTy d = some n) (I : Inv X pins σ H s) (dx : DV (cx X.K X.mg r S H) d x) (rx : RelV x v) (ha : H a = some (.ins C dd fs))
    (hs : ∀ m, m = "list" ∨ m = "tuple" → m = n → ∀ M : Model, Looks M s.heap (isSubtype (.ref C) (.type m)) false) : s.TypeIs v n ∧ wpAny (model X.prog X.w) X.A (tryCompare v "__eq__" (.ref a)) (fun r s' => r = none ∧ s' = s) E s := by
  obtain ⟨_, _, _, hI, _⟩ := I.hok a _ ha
  cases d <;> simp only [leftTy, Option.some.injEq, reduceCtorEq] at hn <;> subst hn
  · cases dx; cases rx
    exact ⟨rfl, wpAny_tryCompare_declines (T := "NoneType") rfl F.slot_NoneType_eq (call_gives F.slot_NoneType_eq rfl F.entry_NoneType_eq (F.args_NoneType_eq_2 _ _) (NoneType___eq___none_ref_0 a) ⟨rfl, rfl, rfl⟩)⟩
  · cases dx; cases rx
    exact ⟨rfl, wpAny_tryCompare_declines (T := "bool") rfl F.slot_bool_eq (call_meets F.slot_bool_eq rfl F.entry_int_eq (F.args_int_eq_2 _ _) (bl_dec _ a C dd) ⟨hI, rfl, rfl, rfl⟩)⟩
  · cases dx; obtain ⟨t, rfl⟩ := rx
    exact ⟨rfl, wpAny_tryCompare_declines (T := "int") rfl F.slot_int_eq (call_meets F.slot_int_eq rfl F.entry_int_eq (F.args_int_eq_2 _ _) (int_dec _ _ a C dd) ⟨hI, rfl, rfl, rfl⟩)⟩
  · cases dx; obtain ⟨t, rfl⟩ := rx
    exact ⟨rfl, wpAny_tryCompare_declines (T := "str") rfl F.slot_str_eq (call_meets F.slot_str_eq rfl F.entry_str_eq (F.args_str_eq_2 _ _) (str_dec _ _ a C dd) ⟨hI, rfl, rfl, rfl⟩)⟩
  · obtain ⟨b, vs, e, hq, hd⟩ := dx
    subst e; cases rx
    obtain ⟨its, _, ⟨⟨cls, dct, data, sl⟩, ho, hc, m, hdd⟩, _⟩ := I.tuple (sqT_of hq)
    simp only at hc hdd
    subst hc hdd
    exact ⟨⟨_, ho, rfl⟩, wpAny_tryCompare_declines (T := "tuple") ⟨_, ho, rfl⟩ F.slot_tuple_eq (call_meets F.slot_tuple_eq ⟨_, ho, rfl⟩ F.entry_tuple_eq (F.args_tuple_eq_2 _ _) (tup_dec b a C dd _ _ _ _) ⟨ho, hI, hs "tuple" (.inr rfl) rfl, rfl, rfl, rfl⟩)⟩
  · obtain ⟨b, vs, e, hq, hd⟩ := dx
    subst e; cases rx
    obtain ⟨its, _, ⟨⟨cls, dct, data, sl⟩, m, ho, hc, h2, h3⟩, _⟩ := I.list (SqL.of (K := X.K) hq.1)
    simp only at hc h2 h3
    subst hc h2 h3
    exact ⟨⟨_, ho, rfl⟩, wpAny_tryCompare_declines (T := "list") ⟨_, ho, rfl⟩ F.slot_list_eq (call_meets F.slot_list_eq ⟨_, ho, rfl⟩ F.entry_list_eq (F.args_list_eq_2 _ _) (lst_dec b a C dd _ _ _ _) ⟨ho, hI, hs "list" (.inl rfl) rfl, rfl, rfl, rfl⟩)⟩
  · obtain ⟨b, vs, e, hq, hd⟩ := dx
    subst e; cases rx
    obtain ⟨its, _, ⟨⟨cls, dct, data, sl⟩, m, ho, hc, h2, h3⟩, _⟩ := I.list (sqL_of hq)
    simp only at hc h2 h3
    subst hc h2 h3
    exact ⟨⟨_, ho, rfl⟩, wpAny_tryCompare_declines (T := "list") ⟨_, ho, rfl⟩ F.slot_list_eq (call_meets F.slot_list_eq ⟨_, ho, rfl⟩ F.entry_list_eq (F.args_list_eq_2 _ _) (lst_dec b a C dd _ _ _ _) ⟨ho, hI, hs "list" (.inl rfl) rfl, rfl, rfl, rfl⟩)⟩
theorem left_ask {d : D} {n : String} (h : leftTy d = some n) : n ∈ askTys := by
  cases d <;> simp only [leftTy, Option.some.injEq, reduceCtorEq] at h <;> subst h <;> decide
theorem left_tag {S : Store} {d : D} {n : String} (h : leftTy d = some n) : tagD S d = some (.ty n) := by
  cases d <;> simp only [leftTy, Option.some.injEq, reduceCtorEq] at h <;> subst h <;> rfl
theorem left_askOk {T : ITab} {S : Store} {d : D} {n : String} (h : leftTy d = some n) : askOk T S d = true := by
  cases d <;> simp only [leftTy, Option.some.injEq, reduceCtorEq] at h <;> rfl
theorem good_ok {K : Frag} {mg : Str → Option Value} {r : Rg} {S : Store} {H : Hp} {W' : Value → Option Addr → Hp → Prop} {Q : VK} {z : Res D} (g : GoodE K mg r S H W' Q (okRes z)) : GoodE K mg r S H (fun _ _ _ => False) Q z := by
  unfold okRes at g
  split at g
  · exact g
  · exact g.elim
theorem o_eqW {tab : List (Str × FN)} (C : Cn N X W k) (ht : EqT N X k tab) : OpR X (compareOp .Eq) (rdR X.K X.mg (eqW N.T tab)) := by
  intro pins s σ H x y v u Q I rx ry ⟨r, S, d, e, sim, dx, dy, g⟩
  unfold eqW at g
  split at g
  · exact o_eqO C ht pins s σ H x y v u Q I rx ry ⟨r, S, d, e, sim, dx, dy, g⟩
  · split at g
    · rename_i c hc
      split at g
      · rename_i n f hl hf
        split at g
        · rename_i hck
          obtain ⟨c1, c2⟩ := b2 hck
          have c2 : N.T.isBas c n = false := by simpa using c2
          have hin := mem_of c1
          have hcl : c ∈ N.T.cls := List.mem_append_right _ hin
          have hgl := C.tp.it.glo c hcl
          obtain ⟨hm, j, hj, HM⟩ := ht c f hf
          have hmt := C.tp.mt (c, "__eq__") (mem_of hm)
          obtain ⟨a, dd, fs, ea, hH⟩ := clsOf_ok hgl sim dy hc
          subst ea
          cases ry
          obtain ⟨mA, O, _⟩ := ins_get I.hok hH
          obtain ⟨od, J, _⟩ := O.look
          have hsub : ∀ M : Model, Looks M s.heap (isSubtype (.ref (ga X.K c)) (.type n)) false := fun M => ne_sub C.tp.it I.kIn hcl (left_ask hl) c2
          obtain ⟨hT, hno⟩ := left_no (E := X.xe) hl I dx rx hH (fun m _ em => by subst em; exact hsub)
          show wpAny (model X.prog X.w) X.A (richCompare .Eq v (.ref a)) (EP X pins σ Q) X.xe s
          obtain ⟨P, Z, hp, _⟩ := kit_D C.tp.it I sim dx rx (left_tag hl) (left_askOk hl)
          have hty := Z.ty (model X.prog X.w) s.heap I.kIn hp
          refine cmp_right C.hr.units0 I.kIn J (hT.oneThing_none _ _) hty (by rfl) (hsub _) hno hmt.at_ hmt.fn ?_
          · have hsp : spF X.K X.mg f [.ref a, x] H Q (fun _ _ _ => False) := ⟨r, S, [e, d], sim, DVs.cons dy (DVs.cons dx DVs.nil), good_ok g⟩
            have go := own_run (vs := [.ref a, x]) (us := [.ref a, v]) C rfl C.hG (C.hr.mono hj) HM I (.cons rfl (.cons rx .nil)) hsp
            refine wpAny_mono go (fun w s' q => ?_) fun _ _ e => e
            obtain ⟨z, H', I', rz, q'⟩ := q
            have q2 : EP X pins σ Q w s' := ⟨z, H', I', rz, q'⟩
            cases w <;> first | exact q2 | (cases z <;> first | (obtain ⟨_, z0⟩ := rz; cases z0) | cases rz)
        · exact g.elim
      · exact g.elim
    · obtain ⟨z, hz, hw⟩ := wants_of g
      exact o_eqX C.u64 pins s σ H x y v u Q I rx ry ⟨r, S, d, e, z, sim, dx, dy, hz, hw⟩
theorem good_not {K : Frag} {mg : Str → Option Value} {r : Rg} {S : Store} {H : Hp} {W' : Value → Option Addr → Hp → Prop} {Q : VK} {z : Res D} (g : GoodE K mg r S H W' Q (notRes z)) : GoodE K mg r S H (fun _ _ _ => False) (fun v H' => ∃ b, v = .bl b ∧ Q (.bl (!b)) H') z := by
  unfold notRes at g
  split at g
  · exact fun r' H' v e sm dv => ⟨_, dv, g r' H' _ e sm rfl⟩
  · exact g.elim
theorem o_neW {tab : List (Str × FN)} (C : Cn N X W (k + 1)) (ht : EqT N X k tab) : OpR X (compareOp .NotEq) (rdR X.K X.mg (neW N.T tab)) := by
  intro pins s σ H x y v u Q I rx ry ⟨r, S, d, e, sim, dx, dy, g⟩
  unfold neW at g
  split at g
  · rename_i c hc
    split at g
    · rename_i t f htag hf
      split at g
      · rename_i hck
        obtain ⟨c1, c2⟩ := b2 hck
        obtain ⟨c2, c3⟩ := b2 c2
        have hin := mem_of c1
        have hcl : c ∈ N.T.cls := List.mem_append_right _ hin
        have hgl := C.tp.it.glo c hcl
        obtain ⟨hm, j, hj, HM⟩ := ht c f hf
        have hmt := C.tp.mt (c, "__eq__") (mem_of hm)
        obtain ⟨a, dd, fs, ea, hH⟩ := clsOf_ok hgl sim dx hc
        subst ea
        cases rx
        obtain ⟨mA, O, _⟩ := ins_get I.hok hH
        obtain ⟨od, J, _⟩ := O.look
        obtain ⟨P, Z, hp, _⟩ := kit_D C.tp.it I sim dy ry htag c2
        have hty := Z.ty (model X.prog X.w) s.heap I.kIn hp
        show wpAny (model X.prog X.w) X.A (richCompare .NotEq (.ref a) u) (EP X pins σ Q) X.xe s
        refine ne_left C.u1 I.kIn J (C.tp.it.ins c hin).2.2.2.2 (C.tp.it.ne c hin) hty (fun hne => ?_) hmt.at_ hmt.fn ?_
        · cases t with
          | ty n => exact kit_sub I.kIn (C.tp.it.val n c (mem_of c3) hcl) hne
          | own z =>
            obtain ⟨q1, q2⟩ := b2 c3
            have q3 := C.tp.it.own z c (mem_of q1) hcl
            rcases Bool.or_eq_true_iff.mp q2 with q | q
            · have ez := of_decide_eq_true q
              subst ez
              exact absurd rfl hne
            · have q : N.T.isSub z c = false := by simpa using q
              rw [q] at q3
              exact kit_sub I.kIn q3 hne
        · have hsp : spF X.K X.mg f [.ref a, y] H (fun v H' => ∃ b, v = .bl b ∧ Q (.bl (!b)) H') (fun _ _ _ => False) := ⟨r, S, [d, e], sim, DVs.cons dx (DVs.cons dy DVs.nil), good_not g⟩
          have go := own_run (vs := [.ref a, y]) (us := [.ref a, u]) (A' := X.A.in1) C rfl C.hG (C.hr.in1.mono hj) HM I (.cons rfl (.cons ry .nil)) hsp
          refine wpAny_mono go (fun w s' q => ?_) fun _ _ e => e
          obtain ⟨z, H', I', rz, b, ez, q'⟩ := q
          subst ez
          cases rz
          exact ⟨b, rfl, .bl (!b), H', I', rfl, q'⟩
      · exact g.elim
    · exact g.elim
  · split at g
    · exact g.elim
    · obtain ⟨z, hz, hw⟩ := wants_of g
      exact o_neX C.u64 pins s σ H x y v u Q I rx ry ⟨r, S, d, e, z, sim, dx, dy, hz, hw⟩
end
/-! ### as expressions -/
def eR (op : OPR) (ma mb : ME) : ME := fun G S => (ma G S).bind fun d S1 => (mb G S1).bind fun e S2 => op d e S2
def NoExc (op : OPR) : Prop := ∀ d e S, (∃ z S', op d e S = .ok z S') ∨ op d e S = .err
theorem okRes_cases (z : Res D) : (∃ d S, okRes z = .ok d S) ∨ okRes z = .err := by
  unfold okRes; split
  · exact .inl ⟨_, _, rfl⟩
  · exact .inr rfl
theorem notRes_cases (z : Res D) : (∃ d S, notRes z = .ok d S) ∨ notRes z = .err := by
  unfold notRes; split
  · exact .inl ⟨_, _, rfl⟩
  · exact .inr rfl
theorem opt_cases (z : Option D) (S : Store) : (∃ d S', opt z S = .ok d S') ∨ opt z S = .err := by
  cases z with
  | none => exact .inr rfl
  | some z => exact .inl ⟨z, S, rfl⟩
theorem noexc_eqW (T : ITab) (tab : List (Str × FN)) : NoExc (eqW T tab) := fun d e S => by
  unfold eqW
  repeat' split
  all_goals first | exact .inr rfl | exact okRes_cases _ | exact opt_cases _ _ | exact eqO_cases _ _ _ _ _
theorem noexc_neW (T : ITab) (tab : List (Str × FN)) : NoExc (neW T tab) := fun d e S => by
  unfold neW
  repeat' split
  all_goals first | exact .inr rfl | exact notRes_cases _ | exact opt_cases _ _
section
variable {N : Nm} {X : Cx} {W : WX} {k : Nat} {a b : Expr} {ma mb : ME} {pos : Pos} {op : OPR}
theorem good_R {K : Frag} {mg : Str → Option Value} {r : Rg} {S : Store} {H : Hp} {W' : Value → Option Addr → Hp → Prop} {Q : VK} {d e : D} (hn : NoExc op) (g : GoodE K mg r S H W' Q (op d e S)) : GoodE K mg r S H (fun _ _ _ => False) Q (op d e S) := by
  rcases hn d e S with ⟨z, S', q⟩ | q
  · rw [q] at g ⊢
    exact g
  · rw [q] at g
    exact g.elim
theorem je_R {cm : CmpOp} (ho : OpR X (compareOp cm) (rdR X.K X.mg op)) (hn : NoExc op) (ha : JE X W a ma) (hb : JE X W b mb) (hm : behindInMarks cm b = false := by rfl) : JE X W (.Compare a [cm] [b] pos) (eR op ma mb) :=
  PEw (pe_cmpR ho ha hb hm) fun s H Q ⟨r, G, S, sim, env, g⟩ => ⟨r, G, S, sim, env, (gE g).imp fun x H1 ⟨r1, S1, d, e1, s1, dx, g1⟩ => ⟨r1, G, S1, s1, env.ext e1, (gE g1).imp fun y H2 ⟨r2, S2, e, e2, s2, dy, g2⟩ =>
    ⟨r2, S2, d, e, s2, dx.ext e2, dy, good_R hn g2⟩⟩⟩
theorem jt_R {cm : CmpOp} (ho : OpR X (compareOp cm) (rdR X.K X.mg op)) (hn : NoExc op) (ha : JE X W a ma) (hb : JE X W b mb) (hm : behindInMarks cm b = false := by rfl) : JT X W (.Compare a [cm] [b] pos) (tOfE (eR op ma mb)) :=
  PTw (pt_cmpR ho ha hb hm) fun s H Q ⟨r, G, S, sim, env, g⟩ => by
    have g' := gET g
    refine ⟨r, G, S, sim, env, (gE g').imp fun x H1 ⟨r1, S1, d, e1, s1, dx, g1⟩ => ⟨r1, G, S1, s1, env.ext e1, (gE g1).imp fun y H2 ⟨r2, S2, e, e2, s2, dy, g2⟩ => ?_⟩⟩
    refine ⟨r2, S2, d, e, s2, dx.ext e2, dy, GoodE.imp (good_R hn g2) fun v H3 q => ?_⟩
    obtain ⟨r4, S4, d4, e4, s4, dx4, g4⟩ := q
    cases d4 <;> try exact g4.elim
    rename_i kk
    exact ⟨kk, dx4, g4 r4 H3 Ext.refl s4⟩
theorem q_eqW {tab : List (Str × FN)} (C : Cn N X W k) (ht : EqT N X k tab) (ha : JE X W a ma) (hb : JE X W b mb) (hm : behindInMarks .Eq b = false := by rfl) : JE X W (.Compare a [.Eq] [b] pos) (eR (eqW N.T tab) ma mb) := je_R (o_eqW C ht) (noexc_eqW _ _) ha hb hm
theorem q_neW {tab : List (Str × FN)} {j : Nat} (C : Cn N X W k) (hk : j + 1 = k) (ht : EqT N X j tab) (ha : JE X W a ma) (hb : JE X W b mb) (hm : behindInMarks .NotEq b = false := by rfl) : JE X W (.Compare a [.NotEq] [b] pos) (eR (neW N.T tab) ma mb) := by
  subst hk
  exact je_R (o_neW C ht) (noexc_neW _ _) ha hb hm
theorem qt_eqW {tab : List (Str × FN)} (C : Cn N X W k) (ht : EqT N X k tab) (ha : JE X W a ma) (hb : JE X W b mb) (hm : behindInMarks .Eq b = false := by rfl) : JT X W (.Compare a [.Eq] [b] pos) (tOfE (eR (eqW N.T tab) ma mb)) := jt_R (o_eqW C ht) (noexc_eqW _ _) ha hb hm
theorem qt_neW {tab : List (Str × FN)} {j : Nat} (C : Cn N X W k) (hk : j + 1 = k) (ht : EqT N X j tab) (ha : JE X W a ma) (hb : JE X W b mb) (hm : behindInMarks .NotEq b = false := by rfl) : JT X W (.Compare a [.NotEq] [b] pos) (tOfE (eR (neW N.T tab) ma mb)) := by
  subst hk
  exact jt_R (o_neW C ht) (noexc_neW _ _) ha hb hm
theorem eqT_nil : EqT N X k [] := fun c f h => by cases h
theorem eqT_cons {c : Str} {f : FN} {tab : List (Str × FN)} {j : Nat} (hm : N.mts.contains (c, "__eq__") = true) (hj : j ≤ k) (h : HasM X.prog X.w X.K X.mg c "__eq__" ["self", "other"] j f) (t : EqT N X k tab) : EqT N X k ((c, f) :: tab) := fun c' f' e => by
  rw [List.lookup_cons] at e
  split at e
  · rename_i q
    have := eq_of_beq q
    subst this
    cases e
    exact ⟨hm, j, hj, h⟩
  · exact t c' f' e
end
end Kx

set_option Elab.async false
set_option linter.all false
set_option maxRecDepth 100000
set_option autoImplicit false
/-! Ls: repr of single values and of lists that are cells. -/
namespace Kx
open PySem PySem.Spec L2
def showX : OPN := fun ds S => match ds with
  | [.non] => some (.str "None")
  | [.bl b] => some (.str (if b then "True" else "False"))
  | [.int i] => if i.natAbs.log2 < 1920 then some (.str (toString i)) else none
  | [.str x] => if (reprText x).length ≤ sizeLine then some (.str (reprText x)) else none
  | [d] => match showD [viewD S d] S with
    | some z => some z
    | none => none
  | _ => none
section
variable {X : Cx} {pins : List (Addr × Obj)} {σ : L2.St} {H : Hp} {s : Shared}
theorem view_reads {r : Rg} {S : Store} {d : D} {v : V} {u : Value} {p : PyData} (I : Inv X pins σ H s) (hS : H sysModules = none) (sim : Sim X.K X.mg r S H) (h : DV (cx X.K X.mg r S H) d v) (rv : RelV v u) (k : isThing (viewD S d) = true) (e : toR (viewD S d) = some p) :
    ∃ a as, v = .ref a ∧ Reads s.heap u p as ∧ sysModules ∉ as := by
  unfold viewD at e k
  split at e
  · rename_i n
    split at e
    · rename_i ds hd
      obtain ⟨a, ea, ha⟩ := h
      obtain ⟨vs, h1, h2⟩ := sim.cell n _ a hd ha
      simp only [toR] at e
      cases q : toRs ds with
      | none => rw [q] at e; simp at e
      | some ps =>
        rw [q] at e
        simp only [Option.map_some, Option.some.injEq] at e
        subst e ea
        cases (show u = .ref a from rv)
        have h1 : H a = some (.lst vs) := h1
        obtain ⟨its, rvs, ⟨o, n, ho, hc, _, hd⟩, _⟩ := I.list (SqL.of (K := X.K) h1)
        obtain ⟨as, hr, hn⟩ := toRs_ok I hS ds _ its ps h2 rvs q
        refine ⟨a, _, rfl, Reads.list ho hc hd hr, fun m => ?_⟩
        rcases List.mem_cons.mp m with m | m
        · rw [← m, hS] at h1; cases h1
        · exact hn m
    · simp [toR] at e
  · have k2 : isThing d = true := by
      cases d <;> first | exact k | (rename_i q; exact absurd rfl (q _)) | (rename_i q _; exact absurd rfl (q _))
    obtain ⟨a, ea⟩ := isRef h k2
    obtain ⟨as, h1, h2⟩ := toR_ok I hS d v u p h rv e
    exact ⟨a, as, ea, h1, h2⟩
theorem c_reprX (hg : X.A.guards = some []) (hu : X.A.units + 64 < cLine) (hS : ∃ o, X.K.lookup sysModules = some o) : CallR X (.builtin "repr") (rdN X.K X.mg showX) := by
  intro pins s σ H xs us Q I rv ⟨r, S, ds, z, sim, dx, hz, hw⟩
  unfold showX at hz
  split at hz
  · obtain ⟨v, ev, dv⟩ := dvs1 dx
    subst ev
    cases rv with
    | cons r1 r2 =>
      cases r2; cases dv; cases r1; cases hz
      exact PySem.P.repr_of_none ⟨.str _, H, I.kept (fun _ _ e => e), ⟨_, rfl⟩, hw.at sim rfl⟩
  · obtain ⟨v, ev, dv⟩ := dvs1 dx
    subst ev
    cases rv with
    | cons r1 r2 =>
      cases r2; cases dv; cases r1; cases hz
      exact PySem.P.repr_of_bool ⟨.str _, H, I.kept (fun _ _ e => e), ⟨_, rfl⟩, hw.at sim rfl⟩
  · split at hz
    · rename_i hl
      obtain ⟨v, ev, dv⟩ := dvs1 dx
      subst ev
      cases rv with
      | cons r1 r2 =>
        cases r2; cases dv; obtain ⟨t, rfl⟩ := r1; cases hz
        exact PySem.P.repr_of_int hl ⟨.str _, H, I.kept (fun _ _ e => e), ⟨_, rfl⟩, hw.at sim rfl⟩
    · cases hz
  · split at hz
    · rename_i hl
      obtain ⟨v, ev, dv⟩ := dvs1 dx
      subst ev
      cases rv with
      | cons r1 r2 =>
        cases r2; cases dv; obtain ⟨t, rfl⟩ := r1; cases hz
        exact PySem.P.repr_of_str ⟨.str _, H, I.kept (fun _ _ e => e), ⟨_, rfl⟩, hw.at sim rfl⟩ hl
    · cases hz
  · rename_i d _ _ _ _
    split at hz
    · rename_i z2 hz2
      have ez := Option.some.inj hz
      subst ez
      obtain ⟨o, ho⟩ := hS
      have hs0 : H sysModules = none := (I.bs _ o (I.mod.kin _ _ ho)).2
      obtain ⟨v, ev, dv⟩ := dvs1 dx
      subst ev
      obtain ⟨u, rfl, ru⟩ : ∃ u, us = [u] ∧ RelV v u := by
        cases rv with
        | cons r1 r2 => cases r2; exact ⟨_, rfl, r1⟩
      unfold showD at hz2
      dsimp only at hz2
      split at hz2
      · rename_i hk
        cases hp : toR (viewD S d) with
        | none => rw [hp] at hz2; cases hz2
        | some p =>
          rw [hp] at hz2
          have hz2 : (if showOk p = true then some (D.str p.shown) else none) = some z2 := hz2
          split at hz2
          · rename_i hc
            cases hz2
            obtain ⟨a, as, ea, h1, h2⟩ := view_reads I hs0 sim dv ru hk hp
            subst ea
            cases (show u = .ref a from ru)
            obtain ⟨c1, c2⟩ := Bool.and_eq_true_iff.mp hc
            obtain ⟨c2, c3⟩ := Bool.and_eq_true_iff.mp c2
            have c3 := of_decide_eq_true c3
            exact repr_of_reads' h1 c1 (fun _ => h2) hg (by omega) (fun _ _ e => e) (fun h' t tk hk => ⟨.str _, H, I.kept hk, ⟨t, rfl⟩, hw.at sim rfl⟩) (of_decide_eq_true c2)
          · cases hz2
      · cases hz2
    · cases hz
  · cases hz
end
end Kx

set_option Elab.async false
set_option linter.all false
set_option maxRecDepth 100000
set_option autoImplicit false
/-! Lt: a statement behind which the cells that it made are forgotten. -/
namespace Kx
open PySem PySem.Spec L2
mutual
def noLoc (k : Nat) : D → Bool
  | .loc n => decide (n < k)
  | .tup ds => noLocs k ds
  | .lst ds => noLocs k ds
  | .rol ds => noLocs k ds
  | .dic _ ds => noLocs k ds
  | .ins _ _ ds => noLocs k ds
  | .exc _ _ ds => noLocs k ds
  | _ => true
def noLocs (k : Nat) : List D → Bool
  | [] => true
  | d :: ds => noLoc k d && noLocs k ds
end
def noLocC (k : Nat) : Cell → Bool
  | .dead => true
  | .lst ds => noLocs k ds
  | .dic _ ds => noLocs k ds
  | .ins _ _ ds => noLocs k ds
def trimO (k : Nat) : Option D → Option D
  | some d => if noLoc k d then some d else none
  | none => none
def trimG (k : Nat) (G : En) : En := G.map (trimO k)
def sTrim (m : MS) : MS := fun G S => match m G S with
  | .nx G1 S1 => if (S1.take S.length).all (noLocC S.length) then .nx (trimG S.length G1) (S1.take S.length) else .err
  | z => z
section
variable {K : PySem.W.Frag} {mg : Str → Option Value} {r r2 : Rg} {S S2 : Store} {H : Hp} {k : Nat}
structure Tr (k : Nat) (r : Rg) (S : Store) (r2 : Rg) (S2 : Store) : Prop where
  at_ : ∀ (n : Nat) (a : Addr), n < k → r.as[n]? = some a → r2.as[n]? = some a
  lv : ∀ a, Live r2 S2 a → Live r S a
mutual
theorem DV.trim (t : Tr k r S r2 S2) : ∀ {d : D} {v : V}, noLoc k d = true → DV (cx K mg r S H) d v → DV (cx K mg r2 S2 H) d v
  | .non, _, _, h => h
  | .bl _, _, _, h => h
  | .int _, _, _, h => h
  | .str _, _, _, h => h
  | .ty _, _, _, h => h
  | .fn _, _, _, h => h
  | .loc n, _, hn, ⟨a, h1, h2⟩ => ⟨a, h1, t.at_ n a (by simpa [noLoc] using hn) h2⟩
  | .tup ds, _, hn, ⟨a, vs, h1, h2, h3⟩ => by
    refine ⟨a, vs, h1, ?_, DVs.trim t (by simpa [noLoc] using hn) h3⟩
    rcases h2 with ⟨h2, n⟩ | h2
    · exact .inl ⟨h2, fun q => n (t.lv a q)⟩
    · exact .inr h2
  | .lst ds, _, hn, ⟨a, vs, h1, h2, h3⟩ => ⟨a, vs, h1, ⟨h2.1, fun q => h2.2 (t.lv a q)⟩, DVs.trim t (by simpa [noLoc] using hn) h3⟩
  | .rol ds, _, hn, ⟨a, vs, h1, h2, h3⟩ => by
    refine ⟨a, vs, h1, ?_, DVs.trim t (by simpa [noLoc] using hn) h3⟩
    rcases h2 with ⟨h2, n⟩ | h2
    · exact .inl ⟨h2, fun q => n (t.lv a q)⟩
    · exact .inr h2
  | .dic ks ds, _, hn, ⟨a, kvs, h1, h2, n, h3, h4⟩ => ⟨a, kvs, h1, h2, fun q => n (t.lv a q), h3, DVs.trim t (by simpa [noLoc] using hn) h4⟩
  | .ins x ns ds, _, hn, ⟨a, C, dx, fs, h1, hm, h2, n, h3, h4⟩ => ⟨a, C, dx, fs, h1, hm, h2, fun q => n (t.lv a q), h3, DVs.trim t (by simpa [noLoc] using hn) h4⟩
  | .exc x ns ds, _, hn, ⟨a, C, d, fs, h1, hm, h2, n, hd, h3, h4⟩ => by
    refine ⟨a, C, d, fs, h1, hm, h2, fun q => n (t.lv a q), ?_, h3, DVs.trim t (by simpa [noLoc] using hn) h4⟩
    cases d with
    | none => exact hd
    | some dx => exact ⟨hd.1, fun q => hd.2 (t.lv dx q)⟩
theorem DVs.trim (t : Tr k r S r2 S2) : ∀ {ds : List D} {vs : List V}, noLocs k ds = true → DVs (cx K mg r S H) ds vs → DVs (cx K mg r2 S2 H) ds vs
  | [], _, _, h => h
  | _ :: _, _, hn, ⟨v, u, h1, h2, h3⟩ => by
    simp only [noLocs, Bool.and_eq_true] at hn
    exact ⟨v, u, h1, DV.trim t hn.1 h2, DVs.trim t hn.2 h3⟩
end
theorem CellOk.trim (t : Tr k r S r2 S2) {a : Addr} {c : Cell} (hn : noLocC k c = true) (h : CellOk (cx K mg r S H) a c) : CellOk (cx K mg r2 S2 H) a c := by
  cases c with
  | dead => trivial
  | lst ds => obtain ⟨vs, h1, h2⟩ := h; exact ⟨vs, h1, DVs.trim t hn h2⟩
  | dic ks ds => obtain ⟨kvs, h1, h2, h3⟩ := h; exact ⟨kvs, h1, h2, DVs.trim t hn h3⟩
  | ins x ns ds => obtain ⟨C, dx, fs, hm, h1, h2, h3⟩ := h; exact ⟨C, dx, fs, hm, h1, h2, DVs.trim t hn h3⟩
theorem EnvR.trim (t : Tr k r S r2 S2) {G : En} {s : L2.St} (h : EnvR (cx K mg r S H) G s) : EnvR (cx K mg r2 S2 H) (trimG k G) s := by
  refine ⟨by unfold trimG; rw [List.length_map]; exact h.1, fun i d q => ?_⟩
  unfold trimG at q
  rw [List.getElem?_map] at q
  cases e : G[i]? with
  | none => rw [e] at q; cases q
  | some o =>
    rw [e] at q
    cases o with
    | none => cases q
    | some d' =>
      have q : trimO k (some d') = some d := by simpa using q
      by_cases hn : noLoc k d' = true
      · simp only [trimO, hn, if_true, Option.some.injEq] at q
        subst q
        obtain ⟨v, h1, h2⟩ := h.2 i _ e
        exact ⟨v, h1, DV.trim t hn h2⟩
      · simp [trimO, hn] at q
theorem get_take {α : Type} {l : List α} {n k : Nat} {a : α} (h : (l.take k)[n]? = some a) : l[n]? = some a ∧ n < k := by
  rw [List.getElem?_take] at h
  split at h
  · rename_i hn; exact ⟨h, hn⟩
  · cases h
theorem Sim.trim (s : Sim K mg r S H) (hc : (S.take k).all (noLocC k) = true) : Tr k r S ⟨r.as.take k, r.z⟩ (S.take k) ∧ Sim K mg ⟨r.as.take k, r.z⟩ (S.take k) H := by
  have t : Tr k r S ⟨r.as.take k, r.z⟩ (S.take k) := by
    refine ⟨fun n a hn h => ?_, fun a h => ?_⟩
    · show (r.as.take k)[n]? = some a
      rw [List.getElem?_take, if_pos hn]; exact h
    · rcases h with ⟨n, c, h1, h2, h3⟩ | h
      · exact .inl ⟨n, c, (get_take h1).1, (get_take h2).1, h3⟩
      · exact .inr h
  refine ⟨t, ⟨?_, fun i j a ci cj h1 h2 h3 h4 h5 h6 => ?_, fun n c a h1 h2 => ?_, fun n c a h1 h2 h3 => ?_, s.res, s.tab⟩⟩
  · show (r.as.take k).length = (S.take k).length
    rw [List.length_take, List.length_take, s.len]
  · exact s.inj i j a ci cj (get_take h1).1 (get_take h2).1 (get_take h3).1 (get_take h4).1 h5 h6
  · have hm : c ∈ S.take k := List.mem_of_getElem? h1
    exact (s.cell n c a (get_take h1).1 (get_take h2).1).trim t (List.all_eq_true.mp hc c hm)
  · exact s.zn n c a (get_take h1).1 (get_take h2).1 h3
end
theorem js_trim {X : Cx} {W : WX} {st : Stmt} {m : MS} (h : JS X W st m) : JS X W st (sTrim m) :=
  PSw h fun D s H ⟨r, G, S, sim, env, g⟩ => ⟨r, G, S, sim, env, by
    unfold sTrim at g
    cases hz : m G S with
    | nx G1 S1 =>
      rw [hz] at g
      dsimp only at g
      split at g
      · rename_i hc
        intro r' H' s' e sm ev
        obtain ⟨t, sm2⟩ := sm.trim hc
        refine g ⟨r'.as.take S.length, r'.z⟩ H' s' ⟨⟨fun n a h => ?_, fun a o h1 h2 h3 => ?_⟩, e.zeq, e.zs⟩ sm2 (ev.trim t)
        · have hn : n < S.length := by rw [← sim.len]; exact (List.getElem?_eq_some_iff.mp h).1
          show (r'.as.take S.length)[n]? = some a
          rw [List.getElem?_take, if_pos hn]
          exact e.pre n a h
        · obtain ⟨q1, q2⟩ := e.kp a o h1 h2 h3
          exact ⟨q1, fun q => q2 (t.lv a q)⟩
      · exact g.elim
    | rt d S1 => rw [hz] at g; exact g
    | bk G1 S1 => rw [hz] at g; exact g
    | ct G1 S1 => rw [hz] at g; exact g
    | exc x ns ds G1 S1 => rw [hz] at g; exact g
    | err => rw [hz] at g; exact g⟩
end Kx

set_option Elab.async false
set_option linter.all false
set_option maxRecDepth 100000
set_option autoImplicit false
set_option maxHeartbeats 0
/-! Sa: mirrors that many laws share. -/
namespace Kx
namespace Sh
open PySem PySem.Spec L2 PySem.W PySem.Calls
def s_is_list_0 (T : ITab) : MS := sRet (eN (isiD T) (aCons (eVar 0) (aCons (eTup (aCons (eC (.ty "list")) (aCons (eC (.ty "tuple")) (aNil)))) (aNil))))
def b_is_list (T : ITab) : MS := (s_is_list_0 T)
def f_is_list (T : ITab) : FN := mkFn 1 1 (b_is_list T)
def s_is_word_0 (T : ITab) : MS := sIf (tOrM (tNotM (tOfE (eN (isiD T) (aCons (eVar 0) (aCons (eC (.ty "str")) (aNil)))))) (tNotM (tOfE (eChain leD leD (eC (.int 1)) (eN lenD (aCons (eVar 0) (aNil))) (eC (.int 8)))))) (sRet (eC (.bl false))) (sNext)
def s_is_word_1 (T : ITab) : MS := sRet (eN allD (aCons (eLc (iVal (eVar 0)) (gN 1) [1] (tYes) (e2 inD (eVar 1) (eC (.str "abcdefghijklmnopqrstuvwxyz")))) (aNil)))
def b_is_word (T : ITab) : MS := sSeq ((s_is_word_0 T)) ((s_is_word_1 T))
def f_is_word (T : ITab) : FN := mkFn 1 2 (b_is_word T)
def s_is_among_0 (T : ITab) : MS := sRet (eAnd (eN (isiD T) (aCons (eVar 0) (aCons (eC (.ty "int")) (aNil)))) (eAnd (eNot (eN (isiD T) (aCons (eVar 0) (aCons (eC (.ty "bool")) (aNil))))) (eChain leD leD (eVar 1) (eVar 0) (eVar 2))))
def b_is_among (T : ITab) : MS := (s_is_among_0 T)
def f_is_among (T : ITab) : FN := mkFn 3 3 (b_is_among T)
def s_is_switch_0 (T : ITab) : MS := sRet (eAnd (eN (isiD T) (aCons (eVar 0) (aCons (eC (.ty "tuple")) (aNil)))) (eAnd (e2 eqX (eN lenD (aCons (eVar 0) (aNil))) (eC (.int 2))) (eAnd (eF (Sh.f_is_word T) (aCons (e2 idxD (eVar 0) (eC (.int 0))) (aNil))) (eF (Sh.f_is_among T) (aCons (e2 idxD (eVar 0) (eC (.int 1))) (aCons (eC (.int 0)) (aCons (eC (.int 1)) (aNil))))))))
def b_is_switch (T : ITab) : MS := (s_is_switch_0 T)
def f_is_switch (T : ITab) : FN := mkFn 1 1 (b_is_switch T)
def s_need_switches_0 (T : ITab) : MS := sIf (tOrM (tNotM (tOfE (eF (Sh.f_is_list T) (aCons (eVar 0) (aNil))))) (tOfE (e2 gtD (eN lenD (aCons (eVar 0) (aNil))) (eC (.int 3))))) (sRaise "BadScreen" "place" (eC (.str "switches"))) (sNext)
def s_need_switches_1_0_t_0 (T : ITab) : MS := sRaise "BadScreen" "place" (eTup (aCons (eC (.str "switch")) (aCons (eVar 1) (aNil))))
def s_need_switches_1_0 (T : ITab) : MS := sIf (tOrM (tNotM (tOfE (eF (Sh.f_is_switch T) (aCons (eVar 2) (aNil))))) (tOfE (e2 inD (e2 idxD (eVar 2) (eC (.int 0))) (eLc (iVal (eSl (eVar 0) (oNone) (oSome (eVar 1)))) (gN 3) [3] (tYes) (e2 idxD (eVar 3) (eC (.int 0))))))) ((s_need_switches_1_0_t_0 T)) (sNext)
def s_need_switches_1 (T : ITab) : MS := sFor (iEnum (eVar 0)) (gTp (gCo (gN 1) (gCo (gN 2) (gNo)))) ((s_need_switches_1_0 T))
def b_need_switches (T : ITab) : MS := sSeq ((s_need_switches_0 T)) ((s_need_switches_1 T))
def f_need_switches (T : ITab) : FN := mkFn 1 4 (b_need_switches T)
def s_are_rising_0 (T : ITab) : MS := sRet (eN allD (aCons (eLc (iZip (eVar 0) (eSl (eVar 0) (oSome (eC (.int 1))) (oNone))) (gTp (gCo (gN 1) (gCo (gN 2) (gNo)))) [1, 2] (tYes) (e2 ltD (e2 idxD (eVar 1) (eC (.int 0))) (e2 idxD (eVar 2) (eC (.int 0))))) (aNil)))
def b_are_rising (T : ITab) : MS := (s_are_rising_0 T)
def f_are_rising (T : ITab) : FN := mkFn 1 3 (b_are_rising T)
def s_is_pair_0 (T : ITab) : MS := sRet (eAnd (eN (isiD T) (aCons (eVar 0) (aCons (eC (.ty "tuple")) (aNil)))) (eAnd (e2 eqX (eN lenD (aCons (eVar 0) (aNil))) (eC (.int 2))) (eN (isiD T) (aCons (e2 idxD (eVar 0) (eC (.int 0))) (aCons (eC (.ty "str")) (aNil))))))
def b_is_pair (T : ITab) : MS := (s_is_pair_0 T)
def f_is_pair (T : ITab) : FN := mkFn 1 1 (b_is_pair T)
def s_is_condition_0 (T : ITab) : MS := sIf (tOrM (tNotM (tOfE (eN (isiD T) (aCons (eVar 0) (aCons (eC (.ty "tuple")) (aNil)))))) (tNotM (tOfE (eN allD (aCons (eLc (iVal (eVar 0)) (gN 2) [2] (tYes) (eF (Sh.f_is_pair T) (aCons (eVar 2) (aNil)))) (aNil)))))) (sRet (eC (.bl false))) (sNext)
def s_is_condition_1 (T : ITab) : MS := sRet (eAnd (eF (Sh.f_are_rising T) (aCons (eVar 0) (aNil))) (eN allD (aCons (eLc (iVal (eVar 0)) (gN 2) [2] (tYes) (eAnd (e2 inD (e2 idxD (eVar 2) (eC (.int 0))) (eVar 1)) (eF (Sh.f_is_among T) (aCons (e2 idxD (eVar 2) (eC (.int 1))) (aCons (eC (.int 0)) (aCons (eC (.int 1)) (aNil))))))) (aNil))))
def b_is_condition (T : ITab) : MS := sSeq ((s_is_condition_0 T)) ((s_is_condition_1 T))
def f_is_condition (T : ITab) : FN := mkFn 2 3 (b_is_condition T)
def s_is_changes_0 (T : ITab) : MS := sIf (tOrM (tNotM (tOfE (eN (isiD T) (aCons (eVar 0) (aCons (eC (.ty "tuple")) (aNil)))))) (tNotM (tOfE (eN allD (aCons (eLc (iVal (eVar 0)) (gN 2) [2] (tYes) (eF (Sh.f_is_pair T) (aCons (eVar 2) (aNil)))) (aNil)))))) (sRet (eC (.bl false))) (sNext)
def s_is_changes_1 (T : ITab) : MS := sIf (tOrM (tNotM (tOfE (eF (Sh.f_are_rising T) (aCons (eVar 0) (aNil))))) (tNotM (tOfE (eN allD (aCons (eLc (iVal (eVar 0)) (gN 2) [2] (tYes) (eN (isiD T) (aCons (e2 idxD (eVar 2) (eC (.int 1))) (aCons (eC (.ty "str")) (aNil))))) (aNil)))))) (sRet (eC (.bl false))) (sNext)
def s_is_changes_2 (T : ITab) : MS := sRet (eN allD (aCons (eLc (iVal (eVar 0)) (gN 2) [2] (tYes) (eAnd (e2 inD (e2 idxD (eVar 2) (eC (.int 0))) (eVar 1)) (e2 inD (e2 idxD (eVar 2) (eC (.int 1))) (eTup (aCons (eC (.str "on")) (aCons (eC (.str "off")) (aCons (eC (.str "flip")) (aNil)))))))) (aNil)))
def b_is_changes (T : ITab) : MS := sSeq ((s_is_changes_0 T)) (sSeq ((s_is_changes_1 T)) ((s_is_changes_2 T)))
def f_is_changes (T : ITab) : FN := mkFn 2 3 (b_is_changes T)
def s_is_replies_0 (T : ITab) : MS := sIf (tOrM (tNotM (tOfE (eN (isiD T) (aCons (eVar 0) (aCons (eC (.ty "tuple")) (aNil)))))) (tNotM (tOfE (eN allD (aCons (eLc (iVal (eVar 0)) (gN 2) [2] (tYes) (eF (Sh.f_is_pair T) (aCons (eVar 2) (aNil)))) (aNil)))))) (sRet (eC (.bl false))) (sNext)
def s_is_replies_1 (T : ITab) : MS := sRet (eAnd (eF (Sh.f_are_rising T) (aCons (eVar 0) (aNil))) (eN allD (aCons (eLc (iVal (eVar 0)) (gN 2) [2] (tYes) (eAnd (eF (Sh.f_is_word T) (aCons (e2 idxD (eVar 2) (eC (.int 0))) (aNil))) (eF (Sh.f_is_changes T) (aCons (e2 idxD (eVar 2) (eC (.int 1))) (aCons (eVar 1) (aNil)))))) (aNil))))
def b_is_replies (T : ITab) : MS := sSeq ((s_is_replies_0 T)) ((s_is_replies_1 T))
def f_is_replies (T : ITab) : FN := mkFn 2 3 (b_is_replies T)
def s_is_deed_0 (T : ITab) : MS := sIf (tOrM (tNotM (tOfE (eN (isiD T) (aCons (eVar 0) (aCons (eC (.ty "tuple")) (aNil)))))) (tOrM (tOfE (e2 eqX (eN lenD (aCons (eVar 0) (aNil))) (eC (.int 0)))) (tNotM (tOfE (eN (isiD T) (aCons (e2 idxD (eVar 0) (eC (.int 0))) (aCons (eC (.ty "str")) (aNil)))))))) (sRet (eC (.bl false))) (sNext)
def s_is_deed_1_t_0 (T : ITab) : MS := sRet (eAnd (e2 eqX (eN lenD (aCons (eVar 0) (aNil))) (eC (.int 3))) (eAnd (eF (Sh.f_is_word T) (aCons (e2 idxD (eVar 0) (eC (.int 1))) (aNil))) (eF (Sh.f_is_replies T) (aCons (e2 idxD (eVar 0) (eC (.int 2))) (aCons (eVar 1) (aNil))))))
def s_is_deed_1 (T : ITab) : MS := sIf (tOfE (e2 eqX (e2 idxD (eVar 0) (eC (.int 0))) (eC (.str "open")))) ((s_is_deed_1_t_0 T)) (sNext)
def s_is_deed_2_t_0 (T : ITab) : MS := sRet (eAnd (e2 eqX (eN lenD (aCons (eVar 0) (aNil))) (eC (.int 2))) (eF (Sh.f_is_changes T) (aCons (e2 idxD (eVar 0) (eC (.int 1))) (aCons (eVar 1) (aNil)))))
def s_is_deed_2 (T : ITab) : MS := sIf (tOfE (e2 eqX (e2 idxD (eVar 0) (eC (.int 0))) (eC (.str "turn")))) ((s_is_deed_2_t_0 T)) (sNext)
def s_is_deed_3_t_0 (T : ITab) : MS := sRet (eAnd (e2 eqX (eN lenD (aCons (eVar 0) (aNil))) (eC (.int 2))) (eF (Sh.f_is_word T) (aCons (e2 idxD (eVar 0) (eC (.int 1))) (aNil))))
def s_is_deed_3 (T : ITab) : MS := sIf (tOfE (e2 eqX (e2 idxD (eVar 0) (eC (.int 0))) (eC (.str "close")))) ((s_is_deed_3_t_0 T)) (sNext)
def s_is_deed_4 (T : ITab) : MS := sRet (e2 eqX (eVar 0) (eTup (aCons (eC (.str "none")) (aNil))))
def b_is_deed (T : ITab) : MS := sSeq ((s_is_deed_0 T)) (sSeq ((s_is_deed_1 T)) (sSeq ((s_is_deed_2 T)) (sSeq ((s_is_deed_3 T)) ((s_is_deed_4 T)))))
def f_is_deed (T : ITab) : FN := mkFn 2 2 (b_is_deed T)
def s_is_part_0 (T : ITab) : MS := sIf (tOrM (tNotM (tOfE (eN (isiD T) (aCons (eVar 0) (aCons (eC (.ty "tuple")) (aNil)))))) (tOrM (tOfE (e2 (notOf eqX) (eN lenD (aCons (eVar 0) (aNil))) (eC (.int 5)))) (tNotM (tOfE (eF (Sh.f_is_word T) (aCons (e2 idxD (eVar 0) (eC (.int 0))) (aNil))))))) (sRet (eC (.bl false))) (sNext)
def s_is_part_1 (T : ITab) : MS := sIf (tOrM (tNotM (tOfE (eF (Sh.f_is_among T) (aCons (e2 idxD (eVar 0) (eC (.int 1))) (aCons (eC (.int (-1))) (aCons (eC (.int 9)) (aNil))))))) (tNotM (tOfE (eF (Sh.f_is_deed T) (aCons (e2 idxD (eVar 0) (eC (.int 4))) (aCons (eVar 1) (aNil))))))) (sRet (eC (.bl false))) (sNext)
def s_is_part_2 (T : ITab) : MS := sRet (eAnd (eF (Sh.f_is_condition T) (aCons (e2 idxD (eVar 0) (eC (.int 2))) (aCons (eVar 1) (aNil)))) (eF (Sh.f_is_condition T) (aCons (e2 idxD (eVar 0) (eC (.int 3))) (aCons (eVar 1) (aNil)))))
def b_is_part (T : ITab) : MS := sSeq ((s_is_part_0 T)) (sSeq ((s_is_part_1 T)) ((s_is_part_2 T)))
def f_is_part (T : ITab) : FN := mkFn 2 2 (b_is_part T)
def s_need_parts_0 (T : ITab) : MS := sIf (tOrM (tNotM (tOfE (eF (Sh.f_is_list T) (aCons (eVar 0) (aNil))))) (tNotM (tOfE (eChain leD leD (eC (.int 1)) (eN lenD (aCons (eVar 0) (aNil))) (eC (.int 8)))))) (sRaise "BadScreen" "place" (eC (.str "parts"))) (sNext)
def s_need_parts_1_0_t_0 (T : ITab) : MS := sRaise "BadScreen" "place" (eTup (aCons (eC (.str "part")) (aCons (eVar 2) (aNil))))
def s_need_parts_1_0 (T : ITab) : MS := sIf (tOrM (tNotM (tOfE (eF (Sh.f_is_part T) (aCons (eVar 3) (aCons (eVar 1) (aNil)))))) (tOfE (e2 inD (e2 idxD (eVar 3) (eC (.int 0))) (eLc (iVal (eSl (eVar 0) (oNone) (oSome (eVar 2)))) (gN 4) [4] (tYes) (e2 idxD (eVar 4) (eC (.int 0))))))) ((s_need_parts_1_0_t_0 T)) (sNext)
def s_need_parts_1 (T : ITab) : MS := sFor (iEnum (eVar 0)) (gTp (gCo (gN 2) (gCo (gN 3) (gNo)))) ((s_need_parts_1_0 T))
def b_need_parts (T : ITab) : MS := sSeq ((s_need_parts_0 T)) ((s_need_parts_1 T))
def f_need_parts (T : ITab) : FN := mkFn 2 5 (b_need_parts T)
def s_Plan___init___0 (T : ITab) : MS := sFldM T "known" (eVar 1) (eVar 0)
def s_Plan___init___1 (T : ITab) : MS := sFldM T "switches" (eVar 2) (eVar 0)
def s_Plan___init___2 (T : ITab) : MS := sFldM T "row" (eLstC (aNil)) (eVar 0)
def s_Plan___init___3 (T : ITab) : MS := sFldM T "around" (eDic0C) (eVar 0)
def s_Plan___init___4 (T : ITab) : MS := sFldM T "groups" (eLstC (aNil)) (eVar 0)
def s_Plan___init___5 (T : ITab) : MS := sFldM T "is_good" (eC (.bl true)) (eVar 0)
def b_Plan___init__ (T : ITab) : MS := sSeq ((s_Plan___init___0 T)) (sSeq ((s_Plan___init___1 T)) (sSeq ((s_Plan___init___2 T)) (sSeq ((s_Plan___init___3 T)) (sSeq ((s_Plan___init___4 T)) ((s_Plan___init___5 T))))))
def f_Plan___init__ (T : ITab) : FN := mkFn 3 3 (b_Plan___init__ T)
def s_Plan_put_part_0_e_0 (T : ITab) : MS := sExpr (eMut appM (e1 (fldD T "row") (eVar 0)) (aCons (eVar 1) aNil))
def s_Plan_put_part_0 (T : ITab) : MS := sIf (tOrM (tNotM (tOfE (eN (isiD T) (aCons (eVar 1) (aCons (eC (.ty "str")) (aNil)))))) (tOrM (tOfE (e2 (notOf inD) (eVar 1) (e1 (fldD T "known") (eVar 0)))) (tOfE (e2 inD (eVar 1) (e1 (fldD T "around") (eVar 0)))))) (sFldM T "is_good" (eC (.bl false)) (eVar 0)) (sSeq ((s_Plan_put_part_0_e_0 T)) (sPut (eVar 2) (e1 (fldD T "around") (eVar 0)) (eVar 1)))
def b_Plan_put_part (T : ITab) : MS := (s_Plan_put_part_0 T)
def f_Plan_put_part (T : ITab) : FN := mkFn 3 3 (b_Plan_put_part T)
def s_is_one_of_0 (T : ITab) : MS := sRet (eAnd (eN (isiD T) (aCons (eVar 0) (aCons (eC (.ty "str")) (aNil)))) (e2 inD (eVar 0) (eVar 1)))
def b_is_one_of (T : ITab) : MS := (s_is_one_of_0 T)
def f_is_one_of (T : ITab) : FN := mkFn 2 2 (b_is_one_of T)
def s_Plan_put_group_0_e_0_e_0 (T : ITab) : MS := sExpr (eMut appM (e1 (fldD T "groups") (eVar 0)) (aCons (eSl (eVar 1) (oSome (eC (.int 1))) (oNone)) aNil))
def s_Plan_put_group_0_e_0_e_1_0 (T : ITab) : MS := sExpr (eM "Plan" "put_part" (Sh.f_Plan_put_part T) (eVar 0) (aCons (eVar 3) (aCons (eVar 2) (aNil))))
def s_Plan_put_group_0_e_0_e_1 (T : ITab) : MS := sFor (iVal (e2 idxD (eVar 1) (eC (.int 3)))) (gN 3) ((s_Plan_put_group_0_e_0_e_1_0 T))
def s_Plan_put_group_0_e_0 (T : ITab) : MS := sIf (tOrM (tNotM (tOfE (eN (isiD T) (aCons (e2 idxD (eVar 1) (eC (.int 3))) (aCons (eC (.ty "tuple")) (aNil)))))) (tOfE (e2 eqX (eN lenD (aCons (e2 idxD (eVar 1) (eC (.int 3))) (aNil))) (eC (.int 0))))) (sFldM T "is_good" (eC (.bl false)) (eVar 0)) (sSeq ((s_Plan_put_group_0_e_0_e_0 T)) ((s_Plan_put_group_0_e_0_e_1 T)))
def s_Plan_put_group_0 (T : ITab) : MS := sIf (tOrM (tOfE (e2 (notOf eqX) (eN lenD (aCons (eVar 1) (aNil))) (eC (.int 4)))) (tOrM (tNotM (tOfE (eF (Sh.f_is_among T) (aCons (e2 idxD (eVar 1) (eC (.int 1))) (aCons (eC (.int (-1))) (aCons (eC (.int 9)) (aNil))))))) (tNotM (tOfE (eF (Sh.f_is_one_of T) (aCons (e2 idxD (eVar 1) (eC (.int 2))) (aCons (eTup (aCons (eC (.str "wrap")) (aCons (eC (.str "stay")) (aNil)))) (aNil)))))))) (sFldM T "is_good" (eC (.bl false)) (eVar 0)) ((s_Plan_put_group_0_e_0 T))
def b_Plan_put_group (T : ITab) : MS := (s_Plan_put_group_0 T)
def f_Plan_put_group (T : ITab) : FN := mkFn 3 4 (b_Plan_put_group T)
def s_Plan_put_item_0_t_0 (T : ITab) (f_Plan_put_item f_Plan_put_box : FN) : MS := sExpr (eM "Plan" "put_part" (Sh.f_Plan_put_part T) (eVar 0) (aCons (eVar 1) (aCons (eVar 2) (aNil))))
def s_Plan_put_item_0_e_0_t_0 (T : ITab) (f_Plan_put_item f_Plan_put_box : FN) : MS := sExpr (eM "Plan" "put_box" f_Plan_put_box (eVar 0) (aCons (eVar 1) (aCons (eVar 2) (aNil))))
def s_Plan_put_item_0_e_0_e_0_t_0 (T : ITab) (f_Plan_put_item f_Plan_put_box : FN) : MS := sExpr (eM "Plan" "put_group" (Sh.f_Plan_put_group T) (eVar 0) (aCons (eVar 1) (aCons (eVar 2) (aNil))))
def s_Plan_put_item_0_e_0_e_0 (T : ITab) (f_Plan_put_item f_Plan_put_box : FN) : MS := sIf (tAndM (tOfE (e2 gtD (eN lenD (aCons (eVar 1) (aNil))) (eC (.int 0)))) (tOfE (eF (Sh.f_is_one_of T) (aCons (e2 idxD (eVar 1) (eC (.int 0))) (aCons (eTup (aCons (eC (.str "group")) (aNil))) (aNil)))))) ((s_Plan_put_item_0_e_0_e_0_t_0 T f_Plan_put_item f_Plan_put_box)) (sFldM T "is_good" (eC (.bl false)) (eVar 0))
def s_Plan_put_item_0_e_0 (T : ITab) (f_Plan_put_item f_Plan_put_box : FN) : MS := sIf (tAndM (tOfE (e2 gtD (eN lenD (aCons (eVar 1) (aNil))) (eC (.int 0)))) (tOfE (eF (Sh.f_is_one_of T) (aCons (e2 idxD (eVar 1) (eC (.int 0))) (aCons (eTup (aCons (eC (.str "box")) (aNil))) (aNil)))))) ((s_Plan_put_item_0_e_0_t_0 T f_Plan_put_item f_Plan_put_box)) ((s_Plan_put_item_0_e_0_e_0 T f_Plan_put_item f_Plan_put_box))
def s_Plan_put_item_0 (T : ITab) (f_Plan_put_item f_Plan_put_box : FN) : MS := sIf (tNotM (tOfE (eN (isiD T) (aCons (eVar 1) (aCons (eC (.ty "tuple")) (aNil)))))) ((s_Plan_put_item_0_t_0 T f_Plan_put_item f_Plan_put_box)) ((s_Plan_put_item_0_e_0 T f_Plan_put_item f_Plan_put_box))
def b_Plan_put_item (T : ITab) (f_Plan_put_item f_Plan_put_box : FN) : MS := (s_Plan_put_item_0 T f_Plan_put_item f_Plan_put_box)
def s_Plan_put_box_0_e_0_e_0_0 (T : ITab) (f_Plan_put_item f_Plan_put_box : FN) : MS := sExpr (eM "Plan" "put_item" f_Plan_put_item (eVar 0) (aCons (eVar 3) (aCons (e2 addX (eVar 2) (eTup (aCons (e2 idxD (eVar 1) (eC (.int 1))) (aNil)))) (aNil))))
def s_Plan_put_box_0_e_0_e_0 (T : ITab) (f_Plan_put_item f_Plan_put_box : FN) : MS := sFor (iVal (e2 idxD (eVar 1) (eC (.int 2)))) (gN 3) ((s_Plan_put_box_0_e_0_e_0_0 T f_Plan_put_item f_Plan_put_box))
def s_Plan_put_box_0_e_0 (T : ITab) (f_Plan_put_item f_Plan_put_box : FN) : MS := sIf (tNotM (tOfE (eN (isiD T) (aCons (e2 idxD (eVar 1) (eC (.int 2))) (aCons (eC (.ty "tuple")) (aNil)))))) (sFldM T "is_good" (eC (.bl false)) (eVar 0)) ((s_Plan_put_box_0_e_0_e_0 T f_Plan_put_item f_Plan_put_box))
def s_Plan_put_box_0 (T : ITab) (f_Plan_put_item f_Plan_put_box : FN) : MS := sIf (tOrM (tOfE (e2 (notOf eqX) (eN lenD (aCons (eVar 1) (aNil))) (eC (.int 3)))) (tOrM (tOfE (e2 eqX (eN lenD (aCons (eVar 2) (aNil))) (eC (.int 3)))) (tNotM (tOfE (eF (Sh.f_is_condition T) (aCons (e2 idxD (eVar 1) (eC (.int 1))) (aCons (e1 (fldD T "switches") (eVar 0)) (aNil)))))))) (sFldM T "is_good" (eC (.bl false)) (eVar 0)) ((s_Plan_put_box_0_e_0 T f_Plan_put_item f_Plan_put_box))
def b_Plan_put_box (T : ITab) (f_Plan_put_item f_Plan_put_box : FN) : MS := (s_Plan_put_box_0 T f_Plan_put_item f_Plan_put_box)
def fr_Plan_put_item (T : ITab) : Nat → FN × FN
  | 0 => (errF, errF)
  | n + 1 => (mkFn 3 3 (b_Plan_put_item T (fr_Plan_put_item T n).1 (fr_Plan_put_item T n).2), mkFn 3 4 (b_Plan_put_box T (fr_Plan_put_item T n).1 (fr_Plan_put_item T n).2))
def f_Plan_put_item (T : ITab) : FN := (fr_Plan_put_item T 10).1
def f_Plan_put_box (T : ITab) : FN := (fr_Plan_put_item T 10).2
def s_plan_of_0 (T : ITab) : MS := sIf (tNotM (tOfE (eF (Sh.f_is_list T) (aCons (eVar 0) (aNil))))) (sRet (eC .non)) (sNext)
def s_plan_of_1 (T : ITab) : MS := sAsg (eMk "Plan" 0 2 0 (Sh.f_Plan___init__ T) gFst (aCons (eVar 1) (aCons (eVar 2) (aNil))) aNil) (gN 3)
def s_plan_of_2_0 (T : ITab) : MS := sExpr (eM "Plan" "put_item" (Sh.f_Plan_put_item T) (eVar 3) (aCons (eVar 4) (aCons (eTup (aNil)) (aNil))))
def s_plan_of_2 (T : ITab) : MS := sFor (iVal (eVar 0)) (gN 4) ((s_plan_of_2_0 T))
def s_plan_of_3 (T : ITab) : MS := sIf (tOrM (tNotM (tOfE (e1 (fldD T "is_good") (eVar 3)))) (tOrM (tOfE (e2 (notOf eqX) (eN lenD (aCons (e1 (fldD T "row") (eVar 3)) (aNil))) (eN lenD (aCons (eVar 1) (aNil))))) (tOfE (e2 gtD (eN lenD (aCons (e1 (fldD T "groups") (eVar 3)) (aNil))) (eC (.int 2)))))) (sRet (eC .non)) (sNext)
def s_plan_of_4 (T : ITab) : MS := sRet (eVar 3)
def b_plan_of (T : ITab) : MS := sSeq ((s_plan_of_0 T)) (sSeq ((s_plan_of_1 T)) (sSeq ((s_plan_of_2 T)) (sSeq ((s_plan_of_3 T)) ((s_plan_of_4 T)))))
def f_plan_of (T : ITab) : FN := mkFn 3 5 (b_plan_of T)
def s_Screen_need_rule_0 (T : ITab) : MS := sIf (tNotM (tOfE (eVar 2))) (sRaise "BadScreen" "place" (eVar 1)) (sNext)
def b_Screen_need_rule (T : ITab) : MS := (s_Screen_need_rule_0 T)
def f_Screen_need_rule (T : ITab) : FN := mkFn 3 3 (b_Screen_need_rule T)
def s_Screen___init___0 (T : ITab) : MS := sIf (tNotM (tOfE (eF (Sh.f_is_word T) (aCons (eVar 1) (aNil))))) (sRaise "BadScreen" "place" (eC (.str "name"))) (sNext)
def s_Screen___init___1 (T : ITab) : MS := sExpr (eF (Sh.f_need_switches T) (aCons (eVar 4) (aNil)))
def s_Screen___init___2 (T : ITab) : MS := sFldM T "switches" (eN tupX (aCons (eVar 4) (aNil))) (eVar 0)
def s_Screen___init___3 (T : ITab) : MS := sFldM T "switch_names" (eN tupX (aCons (eLc (iVal (eVar 4)) (gN 11) [11] (tYes) (e2 idxD (eVar 11) (eC (.int 0)))) (aNil))) (eVar 0)
def s_Screen___init___4 (T : ITab) : MS := sExpr (eF (Sh.f_need_parts T) (aCons (eVar 2) (aCons (e1 (fldD T "switch_names") (eVar 0)) (aNil))))
def s_Screen___init___5 (T : ITab) : MS := sFldM T "name" (eVar 1) (eVar 0)
def s_Screen___init___6 (T : ITab) : MS := sFldM T "parts" (eN tupX (aCons (eVar 2) (aNil))) (eVar 0)
def s_Screen___init___7 (T : ITab) : MS := sFldM T "table" (eDc (iVal (eVar 2)) (gN 12) [12] (tYes) (e2 idxD (eVar 12) (eC (.int 0))) (eVar 12)) (eVar 0)
def s_Screen___init___8 (T : ITab) : MS := sFldM T "plan" (eF (Sh.f_plan_of T) (aCons (eVar 3) (aCons (eN tupX (aCons (e1 (fldD T "table") (eVar 0)) (aNil))) (aCons (e1 (fldD T "switch_names") (eVar 0)) (aNil))))) (eVar 0)
def s_Screen___init___9 (T : ITab) : MS := sIf (tOfE (e2 isND (e1 (fldD T "plan") (eVar 0)) (eC .non))) (sRaise "BadScreen" "place" (eC (.str "layout"))) (sNext)
def s_Screen___init___10 (T : ITab) : MS := sFldM T "layout" (eN tupX (aCons (eVar 3) (aNil))) (eVar 0)
def s_Screen___init___11 (T : ITab) : MS := sExpr (eM "Screen" "need_rule" (Sh.f_Screen_need_rule T) (eVar 0) (aCons (eC (.str "enter")) (aCons (eOr (eF (Sh.f_is_one_of T) (aCons (eVar 5) (aCons (eTup (aCons (eC (.str "first")) (aCons (eC (.str "none")) (aNil)))) (aNil)))) (eAnd (eN (isiD T) (aCons (eVar 5) (aCons (eC (.ty "str")) (aNil)))) (e2 inD (eVar 5) (e1 (fldD T "table") (eVar 0))))) (aNil))))
def s_Screen___init___12 (T : ITab) : MS := sExpr (eM "Screen" "need_rule" (Sh.f_Screen_need_rule T) (eVar 0) (aCons (eC (.str "ends")) (aCons (eF (Sh.f_is_one_of T) (aCons (eVar 6) (aCons (eC (.tup [.str "wrap", .str "stay", .str "out"])) (aNil)))) (aNil))))
def s_Screen___init___13 (T : ITab) : MS := sExpr (eM "Screen" "need_rule" (Sh.f_Screen_need_rule T) (eVar 0) (aCons (eC (.str "gone")) (aCons (eF (Sh.f_is_one_of T) (aCons (eVar 7) (aCons (eC (.tup [.str "lost", .str "first", .str "near"])) (aNil)))) (aNil))))
def s_Screen___init___14 (T : ITab) : MS := sExpr (eM "Screen" "need_rule" (Sh.f_Screen_need_rule T) (eVar 0) (aCons (eC (.str "again")) (aCons (eF (Sh.f_is_one_of T) (aCons (eVar 8) (aCons (eC (.tup [.str "opener", .str "first", .str "lost"])) (aNil)))) (aNil))))
def s_Screen___init___15 (T : ITab) : MS := sExpr (eM "Screen" "need_rule" (Sh.f_Screen_need_rule T) (eVar 0) (aCons (eC (.str "leave")) (aCons (eOr (eF (Sh.f_is_word T) (aCons (eVar 9) (aNil))) (eF (Sh.f_is_one_of T) (aCons (eVar 9) (aCons (eTup (aCons (eC (.str "")) (aNil))) (aNil))))) (aNil))))
def s_Screen___init___16 (T : ITab) : MS := sFldM T "enter" (eVar 5) (eVar 0)
def s_Screen___init___17 (T : ITab) : MS := sFldM T "ends" (eVar 6) (eVar 0)
def s_Screen___init___18 (T : ITab) : MS := sFldM T "gone" (eVar 7) (eVar 0)
def s_Screen___init___19 (T : ITab) : MS := sFldM T "again" (eVar 8) (eVar 0)
def s_Screen___init___20 (T : ITab) : MS := sFldM T "leave" (eVar 9) (eVar 0)
def s_Screen___init___21 (T : ITab) : MS := sFldM T "reading" (eN tupX (aCons (e1 (fldD T "row") (e1 (fldD T "plan") (eVar 0))) (aNil))) (eVar 0)
def s_Screen___init___22 (T : ITab) : MS := sAsg (e2 addX (eLc (iVal (eVar 2)) (gN 12) [12] (tOfE (e2 eqX (e2 idxD (e2 idxD (eVar 12) (eC (.int 4))) (eC (.int 0))) (eC (.str "close")))) (e2 idxD (e2 idxD (eVar 12) (eC (.int 4))) (eC (.int 1)))) (eIf (tOfE (e2 (notOf eqX) (eVar 9) (eC (.str "")))) (eLst (aCons (eVar 9) (aNil))) (eLst (aNil)))) (gN 10)
def s_Screen___init___23 (T : ITab) : MS := sFldM T "answers" (eN tupX (aCons (e1 sortSetD (eVar 10)) (aNil))) (eVar 0)
def s_Screen___init___24 (T : ITab) : MS := sFldM T "told" (eTup (aCons (eVar 1) (aCons (e1 (fldD T "parts") (eVar 0)) (aCons (e1 (fldD T "layout") (eVar 0)) (aCons (e1 (fldD T "switches") (eVar 0)) (aCons (eVar 5) (aCons (eVar 6) (aCons (eVar 7) (aCons (eVar 8) (aCons (eVar 9) (aNil))))))))))) (eVar 0)
def s_Screen___init___25 (T : ITab) : MS := sIf (tOfE (e2 gtD (eN lenD (aCons (e1 (fldD T "answers") (eVar 0)) (aNil))) (eC (.int 3)))) (sRaise "BadScreen" "place" (eC (.str "answers"))) (sNext)
def b_Screen___init__ (T : ITab) : MS := sSeq ((s_Screen___init___0 T)) (sSeq ((s_Screen___init___1 T)) (sSeq ((s_Screen___init___2 T)) (sSeq ((s_Screen___init___3 T)) (sSeq ((s_Screen___init___4 T)) (sSeq ((s_Screen___init___5 T)) (sSeq ((s_Screen___init___6 T)) (sSeq ((s_Screen___init___7 T)) (sSeq ((s_Screen___init___8 T)) (sSeq ((s_Screen___init___9 T)) (sSeq ((s_Screen___init___10 T)) (sSeq ((s_Screen___init___11 T)) (sSeq ((s_Screen___init___12 T)) (sSeq ((s_Screen___init___13 T)) (sSeq ((s_Screen___init___14 T)) (sSeq ((s_Screen___init___15 T)) (sSeq ((s_Screen___init___16 T)) (sSeq ((s_Screen___init___17 T)) (sSeq ((s_Screen___init___18 T)) (sSeq ((s_Screen___init___19 T)) (sSeq ((s_Screen___init___20 T)) (sSeq ((s_Screen___init___21 T)) (sSeq ((s_Screen___init___22 T)) (sSeq ((s_Screen___init___23 T)) (sSeq ((s_Screen___init___24 T)) ((s_Screen___init___25 T))))))))))))))))))))))))))
def f_Screen___init__ (T : ITab) : FN := mkFn 10 13 (b_Screen___init__ T)
def s_Foreign___init___0 (T : ITab) : MS := sIf (tNotM (tOfE (eF (Sh.f_is_word T) (aCons (eVar 1) (aNil))))) (sRaise "BadScreen" "place" (eC (.str "name"))) (sNext)
def s_Foreign___init___1 (T : ITab) : MS := sIf (tOrM (tNotM (tOfE (eF (Sh.f_is_list T) (aCons (eVar 2) (aNil))))) (tNotM (tOfE (eChain leD leD (eC (.int 1)) (eN lenD (aCons (eVar 2) (aNil))) (eC (.int 3)))))) (sRaise "BadScreen" "place" (eC (.str "answers"))) (sNext)
def s_Foreign___init___2 (T : ITab) : MS := sIf (tOrM (tNotM (tOfE (eN allD (aCons (eLcX (eVar 2) (gN 3) [3] (tYes) (eF (Sh.f_is_word T) (aCons (eVar 3) (aNil)))) (aNil))))) (tOfE (e2 (notOf eqX) (e1 lenSetD (eVar 2)) (eN lenD (aCons (eVar 2) (aNil)))))) (sRaise "BadScreen" "place" (eC (.str "answers"))) (sNext)
def s_Foreign___init___3 (T : ITab) : MS := sFldM T "name" (eVar 1) (eVar 0)
def s_Foreign___init___4 (T : ITab) : MS := sFldM T "answers" (eN tupX (aCons (eN sortX (aCons (eVar 2) (aNil))) (aNil))) (eVar 0)
def s_Foreign___init___5 (T : ITab) : MS := sFldM T "told" (eTup (aCons (eVar 1) (aCons (e1 (fldD T "answers") (eVar 0)) (aNil)))) (eVar 0)
def b_Foreign___init__ (T : ITab) : MS := sSeq ((s_Foreign___init___0 T)) (sSeq ((s_Foreign___init___1 T)) (sSeq ((s_Foreign___init___2 T)) (sSeq ((s_Foreign___init___3 T)) (sSeq ((s_Foreign___init___4 T)) ((s_Foreign___init___5 T))))))
def f_Foreign___init__ (T : ITab) : FN := mkFn 3 4 (b_Foreign___init__ T)
def s__law_error_word_0 (T : ITab) : MS := sAsg (eLst (aCons (eTup (aCons (eC (.str "screen")) (aCons (eN (isiD T) (aCons (eVar 0) (aCons (eC (.fn "BadScreen")) (aNil)))) (aNil)))) (aCons (eTup (aCons (eC (.str "library")) (aCons (eN (isiD T) (aCons (eVar 0) (aCons (eC (.fn "BadLibrary")) (aNil)))) (aNil)))) (aNil)))) (gN 1)
def s__law_error_word_1 (T : ITab) : MS := sAsg (e2 addX (eVar 1) (eLst (aCons (eTup (aCons (eC (.str "name")) (aCons (eN (isiD T) (aCons (eVar 0) (aCons (eC (.fn "BadName")) (aNil)))) (aNil)))) (aCons (eTup (aCons (eC (.str "state")) (aCons (eN (isiD T) (aCons (eVar 0) (aCons (eC (.fn "BadState")) (aNil)))) (aNil)))) (aNil))))) (gN 1)
def s__law_error_word_2 (T : ITab) : MS := sAsg (e2 addX (eVar 1) (eLst (aCons (eTup (aCons (eC (.str "stack")) (aCons (eN (isiD T) (aCons (eVar 0) (aCons (eC (.fn "BadConfiguration")) (aNil)))) (aNil)))) (aCons (eTup (aCons (eC (.str "event")) (aCons (eN (isiD T) (aCons (eVar 0) (aCons (eC (.fn "BadEvent")) (aNil)))) (aNil)))) (aNil))))) (gN 1)
def s__law_error_word_3 (T : ITab) : MS := sAsg (e2 addX (eVar 1) (eLst (aCons (eTup (aCons (eC (.str "start")) (aCons (eN (isiD T) (aCons (eVar 0) (aCons (eC (.fn "BadStart")) (aNil)))) (aNil)))) (aCons (eTup (aCons (eC (.str "user")) (aCons (eN (isiD T) (aCons (eVar 0) (aCons (eC (.fn "BadUser")) (aNil)))) (aNil)))) (aNil))))) (gN 1)
def s__law_error_word_4 (T : ITab) : MS := sAsg (e2 addX (eVar 1) (eLst (aCons (eTup (aCons (eC (.str "promise")) (aCons (eN (isiD T) (aCons (eVar 0) (aCons (eC (.fn "BadPromise")) (aNil)))) (aNil)))) (aCons (eTup (aCons (eC (.str "goal")) (aCons (eN (isiD T) (aCons (eVar 0) (aCons (eC (.fn "BadGoal")) (aNil)))) (aNil)))) (aNil))))) (gN 1)
def s__law_error_word_5 (T : ITab) : MS := sAsg (e2 addX (eVar 1) (eLst (aCons (eTup (aCons (eC (.str "paper")) (aCons (eN (isiD T) (aCons (eVar 0) (aCons (eC (.fn "BadPaper")) (aNil)))) (aNil)))) (aCons (eTup (aCons (eC (.str "mending")) (aCons (eN (isiD T) (aCons (eVar 0) (aCons (eC (.fn "BadMending")) (aNil)))) (aNil)))) (aNil))))) (gN 1)
def s__law_error_word_6 (T : ITab) : MS := sAsg (e2 addX (eVar 1) (eLst (aCons (eTup (aCons (eC (.str "text")) (aCons (eN (isiD T) (aCons (eVar 0) (aCons (eC (.fn "BadText")) (aNil)))) (aNil)))) (aCons (eTup (aCons (eC (.str "number")) (aCons (eN (isiD T) (aCons (eVar 0) (aCons (eC (.fn "BadNumber")) (aNil)))) (aNil)))) (aNil))))) (gN 1)
def s__law_error_word_7 (T : ITab) : MS := sAsg (e2 addX (eVar 1) (eLst (aCons (eTup (aCons (eC (.str "great")) (aCons (eN (isiD T) (aCons (eVar 0) (aCons (eC (.fn "TooGreat")) (aNil)))) (aNil)))) (aCons (eTup (aCons (eC (.str "left")) (aCons (eN (isiD T) (aCons (eVar 0) (aCons (eC (.fn "NothingLeft")) (aNil)))) (aNil)))) (aNil))))) (gN 1)
def s__law_error_word_8 (T : ITab) : MS := sAsg (eLc (iVal (eVar 1)) (gTp (gCo (gN 3) (gCo (gN 4) (gNo)))) [3, 4] (tOfE (eVar 4)) (eVar 3)) (gN 2)
def s__law_error_word_9 (T : ITab) : MS := sIf (tOfE (e2 (notOf eqX) (eN lenD (aCons (eVar 2) (aNil))) (eC (.int 1)))) (sRet (eTup (aCons (eC (.str "other")) (aNil)))) (sNext)
def s__law_error_word_10_t_0 (T : ITab) : MS := sRet (eTup (aCons (e2 idxD (eVar 2) (eC (.int 0))) (aCons (e1 (fldD T "place") (eVar 0)) (aNil))))
def s__law_error_word_10 (T : ITab) : MS := sIf (tOfE (e2 inD (e2 idxD (eVar 2) (eC (.int 0))) (eTup (aCons (eC (.str "screen")) (aCons (eC (.str "library")) (aCons (eC (.str "paper")) (aCons (eC (.str "mending")) (aNil)))))))) ((s__law_error_word_10_t_0 T)) (sNext)
def s__law_error_word_11_t_0 (T : ITab) : MS := sRet (eTup (aCons (e2 idxD (eVar 2) (eC (.int 0))) (aCons (eIf (tOfE (e2 eqX (e2 idxD (eVar 2) (eC (.int 0))) (eC (.str "text")))) (e1 (fldD T "line") (eVar 0)) (e1 (fldD T "most") (eVar 0))) (aNil))))
def s__law_error_word_11 (T : ITab) : MS := sIf (tOfE (e2 inD (e2 idxD (eVar 2) (eC (.int 0))) (eTup (aCons (eC (.str "text")) (aCons (eC (.str "great")) (aNil)))))) ((s__law_error_word_11_t_0 T)) (sNext)
def s__law_error_word_12 (T : ITab) : MS := sRet (eIf (tOfE (e2 eqX (e2 idxD (eVar 2) (eC (.int 0))) (eC (.str "left")))) (eTup (aCons (eC (.str "left")) (aNil))) (eTup (aCons (e2 idxD (eVar 2) (eC (.int 0))) (aCons (e1 (fldD T "value") (eVar 0)) (aNil)))))
def b__law_error_word (T : ITab) : MS := sSeq ((s__law_error_word_0 T)) (sSeq ((s__law_error_word_1 T)) (sSeq ((s__law_error_word_2 T)) (sSeq ((s__law_error_word_3 T)) (sSeq ((s__law_error_word_4 T)) (sSeq ((s__law_error_word_5 T)) (sSeq ((s__law_error_word_6 T)) (sSeq ((s__law_error_word_7 T)) (sSeq ((s__law_error_word_8 T)) (sSeq ((s__law_error_word_9 T)) (sSeq ((s__law_error_word_10 T)) (sSeq ((s__law_error_word_11 T)) ((s__law_error_word_12 T)))))))))))))
def f__law_error_word (T : ITab) : FN := mkFn 1 5 (b__law_error_word T)
def s_Foreign___eq___0 (T : ITab) : MS := sRet (eAnd (eN (isiD T) (aCons (eVar 1) (aCons (eC (.fn "Foreign")) (aNil)))) (e2 eqX (e1 (fldD T "told") (eVar 0)) (e1 (fldD T "told") (eVar 1))))
def b_Foreign___eq__ (T : ITab) : MS := (s_Foreign___eq___0 T)
def f_Foreign___eq__ (T : ITab) : FN := mkFn 2 2 (b_Foreign___eq__ T)
end Sh
end Kx

set_option Elab.async false
set_option linter.all false
set_option maxRecDepth 100000
set_option autoImplicit false
set_option maxHeartbeats 0
/-! Ta: words. -/
namespace Kx
open PySem PySem.Spec L2
/-- a plain value that is no cell -/
def plV : D → Bool
  | .str x => decide (x.length ≤ sizeLine)
  | .loc _ => false
  | .ins _ _ _ => false
  | .exc _ _ _ => false
  | .fn _ => false
  | .ty _ => false
  | _ => true
def ltr (c : Nat) : Bool := decide (97 ≤ c) && decide (c ≤ 122)
def isWs (x : Str) : Bool := decide (1 ≤ x.length) && (decide (x.length ≤ 8) && x.cps.toList.all ltr)
def isW : D → Bool
  | .str x => isWs x
  | _ => false
theorem mem_letters (c : Nat) : decide (c ∈ ("abcdefghijklmnopqrstuvwxyz" : Str).cps.toList) = ltr c := by
  have e : ("abcdefghijklmnopqrstuvwxyz" : Str).cps.toList = [97, 98, 99, 100, 101, 102, 103, 104, 105, 106, 107, 108, 109, 110, 111, 112, 113, 114, 115, 116, 117, 118, 119, 120, 121, 122] := by decide +kernel
  rw [e, Bool.eq_iff_iff]
  unfold ltr
  simp only [List.mem_cons, List.not_mem_nil, or_false, decide_eq_true_eq, Bool.and_eq_true]
  omega
theorem in_letters (c : Nat) (S : Store) : inD (.str ⟨#[c]⟩) (.str "abcdefghijklmnopqrstuvwxyz") S = some (.bl (ltr c)) := by
  rw [← mem_letters c]
  rfl
theorem bools_map (f : Nat → Bool) : ∀ cs : List Nat, boolsD (cs.map fun c => .bl (f c)) = some (cs.map f)
  | [] => rfl
  | c :: cs => by simp only [List.map_cons, boolsD, bools_map f cs, Option.map_some]
theorem all_map (f : Nat → Bool) (cs : List Nat) (S : Store) : allD [.lst (cs.map fun c => .bl (f c))] S = some (.bl (cs.all f)) := by
  show ((boolsD (cs.map fun c => .bl (f c))).map fun bs => D.bl (bs.all id)) = _
  rw [bools_map]
  simp only [Option.map_some, Option.some.injEq, D.bl.injEq]
  induction cs with
  | nil => rfl
  | cons c cs ih => simp only [List.map_cons, List.all_cons, ih, id]
theorem small_le {ds : List D} {n : Nat} (h : ds.length ≤ n) (hn : n ≤ sizeLine := by rw [sizeLine_eq]; decide) : small ds = true := by
  unfold small
  rw [decide_eq_true_eq]
  exact Nat.le_trans h hn
theorem lenS {x : Str} {S : Store} (h : x.length ≤ sizeLine) : lenD [.str x] S = some (.int (x.length : Int)) := by
  show (if x.length ≤ sizeLine then some (D.int (x.length : Int)) else none) = _
  rw [if_pos h]
theorem le_int (i j : Int) (S : Store) : leD (.int i) (.int j) S = some (.bl (decide (i ≤ j))) := by
  show some (D.bl _) = _
  first | rfl | (congr 2; simp)
/-- 1 <= len <= m -/
theorem chain_len {a m : Int} {n : Nat} {S : Store} {x : D} {G : En} {ma : ME} (h : ma G S = .ok (.int (n : Int)) S) : eChain leD leD (eC (.int a)) ma (eC (.int m)) G S = .ok (.bl (decide (a ≤ (n : Int)) && decide ((n : Int) ≤ m))) S := by
  unfold eChain Kx.eC
  simp only [Res.bind, h, le_int]
  by_cases q : a ≤ (n : Int)
  · simp only [decide_eq_true q, Bool.true_and, le_int, opt]
  · simp only [decide_eq_false q, Bool.false_and]
section
variable {T : ITab} {S : Store}
theorem is_word_ok {d : D} (hp : plV d = true) : Sh.f_is_word T [d] S = .ok (.bl (isW d)) S := by
  cases d <;> first | (simp only [plV, Bool.false_eq_true] at hp; done) | rfl | skip
  rename_i x
  have hx : x.length ≤ sizeLine := by simpa only [plV, decide_eq_true_eq] using hp
  have e0 : Sh.s_is_word_0 T [some (.str x), none] S = if decide (1 ≤ x.length) && decide (x.length ≤ 8) then .nx [some (.str x), none] S else .rt (.bl false) S := by
    have i0 : isiD T [.str x, .ty "str"] S = some (.bl true) := rfl
    have ch : eChain leD leD (eC (.int 1)) (eN lenD (aCons (eVar 0) aNil)) (eC (.int 8)) [some (.str x), none] S = .ok (.bl (decide ((1 : Int) ≤ (x.length : Int)) && decide ((x.length : Int) ≤ 8))) S :=
      chain_len (x := .non) (by simp only [sSeq, sAsg, sb, sIf, sRet, sNext, sPar, sExpr, sRaise, tOrM, tAndM, tNotM, tOfE, tYes, eF, eN, Kx.e1, Kx.e2, eIf, eAnd, eOr, eNot, Kx.eC, eVar, aCons, aNil, eChain, opt, Res.bind, gN, gTp, gCo, gNo, Option.bind, iVal, itemsD, eSl, oSome, oNone, eS1, eL1, fnRes, List.getElem?_cons_zero, List.getElem?_cons_succ, List.set_cons_zero, List.set_cons_succ, if_true, Bool.false_eq_true, if_false, Bool.not_true, Bool.not_false, lenS hx])
    simp only [Sh.s_is_word_0, sSeq, sAsg, sb, sIf, sRet, sNext, sPar, sExpr, sRaise, tOrM, tAndM, tNotM, tOfE, tYes, eF, eN, Kx.e1, Kx.e2, eIf, eAnd, eOr, eNot, Kx.eC, eVar, aCons, aNil, opt, Res.bind, gN, gTp, gCo, gNo, Option.bind, iVal, itemsD, eSl, oSome, oNone, eS1, eL1, fnRes, List.getElem?_cons_zero, List.getElem?_cons_succ, List.set_cons_zero, List.set_cons_succ, if_true, Bool.false_eq_true, if_false, Bool.not_true, Bool.not_false, i0, ch]
    have c1 : decide ((1 : Int) ≤ (x.length : Int)) = decide (1 ≤ x.length) := by congr 1; rw [eq_iff_iff]; omega
    have c2 : decide ((x.length : Int) ≤ 8) = decide (x.length ≤ 8) := by congr 1; rw [eq_iff_iff]; omega
    rw [c1, c2]
    cases (decide (1 ≤ x.length) && decide (x.length ≤ 8)) <;> simp
  have e1 : x.length ≤ 8 → Sh.s_is_word_1 T [some (.str x), none] S = .rt (.bl (x.cps.toList.all ltr)) S := fun h8 => by
    have lc : eLc (iVal (eVar 0)) (gN 1) [1] (tYes) (Kx.e2 inD (eVar 1) (Kx.eC (.str "abcdefghijklmnopqrstuvwxyz"))) [some (.str x), none] S = .ok (.lst (x.cps.toList.map fun c => .bl (ltr c))) S := by
      refine eLc_ok (ds := signs x) (S1 := S) rfl ?_ (small_le (n := 8) ?_)
      · have := lcL_map (g := gN 1) (vs := [1]) (tt := tYes) (me := Kx.e2 inD (eVar 1) (Kx.eC (.str "abcdefghijklmnopqrstuvwxyz"))) (G := [some (.str x), none]) (S := S) (ds := signs x) (f := fun d => match d with
            | .str y => .bl (match y.cps.toList with
              | [c] => ltr c
              | _ => false)
            | _ => .bl false) (fun d hd => by
          obtain ⟨c, _, rfl⟩ := List.mem_map.mp hd
          refine ⟨[some (.str x), some (.str ⟨#[c]⟩)], rfl, rfl, ?_⟩
          simp only [sSeq, sAsg, sb, sIf, sRet, sNext, sPar, sExpr, sRaise, tOrM, tAndM, tNotM, tOfE, tYes, eF, eN, Kx.e1, Kx.e2, eIf, eAnd, eOr, eNot, Kx.eC, eVar, aCons, aNil, eChain, opt, Res.bind, gN, gTp, gCo, gNo, Option.bind, iVal, itemsD, eSl, oSome, oNone, eS1, eL1, fnRes, List.getElem?_cons_zero, List.getElem?_cons_succ, List.set_cons_zero, List.set_cons_succ, if_true, Bool.false_eq_true, if_false, Bool.not_true, Bool.not_false, in_letters])
        rw [this]
        unfold signs
        rw [List.map_map]
        rfl
      · rw [List.length_map]; exact h8
    unfold Sh.s_is_word_1 sRet
    simp only [eN, aCons, aNil, Res.bind, lc, all_map, opt, sb]
  show fnRes (Sh.b_is_word T [some (.str x), none] S) = _
  simp only [Sh.b_is_word, sSeq, e0, isW, isWs]
  by_cases q : (decide (1 ≤ x.length) && decide (x.length ≤ 8)) = true
  · rw [if_pos q]
    obtain ⟨q1, q2⟩ := b2 q
    dsimp only
    rw [e1 (of_decide_eq_true q2), q1, q2]
    simp only [fnRes, Bool.true_and]
  · rw [if_neg q]
    have : (decide (1 ≤ x.length) && (decide (x.length ≤ 8) && x.cps.toList.all ltr)) = false := by
      rw [← Bool.and_assoc]
      simp only [Bool.not_eq_true] at q
      rw [q, Bool.false_and]
    rw [this]
    rfl
end
end Kx

set_option Elab.async false
set_option linter.all false
set_option maxRecDepth 100000
set_option autoImplicit false
set_option maxHeartbeats 0
/-! Tb: foreign screens made. -/
namespace Kx
open PySem PySem.Spec L2
/-- e holds the items es, as a tuple, a list or a cell -/
structure SeqV (S : Store) (e : D) (es : List D) : Prop where
  isl : ∀ T : ITab, isiD T [e, .tup [.ty "list", .ty "tuple"]] S = some (.bl true)
  len : lenD [e] S = some (.int (es.length : Int))
  src : ∃ src, srcOf e S = some (src, es.length + 1) ∧ ∀ i : Nat, src S i = some es[i]?
  seq : seqOf S e = some es
theorem seqV_tup {S : Store} {es : List D} : SeqV S (.tup es) es := ⟨fun _ => rfl, rfl, ⟨_, rfl, fun _ => rfl⟩, rfl⟩
theorem seqV_lst {S : Store} {es : List D} : SeqV S (.lst es) es := ⟨fun _ => rfl, rfl, ⟨_, rfl, fun _ => rfl⟩, rfl⟩
theorem seqV_cell {S : Store} {n : Nat} {es : List D} (h : S[n]? = some (.lst es)) : SeqV S (.loc n) es := by
  refine ⟨fun T => ?_, ?_, ?_, ?_⟩
  · show (if askOk T S (.loc n) then match tagD S (.loc n), D.tup [.ty "list", .ty "tuple"] with
      | some t, .tup cs => (isAny T t cs).map D.bl
      | some t, c => (isOne T t c).map D.bl
      | none, _ => none else none) = _
    have a1 : askOk T S (.loc n) = true := by
      show (match S[n]? with
        | some (.ins c _ _) => T.ins.contains c
        | _ => true) = true
      rw [h]
    have a2 : tagD S (.loc n) = some (.ty "list") := by
      show (S[n]?).bind tagC = _
      rw [h]; rfl
    rw [a1, a2]
    rfl
  · show (match lstOf S (.loc n) with
      | some ds => some (D.int (ds.length : Int))
      | none => (dicOf S (.loc n)).map fun (p : List D × List D) => D.int (p.2.length : Int)) = _
    rw [show lstOf S (.loc n) = some es from by rw [lst_loc, h]]
  · let src : SRC := fun S i => match S[n]? with
      | some (Cell.lst es) => some es[i]?
      | _ => none
    refine ⟨src, ?_, fun i => ?_⟩
    · unfold srcOf
      simp only [h]
      rfl
    · show (match S[n]? with
        | some (Cell.lst es) => some es[i]?
        | _ => none) = _
      rw [h]
  · show lstOf S (.loc n) = _
    rw [lst_loc, h]
theorem lcG_map {src : SRC} {g : MG} {vs : List Nat} {tt : MT} {me : ME} {G : En} {S : Store} {es : List D} {f : D → D} (hs : ∀ i : Nat, src S i = some es[i]?) (h : ∀ d ∈ es, ∃ G1, g d (wipeG G vs) = some G1 ∧ tt G1 S = .ok true S ∧ me G1 S = .ok (f d) S) :
    ∀ (k i : Nat), i + k = es.length → lcG src g vs tt me G (k + 1) i S = .ok ((es.drop i).map f) S
  | 0, i, e => by
    have : es[i]? = none := List.getElem?_eq_none_iff.mpr (by omega)
    unfold lcG
    rw [hs i, this, List.drop_eq_nil_of_le (by omega)]
    rfl
  | k + 1, i, e => by
    have hlt : i < es.length := by omega
    have hi : es[i]? = some es[i] := List.getElem?_eq_getElem hlt
    obtain ⟨G1, h1, h2, h3⟩ := h es[i] (List.getElem_mem hlt)
    have ih := lcG_map hs h k (i + 1) (by omega)
    unfold lcG
    rw [hs i, hi, List.drop_eq_getElem_cons hlt]
    simp only [h1, h2, h3, ih, List.map_cons]
theorem lcG_filter {src : SRC} {g : MG} {vs : List Nat} {tt : MT} {me : ME} {G : En} {S : Store} {es : List D} {p : D → Bool} {f : D → D} (hs : ∀ i : Nat, src S i = some es[i]?) (h : ∀ d ∈ es, ∃ G1, g d (wipeG G vs) = some G1 ∧ tt G1 S = .ok (p d) S ∧ (p d = true → me G1 S = .ok (f d) S)) :
    ∀ (k i : Nat), i + k = es.length → lcG src g vs tt me G (k + 1) i S = .ok (((es.drop i).filter p).map f) S
  | 0, i, e => by
    have : es[i]? = none := List.getElem?_eq_none_iff.mpr (by omega)
    unfold lcG
    rw [hs i, this, List.drop_eq_nil_of_le (by omega)]
    rfl
  | k + 1, i, e => by
    have hlt : i < es.length := by omega
    have hi : es[i]? = some es[i] := List.getElem?_eq_getElem hlt
    obtain ⟨G1, h1, h2, h3⟩ := h es[i] (List.getElem_mem hlt)
    have ih := lcG_filter hs h k (i + 1) (by omega)
    unfold lcG
    rw [hs i, hi, List.drop_eq_getElem_cons hlt]
    cases hp : p es[i] with
    | true =>
      rw [hp] at h2
      simp only [h1, h2, h3 hp, ih, List.filter_cons_of_pos hp, List.map_cons]
    | false =>
      rw [hp] at h2
      have hn : ¬ p es[i] = true := by rw [hp]; exact Bool.false_ne_true
      simp only [h1, h2, ih, List.filter_cons_of_neg hn]
theorem eLcX_map {ma : ME} {g : MG} {vs : List Nat} {tt : MT} {me : ME} {G : En} {S : Store} {e : D} {es : List D} {f : D → D} (ha : ma G S = .ok e S) (he : SeqV S e es) (hl : es.length ≤ 1000) (h : ∀ d ∈ es, ∃ G1, g d (wipeG G vs) = some G1 ∧ tt G1 S = .ok true S ∧ me G1 S = .ok (f d) S) :
    eLcX ma g vs tt me G S = .ok (.lst (es.map f)) S := by
  obtain ⟨src, h1, h2⟩ := he.src
  have := lcG_map h2 h es.length 0 (by omega)
  unfold eLcX
  simp only [ha, Res.bind, h1, this, List.drop_zero, small_le (ds := es.map f) (n := 1000) (by simpa using hl), if_true]
theorem eLcX_filter {ma : ME} {g : MG} {vs : List Nat} {tt : MT} {me : ME} {G : En} {S : Store} {e : D} {es : List D} {p : D → Bool} {f : D → D} (ha : ma G S = .ok e S) (he : SeqV S e es) (hl : es.length ≤ 1000) (h : ∀ d ∈ es, ∃ G1, g d (wipeG G vs) = some G1 ∧ tt G1 S = .ok (p d) S ∧ (p d = true → me G1 S = .ok (f d) S)) :
    eLcX ma g vs tt me G S = .ok (.lst ((es.filter p).map f)) S := by
  obtain ⟨src, h1, h2⟩ := he.src
  have := lcG_filter h2 h es.length 0 (by omega)
  unfold eLcX
  have l : ((es.filter p).map f).length ≤ 1000 := by rw [List.length_map]; exact Nat.le_trans (List.length_filter_le _ _) hl
  simp only [ha, Res.bind, h1, this, List.drop_zero, small_le (n := 1000) l, if_true]
/-! ### words of a list -/
theorem strs_of : ∀ {es : List D}, es.all isW = true → ∃ xs : List Str, es = xs.map .str ∧ strsD es = some xs ∧ ∀ x ∈ xs, isWs x = true
  | [], _ => ⟨[], rfl, rfl, fun _ h => by simp at h⟩
  | d :: es, h => by
    simp only [List.all_cons, Bool.and_eq_true] at h
    obtain ⟨xs, h1, h2, h3⟩ := strs_of h.2
    cases d <;> first | (simp only [isW] at h; exact absurd h.1 Bool.false_ne_true) | skip
    rename_i x
    refine ⟨x :: xs, by rw [h1, List.map_cons], by simp only [strsD, h2, Option.map_some], fun y hy => ?_⟩
    rcases List.mem_cons.mp hy with rfl | hy
    · exact h.1
    · exact h3 y hy
def wsOf (es : List D) : List Str := (strsD es).getD []
def rowOf (es : List D) : List D := (sortW (wsOf es)).map .str
def ansOk (es : List D) : Bool := decide (1 ≤ es.length) && (decide (es.length ≤ 3) && (es.all isW && decide ((dedW (wsOf es)).length = es.length)))
theorem boolsP (p : D → Bool) : ∀ es : List D, boolsD (es.map fun d => .bl (p d)) = some (es.map p)
  | [] => rfl
  | c :: cs => by simp only [List.map_cons, boolsD, boolsP p cs, Option.map_some]
theorem allP (p : D → Bool) (es : List D) (S : Store) : allD [.lst (es.map fun d => .bl (p d))] S = some (.bl (es.all p)) := by
  show ((boolsD (es.map fun d => .bl (p d))).map fun bs => D.bl (bs.all id)) = _
  rw [boolsP]
  simp only [Option.map_some, Option.some.injEq, D.bl.injEq]
  induction es with
  | nil => rfl
  | cons c cs ih => simp only [List.map_cons, List.all_cons, ih, id]
theorem neX_int (i j : Int) (S : Store) : notOf eqX (.int i) (.int j) S = some (.bl (!decide (i = j))) := rfl
theorem eqX_int (i j : Int) (S : Store) : eqX (.int i) (.int j) S = some (.bl (decide (i = j))) := rfl
structure TFor (T : ITab) : Prop where
  ins : T.ins.contains "Foreign" = true
  f1 : T.has "Foreign" "name" = true
  f2 : T.has "Foreign" "answers" = true
  f3 : T.has "Foreign" "told" = true
  ex : T.exs.contains "BadScreen" = true
theorem fldM_at {T : ITab} {f c : Str} {ns : List Str} {ds : List D} {y : D} {S : Store} (h1 : T.ins.contains c = true) (h2 : T.has c f = true) (hl : ns.length < 1000) :
    fldM T f (.loc S.length) y (S ++ [.ins c ns ds]) = some (S ++ [.ins c (putN f y ns ds).1 (putN f y ns ds).2]) := by
  have e : (S ++ [Cell.ins c ns ds])[S.length]? = some (.ins c ns ds) := by simp
  unfold fldM
  dsimp only
  rw [e]
  have e2 : (S ++ [Cell.ins c ns ds]).set S.length (.ins c (putN f y ns ds).1 (putN f y ns ds).2) = S ++ [.ins c (putN f y ns ds).1 (putN f y ns ds).2] := by
    rw [List.set_append_right _ _ (Nat.le_refl _), Nat.sub_self]
    rfl
  dsimp only
  rw [h1, h2, decide_eq_true hl, e2]
  rfl
theorem fldD_at {T : ITab} {f c : Str} {ns : List Str} {ds : List D} {S : Store} (h1 : T.ins.contains c = true) (h2 : T.has c f = true) : fldD T f (.loc S.length) (S ++ [.ins c ns ds]) = fldOf ns ds f := by
  have e : (S ++ [Cell.ins c ns ds])[S.length]? = some (.ins c ns ds) := by simp
  unfold fldD
  dsimp only
  rw [e]
  dsimp only
  rw [h1, h2]
  rfl
section
variable {T : ITab} {S : Store} {nm e : D} {es : List D}
theorem len_dec (n : Nat) : (decide ((1 : Int) ≤ (n : Int)) && decide ((n : Int) ≤ 3)) = (decide (1 ≤ n) && decide (n ≤ 3)) := by
  have c1 : decide ((1 : Int) ≤ (n : Int)) = decide (1 ≤ n) := by congr 1; rw [eq_iff_iff]; omega
  have c2 : decide ((n : Int) ≤ 3) = decide (n ≤ 3) := by congr 1; rw [eq_iff_iff]; omega
  rw [c1, c2]
theorem is_list_ok (he : SeqV S e es) : Sh.f_is_list T [e] S = .ok (.bl true) S := by
  have i0 := he.isl T
  show fnRes (Sh.b_is_list T [some e] S) = _
  have sm : small [D.ty "list", D.ty "tuple"] = true := rfl
  simp only [Sh.b_is_list, Sh.s_is_list_0, eTup, sSeq, sAsg, sb, sIf, sRet, sNext, sPar, sExpr, sRaise, tOrM, tAndM, tNotM, tOfE, tYes, eF, eN, Kx.e1, Kx.e2, eIf, eAnd, eOr, eNot, Kx.eC, eVar, aCons, aNil, eChain, opt, Res.bind, gN, gTp, gCo, gNo, Option.bind, iVal, itemsD, eSl, oSome, oNone, eS1, eL1, fnRes, List.getElem?_cons_zero, List.getElem?_cons_succ, List.set_cons_zero, List.set_cons_succ, if_true, Bool.false_eq_true, if_false, Bool.not_true, Bool.not_false, i0, sm]
theorem fin0 {x : Option D} (hn : plV nm = true) : Sh.s_Foreign___init___0 T [x, some nm, some e, none] S = if isW nm then .nx [x, some nm, some e, none] S else .exc "BadScreen" ["place"] [.str "name"] [x, some nm, some e, none] S := by
  have w := is_word_ok (T := T) (S := S) hn
  simp only [Sh.s_Foreign___init___0, sSeq, sAsg, sb, sIf, sRet, sNext, sPar, sExpr, sRaise, tOrM, tAndM, tNotM, tOfE, tYes, eF, eN, Kx.e1, Kx.e2, eIf, eAnd, eOr, eNot, Kx.eC, eVar, aCons, aNil, eChain, opt, Res.bind, gN, gTp, gCo, gNo, Option.bind, iVal, itemsD, eSl, oSome, oNone, eS1, eL1, fnRes, List.getElem?_cons_zero, List.getElem?_cons_succ, List.set_cons_zero, List.set_cons_succ, if_true, Bool.false_eq_true, if_false, Bool.not_true, Bool.not_false, w]
  cases isW nm <;> simp
theorem fin1 {x : Option D} (he : SeqV S e es) : Sh.s_Foreign___init___1 T [x, some nm, some e, none] S = if decide (1 ≤ es.length) && decide (es.length ≤ 3) then .nx [x, some nm, some e, none] S else .exc "BadScreen" ["place"] [.str "answers"] [x, some nm, some e, none] S := by
  have w := is_list_ok (T := T) he
  have ch : eChain leD leD (Kx.eC (.int 1)) (eN lenD (aCons (eVar 2) aNil)) (Kx.eC (.int 3)) [x, some nm, some e, none] S = .ok (.bl (decide ((1 : Int) ≤ (es.length : Int)) && decide ((es.length : Int) ≤ 3))) S :=
    chain_len (x := .non) (by simp only [sSeq, sAsg, sb, sIf, sRet, sNext, sPar, sExpr, sRaise, tOrM, tAndM, tNotM, tOfE, tYes, eF, eN, Kx.e1, Kx.e2, eIf, eAnd, eOr, eNot, Kx.eC, eVar, aCons, aNil, eChain, opt, Res.bind, gN, gTp, gCo, gNo, Option.bind, iVal, itemsD, eSl, oSome, oNone, eS1, eL1, fnRes, List.getElem?_cons_zero, List.getElem?_cons_succ, List.set_cons_zero, List.set_cons_succ, if_true, Bool.false_eq_true, if_false, Bool.not_true, Bool.not_false, he.len])
  rw [len_dec] at ch
  simp only [Sh.s_Foreign___init___1, sSeq, sAsg, sb, sIf, sRet, sNext, sPar, sExpr, sRaise, tOrM, tAndM, tNotM, tOfE, tYes, eF, eN, Kx.e1, Kx.e2, eIf, eAnd, eOr, eNot, Kx.eC, eVar, aCons, aNil, opt, Res.bind, gN, gTp, gCo, gNo, Option.bind, iVal, itemsD, eSl, oSome, oNone, eS1, eL1, fnRes, List.getElem?_cons_zero, List.getElem?_cons_succ, List.set_cons_zero, List.set_cons_succ, if_true, Bool.false_eq_true, if_false, Bool.not_true, Bool.not_false, w, ch]
  cases (decide (1 ≤ es.length) && decide (es.length ≤ 3)) <;> simp
theorem fin1_no {x : Option D} (hl : isiD T [e, .tup [.ty "list", .ty "tuple"]] S = some (.bl false)) : Sh.s_Foreign___init___1 T [x, some nm, some e, none] S = .exc "BadScreen" ["place"] [.str "answers"] [x, some nm, some e, none] S := by
  have sm : small [D.ty "list", D.ty "tuple"] = true := rfl
  have w : Sh.f_is_list T [e] S = .ok (.bl false) S := by
    show fnRes (Sh.b_is_list T [some e] S) = _
    simp only [Sh.b_is_list, Sh.s_is_list_0, eTup, sSeq, sAsg, sb, sIf, sRet, sNext, sPar, sExpr, sRaise, tOrM, tAndM, tNotM, tOfE, tYes, eF, eN, Kx.e1, Kx.e2, eIf, eAnd, eOr, eNot, Kx.eC, eVar, aCons, aNil, eChain, opt, Res.bind, gN, gTp, gCo, gNo, Option.bind, iVal, itemsD, eSl, oSome, oNone, eS1, eL1, fnRes, List.getElem?_cons_zero, List.getElem?_cons_succ, List.set_cons_zero, List.set_cons_succ, if_true, Bool.false_eq_true, if_false, Bool.not_true, Bool.not_false, hl, sm]
  simp only [Sh.s_Foreign___init___1, sSeq, sAsg, sb, sIf, sRet, sNext, sPar, sExpr, sRaise, tOrM, tAndM, tNotM, tOfE, tYes, eF, eN, Kx.e1, Kx.e2, eIf, eAnd, eOr, eNot, Kx.eC, eVar, aCons, aNil, opt, Res.bind, gN, gTp, gCo, gNo, Option.bind, iVal, itemsD, eSl, oSome, oNone, eS1, eL1, fnRes, List.getElem?_cons_zero, List.getElem?_cons_succ, List.set_cons_zero, List.set_cons_succ, if_true, Bool.false_eq_true, if_false, Bool.not_true, Bool.not_false, w]
theorem lenSet_ok (he : SeqV S e es) (hw : es.all isW = true) (hl : es.length ≤ 3) : lenSetD e S = some (.int ((dedW (wsOf es)).length : Int)) := by
  obtain ⟨xs, h1, h2, h3⟩ := strs_of hw
  have : wordsOf S e = some xs := by
    unfold wordsOf
    rw [he.seq]
    exact h2
  unfold lenSetD
  rw [this]
  have lx : xs.length < 1000 := by have : es.length = xs.length := by rw [h1, List.length_map]
                                   omega
  dsimp only
  rw [if_pos lx]
  unfold wsOf
  rw [h2]
  rfl
theorem fin2 {x : Option D} (he : SeqV S e es) (hl : es.length ≤ 3) (hp : ∀ d ∈ es, plV d = true) : Sh.s_Foreign___init___2 T [x, some nm, some e, none] S = if es.all isW && decide ((dedW (wsOf es)).length = es.length) then .nx [x, some nm, some e, none] S else .exc "BadScreen" ["place"] [.str "answers"] [x, some nm, some e, none] S := by
  have lc : eLcX (eVar 2) (gN 3) [3] (tYes) (eF (Sh.f_is_word T) (aCons (eVar 3) (aNil))) [x, some nm, some e, none] S = .ok (.lst (es.map fun d => .bl (isW d))) S := by
    refine eLcX_map (e := e) rfl he (by omega) fun d hd => ⟨[x, some nm, some e, some d], rfl, rfl, ?_⟩
    simp only [sSeq, sAsg, sb, sIf, sRet, sNext, sPar, sExpr, sRaise, tOrM, tAndM, tNotM, tOfE, tYes, eF, eN, Kx.e1, Kx.e2, eIf, eAnd, eOr, eNot, Kx.eC, eVar, aCons, aNil, eChain, opt, Res.bind, gN, gTp, gCo, gNo, Option.bind, iVal, itemsD, eSl, oSome, oNone, eS1, eL1, fnRes, List.getElem?_cons_zero, List.getElem?_cons_succ, List.set_cons_zero, List.set_cons_succ, if_true, Bool.false_eq_true, if_false, Bool.not_true, Bool.not_false, is_word_ok (hp d hd)]
  cases hw : es.all isW with
  | false =>
    have al : allD [.lst (es.map fun d => .bl (isW d))] S = some (.bl false) := by rw [allP, hw]
    simp only [Sh.s_Foreign___init___2, sSeq, sAsg, sb, sIf, sRet, sNext, sPar, sExpr, sRaise, tOrM, tAndM, tNotM, tOfE, tYes, eF, eN, Kx.e1, Kx.e2, eIf, eAnd, eOr, eNot, Kx.eC, eVar, aCons, aNil, eChain, opt, Res.bind, gN, gTp, gCo, gNo, Option.bind, iVal, itemsD, eSl, oSome, oNone, eS1, eL1, fnRes, List.getElem?_cons_zero, List.getElem?_cons_succ, List.set_cons_zero, List.set_cons_succ, if_true, Bool.false_eq_true, if_false, Bool.not_true, Bool.not_false, lc, al, Bool.false_and]
  | true =>
    have al : allD [.lst (es.map fun d => .bl (isW d))] S = some (.bl true) := by rw [allP, hw]
    have ls := lenSet_ok he hw hl
    simp only [Sh.s_Foreign___init___2, sSeq, sAsg, sb, sIf, sRet, sNext, sPar, sExpr, sRaise, tOrM, tAndM, tNotM, tOfE, tYes, eF, eN, Kx.e1, Kx.e2, eIf, eAnd, eOr, eNot, Kx.eC, eVar, aCons, aNil, eChain, opt, Res.bind, gN, gTp, gCo, gNo, Option.bind, iVal, itemsD, eSl, oSome, oNone, eS1, eL1, fnRes, List.getElem?_cons_zero, List.getElem?_cons_succ, List.set_cons_zero, List.set_cons_succ, if_true, Bool.false_eq_true, if_false, Bool.not_true, Bool.not_false, lc, al, ls, he.len, neX_int, Bool.true_and]
    have c : decide ((((dedW (wsOf es)).length : Nat) : Int) = ((es.length : Nat) : Int)) = decide ((dedW (wsOf es)).length = es.length) := by congr 1; rw [eq_iff_iff]; omega
    rw [c]
    cases decide ((dedW (wsOf es)).length = es.length) <;> simp
theorem sort_ok (he : SeqV S e es) (hw : es.all isW = true) (hl : es.length ≤ 3) : sortX [e] S = some (.lst (rowOf es)) := by
  obtain ⟨xs, h1, h2, h3⟩ := strs_of hw
  have : wordsX S e = some xs := by
    unfold wordsX
    have : wordsOf S e = some xs := by
      unfold wordsOf
      rw [he.seq]
      exact h2
    rw [this]
  unfold sortX
  dsimp only
  rw [this]
  have lx : xs.length ≤ 1000 := by have : es.length = xs.length := by rw [h1, List.length_map]
                                   omega
  dsimp only
  rw [if_pos lx]
  unfold rowOf wsOf
  rw [h2]
  rfl
theorem foreign_init (tf : TFor T) (hn : plV nm = true) (he : SeqV (S ++ [.ins "Foreign" [] []]) e es) (hp : ∀ d ∈ es, plV d = true)
    (he2 : SeqV (S ++ [.ins "Foreign" ["name"] [nm]]) e es) : Sh.f_Foreign___init__ T [.loc S.length, nm, e] (S ++ [.ins "Foreign" [] []]) =
    if isW nm then (if ansOk es then .ok .non (S ++ [.ins "Foreign" ["name", "answers", "told"] [nm, .tup (rowOf es), .tup [nm, .tup (rowOf es)]]]) else .exc "BadScreen" ["place"] [.str "answers"] (S ++ [.ins "Foreign" [] []])) else .exc "BadScreen" ["place"] [.str "name"] (S ++ [.ins "Foreign" [] []]) := by
  have run : Sh.f_Foreign___init__ T [.loc S.length, nm, e] (S ++ [.ins "Foreign" [] []]) = fnRes (Sh.b_Foreign___init__ T [some (.loc S.length), some nm, some e, none] (S ++ [.ins "Foreign" [] []])) := rfl
  rw [run]
  unfold Sh.b_Foreign___init__
  have e0 := fin0 (T := T) (S := S ++ [.ins "Foreign" [] []]) (e := e) (x := some (.loc S.length)) hn
  have e1 := fin1 (T := T) (nm := nm) (x := some (.loc S.length)) he
  cases hw : isW nm with
  | false =>
    rw [hw] at e0
    rw [seq_exc e0]
    rfl
  | true =>
    rw [hw] at e0
    rw [seq_nx e0]
    unfold ansOk
    cases hl : (decide (1 ≤ es.length) && decide (es.length ≤ 3)) with
    | false =>
      rw [hl] at e1
      rw [seq_exc e1, ← Bool.and_assoc, hl, Bool.false_and]
      rfl
    | true =>
      rw [hl] at e1
      have l3 : es.length ≤ 3 := of_decide_eq_true (b2 hl).2
      have e2 := fin2 (T := T) (nm := nm) (x := some (.loc S.length)) he l3 hp
      rw [seq_nx e1, ← Bool.and_assoc, hl, Bool.true_and]
      cases ha : (es.all isW && decide ((dedW (wsOf es)).length = es.length)) with
      | false =>
        rw [ha] at e2
        rw [seq_exc e2]
        rfl
      | true =>
        rw [ha] at e2
        rw [seq_nx e2]
        have aw := (b2 ha).1
        have q3 : fldM T "name" (.loc S.length) nm (S ++ [.ins "Foreign" [] []]) = some (S ++ [.ins "Foreign" ["name"] [nm]]) := fldM_at tf.ins tf.f1 (by decide)
        have q4 : fldM T "answers" (.loc S.length) (.tup (rowOf es)) (S ++ [.ins "Foreign" ["name"] [nm]]) = some (S ++ [.ins "Foreign" ["name", "answers"] [nm, .tup (rowOf es)]]) := fldM_at tf.ins tf.f2 (by decide)
        have q5 : fldM T "told" (.loc S.length) (.tup [nm, .tup (rowOf es)]) (S ++ [.ins "Foreign" ["name", "answers"] [nm, .tup (rowOf es)]]) = some (S ++ [.ins "Foreign" ["name", "answers", "told"] [nm, .tup (rowOf es), .tup [nm, .tup (rowOf es)]]]) := fldM_at tf.ins tf.f3 (by decide)
        have q6 : fldD T "answers" (.loc S.length) (S ++ [.ins "Foreign" ["name", "answers"] [nm, .tup (rowOf es)]]) = some (.tup (rowOf es)) := by
          rw [fldD_at tf.ins tf.f2]; rfl
        have s4 := sort_ok he2 aw l3
        have tp : tupX [.lst (rowOf es)] (S ++ [.ins "Foreign" ["name"] [nm]]) = some (.tup (rowOf es)) := rfl
        have sm : small [nm, .tup (rowOf es)] = true := rfl
        have e3 : Sh.s_Foreign___init___3 T [some (.loc S.length), some nm, some e, none] (S ++ [.ins "Foreign" [] []]) = .nx [some (.loc S.length), some nm, some e, none] (S ++ [.ins "Foreign" ["name"] [nm]]) := by
          simp only [Sh.s_Foreign___init___3, sFldM, sSeq, sAsg, sb, sIf, sRet, sNext, sPar, sExpr, sRaise, tOrM, tAndM, tNotM, tOfE, tYes, eF, eN, Kx.e1, Kx.e2, eIf, eAnd, eOr, eNot, Kx.eC, eVar, aCons, aNil, eChain, opt, Res.bind, gN, gTp, gCo, gNo, Option.bind, iVal, itemsD, eSl, oSome, oNone, eS1, eL1, fnRes, List.getElem?_cons_zero, List.getElem?_cons_succ, List.set_cons_zero, List.set_cons_succ, if_true, Bool.false_eq_true, if_false, Bool.not_true, Bool.not_false, q3]
        have e4 : Sh.s_Foreign___init___4 T [some (.loc S.length), some nm, some e, none] (S ++ [.ins "Foreign" ["name"] [nm]]) = .nx [some (.loc S.length), some nm, some e, none] (S ++ [.ins "Foreign" ["name", "answers"] [nm, .tup (rowOf es)]]) := by
          simp only [Sh.s_Foreign___init___4, sFldM, sSeq, sAsg, sb, sIf, sRet, sNext, sPar, sExpr, sRaise, tOrM, tAndM, tNotM, tOfE, tYes, eF, eN, Kx.e1, Kx.e2, eIf, eAnd, eOr, eNot, Kx.eC, eVar, aCons, aNil, eChain, opt, Res.bind, gN, gTp, gCo, gNo, Option.bind, iVal, itemsD, eSl, oSome, oNone, eS1, eL1, fnRes, List.getElem?_cons_zero, List.getElem?_cons_succ, List.set_cons_zero, List.set_cons_succ, if_true, Bool.false_eq_true, if_false, Bool.not_true, Bool.not_false, s4, tp, q4]
        have e5 : Sh.s_Foreign___init___5 T [some (.loc S.length), some nm, some e, none] (S ++ [.ins "Foreign" ["name", "answers"] [nm, .tup (rowOf es)]]) = .nx [some (.loc S.length), some nm, some e, none] (S ++ [.ins "Foreign" ["name", "answers", "told"] [nm, .tup (rowOf es), .tup [nm, .tup (rowOf es)]]]) := by
          simp only [Sh.s_Foreign___init___5, sFldM, eTup, sSeq, sAsg, sb, sIf, sRet, sNext, sPar, sExpr, sRaise, tOrM, tAndM, tNotM, tOfE, tYes, eF, eN, Kx.e1, Kx.e2, eIf, eAnd, eOr, eNot, Kx.eC, eVar, aCons, aNil, eChain, opt, Res.bind, gN, gTp, gCo, gNo, Option.bind, iVal, itemsD, eSl, oSome, oNone, eS1, eL1, fnRes, List.getElem?_cons_zero, List.getElem?_cons_succ, List.set_cons_zero, List.set_cons_succ, if_true, Bool.false_eq_true, if_false, Bool.not_true, Bool.not_false, q6, sm, q5]
        rw [seq_nx e3, seq_nx e4, e5]
        rfl
end
end Kx

set_option Elab.async false
set_option linter.all false
set_option maxRecDepth 100000
set_option autoImplicit false
set_option maxHeartbeats 0
/-! Tc: foreign screens as values, their own ==. -/
namespace Kx
open PySem PySem.Spec L2
def forD (nm : D) (es : List D) : D := .ins "Foreign" ["name", "answers", "told"] [nm, .tup (rowOf es), .tup [nm, .tup (rowOf es)]]
structure TFor2 (T : ITab) : Prop extends TFor T where
  sub : T.isSub "Foreign" "Foreign" = true
  bas : ∀ n, T.isBas "Foreign" n = false
theorem TFor.cls {T : ITab} (h : TFor T) : T.cls.contains "Foreign" = true := by
  have := h.ins
  unfold ITab.cls
  simp only [List.contains_eq_any_beq, List.any_append, Bool.or_eq_true] at this ⊢
  exact .inr this
theorem frz_pl {k : Nat} {d : D} {S : Store} (h : plV d = true) : frzF k d S = (d, S) := by
  cases k with
  | zero => rfl
  | succ k => cases d <;> first | rfl | (simp [plV] at h)
section
variable {T : ITab} {S S1 : Store} {nm e : D} {es : List D} {G : En} {mA : MA}
/-- Foreign(nm, e) -/
def forR (nm : D) (es : List D) (S : Store) : Res D := if isW nm then (if ansOk es then .ok (forD nm es) (S ++ [.dead]) else .exc "BadScreen" ["place"] [.str "answers"] (S ++ [.ins "Foreign" [] []])) else .exc "BadScreen" ["place"] [.str "name"] (S ++ [.ins "Foreign" [] []])
theorem seqV_app {c : Cell} (h : SeqV S e es) (hc : e = .tup es ∨ e = .lst es ∨ ∃ n, e = .loc n ∧ S[n]? = some (.lst es)) : SeqV (S ++ [c]) e es := by
  rcases hc with rfl | rfl | ⟨n, rfl, hn⟩
  · exact seqV_tup
  · exact seqV_lst
  · refine seqV_cell ?_
    rw [List.getElem?_append_left (List.getElem?_eq_some_iff.mp hn).1]
    exact hn
/-- a sequence as it may be passed -/
def SeqP (S : Store) (e : D) (es : List D) : Prop := e = .tup es ∨ e = .lst es ∨ ∃ n, e = .loc n ∧ S[n]? = some (.lst es)
theorem SeqP.v (h : SeqP S e es) : SeqV S e es := by
  rcases h with rfl | rfl | ⟨n, rfl, hn⟩
  · exact seqV_tup
  · exact seqV_lst
  · exact seqV_cell hn
theorem SeqP.app {c : Cell} (h : SeqP S e es) : SeqP (S ++ [c]) e es := by
  rcases h with rfl | rfl | ⟨n, rfl, hn⟩
  · exact .inl rfl
  · exact .inr (.inl rfl)
  · refine .inr (.inr ⟨n, rfl, ?_⟩)
    rw [List.getElem?_append_left (List.getElem?_eq_some_iff.mp hn).1]
    exact hn
theorem mk_foreign (tf : TFor T) (hA : mA G S = .ok [nm, e] S1) (hn : plV nm = true) (he : SeqP S1 e es) (hp : ∀ d ∈ es, plV d = true) :
    eMk "Foreign" 2 2 0 (Sh.f_Foreign___init__ T) gFst mA aNil G S = forR nm es S1 := by
  have q := foreign_init (S := S1) tf hn (SeqP.app he).v hp (SeqP.app he).v
  unfold eMk
  rw [hA]
  show (if ([nm, e] : List D).length = 2 ∧ ([] : List D).length = 0 then (Sh.f_Foreign___init__ T [.loc S1.length, nm, e] (S1 ++ [.ins "Foreign" [] []])).bind (fun d S3 => match d with
    | .non => .ok (frzF 2 (.loc S1.length) S3).1 (frzF 2 (.loc S1.length) S3).2
    | _ => .err) else .err) = _
  rw [if_pos ⟨rfl, rfl⟩, q]
  unfold forR
  cases isW nm with
  | false => rfl
  | true =>
    cases ansOk es with
    | false => rfl
    | true =>
      simp only [if_true, Res.bind]
      have g : (S1 ++ [Cell.ins "Foreign" ["name", "answers", "told"] [nm, .tup (rowOf es), .tup [nm, .tup (rowOf es)]]])[S1.length]? = some (.ins "Foreign" ["name", "answers", "told"] [nm, .tup (rowOf es), .tup [nm, .tup (rowOf es)]]) := by simp
      have f : frzF 2 (.loc S1.length) (S1 ++ [.ins "Foreign" ["name", "answers", "told"] [nm, .tup (rowOf es), .tup [nm, .tup (rowOf es)]]]) = (forD nm es, S1 ++ [.dead]) := by
        unfold frzF
        dsimp only
        rw [g]
        dsimp only
        simp only [frzL, frz_pl hn, frz_pl (d := .tup (rowOf es)) rfl, frz_pl (d := .tup [nm, .tup (rowOf es)]) rfl]
        rw [List.set_append_right _ _ (Nat.le_refl _), Nat.sub_self]
        rfl
      rw [f]
/-- Foreign(nm, e) where e is no list -/
theorem mk_foreign_no (tf : TFor T) (hA : mA G S = .ok [nm, e] S1) (hn : plV nm = true) (he : isiD T [e, .tup [.ty "list", .ty "tuple"]] (S1 ++ [.ins "Foreign" [] []]) = some (.bl false)) :
    eMk "Foreign" 2 2 0 (Sh.f_Foreign___init__ T) gFst mA aNil G S = .exc "BadScreen" ["place"] [.str (if isW nm then "answers" else "name")] (S1 ++ [.ins "Foreign" [] []]) := by
  have e0 := fin0 (T := T) (S := S1 ++ [.ins "Foreign" [] []]) (e := e) (x := some (.loc S1.length)) hn
  have e1 := fin1_no (T := T) (nm := nm) (x := some (.loc S1.length)) he
  unfold eMk
  rw [hA]
  show (if ([nm, e] : List D).length = 2 ∧ ([] : List D).length = 0 then (fnRes (Sh.b_Foreign___init__ T [some (.loc S1.length), some nm, some e, none] (S1 ++ [.ins "Foreign" [] []]))).bind (fun d S3 => match d with
    | .non => .ok (frzF 2 (.loc S1.length) S3).1 (frzF 2 (.loc S1.length) S3).2
    | _ => .err) else .err) = _
  rw [if_pos ⟨rfl, rfl⟩]
  unfold Sh.b_Foreign___init__
  cases hw : isW nm with
  | false => rw [hw] at e0; rw [seq_exc e0]; rfl
  | true => rw [hw] at e0; rw [seq_nx e0, seq_exc e1]; rfl
end
/-! ### what is told, compared -/
theorem ltr_lay {x : Str} (h : x.cps.toList.all ltr = true) : x.cps.all (· < 0x110000) = true := by
  have : x.cps.toList.all (· < 0x110000) = true := by
    rw [List.all_eq_true] at h ⊢
    intro c hc
    have := h c hc
    unfold ltr at this
    simp only [Bool.and_eq_true, decide_eq_true_eq] at this
    simp only [decide_eq_true_eq]
    omega
  simpa using this
theorem ws_lay {x : Str} (h : isWs x = true) : x.cps.all (· < 0x110000) = true := ltr_lay (b2 (b2 h).2).2
theorem ws_ok {x : Str} (h : isWs x = true) : PyData.strOk x = true := ws_lay h
theorem toPs_strs (S : Store) : ∀ xs : List Str, toPs S (xs.map .str) = some (xs.map .str)
  | [] => by simp only [List.map_nil, toPs]
  | x :: xs => by simp only [List.map_cons, toPs, toP, toPs_strs S xs]
theorem lay_strs : ∀ {xs : List Str}, (∀ x ∈ xs, isWs x = true) → PyData.canLayAll0 (xs.map .str) = true
  | [], _ => by simp only [List.map_nil, PyData.canLayAll0]
  | x :: xs, h => by simp only [List.map_cons, PyData.canLayAll0, PyData.canLay0, ws_ok (h x List.mem_cons_self), lay_strs fun y hy => h y (List.mem_cons_of_mem _ hy), Bool.and_self]
theorem dep_strs : ∀ xs : List Str, PyData.depthAll (xs.map .str) = 0
  | [] => by simp only [List.map_nil, PyData.depthAll]
  | x :: xs => by simp only [List.map_cons, PyData.depthAll, PyData.depth, dep_strs xs, Nat.max_self]
theorem eqv_strs : ∀ xs ys : List Str, PyData.eqvAll (xs.map .str) (ys.map .str) = decide (xs = ys)
  | [], [] => by simp [PyData.eqvAll]
  | [], y :: ys => by simp [PyData.eqvAll]
  | x :: xs, [] => by simp [PyData.eqvAll]
  | x :: xs, y :: ys => by
    simp only [List.map_cons, PyData.eqvAll, PyData.eqv, eqv_strs xs ys]
    rw [Bool.eq_iff_iff]
    simp
def toldD (a : Str) (xs : List Str) : D := .tup [.str a, .tup (xs.map .str)]
theorem told_eq {a b : Str} {xs ys : List Str} {S : Store} (ha : isWs a = true) (hb : isWs b = true) (hx : ∀ x ∈ xs, isWs x = true) (hy : ∀ x ∈ ys, isWs x = true) : eqX (toldD a xs) (toldD b ys) S = some (.bl (decide (a = b) && decide (xs = ys))) := by
  have key : ∀ {a : Str} {xs : List Str}, isWs a = true → (∀ x ∈ xs, isWs x = true) → toP S (toldD a xs) = some (.tuple [.str a, .tuple (xs.map .str)]) ∧ SeqAt.shaped (.tuple [.str a, .tuple (xs.map .str)]) = true := fun {a xs} ha hx => by
    refine ⟨by simp only [toldD, toP, toPs, toPs_strs, Option.map_some], ?_⟩
    unfold SeqAt.shaped
    simp only [PyData.canLay0, PyData.canLayAll0, ws_ok ha, lay_strs hx, PyData.depth, PyData.depthAll, dep_strs, Bool.and_self, Bool.true_and, decide_eq_true_eq]
    decide
  obtain ⟨p1, p2⟩ := key ha hx
  obtain ⟨q1, q2⟩ := key hb hy
  have e : eqD (toldD a xs) (toldD b ys) S = some (.bl (decide (a = b) && decide (xs = ys))) := by
    show (match toP S (toldD a xs), toP S (toldD b ys) with
      | some p, some q => if SeqAt.shaped p && SeqAt.shaped q then some (D.bl (PyData.eqv p q)) else none
      | _, _ => none) = _
    rw [p1, q1]
    dsimp only
    rw [p2, q2]
    simp only [Bool.and_self, if_true, PyData.eqv, PyData.eqvAll, eqv_strs, Bool.and_true]
    congr 2
  unfold eqX
  rw [e]
section
variable {T : ITab} {S : Store} {a b : Str} {es fs : List D} {d : D}
theorem row_ws {es : List D} (h : es.all isW = true) : ∀ x ∈ sortW (wsOf es), isWs x = true := by
  obtain ⟨xs, h1, h2, h3⟩ := strs_of h
  intro x hx
  have p : (sortW (wsOf es)).Perm (wsOf es) := sortW_perm _
  have : x ∈ wsOf es := p.mem_iff.mp hx
  unfold wsOf at this
  rw [h2] at this
  exact h3 x this
theorem feq_plain (tf : TFor2 T) (hd : plV d = true) : Sh.f_Foreign___eq__ T [forD (.str a) es, d] S = .ok (.bl false) S := by
  have i0 : isiD T [d, .fn "Foreign"] S = some (.bl false) := by
    have c := tf.toTFor.cls
    cases d <;> first | (simp [plV] at hd; done) | (simp only [isiD, askOk, tagD, isOne, c, if_true, Option.map_some]; rfl)
  show fnRes (Sh.b_Foreign___eq__ T [some (forD (.str a) es), some d] S) = _
  simp only [Sh.b_Foreign___eq__, Sh.s_Foreign___eq___0, sSeq, sAsg, sb, sIf, sRet, sNext, sPar, sExpr, sRaise, tOrM, tAndM, tNotM, tOfE, tYes, eF, eN, Kx.e1, Kx.e2, eIf, eAnd, eOr, eNot, Kx.eC, eVar, aCons, aNil, eChain, opt, Res.bind, gN, gTp, gCo, gNo, Option.bind, iVal, itemsD, eSl, oSome, oNone, eS1, eL1, fnRes, List.getElem?_cons_zero, List.getElem?_cons_succ, List.set_cons_zero, List.set_cons_succ, if_true, Bool.false_eq_true, if_false, Bool.not_true, Bool.not_false, i0]
theorem feq_for (tf : TFor2 T) (ha : isWs a = true) (hb : isWs b = true) (he : es.all isW = true) (hf : fs.all isW = true) : Sh.f_Foreign___eq__ T [forD (.str a) es, forD (.str b) fs] S = .ok (.bl (decide (a = b) && decide (sortW (wsOf es) = sortW (wsOf fs)))) S := by
  have c := tf.toTFor.cls
  have i0 : isiD T [forD (.str b) fs, .fn "Foreign"] S = some (.bl true) := by
    unfold forD
    simp only [isiD, askOk, tagD, isOne, tf.ins, c, tf.sub, Bool.and_self, if_true, Option.map_some]
  have t1 : ∀ (z : Str) (gs : List D), fldD T "told" (forD (.str z) gs) S = some (toldD z (sortW (wsOf gs))) := fun z gs => by
    unfold forD
    simp only [fldD, tf.ins, tf.f3, Bool.and_self, if_true]
    rfl
  have te := told_eq (S := S) ha hb (row_ws he) (row_ws hf)
  show fnRes (Sh.b_Foreign___eq__ T [some (forD (.str a) es), some (forD (.str b) fs)] S) = _
  simp only [Sh.b_Foreign___eq__, Sh.s_Foreign___eq___0, sSeq, sAsg, sb, sIf, sRet, sNext, sPar, sExpr, sRaise, tOrM, tAndM, tNotM, tOfE, tYes, eF, eN, Kx.e1, Kx.e2, eIf, eAnd, eOr, eNot, Kx.eC, eVar, aCons, aNil, eChain, opt, Res.bind, gN, gTp, gCo, gNo, Option.bind, iVal, itemsD, eSl, oSome, oNone, eS1, eL1, fnRes, List.getElem?_cons_zero, List.getElem?_cons_succ, List.set_cons_zero, List.set_cons_succ, if_true, Bool.false_eq_true, if_false, Bool.not_true, Bool.not_false, i0, t1, te]
/-- the classes' own == as far as it is asked -/
abbrev tabF (T : ITab) : List (Str × FN) := [("Foreign", Sh.f_Foreign___eq__ T)]
theorem look_tabF : (tabF T).lookup ("Foreign" : Str) = some (Sh.f_Foreign___eq__ T) := rfl
theorem eqW_lp (tf : TFor2 T) (hd : plV d = true) (hv : ∃ n, tagD S d = some (.ty n) ∧ valTys.contains n = true) : eqW T (tabF T) (forD (.str a) es) d S = .ok (.bl false) S ∧ neW T (tabF T) (forD (.str a) es) d S = .ok (.bl true) S := by
  obtain ⟨n, hn, hv⟩ := hv
  have ak : askOk T S d = true := by cases d <;> first | rfl | (simp [plV] at hd)
  have q := feq_plain (T := T) (S := S) (a := a) (es := es) tf hd
  have c : clsOf S (forD (.str a) es) = some ("Foreign" : Str) := rfl
  constructor
  · unfold eqW
    simp only [c]
    unfold eqO
    simp only [c, hn, look_tabF]
    rw [tf.ins, ak]
    simp only [notSub, hv, Bool.and_self, if_true, q, okRes]
  · unfold neW
    simp only [c, hn, look_tabF]
    rw [tf.ins, ak]
    simp only [notSub, hv, Bool.and_self, if_true, q, notRes, Bool.not_false]
theorem eqW_pr (tf : TFor2 T) (hd : plV d = true) (hl : ∃ n, leftTy d = some n) : eqW T (tabF T) d (forD (.str a) es) S = .ok (.bl false) S := by
  obtain ⟨n, hn⟩ := hl
  have q := feq_plain (T := T) (S := S) (a := a) (es := es) tf hd
  have c1 : clsOf S d = none := by cases d <;> first | rfl | (simp [plV] at hd)
  have c : clsOf S (forD (.str a) es) = some ("Foreign" : Str) := rfl
  unfold eqW
  rw [c1, c]
  dsimp only
  rw [hn, look_tabF]
  dsimp only
  rw [tf.ins, tf.bas]
  simp only [Bool.not_false, Bool.and_self, if_true, q, okRes]
theorem eqW_ff (tf : TFor2 T) (ha : isWs a = true) (hb : isWs b = true) (he : es.all isW = true) (hf : fs.all isW = true) : eqW T (tabF T) (forD (.str a) es) (forD (.str b) fs) S = .ok (.bl (decide (a = b) && decide (sortW (wsOf es) = sortW (wsOf fs)))) S ∧
    neW T (tabF T) (forD (.str a) es) (forD (.str b) fs) S = .ok (.bl (!(decide (a = b) && decide (sortW (wsOf es) = sortW (wsOf fs))))) S := by
  have q := feq_for (S := S) tf ha hb he hf
  have c : clsOf S (forD (.str a) es) = some ("Foreign" : Str) := rfl
  have ak : askOk T S (forD (.str b) fs) = true := tf.ins
  have tg : tagD S (forD (.str b) fs) = some (.own ("Foreign" : Str)) := rfl
  have ns : notSub T "Foreign" (.own "Foreign") = true := by
    simp only [notSub, tf.toTFor.cls, decide_true, Bool.true_or, Bool.and_self]
  constructor
  · unfold eqW
    simp only [c]
    unfold eqO
    simp only [c, tg, look_tabF]
    rw [tf.ins, ak, ns]
    simp only [Bool.and_self, if_true, q, okRes]
  · unfold neW
    simp only [c, tg, look_tabF]
    rw [tf.ins, ak, ns]
    simp only [Bool.and_self, if_true, q, notRes]
end
/-! ### stores -/
theorem set_other {S : Store} {n i : Nat} {K : Cell} {c : Cell} (h : S[i]? = some c) (ne : n ≠ i) : (S.set n K)[i]? = some c := by rw [List.getElem?_set_ne ne]; exact h
theorem DrOk.mono {S : Store} {n b c : Nat} (h : DrOk S n b) (k : b ≤ c) : DrOk S n c := by
  obtain ⟨l, s, p, q, h1, h2, h3, h4⟩ := h
  exact ⟨l, s, p, q, h1, h2, by omega, h4⟩
theorem DrOk.other {S : Store} {n i b : Nat} {K : Cell} (h : DrOk S n b) (ne : i ≠ n) : DrOk (S.set i K) n b := by
  obtain ⟨l, s, p, q, h1, h2⟩ := h
  exact ⟨l, s, p, q, set_other h1 ne, h2⟩
theorem DrOk.app {S : Store} {n b : Nat} {K : Cell} (h : DrOk S n b) : DrOk (S ++ [K]) n b := by
  obtain ⟨l, s, p, q, h1, h2⟩ := h
  exact ⟨l, s, p, q, by rw [List.getElem?_append_left (List.getElem?_eq_some_iff.mp h1).1]; exact h1, h2⟩
theorem DrOk.lt {S : Store} {n b : Nat} (h : DrOk S n b) : n < S.length := by
  obtain ⟨l, s, p, q, h1, h2⟩ := h
  exact (List.getElem?_eq_some_iff.mp h1).1
theorem lenC {S : Store} {i : Nat} {ms : List D} (h : S[i]? = some (.lst ms)) : lenD [.loc i] S = some (.int (ms.length : Int)) := (seqV_cell h).len
theorem seqIx {v : Int} {l : Nat} (h0 : 0 ≤ v) (h1 : v < l) : seqIndex? v l = some v.toNat := by
  unfold seqIndex?
  have e : ¬ v < 0 := by omega
  simp only [if_neg e]
  rw [if_pos (by simp only [Bool.and_eq_true, decide_eq_true_eq]; omega)]
theorem par_ok {i j : Nat} {a b : ME} {G : En} {S S1 S2 : Store} {d e : D} (ha : a G S = .ok d S1) (hb : b G S1 = .ok e S2) : sPar i j a b G S = .nx ((G.set i (some d)).set j (some e)) S2 := by
  unfold sPar
  rw [ha]
  show sb (b G S1) G _ = _
  rw [hb]
  rfl
section
variable {G : En} {S S1 S2 : Store} {d e : D} {ds : List D}
theorem cons_ok {a : ME} {b : MA} (ha : a G S = .ok d S1) (hb : b G S1 = .ok ds S2) : aCons a b G S = .ok (d :: ds) S2 := by
  unfold aCons
  rw [ha]
  show (b G S1).bind _ = _
  rw [hb]
  rfl
theorem lst_ok {a : MA} (ha : a G S = .ok ds S1) (hs : small ds = true) : eLst a G S = .ok (.lst ds) S1 := by
  unfold eLst
  rw [ha]
  show (if small ds then _ else _) = _
  rw [hs]
  rfl
theorem tup_ok {a : MA} (ha : a G S = .ok ds S1) (hs : small ds = true) : eTup a G S = .ok (.tup ds) S1 := by
  unfold eTup
  rw [ha]
  show (if small ds then _ else _) = _
  rw [hs]
  rfl
theorem eR_ok {op : OPR} {a b : ME} {z : Res D} (ha : a G S = .ok d S1) (hb : b G S1 = .ok e S2) (ho : op d e S2 = z) : eR op a b G S = z := by
  unfold eR
  rw [ha]
  show (b G S1).bind _ = _
  rw [hb]
  exact ho
theorem tOf_ok {a : ME} {k : Bool} (ha : a G S = .ok (.bl k) S1) : tOfE a G S = .ok k S1 := by
  unfold tOfE
  rw [ha]
  rfl
theorem or_no {a b : MT} (ha : a G S = .ok false S1) : tOrM a b G S = b G S1 := by
  unfold tOrM
  rw [ha]
  rfl
theorem if_no {t : MT} {a b : MS} (ht : t G S = .ok false S1) : sIf t a b G S = b G S1 := by
  unfold sIf
  rw [ht]
  rfl
theorem if_yes {t : MT} {a b : MS} (ht : t G S = .ok true S1) : sIf t a b G S = a G S1 := by
  unfold sIf
  rw [ht]
  rfl
theorem eN_ok {f : OPN} {a : MA} {z : D} (ha : a G S = .ok ds S1) (hf : f ds S1 = some z) : eN f a G S = .ok z S1 := by
  unfold eN
  rw [ha]
  show opt (f ds S1) S1 = _
  rw [hf]
  rfl
end
end Kx

set_option Elab.async false
set_option linter.all false
set_option maxRecDepth 100000
set_option autoImplicit false
set_option maxHeartbeats 0
namespace Kx
namespace k03
open PySem PySem.Spec L2 PySem.W PySem.Calls
open He (ga ma fAd Fa DefD Dv)
def top (i : Nat) : Stmt := PySem.Challenge.pw_keysalone_k03_foreign_screens.main.body.getD i (.Pass ⟨0, 0, 0, 0⟩)
def d_is_list : DefD := ⟨("is_list", none), "is_list", "is_list", defArgs (top 27), defBody (top 27), defScope (top 27), [], []⟩
def d_is_word : DefD := ⟨("is_word", none), "is_word", "is_word", defArgs (top 25), defBody (top 25), defScope (top 25), [], []⟩
def d_is_among : DefD := ⟨("is_among", none), "is_among", "is_among", defArgs (top 26), defBody (top 26), defScope (top 26), [], []⟩
def d_is_switch : DefD := ⟨("is_switch", none), "is_switch", "is_switch", defArgs (top 62), defBody (top 62), defScope (top 62), [], []⟩
def d_need_switches : DefD := ⟨("need_switches", none), "need_switches", "need_switches", defArgs (top 68), defBody (top 68), defScope (top 68), [], []⟩
def d_are_rising : DefD := ⟨("are_rising", none), "are_rising", "are_rising", defArgs (top 29), defBody (top 29), defScope (top 29), [], []⟩
def d_is_pair : DefD := ⟨("is_pair", none), "is_pair", "is_pair", defArgs (top 28), defBody (top 28), defScope (top 28), [], []⟩
def d_is_condition : DefD := ⟨("is_condition", none), "is_condition", "is_condition", defArgs (top 30), defBody (top 30), defScope (top 30), [], []⟩
def d_is_changes : DefD := ⟨("is_changes", none), "is_changes", "is_changes", defArgs (top 31), defBody (top 31), defScope (top 31), [], []⟩
def d_is_replies : DefD := ⟨("is_replies", none), "is_replies", "is_replies", defArgs (top 63), defBody (top 63), defScope (top 63), [], []⟩
def d_is_deed : DefD := ⟨("is_deed", none), "is_deed", "is_deed", defArgs (top 64), defBody (top 64), defScope (top 64), [], []⟩
def d_is_part : DefD := ⟨("is_part", none), "is_part", "is_part", defArgs (top 65), defBody (top 65), defScope (top 65), [], []⟩
def d_need_parts : DefD := ⟨("need_parts", none), "need_parts", "need_parts", defArgs (top 69), defBody (top 69), defScope (top 69), [], []⟩
def d_Plan___init__ : DefD := ⟨("Plan", some "__init__"), "__init__", "Plan.__init__", defArgs (mthOf (top 66) 0), defBody (mthOf (top 66) 0), defScope (mthOf (top 66) 0), [], []⟩
def d_Plan_put_part : DefD := ⟨("Plan", some "put_part"), "put_part", "Plan.put_part", defArgs (mthOf (top 66) 1), defBody (mthOf (top 66) 1), defScope (mthOf (top 66) 1), [], []⟩
def d_is_one_of : DefD := ⟨("is_one_of", none), "is_one_of", "is_one_of", defArgs (top 61), defBody (top 61), defScope (top 61), [], []⟩
def d_Plan_put_group : DefD := ⟨("Plan", some "put_group"), "put_group", "Plan.put_group", defArgs (mthOf (top 66) 2), defBody (mthOf (top 66) 2), defScope (mthOf (top 66) 2), [], []⟩
def d_Plan_put_item : DefD := ⟨("Plan", some "put_item"), "put_item", "Plan.put_item", defArgs (mthOf (top 66) 4), defBody (mthOf (top 66) 4), defScope (mthOf (top 66) 4), [], []⟩
def d_Plan_put_box : DefD := ⟨("Plan", some "put_box"), "put_box", "Plan.put_box", defArgs (mthOf (top 66) 3), defBody (mthOf (top 66) 3), defScope (mthOf (top 66) 3), [], []⟩
def d_plan_of : DefD := ⟨("plan_of", none), "plan_of", "plan_of", defArgs (top 67), defBody (top 67), defScope (top 67), [], []⟩
def d_Screen_need_rule : DefD := ⟨("Screen", some "need_rule"), "need_rule", "Screen.need_rule", defArgs (mthOf (top 70) 1), defBody (mthOf (top 70) 1), defScope (mthOf (top 70) 1), [], []⟩
def d_Screen___init__ : DefD := ⟨("Screen", some "__init__"), "__init__", "Screen.__init__", defArgs (mthOf (top 70) 0), defBody (mthOf (top 70) 0), defScope (mthOf (top 70) 0), [], [("switches", Dv.adr (kwAd ("Screen", some "__init__") "switches")), ("enter", Dv.str "first"), ("ends", Dv.str "wrap"), ("gone", Dv.str "first"), ("again", Dv.str "opener"), ("leave", Dv.str "")]⟩
def d__law_begun : DefD := ⟨("_law_begun", none), "_law_begun", "_law_begun", defArgs (top 73), defBody (top 73), defScope (top 73), [], []⟩
def d__law_draw : DefD := ⟨("_law_draw", none), "_law_draw", "_law_draw", defArgs (top 74), defBody (top 74), defScope (top 74), [], []⟩
def d__law_of : DefD := ⟨("_law_of", none), "_law_of", "_law_of", defArgs (top 75), defBody (top 75), defScope (top 75), [], []⟩
def d__law_some : DefD := ⟨("_law_some", none), "_law_some", "_law_some", defArgs (top 80), defBody (top 80), defScope (top 80), [], []⟩
def d_Foreign___init__ : DefD := ⟨("Foreign", some "__init__"), "__init__", "Foreign.__init__", defArgs (mthOf (top 71) 0), defBody (mthOf (top 71) 0), defScope (mthOf (top 71) 0), [], []⟩
def d__law_error_word : DefD := ⟨("_law_error_word", none), "_law_error_word", "_law_error_word", defArgs (top 76), defBody (top 76), defScope (top 76), [], []⟩
def d__law_is_word : DefD := ⟨("_law_is_word", none), "_law_is_word", "_law_is_word", defArgs (top 78), defBody (top 78), defScope (top 78), [], []⟩
def d__law_are_answers : DefD := ⟨("_law_are_answers", none), "_law_are_answers", "_law_are_answers", defArgs (top 79), defBody (top 79), defScope (top 79), [], []⟩
def d_Foreign___eq__ : DefD := ⟨("Foreign", some "__eq__"), "__eq__", "Foreign.__eq__", defArgs (mthOf (top 71) 1), defBody (mthOf (top 71) 1), defScope (mthOf (top 71) 1), [], []⟩
def d_law : DefD := ⟨("law", none), "law", "law", defArgs (top 81), defBody (top 81), defScope (top 81), [], []⟩
def d__law_told : DefD := ⟨("_law_told", none), "_law_told", "_law_told", defArgs (top 77), defBody (top 77), defScope (top 77), [], []⟩
def T : ITab := ⟨["KeysError", "BadScreen", "BadLibrary", "BadName", "BadState", "BadConfiguration", "BadEvent", "BadStart", "BadUser", "BadPromise", "BadGoal", "BadPaper", "BadMending", "BadText", "BadNumber", "NothingLeft", "TooGreat"], ["Plan", "Screen", "Foreign"], [("KeysError", ["KeysError"]), ("BadScreen", ["BadScreen", "KeysError"]), ("BadLibrary", ["BadLibrary", "KeysError"]), ("BadName", ["BadName", "KeysError"]), ("BadState", ["BadState", "KeysError"]), ("BadConfiguration", ["BadConfiguration", "KeysError"]), ("BadEvent", ["BadEvent", "KeysError"]), ("BadStart", ["BadStart", "KeysError"]), ("BadUser", ["BadUser", "KeysError"]), ("BadPromise", ["BadPromise", "KeysError"]), ("BadGoal", ["BadGoal", "KeysError"]), ("BadPaper", ["BadPaper", "KeysError"]), ("BadMending", ["BadMending", "KeysError"]), ("BadText", ["BadText", "KeysError"]), ("BadNumber", ["BadNumber", "KeysError"]), ("NothingLeft", ["NothingLeft"]), ("TooGreat", ["TooGreat"]), ("Plan", ["Plan"]), ("Screen", ["Screen"]), ("Foreign", ["Foreign"])], [("KeysError", ["ValueError"]), ("BadScreen", ["ValueError"]), ("BadLibrary", ["ValueError"]), ("BadName", ["ValueError"]), ("BadState", ["ValueError"]), ("BadConfiguration", ["ValueError"]), ("BadEvent", ["ValueError"]), ("BadStart", ["ValueError"]), ("BadUser", ["ValueError"]), ("BadPromise", ["ValueError"]), ("BadGoal", ["ValueError"]), ("BadPaper", ["ValueError"]), ("BadMending", ["ValueError"]), ("BadText", ["ValueError"]), ("BadNumber", ["ValueError"]), ("NothingLeft", ["LookupError"]), ("TooGreat", ["OverflowError"])], [("BadScreen", ["place"]), ("BadLibrary", ["place"]), ("BadName", ["value"]), ("BadState", ["value"]), ("BadConfiguration", ["value"]), ("BadEvent", ["value"]), ("BadStart", ["value"]), ("BadUser", ["value"]), ("BadPromise", ["value"]), ("BadGoal", ["value"]), ("BadPaper", ["place"]), ("BadMending", ["place"]), ("BadText", ["line"]), ("BadNumber", ["value"]), ("TooGreat", ["most"]), ("Plan", ["known", "switches", "row", "around", "groups", "is_good"]), ("Screen", ["switches", "switch_names", "name", "parts", "table", "plan", "layout", "enter", "ends", "gone", "again", "leave", "reading", "answers", "told"]), ("Foreign", ["name", "answers", "told"])]⟩
def X1S : List (Str × Bs × Str) := [("BadScreen", .ve, "place")]
def CNS : List (Str × D) := ([("MOST_LETTERS", .int 8), ("LETTERS", .str "abcdefghijklmnopqrstuvwxyz"), ("MOST_SWITCHES", .int 3), ("ON", .str "on"), ("OFF", .str "off"), ("FLIP", .str "flip"), ("OPEN", .str "open"), ("TURN", .str "turn"), ("CLOSE", .str "close"), ("NONE", .str "none"), ("LEAST_ORDER", .int (-1)), ("MOST_ORDER", .int 9), ("MOST_PARTS", .int 8), ("WRAP", .str "wrap"), ("STAY", .str "stay"), ("BOX", .str "box"), ("GROUP", .str "group"), ("MOST_DEEP", .int 3), ("MOST_GROUPS", .int 2), ("ENTER", .str "enter"), ("FIRST", .str "first"), ("ENDS", .str "ends"), ("ENDS_WORDS", .tup [.str "wrap", .str "stay", .str "out"]), ("GONE", .str "gone"), ("GONE_WORDS", .tup [.str "lost", .str "first", .str "near"])] : List (Str × D)) ++ ([("AGAIN", .str "again"), ("AGAIN_WORDS", .tup [.str "opener", .str "first", .str "lost"]), ("LEAVE", .str "leave"), ("MOST_ANSWERS", .int 3)] : List (Str × D))
def NM : Nm := ⟨T, ["all", "bool", "enumerate", "int", "isinstance", "len", "list", "min", "range", "repr", "set", "sorted", "str", "tuple", "zip"], X1S, [], [d_is_list, d_is_word, d_is_among, d_is_switch, d_need_switches, d_are_rising, d_is_pair, d_is_condition, d_is_changes, d_is_replies, d_is_deed, d_is_part, d_need_parts, d_Plan___init__, d_Plan_put_part, d_is_one_of, d_Plan_put_group, d_Plan_put_item, d_Plan_put_box, d_plan_of, d_Screen_need_rule, d_Screen___init__, d__law_begun, d__law_draw, d__law_of, d__law_some, d_Foreign___init__, d__law_error_word, d__law_is_word, d__law_are_answers, d_Foreign___eq__, d_law, d__law_told], CNS, true, ["Foreign", "Plan", "Screen"], [("Foreign", "__eq__"), ("Foreign", "__init__"), ("Plan", "__init__"), ("Plan", "put_box"), ("Plan", "put_group"), ("Plan", "put_item"), ("Plan", "put_part"), ("Screen", "__init__"), ("Screen", "need_rule")], [(("Screen", some "__init__"), "switches", .tup [])]⟩
theorem td : ToldD NM d__law_told := ⟨by simp [NM], rfl, rfl, rfl, ⟨rfl, rfl, rfl, by decide +kernel, rfl, by decide +kernel, by decide +kernel⟩, rfl, rfl, rfl, rfl, rfl, rfl, rfl, rfl, fun _ _ _ _ _ _ us hl => match us, hl with | [_], _ => rfl, ⟨_, _, _, _, _, _, _, _, _, _, _, _, _, _, _, _, _, _, _, _, _, _, _, _, _, _, _, _, _, _, rfl⟩, rfl, rfl, rfl, rfl⟩
def s__law_some_0 : MS := sPar 1 2 (eLstC (aCons (eC (.str "no")) (aCons (eC (.str "ok")) (aCons (eC (.str "x")) (aCons (eC (.str "abcdefgh")) (aCons (eC (.str "a")) (aCons (eC (.str "z")) (aNil)))))))) (eLstC (aNil))
def s__law_some_1_0 : MS := sExpr (eMut appM (eVar 2) (aCons (eMut popAtM (eVar 1) (aCons (eF f__law_draw (aCons (eVar 0) (aCons (eN lenD (aCons (eVar 1) (aNil))) (aNil)))) aNil)) aNil))
def s__law_some_1 : MS := sFor (iRange1 (e2 addX (eC (.int 1)) (eF f__law_draw (aCons (eVar 0) (aCons (eC (.int 3)) (aNil)))))) (gN 3) (s__law_some_1_0)
def s__law_some_2 : MS := sFrz 1 (sPar 4 5 (eF f__law_draw (aCons (eVar 0) (aCons (eC (.int 6)) (aNil)))) (eF f__law_of (aCons (eVar 0) (aCons (eLst (aCons (eC .non) (aCons (eC (.int 0)) (aCons (eC (.str "")) (aCons (eC (.str "abcdefghi")) (aCons (eC (.str "A")) (aCons (eTup (aCons (eC (.str "no")) (aNil))) (aCons (eC (.bl true)) (aCons (eC (.str "a b")) (aCons (eC (.str "no1")) (aCons (eLst (aNil)) (aNil)))))))))))) (aNil)))))
def s__law_some_3_t_0 : MS := sAsg (eF f__law_draw (aCons (eVar 0) (aCons (eN lenD (aCons (eVar 2) (aNil))) (aNil)))) (gN 6)
def s__law_some_3_t_1 : MS := sAsg (eAddC (e2 addX (eSl (eVar 2) (oNone) (oSome (eVar 6))) (eLst (aCons (eVar 5) (aNil)))) (eSl (eVar 2) (oSome (e2 addX (eVar 6) (eC (.int 1)))) (oNone))) (gN 2)
def s__law_some_3 : MS := sIf (tOfE (e2 eqX (eVar 4) (eC (.int 0)))) (sSeq (s__law_some_3_t_0) (s__law_some_3_t_1)) (sNext)
def s__law_some_4_t_0 : MS := sAsg (eAddC (e2 addX (eVar 2) (eSl (eVar 2) (oNone) (oSome (eC (.int 1))))) (eSl (eVar 1) (oNone) (oSome (eF f__law_draw (aCons (eVar 0) (aCons (eC (.int 3)) (aNil))))))) (gN 2)
def s__law_some_4 : MS := sIf (tOfE (e2 eqX (eVar 4) (eC (.int 1)))) (s__law_some_4_t_0) (sNext)
def s__law_some_5_t_0 : MS := sRet (eF f__law_of (aCons (eVar 0) (aCons (eLst (aCons (eC .non) (aCons (eC (.int 5)) (aCons (eC (.str "no")) (aCons (eDic0) (aCons (eTup (aNil)) (aCons (eLst (aNil)) (aCons (eC (.str "ok")) (aCons (eC (.bl true)) (aNil)))))))))) (aNil))))
def s__law_some_5 : MS := sIf (tOfE (e2 eqX (eVar 4) (eC (.int 2)))) (s__law_some_5_t_0) (sNext)
def s__law_some_6 : MS := sRet (eIf (tOfE (e2 eqX (eF f__law_draw (aCons (eVar 0) (aCons (eC (.int 2)) (aNil)))) (eC (.int 0)))) (eN tupX (aCons (eVar 2) (aNil))) (eVar 2))
def b__law_some : MS := sSeq (s__law_some_0) (sSeq (s__law_some_1) (sSeq (s__law_some_2) (sSeq (s__law_some_3) (sSeq (s__law_some_4) (sSeq (s__law_some_5) (s__law_some_6))))))
def f__law_some : FN := mkFn 1 7 b__law_some
def s__law_is_word_0 : MS := sIf (tOrM (tNotM (tOfE (eN (isiD T) (aCons (eVar 0) (aCons (eC (.ty "str")) (aNil)))))) (tNotM (tOfE (eChain leD leD (eC (.int 1)) (eN lenD (aCons (eVar 0) (aNil))) (eC (.int 8)))))) (sRet (eC (.bl false))) (sNext)
def s__law_is_word_1 : MS := sRet (e2 eqX (eLc (iVal (eVar 0)) (gN 1) [1] (tOfE (e2 (notOf inD) (eVar 1) (eC (.str "abcdefghijklmnopqrstuvwxyz")))) (eVar 1)) (eLst (aNil)))
def b__law_is_word : MS := sSeq (s__law_is_word_0) (s__law_is_word_1)
def f__law_is_word : FN := mkFn 1 2 b__law_is_word
def s__law_are_answers_0 : MS := sIf (tOrM (tNotM (tOfE (eN (isiD T) (aCons (eVar 0) (aCons (eTup (aCons (eC (.ty "list")) (aCons (eC (.ty "tuple")) (aNil)))) (aNil)))))) (tNotM (tOfE (eChain leD leD (eC (.int 1)) (eN lenD (aCons (eVar 0) (aNil))) (eC (.int 3)))))) (sRet (eC (.bl false))) (sNext)
def s__law_are_answers_1 : MS := sIf (tOfE (e2 (notOf eqX) (eLcX (eVar 0) (gN 1) [1] (tNotM (tOfE (eF f__law_is_word (aCons (eVar 1) (aNil))))) (eVar 1)) (eLst (aNil)))) (sRet (eC (.bl false))) (sNext)
def s__law_are_answers_2 : MS := sRet (e2 eqX (e1 lenSetD (eVar 0)) (eN lenD (aCons (eVar 0) (aNil))))
def b__law_are_answers : MS := sSeq (s__law_are_answers_0) (sSeq (s__law_are_answers_1) (s__law_are_answers_2))
def f__law_are_answers : FN := mkFn 1 2 b__law_are_answers
def s_law_0_0 : MS := sAsg (eF f__law_begun (aCons (eVar 0) (aCons (eVar 1) (aNil)))) (gN 2)
def s_law_0_1_0 : MS := sAsg (eF f__law_of (aCons (eVar 2) (aCons (eLst (aCons (eC (.str "main")) (aCons (eC (.str "box")) (aCons (eC (.str "a")) (aCons (eC (.str "abcdefgh")) (aCons (eC (.str "abcdefghi")) (aCons (eC (.str "")) (aCons (eC (.str "A")) (aCons (eC .non) (aCons (eC (.int 5)) (aCons (eTup (aCons (eC (.str "a")) (aNil))) (aCons (eC (.bl true)) (aCons (eC (.str "a1")) (aNil)))))))))))))) (aNil)))) (gN 4)
def s_law_0_1_2 : MS := sPar 6 7 (eN showX (aCons (eVar 5) (aNil))) (eTold T (Sh.f__law_error_word T) (eMk "Foreign" 2 2 0 (Sh.f_Foreign___init__ T) gFst (aCons (eVar 4) (aCons (eVar 5) (aNil))) aNil))
def s_law_0_1_3 : MS := sAsg (eIf (tOfE (eF f__law_is_word (aCons (eVar 4) (aNil)))) (eLst (aNil)) (eLst (aCons (eTup (aCons (eC (.str "screen")) (aCons (eC (.str "name")) (aNil)))) (aNil)))) (gN 8)
def s_law_0_1_4_t_0 : MS := sAsg (eLst (aCons (eTup (aCons (eC (.str "screen")) (aCons (eC (.str "answers")) (aNil)))) (aNil))) (gN 8)
def s_law_0_1_4 : MS := sIf (tAndM (tOfE (eR (eqW T [("Foreign", (Sh.f_Foreign___eq__ T))]) (eVar 8) (eLst (aNil)))) (tNotM (tOfE (eF f__law_are_answers (aCons (eVar 5) (aNil)))))) (s_law_0_1_4_t_0) (sNext)
def s_law_0_1_5 : MS := sIf (tOrM (tAndM (tOfE (eR (neW T [("Foreign", (Sh.f_Foreign___eq__ T))]) (eVar 8) (eLst (aNil)))) (tOfE (eR (neW T [("Foreign", (Sh.f_Foreign___eq__ T))]) (eVar 7) (e2 idxD (eVar 8) (eC (.int 0)))))) (tOrM (tAndM (tOfE (eR (eqW T [("Foreign", (Sh.f_Foreign___eq__ T))]) (eVar 8) (eLst (aNil)))) (tNotM (tOfE (eN (isiD T) (aCons (eVar 7) (aCons (eC (.ty "list")) (aNil))))))) (tOfE (eR (neW T [("Foreign", (Sh.f_Foreign___eq__ T))]) (eN showX (aCons (eVar 5) (aNil))) (eVar 6))))) (sRet (eC (.bl false))) (sNext)
def s_law_0_1_6_t_0 : MS := sPar 9 10 (e2 idxD (eVar 7) (eC (.int 0))) (eN tupX (aCons (eN sortX (aCons (eVar 5) (aNil))) (aNil)))
def s_law_0_1_6_t_1 : MS := sIf (tOfE (eN (isiD T) (aCons (eVar 5) (aCons (eC (.ty "list")) (aNil))))) (sExpr (eMut appM (eVar 5) (aCons (eC .non) aNil))) (sNext)
def s_law_0_1_6_t_2 : MS := sIf (tOfE (eR (neW T [("Foreign", (Sh.f_Foreign___eq__ T))]) (eN showX (aCons (eLst (aCons (e1 (fldD T "name") (eVar 9)) (aCons (e1 (fldD T "answers") (eVar 9)) (aNil)))) (aNil))) (eN showX (aCons (eLst (aCons (eVar 4) (aCons (eVar 10) (aNil)))) (aNil))))) (sRet (eC (.bl false))) (sNext)
def s_law_0_1_6_t_3 : MS := sAsg (eF f__law_of (aCons (eVar 2) (aCons (eLst (aCons (eC .non) (aCons (eVar 4) (aCons (eVar 10) (aCons (eTup (aCons (eVar 4) (aCons (eVar 10) (aNil)))) (aCons (eC (.int 5)) (aCons (eLst (aNil)) (aCons (eMk "Foreign" 2 2 0 (Sh.f_Foreign___init__ T) gFst (aCons (eC (.str "other")) (aCons (eVar 10) (aNil))) aNil) (aNil))))))))) (aNil)))) (gN 11)
def s_law_0_1_6_t_4 : MS := sIf (tOfE (eR (neW T [("Foreign", (Sh.f_Foreign___eq__ T))]) (eLst (aCons (eR (eqW T [("Foreign", (Sh.f_Foreign___eq__ T))]) (eVar 9) (eVar 11)) (aCons (eR (eqW T [("Foreign", (Sh.f_Foreign___eq__ T))]) (eVar 11) (eVar 9)) (aCons (eR (neW T [("Foreign", (Sh.f_Foreign___eq__ T))]) (eVar 9) (eVar 11)) (aNil))))) (eLst (aCons (eC (.bl false)) (aCons (eC (.bl false)) (aCons (eC (.bl true)) (aNil))))))) (sRet (eC (.bl false))) (sNext)
def s_law_0_1_6_t_5 : MS := sIf (tOrM (tOfE (eR (neW T [("Foreign", (Sh.f_Foreign___eq__ T))]) (eVar 9) (eMk "Foreign" 2 2 0 (Sh.f_Foreign___init__ T) gFst (aCons (eVar 4) (aCons (eStep (eVar 10) (e1 negD (eC (.int 1)))) (aNil))) aNil))) (tOfE (eR (neW T [("Foreign", (Sh.f_Foreign___eq__ T))]) (eR (eqW T [("Foreign", (Sh.f_Foreign___eq__ T))]) (eVar 9) (eMk "Foreign" 2 2 0 (Sh.f_Foreign___init__ T) gFst (aCons (eVar 4) (aCons (eSl (eVar 10) (oNone) (oSome (eC (.int 1)))) (aNil))) aNil)) (eR (eqW T [("Foreign", (Sh.f_Foreign___eq__ T))]) (eN lenD (aCons (eVar 10) (aNil))) (eC (.int 1)))))) (sRet (eC (.bl false))) (sNext)
def s_law_0_1_6 : MS := sIf (tOfE (eR (eqW T [("Foreign", (Sh.f_Foreign___eq__ T))]) (eVar 8) (eLst (aNil)))) (sSeq (s_law_0_1_6_t_0) (sSeq (s_law_0_1_6_t_1) (sSeq (s_law_0_1_6_t_2) (sSeq (s_law_0_1_6_t_3) (sSeq (s_law_0_1_6_t_4) (s_law_0_1_6_t_5)))))) (sNext)
def s_law_0_1 : MS := sFor (iRange1 (eC (.int 8))) (gN 3) (sSeq (s_law_0_1_0) (sSeq (sAsg (eF f__law_some (aCons (eVar 2) (aNil))) (gN 5)) (sSeq (s_law_0_1_2) (sSeq (s_law_0_1_3) (sSeq (s_law_0_1_4) (sSeq (s_law_0_1_5) (s_law_0_1_6)))))))
def s_law_0 : MS := sTrim (sFor (iRange1 (e2 addX (eC (.int 1)) (eN minX (aCons (eN lenD (aCons (eVar 0) (aNil))) (aCons (eC (.int 5)) (aNil)))))) (gN 1) (sSeq (s_law_0_0) (s_law_0_1)))
def s_law_1 : MS := sAsg (eMk "Screen" 4 3 0 (Sh.f_Screen___init__ T) (fun us ws => pick [(0, 0), (0, 1), (0, 2), (0, 3), (1, 0), (1, 1), (1, 2), (1, 3), (1, 4), (1, 5)] us [.tup [], .str "first", .str "wrap", .str "first", .str "opener", .str ""] ws) (aCons (eC (.str "main")) (aCons (eLst (aCons (eTup (aCons (eC (.str "a")) (aCons (eC (.int 0)) (aCons (eTup (aNil)) (aCons (eTup (aNil)) (aCons (eTup (aCons (eC (.str "close")) (aCons (eC (.str "ok")) (aNil)))) (aNil))))))) (aNil))) (aCons (eLst (aCons (eC (.str "a")) (aNil))) (aNil)))) (aNil)) (gN 12)
def s_law_2 : MS := sRet (eAnd (eR (neW T [("Foreign", (Sh.f_Foreign___eq__ T))]) (eMk "Foreign" 2 2 0 (Sh.f_Foreign___init__ T) gFst (aCons (eC (.str "main")) (aCons (eLst (aCons (eC (.str "ok")) (aNil))) (aNil))) aNil) (eVar 12)) (eR (eqW T [("Foreign", (Sh.f_Foreign___eq__ T))]) (eTold T (Sh.f__law_error_word T) (eMk "Foreign" 2 2 0 (Sh.f_Foreign___init__ T) gFst (aCons (eC (.str "A")) (aCons (eC .non) (aNil))) aNil)) (eTup (aCons (eC (.str "screen")) (aCons (eC (.str "name")) (aNil))))))
def b_law : MS := sSeq (s_law_0) (sSeq (s_law_1) (s_law_2))
def f_law : FN := mkFn 1 13 b_law
section
variable {P : Program} {w : World} {K : Frag} {mg : Str → Option Value}
theorem sc_is_list : FnScope ["value"] ["value"] (defScope (top 27)) := ⟨rfl, rfl, rfl, by decide +kernel, rfl, by decide +kernel, by decide +kernel⟩
theorem h_is_list (tp : Tp P NM K mg)  : Has P w K mg "is_list" ["value"] (1) (Sh.f_is_list T) := by
  refine has_of (d := d_is_list) tp (by simp [NM]) rfl rfl rfl sc_is_list rfl rfl (fun _ _ _ _ _ _ us hl => match us, hl with | [_], _ => rfl) (k := 0) ?_
  intro base f cdv A outer s H E C hl
  exact (jb_one (js_ret (q_b C (c_isi C.tp.it) bt_isinstance (ja_cons q_var (ja_cons (je_tup (ja_cons (q_ty C bt_list) (ja_cons (q_ty C bt_tuple) ja_nil))) ja_nil)))))
theorem sc_is_word : FnScope ["value", "letter"] ["value"] (defScope (top 25)) := ⟨rfl, rfl, rfl, by decide +kernel, rfl, by decide +kernel, by decide +kernel⟩
theorem h_is_word (tp : Tp P NM K mg)  : Has P w K mg "is_word" ["value"] (1) (Sh.f_is_word T) := by
  refine has_of (d := d_is_word) tp (by simp [NM]) rfl rfl rfl sc_is_word rfl rfl (fun _ _ _ _ _ _ us hl => match us, hl with | [_], _ => rfl) (k := 0) ?_
  intro base f cdv A outer s H E C hl
  exact (jb_cons (js_if (jt_w (jw_or (jt_not (jt_val (q_b C (c_isi C.tp.it) bt_isinstance (ja_cons q_var (ja_cons (q_ty C bt_str) ja_nil))))) (jw_or1 (jt_not (jt_chain o_le o_le je_int (q_b C c_len bt_len (ja_cons q_var ja_nil)) (q_con C 0)))))) (jb_one (js_ret je_bl)) jb_nil)
  (jb_one (js_ret (q_b C (c_all rfl) bt_all (ja_cons (je_lc (ji_val q_var) C.nd (own := [("letter", 1)]) (blkOk_by (by first | rfl | decide +kernel)) (by decide) (fun _ _ _ _ _ => (jg_name (C.blk _ _ _ _ _).nd rfl (by first | exact .inl rfl | exact .inr rfl))) (fun _ _ _ _ _ => jts_nil) (fun _ _ _ _ _ => (je_cmp (o_in (C.blk _ _ _ _ _).u65) q_var (q_con (C.blk _ _ _ _ _) 1)))) ja_nil)))))
theorem sc_is_among : FnScope ["value", "least", "most"] ["value", "least", "most"] (defScope (top 26)) := ⟨rfl, rfl, rfl, by decide +kernel, rfl, by decide +kernel, by decide +kernel⟩
theorem h_is_among (tp : Tp P NM K mg)  : Has P w K mg "is_among" ["value", "least", "most"] (1) (Sh.f_is_among T) := by
  refine has_of (d := d_is_among) tp (by simp [NM]) rfl rfl rfl sc_is_among rfl rfl (fun _ _ _ _ _ _ us hl => match us, hl with | [_, _, _], _ => rfl) (k := 0) ?_
  intro base f cdv A outer s H E C hl
  exact (jb_one (js_ret (je_and (q_b C (c_isi C.tp.it) bt_isinstance (ja_cons q_var (ja_cons (q_ty C bt_int) ja_nil))) (je_and (je_not (q_b C (c_isi C.tp.it) bt_isinstance (ja_cons q_var (ja_cons (q_ty C bt_bool) ja_nil)))) (je_one (je_chain o_le o_le q_var q_var q_var))))))
theorem sc_is_switch : FnScope ["value"] ["value"] (defScope (top 62)) := ⟨rfl, rfl, rfl, by decide +kernel, rfl, by decide +kernel, by decide +kernel⟩
theorem h_is_switch (tp : Tp P NM K mg) (h_is_word : Has P w K mg "is_word" ["value"] (1) (Sh.f_is_word T)) (h_is_among : Has P w K mg "is_among" ["value", "least", "most"] (1) (Sh.f_is_among T)) : Has P w K mg "is_switch" ["value"] (2) (Sh.f_is_switch T) := by
  refine has_of (d := d_is_switch) tp (by simp [NM]) rfl rfl rfl sc_is_switch rfl rfl (fun _ _ _ _ _ _ us hl => match us, hl with | [_], _ => rfl) (k := 1) ?_
  intro base f cdv A outer s H E C hl
  exact (jb_one (js_ret (je_and (q_b C (c_isi C.tp.it) bt_isinstance (ja_cons q_var (ja_cons (q_ty C bt_tuple) ja_nil))) (je_and (je_cmp (o_eqX C.u64) (q_b C c_len bt_len (ja_cons q_var ja_nil)) je_int) (je_and (q_call C h_is_word (by decide) (ja_cons (je_ix (o_idx C.u1) q_var je_int) ja_nil)) (je_one (q_call C h_is_among (by decide) (ja_cons (je_ix (o_idx C.u1) q_var je_int) (ja_cons je_int (ja_cons je_int ja_nil))))))))))
theorem sc_need_switches : FnScope ["switches", "number", "switch", "own"] ["switches"] (defScope (top 68)) := ⟨rfl, rfl, rfl, by decide +kernel, rfl, by decide +kernel, by decide +kernel⟩
theorem h_need_switches (tp : Tp P NM K mg) (h_is_list : Has P w K mg "is_list" ["value"] (1) (Sh.f_is_list T)) (h_is_switch : Has P w K mg "is_switch" ["value"] (2) (Sh.f_is_switch T)) : Has P w K mg "need_switches" ["switches"] (3) (Sh.f_need_switches T) := by
  refine has_of (d := d_need_switches) tp (by simp [NM]) rfl rfl rfl sc_need_switches rfl rfl (fun _ _ _ _ _ _ us hl => match us, hl with | [_], _ => rfl) (k := 2) ?_
  intro base f cdv A outer s H E C hl
  exact (jb_cons (js_if (jt_w (jw_or (jt_not (jt_val (q_call C h_is_list (by decide) (ja_cons q_var ja_nil)))) (jw_or1 (jt_cmp o_gt (q_b C c_len bt_len (ja_cons q_var ja_nil)) (q_con C 2))))) (jb_one (q_raise (s := .ve) C (List.mem_of_getElem? (i := 0) rfl) je_str)) jb_nil)
  (jb_one (js_for (ji_enumA rfl (C.tp.fr _ (mem_of (by rfl))) q_var) (jg_tup (gsLen_cons (gsLen_cons gsLen_nil)) (jgs_cons (jg_name C.nd rfl (by first | exact .inl rfl | exact .inr rfl)) (jgs_cons (jg_name C.nd rfl (by first | exact .inl rfl | exact .inr rfl)) jgs_nil))) (jb_one (js_if (jt_w (jw_or (jt_not (jt_val (q_call C h_is_switch (by decide) (ja_cons q_var ja_nil)))) (jw_or1 (jt_cmp (o_in C.u65) (je_ix (o_idx C.u1) q_var je_int) (je_lc (ji_val (je_sl q_var jo_none (jo_some q_var))) C.nd (own := [("own", 3)]) (blkOk_by (by first | rfl | decide +kernel)) (by decide) (fun _ _ _ _ _ => (jg_name (C.blk _ _ _ _ _).nd rfl (by first | exact .inl rfl | exact .inr rfl))) (fun _ _ _ _ _ => jts_nil) (fun _ _ _ _ _ => (je_ix (o_idx (C.blk _ _ _ _ _).u1) q_var je_int))))))) (jb_one (q_raise (s := .ve) C (List.mem_of_getElem? (i := 0) rfl) (je_tup (ja_cons je_str (ja_cons q_var ja_nil))))) jb_nil)) own_cx)))
theorem sc_are_rising : FnScope ["rows", "one", "other"] ["rows"] (defScope (top 29)) := ⟨rfl, rfl, rfl, by decide +kernel, rfl, by decide +kernel, by decide +kernel⟩
theorem h_are_rising (tp : Tp P NM K mg)  : Has P w K mg "are_rising" ["rows"] (1) (Sh.f_are_rising T) := by
  refine has_of (d := d_are_rising) tp (by simp [NM]) rfl rfl rfl sc_are_rising rfl rfl (fun _ _ _ _ _ _ us hl => match us, hl with | [_], _ => rfl) (k := 0) ?_
  intro base f cdv A outer s H E C hl
  exact (jb_one (js_ret (q_b C (c_all rfl) bt_all (ja_cons (je_lc (ji_zip rfl (C.tp.fr _ (mem_of (by rfl))) q_var (je_sl q_var (jo_some je_int) jo_none)) C.nd (own := [("one", 1), ("other", 2)]) (blkOk_by (by first | rfl | decide +kernel)) (by decide) (fun _ _ _ _ _ => (jg_tup (gsLen_cons (gsLen_cons gsLen_nil)) (jgs_cons (jg_name (C.blk _ _ _ _ _).nd rfl (by first | exact .inl rfl | exact .inr rfl)) (jgs_cons (jg_name (C.blk _ _ _ _ _).nd rfl (by first | exact .inl rfl | exact .inr rfl)) jgs_nil)))) (fun _ _ _ _ _ => jts_nil) (fun _ _ _ _ _ => (je_cmp o_lt (je_ix (o_idx (C.blk _ _ _ _ _).u1) q_var je_int) (je_ix (o_idx (C.blk _ _ _ _ _).u1) q_var je_int)))) ja_nil))))
theorem sc_is_pair : FnScope ["value"] ["value"] (defScope (top 28)) := ⟨rfl, rfl, rfl, by decide +kernel, rfl, by decide +kernel, by decide +kernel⟩
theorem h_is_pair (tp : Tp P NM K mg)  : Has P w K mg "is_pair" ["value"] (1) (Sh.f_is_pair T) := by
  refine has_of (d := d_is_pair) tp (by simp [NM]) rfl rfl rfl sc_is_pair rfl rfl (fun _ _ _ _ _ _ us hl => match us, hl with | [_], _ => rfl) (k := 0) ?_
  intro base f cdv A outer s H E C hl
  exact (jb_one (js_ret (je_and (q_b C (c_isi C.tp.it) bt_isinstance (ja_cons q_var (ja_cons (q_ty C bt_tuple) ja_nil))) (je_and (je_cmp (o_eqX C.u64) (q_b C c_len bt_len (ja_cons q_var ja_nil)) je_int) (je_one (q_b C (c_isi C.tp.it) bt_isinstance (ja_cons (je_ix (o_idx C.u1) q_var je_int) (ja_cons (q_ty C bt_str) ja_nil))))))))
theorem sc_is_condition : FnScope ["value", "switches", "item"] ["value", "switches"] (defScope (top 30)) := ⟨rfl, rfl, rfl, by decide +kernel, rfl, by decide +kernel, by decide +kernel⟩
theorem h_is_condition (tp : Tp P NM K mg) (h_are_rising : Has P w K mg "are_rising" ["rows"] (1) (Sh.f_are_rising T)) (h_is_pair : Has P w K mg "is_pair" ["value"] (1) (Sh.f_is_pair T)) (h_is_among : Has P w K mg "is_among" ["value", "least", "most"] (1) (Sh.f_is_among T)) : Has P w K mg "is_condition" ["value", "switches"] (2) (Sh.f_is_condition T) := by
  refine has_of (d := d_is_condition) tp (by simp [NM]) rfl rfl rfl sc_is_condition rfl rfl (fun _ _ _ _ _ _ us hl => match us, hl with | [_, _], _ => rfl) (k := 1) ?_
  intro base f cdv A outer s H E C hl
  exact (jb_cons (js_if (jt_w (jw_or (jt_not (jt_val (q_b C (c_isi C.tp.it) bt_isinstance (ja_cons q_var (ja_cons (q_ty C bt_tuple) ja_nil))))) (jw_or1 (jt_not (jt_val (q_b C (c_all rfl) bt_all (ja_cons (je_lc (ji_val q_var) C.nd (own := [("item", 2)]) (blkOk_by (by first | rfl | decide +kernel)) (by decide) (fun _ _ _ _ _ => (jg_name (C.blk _ _ _ _ _).nd rfl (by first | exact .inl rfl | exact .inr rfl))) (fun _ _ _ _ _ => jts_nil) (fun _ _ _ _ _ => (q_call (C.blk _ _ _ _ _) h_is_pair (by decide) (ja_cons q_var ja_nil)))) ja_nil))))))) (jb_one (js_ret je_bl)) jb_nil)
  (jb_one (js_ret (je_and (q_call C h_are_rising (by decide) (ja_cons q_var ja_nil)) (je_one (q_b C (c_all rfl) bt_all (ja_cons (je_lc (ji_val q_var) C.nd (own := [("item", 2)]) (blkOk_by (by first | rfl | decide +kernel)) (by decide) (fun _ _ _ _ _ => (jg_name (C.blk _ _ _ _ _).nd rfl (by first | exact .inl rfl | exact .inr rfl))) (fun _ _ _ _ _ => jts_nil) (fun _ _ _ _ _ => (je_and (je_cmp (o_in (C.blk _ _ _ _ _).u65) (je_ix (o_idx (C.blk _ _ _ _ _).u1) q_var je_int) q_var) (je_one (q_call (C.blk _ _ _ _ _) h_is_among (by decide) (ja_cons (je_ix (o_idx (C.blk _ _ _ _ _).u1) q_var je_int) (ja_cons je_int (ja_cons je_int ja_nil)))))))) ja_nil)))))))
theorem sc_is_changes : FnScope ["value", "switches", "item"] ["value", "switches"] (defScope (top 31)) := ⟨rfl, rfl, rfl, by decide +kernel, rfl, by decide +kernel, by decide +kernel⟩
theorem h_is_changes (tp : Tp P NM K mg) (h_are_rising : Has P w K mg "are_rising" ["rows"] (1) (Sh.f_are_rising T)) (h_is_pair : Has P w K mg "is_pair" ["value"] (1) (Sh.f_is_pair T)) : Has P w K mg "is_changes" ["value", "switches"] (2) (Sh.f_is_changes T) := by
  refine has_of (d := d_is_changes) tp (by simp [NM]) rfl rfl rfl sc_is_changes rfl rfl (fun _ _ _ _ _ _ us hl => match us, hl with | [_, _], _ => rfl) (k := 1) ?_
  intro base f cdv A outer s H E C hl
  exact (jb_cons (js_if (jt_w (jw_or (jt_not (jt_val (q_b C (c_isi C.tp.it) bt_isinstance (ja_cons q_var (ja_cons (q_ty C bt_tuple) ja_nil))))) (jw_or1 (jt_not (jt_val (q_b C (c_all rfl) bt_all (ja_cons (je_lc (ji_val q_var) C.nd (own := [("item", 2)]) (blkOk_by (by first | rfl | decide +kernel)) (by decide) (fun _ _ _ _ _ => (jg_name (C.blk _ _ _ _ _).nd rfl (by first | exact .inl rfl | exact .inr rfl))) (fun _ _ _ _ _ => jts_nil) (fun _ _ _ _ _ => (q_call (C.blk _ _ _ _ _) h_is_pair (by decide) (ja_cons q_var ja_nil)))) ja_nil))))))) (jb_one (js_ret je_bl)) jb_nil)
  (jb_cons (js_if (jt_w (jw_or (jt_not (jt_val (q_call C h_are_rising (by decide) (ja_cons q_var ja_nil)))) (jw_or1 (jt_not (jt_val (q_b C (c_all rfl) bt_all (ja_cons (je_lc (ji_val q_var) C.nd (own := [("item", 2)]) (blkOk_by (by first | rfl | decide +kernel)) (by decide) (fun _ _ _ _ _ => (jg_name (C.blk _ _ _ _ _).nd rfl (by first | exact .inl rfl | exact .inr rfl))) (fun _ _ _ _ _ => jts_nil) (fun _ _ _ _ _ => (q_b (C.blk _ _ _ _ _) (c_isi (C.blk _ _ _ _ _).tp.it) bt_isinstance (ja_cons (je_ix (o_idx (C.blk _ _ _ _ _).u1) q_var je_int) (ja_cons (q_ty (C.blk _ _ _ _ _) bt_str) ja_nil))))) ja_nil))))))) (jb_one (js_ret je_bl)) jb_nil)
  (jb_one (js_ret (q_b C (c_all rfl) bt_all (ja_cons (je_lc (ji_val q_var) C.nd (own := [("item", 2)]) (blkOk_by (by first | rfl | decide +kernel)) (by decide) (fun _ _ _ _ _ => (jg_name (C.blk _ _ _ _ _).nd rfl (by first | exact .inl rfl | exact .inr rfl))) (fun _ _ _ _ _ => jts_nil) (fun _ _ _ _ _ => (je_and (je_cmp (o_in (C.blk _ _ _ _ _).u65) (je_ix (o_idx (C.blk _ _ _ _ _).u1) q_var je_int) q_var) (je_one (je_cmp (o_in (C.blk _ _ _ _ _).u65) (je_ix (o_idx (C.blk _ _ _ _ _).u1) q_var je_int) (je_tup (ja_cons (q_con (C.blk _ _ _ _ _) 3) (ja_cons (q_con (C.blk _ _ _ _ _) 4) (ja_cons (q_con (C.blk _ _ _ _ _) 5) ja_nil))))))))) ja_nil))))))
theorem sc_is_replies : FnScope ["value", "switches", "item"] ["value", "switches"] (defScope (top 63)) := ⟨rfl, rfl, rfl, by decide +kernel, rfl, by decide +kernel, by decide +kernel⟩
theorem h_is_replies (tp : Tp P NM K mg) (h_are_rising : Has P w K mg "are_rising" ["rows"] (1) (Sh.f_are_rising T)) (h_is_pair : Has P w K mg "is_pair" ["value"] (1) (Sh.f_is_pair T)) (h_is_word : Has P w K mg "is_word" ["value"] (1) (Sh.f_is_word T)) (h_is_changes : Has P w K mg "is_changes" ["value", "switches"] (2) (Sh.f_is_changes T)) : Has P w K mg "is_replies" ["value", "switches"] (3) (Sh.f_is_replies T) := by
  refine has_of (d := d_is_replies) tp (by simp [NM]) rfl rfl rfl sc_is_replies rfl rfl (fun _ _ _ _ _ _ us hl => match us, hl with | [_, _], _ => rfl) (k := 2) ?_
  intro base f cdv A outer s H E C hl
  exact (jb_cons (js_if (jt_w (jw_or (jt_not (jt_val (q_b C (c_isi C.tp.it) bt_isinstance (ja_cons q_var (ja_cons (q_ty C bt_tuple) ja_nil))))) (jw_or1 (jt_not (jt_val (q_b C (c_all rfl) bt_all (ja_cons (je_lc (ji_val q_var) C.nd (own := [("item", 2)]) (blkOk_by (by first | rfl | decide +kernel)) (by decide) (fun _ _ _ _ _ => (jg_name (C.blk _ _ _ _ _).nd rfl (by first | exact .inl rfl | exact .inr rfl))) (fun _ _ _ _ _ => jts_nil) (fun _ _ _ _ _ => (q_call (C.blk _ _ _ _ _) h_is_pair (by decide) (ja_cons q_var ja_nil)))) ja_nil))))))) (jb_one (js_ret je_bl)) jb_nil)
  (jb_one (js_ret (je_and (q_call C h_are_rising (by decide) (ja_cons q_var ja_nil)) (je_one (q_b C (c_all rfl) bt_all (ja_cons (je_lc (ji_val q_var) C.nd (own := [("item", 2)]) (blkOk_by (by first | rfl | decide +kernel)) (by decide) (fun _ _ _ _ _ => (jg_name (C.blk _ _ _ _ _).nd rfl (by first | exact .inl rfl | exact .inr rfl))) (fun _ _ _ _ _ => jts_nil) (fun _ _ _ _ _ => (je_and (q_call (C.blk _ _ _ _ _) h_is_word (by decide) (ja_cons (je_ix (o_idx (C.blk _ _ _ _ _).u1) q_var je_int) ja_nil)) (je_one (q_call (C.blk _ _ _ _ _) h_is_changes (by decide) (ja_cons (je_ix (o_idx (C.blk _ _ _ _ _).u1) q_var je_int) (ja_cons q_var ja_nil))))))) ja_nil)))))))
theorem sc_is_deed : FnScope ["value", "switches"] ["value", "switches"] (defScope (top 64)) := ⟨rfl, rfl, rfl, by decide +kernel, rfl, by decide +kernel, by decide +kernel⟩
theorem h_is_deed (tp : Tp P NM K mg) (h_is_word : Has P w K mg "is_word" ["value"] (1) (Sh.f_is_word T)) (h_is_replies : Has P w K mg "is_replies" ["value", "switches"] (3) (Sh.f_is_replies T)) (h_is_changes : Has P w K mg "is_changes" ["value", "switches"] (2) (Sh.f_is_changes T)) : Has P w K mg "is_deed" ["value", "switches"] (4) (Sh.f_is_deed T) := by
  refine has_of (d := d_is_deed) tp (by simp [NM]) rfl rfl rfl sc_is_deed rfl rfl (fun _ _ _ _ _ _ us hl => match us, hl with | [_, _], _ => rfl) (k := 3) ?_
  intro base f cdv A outer s H E C hl
  exact (jb_cons (js_if (jt_w (jw_or (jt_not (jt_val (q_b C (c_isi C.tp.it) bt_isinstance (ja_cons q_var (ja_cons (q_ty C bt_tuple) ja_nil))))) (jw_or (jt_cmp (o_eqX C.u64) (q_b C c_len bt_len (ja_cons q_var ja_nil)) je_int) (jw_or1 (jt_not (jt_val (q_b C (c_isi C.tp.it) bt_isinstance (ja_cons (je_ix (o_idx C.u1) q_var je_int) (ja_cons (q_ty C bt_str) ja_nil))))))))) (jb_one (js_ret je_bl)) jb_nil)
  (jb_cons (js_if (jt_cmp (o_eqX C.u64) (je_ix (o_idx C.u1) q_var je_int) (q_con C 6)) (jb_one (js_ret (je_and (je_cmp (o_eqX C.u64) (q_b C c_len bt_len (ja_cons q_var ja_nil)) je_int) (je_and (q_call C h_is_word (by decide) (ja_cons (je_ix (o_idx C.u1) q_var je_int) ja_nil)) (je_one (q_call C h_is_replies (by decide) (ja_cons (je_ix (o_idx C.u1) q_var je_int) (ja_cons q_var ja_nil)))))))) jb_nil)
  (jb_cons (js_if (jt_cmp (o_eqX C.u64) (je_ix (o_idx C.u1) q_var je_int) (q_con C 7)) (jb_one (js_ret (je_and (je_cmp (o_eqX C.u64) (q_b C c_len bt_len (ja_cons q_var ja_nil)) je_int) (je_one (q_call C h_is_changes (by decide) (ja_cons (je_ix (o_idx C.u1) q_var je_int) (ja_cons q_var ja_nil))))))) jb_nil)
  (jb_cons (js_if (jt_cmp (o_eqX C.u64) (je_ix (o_idx C.u1) q_var je_int) (q_con C 8)) (jb_one (js_ret (je_and (je_cmp (o_eqX C.u64) (q_b C c_len bt_len (ja_cons q_var ja_nil)) je_int) (je_one (q_call C h_is_word (by decide) (ja_cons (je_ix (o_idx C.u1) q_var je_int) ja_nil)))))) jb_nil)
  (jb_one (js_ret (je_cmp (o_eqX C.u64) q_var (je_tup (ja_cons (q_con C 9) ja_nil)))))))))
theorem sc_is_part : FnScope ["value", "switches"] ["value", "switches"] (defScope (top 65)) := ⟨rfl, rfl, rfl, by decide +kernel, rfl, by decide +kernel, by decide +kernel⟩
theorem h_is_part (tp : Tp P NM K mg) (h_is_condition : Has P w K mg "is_condition" ["value", "switches"] (2) (Sh.f_is_condition T)) (h_is_word : Has P w K mg "is_word" ["value"] (1) (Sh.f_is_word T)) (h_is_among : Has P w K mg "is_among" ["value", "least", "most"] (1) (Sh.f_is_among T)) (h_is_deed : Has P w K mg "is_deed" ["value", "switches"] (4) (Sh.f_is_deed T)) : Has P w K mg "is_part" ["value", "switches"] (5) (Sh.f_is_part T) := by
  refine has_of (d := d_is_part) tp (by simp [NM]) rfl rfl rfl sc_is_part rfl rfl (fun _ _ _ _ _ _ us hl => match us, hl with | [_, _], _ => rfl) (k := 4) ?_
  intro base f cdv A outer s H E C hl
  exact (jb_cons (js_if (jt_w (jw_or (jt_not (jt_val (q_b C (c_isi C.tp.it) bt_isinstance (ja_cons q_var (ja_cons (q_ty C bt_tuple) ja_nil))))) (jw_or (jt_cmp (o_neX C.u64) (q_b C c_len bt_len (ja_cons q_var ja_nil)) je_int) (jw_or1 (jt_not (jt_val (q_call C h_is_word (by decide) (ja_cons (je_ix (o_idx C.u1) q_var je_int) ja_nil)))))))) (jb_one (js_ret je_bl)) jb_nil)
  (jb_cons (js_if (jt_w (jw_or (jt_not (jt_val (q_call C h_is_among (by decide) (ja_cons (je_ix (o_idx C.u1) q_var je_int) (ja_cons (q_con C 10) (ja_cons (q_con C 11) ja_nil)))))) (jw_or1 (jt_not (jt_val (q_call C h_is_deed (by decide) (ja_cons (je_ix (o_idx C.u1) q_var je_int) (ja_cons q_var ja_nil)))))))) (jb_one (js_ret je_bl)) jb_nil)
  (jb_one (js_ret (je_and (q_call C h_is_condition (by decide) (ja_cons (je_ix (o_idx C.u1) q_var je_int) (ja_cons q_var ja_nil))) (je_one (q_call C h_is_condition (by decide) (ja_cons (je_ix (o_idx C.u1) q_var je_int) (ja_cons q_var ja_nil)))))))))
theorem sc_need_parts : FnScope ["parts", "switches", "number", "part", "own"] ["parts", "switches"] (defScope (top 69)) := ⟨rfl, rfl, rfl, by decide +kernel, rfl, by decide +kernel, by decide +kernel⟩
theorem h_need_parts (tp : Tp P NM K mg) (h_is_list : Has P w K mg "is_list" ["value"] (1) (Sh.f_is_list T)) (h_is_part : Has P w K mg "is_part" ["value", "switches"] (5) (Sh.f_is_part T)) : Has P w K mg "need_parts" ["parts", "switches"] (6) (Sh.f_need_parts T) := by
  refine has_of (d := d_need_parts) tp (by simp [NM]) rfl rfl rfl sc_need_parts rfl rfl (fun _ _ _ _ _ _ us hl => match us, hl with | [_, _], _ => rfl) (k := 5) ?_
  intro base f cdv A outer s H E C hl
  exact (jb_cons (js_if (jt_w (jw_or (jt_not (jt_val (q_call C h_is_list (by decide) (ja_cons q_var ja_nil)))) (jw_or1 (jt_not (jt_chain o_le o_le je_int (q_b C c_len bt_len (ja_cons q_var ja_nil)) (q_con C 12)))))) (jb_one (q_raise (s := .ve) C (List.mem_of_getElem? (i := 0) rfl) je_str)) jb_nil)
  (jb_one (js_for (ji_enumA rfl (C.tp.fr _ (mem_of (by rfl))) q_var) (jg_tup (gsLen_cons (gsLen_cons gsLen_nil)) (jgs_cons (jg_name C.nd rfl (by first | exact .inl rfl | exact .inr rfl)) (jgs_cons (jg_name C.nd rfl (by first | exact .inl rfl | exact .inr rfl)) jgs_nil))) (jb_one (js_if (jt_w (jw_or (jt_not (jt_val (q_call C h_is_part (by decide) (ja_cons q_var (ja_cons q_var ja_nil))))) (jw_or1 (jt_cmp (o_in C.u65) (je_ix (o_idx C.u1) q_var je_int) (je_lc (ji_val (je_sl q_var jo_none (jo_some q_var))) C.nd (own := [("own", 4)]) (blkOk_by (by first | rfl | decide +kernel)) (by decide) (fun _ _ _ _ _ => (jg_name (C.blk _ _ _ _ _).nd rfl (by first | exact .inl rfl | exact .inr rfl))) (fun _ _ _ _ _ => jts_nil) (fun _ _ _ _ _ => (je_ix (o_idx (C.blk _ _ _ _ _).u1) q_var je_int))))))) (jb_one (q_raise (s := .ve) C (List.mem_of_getElem? (i := 0) rfl) (je_tup (ja_cons je_str (ja_cons q_var ja_nil))))) jb_nil)) own_cx)))
theorem sc_Plan___init__ : FnScope ["self", "known", "switches"] ["self", "known", "switches"] (defScope (mthOf (top 66) 0)) := ⟨rfl, rfl, rfl, by decide +kernel, rfl, by decide +kernel, by decide +kernel⟩
theorem h_Plan___init__ (tp : Tp P NM K mg)  : HasM P w K mg "Plan" "__init__" ["self", "known", "switches"] (1) (Sh.f_Plan___init__ T) := by
  refine HasK.m (d := d_Plan___init__) (hasK_of tp (by simp [NM]) rfl sc_Plan___init__ rfl rfl (k := 0) ?_) rfl (fun _ _ _ _ _ _ us hl => match us, hl with | [_, _, _], _ => rfl)
  intro base f cdv A outer s H E C hl
  exact (jb_cons (js_fld C.tp.it q_var q_var)
  (jb_cons (js_fld C.tp.it q_var q_var)
  (jb_cons (js_fld C.tp.it (je_lstC ja_nil) q_var)
  (jb_cons (js_fld C.tp.it je_dic0C q_var)
  (jb_cons (js_fld C.tp.it (je_lstC ja_nil) q_var)
  (jb_one (js_fld C.tp.it je_bl q_var)))))))
theorem sc_Plan_put_part : FnScope ["self", "name", "conditions"] ["self", "name", "conditions"] (defScope (mthOf (top 66) 1)) := ⟨rfl, rfl, rfl, by decide +kernel, rfl, by decide +kernel, by decide +kernel⟩
theorem h_Plan_put_part (tp : Tp P NM K mg)  : HasM P w K mg "Plan" "put_part" ["self", "name", "conditions"] (1) (Sh.f_Plan_put_part T) := by
  refine HasK.m (d := d_Plan_put_part) (hasK_of tp (by simp [NM]) rfl sc_Plan_put_part rfl rfl (k := 0) ?_) rfl (fun _ _ _ _ _ _ us hl => match us, hl with | [_, _, _], _ => rfl)
  intro base f cdv A outer s H E C hl
  exact (jb_one (js_if (jt_w (jw_or (jt_not (jt_val (q_b C (c_isi C.tp.it) bt_isinstance (ja_cons q_var (ja_cons (q_ty C bt_str) ja_nil))))) (jw_or (jt_cmp (o_notin C.u65) q_var (q_fld C q_var)) (jw_or1 (jt_cmp (o_in C.u65) q_var (q_fld C q_var)))))) (jb_one (js_fld C.tp.it je_bl q_var)) (jb_cons (js_expr (je_append (q_fld C q_var) q_var))
  (jb_one (js_put C.u64 q_var (q_fld C q_var) q_var)))))
theorem sc_is_one_of : FnScope ["value", "words"] ["value", "words"] (defScope (top 61)) := ⟨rfl, rfl, rfl, by decide +kernel, rfl, by decide +kernel, by decide +kernel⟩
theorem h_is_one_of (tp : Tp P NM K mg)  : Has P w K mg "is_one_of" ["value", "words"] (1) (Sh.f_is_one_of T) := by
  refine has_of (d := d_is_one_of) tp (by simp [NM]) rfl rfl rfl sc_is_one_of rfl rfl (fun _ _ _ _ _ _ us hl => match us, hl with | [_, _], _ => rfl) (k := 0) ?_
  intro base f cdv A outer s H E C hl
  exact (jb_one (js_ret (je_and (q_b C (c_isi C.tp.it) bt_isinstance (ja_cons q_var (ja_cons (q_ty C bt_str) ja_nil))) (je_one (je_cmp (o_in C.u65) q_var q_var)))))
theorem sc_Plan_put_group : FnScope ["self", "item", "conditions", "name"] ["self", "item", "conditions"] (defScope (mthOf (top 66) 2)) := ⟨rfl, rfl, rfl, by decide +kernel, rfl, by decide +kernel, by decide +kernel⟩
theorem h_Plan_put_group (tp : Tp P NM K mg) (h_is_among : Has P w K mg "is_among" ["value", "least", "most"] (1) (Sh.f_is_among T)) (h_is_one_of : Has P w K mg "is_one_of" ["value", "words"] (1) (Sh.f_is_one_of T)) (h_Plan_put_part : HasM P w K mg "Plan" "put_part" ["self", "name", "conditions"] (1) (Sh.f_Plan_put_part T)) : HasM P w K mg "Plan" "put_group" ["self", "item", "conditions"] (2) (Sh.f_Plan_put_group T) := by
  refine HasK.m (d := d_Plan_put_group) (hasK_of tp (by simp [NM]) rfl sc_Plan_put_group rfl rfl (k := 1) ?_) rfl (fun _ _ _ _ _ _ us hl => match us, hl with | [_, _, _], _ => rfl)
  intro base f cdv A outer s H E C hl
  exact (jb_one (js_if (jt_w (jw_or (jt_cmp (o_neX C.u64) (q_b C c_len bt_len (ja_cons q_var ja_nil)) je_int) (jw_or (jt_not (jt_val (q_call C h_is_among (by decide) (ja_cons (je_ix (o_idx C.u1) q_var je_int) (ja_cons (q_con C 10) (ja_cons (q_con C 11) ja_nil)))))) (jw_or1 (jt_not (jt_val (q_call C h_is_one_of (by decide) (ja_cons (je_ix (o_idx C.u1) q_var je_int) (ja_cons (je_tup (ja_cons (q_con C 13) (ja_cons (q_con C 14) ja_nil))) ja_nil))))))))) (jb_one (js_fld C.tp.it je_bl q_var)) (jb_one (js_if (jt_w (jw_or (jt_not (jt_val (q_b C (c_isi C.tp.it) bt_isinstance (ja_cons (je_ix (o_idx C.u1) q_var je_int) (ja_cons (q_ty C bt_tuple) ja_nil))))) (jw_or1 (jt_cmp (o_eqX C.u64) (q_b C c_len bt_len (ja_cons (je_ix (o_idx C.u1) q_var je_int) ja_nil)) je_int)))) (jb_one (js_fld C.tp.it je_bl q_var)) (jb_cons (js_expr (je_append (q_fld C q_var) (je_sl q_var (jo_some je_int) jo_none)))
  (jb_one (js_for (ji_val (je_ix (o_idx C.u1) q_var je_int)) (jg_name C.nd rfl (by first | exact .inl rfl | exact .inr rfl)) (jb_one (js_expr (q_meth C h_Plan_put_part (by decide) q_var (ja_cons q_var (ja_cons q_var ja_nil))))) own_cx)))))))
theorem sc_Plan_put_item : FnScope ["self", "item", "conditions"] ["self", "item", "conditions"] (defScope (mthOf (top 66) 4)) := ⟨rfl, rfl, rfl, by decide +kernel, rfl, by decide +kernel, by decide +kernel⟩
theorem hr_Plan_put_item (tp : Tp P NM K mg) (h_Plan_put_part : HasM P w K mg "Plan" "put_part" ["self", "name", "conditions"] (1) (Sh.f_Plan_put_part T)) (h_is_one_of : Has P w K mg "is_one_of" ["value", "words"] (1) (Sh.f_is_one_of T)) (h_Plan_put_group : HasM P w K mg "Plan" "put_group" ["self", "item", "conditions"] (2) (Sh.f_Plan_put_group T)) (k : Nat) (hk : 2 ≤ k) (f_Plan_put_item : FN) (h_Plan_put_item : HasM P w K mg "Plan" "put_item" ["self", "item", "conditions"] (k) f_Plan_put_item) (f_Plan_put_box : FN) (h_Plan_put_box : HasM P w K mg "Plan" "put_box" ["self", "item", "conditions"] (k) f_Plan_put_box) : HasM P w K mg "Plan" "put_item" ["self", "item", "conditions"] (k + 1) (mkFn 3 3 (Sh.b_Plan_put_item T f_Plan_put_item f_Plan_put_box)) := by
  refine HasK.m (d := d_Plan_put_item) (hasK_of tp (by simp [NM]) rfl sc_Plan_put_item rfl rfl (k := k) ?_) rfl (fun _ _ _ _ _ _ us hl => match us, hl with | [_, _, _], _ => rfl)
  intro base f cdv A outer s H E C hl
  exact (jb_one (js_if (jt_not (jt_val (q_b C (c_isi C.tp.it) bt_isinstance (ja_cons q_var (ja_cons (q_ty C bt_tuple) ja_nil))))) (jb_one (js_expr (q_meth C h_Plan_put_part (by omega) q_var (ja_cons q_var (ja_cons q_var ja_nil))))) (jb_one (js_if (jt_w (jw_and (jt_cmp o_gt (q_b C c_len bt_len (ja_cons q_var ja_nil)) je_int) (jw_and1 (jt_val (q_call C h_is_one_of (by omega) (ja_cons (je_ix (o_idx C.u1) q_var je_int) (ja_cons (je_tup (ja_cons (q_con C 15) ja_nil)) ja_nil))))))) (jb_one (js_expr (q_meth C h_Plan_put_box (by omega) q_var (ja_cons q_var (ja_cons q_var ja_nil))))) (jb_one (js_if (jt_w (jw_and (jt_cmp o_gt (q_b C c_len bt_len (ja_cons q_var ja_nil)) je_int) (jw_and1 (jt_val (q_call C h_is_one_of (by omega) (ja_cons (je_ix (o_idx C.u1) q_var je_int) (ja_cons (je_tup (ja_cons (q_con C 16) ja_nil)) ja_nil))))))) (jb_one (js_expr (q_meth C h_Plan_put_group (by omega) q_var (ja_cons q_var (ja_cons q_var ja_nil))))) (jb_one (js_fld C.tp.it je_bl q_var))))))))
theorem sc_Plan_put_box : FnScope ["self", "item", "conditions", "inner"] ["self", "item", "conditions"] (defScope (mthOf (top 66) 3)) := ⟨rfl, rfl, rfl, by decide +kernel, rfl, by decide +kernel, by decide +kernel⟩
theorem hr_Plan_put_box (tp : Tp P NM K mg) (h_is_condition : Has P w K mg "is_condition" ["value", "switches"] (2) (Sh.f_is_condition T)) (k : Nat) (hk : 2 ≤ k) (f_Plan_put_item : FN) (h_Plan_put_item : HasM P w K mg "Plan" "put_item" ["self", "item", "conditions"] (k) f_Plan_put_item) (f_Plan_put_box : FN) (h_Plan_put_box : HasM P w K mg "Plan" "put_box" ["self", "item", "conditions"] (k) f_Plan_put_box) : HasM P w K mg "Plan" "put_box" ["self", "item", "conditions"] (k + 1) (mkFn 3 4 (Sh.b_Plan_put_box T f_Plan_put_item f_Plan_put_box)) := by
  refine HasK.m (d := d_Plan_put_box) (hasK_of tp (by simp [NM]) rfl sc_Plan_put_box rfl rfl (k := k) ?_) rfl (fun _ _ _ _ _ _ us hl => match us, hl with | [_, _, _], _ => rfl)
  intro base f cdv A outer s H E C hl
  exact (jb_one (js_if (jt_w (jw_or (jt_cmp (o_neX C.u64) (q_b C c_len bt_len (ja_cons q_var ja_nil)) je_int) (jw_or (jt_cmp (o_eqX C.u64) (q_b C c_len bt_len (ja_cons q_var ja_nil)) (q_con C 17)) (jw_or1 (jt_not (jt_val (q_call C h_is_condition (by omega) (ja_cons (je_ix (o_idx C.u1) q_var je_int) (ja_cons (q_fld C q_var) ja_nil))))))))) (jb_one (js_fld C.tp.it je_bl q_var)) (jb_one (js_if (jt_not (jt_val (q_b C (c_isi C.tp.it) bt_isinstance (ja_cons (je_ix (o_idx C.u1) q_var je_int) (ja_cons (q_ty C bt_tuple) ja_nil))))) (jb_one (js_fld C.tp.it je_bl q_var)) (jb_one (js_for (ji_val (je_ix (o_idx C.u1) q_var je_int)) (jg_name C.nd rfl (by first | exact .inl rfl | exact .inr rfl)) (jb_one (js_expr (q_meth C h_Plan_put_item (by omega) q_var (ja_cons q_var (ja_cons (je_op o_addX q_var (je_tup (ja_cons (je_ix (o_idx C.u1) q_var je_int) ja_nil))) ja_nil))))) own_cx))))))
theorem hg_Plan_put_item (tp : Tp P NM K mg) (h_Plan_put_part : HasM P w K mg "Plan" "put_part" ["self", "name", "conditions"] (1) (Sh.f_Plan_put_part T)) (h_is_one_of : Has P w K mg "is_one_of" ["value", "words"] (1) (Sh.f_is_one_of T)) (h_Plan_put_group : HasM P w K mg "Plan" "put_group" ["self", "item", "conditions"] (2) (Sh.f_Plan_put_group T)) (h_is_condition : Has P w K mg "is_condition" ["value", "switches"] (2) (Sh.f_is_condition T)) : ∀ n : Nat, HasM P w K mg "Plan" "put_item" ["self", "item", "conditions"] (2 + n) (Sh.fr_Plan_put_item T n).1 ∧ HasM P w K mg "Plan" "put_box" ["self", "item", "conditions"] (2 + n) (Sh.fr_Plan_put_item T n).2
  | 0 => ⟨hasM_err (d := d_Plan_put_item) _ tp (by simp [NM]) rfl rfl (fun _ _ _ _ _ _ us hl => match us, hl with | [_, _, _], _ => rfl), hasM_err (d := d_Plan_put_box) _ tp (by simp [NM]) rfl rfl (fun _ _ _ _ _ _ us hl => match us, hl with | [_, _, _], _ => rfl)⟩
  | n + 1 => by
    have ih := hg_Plan_put_item tp h_Plan_put_part h_is_one_of h_Plan_put_group h_is_condition n
    exact ⟨hr_Plan_put_item tp h_Plan_put_part h_is_one_of h_Plan_put_group (2 + n) (by omega) _ ih.1 _ ih.2, hr_Plan_put_box tp h_is_condition (2 + n) (by omega) _ ih.1 _ ih.2⟩
theorem sc_plan_of : FnScope ["layout", "names", "switches", "plan", "item"] ["layout", "names", "switches"] (defScope (top 67)) := ⟨rfl, rfl, rfl, by decide +kernel, rfl, by decide +kernel, by decide +kernel⟩
theorem h_plan_of (tp : Tp P NM K mg) (h_Plan___init__ : HasM P w K mg "Plan" "__init__" ["self", "known", "switches"] (1) (Sh.f_Plan___init__ T)) (h_is_list : Has P w K mg "is_list" ["value"] (1) (Sh.f_is_list T)) (h_Plan_put_item : HasM P w K mg "Plan" "put_item" ["self", "item", "conditions"] (12) (Sh.f_Plan_put_item T)) : Has P w K mg "plan_of" ["layout", "names", "switches"] (13) (Sh.f_plan_of T) := by
  refine has_of (d := d_plan_of) tp (by simp [NM]) rfl rfl rfl sc_plan_of rfl rfl (fun _ _ _ _ _ _ us hl => match us, hl with | [_, _, _], _ => rfl) (k := 12) ?_
  intro base f cdv A outer s H E C hl
  exact (jb_cons (js_if (jt_not (jt_val (q_call C h_is_list (by decide) (ja_cons q_var ja_nil)))) (jb_one (js_ret je_non)) jb_nil)
  (jb_cons (js_set (i := 3) (q_make 0 C h_Plan___init__ (by decide) (ja_cons q_var (ja_cons q_var ja_nil))) C.nd rfl (by first | exact .inl rfl | exact .inr rfl))
  (jb_cons (js_for (ji_val q_var) (jg_name C.nd rfl (by first | exact .inl rfl | exact .inr rfl)) (jb_one (js_expr (q_meth C h_Plan_put_item (by decide) q_var (ja_cons q_var (ja_cons (je_tup ja_nil) ja_nil))))) own_cx)
  (jb_cons (js_if (jt_w (jw_or (jt_not (jt_val (q_fld C q_var))) (jw_or (jt_cmp (o_neX C.u64) (q_b C c_len bt_len (ja_cons (q_fld C q_var) ja_nil)) (q_b C c_len bt_len (ja_cons q_var ja_nil))) (jw_or1 (jt_cmp o_gt (q_b C c_len bt_len (ja_cons (q_fld C q_var) ja_nil)) (q_con C 18)))))) (jb_one (js_ret je_non)) jb_nil)
  (jb_one (js_ret q_var))))))
theorem sc_Screen_need_rule : FnScope ["self", "rule", "is_good"] ["self", "rule", "is_good"] (defScope (mthOf (top 70) 1)) := ⟨rfl, rfl, rfl, by decide +kernel, rfl, by decide +kernel, by decide +kernel⟩
theorem h_Screen_need_rule (tp : Tp P NM K mg)  : HasM P w K mg "Screen" "need_rule" ["self", "rule", "is_good"] (1) (Sh.f_Screen_need_rule T) := by
  refine HasK.m (d := d_Screen_need_rule) (hasK_of tp (by simp [NM]) rfl sc_Screen_need_rule rfl rfl (k := 0) ?_) rfl (fun _ _ _ _ _ _ us hl => match us, hl with | [_, _, _], _ => rfl)
  intro base f cdv A outer s H E C hl
  exact (jb_one (js_if (jt_not (jt_val q_var)) (jb_one (q_raise (s := .ve) C (List.mem_of_getElem? (i := 0) rfl) q_var)) jb_nil))
theorem sc_Screen___init__ : FnScope ["self", "name", "parts", "layout", "switches", "enter", "ends", "gone", "again", "leave", "some", "switch", "part"] ["self", "name", "parts", "layout", "switches", "enter", "ends", "gone", "again", "leave"] (defScope (mthOf (top 70) 0)) := ⟨rfl, rfl, rfl, by decide +kernel, rfl, by decide +kernel, by decide +kernel⟩
theorem h_Screen___init__ (tp : Tp P NM K mg) (h_need_switches : Has P w K mg "need_switches" ["switches"] (3) (Sh.f_need_switches T)) (h_need_parts : Has P w K mg "need_parts" ["parts", "switches"] (6) (Sh.f_need_parts T)) (h_plan_of : Has P w K mg "plan_of" ["layout", "names", "switches"] (13) (Sh.f_plan_of T)) (h_Screen_need_rule : HasM P w K mg "Screen" "need_rule" ["self", "rule", "is_good"] (1) (Sh.f_Screen_need_rule T)) (h_is_word : Has P w K mg "is_word" ["value"] (1) (Sh.f_is_word T)) (h_is_one_of : Has P w K mg "is_one_of" ["value", "words"] (1) (Sh.f_is_one_of T)) : HasK P w K mg d_Screen___init__ ["self", "name", "parts", "layout", "switches", "enter", "ends", "gone", "again", "leave"] (14) (Sh.f_Screen___init__ T) := by
  refine hasK_of (d := d_Screen___init__) tp (by simp [NM]) rfl sc_Screen___init__ rfl rfl (k := 13) ?_
  intro base f cdv A outer s H E C hl
  exact (jb_cons (js_if (jt_not (jt_val (q_call C h_is_word (by decide) (ja_cons q_var ja_nil)))) (jb_one (q_raise (s := .ve) C (List.mem_of_getElem? (i := 0) rfl) je_str)) jb_nil)
  (jb_cons (js_expr (q_call C h_need_switches (by decide) (ja_cons q_var ja_nil)))
  (jb_cons (js_fld C.tp.it (q_t C (c_tupleX rfl) bt_tuple (ja_cons q_var ja_nil)) q_var)
  (jb_cons (js_fld C.tp.it (q_t C (c_tupleX rfl) bt_tuple (ja_cons (je_lc (ji_val q_var) C.nd (own := [("switch", 11)]) (blkOk_by (by first | rfl | decide +kernel)) (by decide) (fun _ _ _ _ _ => (jg_name (C.blk _ _ _ _ _).nd rfl (by first | exact .inl rfl | exact .inr rfl))) (fun _ _ _ _ _ => jts_nil) (fun _ _ _ _ _ => (je_ix (o_idx (C.blk _ _ _ _ _).u1) q_var je_int))) ja_nil)) q_var)
  (jb_cons (js_expr (q_call C h_need_parts (by decide) (ja_cons q_var (ja_cons (q_fld C q_var) ja_nil))))
  (jb_cons (js_fld C.tp.it q_var q_var)
  (jb_cons (js_fld C.tp.it (q_t C (c_tupleX rfl) bt_tuple (ja_cons q_var ja_nil)) q_var)
  (jb_cons (js_fld C.tp.it (je_dc (ji_val q_var) C.nd (own := [("part", 12)]) (blkOk_by (by first | rfl | decide +kernel)) (by decide) (fun _ _ _ _ _ => (jg_name (C.blk _ _ _ _ _).nd rfl (by first | exact .inl rfl | exact .inr rfl))) (fun _ _ _ _ _ => jts_nil) (fun _ _ _ _ _ => (je_ix (o_idx (C.blk _ _ _ _ _).u1) q_var je_int)) (fun _ _ _ _ _ => q_var)) q_var)
  (jb_cons (js_fld C.tp.it (q_call C h_plan_of (by decide) (ja_cons q_var (ja_cons (q_t C (c_tupleX rfl) bt_tuple (ja_cons (q_fld C q_var) ja_nil)) (ja_cons (q_fld C q_var) ja_nil)))) q_var)
  (jb_cons (js_if (jt_cmp o_is (q_fld C q_var) je_non) (jb_one (q_raise (s := .ve) C (List.mem_of_getElem? (i := 0) rfl) je_str)) jb_nil)
  (jb_cons (js_fld C.tp.it (q_t C (c_tupleX rfl) bt_tuple (ja_cons q_var ja_nil)) q_var)
  (jb_cons (js_expr (q_meth C h_Screen_need_rule (by decide) q_var (ja_cons (q_con C 19) (ja_cons (je_or (q_call C h_is_one_of (by decide) (ja_cons q_var (ja_cons (je_tup (ja_cons (q_con C 20) (ja_cons (q_con C 9) ja_nil))) ja_nil))) (je_one (je_and (q_b C (c_isi C.tp.it) bt_isinstance (ja_cons q_var (ja_cons (q_ty C bt_str) ja_nil))) (je_one (je_cmp (o_in C.u65) q_var (q_fld C q_var)))))) ja_nil))))
  (jb_cons (js_expr (q_meth C h_Screen_need_rule (by decide) q_var (ja_cons (q_con C 21) (ja_cons (q_call C h_is_one_of (by decide) (ja_cons q_var (ja_cons (q_con C 22) ja_nil))) ja_nil))))
  (jb_cons (js_expr (q_meth C h_Screen_need_rule (by decide) q_var (ja_cons (q_con C 23) (ja_cons (q_call C h_is_one_of (by decide) (ja_cons q_var (ja_cons (q_con C 24) ja_nil))) ja_nil))))
  (jb_cons (js_expr (q_meth C h_Screen_need_rule (by decide) q_var (ja_cons (q_con C 25) (ja_cons (q_call C h_is_one_of (by decide) (ja_cons q_var (ja_cons (q_con C 26) ja_nil))) ja_nil))))
  (jb_cons (js_expr (q_meth C h_Screen_need_rule (by decide) q_var (ja_cons (q_con C 27) (ja_cons (je_or (q_call C h_is_word (by decide) (ja_cons q_var ja_nil)) (je_one (q_call C h_is_one_of (by decide) (ja_cons q_var (ja_cons (je_tup (ja_cons je_str ja_nil)) ja_nil))))) ja_nil))))
  (jb_cons (js_fld C.tp.it q_var q_var)
  (jb_cons (js_fld C.tp.it q_var q_var)
  (jb_cons (js_fld C.tp.it q_var q_var)
  (jb_cons (js_fld C.tp.it q_var q_var)
  (jb_cons (js_fld C.tp.it q_var q_var)
  (jb_cons (js_fld C.tp.it (q_t C (c_tupleX rfl) bt_tuple (ja_cons (q_fld C (q_fld C q_var)) ja_nil)) q_var)
  (jb_cons (js_set (i := 10) (je_op o_addX (je_lc (ji_val q_var) C.nd (own := [("part", 12)]) (blkOk_by (by first | rfl | decide +kernel)) (by decide) (fun _ _ _ _ _ => (jg_name (C.blk _ _ _ _ _).nd rfl (by first | exact .inl rfl | exact .inr rfl))) (fun _ _ _ _ _ => (jts_one (jt_cmp (o_eqX (C.blk _ _ _ _ _).u64) (je_ix (o_idx (C.blk _ _ _ _ _).u1) (je_ix (o_idx (C.blk _ _ _ _ _).u1) q_var je_int) je_int) (q_con (C.blk _ _ _ _ _) 8)))) (fun _ _ _ _ _ => (je_ix (o_idx (C.blk _ _ _ _ _).u1) (je_ix (o_idx (C.blk _ _ _ _ _).u1) q_var je_int) je_int))) (je_if (jt_cmp (o_neX C.u64) q_var je_str) (je_lst (ja_cons q_var ja_nil)) (je_lst ja_nil))) C.nd rfl (by first | exact .inl rfl | exact .inr rfl))
  (jb_cons (js_fld C.tp.it (q_t C (c_tupleX rfl) bt_tuple (ja_cons (q_sortSet C q_var) ja_nil)) q_var)
  (jb_cons (js_fld C.tp.it (je_tup (ja_cons q_var (ja_cons (q_fld C q_var) (ja_cons (q_fld C q_var) (ja_cons (q_fld C q_var) (ja_cons q_var (ja_cons q_var (ja_cons q_var (ja_cons q_var (ja_cons q_var ja_nil)))))))))) q_var)
  (jb_one (js_if (jt_cmp o_gt (q_b C c_len bt_len (ja_cons (q_fld C q_var) ja_nil)) (q_con C 28)) (jb_one (q_raise (s := .ve) C (List.mem_of_getElem? (i := 0) rfl) je_str)) jb_nil)))))))))))))))))))))))))))
theorem sc__law_begun : FnScope ["_law_script", "_law_k", "_law_cells", "_law_great", "_law_seed", "_law_cell"] ["_law_script", "_law_k"] (defScope (top 73)) := ⟨rfl, rfl, rfl, by decide +kernel, rfl, by decide +kernel, by decide +kernel⟩
theorem h__law_begun (tp : Tp P NM K mg)  : Has P w K mg "_law_begun" ["_law_script", "_law_k"] (1) f__law_begun := by
  refine has_of (d := d__law_begun) tp (by simp [NM]) rfl rfl rfl sc__law_begun rfl rfl (fun _ _ _ _ _ _ us hl => match us, hl with | [_, _], _ => rfl) (k := 0) ?_
  intro base f cdv A outer s H E C hl
  exact (jb_cons (js_set (i := 2) (je_op o_add (je_sl q_var (jo_some q_var) jo_none) (je_sl q_var jo_none (jo_some q_var))) C.nd rfl (by first | exact .inl rfl | exact .inr rfl))
  (jb_cons (js_setLc (i := 3) (ji_val q_var) C.nd rfl rfl rfl (own := [("_law_cell", 5)]) (blkOk_by (by first | rfl | decide +kernel)) (by decide) (fun _ _ _ _ _ => (jg_name (C.blk _ _ _ _ _).nd rfl (by first | exact .inl rfl | exact .inr rfl))) (fun _ _ _ _ _ => (jts_one (jt_cmp o_ge q_var (je_op o_pow je_int je_int)))) (fun _ _ _ _ _ => q_var))
  (jb_cons (js_set (i := 4) (je_op o_add je_int q_var) C.nd rfl (by first | exact .inl rfl | exact .inr rfl))
  (jb_cons (js_for (ji_val q_var) (jg_name C.nd rfl (by first | exact .inl rfl | exact .inr rfl)) (jb_one (js_set (i := 4) (je_op o_mod (q_t C c_int bt_int (ja_cons (je_op o_add (je_op o_mul q_var je_int) q_var) ja_nil)) je_int) C.nd rfl (by first | exact .inl rfl | exact .inr rfl))) own_cx)
  (jb_one (js_ret (je_dicC (.consS (je_if (jt_cmp (o_ne C.u64) q_var (je_lst ja_nil)) (je_ix (o_idx C.u1) q_var je_int) je_int) (.consS q_var (.consS (je_op o_add q_var (je_lst (ja_cons (je_op o_add (je_op o_mul je_int q_var) je_int) ja_nil))) (.consS je_int .nil)))) (by decide) (by decide) (by intro z; cases z))))))))
theorem sc__law_draw : FnScope ["_law_m", "_law_many", "_law_found", "_law_spot", "_law_cells", "_law_added", "_law_cell", "_law_blend"] ["_law_m", "_law_many"] (defScope (top 74)) := ⟨rfl, rfl, rfl, by decide +kernel, rfl, by decide +kernel, by decide +kernel⟩
theorem h__law_draw (tp : Tp P NM K mg)  : Has P w K mg "_law_draw" ["_law_m", "_law_many"] (1) f__law_draw := by
  refine has_of (d := d__law_draw) tp (by simp [NM]) rfl rfl rfl sc__law_draw rfl rfl (fun _ _ _ _ _ _ us hl => match us, hl with | [_, _], _ => rfl) (k := 0) ?_
  intro base f cdv A outer s H E C hl
  exact (jb_cons (js_if (jt_cmp o_gt (je_ix (o_idx C.u1) q_var je_str) je_int) (jb_cons (js_set (i := 2) (je_op o_mod (q_t C c_int bt_int (ja_cons (je_ix (o_idx C.u1) q_var je_str) ja_nil)) q_var) C.nd rfl (by first | exact .inl rfl | exact .inr rfl))
  (jb_cons (js_put C.u64 (je_op o_div (je_ix (o_idx C.u1) q_var je_str) q_var) q_var je_str)
  (jb_one (js_ret q_var)))) jb_nil)
  (jb_cons (js_set (i := 3) (je_ix (o_idx C.u1) q_var je_str) C.nd rfl (by first | exact .inl rfl | exact .inr rfl))
  (jb_cons (js_put C.u64 (je_op o_add q_var je_int) q_var je_str)
  (jb_cons (js_par (i := 4) (j := 5) (je_ix (o_idx C.u1) q_var je_str) (je_op o_add (je_ix (o_idx C.u1) q_var je_str) (je_op o_mul (je_op o_mul je_int q_var) q_var)) C.nd rfl rfl (by decide) rfl rfl)
  (jb_cons (js_set (i := 6) (je_ix (o_idx C.u1) q_var (je_op o_mod (q_t C c_int bt_int (ja_cons q_var ja_nil)) (q_b C c_len bt_len (ja_cons q_var ja_nil)))) C.nd rfl (by first | exact .inl rfl | exact .inr rfl))
  (jb_cons (js_set (i := 7) (je_op o_mod (q_t C c_int bt_int (ja_cons (je_op o_add (je_op o_mul q_var (je_op o_add (je_op o_mul je_int q_var) je_int)) q_var) ja_nil)) je_int) C.nd rfl (by first | exact .inl rfl | exact .inr rfl))
  (jb_cons (js_set (i := 7) (je_op o_mod (q_t C c_int bt_int (ja_cons (je_op o_add (je_op o_add (je_op o_mul q_var q_var) (je_op o_mul je_int q_var)) (je_ix (o_idx C.u1) q_var je_str)) ja_nil)) je_int) C.nd rfl (by first | exact .inl rfl | exact .inr rfl))
  (jb_one (js_ret (je_op o_mod (je_op o_div (je_op o_mod (q_t C c_int bt_int (ja_cons (je_op o_add (je_op o_mul q_var je_int) q_var) ja_nil)) je_int) je_int) q_var))))))))))
theorem sc__law_of : FnScope ["_law_m", "_law_some_here"] ["_law_m", "_law_some_here"] (defScope (top 75)) := ⟨rfl, rfl, rfl, by decide +kernel, rfl, by decide +kernel, by decide +kernel⟩
theorem h__law_of (tp : Tp P NM K mg) (h__law_draw : Has P w K mg "_law_draw" ["_law_m", "_law_many"] (1) f__law_draw) : Has P w K mg "_law_of" ["_law_m", "_law_some_here"] (2) f__law_of := by
  refine has_of (d := d__law_of) tp (by simp [NM]) rfl rfl rfl sc__law_of rfl rfl (fun _ _ _ _ _ _ us hl => match us, hl with | [_, _], _ => rfl) (k := 1) ?_
  intro base f cdv A outer s H E C hl
  exact (jb_one (js_ret (je_ix (o_idx C.u1) q_var (q_call C h__law_draw (by decide) (ja_cons q_var (ja_cons (q_b C c_len bt_len (ja_cons q_var ja_nil)) ja_nil))))))
theorem sc__law_some : FnScope ["_law_m", "_law_menu", "_law_some_here", "_law_k", "_law_way", "_law_odd", "_law_at"] ["_law_m"] (defScope (top 80)) := ⟨rfl, rfl, rfl, by decide +kernel, rfl, by decide +kernel, by decide +kernel⟩
theorem h__law_some (tp : Tp P NM K mg) (h__law_draw : Has P w K mg "_law_draw" ["_law_m", "_law_many"] (1) f__law_draw) (h__law_of : Has P w K mg "_law_of" ["_law_m", "_law_some_here"] (2) f__law_of) : Has P w K mg "_law_some" ["_law_m"] (3) f__law_some := by
  refine has_of (d := d__law_some) tp (by simp [NM]) rfl rfl rfl sc__law_some rfl rfl (fun _ _ _ _ _ _ us hl => match us, hl with | [_], _ => rfl) (k := 2) ?_
  intro base f cdv A outer s H E C hl
  exact (jb_cons (js_par (i := 1) (j := 2) (je_lstC (ja_cons je_str (ja_cons je_str (ja_cons je_str (ja_cons je_str (ja_cons je_str (ja_cons je_str ja_nil))))))) (je_lstC ja_nil) C.nd rfl rfl (by decide) rfl rfl)
  (jb_cons (js_for (ji_range1 rfl (C.tp.fr _ (mem_of (by rfl))) (je_op o_addX je_int (q_call C h__law_draw (by decide) (ja_cons q_var (ja_cons je_int ja_nil))))) (jg_name C.nd rfl (by first | exact .inl rfl | exact .inr rfl)) (jb_one (js_expr (je_append q_var (je_popAt q_var (q_call C h__law_draw (by decide) (ja_cons q_var (ja_cons (q_b C c_len bt_len (ja_cons q_var ja_nil)) ja_nil))))))) own_cx)
  (jb_cons (js_frz 1 (js_par (i := 4) (j := 5) (q_call C h__law_draw (by decide) (ja_cons q_var (ja_cons je_int ja_nil))) (q_call C h__law_of (by decide) (ja_cons q_var (ja_cons (je_lst (ja_cons je_non (ja_cons je_int (ja_cons je_str (ja_cons je_str (ja_cons je_str (ja_cons (je_tup (ja_cons je_str ja_nil)) (ja_cons je_bl (ja_cons je_str (ja_cons je_str (ja_cons (je_lst ja_nil) ja_nil))))))))))) ja_nil))) C.nd rfl rfl (by decide) rfl rfl))
  (jb_cons (js_if (jt_cmp (o_eqX C.u64) q_var je_int) (jb_cons (js_set (i := 6) (q_call C h__law_draw (by decide) (ja_cons q_var (ja_cons (q_b C c_len bt_len (ja_cons q_var ja_nil)) ja_nil))) C.nd rfl (by first | exact .inl rfl | exact .inr rfl))
  (jb_one (js_set (i := 2) (je_addC (je_op o_addX (je_sl q_var jo_none (jo_some q_var)) (je_lst (ja_cons q_var ja_nil))) (je_sl q_var (jo_some (je_op o_addX q_var je_int)) jo_none)) C.nd rfl (by first | exact .inl rfl | exact .inr rfl)))) jb_nil)
  (jb_cons (js_if (jt_cmp (o_eqX C.u64) q_var je_int) (jb_one (js_set (i := 2) (je_addC (je_op o_addX q_var (je_sl q_var jo_none (jo_some je_int))) (je_sl q_var jo_none (jo_some (q_call C h__law_draw (by decide) (ja_cons q_var (ja_cons je_int ja_nil)))))) C.nd rfl (by first | exact .inl rfl | exact .inr rfl))) jb_nil)
  (jb_cons (js_if (jt_cmp (o_eqX C.u64) q_var je_int) (jb_one (js_ret (q_call C h__law_of (by decide) (ja_cons q_var (ja_cons (je_lst (ja_cons je_non (ja_cons je_int (ja_cons je_str (ja_cons je_dic0 (ja_cons (je_tup ja_nil) (ja_cons (je_lst ja_nil) (ja_cons je_str (ja_cons je_bl ja_nil))))))))) ja_nil))))) jb_nil)
  (jb_one (js_ret (je_if (jt_cmp (o_eqX C.u64) (q_call C h__law_draw (by decide) (ja_cons q_var (ja_cons je_int ja_nil))) je_int) (q_t C (c_tupleX rfl) bt_tuple (ja_cons q_var ja_nil)) q_var)))))))))
theorem sc_Foreign___init__ : FnScope ["self", "name", "answers", "answer"] ["self", "name", "answers"] (defScope (mthOf (top 71) 0)) := ⟨rfl, rfl, rfl, by decide +kernel, rfl, by decide +kernel, by decide +kernel⟩
theorem h_Foreign___init__ (tp : Tp P NM K mg) (h_is_word : Has P w K mg "is_word" ["value"] (1) (Sh.f_is_word T)) (h_is_list : Has P w K mg "is_list" ["value"] (1) (Sh.f_is_list T)) : HasM P w K mg "Foreign" "__init__" ["self", "name", "answers"] (2) (Sh.f_Foreign___init__ T) := by
  refine HasK.m (d := d_Foreign___init__) (hasK_of tp (by simp [NM]) rfl sc_Foreign___init__ rfl rfl (k := 1) ?_) rfl (fun _ _ _ _ _ _ us hl => match us, hl with | [_, _, _], _ => rfl)
  intro base f cdv A outer s H E C hl
  exact (jb_cons (js_if (jt_not (jt_val (q_call C h_is_word (by decide) (ja_cons q_var ja_nil)))) (jb_one (q_raise (s := .ve) C (List.mem_of_getElem? (i := 0) rfl) je_str)) jb_nil)
  (jb_cons (js_if (jt_w (jw_or (jt_not (jt_val (q_call C h_is_list (by decide) (ja_cons q_var ja_nil)))) (jw_or1 (jt_not (jt_chain o_le o_le je_int (q_b C c_len bt_len (ja_cons q_var ja_nil)) (q_con C 28)))))) (jb_one (q_raise (s := .ve) C (List.mem_of_getElem? (i := 0) rfl) je_str)) jb_nil)
  (jb_cons (js_if (jt_w (jw_or (jt_not (jt_val (q_b C (c_all rfl) bt_all (ja_cons (je_lcX q_var C.nd (own := [("answer", 3)]) (blkOk_by (by first | rfl | decide +kernel)) (by decide) (fun _ _ _ _ _ => (jg_name (C.blk _ _ _ _ _).nd rfl (by first | exact .inl rfl | exact .inr rfl))) (fun _ _ _ _ _ => jts_nil) (fun _ _ _ _ _ => (q_call (C.blk _ _ _ _ _) h_is_word (by decide) (ja_cons q_var ja_nil)))) ja_nil)))) (jw_or1 (jt_cmp (o_neX C.u64) (q_lenSet C q_var) (q_b C c_len bt_len (ja_cons q_var ja_nil)))))) (jb_one (q_raise (s := .ve) C (List.mem_of_getElem? (i := 0) rfl) je_str)) jb_nil)
  (jb_cons (js_fld C.tp.it q_var q_var)
  (jb_cons (js_fld C.tp.it (q_t C (c_tupleX rfl) bt_tuple (ja_cons (q_b C (c_sortedX rfl) bt_sorted (ja_cons q_var ja_nil)) ja_nil)) q_var)
  (jb_one (js_fld C.tp.it (je_tup (ja_cons q_var (ja_cons (q_fld C q_var) ja_nil))) q_var)))))))
theorem sc__law_error_word : FnScope ["_law_error", "_law_kinds", "_law_words", "_law_word", "_law_holds"] ["_law_error"] (defScope (top 76)) := ⟨rfl, rfl, rfl, by decide +kernel, rfl, by decide +kernel, by decide +kernel⟩
theorem h__law_error_word (tp : Tp P NM K mg)  : Has P w K mg "_law_error_word" ["_law_error"] (1) (Sh.f__law_error_word T) := by
  refine has_of (d := d__law_error_word) tp (by simp [NM]) rfl rfl rfl sc__law_error_word rfl rfl (fun _ _ _ _ _ _ us hl => match us, hl with | [_], _ => rfl) (k := 0) ?_
  intro base f cdv A outer s H E C hl
  exact (jb_cons (js_set (i := 1) (je_lst (ja_cons (je_tup (ja_cons je_str (ja_cons (q_b C (c_isi C.tp.it) bt_isinstance (ja_cons q_var (ja_cons (q_cls C) ja_nil))) ja_nil))) (ja_cons (je_tup (ja_cons je_str (ja_cons (q_b C (c_isi C.tp.it) bt_isinstance (ja_cons q_var (ja_cons (q_cls C) ja_nil))) ja_nil))) ja_nil))) C.nd rfl (by first | exact .inl rfl | exact .inr rfl))
  (jb_cons (js_set (i := 1) (je_op o_addX q_var (je_lst (ja_cons (je_tup (ja_cons je_str (ja_cons (q_b C (c_isi C.tp.it) bt_isinstance (ja_cons q_var (ja_cons (q_cls C) ja_nil))) ja_nil))) (ja_cons (je_tup (ja_cons je_str (ja_cons (q_b C (c_isi C.tp.it) bt_isinstance (ja_cons q_var (ja_cons (q_cls C) ja_nil))) ja_nil))) ja_nil)))) C.nd rfl (by first | exact .inl rfl | exact .inr rfl))
  (jb_cons (js_set (i := 1) (je_op o_addX q_var (je_lst (ja_cons (je_tup (ja_cons je_str (ja_cons (q_b C (c_isi C.tp.it) bt_isinstance (ja_cons q_var (ja_cons (q_cls C) ja_nil))) ja_nil))) (ja_cons (je_tup (ja_cons je_str (ja_cons (q_b C (c_isi C.tp.it) bt_isinstance (ja_cons q_var (ja_cons (q_cls C) ja_nil))) ja_nil))) ja_nil)))) C.nd rfl (by first | exact .inl rfl | exact .inr rfl))
  (jb_cons (js_set (i := 1) (je_op o_addX q_var (je_lst (ja_cons (je_tup (ja_cons je_str (ja_cons (q_b C (c_isi C.tp.it) bt_isinstance (ja_cons q_var (ja_cons (q_cls C) ja_nil))) ja_nil))) (ja_cons (je_tup (ja_cons je_str (ja_cons (q_b C (c_isi C.tp.it) bt_isinstance (ja_cons q_var (ja_cons (q_cls C) ja_nil))) ja_nil))) ja_nil)))) C.nd rfl (by first | exact .inl rfl | exact .inr rfl))
  (jb_cons (js_set (i := 1) (je_op o_addX q_var (je_lst (ja_cons (je_tup (ja_cons je_str (ja_cons (q_b C (c_isi C.tp.it) bt_isinstance (ja_cons q_var (ja_cons (q_cls C) ja_nil))) ja_nil))) (ja_cons (je_tup (ja_cons je_str (ja_cons (q_b C (c_isi C.tp.it) bt_isinstance (ja_cons q_var (ja_cons (q_cls C) ja_nil))) ja_nil))) ja_nil)))) C.nd rfl (by first | exact .inl rfl | exact .inr rfl))
  (jb_cons (js_set (i := 1) (je_op o_addX q_var (je_lst (ja_cons (je_tup (ja_cons je_str (ja_cons (q_b C (c_isi C.tp.it) bt_isinstance (ja_cons q_var (ja_cons (q_cls C) ja_nil))) ja_nil))) (ja_cons (je_tup (ja_cons je_str (ja_cons (q_b C (c_isi C.tp.it) bt_isinstance (ja_cons q_var (ja_cons (q_cls C) ja_nil))) ja_nil))) ja_nil)))) C.nd rfl (by first | exact .inl rfl | exact .inr rfl))
  (jb_cons (js_set (i := 1) (je_op o_addX q_var (je_lst (ja_cons (je_tup (ja_cons je_str (ja_cons (q_b C (c_isi C.tp.it) bt_isinstance (ja_cons q_var (ja_cons (q_cls C) ja_nil))) ja_nil))) (ja_cons (je_tup (ja_cons je_str (ja_cons (q_b C (c_isi C.tp.it) bt_isinstance (ja_cons q_var (ja_cons (q_cls C) ja_nil))) ja_nil))) ja_nil)))) C.nd rfl (by first | exact .inl rfl | exact .inr rfl))
  (jb_cons (js_set (i := 1) (je_op o_addX q_var (je_lst (ja_cons (je_tup (ja_cons je_str (ja_cons (q_b C (c_isi C.tp.it) bt_isinstance (ja_cons q_var (ja_cons (q_cls C) ja_nil))) ja_nil))) (ja_cons (je_tup (ja_cons je_str (ja_cons (q_b C (c_isi C.tp.it) bt_isinstance (ja_cons q_var (ja_cons (q_cls C) ja_nil))) ja_nil))) ja_nil)))) C.nd rfl (by first | exact .inl rfl | exact .inr rfl))
  (jb_cons (js_setLc (i := 2) (ji_val q_var) C.nd rfl rfl rfl (own := [("_law_word", 3), ("_law_holds", 4)]) (blkOk_by (by first | rfl | decide +kernel)) (by decide) (fun _ _ _ _ _ => (jg_tup (gsLen_cons (gsLen_cons gsLen_nil)) (jgs_cons (jg_name (C.blk _ _ _ _ _).nd rfl (by first | exact .inl rfl | exact .inr rfl)) (jgs_cons (jg_name (C.blk _ _ _ _ _).nd rfl (by first | exact .inl rfl | exact .inr rfl)) jgs_nil)))) (fun _ _ _ _ _ => (jts_one (jt_val q_var))) (fun _ _ _ _ _ => q_var))
  (jb_cons (js_if (jt_cmp (o_neX C.u64) (q_b C c_len bt_len (ja_cons q_var ja_nil)) je_int) (jb_one (js_ret (je_tup (ja_cons je_str ja_nil)))) jb_nil)
  (jb_cons (js_if (jt_cmp (o_in C.u65) (je_ix (o_idx C.u1) q_var je_int) (je_tup (ja_cons je_str (ja_cons je_str (ja_cons je_str (ja_cons je_str ja_nil)))))) (jb_one (js_ret (je_tup (ja_cons (je_ix (o_idx C.u1) q_var je_int) (ja_cons (q_fld C q_var) ja_nil))))) jb_nil)
  (jb_cons (js_if (jt_cmp (o_in C.u65) (je_ix (o_idx C.u1) q_var je_int) (je_tup (ja_cons je_str (ja_cons je_str ja_nil)))) (jb_one (js_ret (je_tup (ja_cons (je_ix (o_idx C.u1) q_var je_int) (ja_cons (je_if (jt_cmp (o_eqX C.u64) (je_ix (o_idx C.u1) q_var je_int) je_str) (q_fld C q_var) (q_fld C q_var)) ja_nil))))) jb_nil)
  (jb_one (js_ret (je_if (jt_cmp (o_eqX C.u64) (je_ix (o_idx C.u1) q_var je_int) je_str) (je_tup (ja_cons je_str ja_nil)) (je_tup (ja_cons (je_ix (o_idx C.u1) q_var je_int) (ja_cons (q_fld C q_var) ja_nil))))))))))))))))))
theorem sc__law_is_word : FnScope ["_law_thing", "_law_sign"] ["_law_thing"] (defScope (top 78)) := ⟨rfl, rfl, rfl, by decide +kernel, rfl, by decide +kernel, by decide +kernel⟩
theorem h__law_is_word (tp : Tp P NM K mg)  : Has P w K mg "_law_is_word" ["_law_thing"] (1) f__law_is_word := by
  refine has_of (d := d__law_is_word) tp (by simp [NM]) rfl rfl rfl sc__law_is_word rfl rfl (fun _ _ _ _ _ _ us hl => match us, hl with | [_], _ => rfl) (k := 0) ?_
  intro base f cdv A outer s H E C hl
  exact (jb_cons (js_if (jt_w (jw_or (jt_not (jt_val (q_b C (c_isi C.tp.it) bt_isinstance (ja_cons q_var (ja_cons (q_ty C bt_str) ja_nil))))) (jw_or1 (jt_not (jt_chain o_le o_le je_int (q_b C c_len bt_len (ja_cons q_var ja_nil)) je_int))))) (jb_one (js_ret je_bl)) jb_nil)
  (jb_one (js_ret (je_cmp (o_eqX C.u64) (je_lc (ji_val q_var) C.nd (own := [("_law_sign", 1)]) (blkOk_by (by first | rfl | decide +kernel)) (by decide) (fun _ _ _ _ _ => (jg_name (C.blk _ _ _ _ _).nd rfl (by first | exact .inl rfl | exact .inr rfl))) (fun _ _ _ _ _ => (jts_one (jt_cmp (o_notin (C.blk _ _ _ _ _).u65) q_var je_str))) (fun _ _ _ _ _ => q_var)) (je_lst ja_nil)))))
theorem sc__law_are_answers : FnScope ["_law_thing", "_law_one"] ["_law_thing"] (defScope (top 79)) := ⟨rfl, rfl, rfl, by decide +kernel, rfl, by decide +kernel, by decide +kernel⟩
theorem h__law_are_answers (tp : Tp P NM K mg) (h__law_is_word : Has P w K mg "_law_is_word" ["_law_thing"] (1) f__law_is_word) : Has P w K mg "_law_are_answers" ["_law_thing"] (2) f__law_are_answers := by
  refine has_of (d := d__law_are_answers) tp (by simp [NM]) rfl rfl rfl sc__law_are_answers rfl rfl (fun _ _ _ _ _ _ us hl => match us, hl with | [_], _ => rfl) (k := 1) ?_
  intro base f cdv A outer s H E C hl
  exact (jb_cons (js_if (jt_w (jw_or (jt_not (jt_val (q_b C (c_isi C.tp.it) bt_isinstance (ja_cons q_var (ja_cons (je_tup (ja_cons (q_ty C bt_list) (ja_cons (q_ty C bt_tuple) ja_nil))) ja_nil))))) (jw_or1 (jt_not (jt_chain o_le o_le je_int (q_b C c_len bt_len (ja_cons q_var ja_nil)) je_int))))) (jb_one (js_ret je_bl)) jb_nil)
  (jb_cons (js_if (jt_cmp (o_neX C.u64) (je_lcX q_var C.nd (own := [("_law_one", 1)]) (blkOk_by (by first | rfl | decide +kernel)) (by decide) (fun _ _ _ _ _ => (jg_name (C.blk _ _ _ _ _).nd rfl (by first | exact .inl rfl | exact .inr rfl))) (fun _ _ _ _ _ => (jts_one (jt_not (jt_val (q_call (C.blk _ _ _ _ _) h__law_is_word (by decide) (ja_cons q_var ja_nil)))))) (fun _ _ _ _ _ => q_var)) (je_lst ja_nil)) (jb_one (js_ret je_bl)) jb_nil)
  (jb_one (js_ret (je_cmp (o_eqX C.u64) (q_lenSet C q_var) (q_b C c_len bt_len (ja_cons q_var ja_nil)))))))
theorem sc_Foreign___eq__ : FnScope ["self", "other"] ["self", "other"] (defScope (mthOf (top 71) 1)) := ⟨rfl, rfl, rfl, by decide +kernel, rfl, by decide +kernel, by decide +kernel⟩
theorem h_Foreign___eq__ (tp : Tp P NM K mg)  : HasM P w K mg "Foreign" "__eq__" ["self", "other"] (1) (Sh.f_Foreign___eq__ T) := by
  refine HasK.m (d := d_Foreign___eq__) (hasK_of tp (by simp [NM]) rfl sc_Foreign___eq__ rfl rfl (k := 0) ?_) rfl (fun _ _ _ _ _ _ us hl => match us, hl with | [_, _], _ => rfl)
  intro base f cdv A outer s H E C hl
  exact (jb_one (js_ret (je_and (q_b C (c_isi C.tp.it) bt_isinstance (ja_cons q_var (ja_cons (q_cls C) ja_nil))) (je_one (je_cmp (o_eqX C.u64) (q_fld C q_var) (q_fld C q_var))))))
theorem sc_law : FnScope ["_law_script", "_law_turn", "_law_m", "_law_more", "_law_word", "_law_some_here", "_law_kept", "_law_heard", "_law_due", "_law_here", "_law_row", "_law_odd", "_law_there"] ["_law_script"] (defScope (top 81)) := ⟨rfl, rfl, rfl, by decide +kernel, rfl, by decide +kernel, by decide +kernel⟩
theorem h_law (tp : Tp P NM K mg) (h_Screen___init__ : HasK P w K mg d_Screen___init__ ["self", "name", "parts", "layout", "switches", "enter", "ends", "gone", "again", "leave"] (14) (Sh.f_Screen___init__ T)) (h__law_begun : Has P w K mg "_law_begun" ["_law_script", "_law_k"] (1) f__law_begun) (h__law_of : Has P w K mg "_law_of" ["_law_m", "_law_some_here"] (2) f__law_of) (h__law_some : Has P w K mg "_law_some" ["_law_m"] (3) f__law_some) (h_Foreign___init__ : HasM P w K mg "Foreign" "__init__" ["self", "name", "answers"] (2) (Sh.f_Foreign___init__ T)) (h__law_error_word : Has P w K mg "_law_error_word" ["_law_error"] (1) (Sh.f__law_error_word T)) (h__law_is_word : Has P w K mg "_law_is_word" ["_law_thing"] (1) f__law_is_word) (h__law_are_answers : Has P w K mg "_law_are_answers" ["_law_thing"] (2) f__law_are_answers) (h_Foreign___eq__ : HasM P w K mg "Foreign" "__eq__" ["self", "other"] (1) (Sh.f_Foreign___eq__ T)) : Has P w K mg "law" ["_law_script"] (16) f_law := by
  refine has_of (d := d_law) tp (by simp [NM]) rfl rfl rfl sc_law rfl rfl (fun _ _ _ _ _ _ us hl => match us, hl with | [_], _ => rfl) (k := 15) ?_
  intro base f cdv A outer s H E C hl
  exact (jb_cons (js_trim (js_for (ji_range1 rfl (C.tp.fr _ (mem_of (by rfl))) (je_op o_addX je_int (q_b C (c_minX rfl) bt_min (ja_cons (q_b C c_len bt_len (ja_cons q_var ja_nil)) (ja_cons je_int ja_nil))))) (jg_name C.nd rfl (by first | exact .inl rfl | exact .inr rfl)) (jb_cons (js_set (i := 2) (q_call C h__law_begun (by decide) (ja_cons q_var (ja_cons q_var ja_nil))) C.nd rfl (by first | exact .inl rfl | exact .inr rfl))
  (jb_one (js_for (ji_range1 rfl (C.tp.fr _ (mem_of (by rfl))) je_int) (jg_name C.nd rfl (by first | exact .inl rfl | exact .inr rfl)) (jb_cons (js_set (i := 4) (q_call C h__law_of (by decide) (ja_cons q_var (ja_cons (je_lst (ja_cons je_str (ja_cons je_str (ja_cons je_str (ja_cons je_str (ja_cons je_str (ja_cons je_str (ja_cons je_str (ja_cons je_non (ja_cons je_int (ja_cons (je_tup (ja_cons je_str ja_nil)) (ja_cons je_bl (ja_cons je_str ja_nil))))))))))))) ja_nil))) C.nd rfl (by first | exact .inl rfl | exact .inr rfl))
  (jb_cons (js_set (i := 5) (q_call C h__law_some (by decide) (ja_cons q_var ja_nil)) C.nd rfl (by first | exact .inl rfl | exact .inr rfl))
  (jb_cons (js_par (i := 6) (j := 7) (q_b C (c_reprX C.hG C.u64 C.tp.sys) bt_repr (ja_cons q_var ja_nil)) (je_told (k := 3) C (by decide) td h__law_error_word (by decide) (hl (by decide +kernel)) rfl (LamX.lamS_by (by first | rfl | decide +kernel)) rfl (fun _ _ _ _ _ => rfl) (fun E A outer s H f c hG hr => (q_make 2 (C.lam hG hr) h_Foreign___init__ (by decide) (ja_cons q_var (ja_cons q_var ja_nil))))) C.nd rfl rfl (by decide) rfl rfl)
  (jb_cons (js_set (i := 8) (je_if (jt_val (q_call C h__law_is_word (by decide) (ja_cons q_var ja_nil))) (je_lst ja_nil) (je_lst (ja_cons (je_tup (ja_cons je_str (ja_cons je_str ja_nil))) ja_nil))) C.nd rfl (by first | exact .inl rfl | exact .inr rfl))
  (jb_cons (js_if (jt_w (jw_and (qt_eqW C (eqT_cons (by rfl) (by decide) h_Foreign___eq__ eqT_nil) q_var (je_lst ja_nil)) (jw_and1 (jt_not (jt_val (q_call C h__law_are_answers (by decide) (ja_cons q_var ja_nil))))))) (jb_one (js_set (i := 8) (je_lst (ja_cons (je_tup (ja_cons je_str (ja_cons je_str ja_nil))) ja_nil)) C.nd rfl (by first | exact .inl rfl | exact .inr rfl))) jb_nil)
  (jb_cons (js_if (jt_w (jw_or (jt_w (jw_and (qt_neW (j := 14) C rfl (eqT_cons (by rfl) (by decide) h_Foreign___eq__ eqT_nil) q_var (je_lst ja_nil)) (jw_and1 (qt_neW (j := 14) C rfl (eqT_cons (by rfl) (by decide) h_Foreign___eq__ eqT_nil) q_var (je_ix (o_idx C.u1) q_var je_int))))) (jw_or (jt_w (jw_and (qt_eqW C (eqT_cons (by rfl) (by decide) h_Foreign___eq__ eqT_nil) q_var (je_lst ja_nil)) (jw_and1 (jt_not (jt_val (q_b C (c_isi C.tp.it) bt_isinstance (ja_cons q_var (ja_cons (q_ty C bt_list) ja_nil)))))))) (jw_or1 (qt_neW (j := 14) C rfl (eqT_cons (by rfl) (by decide) h_Foreign___eq__ eqT_nil) (q_b C (c_reprX C.hG C.u64 C.tp.sys) bt_repr (ja_cons q_var ja_nil)) q_var))))) (jb_one (js_ret je_bl)) jb_nil)
  (jb_one (js_if (qt_eqW C (eqT_cons (by rfl) (by decide) h_Foreign___eq__ eqT_nil) q_var (je_lst ja_nil)) (jb_cons (js_par (i := 9) (j := 10) (je_ix (o_idx C.u1) q_var je_int) (q_t C (c_tupleX rfl) bt_tuple (ja_cons (q_b C (c_sortedX rfl) bt_sorted (ja_cons q_var ja_nil)) ja_nil)) C.nd rfl rfl (by decide) rfl rfl)
  (jb_cons (js_if (jt_val (q_b C (c_isi C.tp.it) bt_isinstance (ja_cons q_var (ja_cons (q_ty C bt_list) ja_nil)))) (jb_one (js_expr (je_append q_var je_non))) jb_nil)
  (jb_cons (js_if (qt_neW (j := 14) C rfl (eqT_cons (by rfl) (by decide) h_Foreign___eq__ eqT_nil) (q_b C (c_reprX C.hG C.u64 C.tp.sys) bt_repr (ja_cons (je_lst (ja_cons (q_fld C q_var) (ja_cons (q_fld C q_var) ja_nil))) ja_nil)) (q_b C (c_reprX C.hG C.u64 C.tp.sys) bt_repr (ja_cons (je_lst (ja_cons q_var (ja_cons q_var ja_nil))) ja_nil))) (jb_one (js_ret je_bl)) jb_nil)
  (jb_cons (js_set (i := 11) (q_call C h__law_of (by decide) (ja_cons q_var (ja_cons (je_lst (ja_cons je_non (ja_cons q_var (ja_cons q_var (ja_cons (je_tup (ja_cons q_var (ja_cons q_var ja_nil))) (ja_cons je_int (ja_cons (je_lst ja_nil) (ja_cons (q_make 2 C h_Foreign___init__ (by decide) (ja_cons je_str (ja_cons q_var ja_nil))) ja_nil)))))))) ja_nil))) C.nd rfl (by first | exact .inl rfl | exact .inr rfl))
  (jb_cons (js_if (qt_neW (j := 14) C rfl (eqT_cons (by rfl) (by decide) h_Foreign___eq__ eqT_nil) (je_lst (ja_cons (q_eqW C (eqT_cons (by rfl) (by decide) h_Foreign___eq__ eqT_nil) q_var q_var) (ja_cons (q_eqW C (eqT_cons (by rfl) (by decide) h_Foreign___eq__ eqT_nil) q_var q_var) (ja_cons (q_neW (j := 14) C rfl (eqT_cons (by rfl) (by decide) h_Foreign___eq__ eqT_nil) q_var q_var) ja_nil)))) (je_lst (ja_cons je_bl (ja_cons je_bl (ja_cons je_bl ja_nil))))) (jb_one (js_ret je_bl)) jb_nil)
  (jb_one (js_if (jt_w (jw_or (qt_neW (j := 14) C rfl (eqT_cons (by rfl) (by decide) h_Foreign___eq__ eqT_nil) q_var (q_make 2 C h_Foreign___init__ (by decide) (ja_cons q_var (ja_cons (je_step q_var (je_un o_neg je_int)) ja_nil)))) (jw_or1 (qt_neW (j := 14) C rfl (eqT_cons (by rfl) (by decide) h_Foreign___eq__ eqT_nil) (q_eqW C (eqT_cons (by rfl) (by decide) h_Foreign___eq__ eqT_nil) q_var (q_make 2 C h_Foreign___init__ (by decide) (ja_cons q_var (ja_cons (je_sl q_var jo_none (jo_some je_int)) ja_nil)))) (q_eqW C (eqT_cons (by rfl) (by decide) h_Foreign___eq__ eqT_nil) (q_b C c_len bt_len (ja_cons q_var ja_nil)) je_int))))) (jb_one (js_ret je_bl)) jb_nil))))))) jb_nil)))))))) own_cx))) own_cx))
  (jb_cons (js_set (i := 12) (q_makeK (n := 3) (ks := []) 4 [(0, 0), (0, 1), (0, 2), (0, 3), (1, 0), (1, 1), (1, 2), (1, 3), (1, 4), (1, 5)] [("switches", Dv.adr (kwAd ("Screen", some "__init__") "switches")), ("enter", Dv.str "first"), ("ends", Dv.str "wrap"), ("gone", Dv.str "first"), ("again", Dv.str "opener"), ("leave", Dv.str "")] [.tup [], .str "first", .str "wrap", .str "first", .str "opener", .str ""] C h_Screen___init__ rfl (List.forall_mem_cons.mpr ⟨List.mem_of_getElem? (i := 0) rfl, (List.forall_mem_cons.mpr ⟨List.mem_of_getElem? (i := 1) rfl, (List.forall_mem_cons.mpr ⟨List.mem_of_getElem? (i := 2) rfl, (List.forall_mem_cons.mpr ⟨List.mem_of_getElem? (i := 3) rfl, (List.forall_mem_cons.mpr ⟨List.mem_of_getElem? (i := 4) rfl, (List.forall_mem_cons.mpr ⟨List.mem_of_getElem? (i := 5) rfl, (fun _ h => nomatch h)⟩)⟩)⟩)⟩)⟩)⟩) (by intro z; cases z) (fun c hc => (DVs.cons (kd_ok C 0 rfl c hc) (DVs.cons rfl (DVs.cons rfl (DVs.cons rfl (DVs.cons rfl (DVs.cons rfl DVs.nil))))))) (fun D doc pm an cdv ct us mv ws l1 l2 l3 => match us, mv, ws, l1, l2, l3 with | [_, _, _, _], [_, _, _, _, _, _], [], _, _, _ => (by refine ⟨_, _, _, _, _, _, rfl, rfl, ?_⟩; refine ⟨_, _, _, _, _, _, rfl, rfl, ?_⟩; refine ⟨_, _, _, _, _, _, rfl, rfl, ?_⟩; refine ⟨_, _, _, _, _, _, rfl, rfl, ?_⟩; refine ⟨_, _, _, _, _, _, rfl, rfl, ?_⟩; refine ⟨_, _, _, _, _, _, rfl, rfl, ?_⟩; exact rfl)) (by decide) (ja_cons je_str (ja_cons (je_lst (ja_cons (je_tup (ja_cons je_str (ja_cons je_int (ja_cons (je_tup ja_nil) (ja_cons (je_tup ja_nil) (ja_cons (je_tup (ja_cons je_str (ja_cons je_str ja_nil))) ja_nil)))))) ja_nil)) (ja_cons (je_lst (ja_cons je_str ja_nil)) ja_nil))) jk_nil) C.nd rfl (by first | exact .inl rfl | exact .inr rfl))
  (jb_one (js_ret (je_and (q_neW (j := 14) C rfl (eqT_cons (by rfl) (by decide) h_Foreign___eq__ eqT_nil) (q_make 2 C h_Foreign___init__ (by decide) (ja_cons je_str (ja_cons (je_lst (ja_cons je_str ja_nil)) ja_nil))) q_var) (je_one (q_eqW C (eqT_cons (by rfl) (by decide) h_Foreign___eq__ eqT_nil) (je_told (k := 3) C (by decide) td h__law_error_word (by decide) (hl (by decide +kernel)) rfl (LamX.lamS_by (by first | rfl | decide +kernel)) rfl (fun _ _ _ _ _ => rfl) (fun E A outer s H f c hG hr => (q_make 2 (C.lam hG hr) h_Foreign___init__ (by decide) (ja_cons je_str (ja_cons je_non ja_nil))))) (je_tup (ja_cons je_str (ja_cons je_str ja_nil))))))))))
theorem h_all (tp : Tp P NM K mg) : Has P w K mg "law" ["_law_script"] (16) f_law := by
  have k_is_list := h_is_list (w := w) tp 
  have k_is_word := h_is_word (w := w) tp 
  have k_is_among := h_is_among (w := w) tp 
  have k_is_switch := h_is_switch (w := w) tp k_is_word k_is_among
  have k_need_switches := h_need_switches (w := w) tp k_is_list k_is_switch
  have k_are_rising := h_are_rising (w := w) tp 
  have k_is_pair := h_is_pair (w := w) tp 
  have k_is_condition := h_is_condition (w := w) tp k_are_rising k_is_pair k_is_among
  have k_is_changes := h_is_changes (w := w) tp k_are_rising k_is_pair
  have k_is_replies := h_is_replies (w := w) tp k_are_rising k_is_pair k_is_word k_is_changes
  have k_is_deed := h_is_deed (w := w) tp k_is_word k_is_replies k_is_changes
  have k_is_part := h_is_part (w := w) tp k_is_condition k_is_word k_is_among k_is_deed
  have k_need_parts := h_need_parts (w := w) tp k_is_list k_is_part
  have k_Plan___init__ := h_Plan___init__ (w := w) tp 
  have k_Plan_put_part := h_Plan_put_part (w := w) tp 
  have k_is_one_of := h_is_one_of (w := w) tp 
  have k_Plan_put_group := h_Plan_put_group (w := w) tp k_is_among k_is_one_of k_Plan_put_part
  have g_Plan_put_item := hg_Plan_put_item (w := w) tp k_Plan_put_part k_is_one_of k_Plan_put_group k_is_condition 10
  have k_Plan_put_item : HasM P w K mg "Plan" "put_item" ["self", "item", "conditions"] (12) (Sh.f_Plan_put_item T) := g_Plan_put_item.1
  have k_Plan_put_box : HasM P w K mg "Plan" "put_box" ["self", "item", "conditions"] (12) (Sh.f_Plan_put_box T) := g_Plan_put_item.2
  have k_plan_of := h_plan_of (w := w) tp k_Plan___init__ k_is_list k_Plan_put_item
  have k_Screen_need_rule := h_Screen_need_rule (w := w) tp 
  have k_Screen___init__ := h_Screen___init__ (w := w) tp k_need_switches k_need_parts k_plan_of k_Screen_need_rule k_is_word k_is_one_of
  have k__law_begun := h__law_begun (w := w) tp 
  have k__law_draw := h__law_draw (w := w) tp 
  have k__law_of := h__law_of (w := w) tp k__law_draw
  have k__law_some := h__law_some (w := w) tp k__law_draw k__law_of
  have k_Foreign___init__ := h_Foreign___init__ (w := w) tp k_is_word k_is_list
  have k__law_error_word := h__law_error_word (w := w) tp 
  have k__law_is_word := h__law_is_word (w := w) tp 
  have k__law_are_answers := h__law_are_answers (w := w) tp k__law_is_word
  have k_Foreign___eq__ := h_Foreign___eq__ (w := w) tp 
  have k_law := h_law (w := w) tp k_Screen___init__ k__law_begun k__law_of k__law_some k_Foreign___init__ k__law_error_word k__law_is_word k__law_are_answers k_Foreign___eq__
  exact k_law
end
end k03
end Kx

set_option Elab.async false
set_option linter.all false
set_option maxRecDepth 100000
set_option autoImplicit false
set_option maxHeartbeats 0
namespace Kx
namespace k03
open PySem PySem.Spec L2
def MD : List D := [.str "no", .str "ok", .str "x", .str "abcdefgh", .str "a", .str "z"]
def OD : List D := [.non, .int 0, .str "", .str "abcdefghi", .str "A", .tup [.str "no"], .bl true, .str "a b", .str "no1", .lst []]
def VD : List D := [.non, .int 5, .str "no", .dic [] [], .tup [], .lst [], .str "ok", .bl true]
def It (d : D) : Prop := d ∈ MD ∨ d ∈ OD
def Items (es : List D) : Prop := ∀ d ∈ es, It d
theorem Items.app {a b : List D} (h : Items a) (k : Items b) : Items (a ++ b) := fun d hd => (List.mem_append.mp hd).elim (h d) (k d)
/-- what is drawn as answers -/
inductive Ans (S : Store) (n : Nat) : D → Prop
  | sq (e : D) (es : List D) : SeqP S e es → Items es → es.length ≤ 8 → (∀ k, e = .loc k → k ≠ n) → (e = .lst es → es = []) → Ans S n e
  | no (e : D) : e ∈ [D.non, .int 5, .str "no", .dic [] [], .str "ok", .bl true] → Ans S n e
structure Two (S : Store) (n i j : Nat) (ms as : List D) (b : Nat) : Prop where
  dr : DrOk S n b
  m : S[i]? = some (.lst ms)
  a : S[j]? = some (.lst as)
  ni : n ≠ i
  nj : n ≠ j
  ij : i ≠ j
section
variable {S : Store} {n i j b : Nat} {ms as : List D}
/-- one more is taken from the menu -/
theorem take_ok (t : Two S n i j ms as b) (hb : b < 1000) (hm : 0 < ms.length) (hl : ms.length ≤ 6) (ha : as.length ≤ 5) (im : ∀ d ∈ ms, d ∈ MD) (ia : ∀ d ∈ as, d ∈ MD) {c d e f : Option D} :
    ∃ S' ms' as', s__law_some_1_0 [some (.loc n), some (.loc i), some (.loc j), c, d, e, f] S = .nx [some (.loc n), some (.loc i), some (.loc j), c, d, e, f] S' ∧ Two S' n i j ms' as' (b + 1) ∧ ms'.length + 1 = ms.length ∧ as'.length = as.length + 1 ∧ (∀ d ∈ ms', d ∈ MD) ∧ ∀ d ∈ as', d ∈ MD := by
  obtain ⟨v, K, h1, v1, v2, d1⟩ := draw_inv (m := (ms.length : Int)) t.dr (by omega) (by omega) (by omega)
  have hlt : v.toNat < ms.length := by omega
  have m1 : (S.set n K)[i]? = some (.lst ms) := set_other t.m t.ni
  have a1 : (S.set n K)[j]? = some (.lst as) := set_other t.a t.nj
  have cm : cellL (.loc i) S = some (i, ms) := by show (match S[i]? with | some (.lst ds) => some (i, ds) | _ => none) = _; rw [t.m]
  have cm1 : cellL (.loc i) (S.set n K) = some (i, ms) := by show (match (S.set n K)[i]? with | some (.lst ds) => some (i, ds) | _ => none) = _; rw [m1]
  have ca : cellL (.loc j) S = some (j, as) := by show (match S[j]? with | some (.lst ds) => some (j, ds) | _ => none) = _; rw [t.a]
  have a2 : ((S.set n K).set i (.lst (ms.eraseIdx v.toNat)))[j]? = some (.lst as) := set_other a1 t.ij
  have ca2 : cellL (.loc j) ((S.set n K).set i (.lst (ms.eraseIdx v.toNat))) = some (j, as) := by show (match ((S.set n K).set i (.lst (ms.eraseIdx v.toNat)))[j]? with | some (.lst ds) => some (j, ds) | _ => none) = _; rw [a2]
  have pp : popAtM i ms [.int v] (S.set n K) = some (ms[v.toNat], (S.set n K).set i (.lst (ms.eraseIdx v.toNat))) := by
    unfold popAtM
    dsimp only
    rw [if_pos (by omega), seqIx v1 v2]
    dsimp only
    rw [List.getElem?_eq_getElem hlt]
  have ap : appM j as [ms[v.toNat]] ((S.set n K).set i (.lst (ms.eraseIdx v.toNat))) = some (.non, ((S.set n K).set i (.lst (ms.eraseIdx v.toNat))).set j (.lst (as ++ [ms[v.toNat]]))) := by
    unfold appM
    dsimp only
    rw [if_pos (by rw [sizeLine_eq]; omega)]
  refine ⟨((S.set n K).set i (.lst (ms.eraseIdx v.toNat))).set j (.lst (as ++ [ms[v.toNat]])), ms.eraseIdx v.toNat, as ++ [ms[v.toNat]], ?_, ⟨?_, ?_, ?_, t.ni, t.nj, t.ij⟩, ?_, by simp, fun x hx => im x (List.mem_of_mem_eraseIdx hx), fun x hx => ?_⟩
  · simp only [s__law_some_1_0, eMut, sSeq, sAsg, sb, sIf, sRet, sNext, sPar, sExpr, sRaise, tOrM, tAndM, tNotM, tOfE, tYes, eF, eN, Kx.e1, Kx.e2, eIf, eAnd, eOr, eNot, Kx.eC, eVar, aCons, aNil, eChain, opt, Res.bind, gN, gTp, gCo, gNo, Option.bind, iVal, itemsD, eSl, oSome, oNone, eS1, eL1, fnRes, List.getElem?_cons_zero, List.getElem?_cons_succ, List.set_cons_zero, List.set_cons_succ, if_true, Bool.false_eq_true, if_false, Bool.not_true, Bool.not_false, lenC t.m, h1, cm, cm1, ca, ca2, Option.isSome_some, pp, ap]
  · exact (d1.other (Ne.symm t.ni)).other (Ne.symm t.nj)
  · exact set_other (get_set m1) (Ne.symm t.ij)
  · exact get_set a2
  · rw [List.length_eraseIdx, if_pos hlt]; omega
  · rcases List.mem_append.mp hx with hx | hx
    · exact ia x hx
    · rw [List.mem_singleton.mp hx]; exact im _ (List.getElem_mem hlt)
theorem st0 (h : DrOk S n b) : ∃ S', s__law_some_0 [some (.loc n), none, none, none, none, none, none] S = .nx [some (.loc n), some (.loc S.length), some (.loc (S.length + 1)), none, none, none, none] S' ∧ Two S' n S.length (S.length + 1) MD [] b := by
  refine ⟨S ++ [.lst MD] ++ [.lst []], ?_, ⟨h.app.app, ?_, ?_, ?_, ?_, by omega⟩⟩
  · show SRes.nx [some (.loc n), some (.loc S.length), some (.loc (S ++ [Cell.lst MD]).length), none, none, none, none] (S ++ [.lst MD] ++ [.lst []]) = _
    rw [List.length_append]
    rfl
  · simp
  · rw [List.getElem?_append_right (by simp)]
    simp
  · have := h.lt; omega
  · have := h.lt; omega
theorem st1 (t : Two S n i j MD [] b) (hb : b < 900) : ∃ S' ms as w, s__law_some_1 [some (.loc n), some (.loc i), some (.loc j), none, none, none, none] S = .nx [some (.loc n), some (.loc i), some (.loc j), w, none, none, none] S' ∧ Two S' n i j ms as (b + 4) ∧ 1 ≤ as.length ∧ as.length ≤ 3 ∧ ms.length ≤ 6 ∧ (∀ d ∈ ms, d ∈ MD) ∧ ∀ d ∈ as, d ∈ MD := by
  obtain ⟨v, K, h1, v1, v2, d1⟩ := draw_inv (m := 3) t.dr (by omega) (by decide) (by decide)
  have ad : addX (.int 1) (.int v) (S.set n K) = some (.int (1 + v)) := rfl
  have it : (iRange1 (Kx.e2 addX (Kx.eC (.int 1)) (eF f__law_draw (aCons (eVar 0) (aCons (Kx.eC (.int 3)) (aNil)))))) [some (.loc n), some (.loc i), some (.loc j), none, none, none, none] S = .ok (rngD 0 (1 + v).toNat) (S.set n K) := by
    refine range_ok ?_ (by omega) (by omega)
    simp only [sSeq, sAsg, sb, sIf, sRet, sNext, sPar, sExpr, sRaise, tOrM, tAndM, tNotM, tOfE, tYes, eF, eN, Kx.e1, Kx.e2, eIf, eAnd, eOr, eNot, Kx.eC, eVar, aCons, aNil, eChain, opt, Res.bind, gN, gTp, gCo, gNo, Option.bind, iVal, itemsD, eSl, oSome, oNone, eS1, eL1, fnRes, List.getElem?_cons_zero, List.getElem?_cons_succ, List.set_cons_zero, List.set_cons_succ, if_true, Bool.false_eq_true, if_false, Bool.not_true, Bool.not_false, h1, ad]
  obtain ⟨G', S', q1, w, ms, as, q2, q3, q4, q5, q6, q7⟩ := forL_inv (g := gN 3) (body := s__law_some_1_0) (I := fun k G S => ∃ w ms as, G = [some (.loc n), some (.loc i), some (.loc j), w, none, none, none] ∧ Two S n i j ms as (b + 1 + k) ∧ ms.length + k = 6 ∧ as.length = k ∧ (∀ d ∈ ms, d ∈ MD) ∧ ∀ d ∈ as, d ∈ MD)
    (rngD 0 (1 + v).toNat) 0 [some (.loc n), some (.loc i), some (.loc j), none, none, none, none] (S.set n K) ⟨none, MD, [], rfl, ⟨d1, set_other t.m t.ni, set_other t.a t.nj, t.ni, t.nj, t.ij⟩, rfl, rfl, fun d hd => hd, fun d hd => by simp at hd⟩ (by
      rintro k x G S hk ⟨w, ms, as, rfl, t, l1, l2, m1, m2⟩
      obtain ⟨hk, rfl⟩ := rng_at hk
      obtain ⟨S2, ms', as', r1, r2, r3, r4, r5, r6⟩ := take_ok t (by omega) (by omega) (by omega) (by omega) m1 m2 (c := some (.int (0 + (k : Int)))) (d := none) (e := none) (f := none)
      exact ⟨_, _, S2, rfl, r1, some (.int (0 + (k : Int))), ms', as', rfl, by rw [show b + 1 + (0 + k + 1) = b + 1 + (0 + k) + 1 by omega]; exact r2, by omega, by omega, r5, r6⟩)
  rw [rng_len] at q3 q4 q5
  have hv : (1 + v).toNat ≤ 3 ∧ 1 ≤ (1 + v).toNat := by omega
  refine ⟨S', ms, as, w, ?_, ⟨q3.dr.mono (by omega), q3.m, q3.a, q3.ni, q3.nj, q3.ij⟩, by omega, by omega, by omega, q6, q7⟩
  unfold s__law_some_1
  rw [sFor_eq it, q1, q2]
theorem frz1 {w : Option D} (t : Two S n i j ms as b) (hb : b < 1000) : ∃ S' v o, s__law_some_2 [some (.loc n), some (.loc i), some (.loc j), w, none, none, none] S = .nx [some (.loc n), some (.lst ms), some (.loc j), w, some (.int v), some o, none] S' ∧ DrOk S' n (b + 2) ∧ S'[j]? = some (.lst as) ∧ o ∈ OD := by
  have f : frzF 1 (.loc i) S = (.lst ms, S.set i .dead) := by
    show (match S[i]? with
      | some (.lst ds) => (D.lst ds, S.set i .dead)
      | some (.dic ks ds) => (.dic ks ds, S.set i .dead)
      | some (.ins c ns ds) => (.ins c ns (frzL (frzF 0) ds S).1, (frzL (frzF 0) ds S).2.set i .dead)
      | _ => (.loc i, S)) = _
    rw [t.m]
  have d0 : DrOk (S.set i .dead) n b := t.dr.other (Ne.symm t.ni)
  have a0 : (S.set i .dead)[j]? = some (.lst as) := set_other t.a t.ij
  obtain ⟨v, K, h1, v1, v2, d1⟩ := draw_inv (m := 6) d0 (by omega) (by decide) (by decide)
  obtain ⟨o, K2, ho, h2, d2⟩ := of_inv (ds := OD) d1 (by omega) (by simp [OD]) (by simp [OD])
  have od : (eLst (aCons (Kx.eC .non) (aCons (Kx.eC (.int 0)) (aCons (Kx.eC (.str "")) (aCons (Kx.eC (.str "abcdefghi")) (aCons (Kx.eC (.str "A")) (aCons (eTup (aCons (Kx.eC (.str "no")) (aNil))) (aCons (Kx.eC (.bl true)) (aCons (Kx.eC (.str "a b")) (aCons (Kx.eC (.str "no1")) (aCons (eLst (aNil)) (aNil)))))))))))) [some (.loc n), some (.lst ms), some (.loc j), w, none, none, none] ((S.set i .dead).set n K) = .ok (.lst OD) ((S.set i .dead).set n K) := rfl
  refine ⟨((S.set i .dead).set n K).set n K2, v, o, ?_, d2, set_other (set_other a0 t.nj) t.nj, ho⟩
  simp only [s__law_some_2, sFrz, sSeq, sAsg, sb, sIf, sRet, sNext, sPar, sExpr, sRaise, tOrM, tAndM, tNotM, tOfE, tYes, eF, eN, Kx.e1, Kx.e2, eIf, eAnd, eOr, eNot, Kx.eC, eVar, aCons, aNil, eChain, opt, Res.bind, gN, gTp, gCo, gNo, Option.bind, iVal, itemsD, eSl, oSome, oNone, eS1, eL1, fnRes, List.getElem?_cons_zero, List.getElem?_cons_succ, List.set_cons_zero, List.set_cons_succ, if_true, Bool.false_eq_true, if_false, Bool.not_true, Bool.not_false, f, h1, od, h2]
theorem inMD {d : D} (h : d ∈ MD) : It d := .inl h
theorem st3 {w o : Option D} {od : D} {v : Int} (h : DrOk S n b) (hb : b < 1000) (ha : S[j]? = some (.lst as)) (nj : n ≠ j) (l1 : 1 ≤ as.length) (l3 : as.length ≤ 3) (ia : ∀ d ∈ as, d ∈ MD) (ho : od ∈ OD) :
    ∃ S' k as' u, s__law_some_3 [some (.loc n), o, some (.loc j), w, some (.int v), some od, none] S = .nx [some (.loc n), o, some (.loc k), w, some (.int v), some od, u] S' ∧ DrOk S' n (b + 1) ∧ S'[k]? = some (.lst as') ∧ n ≠ k ∧ as'.length ≤ 4 ∧ Items as' := by
  have eqv : eqX (.int v) (.int 0) S = some (.bl (decide (v = 0))) := rfl
  by_cases hv : v = 0
  · rw [decide_eq_true hv] at eqv
    obtain ⟨x, K, h1, v1, v2, d1⟩ := draw_inv (m := (as.length : Int)) h (by omega) (by omega) (by omega)
    have a1 : (S.set n K)[j]? = some (.lst as) := set_other ha nj
    have hx : ((x.toNat : Nat) : Int) = x := Int.toNat_of_nonneg v1
    have hx1 : ((x.toNat + 1 : Nat) : Int) = x + 1 := by omega
    obtain ⟨c1, _⟩ := cut_take (ds := as) (m := x.toNat) (by omega)
    obtain ⟨_, c2⟩ := cut_take (ds := as) (m := x.toNat + 1) (by omega)
    rw [hx] at c1
    rw [hx1] at c2
    have lo : lstOf (S.set n K) (.loc j) = some as := by rw [lst_loc, a1]
    have s1 : slD (.loc j) none (some x) (S.set n K) = some (.lst (as.take x.toNat)) := by
      show (lstOf (S.set n K) (.loc j)).map (fun ds => D.lst (cutD ds none (some x))) = _
      rw [lo, Option.map_some, c1]
    have s2 : slD (.loc j) (some (x + 1)) none (S.set n K) = some (.lst (as.drop (x.toNat + 1))) := by
      show (lstOf (S.set n K) (.loc j)).map (fun ds => D.lst (cutD ds (some (x + 1)) none)) = _
      rw [lo, Option.map_some, c2]
    have sm : small [od] = true := rfl
    have ad : addX (.int x) (.int 1) (S.set n K) = some (.int (x + 1)) := rfl
    have lt : (as.take x.toNat).length ≤ 3 := by rw [List.length_take]; omega
    have ld : (as.drop (x.toNat + 1)).length ≤ 3 := by rw [List.length_drop]; omega
    have a2 : addX (.lst (as.take x.toNat)) (.lst [od]) (S.set n K) = some (.lst (as.take x.toNat ++ [od])) := by
      have : addD (.lst (as.take x.toNat)) (.lst [od]) (S.set n K) = some (.lst (as.take x.toNat ++ [od])) := by
        show (if sumOk (as.take x.toNat).length 1 then some (D.lst (as.take x.toNat ++ [od])) else none) = _
        rw [if_pos]
        unfold sumOk
        rw [decide_eq_true_eq, sizeLine_eq]
        omega
      unfold addX
      rw [this]
    have pl1 : plL (S.set n K) (.lst (as.take x.toNat ++ [od])) = some (as.take x.toNat ++ [od]) := rfl
    have pl2 : plL (S.set n K) (.lst (as.drop (x.toNat + 1))) = some (as.drop (x.toNat + 1)) := rfl
    have sl : (as.take x.toNat ++ [od]).length + (as.drop (x.toNat + 1)).length ≤ sizeLine := by
      rw [List.length_append, sizeLine_eq, List.length_singleton]
      omega
    refine ⟨S.set n K ++ [.lst (as.take x.toNat ++ [od] ++ as.drop (x.toNat + 1))], (S.set n K).length, as.take x.toNat ++ [od] ++ as.drop (x.toNat + 1), some (.int x), ?_, d1.app, by simp, ?_, ?_, ?_⟩
    · simp only [s__law_some_3, s__law_some_3_t_0, s__law_some_3_t_1, eAddC, eLst, sSeq, sAsg, sb, sIf, sRet, sNext, sPar, sExpr, sRaise, tOrM, tAndM, tNotM, tOfE, tYes, eF, eN, Kx.e1, Kx.e2, eIf, eAnd, eOr, eNot, Kx.eC, eVar, aCons, aNil, eChain, opt, Res.bind, gN, gTp, gCo, gNo, Option.bind, iVal, itemsD, eSl, oSome, oNone, eS1, eL1, fnRes, List.getElem?_cons_zero, List.getElem?_cons_succ, List.set_cons_zero, List.set_cons_succ, if_true, Bool.false_eq_true, if_false, Bool.not_true, Bool.not_false, eqv, lenC ha, h1, s1, s2, sm, ad, a2, pl1, pl2, sl]
    · have := d1.lt; omega
    · rw [List.length_append, List.length_append, List.length_take, List.length_drop, List.length_singleton]
      omega
    · refine (Items.app (fun d hd => inMD (ia d (List.mem_of_mem_take hd))) fun d hd => ?_).app fun d hd => inMD (ia d (List.mem_of_mem_drop hd))
      rw [List.mem_singleton.mp hd]; exact .inr ho
  · rw [decide_eq_false hv] at eqv
    refine ⟨S, j, as, none, ?_, h.mono (by omega), ha, nj, by omega, fun d hd => inMD (ia d hd)⟩
    simp only [s__law_some_3, sSeq, sAsg, sb, sIf, sRet, sNext, sPar, sExpr, sRaise, tOrM, tAndM, tNotM, tOfE, tYes, eF, eN, Kx.e1, Kx.e2, eIf, eAnd, eOr, eNot, Kx.eC, eVar, aCons, aNil, eChain, opt, Res.bind, gN, gTp, gCo, gNo, Option.bind, iVal, itemsD, eSl, oSome, oNone, eS1, eL1, fnRes, List.getElem?_cons_zero, List.getElem?_cons_succ, List.set_cons_zero, List.set_cons_succ, if_true, Bool.false_eq_true, if_false, Bool.not_true, Bool.not_false, eqv]
theorem st4 {w u : Option D} {od : D} {v : Int} (h : DrOk S n b) (hb : b < 1000) (ha : S[j]? = some (.lst as)) (nj : n ≠ j) (l3 : as.length ≤ 4) (ia : Items as) (lm : ms.length ≤ 6) (im : ∀ d ∈ ms, d ∈ MD) :
    ∃ S' k as', s__law_some_4 [some (.loc n), some (.lst ms), some (.loc j), w, some (.int v), some od, u] S = .nx [some (.loc n), some (.lst ms), some (.loc k), w, some (.int v), some od, u] S' ∧ DrOk S' n (b + 1) ∧ S'[k]? = some (.lst as') ∧ n ≠ k ∧ as'.length ≤ 8 ∧ Items as' := by
  have eqv : eqX (.int v) (.int 1) S = some (.bl (decide (v = 1))) := rfl
  by_cases hv : v = 1
  · rw [decide_eq_true hv] at eqv
    obtain ⟨x, K, h1, v1, v2, d1⟩ := draw_inv (m := 3) h (by omega) (by decide) (by decide)
    have hx : ((x.toNat : Nat) : Int) = x := Int.toNat_of_nonneg v1
    have lo : lstOf S (.loc j) = some as := by rw [lst_loc, ha]
    have e1 : ∃ t1, cutD as none (some 1) = t1 ∧ t1.length ≤ 1 ∧ ∀ d ∈ t1, d ∈ as := by
      refine ⟨_, rfl, ?_, ?_⟩
      · cases as with
        | nil => exact Nat.le_trans (Nat.le_of_eq rfl) (by decide)
        | cons a r => rw [show cutD (a :: r) none (some 1) = cutD (a :: r) none (some ((1 : Nat) : Int)) from rfl, (cut_take (ds := a :: r) (m := 1) (by simp)).1]; simp
      · intro d hd
        unfold cutD at hd
        exact List.mem_of_mem_drop (List.mem_of_mem_take hd)
    obtain ⟨t1, e1, t2, t3⟩ := e1
    have e2 : ∃ t, cutD ms none (some x) = t ∧ t.length ≤ 2 ∧ ∀ d ∈ t, d ∈ ms := by
      refine ⟨_, rfl, ?_, ?_⟩
      · rw [← hx]
        unfold cutD
        rw [HT.sIx_nat, HT.sIx_none]
        rw [List.length_take]
        omega
      · intro d hd
        unfold cutD at hd
        exact List.mem_of_mem_drop (List.mem_of_mem_take hd)
    obtain ⟨t, e2, u2, u3⟩ := e2
    have s1 : slD (.loc j) none (some 1) S = some (.lst t1) := by
      show (lstOf S (.loc j)).map (fun ds => D.lst (cutD ds none (some 1))) = _
      rw [lo, Option.map_some, e1]
    have s2 : slD (.lst ms) none (some x) (S.set n K) = some (.lst t) := by
      show some (D.lst (cutD ms none (some x))) = _
      rw [e2]
    have a2 : addX (.loc j) (.lst t1) S = some (.lst (as ++ t1)) := by
      have z : addD (.loc j) (.lst t1) S = none := rfl
      unfold addX
      rw [z]
      dsimp only
      unfold catD
      have p1 : plL S (.loc j) = some as := by show (match S[j]? with | some (.lst ds) => some ds | _ => none) = _; rw [ha]
      have p2 : plL S (.lst t1) = some t1 := rfl
      rw [p1, p2]
      dsimp only
      rw [if_pos (by rw [sizeLine_eq]; omega)]
    have pl1 : plL (S.set n K) (.lst (as ++ t1)) = some (as ++ t1) := rfl
    have pl2 : plL (S.set n K) (.lst t) = some t := rfl
    have sl : (as ++ t1).length + t.length ≤ sizeLine := by
      rw [List.length_append, sizeLine_eq]
      omega
    refine ⟨S.set n K ++ [.lst (as ++ t1 ++ t)], (S.set n K).length, as ++ t1 ++ t, ?_, d1.app, by simp, ?_, ?_, ?_⟩
    · simp only [s__law_some_4, s__law_some_4_t_0, eAddC, sSeq, sAsg, sb, sIf, sRet, sNext, sPar, sExpr, sRaise, tOrM, tAndM, tNotM, tOfE, tYes, eF, eN, Kx.e1, Kx.e2, eIf, eAnd, eOr, eNot, Kx.eC, eVar, aCons, aNil, eChain, opt, Res.bind, gN, gTp, gCo, gNo, Option.bind, iVal, itemsD, eSl, oSome, oNone, eS1, eL1, fnRes, List.getElem?_cons_zero, List.getElem?_cons_succ, List.set_cons_zero, List.set_cons_succ, if_true, Bool.false_eq_true, if_false, Bool.not_true, Bool.not_false, eqv, h1, s1, s2, a2, pl1, pl2, sl]
    · have := d1.lt; omega
    · rw [List.length_append, List.length_append]
      omega
    · exact (Items.app ia fun d hd => ia d (t3 d hd)).app fun d hd => inMD (im d (u3 d hd))
  · rw [decide_eq_false hv] at eqv
    refine ⟨S, j, as, ?_, h.mono (by omega), ha, nj, by omega, ia⟩
    simp only [s__law_some_4, sSeq, sAsg, sb, sIf, sRet, sNext, sPar, sExpr, sRaise, tOrM, tAndM, tNotM, tOfE, tYes, eF, eN, Kx.e1, Kx.e2, eIf, eAnd, eOr, eNot, Kx.eC, eVar, aCons, aNil, eChain, opt, Res.bind, gN, gTp, gCo, gNo, Option.bind, iVal, itemsD, eSl, oSome, oNone, eS1, eL1, fnRes, List.getElem?_cons_zero, List.getElem?_cons_succ, List.set_cons_zero, List.set_cons_succ, if_true, Bool.false_eq_true, if_false, Bool.not_true, Bool.not_false, eqv]
theorem some_ok (h : DrOk S n b) (hb : b < 800) : ∃ e S', f__law_some [.loc n] S = .ok e S' ∧ DrOk S' n (b + 10) ∧ Ans S' n e := by
  obtain ⟨S0, q0, t0⟩ := st0 h
  obtain ⟨S1, ms, as, w, q1, t1, l1, l3, lm, im, ia⟩ := st1 t0 (by omega)
  obtain ⟨S2, v, o, q2, d2, a2, ho⟩ := frz1 (w := w) t1 (by omega)
  obtain ⟨S3, k3, as3, u, q3, d3, a3, n3, l4, i3⟩ := st3 (o := some (.lst ms)) (w := w) (v := v) d2 (by omega) a2 t1.nj l1 l3 ia ho
  obtain ⟨S4, k4, as4, q4, d4, a4, n4, l5, i4⟩ := st4 (w := w) (u := u) (od := o) (v := v) d3 (by omega) a3 n3 l4 i3 lm im
  have run : f__law_some [.loc n] S = fnRes (b__law_some [some (.loc n), none, none, none, none, none, none] S) := rfl
  rw [run]
  unfold b__law_some
  rw [seq_nx q0, seq_nx q1, seq_nx q2, seq_nx q3, seq_nx q4]
  have eqv : eqX (.int v) (.int 2) S4 = some (.bl (decide (v = 2))) := rfl
  by_cases hv : v = 2
  · rw [decide_eq_true hv] at eqv
    obtain ⟨e, K, he, h1, d5⟩ := of_inv (ds := VD) d4 (by omega) (by simp [VD]) (by simp [VD])
    have vd : (eLst (aCons (Kx.eC .non) (aCons (Kx.eC (.int 5)) (aCons (Kx.eC (.str "no")) (aCons (eDic0) (aCons (eTup (aNil)) (aCons (eLst (aNil)) (aCons (Kx.eC (.str "ok")) (aCons (Kx.eC (.bl true)) (aNil)))))))))) [some (.loc n), some (.lst ms), some (.loc k4), w, some (.int v), some o, u] S4 = .ok (.lst VD) S4 := rfl
    have e5 : s__law_some_5 [some (.loc n), some (.lst ms), some (.loc k4), w, some (.int v), some o, u] S4 = .rt e (S4.set n K) := by
      simp only [s__law_some_5, s__law_some_5_t_0, sSeq, sAsg, sb, sIf, sRet, sNext, sPar, sExpr, sRaise, tOrM, tAndM, tNotM, tOfE, tYes, eF, eN, Kx.e1, Kx.e2, eIf, eAnd, eOr, eNot, Kx.eC, eVar, aCons, aNil, eChain, opt, Res.bind, gN, gTp, gCo, gNo, Option.bind, iVal, itemsD, eSl, oSome, oNone, eS1, eL1, fnRes, List.getElem?_cons_zero, List.getElem?_cons_succ, List.set_cons_zero, List.set_cons_succ, if_true, Bool.false_eq_true, if_false, Bool.not_true, Bool.not_false, eqv, vd, h1]
    rw [seq_rt e5]
    refine ⟨e, S4.set n K, rfl, d5.mono (by omega), ?_⟩
    simp only [VD, List.mem_cons, List.not_mem_nil, or_false] at he
    rcases he with rfl | rfl | rfl | rfl | rfl | rfl | rfl | rfl
    · exact .no _ (by simp)
    · exact .no _ (by simp)
    · exact .no _ (by simp)
    · exact .no _ (by simp)
    · exact .sq _ [] (.inl rfl) (fun d hd => by simp at hd) (by simp) (fun k hk => by cases hk) (fun hk => by cases hk)
    · exact .sq _ [] (.inr (.inl rfl)) (fun d hd => by simp at hd) (by simp) (fun k hk => by cases hk) (fun hk => rfl)
    · exact .no _ (by simp)
    · exact .no _ (by simp)
  · rw [decide_eq_false hv] at eqv
    have e5 : s__law_some_5 [some (.loc n), some (.lst ms), some (.loc k4), w, some (.int v), some o, u] S4 = .nx [some (.loc n), some (.lst ms), some (.loc k4), w, some (.int v), some o, u] S4 := by
      simp only [s__law_some_5, sSeq, sAsg, sb, sIf, sRet, sNext, sPar, sExpr, sRaise, tOrM, tAndM, tNotM, tOfE, tYes, eF, eN, Kx.e1, Kx.e2, eIf, eAnd, eOr, eNot, Kx.eC, eVar, aCons, aNil, eChain, opt, Res.bind, gN, gTp, gCo, gNo, Option.bind, iVal, itemsD, eSl, oSome, oNone, eS1, eL1, fnRes, List.getElem?_cons_zero, List.getElem?_cons_succ, List.set_cons_zero, List.set_cons_succ, if_true, Bool.false_eq_true, if_false, Bool.not_true, Bool.not_false, eqv]
    rw [seq_nx e5]
    obtain ⟨x, K, h1, v1, v2, d5⟩ := draw_inv (m := 2) d4 (by omega) (by decide) (by decide)
    have a5 : (S4.set n K)[k4]? = some (.lst as4) := set_other a4 n4
    have ex : eqX (.int x) (.int 0) (S4.set n K) = some (.bl (decide (x = 0))) := rfl
    by_cases hx : x = 0
    · rw [decide_eq_true hx] at ex
      have tp : tupX [.loc k4] (S4.set n K) = some (.tup as4) := by
        have z : tupD [.loc k4] (S4.set n K) = some (.tup as4) := by
          show (lstOf (S4.set n K) (.loc k4)).map D.tup = _
          rw [lst_loc, a5]; rfl
        unfold tupX
        rw [z]
      have e6 : s__law_some_6 [some (.loc n), some (.lst ms), some (.loc k4), w, some (.int v), some o, u] S4 = .rt (.tup as4) (S4.set n K) := by
        simp only [s__law_some_6, sSeq, sAsg, sb, sIf, sRet, sNext, sPar, sExpr, sRaise, tOrM, tAndM, tNotM, tOfE, tYes, eF, eN, Kx.e1, Kx.e2, eIf, eAnd, eOr, eNot, Kx.eC, eVar, aCons, aNil, eChain, opt, Res.bind, gN, gTp, gCo, gNo, Option.bind, iVal, itemsD, eSl, oSome, oNone, eS1, eL1, fnRes, List.getElem?_cons_zero, List.getElem?_cons_succ, List.set_cons_zero, List.set_cons_succ, if_true, Bool.false_eq_true, if_false, Bool.not_true, Bool.not_false, h1, ex, tp]
      rw [e6]
      exact ⟨_, _, rfl, d5.mono (by omega), .sq _ as4 (.inl rfl) i4 l5 (fun k hk => by cases hk) (fun hk => by cases hk)⟩
    · rw [decide_eq_false hx] at ex
      have e6 : s__law_some_6 [some (.loc n), some (.lst ms), some (.loc k4), w, some (.int v), some o, u] S4 = .rt (.loc k4) (S4.set n K) := by
        simp only [s__law_some_6, sSeq, sAsg, sb, sIf, sRet, sNext, sPar, sExpr, sRaise, tOrM, tAndM, tNotM, tOfE, tYes, eF, eN, Kx.e1, Kx.e2, eIf, eAnd, eOr, eNot, Kx.eC, eVar, aCons, aNil, eChain, opt, Res.bind, gN, gTp, gCo, gNo, Option.bind, iVal, itemsD, eSl, oSome, oNone, eS1, eL1, fnRes, List.getElem?_cons_zero, List.getElem?_cons_succ, List.set_cons_zero, List.set_cons_succ, if_true, Bool.false_eq_true, if_false, Bool.not_true, Bool.not_false, h1, ex]
      rw [e6]
      exact ⟨_, _, rfl, d5.mono (by omega), .sq _ as4 (.inr (.inr ⟨k4, rfl, a5⟩)) i4 l5 (fun k hk => by cases hk; exact Ne.symm n4) (fun hk => by cases hk)⟩
end
end k03
end Kx

set_option Elab.async false
set_option linter.all false
set_option maxRecDepth 100000
set_option autoImplicit false
set_option maxHeartbeats 0
namespace Kx
namespace k03
open PySem PySem.Spec L2
def WD : List D := [.str "main", .str "box", .str "a", .str "abcdefgh", .str "abcdefghi", .str "", .str "A", .non, .int 5, .tup [.str "a"], .bl true, .str "a1"]
theorem lwL {d : D} (h : d ∈ MD ++ OD ++ WD) (S : Store) : f__law_is_word [d] S = .ok (.bl (isW d)) S := by
  simp only [MD, OD, WD, List.cons_append, List.nil_append, List.mem_cons, List.not_mem_nil, or_false] at h
  rcases h with rfl | rfl | rfl | rfl | rfl | rfl | rfl | rfl | rfl | rfl | rfl | rfl | rfl | rfl | rfl | rfl | rfl | rfl | rfl | rfl | rfl | rfl | rfl | rfl | rfl | rfl | rfl | rfl <;> kernel_rfl
theorem lw {d : D} (h : It d) (S : Store) : f__law_is_word [d] S = .ok (.bl (isW d)) S := lwL (by rcases h with h | h <;> simp [h]) S
theorem lwW {d : D} (h : d ∈ WD) (S : Store) : f__law_is_word [d] S = .ok (.bl (isW d)) S := lwL (by simp [h]) S
theorem plA : (MD ++ OD ++ WD).all plV = true := by decide +kernel
theorem plI {d : D} (h : It d) : plV d = true := List.all_eq_true.mp plA d (by rcases h with h | h <;> simp [h])
theorem plW {d : D} (h : d ∈ WD) : plV d = true := List.all_eq_true.mp plA d (by simp [h])
theorem pdA : ((MD ++ OD).all fun d => plD d && (decide (dpD d ≤ 1) && decide (wtD d ≤ 50))) = true := by decide +kernel
theorem pdI {d : D} (h : It d) : plD d = true ∧ dpD d ≤ 1 ∧ wtD d ≤ 50 := by
  have := List.all_eq_true.mp pdA d (by rcases h with h | h <;> simp [h])
  simpa only [Bool.and_eq_true, decide_eq_true_eq] using this
theorem items_pl {es : List D} (h : Items es) : plDs es = true ∧ dpDs es ≤ 1 ∧ wtDs es ≤ 51 * es.length := ⟨plDs_all fun d hd => (pdI (h d hd)).1, dpDs_le fun d hd => (pdI (h d hd)).2.1, wtDs_le fun d hd => (pdI (h d hd)).2.2⟩
theorem nilX {fs : List D} {S : Store} (h : plDs fs = true) (hd : dpDs fs ≤ 10) : notOf eqX (.lst fs) (.lst []) S = some (.bl (!fs.isEmpty)) := by
  obtain ⟨ps, q⟩ := plDs_ok S fs h
  have t0 : toP S (.lst []) = some (.list []) := by simp only [toP, toPs, Option.map_some]
  have t1 : toP S (.lst fs) = some (.list ps) := by simp only [toP, q.tp, Option.map_some]
  have s1 : SeqAt.shaped (.list ps) = true := by
    unfold SeqAt.shaped
    simp only [PyData.canLay0, q.lay, PyData.depth, q.dep, Bool.true_and, decide_eq_true_eq]
    omega
  have s0 : SeqAt.shaped (.list []) = true := by decide
  have ev : PyData.eqv (.list ps) (.list []) = fs.isEmpty := by
    have := q.tp
    cases fs with
    | nil => simp only [toPs, Option.some.injEq] at this; subst this; rfl
    | cons x xs =>
      cases ps with
      | nil =>
        simp only [toPs] at this
        split at this <;> simp at this
      | cons p ps => rfl
  have e : eqD (.lst fs) (.lst []) S = some (.bl fs.isEmpty) := by
    show (match toP S (.lst fs), toP S (.lst []) with
      | some p, some q => if SeqAt.shaped p && SeqAt.shaped q then some (D.bl (PyData.eqv p q)) else none
      | _, _ => none) = _
    rw [t0, t1]
    dsimp only
    rw [s1, s0, ev]
    rfl
  unfold notOf eqX
  rw [e]
theorem plDs_filter {p : D → Bool} {es : List D} (h : plDs es = true) : plDs (es.filter p) = true := plDs_all fun d hd => plDs_mem h d ((List.mem_filter.mp hd).1)
theorem filt_empty {es : List D} : (es.filter fun d => !isW d).isEmpty = es.all isW := by
  induction es with
  | nil => rfl
  | cons d es ih =>
    rw [List.filter_cons, List.all_cons]
    cases isW d with
    | true => simpa using ih
    | false => simp
theorem ans_seq {S : Store} {e : D} {es : List D} (h : SeqP S e es) (hi : Items es) : f__law_are_answers [e] S = .ok (.bl (ansOk es)) S := by
  have he := h.v
  have i0 := he.isl T
  have sm : small [D.ty "list", D.ty "tuple"] = true := rfl
  have ch : eChain leD leD (Kx.eC (.int 1)) (eN lenD (aCons (eVar 0) aNil)) (Kx.eC (.int 3)) [some e, none] S = .ok (.bl (decide ((1 : Int) ≤ (es.length : Int)) && decide ((es.length : Int) ≤ 3))) S :=
    chain_len (x := .non) (by simp only [sSeq, sAsg, sb, sIf, sRet, sNext, sPar, sExpr, sRaise, tOrM, tAndM, tNotM, tOfE, tYes, eF, eN, Kx.e1, Kx.e2, eIf, eAnd, eOr, eNot, Kx.eC, eVar, aCons, aNil, eChain, opt, Res.bind, gN, gTp, gCo, gNo, Option.bind, iVal, itemsD, eSl, oSome, oNone, eS1, eL1, fnRes, List.getElem?_cons_zero, List.getElem?_cons_succ, List.set_cons_zero, List.set_cons_succ, if_true, Bool.false_eq_true, if_false, Bool.not_true, Bool.not_false, he.len])
  rw [len_dec] at ch
  have e0 : s__law_are_answers_0 [some e, none] S = if decide (1 ≤ es.length) && decide (es.length ≤ 3) then .nx [some e, none] S else .rt (.bl false) S := by
    simp only [s__law_are_answers_0, eTup, sSeq, sAsg, sb, sIf, sRet, sNext, sPar, sExpr, sRaise, tOrM, tAndM, tNotM, tOfE, tYes, eF, eN, Kx.e1, Kx.e2, eIf, eAnd, eOr, eNot, Kx.eC, eVar, aCons, aNil, opt, Res.bind, gN, gTp, gCo, gNo, Option.bind, iVal, itemsD, eSl, oSome, oNone, eS1, eL1, fnRes, List.getElem?_cons_zero, List.getElem?_cons_succ, List.set_cons_zero, List.set_cons_succ, if_true, Bool.false_eq_true, if_false, Bool.not_true, Bool.not_false, i0, sm, ch]
    cases (decide (1 ≤ es.length) && decide (es.length ≤ 3)) <;> simp
  have run : f__law_are_answers [e] S = fnRes (b__law_are_answers [some e, none] S) := rfl
  rw [run]
  unfold b__law_are_answers ansOk
  cases hl : (decide (1 ≤ es.length) && decide (es.length ≤ 3)) with
  | false =>
    rw [hl] at e0
    rw [seq_rt e0, ← Bool.and_assoc, hl, Bool.false_and]
    rfl
  | true =>
    rw [hl] at e0
    have l3 : es.length ≤ 3 := of_decide_eq_true (b2 hl).2
    rw [seq_nx e0, ← Bool.and_assoc, hl, Bool.true_and]
    have lc : eLcX (eVar 0) (gN 1) [1] (tNotM (tOfE (eF f__law_is_word (aCons (eVar 1) (aNil))))) (eVar 1) [some e, none] S = .ok (.lst (es.filter fun d => !isW d)) S := by
      have := eLcX_filter (ma := eVar 0) (g := gN 1) (vs := [1]) (tt := tNotM (tOfE (eF f__law_is_word (aCons (eVar 1) (aNil))))) (me := eVar 1) (G := [some e, none]) (S := S) (e := e) (es := es) (p := fun d => !isW d) (f := fun d => d) rfl he (by omega) (fun d hd => ⟨[some e, some d], rfl, by simp only [sSeq, sAsg, sb, sIf, sRet, sNext, sPar, sExpr, sRaise, tOrM, tAndM, tNotM, tOfE, tYes, eF, eN, Kx.e1, Kx.e2, eIf, eAnd, eOr, eNot, Kx.eC, eVar, aCons, aNil, eChain, opt, Res.bind, gN, gTp, gCo, gNo, Option.bind, iVal, itemsD, eSl, oSome, oNone, eS1, eL1, fnRes, List.getElem?_cons_zero, List.getElem?_cons_succ, List.set_cons_zero, List.set_cons_succ, if_true, Bool.false_eq_true, if_false, Bool.not_true, Bool.not_false, lw (hi d hd)], fun _ => rfl⟩)
      rw [this, List.map_id']
    have nx := nilX (S := S) (plDs_filter (p := fun d => !isW d) (items_pl hi).1) (Nat.le_trans (dpDs_le fun d hd => (pdI (hi d ((List.mem_filter.mp hd).1))).2.1) (by decide : 1 ≤ 10))
    rw [filt_empty] at nx
    have e1 : s__law_are_answers_1 [some e, none] S = if es.all isW then .nx [some e, none] S else .rt (.bl false) S := by
      have sm0 : small [] = true := by decide
      simp only [s__law_are_answers_1, eLst, sSeq, sAsg, sb, sIf, sRet, sNext, sPar, sExpr, sRaise, tOrM, tAndM, tNotM, tOfE, tYes, eF, eN, Kx.e1, Kx.e2, eIf, eAnd, eOr, eNot, Kx.eC, eVar, aCons, aNil, eChain, opt, Res.bind, gN, gTp, gCo, gNo, Option.bind, iVal, itemsD, eSl, oSome, oNone, eS1, eL1, fnRes, List.getElem?_cons_zero, List.getElem?_cons_succ, List.set_cons_zero, List.set_cons_succ, if_true, Bool.false_eq_true, if_false, Bool.not_true, Bool.not_false, lc, sm0, nx]
      cases es.all isW <;> simp
    cases hw : es.all isW with
    | false =>
      rw [hw] at e1
      rw [seq_rt e1, Bool.false_and]
      rfl
    | true =>
      rw [hw] at e1
      have ls := lenSet_ok he hw l3
      have e2 : s__law_are_answers_2 [some e, none] S = .rt (.bl (decide ((dedW (wsOf es)).length = es.length))) S := by
        have c : decide ((((dedW (wsOf es)).length : Nat) : Int) = ((es.length : Nat) : Int)) = decide ((dedW (wsOf es)).length = es.length) := by congr 1; rw [eq_iff_iff]; omega
        simp only [s__law_are_answers_2, sSeq, sAsg, sb, sIf, sRet, sNext, sPar, sExpr, sRaise, tOrM, tAndM, tNotM, tOfE, tYes, eF, eN, Kx.e1, Kx.e2, eIf, eAnd, eOr, eNot, Kx.eC, eVar, aCons, aNil, eChain, opt, Res.bind, gN, gTp, gCo, gNo, Option.bind, iVal, itemsD, eSl, oSome, oNone, eS1, eL1, fnRes, List.getElem?_cons_zero, List.getElem?_cons_succ, List.set_cons_zero, List.set_cons_succ, if_true, Bool.false_eq_true, if_false, Bool.not_true, Bool.not_false, ls, he.len, eqX_int, c]
      rw [seq_nx e1, e2, Bool.true_and]
      rfl
def ND : List D := [.non, .int 5, .str "no", .dic [] [], .str "ok", .bl true]
theorem ans_no {S : Store} {e : D} (h : e ∈ ND) : f__law_are_answers [e] S = .ok (.bl false) S ∧ isiD T [e, .tup [.ty "list", .ty "tuple"]] S = some (.bl false) ∧ ∃ t, showX [e] S = some (.str t) := by
  simp only [ND, List.mem_cons, List.not_mem_nil, or_false] at h
  rcases h with rfl | rfl | rfl | rfl | rfl | rfl
  · exact ⟨by kernel_rfl, by kernel_rfl, _, rfl⟩
  · exact ⟨by kernel_rfl, by kernel_rfl, "5", by kernel_rfl⟩
  · exact ⟨by kernel_rfl, by kernel_rfl, "'no'", by kernel_rfl⟩
  · exact ⟨by kernel_rfl, by kernel_rfl, "{}", by kernel_rfl⟩
  · exact ⟨by kernel_rfl, by kernel_rfl, "'ok'", by kernel_rfl⟩
  · exact ⟨by kernel_rfl, by kernel_rfl, _, rfl⟩
/-- shown the same as long as its cell stands -/
theorem show_seq {S : Store} {e : D} {es : List D} (h : SeqP S e es) (hi : Items es) (hl : es.length ≤ 8) : ∃ t, ∀ S' : Store, SeqP S' e es → showX [e] S' = some (.str t) := by
  obtain ⟨p1, p2, p3⟩ := items_pl hi
  have sh : ∀ d : D, (d = .tup es ∨ d = .lst es) → ∃ t, ∀ S', showD [d] S' = some (.str t) := fun d hd => by
    obtain ⟨t, ht⟩ := show_ok (S := []) (d := d) (by rcases hd with rfl | rfl <;> simpa only [plD] using p1) (by rcases hd with rfl | rfl <;> rfl) (by rcases hd with rfl | rfl <;> (simp only [dpD]; omega)) (by rcases hd with rfl | rfl <;> (simp only [wtD]; omega))
    exact ⟨t, fun S' => ht⟩
  rcases h with rfl | rfl | ⟨n, rfl, hn⟩
  · obtain ⟨t, ht⟩ := sh (.tup es) (.inl rfl)
    refine ⟨t, fun S' _ => ?_⟩
    show (match showD [.tup es] S' with | some z => some z | none => none) = _
    rw [ht S']
  · obtain ⟨t, ht⟩ := sh (.lst es) (.inr rfl)
    refine ⟨t, fun S' _ => ?_⟩
    show (match showD [.lst es] S' with | some z => some z | none => none) = _
    rw [ht S']
  · obtain ⟨t, ht⟩ := sh (.lst es) (.inr rfl)
    refine ⟨t, fun S' h' => ?_⟩
    rcases h' with h' | h' | ⟨m, h', hm⟩
    · cases h'
    · cases h'
    · cases h'
      have v : viewD S' (.loc n) = .lst es := by
        show (match S'[n]? with | some (.lst ds) => D.lst ds | _ => .loc n) = _
        rw [hm]
      show (match showD [viewD S' (.loc n)] S' with | some z => some z | none => none) = _
      rw [v, ht S']
theorem ne_str (t : Str) (S : Store) : neW T (tabF T) (.str t) (.str t) S = .ok (.bl false) S := by
  show opt (notOf eqX (.str t) (.str t) S) S = _
  have : eqX (.str t) (.str t) S = some (.bl true) := by
    have : eqD (.str t) (.str t) S = some (.bl true) := by simp [eqD]
    unfold eqX
    rw [this]
  unfold notOf
  rw [this]
  rfl
theorem tf : TFor2 T := ⟨⟨by decide +kernel, by decide +kernel, by decide +kernel, by decide +kernel, by decide +kernel⟩, by decide +kernel, fun n => by
  have : (T.bas.lookup ("Foreign" : Str)) = none := by decide +kernel
  unfold ITab.isBas
  rw [this]
  rfl⟩
theorem err_n {S : Store} : Sh.f__law_error_word T [.exc "BadScreen" ["place"] [.str "name"]] S = .ok (.tup [.str "screen", .str "name"]) S := by kernel_rfl
theorem err_a {S : Store} : Sh.f__law_error_word T [.exc "BadScreen" ["place"] [.str "answers"]] S = .ok (.tup [.str "screen", .str "answers"]) S := by kernel_rfl
/-! ### rows -/
def MS6 : List Str := ["no", "ok", "x", "abcdefgh", "a", "z"]
def ansS (ys : List Str) : Bool := decide (1 ≤ ys.length) && (decide (ys.length ≤ 3) && (ys.all isWs && decide ((dedW ys).length = ys.length)))
theorem ws_map (xs : List Str) : wsOf (xs.map .str) = xs := by
  have : ∀ xs : List Str, strsD (xs.map .str) = some xs := by
    intro xs
    induction xs with
    | nil => rfl
    | cons x xs ih => simp only [List.map_cons, strsD, ih, Option.map_some]
  unfold wsOf
  rw [this]
  rfl
theorem ansS_map (xs : List Str) : ansOk (xs.map .str) = ansS xs := by
  unfold ansOk ansS
  rw [List.length_map, ws_map, List.all_map]
  rfl
def chk (xs : List Str) : Bool := !ansS xs || (ansS (sortW xs) && (decide (sortW (sortW xs) = sortW xs) && (ansS (sortW xs).reverse && (decide (sortW (sortW xs).reverse = sortW xs) && (ansS ((sortW xs).take 1) && (decide (sortW ((sortW xs).take 1) = (sortW xs).take 1) && (decide (sortW xs = (sortW xs).take 1) == decide ((sortW xs).length = 1))))))))
theorem chk1 : (MS6.all fun a => chk [a]) = true := by decide +kernel
theorem chk2 : (MS6.all fun a => MS6.all fun b => chk [a, b]) = true := by decide +kernel
theorem chk3 : (MS6.all fun a => MS6.all fun b => MS6.all fun c => chk [a, b, c]) = true := by decide +kernel
theorem chk_ok {xs : List Str} (h : ∀ x ∈ xs, x ∈ MS6) (hl : xs.length ≤ 3) : chk xs = true := by
  match xs, hl with
  | [], _ => rfl
  | [a], _ => exact List.all_eq_true.mp chk1 a (h a (by simp))
  | [a, b], _ => exact List.all_eq_true.mp (List.all_eq_true.mp chk2 a (h a (by simp))) b (h b (by simp))
  | [a, b, c], _ => exact List.all_eq_true.mp (List.all_eq_true.mp (List.all_eq_true.mp chk3 a (h a (by simp))) b (h b (by simp))) c (h c (by simp))
structure RowOk (xs : List Str) : Prop where
  a : ansS xs = true
  b : ansS (sortW xs) = true
  c : sortW (sortW xs) = sortW xs
  d : ansS (sortW xs).reverse = true
  e : sortW (sortW xs).reverse = sortW xs
  f : ansS ((sortW xs).take 1) = true
  g : sortW ((sortW xs).take 1) = (sortW xs).take 1
  h : decide (sortW xs = (sortW xs).take 1) = decide ((sortW xs).length = 1)
theorem od_no : (OD.all fun d => !isW d) = true := by decide +kernel
theorem row_ok {es : List D} (hi : Items es) (h : ansOk es = true) : ∃ xs : List Str, es = xs.map .str ∧ RowOk xs := by
  have h0 := h
  unfold ansOk at h0
  obtain ⟨_, h0⟩ := b2 h0
  obtain ⟨l3, h0⟩ := b2 h0
  obtain ⟨hw, _⟩ := b2 h0
  obtain ⟨xs, e1, e2, e3⟩ := strs_of hw
  subst e1
  rw [ansS_map] at h
  have hm : ∀ x ∈ xs, x ∈ MS6 := fun x hx => by
    have hd : D.str x ∈ xs.map D.str := List.mem_map.mpr ⟨x, hx, rfl⟩
    rcases hi _ hd with q | q
    · simp only [MD, List.mem_cons, List.not_mem_nil, or_false, D.str.injEq] at q
      simp only [MS6, List.mem_cons, List.not_mem_nil, or_false]
      exact q
    · have := List.all_eq_true.mp od_no _ q
      rw [show isW (.str x) = true from e3 x hx] at this
      cases this
  have c := chk_ok hm (by simpa using of_decide_eq_true l3)
  unfold chk at c
  rw [h] at c
  simp only [Bool.not_true, Bool.false_or, Bool.and_eq_true, decide_eq_true_eq, beq_iff_eq] at c
  obtain ⟨c1, c2, c3, c4, c5, c6, c7⟩ := c
  exact ⟨xs, rfl, h, c1, c2, c3, c4, c5, c6, c7⟩
end k03
end Kx

set_option Elab.async false
set_option linter.all false
set_option maxRecDepth 100000
set_option autoImplicit false
set_option maxHeartbeats 0
namespace Kx
namespace k03
open PySem PySem.Spec L2
def G13 (a0 a1 a2 a3 a4 a5 a6 a7 a8 a9 a10 a11 a12 : Option D) : En := [a0, a1, a2, a3, a4, a5, a6, a7, a8, a9, a10, a11, a12]
def dueD (p : Str) : D := .lst [.tup [.str "screen", .str p]]
def errD (p : Str) : D := .tup [.str "screen", .str p]
section
variable {S : Store} {n b : Nat} {a0 a1 a3 a6 a7 a8 a9 a10 a11 a12 : Option D} {w e : D}
theorem told_exc {m : ME} {G : En} {S1 : Store} {p : Str} (h : m G S = .exc "BadScreen" ["place"] [.str p] S1) (hp : p = "name" ∨ p = "answers") : eTold T (Sh.f__law_error_word T) m G S = .ok (errD p) S1 := by
  unfold eTold
  rw [h]
  dsimp only
  rw [tf.ex, if_pos rfl]
  rcases hp with rfl | rfl
  · rw [err_n]; rfl
  · rw [err_a]; rfl
theorem due_ne {p : Str} (hp : p = "name" ∨ p = "answers") (S : Store) : neW T (tabF T) (dueD p) (.lst []) S = .ok (.bl true) S ∧ eqW T (tabF T) (dueD p) (.lst []) S = .ok (.bl false) S ∧ neW T (tabF T) (errD p) (errD p) S = .ok (.bl false) S := by
  rcases hp with rfl | rfl
  · exact ⟨by kernel_rfl, by kernel_rfl, by kernel_rfl⟩
  · exact ⟨by kernel_rfl, by kernel_rfl, by kernel_rfl⟩
theorem nil_eq (S : Store) : neW T (tabF T) (.lst []) (.lst []) S = .ok (.bl false) S ∧ eqW T (tabF T) (.lst []) (.lst []) S = .ok (.bl true) S := ⟨by kernel_rfl, by kernel_rfl⟩
/-- what is refused: the rest of a turn -/
theorem bad_rest {t p : Str} {a2 : Option D} (hp : p = "name" ∨ p = "answers") (hs : showX [e] S = some (.str t)) :
    (sSeq s_law_0_1_5 s_law_0_1_6) (G13 a0 a1 a2 a3 (some w) (some e) (some (.str t)) (some (errD p)) (some (dueD p)) a9 a10 a11 a12) S = .nx (G13 a0 a1 a2 a3 (some w) (some e) (some (.str t)) (some (errD p)) (some (dueD p)) a9 a10 a11 a12) S := by
  obtain ⟨d1, d2, d3⟩ := due_ne hp S
  have ix : idxD (dueD p) (.int 0) S = some (errD p) := idx0
  have sm0 : small [] = true := by decide
  have st := ne_str t S
  have e5 : s_law_0_1_5 (G13 a0 a1 a2 a3 (some w) (some e) (some (.str t)) (some (errD p)) (some (dueD p)) a9 a10 a11 a12) S = .nx (G13 a0 a1 a2 a3 (some w) (some e) (some (.str t)) (some (errD p)) (some (dueD p)) a9 a10 a11 a12) S := by
    simp only [s_law_0_1_5, G13, eR, eLst, sSeq, sAsg, sb, sIf, sRet, sNext, sPar, sExpr, sRaise, tOrM, tAndM, tNotM, tOfE, tYes, eF, eN, Kx.e1, Kx.e2, eIf, eAnd, eOr, eNot, Kx.eC, eVar, aCons, aNil, eChain, opt, Res.bind, gN, gTp, gCo, gNo, Option.bind, iVal, itemsD, eSl, oSome, oNone, eS1, eL1, fnRes, List.getElem?_cons_zero, List.getElem?_cons_succ, List.set_cons_zero, List.set_cons_succ, if_true, Bool.false_eq_true, if_false, Bool.not_true, Bool.not_false, sm0, d1, d2, ix, d3, hs, st]
  have e6 : s_law_0_1_6 (G13 a0 a1 a2 a3 (some w) (some e) (some (.str t)) (some (errD p)) (some (dueD p)) a9 a10 a11 a12) S = .nx (G13 a0 a1 a2 a3 (some w) (some e) (some (.str t)) (some (errD p)) (some (dueD p)) a9 a10 a11 a12) S := by
    simp only [s_law_0_1_6, G13, eR, eLst, sSeq, sAsg, sb, sIf, sRet, sNext, sPar, sExpr, sRaise, tOrM, tAndM, tNotM, tOfE, tYes, eF, eN, Kx.e1, Kx.e2, eIf, eAnd, eOr, eNot, Kx.eC, eVar, aCons, aNil, eChain, opt, Res.bind, gN, gTp, gCo, gNo, Option.bind, iVal, itemsD, eSl, oSome, oNone, eS1, eL1, fnRes, List.getElem?_cons_zero, List.getElem?_cons_succ, List.set_cons_zero, List.set_cons_succ, if_true, Bool.false_eq_true, if_false, Bool.not_true, Bool.not_false, sm0, d2]
  rw [seq_nx e5, e6]
/-- a name that is none -/
theorem bad_name {t : Str} {S1 : Store} {a2 : Option D} (hw : w ∈ WD) (hn : isW w = false)
    (mk : (eMk "Foreign" 2 2 0 (Sh.f_Foreign___init__ T) gFst (aCons (eVar 4) (aCons (eVar 5) (aNil))) aNil) (G13 a0 a1 a2 a3 (some w) (some e) a6 a7 a8 a9 a10 a11 a12) S = .exc "BadScreen" ["place"] [.str "name"] S1) (hs : showX [e] S = some (.str t)) (hs1 : showX [e] S1 = some (.str t)) :
    (sSeq s_law_0_1_2 (sSeq s_law_0_1_3 (sSeq s_law_0_1_4 (sSeq s_law_0_1_5 s_law_0_1_6)))) (G13 a0 a1 a2 a3 (some w) (some e) a6 a7 a8 a9 a10 a11 a12) S = .nx (G13 a0 a1 a2 a3 (some w) (some e) (some (.str t)) (some (errD "name")) (some (dueD "name")) a9 a10 a11 a12) S1 := by
  have tl := told_exc (p := "name") mk (.inl rfl)
  have e2 : s_law_0_1_2 (G13 a0 a1 a2 a3 (some w) (some e) a6 a7 a8 a9 a10 a11 a12) S = .nx (G13 a0 a1 a2 a3 (some w) (some e) (some (.str t)) (some (errD "name")) a8 a9 a10 a11 a12) S1 := by
    have h5 : (eN showX (aCons (eVar 5) aNil)) (G13 a0 a1 a2 a3 (some w) (some e) a6 a7 a8 a9 a10 a11 a12) S = .ok (.str t) S := by simp only [G13, sSeq, sAsg, sb, sIf, sRet, sNext, sPar, sExpr, sRaise, tOrM, tAndM, tNotM, tOfE, tYes, eF, eN, Kx.e1, Kx.e2, eIf, eAnd, eOr, eNot, Kx.eC, eVar, aCons, aNil, eChain, opt, Res.bind, gN, gTp, gCo, gNo, Option.bind, iVal, itemsD, eSl, oSome, oNone, eS1, eL1, fnRes, List.getElem?_cons_zero, List.getElem?_cons_succ, List.set_cons_zero, List.set_cons_succ, if_true, Bool.false_eq_true, if_false, Bool.not_true, Bool.not_false, hs]
    unfold s_law_0_1_2
    rw [par_ok h5 tl]
    rfl
  have q := lwW hw S1
  rw [hn] at q
  have sm1 : small [D.str "screen", D.str "name"] = true := rfl
  have sm2 : small [D.tup [.str "screen", .str "name"]] = true := rfl
  have e3 : s_law_0_1_3 (G13 a0 a1 a2 a3 (some w) (some e) (some (.str t)) (some (errD "name")) a8 a9 a10 a11 a12) S1 = .nx (G13 a0 a1 a2 a3 (some w) (some e) (some (.str t)) (some (errD "name")) (some (dueD "name")) a9 a10 a11 a12) S1 := by
    simp only [s_law_0_1_3, G13, eLst, eTup, sSeq, sAsg, sb, sIf, sRet, sNext, sPar, sExpr, sRaise, tOrM, tAndM, tNotM, tOfE, tYes, eF, eN, Kx.e1, Kx.e2, eIf, eAnd, eOr, eNot, Kx.eC, eVar, aCons, aNil, eChain, opt, Res.bind, gN, gTp, gCo, gNo, Option.bind, iVal, itemsD, eSl, oSome, oNone, eS1, eL1, fnRes, List.getElem?_cons_zero, List.getElem?_cons_succ, List.set_cons_zero, List.set_cons_succ, if_true, Bool.false_eq_true, if_false, Bool.not_true, Bool.not_false, q, sm1, sm2]
    rfl
  obtain ⟨d1, d2, d3⟩ := due_ne (p := "name") (.inl rfl) S1
  have sm0 : small [] = true := by decide
  have e4 : s_law_0_1_4 (G13 a0 a1 a2 a3 (some w) (some e) (some (.str t)) (some (errD "name")) (some (dueD "name")) a9 a10 a11 a12) S1 = .nx (G13 a0 a1 a2 a3 (some w) (some e) (some (.str t)) (some (errD "name")) (some (dueD "name")) a9 a10 a11 a12) S1 := by
    simp only [s_law_0_1_4, G13, eR, eLst, sSeq, sAsg, sb, sIf, sRet, sNext, sPar, sExpr, sRaise, tOrM, tAndM, tNotM, tOfE, tYes, eF, eN, Kx.e1, Kx.e2, eIf, eAnd, eOr, eNot, Kx.eC, eVar, aCons, aNil, eChain, opt, Res.bind, gN, gTp, gCo, gNo, Option.bind, iVal, itemsD, eSl, oSome, oNone, eS1, eL1, fnRes, List.getElem?_cons_zero, List.getElem?_cons_succ, List.set_cons_zero, List.set_cons_succ, if_true, Bool.false_eq_true, if_false, Bool.not_true, Bool.not_false, sm0, d2]
  rw [seq_nx e2, seq_nx e3, seq_nx e4, bad_rest (.inl rfl) hs1]
/-- answers that are none -/
theorem bad_ans {t : Str} {S1 : Store} {a2 : Option D} (hw : w ∈ WD) (hn : isW w = true) (an : f__law_are_answers [e] S1 = .ok (.bl false) S1)
    (mk : (eMk "Foreign" 2 2 0 (Sh.f_Foreign___init__ T) gFst (aCons (eVar 4) (aCons (eVar 5) (aNil))) aNil) (G13 a0 a1 a2 a3 (some w) (some e) a6 a7 a8 a9 a10 a11 a12) S = .exc "BadScreen" ["place"] [.str "answers"] S1) (hs : showX [e] S = some (.str t)) (hs1 : showX [e] S1 = some (.str t)) :
    (sSeq s_law_0_1_2 (sSeq s_law_0_1_3 (sSeq s_law_0_1_4 (sSeq s_law_0_1_5 s_law_0_1_6)))) (G13 a0 a1 a2 a3 (some w) (some e) a6 a7 a8 a9 a10 a11 a12) S = .nx (G13 a0 a1 a2 a3 (some w) (some e) (some (.str t)) (some (errD "answers")) (some (dueD "answers")) a9 a10 a11 a12) S1 := by
  have tl := told_exc (p := "answers") mk (.inr rfl)
  have e2 : s_law_0_1_2 (G13 a0 a1 a2 a3 (some w) (some e) a6 a7 a8 a9 a10 a11 a12) S = .nx (G13 a0 a1 a2 a3 (some w) (some e) (some (.str t)) (some (errD "answers")) a8 a9 a10 a11 a12) S1 := by
    have h5 : (eN showX (aCons (eVar 5) aNil)) (G13 a0 a1 a2 a3 (some w) (some e) a6 a7 a8 a9 a10 a11 a12) S = .ok (.str t) S := by simp only [G13, sSeq, sAsg, sb, sIf, sRet, sNext, sPar, sExpr, sRaise, tOrM, tAndM, tNotM, tOfE, tYes, eF, eN, Kx.e1, Kx.e2, eIf, eAnd, eOr, eNot, Kx.eC, eVar, aCons, aNil, eChain, opt, Res.bind, gN, gTp, gCo, gNo, Option.bind, iVal, itemsD, eSl, oSome, oNone, eS1, eL1, fnRes, List.getElem?_cons_zero, List.getElem?_cons_succ, List.set_cons_zero, List.set_cons_succ, if_true, Bool.false_eq_true, if_false, Bool.not_true, Bool.not_false, hs]
    unfold s_law_0_1_2
    rw [par_ok h5 tl]
    rfl
  have q := lwW hw S1
  rw [hn] at q
  have sm0 : small [] = true := by decide
  have e3 : s_law_0_1_3 (G13 a0 a1 a2 a3 (some w) (some e) (some (.str t)) (some (errD "answers")) a8 a9 a10 a11 a12) S1 = .nx (G13 a0 a1 a2 a3 (some w) (some e) (some (.str t)) (some (errD "answers")) (some (.lst [])) a9 a10 a11 a12) S1 := by
    simp only [s_law_0_1_3, G13, eLst, sSeq, sAsg, sb, sIf, sRet, sNext, sPar, sExpr, sRaise, tOrM, tAndM, tNotM, tOfE, tYes, eF, eN, Kx.e1, Kx.e2, eIf, eAnd, eOr, eNot, Kx.eC, eVar, aCons, aNil, eChain, opt, Res.bind, gN, gTp, gCo, gNo, Option.bind, iVal, itemsD, eSl, oSome, oNone, eS1, eL1, fnRes, List.getElem?_cons_zero, List.getElem?_cons_succ, List.set_cons_zero, List.set_cons_succ, if_true, Bool.false_eq_true, if_false, Bool.not_true, Bool.not_false, q, sm0]
  obtain ⟨n1, n2⟩ := nil_eq S1
  have sm1 : small [D.str "screen", D.str "answers"] = true := rfl
  have sm2 : small [D.tup [.str "screen", .str "answers"]] = true := rfl
  have e4 : s_law_0_1_4 (G13 a0 a1 a2 a3 (some w) (some e) (some (.str t)) (some (errD "answers")) (some (.lst [])) a9 a10 a11 a12) S1 = .nx (G13 a0 a1 a2 a3 (some w) (some e) (some (.str t)) (some (errD "answers")) (some (dueD "answers")) a9 a10 a11 a12) S1 := by
    simp only [s_law_0_1_4, s_law_0_1_4_t_0, G13, eR, eLst, eTup, sSeq, sAsg, sb, sIf, sRet, sNext, sPar, sExpr, sRaise, tOrM, tAndM, tNotM, tOfE, tYes, eF, eN, Kx.e1, Kx.e2, eIf, eAnd, eOr, eNot, Kx.eC, eVar, aCons, aNil, eChain, opt, Res.bind, gN, gTp, gCo, gNo, Option.bind, iVal, itemsD, eSl, oSome, oNone, eS1, eL1, fnRes, List.getElem?_cons_zero, List.getElem?_cons_succ, List.set_cons_zero, List.set_cons_succ, if_true, Bool.false_eq_true, if_false, Bool.not_true, Bool.not_false, sm0, sm1, sm2, n2, an]
    rfl
  rw [seq_nx e2, seq_nx e3, seq_nx e4, bad_rest (.inr rfl) hs1]
end
end k03
end Kx

set_option Elab.async false
set_option linter.all false
set_option maxRecDepth 100000
set_option autoImplicit false
set_option maxHeartbeats 0
namespace Kx
namespace k03
open PySem PySem.Spec L2
def rD (xs : List Str) : List D := (sortW xs).map .str
theorem rowOf_map (xs : List Str) : rowOf (xs.map .str) = rD xs := by unfold rowOf rD; rw [ws_map]
theorem all_map_w {xs : List Str} (h : ∀ x ∈ xs, isWs x = true) : (xs.map D.str).all isW = true := by
  rw [List.all_map, List.all_eq_true]
  exact h
theorem ansS_ws {xs : List Str} (h : ansS xs = true) : ∀ x ∈ xs, isWs x = true := by
  unfold ansS at h
  obtain ⟨_, h⟩ := b2 h
  obtain ⟨_, h⟩ := b2 h
  exact List.all_eq_true.mp (b2 h).1
theorem ansS_len {xs : List Str} (h : ansS xs = true) : 1 ≤ xs.length ∧ xs.length ≤ 3 := by
  unfold ansS at h
  obtain ⟨h1, h⟩ := b2 h
  exact ⟨of_decide_eq_true h1, of_decide_eq_true (b2 h).1⟩
theorem pl_map {xs : List Str} (h : ∀ x ∈ xs, isWs x = true) : ∀ d ∈ xs.map D.str, plV d = true := fun d hd => by
  obtain ⟨x, hx, rfl⟩ := List.mem_map.mp hd
  have := (b2 (b2 (h x hx)).2).1
  have l8 := of_decide_eq_true this
  simp only [plV, decide_eq_true_eq, sizeLine_eq]
  omega
theorem bl_ne (x : Bool) (S : Store) : neW T (tabF T) (.bl x) (.bl x) S = .ok (.bl false) S := by cases x <;> kernel_rfl
section
variable {S : Store} {n b : Nat} {a0 a1 a3 a6 a7 a8 a9 a10 a11 a12 : Option D} {e : D} {a : Str} {xs : List Str}
theorem mk_ok {mA : MA} {G : En} {S1 : Store} {ys : List Str} (ha : isWs a = true) (hA : mA G S = .ok [.str a, .tup (ys.map .str)] S1) (hy : ansS ys = true) : eMk "Foreign" 2 2 0 (Sh.f_Foreign___init__ T) gFst mA aNil G S = .ok (forD (.str a) (ys.map .str)) (S1 ++ [Cell.dead]) := by
  have l8 := of_decide_eq_true (b2 (b2 ha).2).1
  rw [mk_foreign tf.toTFor hA (by simp only [plV, decide_eq_true_eq, sizeLine_eq]; omega) (.inl rfl) (pl_map (ansS_ws hy))]
  unfold forR
  rw [ansS_map, hy, show isW (.str a) = true from ha]
  rfl
/-- equality with what is drawn -/
theorem odd_eq {o : D} (ha : isWs a = true) (hne : a ≠ "other") (ro : RowOk xs) (ho : o ∈ [D.non, .str a, .tup (rD xs), .tup [.str a, .tup (rD xs)], .int 5, .lst [], forD (.str "other") (rD xs)]) (S : Store) :
    eqW T (tabF T) (forD (.str a) (xs.map .str)) o S = .ok (.bl false) S ∧ eqW T (tabF T) o (forD (.str a) (xs.map .str)) S = .ok (.bl false) S ∧ neW T (tabF T) (forD (.str a) (xs.map .str)) o S = .ok (.bl true) S := by
  have l8 := of_decide_eq_true (b2 (b2 ha).2).1
  have pa : plV (.str a) = true := by simp only [plV, decide_eq_true_eq, sizeLine_eq]; omega
  have pl : ∀ d : D, plV d = true → (∃ n, tagD S d = some (.ty n) ∧ valTys.contains n = true) → (∃ n, leftTy d = some n) → eqW T (tabF T) (forD (.str a) (xs.map .str)) d S = .ok (.bl false) S ∧ eqW T (tabF T) d (forD (.str a) (xs.map .str)) S = .ok (.bl false) S ∧ neW T (tabF T) (forD (.str a) (xs.map .str)) d S = .ok (.bl true) S := fun d h1 h2 h3 =>
    ⟨(eqW_lp tf h1 h2).1, eqW_pr tf h1 h3, (eqW_lp tf h1 h2).2⟩
  simp only [List.mem_cons, List.not_mem_nil, or_false] at ho
  rcases ho with rfl | rfl | rfl | rfl | rfl | rfl | rfl
  · exact pl _ rfl ⟨_, rfl, by decide⟩ ⟨_, rfl⟩
  · exact pl _ pa ⟨_, rfl, by decide⟩ ⟨_, rfl⟩
  · exact pl _ rfl ⟨_, rfl, by decide⟩ ⟨_, rfl⟩
  · exact pl _ rfl ⟨_, rfl, by decide⟩ ⟨_, rfl⟩
  · exact pl _ rfl ⟨_, rfl, by decide⟩ ⟨_, rfl⟩
  · exact pl _ rfl ⟨_, rfl, by decide⟩ ⟨_, rfl⟩
  · have wo : isWs "other" = true := by decide +kernel
    have w1 := all_map_w (ansS_ws ro.a)
    have w2 : (rD xs).all isW = true := all_map_w (ansS_ws ro.b)
    have f1 := eqW_ff (S := S) tf ha wo w1 w2
    have f2 := eqW_ff (S := S) tf wo ha w2 w1
    rw [decide_eq_false hne, Bool.false_and] at f1
    rw [decide_eq_false (Ne.symm hne), Bool.false_and] at f2
    exact ⟨f1.1, f2.1, f1.2⟩
theorem good_rest {t : Str} (hw : isWs a = true) (hne : a ≠ "other") (he : SeqP S e (xs.map .str)) (hk : ∀ k, e = .loc k → k ≠ n) (hl : ∀ l, e ≠ .lst l) (ro : RowOk xs) (dr : DrOk S n b) (hb : b < 1000) (hs : showX [e] S = some (.str t)) :
    ∃ b9 b10 b11 S', (sSeq s_law_0_1_5 s_law_0_1_6) (G13 a0 a1 (some (.loc n)) a3 (some (.str a)) (some e) (some (.str t)) (some (.lst [forD (.str a) (xs.map .str)])) (some (.lst [])) a9 a10 a11 a12) S =
      .nx (G13 a0 a1 (some (.loc n)) a3 (some (.str a)) (some e) (some (.str t)) (some (.lst [forD (.str a) (xs.map .str)])) (some (.lst [])) b9 b10 b11 a12) S' ∧ DrOk S' n (b + 1) := by
  obtain ⟨n1, n2⟩ := nil_eq S
  have sm0 : small [] = true := by decide
  have st := ne_str t S
  have il : isiD T [.lst [forD (.str a) (xs.map .str)], .ty "list"] S = some (.bl true) := rfl
  have e5 : s_law_0_1_5 (G13 a0 a1 (some (.loc n)) a3 (some (.str a)) (some e) (some (.str t)) (some (.lst [forD (.str a) (xs.map .str)])) (some (.lst [])) a9 a10 a11 a12) S = .nx (G13 a0 a1 (some (.loc n)) a3 (some (.str a)) (some e) (some (.str t)) (some (.lst [forD (.str a) (xs.map .str)])) (some (.lst [])) a9 a10 a11 a12) S := by
    simp only [s_law_0_1_5, G13, eR, eLst, sSeq, sAsg, sb, sIf, sRet, sNext, sPar, sExpr, sRaise, tOrM, tAndM, tNotM, tOfE, tYes, eF, eN, Kx.e1, Kx.e2, eIf, eAnd, eOr, eNot, Kx.eC, eVar, aCons, aNil, eChain, opt, Res.bind, gN, gTp, gCo, gNo, Option.bind, iVal, itemsD, eSl, oSome, oNone, eS1, eL1, fnRes, List.getElem?_cons_zero, List.getElem?_cons_succ, List.set_cons_zero, List.set_cons_succ, if_true, Bool.false_eq_true, if_false, Bool.not_true, Bool.not_false, sm0, n1, n2, il, hs, st]
  rw [seq_nx e5]
  have wx := ansS_ws ro.a
  have w1 := all_map_w wx
  -- t_0
  have so := sort_ok he.v w1 (by rw [List.length_map]; exact (ansS_len ro.a).2)
  rw [rowOf_map] at so
  have ix : idxD (.lst [forD (.str a) (xs.map .str)]) (.int 0) S = some (forD (.str a) (xs.map .str)) := idx0
  have tp : tupX [.lst (rD xs)] S = some (.tup (rD xs)) := rfl
  have t0 : s_law_0_1_6_t_0 (G13 a0 a1 (some (.loc n)) a3 (some (.str a)) (some e) (some (.str t)) (some (.lst [forD (.str a) (xs.map .str)])) (some (.lst [])) a9 a10 a11 a12) S = .nx (G13 a0 a1 (some (.loc n)) a3 (some (.str a)) (some e) (some (.str t)) (some (.lst [forD (.str a) (xs.map .str)])) (some (.lst [])) (some (forD (.str a) (xs.map .str))) (some (.tup (rD xs))) a11 a12) S := by
    simp only [s_law_0_1_6_t_0, G13, sSeq, sAsg, sb, sIf, sRet, sNext, sPar, sExpr, sRaise, tOrM, tAndM, tNotM, tOfE, tYes, eF, eN, Kx.e1, Kx.e2, eIf, eAnd, eOr, eNot, Kx.eC, eVar, aCons, aNil, eChain, opt, Res.bind, gN, gTp, gCo, gNo, Option.bind, iVal, itemsD, eSl, oSome, oNone, eS1, eL1, fnRes, List.getElem?_cons_zero, List.getElem?_cons_succ, List.set_cons_zero, List.set_cons_succ, if_true, Bool.false_eq_true, if_false, Bool.not_true, Bool.not_false, ix, so, tp]
  -- t_1
  have t1 : ∃ S1, s_law_0_1_6_t_1 (G13 a0 a1 (some (.loc n)) a3 (some (.str a)) (some e) (some (.str t)) (some (.lst [forD (.str a) (xs.map .str)])) (some (.lst [])) (some (forD (.str a) (xs.map .str))) (some (.tup (rD xs))) a11 a12) S = .nx (G13 a0 a1 (some (.loc n)) a3 (some (.str a)) (some e) (some (.str t)) (some (.lst [forD (.str a) (xs.map .str)])) (some (.lst [])) (some (forD (.str a) (xs.map .str))) (some (.tup (rD xs))) a11 a12) S1 ∧ DrOk S1 n b := by
    rcases he with rfl | rfl | ⟨k, rfl, hc⟩
    · refine ⟨S, ?_, dr⟩
      have : isiD T [.tup (xs.map D.str), .ty "list"] S = some (.bl false) := rfl
      simp only [s_law_0_1_6_t_1, G13, sSeq, sAsg, sb, sIf, sRet, sNext, sPar, sExpr, sRaise, tOrM, tAndM, tNotM, tOfE, tYes, eF, eN, Kx.e1, Kx.e2, eIf, eAnd, eOr, eNot, Kx.eC, eVar, aCons, aNil, eChain, opt, Res.bind, gN, gTp, gCo, gNo, Option.bind, iVal, itemsD, eSl, oSome, oNone, eS1, eL1, fnRes, List.getElem?_cons_zero, List.getElem?_cons_succ, List.set_cons_zero, List.set_cons_succ, if_true, Bool.false_eq_true, if_false, Bool.not_true, Bool.not_false, this]
    · exact absurd rfl (hl _)
    · refine ⟨S.set k (.lst (xs.map .str ++ [.non])), ?_, dr.other (hk k rfl)⟩
      have i1 : isiD T [.loc k, .ty "list"] S = some (.bl true) := by
        have a1 : askOk T S (.loc k) = true := by
          show (match S[k]? with | some (.ins c _ _) => T.ins.contains c | _ => true) = true
          rw [hc]
        have a2 : tagD S (.loc k) = some (.ty "list") := by
          show (S[k]?).bind tagC = _
          rw [hc]; rfl
        show (if askOk T S (.loc k) then match tagD S (.loc k), D.ty "list" with
          | some t, .tup cs => (isAny T t cs).map D.bl
          | some t, c => (isOne T t c).map D.bl
          | none, _ => none else none) = _
        rw [a1, a2]
        rfl
      have cl : cellL (.loc k) S = some (k, xs.map .str) := by show (match S[k]? with | some (.lst ds) => some (k, ds) | _ => none) = _; rw [hc]
      have ap : appM k (xs.map .str) [.non] S = some (.non, S.set k (.lst (xs.map .str ++ [.non]))) := by
        unfold appM
        dsimp only
        have := (ansS_len ro.a).2
        rw [if_pos (by rw [sizeLine_eq, List.length_map]; omega)]
      simp only [s_law_0_1_6_t_1, G13, eMut, sSeq, sAsg, sb, sIf, sRet, sNext, sPar, sExpr, sRaise, tOrM, tAndM, tNotM, tOfE, tYes, eF, eN, Kx.e1, Kx.e2, eIf, eAnd, eOr, eNot, Kx.eC, eVar, aCons, aNil, eChain, opt, Res.bind, gN, gTp, gCo, gNo, Option.bind, iVal, itemsD, eSl, oSome, oNone, eS1, eL1, fnRes, List.getElem?_cons_zero, List.getElem?_cons_succ, List.set_cons_zero, List.set_cons_succ, if_true, Bool.false_eq_true, if_false, Bool.not_true, Bool.not_false, i1, cl, Option.isSome_some, ap]
  obtain ⟨S1, t1, d1⟩ := t1
  -- t_2
  have f1 : ∀ S : Store, fldD T "name" (forD (.str a) (xs.map .str)) S = some (.str a) := fun S => by
    unfold forD
    simp only [fldD, tf.ins, tf.f1, Bool.and_self, if_true]
    rfl
  have f2 : ∀ S : Store, fldD T "answers" (forD (.str a) (xs.map .str)) S = some (.tup (rD xs)) := fun S => by
    unfold forD
    simp only [fldD, tf.ins, tf.f2, Bool.and_self, if_true, rowOf_map]
    rfl
  have wr := ansS_ws ro.b
  have sh : ∃ u, ∀ S : Store, showX [.lst [.str a, .tup (rD xs)]] S = some (.str u) := by
    have lr := (ansS_len ro.b).2
    have pr : plDs (rD xs) = true := plDs_all fun d hd => by
      obtain ⟨x, hx, rfl⟩ := List.mem_map.mp hd
      simp only [plD]; exact ws_lay (wr x hx)
    have wt : wtDs (rD xs) ≤ 9 * (rD xs).length := wtDs_le fun d hd => by
      obtain ⟨x, hx, rfl⟩ := List.mem_map.mp hd
      simp only [wtD]; exact of_decide_eq_true (b2 (b2 (wr x hx)).2).1
    have dp : dpDs (rD xs) ≤ 0 := dpDs_le fun d hd => by
      obtain ⟨x, hx, rfl⟩ := List.mem_map.mp hd
      simp only [dpD]; exact Nat.le_refl _
    have wa : a.cps.size ≤ 8 := of_decide_eq_true (b2 (b2 hw).2).1
    have lr2 : (rD xs).length ≤ 3 := by unfold rD; rw [List.length_map]; exact lr
    have pa : a.cps.all (· < 0x110000) = true := ws_lay hw
    obtain ⟨u, hu⟩ := show_ok (S := []) (d := .lst [.str a, .tup (rD xs)]) (by simp only [plD, plDs, pr, pa, Bool.and_self]) rfl (by simp only [dpD, dpDs]; omega) (by simp only [wtD, wtDs]; omega)
    refine ⟨u, fun S => ?_⟩
    show (match showD [.lst [.str a, .tup (rD xs)]] S with | some z => some z | none => none) = _
    rw [show showD [.lst [.str a, .tup (rD xs)]] S = some (.str u) from hu]
  obtain ⟨u, hu⟩ := sh
  have sm2 : small [D.str a, D.tup (rD xs)] = true := rfl
  have t2 : s_law_0_1_6_t_2 (G13 a0 a1 (some (.loc n)) a3 (some (.str a)) (some e) (some (.str t)) (some (.lst [forD (.str a) (xs.map .str)])) (some (.lst [])) (some (forD (.str a) (xs.map .str))) (some (.tup (rD xs))) a11 a12) S1 = .nx (G13 a0 a1 (some (.loc n)) a3 (some (.str a)) (some e) (some (.str t)) (some (.lst [forD (.str a) (xs.map .str)])) (some (.lst [])) (some (forD (.str a) (xs.map .str))) (some (.tup (rD xs))) a11 a12) S1 := by
    simp only [s_law_0_1_6_t_2, G13, eR, eLst, sSeq, sAsg, sb, sIf, sRet, sNext, sPar, sExpr, sRaise, tOrM, tAndM, tNotM, tOfE, tYes, eF, eN, Kx.e1, Kx.e2, eIf, eAnd, eOr, eNot, Kx.eC, eVar, aCons, aNil, eChain, opt, Res.bind, gN, gTp, gCo, gNo, Option.bind, iVal, itemsD, eSl, oSome, oNone, eS1, eL1, fnRes, List.getElem?_cons_zero, List.getElem?_cons_succ, List.set_cons_zero, List.set_cons_succ, if_true, Bool.false_eq_true, if_false, Bool.not_true, Bool.not_false, f1, f2, sm2, hu, ne_str]
  -- t_3
  have wo : isWs "other" = true := by decide +kernel
  have mk3 : eMk "Foreign" 2 2 0 (Sh.f_Foreign___init__ T) gFst (aCons (Kx.eC (.str "other")) (aCons (eVar 10) (aNil))) aNil (G13 a0 a1 (some (.loc n)) a3 (some (.str a)) (some e) (some (.str t)) (some (.lst [forD (.str a) (xs.map .str)])) (some (.lst [])) (some (forD (.str a) (xs.map .str))) (some (.tup (rD xs))) a11 a12) S1 = .ok (forD (.str "other") (rD xs)) (S1 ++ [Cell.dead]) := mk_ok (ys := sortW xs) wo rfl ro.b
  obtain ⟨o, K, ho, h3, d3⟩ := of_inv (ds := [D.non, .str a, .tup (rD xs), .tup [.str a, .tup (rD xs)], .int 5, .lst [], forD (.str "other") (rD xs)]) (d1.app (K := .dead)) (by omega) (by simp) (by simp)
  have t3 : s_law_0_1_6_t_3 (G13 a0 a1 (some (.loc n)) a3 (some (.str a)) (some e) (some (.str t)) (some (.lst [forD (.str a) (xs.map .str)])) (some (.lst [])) (some (forD (.str a) (xs.map .str))) (some (.tup (rD xs))) a11 a12) S1 = .nx (G13 a0 a1 (some (.loc n)) a3 (some (.str a)) (some e) (some (.str t)) (some (.lst [forD (.str a) (xs.map .str)])) (some (.lst [])) (some (forD (.str a) (xs.map .str))) (some (.tup (rD xs))) (some o) a12) ((S1 ++ [Cell.dead]).set n K) := by
    unfold s_law_0_1_6_t_3
    rw [asg_ok (eF_ok (cons_ok (d := .loc n) rfl (cons_ok (lst_ok (cons_ok (d := .non) rfl (cons_ok (d := .str a) rfl (cons_ok (d := .tup (rD xs)) rfl (cons_ok (d := .tup [.str a, .tup (rD xs)]) rfl (cons_ok (d := .int 5) rfl (cons_ok (d := .lst []) rfl (cons_ok mk3 rfl))))))) rfl) rfl)) h3)]
    rfl
  -- t_4
  obtain ⟨o1, o2, o3⟩ := odd_eq hw hne ro ho ((S1 ++ [Cell.dead]).set n K)
  have sm3 : small [D.bl false, D.bl false, D.bl true] = true := rfl
  have l3 : neW T (tabF T) (.lst [.bl false, .bl false, .bl true]) (.lst [.bl false, .bl false, .bl true]) ((S1 ++ [Cell.dead]).set n K) = .ok (.bl false) ((S1 ++ [Cell.dead]).set n K) := by kernel_rfl
  have t4 : s_law_0_1_6_t_4 (G13 a0 a1 (some (.loc n)) a3 (some (.str a)) (some e) (some (.str t)) (some (.lst [forD (.str a) (xs.map .str)])) (some (.lst [])) (some (forD (.str a) (xs.map .str))) (some (.tup (rD xs))) (some o) a12) ((S1 ++ [Cell.dead]).set n K) = .nx (G13 a0 a1 (some (.loc n)) a3 (some (.str a)) (some e) (some (.str t)) (some (.lst [forD (.str a) (xs.map .str)])) (some (.lst [])) (some (forD (.str a) (xs.map .str))) (some (.tup (rD xs))) (some o) a12) ((S1 ++ [Cell.dead]).set n K) := by
    simp only [s_law_0_1_6_t_4, G13, eR, eLst, sSeq, sAsg, sb, sIf, sRet, sNext, sPar, sExpr, sRaise, tOrM, tAndM, tNotM, tOfE, tYes, eF, eN, Kx.e1, Kx.e2, eIf, eAnd, eOr, eNot, Kx.eC, eVar, aCons, aNil, eChain, opt, Res.bind, gN, gTp, gCo, gNo, Option.bind, iVal, itemsD, eSl, oSome, oNone, eS1, eL1, fnRes, List.getElem?_cons_zero, List.getElem?_cons_succ, List.set_cons_zero, List.set_cons_succ, if_true, Bool.false_eq_true, if_false, Bool.not_true, Bool.not_false, o1, o2, o3, sm3, l3]
  -- t_5
  generalize ((S1 ++ [Cell.dead]).set n K) = S5 at t3 t4 d3
  have t5 : s_law_0_1_6_t_5 (G13 a0 a1 (some (.loc n)) a3 (some (.str a)) (some e) (some (.str t)) (some (.lst [forD (.str a) (xs.map .str)])) (some (.lst [])) (some (forD (.str a) (xs.map .str))) (some (.tup (rD xs))) (some o) a12) S5 = .nx (G13 a0 a1 (some (.loc n)) a3 (some (.str a)) (some e) (some (.str t)) (some (.lst [forD (.str a) (xs.map .str)])) (some (.lst [])) (some (forD (.str a) (xs.map .str))) (some (.tup (rD xs))) (some o) a12) (S5 ++ [Cell.dead] ++ [Cell.dead]) := by
    have ng : negD (.int 1) S5 = some (.int (-1)) := rfl
    have sp : stepD (.tup (rD xs)) (.int (-1)) S5 = some (.tup ((sortW xs).reverse.map .str)) := by
      show some (D.tup (rD xs).reverse) = _
      unfold rD
      rw [List.map_reverse]
    have m1 : eMk "Foreign" 2 2 0 (Sh.f_Foreign___init__ T) gFst (aCons (eVar 4) (aCons (eStep (eVar 10) (Kx.e1 negD (Kx.eC (.int 1)))) (aNil))) aNil (G13 a0 a1 (some (.loc n)) a3 (some (.str a)) (some e) (some (.str t)) (some (.lst [forD (.str a) (xs.map .str)])) (some (.lst [])) (some (forD (.str a) (xs.map .str))) (some (.tup (rD xs))) (some o) a12) S5 = .ok (forD (.str a) ((sortW xs).reverse.map D.str)) (S5 ++ [Cell.dead]) := mk_ok (ys := (sortW xs).reverse) hw (by simp only [G13, eStep, sSeq, sAsg, sb, sIf, sRet, sNext, sPar, sExpr, sRaise, tOrM, tAndM, tNotM, tOfE, tYes, eF, eN, Kx.e1, Kx.e2, eIf, eAnd, eOr, eNot, Kx.eC, eVar, aCons, aNil, eChain, opt, Res.bind, gN, gTp, gCo, gNo, Option.bind, iVal, itemsD, eSl, oSome, oNone, eS1, eL1, fnRes, List.getElem?_cons_zero, List.getElem?_cons_succ, List.set_cons_zero, List.set_cons_succ, if_true, Bool.false_eq_true, if_false, Bool.not_true, Bool.not_false, ng, sp]) ro.d
    have sl : slD (.tup (rD xs)) none (some 1) (S5 ++ [Cell.dead]) = some (.tup (((sortW xs).take 1).map .str)) := by
      show some (D.tup (cutD (rD xs) none (some ((1 : Nat) : Int)))) = _
      have := (ansS_len ro.b).1
      rw [(cut_take (ds := rD xs) (m := 1) (by unfold rD; rw [List.length_map]; exact this)).1]
      unfold rD
      rw [List.map_take]
    have m2 : eMk "Foreign" 2 2 0 (Sh.f_Foreign___init__ T) gFst (aCons (eVar 4) (aCons (eSl (eVar 10) (oNone) (oSome (Kx.eC (.int 1)))) (aNil))) aNil (G13 a0 a1 (some (.loc n)) a3 (some (.str a)) (some e) (some (.str t)) (some (.lst [forD (.str a) (xs.map .str)])) (some (.lst [])) (some (forD (.str a) (xs.map .str))) (some (.tup (rD xs))) (some o) a12) (S5 ++ [Cell.dead]) = .ok (forD (.str a) (((sortW xs).take 1).map .str)) (S5 ++ [Cell.dead] ++ [Cell.dead]) := mk_ok (ys := (sortW xs).take 1) hw (by simp only [G13, sSeq, sAsg, sb, sIf, sRet, sNext, sPar, sExpr, sRaise, tOrM, tAndM, tNotM, tOfE, tYes, eF, eN, Kx.e1, Kx.e2, eIf, eAnd, eOr, eNot, Kx.eC, eVar, aCons, aNil, eChain, opt, Res.bind, gN, gTp, gCo, gNo, Option.bind, iVal, itemsD, eSl, oSome, oNone, eS1, eL1, fnRes, List.getElem?_cons_zero, List.getElem?_cons_succ, List.set_cons_zero, List.set_cons_succ, if_true, Bool.false_eq_true, if_false, Bool.not_true, Bool.not_false, sl]) ro.f
    have q1 := (eqW_ff (S := S5 ++ [Cell.dead]) tf hw hw w1 (all_map_w (ansS_ws ro.d))).2
    rw [ws_map, ws_map, ro.e] at q1
    simp only [decide_true, Bool.and_self, Bool.not_true] at q1
    have q2 := (eqW_ff (S := S5 ++ [Cell.dead] ++ [Cell.dead]) tf hw hw w1 (all_map_w (ansS_ws ro.f))).1
    rw [ws_map, ws_map, ro.g, ro.h] at q2
    simp only [decide_true, Bool.true_and] at q2
    have ln : lenD [.tup (rD xs)] (S5 ++ [Cell.dead] ++ [Cell.dead]) = some (.int ((sortW xs).length : Int)) := by
      rw [lenT]
      unfold rD
      rw [List.length_map]
    have q3 : eqW T (tabF T) (.int ((sortW xs).length : Int)) (.int 1) (S5 ++ [Cell.dead] ++ [Cell.dead]) = .ok (.bl (decide ((sortW xs).length = 1))) (S5 ++ [Cell.dead] ++ [Cell.dead]) := by
      show Res.ok (D.bl (decide (((sortW xs).length : Int) = 1))) _ = _
      congr 2
      rw [decide_eq_decide]
      omega
    have q4 := bl_ne (decide ((sortW xs).length = 1)) (S5 ++ [Cell.dead] ++ [Cell.dead])
    unfold s_law_0_1_6_t_5
    have c1 := tOf_ok (eR_ok (a := eVar 9) (d := forD (.str a) (xs.map .str)) (op := neW T (tabF T)) rfl m1 q1)
    have c2 := tOf_ok (eR_ok (op := neW T (tabF T)) (eR_ok (a := eVar 9) (d := forD (.str a) (xs.map .str)) (op := eqW T (tabF T)) rfl m2 q2) (eR_ok (op := eqW T (tabF T)) (b := Kx.eC (.int 1)) (eN_ok (f := lenD) (a := aCons (eVar 10) aNil) (ds := [.tup (rD xs)]) rfl ln) rfl q3) q4)
    rw [if_no ((or_no c1).trans c2)]
    rfl
  have e6 : s_law_0_1_6 (G13 a0 a1 (some (.loc n)) a3 (some (.str a)) (some e) (some (.str t)) (some (.lst [forD (.str a) (xs.map .str)])) (some (.lst [])) a9 a10 a11 a12) S = .nx (G13 a0 a1 (some (.loc n)) a3 (some (.str a)) (some e) (some (.str t)) (some (.lst [forD (.str a) (xs.map .str)])) (some (.lst [])) (some (forD (.str a) (xs.map .str))) (some (.tup (rD xs))) (some o) a12) (S5 ++ [Cell.dead] ++ [Cell.dead]) := by
    have c6 : (tOfE (eR (eqW T [("Foreign", (Sh.f_Foreign___eq__ T))]) (eVar 8) (eLst (aNil)))) (G13 a0 a1 (some (.loc n)) a3 (some (.str a)) (some e) (some (.str t)) (some (.lst [forD (.str a) (xs.map .str)])) (some (.lst [])) a9 a10 a11 a12) S = .ok true S := by
      simp only [G13, eR, eLst, sSeq, sAsg, sb, sIf, sRet, sNext, sPar, sExpr, sRaise, tOrM, tAndM, tNotM, tOfE, tYes, eF, eN, Kx.e1, Kx.e2, eIf, eAnd, eOr, eNot, Kx.eC, eVar, aCons, aNil, eChain, opt, Res.bind, gN, gTp, gCo, gNo, Option.bind, iVal, itemsD, eSl, oSome, oNone, eS1, eL1, fnRes, List.getElem?_cons_zero, List.getElem?_cons_succ, List.set_cons_zero, List.set_cons_succ, if_true, Bool.false_eq_true, if_false, Bool.not_true, Bool.not_false, sm0, n2]
    unfold s_law_0_1_6 sIf
    rw [c6]
    show (sSeq (s_law_0_1_6_t_0) (sSeq (s_law_0_1_6_t_1) (sSeq (s_law_0_1_6_t_2) (sSeq (s_law_0_1_6_t_3) (sSeq (s_law_0_1_6_t_4) (s_law_0_1_6_t_5)))))) _ S = _
    rw [seq_nx t0, seq_nx t1, seq_nx t2, seq_nx t3, seq_nx t4, t5]
  exact ⟨_, _, _, _, e6, d3.app.app⟩
end
end k03
end Kx

set_option Elab.async false
set_option linter.all false
set_option maxRecDepth 100000
set_option autoImplicit false
set_option maxHeartbeats 0
namespace Kx
namespace k03
open PySem PySem.Spec L2
abbrev body : MS := sSeq (s_law_0_1_0) (sSeq (sAsg (eF f__law_some (aCons (eVar 2) (aNil))) (gN 5)) (sSeq (s_law_0_1_2) (sSeq (s_law_0_1_3) (sSeq (s_law_0_1_4) (sSeq (s_law_0_1_5) (s_law_0_1_6))))))
theorem wd_words : (WD.all fun d => !isW d || (match d with
    | .str x => isWs x && decide (x ≠ "other")
    | _ => false)) = true := by decide +kernel
section
variable {S : Store} {n b : Nat} {a0 a1 a3 a4 a5 a6 a7 a8 a9 a10 a11 a12 : Option D}
theorem rest_ok {w e : D} (hw : w ∈ WD) (dr : DrOk S n b) (hb : b < 900) (an : Ans S n e) : ∃ b6 b7 b8 b9 b10 b11 S', (sSeq s_law_0_1_2 (sSeq s_law_0_1_3 (sSeq s_law_0_1_4 (sSeq s_law_0_1_5 s_law_0_1_6)))) (G13 a0 a1 (some (.loc n)) a3 (some w) (some e) a6 a7 a8 a9 a10 a11 a12) S = .nx (G13 a0 a1 (some (.loc n)) a3 (some w) (some e) b6 b7 b8 b9 b10 b11 a12) S' ∧ DrOk S' n (b + 1) := by
  have hA : (aCons (eVar 4) (aCons (eVar 5) (aNil))) (G13 a0 a1 (some (.loc n)) a3 (some w) (some e) a6 a7 a8 a9 a10 a11 a12) S = .ok [w, e] S := rfl
  have pw := plW hw
  cases an with
  | no he =>
    obtain ⟨r1, r2, t, r3⟩ := ans_no (S := S) he
    obtain ⟨q1, q2, t', q3⟩ := ans_no (S := S ++ [.ins "Foreign" [] []]) he
    have tt : t' = t := by
      simp only [List.mem_cons, List.not_mem_nil, or_false] at he
      rcases he with rfl | rfl | rfl | rfl | rfl | rfl <;> (have := q3.symm.trans (show _ = some (D.str t) from r3); cases this; rfl)
    subst tt
    have mk := mk_foreign_no tf.toTFor hA pw q2
    cases hn : isW w with
    | false => rw [hn] at mk; exact ⟨_, _, _, _, _, _, _, bad_name hw hn mk r3 q3, dr.app.mono (by omega)⟩
    | true => rw [hn] at mk; exact ⟨_, _, _, _, _, _, _, bad_ans hw hn q1 mk r3 q3, dr.app.mono (by omega)⟩
  | sq es hp hi hl hk hz =>
    have mk := mk_foreign tf.toTFor hA pw hp fun d hd => plI (hi d hd)
    obtain ⟨t, ht⟩ := show_seq hp hi hl
    unfold forR at mk
    cases hn : isW w with
    | false =>
      rw [hn] at mk
      exact ⟨_, _, _, _, _, _, _, bad_name hw hn mk (ht S hp) (ht _ hp.app), dr.app.mono (by omega)⟩
    | true =>
      rw [hn, if_pos rfl] at mk
      cases ha : ansOk es with
      | false =>
        rw [ha] at mk
        have q := ans_seq (hp.app (c := .ins "Foreign" [] [])) hi
        rw [ha] at q
        exact ⟨_, _, _, _, _, _, _, bad_ans hw hn q mk (ht S hp) (ht _ hp.app), dr.app.mono (by omega)⟩
      | true =>
        rw [ha, if_pos rfl] at mk
        obtain ⟨xs, rfl, ro⟩ := row_ok hi ha
        have ww := List.all_eq_true.mp wd_words w hw
        rw [hn] at ww
        cases w <;> first | (simp only [isW] at hn; exact absurd hn Bool.false_ne_true) | skip
        rename_i a
        have ww : isWs a = true ∧ a ≠ "other" := by simpa using ww
        have q := ans_seq (hp.app (c := .dead)) hi
        rw [ha] at q
        have lwq := lwW hw (S ++ [.dead])
        rw [hn] at lwq
        have sm0 : small [] = true := by decide
        have tl : eTold T (Sh.f__law_error_word T) (eMk "Foreign" 2 2 0 (Sh.f_Foreign___init__ T) gFst (aCons (eVar 4) (aCons (eVar 5) (aNil))) aNil) (G13 a0 a1 (some (.loc n)) a3 (some (.str a)) (some e) a6 a7 a8 a9 a10 a11 a12) S = .ok (.lst [forD (.str a) (xs.map .str)]) (S ++ [.dead]) := by
          unfold eTold
          rw [mk]
        have h5 : (eN showX (aCons (eVar 5) aNil)) (G13 a0 a1 (some (.loc n)) a3 (some (.str a)) (some e) a6 a7 a8 a9 a10 a11 a12) S = .ok (.str t) S := eN_ok (ds := [e]) rfl (ht S hp)
        have e2 : s_law_0_1_2 (G13 a0 a1 (some (.loc n)) a3 (some (.str a)) (some e) a6 a7 a8 a9 a10 a11 a12) S = .nx (G13 a0 a1 (some (.loc n)) a3 (some (.str a)) (some e) (some (.str t)) (some (.lst [forD (.str a) (xs.map .str)])) a8 a9 a10 a11 a12) (S ++ [.dead]) := by
          unfold s_law_0_1_2
          rw [par_ok h5 tl]
          rfl
        have e3 : s_law_0_1_3 (G13 a0 a1 (some (.loc n)) a3 (some (.str a)) (some e) (some (.str t)) (some (.lst [forD (.str a) (xs.map .str)])) a8 a9 a10 a11 a12) (S ++ [.dead]) = .nx (G13 a0 a1 (some (.loc n)) a3 (some (.str a)) (some e) (some (.str t)) (some (.lst [forD (.str a) (xs.map .str)])) (some (.lst [])) a9 a10 a11 a12) (S ++ [.dead]) := by
          simp only [s_law_0_1_3, G13, eLst, sSeq, sAsg, sb, sIf, sRet, sNext, sPar, sExpr, sRaise, tOrM, tAndM, tNotM, tOfE, tYes, eF, eN, Kx.e1, Kx.e2, eIf, eAnd, eOr, eNot, Kx.eC, eVar, aCons, aNil, eChain, opt, Res.bind, gN, gTp, gCo, gNo, Option.bind, iVal, itemsD, eSl, oSome, oNone, eS1, eL1, fnRes, List.getElem?_cons_zero, List.getElem?_cons_succ, List.set_cons_zero, List.set_cons_succ, if_true, Bool.false_eq_true, if_false, Bool.not_true, Bool.not_false, lwq, sm0]
        obtain ⟨n1, n2⟩ := nil_eq (S ++ [.dead])
        have e4 : s_law_0_1_4 (G13 a0 a1 (some (.loc n)) a3 (some (.str a)) (some e) (some (.str t)) (some (.lst [forD (.str a) (xs.map .str)])) (some (.lst [])) a9 a10 a11 a12) (S ++ [.dead]) = .nx (G13 a0 a1 (some (.loc n)) a3 (some (.str a)) (some e) (some (.str t)) (some (.lst [forD (.str a) (xs.map .str)])) (some (.lst [])) a9 a10 a11 a12) (S ++ [.dead]) := by
          simp only [s_law_0_1_4, G13, eR, eLst, sSeq, sAsg, sb, sIf, sRet, sNext, sPar, sExpr, sRaise, tOrM, tAndM, tNotM, tOfE, tYes, eF, eN, Kx.e1, Kx.e2, eIf, eAnd, eOr, eNot, Kx.eC, eVar, aCons, aNil, eChain, opt, Res.bind, gN, gTp, gCo, gNo, Option.bind, iVal, itemsD, eSl, oSome, oNone, eS1, eL1, fnRes, List.getElem?_cons_zero, List.getElem?_cons_succ, List.set_cons_zero, List.set_cons_succ, if_true, Bool.false_eq_true, if_false, Bool.not_true, Bool.not_false, sm0, n2, q]
        have hl2 : ∀ l, e ≠ .lst l := fun l hel => by
          rcases hp with rfl | rfl | ⟨k, rfl, _⟩
          · cases hel
          · have := hz rfl
            have l1 := (ansS_len ro.a).1
            rw [List.map_eq_nil_iff] at this
            rw [this] at l1
            exact absurd l1 (by decide)
          · cases hel
        obtain ⟨b9, b10, b11, S', g1, g2⟩ := good_rest (S := S ++ [.dead]) (a0 := a0) (a1 := a1) (a3 := a3) (a9 := a9) (a10 := a10) (a11 := a11) (a12 := a12) ww.1 ww.2 hp.app hk hl2 ro dr.app (by omega) (ht _ hp.app)
        exact ⟨_, _, _, b9, b10, b11, S', (seq_nx e2).trans ((seq_nx e3).trans ((seq_nx e4).trans g1)), g2⟩
theorem turn_ok (h : DrOk S n b) (hb : b < 700) : ∃ b4 b5 b6 b7 b8 b9 b10 b11 S', body (G13 a0 a1 (some (.loc n)) a3 a4 a5 a6 a7 a8 a9 a10 a11 a12) S = .nx (G13 a0 a1 (some (.loc n)) a3 b4 b5 b6 b7 b8 b9 b10 b11 a12) S' ∧ DrOk S' n (b + 12) := by
  obtain ⟨w, K, hw, h1, d1⟩ := of_inv (ds := WD) h (by omega) (by simp [WD]) (by simp [WD])
  obtain ⟨e, S2, h2, d2, an⟩ := some_ok d1 (by omega)
  have e0 : s_law_0_1_0 (G13 a0 a1 (some (.loc n)) a3 a4 a5 a6 a7 a8 a9 a10 a11 a12) S = .nx (G13 a0 a1 (some (.loc n)) a3 (some w) a5 a6 a7 a8 a9 a10 a11 a12) (S.set n K) := by
    unfold s_law_0_1_0
    rw [asg_ok (eF_ok (ds := [.loc n, .lst WD]) rfl h1)]
    rfl
  have e1 : (sAsg (eF f__law_some (aCons (eVar 2) (aNil))) (gN 5)) (G13 a0 a1 (some (.loc n)) a3 (some w) a5 a6 a7 a8 a9 a10 a11 a12) (S.set n K) = .nx (G13 a0 a1 (some (.loc n)) a3 (some w) (some e) a6 a7 a8 a9 a10 a11 a12) S2 := by
    rw [asg_ok (eF_ok (ds := [.loc n]) rfl h2)]
    rfl
  obtain ⟨b6, b7, b8, b9, b10, b11, S', r1, r2⟩ := rest_ok (a0 := a0) (a1 := a1) (a3 := a3) (a6 := a6) (a7 := a7) (a8 := a8) (a9 := a9) (a10 := a10) (a11 := a11) (a12 := a12) hw d2 (by omega) an
  refine ⟨some w, some e, b6, b7, b8, b9, b10, b11, S', ?_, r2.mono (by omega)⟩
  unfold body
  rw [seq_nx e0, seq_nx e1, r1]
end
def okT : Res D → Bool
  | .ok (.bl true) _ => true
  | _ => false
theorem okT_ok {z : Res D} (h : okT z = true) : ∃ S', z = .ok (.bl true) S' := by
  unfold okT at h
  split at h
  · exact ⟨_, rfl⟩
  · cases h
theorem last_ok (a0 a1 a2 a3 a4 a5 a6 a7 a8 a9 a10 a11 a12 : Option D) : ∃ S', fnRes ((sSeq (s_law_1) (s_law_2)) [a0, a1, a2, a3, a4, a5, a6, a7, a8, a9, a10, a11, a12] []) = .ok (.bl true) S' := okT_ok (by kernel_rfl)
theorem law_ok : LawOk f_law 63 := by
  intro ns hn
  have hit : (iRange1 (Kx.e2 addX (Kx.eC (.int 1)) (eN minX (aCons (eN lenD (aCons (eVar 0) (aNil))) (aCons (Kx.eC (.int 5)) (aNil)))))) (G13 (some (.rol (ns.map .int))) none none none none none none none none none none none none) [] = .ok (rngD 0 (1 + (if (5 : Int) < ns.length then 5 else (ns.length : Int))).toNat) [] := by
    have l : lenD [.rol (ns.map .int)] [] = some (.int ns.length) := by
      show some (D.int (ns.map D.int).length) = _
      rw [List.length_map]
    have m : minX [.int ns.length, .int 5] [] = some (.int (if (5 : Int) < ns.length then 5 else (ns.length : Int))) := rfl
    have ad : addX (.int 1) (.int (if (5 : Int) < ns.length then 5 else (ns.length : Int))) [] = some (.int (1 + (if (5 : Int) < ns.length then 5 else (ns.length : Int)))) := rfl
    refine range_ok ?_ (by split <;> omega) (by split <;> omega)
    simp only [G13, sSeq, sAsg, sb, sIf, sRet, sNext, sPar, sExpr, sRaise, tOrM, tAndM, tNotM, tOfE, tYes, eF, eN, Kx.e1, Kx.e2, eIf, eAnd, eOr, eNot, Kx.eC, eVar, aCons, aNil, eChain, opt, Res.bind, gN, gTp, gCo, gNo, Option.bind, iVal, itemsD, eSl, oSome, oNone, eS1, eL1, fnRes, List.getElem?_cons_zero, List.getElem?_cons_succ, List.set_cons_zero, List.set_cons_succ, if_true, Bool.false_eq_true, if_false, Bool.not_true, Bool.not_false, l, m, ad]
  obtain ⟨G', S', h1, h2⟩ := forL_inv (g := gN 1) (body := sSeq (s_law_0_0) (s_law_0_1)) (I := fun j G S => ∃ b1 b2 b3 b4 b5 b6 b7 b8 b9 b10 b11 b12, G = G13 (some (.rol (ns.map .int))) b1 b2 b3 b4 b5 b6 b7 b8 b9 b10 b11 b12) (rngD 0 (1 + (if (5 : Int) < ns.length then 5 else (ns.length : Int))).toNat) 0 (G13 (some (.rol (ns.map .int))) none none none none none none none none none none none none) [] ⟨_, _, _, _, _, _, _, _, _, _, _, _, rfl⟩ (by
    rintro i d G S hi ⟨b1, b2, b3, b4, b5, b6, b7, b8, b9, b10, b11, b12, rfl⟩
    obtain ⟨hi, rfl⟩ := rng_at hi
    obtain ⟨K, q1, q2⟩ := begun_ok (ns := ns) (k := 0 + (i : Int)) (S := S) hn (by omega) (by
      have : (1 + (if (5 : Int) < ns.length then 5 else (ns.length : Int))).toNat ≤ 6 := by split <;> omega
      omega)
    have it8 : (iRange1 (Kx.eC (.int 8))) (G13 (some (.rol (ns.map .int))) (some (.int (0 + (i : Int)))) (some (.loc S.length)) b3 b4 b5 b6 b7 b8 b9 b10 b11 b12) (S ++ [K]) = .ok (rngD 0 8) (S ++ [K]) := range_ok (v := 8) rfl (by decide) (by decide)
    obtain ⟨G2, S2, r1, c3, c4, c5, c6, c7, c8, c9, c10, c11, r2, r3⟩ := forL_inv (g := gN 3) (body := body) (I := fun j G S' => ∃ c3 c4 c5 c6 c7 c8 c9 c10 c11, G = G13 (some (.rol (ns.map .int))) (some (.int (0 + (i : Int)))) (some (.loc S.length)) c3 c4 c5 c6 c7 c8 c9 c10 c11 b12 ∧ DrOk S' S.length (12 * j)) (rngD 0 8) 0 (G13 (some (.rol (ns.map .int))) (some (.int (0 + (i : Int)))) (some (.loc S.length)) b3 b4 b5 b6 b7 b8 b9 b10 b11 b12) (S ++ [K]) ⟨_, _, _, _, _, _, _, _, _, rfl, q2⟩ (by
      rintro j d G S' hj ⟨c3, c4, c5, c6, c7, c8, c9, c10, c11, rfl, hd⟩
      obtain ⟨hj, rfl⟩ := rng_at hj
      obtain ⟨e4, e5, e6, e7, e8, e9, e10, e11, S3, t1, t2⟩ := turn_ok (a0 := some (.rol (ns.map .int))) (a1 := some (.int (0 + (i : Int)))) (a3 := some (.int (0 + (j : Int)))) (a4 := c4) (a5 := c5) (a6 := c6) (a7 := c7) (a8 := c8) (a9 := c9) (a10 := c10) (a11 := c11) (a12 := b12) hd (by omega)
      exact ⟨_, _, S3, rfl, t1, _, _, _, _, _, _, _, _, _, rfl, by rw [show 12 * (0 + j + 1) = 12 * (0 + j) + 12 by omega]; exact t2⟩)
    refine ⟨_, G2, S2, rfl, ?_, _, _, _, _, _, _, _, _, _, _, _, _, r2⟩
    have e0 : s_law_0_0 (G13 (some (.rol (ns.map .int))) (some (.int (0 + (i : Int)))) b2 b3 b4 b5 b6 b7 b8 b9 b10 b11 b12) S = .nx (G13 (some (.rol (ns.map .int))) (some (.int (0 + (i : Int)))) (some (.loc S.length)) b3 b4 b5 b6 b7 b8 b9 b10 b11 b12) (S ++ [K]) := by
      unfold s_law_0_0
      rw [asg_ok (eF_ok (ds := [.rol (ns.map .int), .int (0 + (i : Int))]) rfl q1)]
      rfl
    show (sSeq (s_law_0_0) (s_law_0_1)) (G13 (some (.rol (ns.map .int))) (some (.int (0 + (i : Int)))) b2 b3 b4 b5 b6 b7 b8 b9 b10 b11 b12) S = _
    rw [seq_nx e0]
    unfold s_law_0_1
    rw [sFor_eq it8]
    exact r1)
  obtain ⟨b1, b2, b3, b4, b5, b6, b7, b8, b9, b10, b11, b12, h2⟩ := h2
  have l1 : s_law_0 (G13 (some (.rol (ns.map .int))) none none none none none none none none none none none none) [] = .nx (trimG 0 G') [] := by
    unfold s_law_0 sTrim
    rw [sFor_eq hit, h1]
    rfl
  obtain ⟨S2, l2⟩ := last_ok (trimO 0 (some (.rol (ns.map .int)))) (trimO 0 b1) (trimO 0 b2) (trimO 0 b3) (trimO 0 b4) (trimO 0 b5) (trimO 0 b6) (trimO 0 b7) (trimO 0 b8) (trimO 0 b9) (trimO 0 b10) (trimO 0 b11) (trimO 0 b12)
  refine ⟨S2, ?_⟩
  show fnRes (b_law (G13 (some (.rol (ns.map .int))) none none none none none none none none none none none none) []) = _
  unfold b_law
  rw [seq_nx l1, h2]
  exact l2
end k03
end Kx

namespace Kx
namespace k03
open PySem PySem.Spec L2 PySem.W PySem.Calls
open He (ga ma fAd Fa DefD)
set_option maxHeartbeats 0
abbrev Rw : OpenRow := OpenLaw.row PySem.Challenge.rw_keysalone_k03_foreign_screens
abbrev hk : Hook := hookK 5 NM.fa NM.fns (NM.ex Rw.prog)
def ob (s : SharedT) : He.AlD := obsK 5 NM.fa NM.fns (NM.ex Rw.prog) (HandSHeadRun.getT s)
theorem ob_eq (s : SharedT) : ob s = hk.obs s.abs := obsK_eq (HandSHeadRun.getT_eq s)
def loose : List Str := (["_wall", "KeysError", "BadScreen", "BadLibrary", "BadName", "BadState", "BadConfiguration", "BadEvent", "BadStart", "BadUser", "BadPromise", "BadGoal", "BadPaper", "BadMending", "BadText", "BadNumber", "NothingLeft", "TooGreat", "LETTERS", "MOST_LETTERS", "ON", "OFF", "FLIP", "is_word", "is_among", "is_list", "is_pair", "are_rising", "is_condition", "is_changes"] : List Str) ++ (["MOST_SWITCHES", "MOST_PARTS", "MOST_ANSWERS", "MOST_DEEP", "MOST_GROUPS", "LEAST_ORDER", "MOST_ORDER", "NONE", "TURN", "OPEN", "CLOSE", "BOX", "GROUP", "WRAP", "STAY", "OUT", "LOST", "FIRST", "NEAR", "OPENER", "ENTER", "ENDS", "GONE", "AGAIN", "LEAVE", "ENDS_WORDS", "GONE_WORDS", "AGAIN_WORDS", "is_one_of", "is_switch"] : List Str) ++ (["is_replies", "is_deed", "is_part", "Plan", "plan_of", "need_switches", "need_parts", "Screen", "Foreign", "_law_begun", "_law_draw", "_law_of", "_law_error_word", "_law_told", "_law_is_word", "_law_are_answers", "_law_some"] : List Str)
theorem run (w : World) : HandSHeadRun.RunEq Rw (view Rw.prog [81]) hk ob 30000 loose w := by
  intro os
  kernel_rfl
theorem top_no : (Rw.prog.main.scope.names.lookup ("super" : Str)).isSome = false := by kernel_rfl
end k03
end Kx
open PySem PySem.W PySem.Calls PyProof.Rows in
set_option maxHeartbeats 0 in
theorem PySem.Challenge.cw_keysalone_k03_foreign_screens_holds : PySem.Challenge.rw_keysalone_k03_foreign_screens.Holds := by
  w_on; o_law
  refine HandSHeadRun.head_any (r := Kx.k03.Rw) (q := view Kx.k03.Rw.prog [81]) (H := Kx.k03.hk) (ob := Kx.k03.ob) (M := 30000) (loose := Kx.k03.loose) (d := HandSHeadRun.topDef Kx.k03.Rw.prog 81) (kwd := []) Kx.k03.ob_eq
    (by kernel_rfl) (fun s => by kernel_rfl) Kx.k03.run (by kernel_rfl) (by kernel_rfl) (by kernel_rfl) (by rfl) (by first | assumption | decide +kernel) (by decide +kernel) ⟨rfl, rfl, rfl, rfl, rfl, by decide +kernel⟩ ?hw ?hc
  case hw => w_witness2
  case hc =>
    refine Kx.walk_G (l := PySem.Challenge.rw_keysalone_k03_foreign_screens) (n := 63) (k := 16) (x := "_law_script") (f := Kx.k03.f_law) rfl (by decide) (by kernel_rfl) ⟨rfl, by decide, by decide⟩ Kx.k03.law_ok ?F
    intro w mg fa h Y G hmg0
    obtain ⟨K, KX, c, e, kt⟩ := Y
    have hmg : mg ("law" : PySem.Str) = some (.ref fa) := by
      have e : (HandSHeadRun.topDef Kx.k03.Rw.prog 81).name = ("law" : PySem.Str) := by kernel_rfl
      rw [← e]
      exact hmg0
    have tp := Kx.tp_of KX G c e kt Kx.k03.top_no
    obtain ⟨f2, fd, g1, _, _, g4, g5⟩ := (Kx.k03.h_all (P := Kx.k03.Rw.prog) (w := w) tp).ex
    rw [hmg] at g1
    cases g1
    exact ⟨K, fd, KX, kt, fun s u => g4 rfl s u, fun base _ _ tb => g5 base tb⟩

