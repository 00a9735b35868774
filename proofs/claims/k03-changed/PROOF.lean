import PyProof.Rows.All
import Wide.All
import OpenK.AllK
import Wide.FinOn
import HandS.ForMost
import HandS.Lambda
import HandS.Nested
import HandS.EndTab
import HandS.IsInst
import HandS.Exc
import HandS.Defaults
import HandS.Head2
import HandS.HeadHook4
import HandS.HeadWalk
import HandS.TupAny
import HandS.Conv
import HandS.TupLe
import KE.GoesMore
import HandS.Zip
import HandS.Style
import PyProof.ReprBulk
import PyProof.ReprRoads
import KE.GoesNew
import KE.KDictZip
import KE.KItemsList
import HandS.ListItems
import HandS.Words
import HandS.Deep
import HandS.Star
import HandS.TupMul
import KE.DataMinMax
import HandS.SetFor
import HandS.Strs
import HandS.Flt
import HandS.NoneIn
import KE.SortKeyHeap
import KE.SortData
import KE.DataCmp
import HandS.SortInts
import HandS.ExcOwn
import HandS.ExcInit
import HandS.ExcField
import HandS.ForExc
import HandS.TryMany
import Lean
import HandS.Head0
import HandS.Head1
import HandS.HeadEnd
import PySem.Challenge.RW_towerlooks_k03_whole_towers_changed
set_option Elab.async false
set_option linter.all false
set_option maxRecDepth 100000
namespace TL
open PySem PySem.Spec PyProof.Rows L2 LamX NdefX
abbrev topSt (i : Nat) : Stmt := PySem.Challenge.pw_towerlooks_k03_whole_towers_changed.main.body.getD i (.Pass ⟨0, 0, 0, 0⟩)
abbrev hdDef (x : Str) (st : Stmt) : He.DefD := ⟨(x, none), x, x, defArgs st, defBody st, defScope st, [], []⟩
def clsMeth0 (s : Stmt) (j : Nat) : Stmt := match s with
  | .ClassDef _ _ _ b _ _ _ _ _ _ _ => b.getD j (.Pass ⟨0, 0, 0, 0⟩)
  | _ => .Pass ⟨0, 0, 0, 0⟩
abbrev dMeth0 (x q : Str) (st : Stmt) : He.DefD := ⟨(x, some "__init__"), "__init__", q, defArgs st, defBody st, defScope st, [], []⟩
def errClsB0 (K : PySem.W.Frag) (C : Addr) : Bool := match K.lookup C with
  | some ⟨.type "type", _, .cls cd, sl⟩ => (match cd.mro, sl.toList with
    | .ref C' :: bm, [_, _, _, _, some (.builtin n), _] => C' == C && (n == "ValueError.__new__" && (!cd.hasDel && (cd.hasDict && PySem.HandSPX.refsVE bm)))
    | _, _ => false)
  | _ => false
def eqP0 (a b : Option (Option Value)) : Bool := decide (a = b)
def errB0 (K : PySem.W.Frag) (x f : Str) : Bool :=
  errClsB0 K (He.ga K x) && (eqP0 (PySem.W.findIn K (.ref (He.ga K x)) "__setattr__") (some (some (.builtin "object.__setattr__"))) && (eqP0 (PySem.W.findIn K (.ref (He.ga K x)) "__getattribute__") (some (some (.builtin "BaseException.__getattribute__"))) &&
  (eqP0 (PySem.W.findIn K (.ref (He.ga K x)) "__getattr__") (some none) && (eqP0 (PySem.W.findIn K (.ref (He.ga K x)) f) (some none) && (eqP0 (PySem.W.findIn K (.ref (He.ga K x)) "__init__") (some (some (.ref (He.ma K (He.ga K x) "__init__")))) &&
  (decide (PySem.W.typeIn K (.ref (He.ma K (He.ga K x) "__init__")) = some (.type "function")) && (PySem.W.keepIn K (.ref (He.ga K x)) && (decide (PySem.W.subIn K (.ref (He.ga K x)) (.type "BaseException") = some true) && (decide (PySem.W.typeIn K (.ref (He.ga K x)) = some (.type "type")) && PySem.W.hasDictIn K (He.ga K x))))))))))
def hEx (K : PySem.W.Frag) : Bool := errB0 K "InvalidTower" "given" && (errB0 K "InvalidNumber" "given" && (errB0 K "OutOfRange" "given"))
def hFn : List He.DefD := [hdDef "is_whole" (topSt 6), hdDef "is_number" (topSt 7), hdDef "is_tuple_of" (topSt 8), hdDef "wrong_at" (topSt 9), hdDef "wrong_from_one" (topSt 10), hdDef "is_hour_form" (topSt 15), hdDef "is_tower_form" (topSt 16), hdDef "widths_of" (topSt 17), hdDef "tower_with" (topSt 18), hdDef "check_number" (topSt 20), hdDef "check_tower" (topSt 21), hdDef "check_hour_of" (topSt 22), hdDef "is_tower" (topSt 24), hdDef "hours_number" (topSt 25), hdDef "widths" (topSt 26), hdDef "with_holds" (topSt 27), hdDef "with_hour" (topSt 28), hdDef "_law_well" (topSt 30), hdDef "_law_draw" (topSt 31), hdDef "_law_of" (topSt 32), hdDef "_law_is" (topSt 33), hdDef "_law_tower" (topSt 34), hdDef "_law_no_tower" (topSt 35), hdDef "_law_refused" (topSt 36), hdDef "_law_right" (topSt 37), hdDef "law" (topSt 38), dMeth0 "InvalidTower" "InvalidTower.__init__" (clsMeth0 (topSt 2) 0), dMeth0 "InvalidNumber" "InvalidNumber.__init__" (clsMeth0 (topSt 3) 0), dMeth0 "OutOfRange" "OutOfRange.__init__" (clsMeth0 (topSt 4) 0)]
def hFa : List He.Fa := [.glo "is_whole", .glo "is_number", .glo "is_tuple_of", .glo "wrong_at", .glo "wrong_from_one", .glo "is_hour_form", .glo "is_tower_form", .glo "widths_of", .glo "tower_with", .glo "check_number", .glo "check_tower", .glo "check_hour_of", .glo "is_tower", .glo "hours_number", .glo "widths", .glo "with_holds", .glo "with_hour", .glo "_law_well", .glo "_law_draw", .glo "_law_of", .glo "_law_is", .glo "_law_tower", .glo "_law_no_tower", .glo "_law_refused", .glo "_law_right", .glo "law", .int "MOST_HOLDS" (60), .int "MOST_HOURS" (12), .int "MOST_IN_HOUR" (30), .free "abs", .free "all", .free "bool", .free "divmod", .free "enumerate", .free "int", .free "isinstance", .free "len", .free "list", .free "max", .free "min", .free "range", .free "repr", .free "tuple", .glo "InvalidTower", .glo "InvalidNumber", .glo "OutOfRange", .exm "InvalidTower" "InvalidTower" true, .exm "InvalidNumber" "InvalidTower" false, .exm "InvalidNumber" "InvalidNumber" true, .exm "OutOfRange" "InvalidTower" false, .exm "OutOfRange" "InvalidNumber" false, .exm "OutOfRange" "OutOfRange" true]
def hTf : List He.Defn := [("is_tower_form", none), ("_law_right", none)]
def hLo0 : List Str := ["TowerError", "InvalidTower", "InvalidNumber", "OutOfRange", "is_whole", "is_number", "is_tuple_of", "wrong_at", "wrong_from_one", "MOST_HOLDS", "MOST_HOURS", "MOST_IN_HOUR", "is_hour_form", "is_tower_form", "widths_of", "tower_with", "check_number", "check_tower", "check_hour_of", "is_tower", "hours_number", "widths", "with_holds", "with_hour", "_law_well", "_law_draw", "_law_of", "_law_is", "_law_tower", "_law_no_tower"]
def hLo1 : List Str := ["_law_refused", "_law_right"]
def hLo : List Str := hLo0 ++ hLo1 ++ (["__name__"] : List Str)
abbrev hRow : PySem.W.OpenRow := PySem.W.OpenLaw.row PySem.Challenge.rw_towerlooks_k03_whole_towers_changed
abbrev hQ : Program := PySem.W.view hRow.prog [38]
abbrev hHk : PySem.W.Hook := He.hookX 5 hFa hFn [] hTf hEx
def hOb (s : PySem.W.SharedT) : He.AlX := He.obsX 5 hFa hFn [] hTf hEx (HandSHeadRun.getT s)
theorem hOb_eq (s : PySem.W.SharedT) : hOb s = hHk.obs s.abs := He.obsX_eq (HandSHeadRun.getT_eq s)
theorem hRun (w : World) : HandSHeadRun.RunEq hRow hQ hHk hOb 6000 hLo w := by
  intro os
  kernel_rfl
end TL
namespace TL
open PySem PySem.Spec PyProof.Rows L2 LamX NdefX

/-! ### ghosts: what data stands at an address -/
inductive GV where
  | dat (d : PyData)
  | well
abbrev Gh := Addr → Option GV

/-- flat values -/
inductive RepF : V → PyData → Prop
  | non : RepF .non .none
  | bl (b : Bool) : RepF (.bl b) (.bool b)
  | int (i : Int) : RepF (.int i) (.int i)
  | str (x : Str) : RepF (.str x) (.str x)
inductive RepV (K : PySem.W.Frag) (g : Gh) : V → PyData → Prop
  | non : RepV K g .non .none
  | bl (b : Bool) : RepV K g (.bl b) (.bool b)
  | int (i : Int) : RepV K g (.int i) (.int i)
  | str (x : Str) : RepV K g (.str x) (.str x)
  | ref {a : Addr} {d : PyData} (h : g a = some (.dat d)) : RepV K g (.ref a) d
  | kl {a : Addr} {vs : List V} {ds : List PyData} (h : ∀ H, SqL K H a vs) (hv : Paired RepF vs ds) : RepV K g (.ref a) (.list ds)
abbrev RepVs (K : PySem.W.Frag) (g : Gh) := Paired (RepV K g)
theorem RepF.v {K : PySem.W.Frag} {g : Gh} {v : V} {d : PyData} (h : RepF v d) : RepV K g v d := by
  cases h
  · exact .non
  · exact .bl _
  · exact .int _
  · exact .str _
/-- what a ghost says of the heap -/
def GEnt (K : PySem.W.Frag) (g : Gh) (H : Hp) (a : Addr) : GV → Prop
  | .well => ∃ c0 c1 c2 : Int, H a = some (.lst [.int c0, .int c1, .int c2])
  | .dat (.tuple ds) => ∃ vs, Rd H a (.tup vs) ∧ RepVs K g vs ds
  | .dat (.list ds) => ∃ vs, Rd H a (.lst vs) ∧ RepVs K g vs ds
  | _ => False
def GOk (K : PySem.W.Frag) (g : Gh) (H : Hp) : Prop := ∀ a u, g a = some u → GEnt K g H a u

def gup (g : Gh) (a : Addr) (u : GV) : Gh := fun b => if b = a then some u else g b
theorem gup_same {g : Gh} {a : Addr} {u : GV} : gup g a u a = some u := if_pos rfl
theorem gup_ne {g : Gh} {a b : Addr} {u : GV} (h : b ≠ a) : gup g a u b = g b := if_neg h

theorem RepV.mono {K : PySem.W.Frag} {g g' : Gh} (h : ∀ a u, g a = some u → g' a = some u) {v : V} {d : PyData} (r : RepV K g v d) : RepV K g' v d := by
  cases r with
  | non => exact .non
  | bl b => exact .bl b
  | int i => exact .int i
  | str x => exact .str x
  | ref e => exact .ref (h _ _ e)
  | kl a b => exact .kl a b
theorem RepVs.mono {K : PySem.W.Frag} {g g' : Gh} (h : ∀ a u, g a = some u → g' a = some u) {v : List V} {d : List PyData} (r : RepVs K g v d) : RepVs K g' v d := Paired.mapP r fun _ _ z => z.mono h

/-- the fixed things of one law's run -/
structure CC where
  P : Program
  w : World
  K : PySem.W.Frag
  mg : Str → Option Value
  base : Heap
  T : List Addr
  nm : Nat → Nat → Str

/-- the tables of code objects -/
def Tbs (C : CC) (H : Hp) : Prop := ∀ P ∈ C.T, TabN H P C.nm
def StOk (C : CC) (g : Gh) (H : Hp) : Prop := GOk C.K g H ∧ Tbs C H

structure Gr (g : Gh) (H : Hp) (g' : Gh) (H' : Hp) : Prop where
  gm : ∀ a u, g a = some u → g' a = some u
  km : ∀ a o, H a = some o → g' a = g a
  hm : ∀ a o, H a = some o → g a ≠ some .well → (∀ ps, o ≠ .tbl ps) → H' a = some o
  nm : ∀ a, H' a = none → H a = none
theorem Gr.refl {g : Gh} {H : Hp} : Gr g H g H := ⟨fun _ _ h => h, fun _ _ _ => rfl, fun _ _ h _ _ => h, fun _ h => h⟩
theorem Gr.trans {g g1 g2 : Gh} {H H1 H2 : Hp} (a : Gr g H g1 H1) (b : Gr g1 H1 g2 H2) : Gr g H g2 H2 := by
  refine ⟨fun x u h => b.gm x u (a.gm x u h), fun x o h => ?_, fun x o h h1 h2 => ?_, fun x h => a.nm x (b.nm x h)⟩
  · cases e : H1 x with
    | none => rw [a.nm x e] at h; cases h
    | some o1 => rw [b.km x o1 e, a.km x o h]
  · exact b.hm x o (a.hm x o h h1 h2) (by rw [a.km x o h]; exact h1) h2

theorem GOk.tracked {K : PySem.W.Frag} {g : Gh} {H : Hp} (ok : GOk K g H) {a : Addr} {u : GV} (e : g a = some u) : ∃ o, H a = some o := by
  have h := ok a u e
  cases u with
  | well => obtain ⟨_, _, _, z⟩ := h; exact ⟨_, z⟩
  | dat d =>
    cases d with
    | tuple ds => obtain ⟨_, z | ⟨o, z⟩, _⟩ := h <;> exact ⟨_, z⟩
    | list ds => obtain ⟨_, z | ⟨o, z⟩, _⟩ := h <;> exact ⟨_, z⟩
    | _ => exact h.elim
theorem GOk.none_of {K : PySem.W.Frag} {g : Gh} {H : Hp} (ok : GOk K g H) {a : Addr} (e : H a = none) : g a = none := by
  cases q : g a with
  | none => rfl
  | some u => obtain ⟨o, z⟩ := ok.tracked q; rw [e] at z; cases z

/-- the heap grows by an object that no ghost tells -/
theorem Gr.fresh {g : Gh} {H : Hp} {p : Addr} {o : HO} (hp : H p = none) : Gr g H g (upd H p o) :=
  ⟨fun _ _ h => h, fun _ _ _ => rfl, fun a _ h _ _ => by rw [upd_ne (ne_of_none h hp)]; exact h, fun a h => by
    unfold upd at h
    split at h
    · cases h
    · exact h⟩
theorem Gr.gfresh {K : PySem.W.Frag} {g : Gh} {H : Hp} {p : Addr} {o : HO} {u : GV} (ok : GOk K g H) (hp : H p = none) : Gr g H (gup g p u) (upd H p o) := by
  have gp : g p = none := ok.none_of hp
  refine ⟨fun a w h => ?_, fun a x h => gup_ne (ne_of_none h hp), (Gr.fresh hp).hm, (Gr.fresh (g := g) hp).nm⟩
  rw [gup_ne (fun e => by rw [e, gp] at h; cases h)]
  exact h
theorem Rd.upd {H : Hp} {a p : Addr} {o u : HO} (r : Rd H a u) (hp : H p = none) : Rd (upd H p o) a u := by
  rcases r with r | ⟨x, r⟩
  · exact .inl (by rw [upd_ne (ne_of_none r hp)]; exact r)
  · exact .inr ⟨x, by rw [upd_ne (ne_of_none r hp)]; exact r⟩
theorem GEnt.mono {K : PySem.W.Frag} {g g' : Gh} {H H' : Hp} {a : Addr} {u : GV} (hg : ∀ a u, g a = some u → g' a = some u) (hh : ∀ o, H a = some o → H' a = some o) (x : GEnt K g H a u) : GEnt K g' H' a u := by
  have rd : ∀ {o : HO}, Rd H a o → Rd H' a o := fun r => r.elim (fun r => .inl (hh _ r)) fun ⟨x, r⟩ => .inr ⟨x, hh _ r⟩
  cases u with
  | well => obtain ⟨c0, c1, c2, z⟩ := x; exact ⟨c0, c1, c2, hh _ z⟩
  | dat d =>
    cases d with
    | tuple ds => obtain ⟨vs, z, q⟩ := x; exact ⟨vs, rd z, RepVs.mono hg q⟩
    | list ds => obtain ⟨vs, z, q⟩ := x; exact ⟨vs, rd z, RepVs.mono hg q⟩
    | _ => exact x.elim
theorem GOk.fresh {K : PySem.W.Frag} {g : Gh} {H : Hp} {p : Addr} {o : HO} (ok : GOk K g H) (hp : H p = none) : GOk K g (upd H p o) := fun a u e =>
  (ok a u e).mono (fun _ _ h => h) fun o' h => by rw [upd_ne (ne_of_none h hp)]; exact h
theorem GOk.gfresh {K : PySem.W.Frag} {g : Gh} {H : Hp} {p : Addr} {o : HO} {u : GV} (ok : GOk K g H) (hp : H p = none) (new : GEnt K (gup g p u) (upd H p o) p u) : GOk K (gup g p u) (upd H p o) := fun a w e => by
  have mono : ∀ a u', g a = some u' → gup g p u a = some u' := (Gr.gfresh (o := o) (u := u) ok hp).gm
  by_cases ha : a = p
  · subst ha; rw [gup_same] at e; cases e; exact new
  · rw [gup_ne ha] at e
    exact (ok a w e).mono mono fun o' h => by rw [upd_ne (ne_of_none h hp)]; exact h
theorem Tbs.fresh {C : CC} {H : Hp} {p : Addr} {o : HO} (t : Tbs C H) (hp : H p = none) : Tbs C (upd H p o) := fun P hP => (t P hP).ext fun b u e => by rw [upd_ne (ne_of_none e hp)]; exact e
theorem StOk.fresh {C : CC} {g : Gh} {H : Hp} {p : Addr} {o : HO} (s : StOk C g H) (hp : H p = none) : StOk C g (upd H p o) := ⟨s.1.fresh hp, Tbs.fresh s.2 hp⟩

/-! ### values of the readings -/
abbrev Beh := List PyData → (PyData → Prop) → Prop
/-- what an error of the text is: its class's name, its field and what it keeps -/
abbrev XD := Str × PyData
abbrev BehR := List PyData → (PyData → Prop) → (XD → Prop) → Prop
/-- dat: data; clo: a function of a level with its behaviour; well: a source of draws; brw: a list that a name owns, looked at; new: a list just made -/
inductive AV where
  | dat (d : PyData)
  | clo (k : Nat) (b : Beh)
  | well
  | brw (l : List PyData)
  | new (l : List PyData)
  | clr (k : Nat) (b : BehR)
def OwnL (K : PySem.W.Frag) (g : Gh) (H : Hp) (v : V) (l : List PyData) : Prop := ∃ p vs, v = .ref p ∧ g p = none ∧ H p = some (.lst vs) ∧ RepVs K g vs l
/-- an error's class and dict, and what it tells -/
def ExcR (C : CC) (g : Gh) (H : Hp) (cls : Value) (d : Option Addr) (x : XD) : Prop := C.mg x.1 = some cls ∧ ((d = none ∧ x.2 = .tuple []) ∨ ∃ (dd : Addr) (f : Str) (v : V) (p : PyData), d = some dd ∧ H dd = some (.xd [(f, v)]) ∧ x.2 = .tuple [.str f, p] ∧ RepV C.K g v p)
/-- what comes of a call begun at g, H that lets an error out -/
def ResX (C : CC) (g : Gh) (H : Hp) (Ed : XD → Prop) (cls : Value) (d : Option Addr) (H' : Hp) : Prop := ∃ x g', Ed x ∧ Gr g H g' H' ∧ StOk C g' H' ∧ ExcR C g' H' cls d x
/-- a function object with a behaviour that may let errors out -/
structure CloR (C : CC) (g : Gh) (H : Hp) (f : Addr) (k : Nat) (b : BehR) : Prop where
  ex : ∃ L : List (Addr × HO), (∀ p ∈ L, H p.1 = some p.2 ∧ g p.1 = none ∧ (∀ ps, p.2 ≠ .tbl ps) ∧ ∀ xs, p.2 ≠ .lst xs) ∧
    (∀ (H1 : Hp) (h : Heap), HOk C.P C.w H1 h → (∀ p ∈ L, H1 p.1 = some p.2) → PySem.W.FnAt f h) ∧
    ∀ (A : Around) (outer : List Env) (s : Shared) (H1 : Hp) (g1 : Gh) (us : List Value) (vs : List V) (ds : List PyData) (Qd : PyData → Prop) (Ed : XD → Prop), Room k A → A.guards = some [] → Env0 C.P C.w C.K C.mg C.base A outer s H1 → (∀ p ∈ L, H1 p.1 = some p.2) →
      (∀ a u, g a = some u → g1 a = some u) → StOk C g1 H1 → Vals vs us → RepVs C.K g1 vs ds → b ds Qd Ed →
      codeAny (model C.P C.w) A (.call (.ref f) ⟨us, []⟩) (CR (L2.CX C.P C.w) outer C.P C.w H1 s (fun v H' => ∃ d g', Qd d ∧ Gr g1 H1 g' H' ∧ StOk C g' H' ∧ RepV C.K g' v d) (ResX C g1 H1 Ed)) s
/-- a function object with a behaviour -/
structure CloOk (C : CC) (g : Gh) (H : Hp) (f : Addr) (k : Nat) (b : Beh) : Prop where
  ex : ∃ L : List (Addr × HO), (∀ p ∈ L, H p.1 = some p.2 ∧ g p.1 = none ∧ (∀ ps, p.2 ≠ .tbl ps) ∧ ∀ xs, p.2 ≠ .lst xs) ∧
    (∀ (H1 : Hp) (h : Heap), HOk C.P C.w H1 h → (∀ p ∈ L, H1 p.1 = some p.2) → PySem.W.FnAt f h) ∧
    ∀ (A : Around) (outer : List Env) (s : Shared) (H1 : Hp) (g1 : Gh) (us : List Value) (vs : List V) (ds : List PyData) (Qd : PyData → Prop), Room k A → A.guards = some [] → Env0 C.P C.w C.K C.mg C.base A outer s H1 → (∀ p ∈ L, H1 p.1 = some p.2) →
      (∀ a u, g a = some u → g1 a = some u) → StOk C g1 H1 → Vals vs us → RepVs C.K g1 vs ds → b ds Qd →
      codeAny (model C.P C.w) A (.call (.ref f) ⟨us, []⟩) (CR CX0 outer C.P C.w H1 s (fun v H' => ∃ d g', Qd d ∧ Gr g1 H1 g' H' ∧ StOk C g' H' ∧ RepV C.K g' v d) E0) s
def RepA (C : CC) (g : Gh) (H : Hp) (v : V) : AV → Prop
  | .dat d => RepV C.K g v d
  | .clo k b => ∃ f, v = .ref f ∧ CloOk C g H f k b
  | .well => ∃ a, v = .ref a ∧ g a = some .well
  | .brw l => OwnL C.K g H v l
  | .new l => OwnL C.K g H v l
  | .clr k b => ∃ f, v = .ref f ∧ CloR C g H f k b
theorem OwnL.fr {K : PySem.W.Frag} {g g' : Gh} {H H' : Hp} {v : V} {l : List PyData} (f : Gr g H g' H') (o : OwnL K g H v l) : OwnL K g' H' v l := by
  obtain ⟨p, vs, e, n, h, r⟩ := o
  refine ⟨p, vs, e, by rw [f.km _ _ h]; exact n, f.hm _ _ h (by rw [n]; exact fun z => by cases z) (fun ps z => by cases z), RepVs.mono f.gm r⟩
theorem CloOk.fr {C : CC} {g g' : Gh} {H H' : Hp} {f : Addr} {k : Nat} {b : Beh} (r : Gr g H g' H') (c : CloOk C g H f k b) : CloOk C g' H' f k b := by
  obtain ⟨L, h1, h2, h3⟩ := c.ex
  refine ⟨L, fun p hp => ?_, h2, fun A outer s H1 g1 us vs ds Qd a b c d e => h3 A outer s H1 g1 us vs ds Qd a b c d fun x u z => e x u (r.gm x u z)⟩
  obtain ⟨a, b, c, d⟩ := h1 p hp
  exact ⟨r.hm _ _ a (by rw [b]; exact fun z => by cases z) c, by rw [r.km _ _ a]; exact b, c, d⟩
theorem CloR.fr {C : CC} {g g' : Gh} {H H' : Hp} {f : Addr} {k : Nat} {b : BehR} (r : Gr g H g' H') (c : CloR C g H f k b) : CloR C g' H' f k b := by
  obtain ⟨L, h1, h2, h3⟩ := c.ex
  refine ⟨L, fun p hp => ?_, h2, fun A outer s H1 g1 us vs ds Qd Ed a b c d e => h3 A outer s H1 g1 us vs ds Qd Ed a b c d fun x u z => e x u (r.gm x u z)⟩
  obtain ⟨a, b, c, d⟩ := h1 p hp
  exact ⟨r.hm _ _ a (by rw [b]; exact fun z => by cases z) c, by rw [r.km _ _ a]; exact b, c, d⟩
theorem RepA.fr {C : CC} {g g' : Gh} {H H' : Hp} (f : Gr g H g' H') {v : V} {a : AV} (r : RepA C g H v a) : RepA C g' H' v a := by
  cases a with
  | dat d => exact RepV.mono f.gm r
  | clo k b => obtain ⟨x, e, c⟩ := r; exact ⟨x, e, c.fr f⟩
  | well => obtain ⟨x, e, c⟩ := r; exact ⟨x, e, f.gm _ _ c⟩
  | brw l => exact OwnL.fr f r
  | new l => exact OwnL.fr f r
  | clr k b => obtain ⟨x, e, c⟩ := r; exact ⟨x, e, c.fr f⟩

/-! ### environments -/
inductive SL where
  | av (a : AV)
  | own (l : List PyData)
abbrev En := List (Option SL)
structure Base where
  g : Gh
  H : Hp
def RepS (C : CC) (B : Base) (g : Gh) (H : Hp) (v : V) : SL → Prop
  | .av (.dat d) => RepA C g H v (.dat d)
  | .av (.clo k b) => RepA C g H v (.clo k b)
  | .av .well => RepA C g H v .well
  | .av (.clr k b) => RepA C g H v (.clr k b)
  | .av _ => False
  | .own l => OwnL C.K g H v l ∧ ∀ p, v = .ref p → B.H p = none
structure EnvOk (C : CC) (B : Base) (g : Gh) (H : Hp) (σ : L2.St) (env : En) : Prop where
  len : σ.length = env.length
  at_ : ∀ (i : Nat) (s : SL), env[i]? = some (some s) → ∃ v, σ[i]? = some (some v) ∧ RepS C B g H v s
  sep : ∀ (i j : Nat) (l m : List PyData) (a : Addr), env[i]? = some (some (.own l)) → env[j]? = some (some (.own m)) → σ[i]? = some (some (.ref a)) → σ[j]? = some (some (.ref a)) → i = j
theorem RepS.fr {C : CC} {B : Base} {g g' : Gh} {H H' : Hp} (f : Gr g H g' H') {v : V} {s : SL} (r : RepS C B g H v s) : RepS C B g' H' v s := by
  cases s with
  | av a =>
    cases a with
    | dat d => exact RepA.fr (a := .dat d) f r
    | clo k b => exact RepA.fr (a := .clo k b) f r
    | well => exact RepA.fr (C := C) (a := .well) f r
    | clr k b => exact RepA.fr (a := .clr k b) f r
    | _ => exact r.elim
  | own l => exact ⟨OwnL.fr f r.1, r.2⟩
theorem EnvOk.fr {C : CC} {B : Base} {g g' : Gh} {H H' : Hp} {σ : L2.St} {env : En} (f : Gr g H g' H') (e : EnvOk C B g H σ env) : EnvOk C B g' H' σ env :=
  ⟨e.len, fun i s h => let ⟨v, a, b⟩ := e.at_ i s h; ⟨v, a, b.fr f⟩, e.sep⟩

/-! ### readings -/
abbrev TEd := En → (AV → Prop) → (XD → Prop) → Prop
abbrev TTd := En → (Bool → Prop) → (XD → Prop) → Prop
abbrev TAd := En → (List AV → Prop) → (XD → Prop) → Prop
structure EndsD where
  nx : En → Prop
  rt : AV → Prop
  bk : En → Prop := fun _ => False
  ct : En → Prop := fun _ => False
abbrev TSd := EndsD → En → (XD → Prop) → Prop
abbrev XF : XD → Prop := fun _ => False

/-- what comes of an expression begun at g, H -/
def Res (C : CC) (g : Gh) (H : Hp) (Qd : AV → Prop) (v : V) (H' : Hp) : Prop :=
  ∃ a g', Qd a ∧ Gr g H g' H' ∧ StOk C g' H' ∧ RepA C g' H' v a ∧ ∀ l, a = .new l → ∃ p, v = .ref p ∧ H p = none
def tD (C : CC) (B : Base) (t : TEd) : TE := fun σ H Q => ∃ g env Qd, StOk C g H ∧ EnvOk C B g H σ env ∧ t env Qd XF ∧ ∀ v H', Res C g H Qd v H' → Q v H'
def tDT (C : CC) (B : Base) (t : TTd) : TT := fun σ H Q => ∃ g env Qd, StOk C g H ∧ EnvOk C B g H σ env ∧ t env Qd XF ∧ ∀ b g' H', Qd b → Gr g H g' H' → StOk C g' H' → Q b H'
def tDA (C : CC) (B : Base) (t : TAd) : TA := fun σ H Q => ∃ g env Qd, StOk C g H ∧ EnvOk C B g H σ env ∧ t env Qd XF ∧ ∀ vs as g' H', Qd as → Gr g H g' H' → StOk C g' H' → Paired (RepA C g' H') vs as → Q vs H'

abbrev DE (C : CC) (B : Base) (X : Cx) (e : Expr) (t : TEd) : Prop := PE X e (tD C B t)
abbrev DT (C : CC) (B : Base) (X : Cx) (e : Expr) (t : TTd) : Prop := PT X e (tDT C B t)
abbrev DA (C : CC) (B : Base) (X : Cx) (e : List Expr) (t : TAd) : Prop := PA X e (tDA C B t)
theorem peW {X : Cx} {e : Expr} {t t' : TE} (h : PE X e t) (w : ∀ σ H Q, t' σ H Q → t σ H Q) : PE X e t' := ⟨fun pins s σ H Q I q => h.run pins s σ H Q I (w σ H Q q)⟩
theorem ptW {X : Cx} {e : Expr} {t t' : TT} (h : PT X e t) (w : ∀ σ H Q, t' σ H Q → t σ H Q) : PT X e t' := ⟨fun pins s σ H Q I q => h.run pins s σ H Q I (w σ H Q q)⟩
theorem paW {X : Cx} {e : List Expr} {t t' : TA} (h : PA X e t) (w : ∀ σ H Q, t' σ H Q → t σ H Q) : PA X e t' := ⟨fun pos pins s σ H Q I q => h.run pos pins s σ H Q I (w σ H Q q)⟩
theorem psW {X : Cx} {e : Stmt} {t t' : TS} (h : PS X e t) (w : ∀ D σ H, t' D σ H → t D σ H) : PS X e t' := ⟨fun pins s σ H D I q => h.run pins s σ H D I (w D σ H q)⟩
theorem pssW {X : Cx} {e : List Stmt} {t t' : TS} (h : PSs X e t) (w : ∀ D σ H, t' D σ H → t D σ H) : PSs X e t' := ⟨fun pins s σ H D I q => h.run pins s σ H D I (w D σ H q)⟩

/-- what may be read of a value -/
def AV.rd : AV → Option PyData
  | .dat d => some d
  | .brw l => some (.list l)
  | .new l => some (.list l)
  | _ => none
/-- data read: flat, or a list or tuple to be read at an address -/
inductive RepB (K : PySem.W.Frag) (g : Gh) (H : Hp) : V → PyData → Prop
  | fl {v : V} {d : PyData} (h : RepF v d) : RepB K g H v d
  | tup {a : Addr} {vs : List V} {ds : List PyData} (r : RepV K g (.ref a) (.tuple ds)) (h : SqT K H a vs) (hv : RepVs K g vs ds) : RepB K g H (.ref a) (.tuple ds)
  | lst {a : Addr} {vs : List V} {ds : List PyData} (h : SqL K H a vs) (hv : RepVs K g vs ds) : RepB K g H (.ref a) (.list ds)
theorem RepV.b {K : PySem.W.Frag} {g : Gh} {H : Hp} {v : V} {d : PyData} (ok : GOk K g H) (r : RepV K g v d) : RepB K g H v d := by
  cases r with
  | non => exact .fl .non
  | bl b => exact .fl (.bl b)
  | int i => exact .fl (.int i)
  | str x => exact .fl (.str x)
  | ref e =>
    have h := ok _ _ e
    cases d with
    | tuple ds => obtain ⟨vs, z, q⟩ := h; exact .tup (.ref e) (.inl z) q
    | list ds => obtain ⟨vs, z, q⟩ := h; exact .lst (.inl z) q
    | _ => exact h.elim
  | kl a b => exact .lst (a H) (Paired.mapP b fun _ _ z => z.v)
theorem RepA.b {C : CC} {g : Gh} {H : Hp} {v : V} {a : AV} {d : PyData} (ok : StOk C g H) (r : RepA C g H v a) (e : a.rd = some d) : RepB C.K g H v d := by
  cases a with
  | dat d' => cases e; exact RepV.b ok.1 r
  | clo k b => cases e
  | well => cases e
  | clr k b => cases e
  | brw l => cases e; obtain ⟨p, vs, e1, n, h, q⟩ := r; subst e1; exact .lst (.inl (.inl h)) q
  | new l => cases e; obtain ⟨p, vs, e1, n, h, q⟩ := r; subst e1; exact .lst (.inl (.inl h)) q
/-- to be stored: a new list is frozen -/
def AV.st : AV → Option AV
  | .dat d => some (.dat d)
  | .new l => some (.dat (.list l))
  | .clo k b => some (.clo k b)
  | .clr k b => some (.clr k b)
  | .well => some .well
  | .brw _ => none
def AV.sd : AV → Option PyData
  | .dat d => some d
  | .new l => some (.list l)
  | _ => none
end TL
namespace TL
open PySem PySem.Spec PyProof.Rows L2 LamX NdefX

/-! ### what comes of an operation on values -/
def ResV (C : CC) (g : Gh) (H : Hp) (a : AV) (v : V) (H' : Hp) : Prop :=
  ∃ g', Gr g H g' H' ∧ StOk C g' H' ∧ RepA C g' H' v a ∧ ∀ l, a = .new l → ∃ p, v = .ref p ∧ H p = none
section
variable {C : CC} {g g1 : Gh} {H H1 : Hp} {a : AV} {v : V} {Qd : AV → Prop}
theorem ResV.flat (st : StOk C g H) {d : PyData} (r : RepF v d) : ResV C g H (.dat d) v H := ⟨g, .refl, st, r.v, fun _ z => by cases z⟩
theorem ResV.same (st : StOk C g H) {d : PyData} (r : RepV C.K g v d) : ResV C g H (.dat d) v H := ⟨g, .refl, st, r, fun _ z => by cases z⟩
theorem ResV.tup (st : StOk C g H) {p : Addr} {vs : List V} {ds : List PyData} (hp : H p = none) (r : RepVs C.K g vs ds) : ResV C g H (.dat (.tuple ds)) (.ref p) (upd H p (.tup vs)) := by
  have f := Gr.gfresh (o := .tup vs) (u := .dat (.tuple ds)) st.1 hp
  refine ⟨gup g p (.dat (.tuple ds)), f, ⟨st.1.gfresh hp ⟨vs, .inl upd_same, RepVs.mono f.gm r⟩, Tbs.fresh st.2 hp⟩, .ref gup_same, fun _ z => by cases z⟩
theorem ResV.new (st : StOk C g H) {p : Addr} {vs : List V} {ds : List PyData} (hp : H p = none) (r : RepVs C.K g vs ds) : ResV C g H (.new ds) (.ref p) (upd H p (.lst vs)) :=
  ⟨g, Gr.fresh hp, st.fresh hp, ⟨p, vs, rfl, st.1.none_of hp, upd_same, r⟩, fun _ _ => ⟨p, rfl, hp⟩⟩
theorem ResV.fin {v : V} {H' : Hp} (f : Gr g H g1 H1) (r : ResV C g1 H1 a v H') (q : Qd a) : Res C g H Qd v H' := by
  obtain ⟨g', f', st', r', n⟩ := r
  exact ⟨a, g', q, f.trans f', st', r', fun l e => let ⟨p, e1, e2⟩ := n l e; ⟨p, e1, f.nm p e2⟩⟩
end

/-! ### names, constants -/
def eVar (i : Nat) : TEd := fun env Q _ => match env[i]? with
  | some (some (.av a)) => Q a
  | some (some (.own l)) => Q (.brw l)
  | _ => False
def eC (d : PyData) : TEd := fun _ Q _ => Q (.dat d)
section
variable {C : CC} {B : Base} {X : Cx} {a b c : Expr} {ta tb tc : TEd} {pos : Pos}
theorem de_var {i : Nat} {x : Str} (hN : X.N[i]? = some x) (hv : Vis X.env.scope x) (hd : (x == ("__debug__" : Str)) = false) (hcd : (x == ("__classdict__" : Str)) = false) : DE C B X (.Name x pos) (eVar i) := by
  refine peW (pe_var hN hv hd hcd) fun σ H Q => ?_
  rintro ⟨g, env, Qd, st, eo, h, k⟩
  unfold eVar at h
  split at h
  · rename_i e
    obtain ⟨v, hv, r⟩ := eo.at_ _ _ e
    refine ⟨v, hv, k v H ⟨_, g, h, .refl, st, ?_, ?_⟩⟩
    · rename_i a
      cases a <;> first | exact r | exact (show False from r).elim
    · rintro l rfl
      exact (show False from r).elim
  · rename_i e
    obtain ⟨v, hv, r⟩ := eo.at_ _ _ e
    exact ⟨v, hv, k v H ⟨_, g, h, .refl, st, r.1, fun _ z => by cases z⟩⟩
  · exact h.elim
theorem de_const {e : Expr} {v : V} {d : PyData} (h : PE X e (tC v)) (r : RepF v d) : DE C B X e (eC d) := by
  refine peW h fun σ H Q => ?_
  rintro ⟨g, env, Qd, st, eo, h, k⟩
  exact k v H ⟨_, g, h, .refl, st, r.v, fun _ z => by cases z⟩
theorem de_int {i j} : DE C B X (.Constant (.int i) j pos) (eC (.int i)) := de_const pe_int (.int i)
theorem de_bl {i j} : DE C B X (.Constant (.bool i) j pos) (eC (.bool i)) := de_const pe_bl (.bl i)
theorem de_non {j} : DE C B X (.Constant .none j pos) (eC .none) := de_const pe_non .non
theorem de_str {x j} : DE C B X (.Constant (.str x) j pos) (eC (.str x)) := de_const pe_str (.str x)
theorem de_gint {x : Str} {i : Int} (hg : Gl X x) (hm : ∃ t, X.mg x = some (.int i t)) (hd : (x == ("__debug__" : Str)) = false) : DE C B X (.Name x pos) (eC (.int i)) :=
  let ⟨t, h⟩ := hm
  de_const (pe_glob hg h (v := .int i) ⟨t, rfl⟩ hd) (.int i)
theorem de_gstr {x z : Str} (hg : Gl X x) (hm : ∃ t, X.mg x = some (.str z t)) (hd : (x == ("__debug__" : Str)) = false) : DE C B X (.Name x pos) (eC (.str z)) :=
  let ⟨t, h⟩ := hm
  de_const (pe_glob hg h (v := .str z) ⟨t, rfl⟩ hd) (.str z)

/-! ### operations on two data -/
abbrev Op2 := PyData → PyData → Option AV
def ap2 (f : Op2) (x y : AV) (Q : AV → Prop) : Prop := match x.rd, y.rd with
  | some dx, some dy => (match f dx dy with
    | some a => Q a
    | none => False)
  | _, _ => False
theorem ap2_get {f : Op2} {x y : AV} {Q : AV → Prop} (h : ap2 f x y Q) : ∃ dx dy a, x.rd = some dx ∧ y.rd = some dy ∧ f dx dy = some a ∧ Q a := by
  unfold ap2 at h
  split at h
  · rename_i dx dy e1 e2
    split at h
    · rename_i a e
      exact ⟨dx, dy, a, e1, e2, e, h⟩
    · exact h.elim
  · exact h.elim
def eOp (f : Op2) (ta tb : TEd) : TEd := fun env Q E => ta env (fun x => tb env (fun y => ap2 f x y Q) E) E
/-- an operation's rule by data -/
def rD (C : CC) (f : Op2) : R2 := fun x y H Q => ∃ g dx dy a, StOk C g H ∧ RepB C.K g H x dx ∧ RepB C.K g H y dy ∧ f dx dy = some a ∧ ∀ v H', ResV C g H a v H' → Q v H'
theorem tOpD {f : Op2} {σ : L2.St} {H : Hp} {Q : VK} (h : tD C B (eOp f ta tb) σ H Q) : tOp (rD C f) (tD C B ta) (tD C B tb) σ H Q := by
  obtain ⟨g, env, Qd, st, eo, h, k⟩ := h
  refine ⟨g, env, _, st, eo, h, fun v H1 ⟨x, g1, hx, f1, st1, r1, n1⟩ => ?_⟩
  refine ⟨g1, env, _, st1, eo.fr f1, hx, fun w H2 ⟨y, g2, hy, f2, st2, r2, n2⟩ => ?_⟩
  obtain ⟨dx, dy, a, ex, ey, ea, q⟩ := ap2_get hy
  exact ⟨g2, dx, dy, a, st2, (r1.fr f2).b st2 ex, r2.b st2 ey, ea, fun z H3 r => k z H3 (r.fin (f1.trans f2) q)⟩
theorem de_op {op : Operator} {f : Op2} (ho : OpR X (binaryOp op) (rD C f)) (ha : DE C B X a ta) (hb : DE C B X b tb) : DE C B X (.BinOp a op b pos) (eOp f ta tb) := peW (pe_op ho ha hb) fun _ _ _ => tOpD
theorem de_cmp {op : CmpOp} {f : Op2} (ho : OpR X (compareOp op) (rD C f)) (ha : DE C B X a ta) (hb : DE C B X b tb) (hm : behindInMarks op b = false) : DE C B X (.Compare a [op] [b] pos) (eOp f ta tb) := peW (pe_cmpR ho ha hb hm) fun _ _ _ => tOpD

/-- a test by a value that is True or False -/
def tB (t : TEd) : TTd := fun env Q E => t env (fun a => match a with
  | .dat (.bool b) => Q b
  | _ => False) E
theorem tBD {t : TEd} {σ : L2.St} {H : Hp} {Q : Bool → Hp → Prop} (h : tDT C B (tB t) σ H Q) : tD C B t σ H fun x H' => ∃ k, x = .bl k ∧ Q k H' := by
  obtain ⟨g, env, Qd, st, eo, h, k⟩ := h
  refine ⟨g, env, _, st, eo, h, fun v H' ⟨a, g', q, f, st', r, _⟩ => ?_⟩
  try dsimp only at q
  split at q
  · cases r with
    | bl b => exact ⟨_, rfl, k _ g' H' q f st'⟩
    | ref e => exact ((st'.1 _ _ e : False)).elim
  · exact q.elim
theorem dt_cmp {op : CmpOp} {f : Op2} (ho : OpR X (compareOp op) (rD C f)) (ha : DE C B X a ta) (hb : DE C B X b tb) (hm : behindInMarks op b = false) : DT C B X (.Compare a [op] [b] pos) (tB (eOp f ta tb)) := by
  refine ptW (pt_cmpR ho ha hb hm) fun σ H Q h => ?_
  obtain ⟨g, env, Qd, st, eo, h, k⟩ := h
  have h2 := tBD (C := C) (B := B) (t := eOp f ta tb) (σ := σ) (H := H) (Q := Q) ⟨g, env, Qd, st, eo, h, k⟩
  exact tOpD h2
/-- a value's truth -/
def truD : PyData → Option Bool
  | .none => some false
  | .bool b => some b
  | .int i => some (i != 0)
  | .list l => some (!l.isEmpty)
  | .tuple l => some (!l.isEmpty)
  | .str x => if x.length ≤ 16777216 then some ((x.length : Int) != 0) else none
  | _ => none
def tTru (t : TEd) : TTd := fun env Q E => t env (fun a => match a.rd with
  | some d => (match truD d with
    | some b => Q b
    | none => False)
  | none => False) E
theorem isEmpty_vs {K : PySem.W.Frag} {vs : List V} {ds : List PyData} (r : RepVs K g vs ds) : ds.isEmpty = vs.isEmpty := by
  cases r <;> rfl
theorem truV_of {K : PySem.W.Frag} {g : Gh} {H : Hp} {v : V} {d : PyData} {b : Bool} (r : RepB K g H v d) (e : truD d = some b) : TruV K v H b := by
  cases r with
  | fl h =>
    cases h with
    | non => cases e; rfl
    | bl b => cases e; rfl
    | int i => cases e; rfl
    | str x =>
      have e : (if x.length ≤ 16777216 then some ((x.length : Int) != 0) else none) = some b := e
      by_cases hx : x.length ≤ 16777216
      · rw [if_pos hx] at e
        cases e
        exact ⟨by rw [sizeLine_eq]; exact hx, rfl⟩
      · rw [if_neg hx] at e
        cases e
  | tup _ h hv =>
    cases e
    exact .inr (.inl ⟨_, h, by rw [isEmpty_vs hv]⟩)
  | lst h hv =>
    cases e
    exact .inl ⟨_, h, by rw [isEmpty_vs hv]⟩
theorem dt_tru (hK : X.K = C.K) (ha : DE C B X a ta) (he : ∀ whole, isTrue a X.env whole = (do let v ← whole; standAt a.pos; holding [v] (truthy v))) : DT C B X a (tTru ta) := by
  refine ptW (pt_truth ha he) fun σ H Q h => ?_
  obtain ⟨g, env, Qd, st, eo, h, k⟩ := h
  refine ⟨g, env, _, st, eo, h, fun v H' ⟨a, g', q, f, st', r, _⟩ => ?_⟩
  try dsimp only at q
  split at q
  · rename_i d ed
    try dsimp only at q
    split at q
    · rename_i b eb
      exact ⟨b, by rw [hK]; exact truV_of (r.b st' ed) eb, k _ g' H' q f st'⟩
    · exact q.elim
  · exact q.elim

/-! ### and, or, not, if -/
def tAndD (s t : TTd) : TTd := fun env Q E => s env (fun c => if c = true then t env Q E else Q false) E
def tOrD (s t : TTd) : TTd := fun env Q E => s env (fun c => if c = true then Q true else t env Q E) E
def tNotD (s : TTd) : TTd := fun env Q E => s env (fun c => Q (!c)) E
variable {sa sb : TTd} {rest : List Expr}
abbrev DW (C : CC) (B : Base) (X : Cx) (e : Expr) (t : TTd) : Prop := PW X e (tDT C B t)
theorem pwW {X : Cx} {e : Expr} {t t' : TT} (h : PW X e t) (w : ∀ σ H Q, t' σ H Q → t σ H Q) : PW X e t' := ⟨fun wh pins s σ H Q I q => h.run wh pins s σ H Q I (w σ H Q q)⟩
theorem dw_and1 (ha : DT C B X a sa) : DW C B X (.BoolOp .And [a] pos) sa := pw_and1 ha
theorem dw_or1 (ha : DT C B X a sa) : DW C B X (.BoolOp .Or [a] pos) sa := pw_or1 ha
theorem dw_and (ha : DT C B X a sa) (hb : DW C B X (.BoolOp .And (b :: rest) pos) sb) : DW C B X (.BoolOp .And (a :: b :: rest) pos) (tAndD sa sb) := by
  refine pwW (pw_and ha hb) fun σ H Q h => ?_
  obtain ⟨g, env, Qd, st, eo, h, k⟩ := h
  refine ⟨g, env, _, st, eo, h, fun c g1 H1 q f st1 => ?_⟩
  cases c with
  | false => exact iteF (k _ g1 H1 q f st1)
  | true => exact iteT ⟨g1, env, _, st1, eo.fr f, q, fun d g2 H2 q2 f2 st2 => k _ g2 H2 q2 (f.trans f2) st2⟩
theorem dw_or (ha : DT C B X a sa) (hb : DW C B X (.BoolOp .Or (b :: rest) pos) sb) : DW C B X (.BoolOp .Or (a :: b :: rest) pos) (tOrD sa sb) := by
  refine pwW (pw_or ha hb) fun σ H Q h => ?_
  obtain ⟨g, env, Qd, st, eo, h, k⟩ := h
  refine ⟨g, env, _, st, eo, h, fun c g1 H1 q f st1 => ?_⟩
  cases c with
  | true => exact iteT (k _ g1 H1 q f st1)
  | false => exact iteF ⟨g1, env, _, st1, eo.fr f, q, fun d g2 H2 q2 f2 st2 => k _ g2 H2 q2 (f.trans f2) st2⟩
theorem dt_not (ha : DT C B X a sa) : DT C B X (.UnaryOp .Not a pos) (tNotD sa) := by
  refine ptW (pt_not ha) fun σ H Q h => ?_
  obtain ⟨g, env, Qd, st, eo, h, k⟩ := h
  exact ⟨g, env, _, st, eo, h, fun c g1 H1 q f st1 => k _ g1 H1 q f st1⟩
/-- as values: the left ones are True or False -/
def eAnd (ta tb : TEd) : TEd := fun env Q E => ta env (fun a => match a with
  | .dat (.bool true) => tb env Q E
  | .dat (.bool false) => Q (.dat (.bool false))
  | _ => False) E
def eOr (ta tb : TEd) : TEd := fun env Q E => ta env (fun a => match a with
  | .dat (.bool false) => tb env Q E
  | .dat (.bool true) => Q (.dat (.bool true))
  | _ => False) E
def eNot (ta : TEd) : TEd := fun env Q E => ta env (fun a => match a with
  | .dat (.bool b) => Q (.dat (.bool (!b)))
  | _ => False) E
theorem RepV.isBl {K : PySem.W.Frag} {g : Gh} {H : Hp} {v : V} {b : Bool} (ok : GOk K g H) (r : RepV K g v (.bool b)) : v = .bl b := by
  cases r with
  | bl b => rfl
  | ref e => exact ((ok _ _ e : False)).elim
theorem RepV.isInt {K : PySem.W.Frag} {g : Gh} {H : Hp} {v : V} {b : Int} (ok : GOk K g H) (r : RepV K g v (.int b)) : v = .int b := by
  cases r with
  | int b => rfl
  | ref e => exact ((ok _ _ e : False)).elim
theorem RepV.isStr {K : PySem.W.Frag} {g : Gh} {H : Hp} {v : V} {b : Str} (ok : GOk K g H) (r : RepV K g v (.str b)) : v = .str b := by
  cases r with
  | str b => rfl
  | ref e => exact ((ok _ _ e : False)).elim
theorem RepV.isNon {K : PySem.W.Frag} {g : Gh} {H : Hp} {v : V} (ok : GOk K g H) (r : RepV K g v .none) : v = .non := by
  cases r with
  | non => rfl
  | ref e => exact ((ok _ _ e : False)).elim
theorem res_more {g g1 : Gh} {H H1 : Hp} {Qd : AV → Prop} {v : V} {H' : Hp} (f : Gr g H g1 H1) (r : Res C g1 H1 Qd v H') : Res C g H Qd v H' := by
  obtain ⟨a, g', q, f', st, r, n⟩ := r
  exact ⟨a, g', q, f.trans f', st, r, fun l e => let ⟨p, e1, e2⟩ := n l e; ⟨p, e1, f.nm p e2⟩⟩
theorem de_and (ha : DE C B X a ta) (hb : DE C B X (.BoolOp .And (b :: rest) pos) tb) : DE C B X (.BoolOp .And (a :: b :: rest) pos) (eAnd ta tb) := by
  refine peW (pe_and ha hb) fun σ H Q h => ?_
  obtain ⟨g, env, Qd, st, eo, h, k⟩ := h
  refine ⟨g, env, _, st, eo, h, fun v H1 ⟨x, g1, q, f1, st1, r1, n1⟩ => ?_⟩
  try dsimp only at q
  split at q
  · exact ⟨true, RepV.isBl st1.1 r1, iteT ⟨g1, env, _, st1, eo.fr f1, q, fun w H2 r => k w H2 (res_more f1 r)⟩⟩
  · exact ⟨false, RepV.isBl st1.1 r1, iteF (k _ H1 ⟨_, g1, q, f1, st1, .bl _, fun _ z => by cases z⟩)⟩
  · exact q.elim
theorem de_or (ha : DE C B X a ta) (hb : DE C B X (.BoolOp .Or (b :: rest) pos) tb) : DE C B X (.BoolOp .Or (a :: b :: rest) pos) (eOr ta tb) := by
  refine peW (pe_or ha hb) fun σ H Q h => ?_
  obtain ⟨g, env, Qd, st, eo, h, k⟩ := h
  refine ⟨g, env, _, st, eo, h, fun v H1 ⟨x, g1, q, f1, st1, r1, n1⟩ => ?_⟩
  try dsimp only at q
  split at q
  · exact ⟨false, RepV.isBl st1.1 r1, iteF ⟨g1, env, _, st1, eo.fr f1, q, fun w H2 r => k w H2 (res_more f1 r)⟩⟩
  · exact ⟨true, RepV.isBl st1.1 r1, iteT (k _ H1 ⟨_, g1, q, f1, st1, .bl _, fun _ z => by cases z⟩)⟩
  · exact q.elim
theorem de_one {op} {t : TEd} (h : DE C B X a t) : DE C B X (.BoolOp op [a] pos) t := pe_one h
theorem de_not (ha : DE C B X a ta) : DE C B X (.UnaryOp .Not a pos) (eNot ta) := by
  refine peW (pe_not ha) fun σ H Q h => ?_
  obtain ⟨g, env, Qd, st, eo, h, k⟩ := h
  refine ⟨g, env, _, st, eo, h, fun v H1 ⟨x, g1, q, f1, st1, r1, n1⟩ => ?_⟩
  try dsimp only at q
  split at q
  · exact ⟨_, RepV.isBl st1.1 r1, k _ H1 ⟨_, g1, q, f1, st1, .bl _, fun _ z => by cases z⟩⟩
  · exact q.elim
def eIf (s : TTd) (ta tb : TEd) : TEd := fun env Q E => s env (fun c => if c = true then ta env Q E else tb env Q E) E
theorem de_if (hc : DT C B X c sa) (ha : DE C B X a ta) (hb : DE C B X b tb) : DE C B X (.IfExp c a b pos) (eIf sa ta tb) := by
  refine peW (pe_ifExp hc ha hb) fun σ H Q h => ?_
  obtain ⟨g, env, Qd, st, eo, h, k⟩ := h
  refine ⟨g, env, _, st, eo, h, fun d g1 H1 q f1 st1 => ?_⟩
  cases d with
  | true => exact iteT ⟨g1, env, _, st1, eo.fr f1, q, fun w H2 r => k w H2 (res_more f1 r)⟩
  | false => exact iteF ⟨g1, env, _, st1, eo.fr f1, q, fun w H2 r => k w H2 (res_more f1 r)⟩
def eNeg (ta : TEd) : TEd := fun env Q E => ta env (fun a => match a with
  | .dat (.int i) => Q (.dat (.int (-i)))
  | _ => False) E
theorem de_neg (ha : DE C B X a ta) : DE C B X (.UnaryOp .USub a pos) (eNeg ta) := by
  refine peW (pe_un un_neg ha) fun σ H Q h => ?_
  obtain ⟨g, env, Qd, st, eo, h, k⟩ := h
  refine ⟨g, env, _, st, eo, h, fun v H1 ⟨x, g1, q, f1, st1, r1, n1⟩ => ?_⟩
  try dsimp only at q
  split at q
  · exact ⟨_, RepV.isInt st1.1 r1, k _ H1 ⟨_, g1, q, f1, st1, .int _, fun _ z => by cases z⟩⟩
  · exact q.elim
end
end TL
namespace TL
open PySem PySem.Spec PyProof.Rows L2 LamX NdefX

/-! ### the operators -/
def dAdd : Op2
  | .int a, .int b => some (.dat (.int (a + b)))
  | .tuple a, .tuple b => if a.length + b.length ≤ 16777216 then some (.dat (.tuple (a ++ b))) else none
  | .list a, .list b => if a.length + b.length ≤ 16777216 then some (.new (a ++ b)) else none
  | .str a, .str b => if a.length + b.length ≤ 16777216 then some (.dat (.str (a ++ b))) else none
  | _, _ => none
def dSub : Op2
  | .int a, .int b => some (.dat (.int (a - b)))
  | _, _ => none
def smallB (a : Int) : Bool := decide (-(2 ^ 64) < a) && decide (a < 2 ^ 64)
def dMul : Op2
  | .int a, .int b => if smallB a || smallB b then some (.dat (.int (a * b))) else none
  | _, _ => none
def dMod : Op2
  | .int a, .int b => if 0 < b then some (.dat (.int (a % b))) else none
  | _, _ => none
def dFdiv : Op2
  | .int a, .int b => if 0 < b ∧ b < 1073741824 then some (.dat (.int (a / b))) else none
  | _, _ => none
def dPow : Op2
  | .int a, .int b => if 0 ≤ b ∧ b ≤ 1000000 ∧ a.natAbs < 2 ^ 64 then some (.dat (.int (a ^ b.toNat))) else none
  | _, _ => none
def dB (b : Bool) : Option AV := some (.dat (.bool b))
def dLt : Op2
  | .int a, .int b => dB (decide (a < b))
  | _, _ => none
def dLe : Op2
  | .int a, .int b => dB (decide (a ≤ b))
  | _, _ => none
def dGt : Op2
  | .int a, .int b => dB (decide (b < a))
  | _, _ => none
def dGe : Op2
  | .int a, .int b => dB (decide (b ≤ a))
  | _, _ => none
/-- is None -/
def dIs : Op2
  | x, .none => dB (match x with | .none => true | _ => false)
  | .bool a, .bool b => dB (decide (a = b))
  | _, _ => none
def dIsNot : Op2
  | x, .none => dB (match x with | .none => false | _ => true)
  | .bool a, .bool b => dB (!decide (a = b))
  | _, _ => none
/-- scalars that == tells apart as data does -/
def scalD : PyData → PyData → Option Bool
  | .none, .none => some true
  | .none, .int _ => some false
  | .int _, .none => some false
  | .none, .bool _ => some false
  | .bool _, .none => some false
  | .none, .str _ => some false
  | .str _, .none => some false
  | .int i, .int j => some (decide (i = j))
  | .bool i, .bool j => some (decide (i = j))
  | .str i, .str j => some (decide (i = j))
  | .int _, .str _ => some false
  | .str _, .int _ => some false
  | .bool _, .str _ => some false
  | .str _, .bool _ => some false
  | _, _ => none
/-- == of data -/
def dEq : Op2 := fun x y => match scalD x y with
  | some b => dB b
  | none => if SeqAt.shaped x = true ∧ SeqAt.shaped y = true then dB (PyData.eqv x y) else none
def dNe : Op2 := fun x y => match scalD x y with
  | some b => dB (!b)
  | none => if SeqAt.shaped x = true ∧ SeqAt.shaped y = true then dB (!PyData.eqv x y) else none
theorem RepB.int_inv {K : PySem.W.Frag} {g : Gh} {H : Hp} {v : V} {i : Int} (r : RepB K g H v (.int i)) : v = .int i := by
  cases r with
  | fl h => cases h; rfl
theorem RepB.str_inv {K : PySem.W.Frag} {g : Gh} {H : Hp} {v : V} {i : Str} (r : RepB K g H v (.str i)) : v = .str i := by
  cases r with
  | fl h => cases h; rfl
theorem RepB.tup_inv {K : PySem.W.Frag} {g : Gh} {H : Hp} {v : V} {ds : List PyData} (r : RepB K g H v (.tuple ds)) : ∃ a vs, v = .ref a ∧ RepV K g (.ref a) (.tuple ds) ∧ SqT K H a vs ∧ RepVs K g vs ds := by
  cases r with
  | fl h => cases h
  | tup r h hv => exact ⟨_, _, rfl, r, h, hv⟩
theorem RepB.lst_inv {K : PySem.W.Frag} {g : Gh} {H : Hp} {v : V} {ds : List PyData} (r : RepB K g H v (.list ds)) : ∃ a vs, v = .ref a ∧ SqL K H a vs ∧ RepVs K g vs ds := by
  cases r with
  | fl h => cases h
  | lst h hv => exact ⟨_, _, rfl, h, hv⟩
theorem Paired.len {α β : Type} {F : α → β → Prop} {xs : List α} {ys : List β} (p : Paired F xs ys) : xs.length = ys.length := Paired.length p
theorem RepVs.append {K : PySem.W.Frag} {g : Gh} : ∀ {a b : List V} {x y : List PyData}, RepVs K g a x → RepVs K g b y → RepVs K g (a ++ b) (x ++ y)
  | _, _, _, _, .nil, s => s
  | _, _, _, _, .cons r t, s => .cons r (RepVs.append t s)
theorem RepVs.take {K : PySem.W.Frag} {g : Gh} : ∀ {a : List V} {x : List PyData} (n : Nat), RepVs K g a x → RepVs K g (a.take n) (x.take n)
  | _, _, 0, _ => .nil
  | _, _, _ + 1, .nil => .nil
  | _, _, n + 1, .cons r t => .cons r (RepVs.take n t)
theorem RepVs.drop {K : PySem.W.Frag} {g : Gh} : ∀ {a : List V} {x : List PyData} (n : Nat), RepVs K g a x → RepVs K g (a.drop n) (x.drop n)
  | _, _, 0, r => r
  | _, _, _ + 1, .nil => .nil
  | _, _, n + 1, .cons _ t => RepVs.drop n t
theorem RepVs.get {K : PySem.W.Frag} {g : Gh} : ∀ {a : List V} {x : List PyData} {i : Nat} {d : PyData}, RepVs K g a x → x[i]? = some d → ∃ v, a[i]? = some v ∧ RepV K g v d
  | _, _, _, _, .nil, e => by simp at e
  | _, _, 0, _, .cons r _, e => by simp at e; subst e; exact ⟨_, rfl, r⟩
  | _, _, i + 1, _, .cons _ t, e => by
    obtain ⟨u, h1, h2⟩ := RepVs.get (i := i) t (by simpa using e)
    exact ⟨u, by simpa using h1, h2⟩
theorem RepVs.getL {K : PySem.W.Frag} {g : Gh} : ∀ {a : List V} {x : List PyData} {i : Nat} {v : V}, RepVs K g a x → a[i]? = some v → ∃ d, x[i]? = some d ∧ RepV K g v d
  | _, _, _, _, .nil, e => by simp at e
  | _, _, 0, _, .cons r _, e => by simp at e; subst e; exact ⟨_, rfl, r⟩
  | _, _, i + 1, _, .cons _ t, e => by
    obtain ⟨u, h1, h2⟩ := RepVs.getL (i := i) t (by simpa using e)
    exact ⟨u, by simpa using h1, h2⟩
theorem RepVs.set {K : PySem.W.Frag} {g : Gh} {v : V} {d : PyData} (r : RepV K g v d) : ∀ {a : List V} {x : List PyData} (n : Nat), RepVs K g a x → RepVs K g (a.set n v) (x.set n d)
  | _, _, _, .nil => .nil
  | _, _, 0, .cons _ t => .cons r t
  | _, _, n + 1, .cons q t => .cons q (RepVs.set r n t)

/-! data as Dp tells it -/
mutual
theorem dp_of {K : PySem.W.Frag} {g : Gh} {H : Hp} (ok : GOk K g H) : ∀ (d : PyData) {v : V}, RepB K g H v d → Dp K H v d
  | .none, _, r => by cases r with | fl h => cases h; exact .non
  | .bool b, _, r => by cases r with | fl h => cases h; exact .bl _
  | .int i, _, r => by cases r with | fl h => cases h; exact .int _
  | .str x, _, r => by cases r with | fl h => cases h; exact .str _
  | .tuple ds, _, r => by
    obtain ⟨a, vs, rfl, _, h, hv⟩ := r.tup_inv
    exact .tup h (dps_of ok ds hv)
  | .list ds, _, r => by
    obtain ⟨a, vs, rfl, h, hv⟩ := r.lst_inv
    exact .lst h (dps_of ok ds hv)
  | .dict _, _, r => by cases r with | fl h => cases h
theorem dps_of {K : PySem.W.Frag} {g : Gh} {H : Hp} (ok : GOk K g H) : ∀ (ds : List PyData) {vs : List V}, RepVs K g vs ds → DpAll K H vs ds
  | [], _, r => by cases r; exact .nil
  | d :: ds, _, r => by
    cases r with
    | cons r t => exact .cons (dp_of ok d (r.b ok)) (dps_of ok ds t)
end

/-- list + list, either read or owned -/
theorem op_catQ {X : Cx} : OpR X (binaryOp .Add) (fun x y H Q => ∃ l b xs zs, x = .ref l ∧ y = .ref b ∧ SqL X.K H l xs ∧ SqL X.K H b zs ∧ xs.length + zs.length ≤ sizeLine ∧ ∀ p, H p = none → Q (.ref p) (upd H p (.lst (xs ++ zs)))) := by
  intro pins s σ H x y v u Q I rx ry h
  obtain ⟨l, b, xs, zs, rfl, rfl, hH, hB, hz, q⟩ := h
  cases rx
  cases ry
  obtain ⟨its, r1, ⟨⟨c1, dd, da, sl⟩, n, e1, hc1, hd1, hs1⟩, z1⟩ := I.list hH
  obtain ⟨its2, r2, ⟨⟨c2, dd2, da2, sl2⟩, n2, e2, hc2, hd2, hs2⟩, z2⟩ := I.list hB
  simp only at hc1 hd1 hs1 hc2 hd2 hs2
  subst hc1 hd1 hs1 hc2 hd2 hs2
  have l1 := r1.length
  have l2 := r2.length
  refine concat_meets ⟨_, e1, rfl⟩ ⟨_, e2, rfl⟩ noFill_list_add seq_list_add PySem.F.slot_list_add PySem.F.entry_list_add (PySem.F.args_list_add_2 _ _) (list_addW l b its.toArray its2.toArray n n2 none none sl sl2 (by rw [List.size_toArray, List.size_toArray]; omega)) ⟨e1, e2, ?_⟩
  have ea : its.toArray ++ its2.toArray = (its ++ its2).toArray := by simp
  rw [ea]
  refine ⟨.ref _, _, I.laid (t' := s.toks) (o := .lst (xs ++ zs)) (fun b u e => Heap.get?_push_of_some _ e) (Nat.le_refl _) ?_, rfl, q _ (I.hok.fresh (Nat.le_refl _))⟩
  exact ⟨by rw [List.length_append]; omega, _, 0, r1.append r2, Heap.get?_push_size _ rfl⟩
section
variable {C : CC} {X : Cx}
theorem opR_add (hK : X.K = C.K) : OpR X (binaryOp .Add) (rD C dAdd) := by
  intro pins s σ H x y v u Q I rx ry h
  obtain ⟨g, dx, dy, a, st, hx, hy, e, k⟩ := h
  unfold dAdd at e
  split at e
  · cases e
    rw [hx.int_inv] at rx; rw [hy.int_inv] at ry
    exact op_add pins s σ H _ _ v u Q I rx ry ⟨_, _, rfl, rfl, k _ _ (.flat st (.int _))⟩
  · split at e
    · rename_i hz
      cases e
      obtain ⟨p, vs, rfl, r1, h1, h2⟩ := hx.tup_inv
      obtain ⟨q, ws, rfl, r2, h3, h4⟩ := hy.tup_inv
      rw [← hK] at h1 h3
      have l1 := Paired.len h2
      have l2 := Paired.len h4
      refine op_catA pins s σ H _ _ v u Q I rx ry ⟨p, q, vs, ws, rfl, rfl, h1, h3, by rw [sizeLine_eq, l1, l2]; exact hz, fun z => ?_, fun _ z => ?_, fun _ _ r hr => ?_⟩
      · subst z; cases h2
        exact k _ _ (.same st r2)
      · subst z; cases h4
        rw [List.append_nil] at k
        exact k _ _ (.same st r1)
      · exact k _ _ (.tup st hr (RepVs.append h2 h4))
    · cases e
  · split at e
    · rename_i hz
      cases e
      obtain ⟨p, vs, rfl, h1, h2⟩ := hx.lst_inv
      obtain ⟨q, ws, rfl, h3, h4⟩ := hy.lst_inv
      rw [← hK] at h1 h3
      have l1 := Paired.len h2
      have l2 := Paired.len h4
      exact op_catQ pins s σ H _ _ v u Q I rx ry ⟨p, q, vs, ws, rfl, rfl, h1, h3, by rw [sizeLine_eq, l1, l2]; exact hz, fun r hr => k _ _ (.new st hr (RepVs.append h2 h4))⟩
    · cases e
  · split at e
    · rename_i hz
      cases e
      rw [hx.str_inv] at rx; rw [hy.str_inv] at ry
      exact op_add_str pins s σ H _ _ v u Q I rx ry ⟨_, _, rfl, rfl, by rw [sizeLine_eq]; exact hz, k _ _ (.flat st (.str _))⟩
    · cases e
  · cases e
theorem opR_ii {f : Value → Value → Sem Value} {Cd : Int → Int → Prop} {h : Int → Int → Int} {F : Op2} (ho : OpR X f (rI Cd fun i j => .int (h i j)))
    (hF : ∀ x y a, F x y = some a → ∃ i j, x = .int i ∧ y = .int j ∧ Cd i j ∧ a = .dat (.int (h i j))) : OpR X f (rD C F) := by
  intro pins s σ H x y v u Q I rx ry h
  obtain ⟨g, dx, dy, a, st, hx, hy, e, k⟩ := h
  obtain ⟨i, j, rfl, rfl, c, rfl⟩ := hF _ _ _ e
  rw [hx.int_inv] at rx; rw [hy.int_inv] at ry
  exact ho pins s σ H _ _ v u Q I rx ry ⟨_, _, rfl, rfl, c, k _ _ (.flat st (.int _))⟩
theorem opR_sub : OpR X (binaryOp .Sub) (rD C dSub) := by
  intro pins s σ H x y v u Q I rx ry h
  obtain ⟨g, dx, dy, a, st, hx, hy, e, k⟩ := h
  unfold dSub at e
  split at e
  · cases e
    rw [hx.int_inv] at rx; rw [hy.int_inv] at ry
    exact op_sub pins s σ H _ _ v u Q I rx ry ⟨_, _, rfl, rfl, k _ _ (.flat st (.int _))⟩
  · cases e
theorem opR_mul : OpR X (binaryOp .Mult) (rD C dMul) := opR_ii op_mul fun x y a e => by
  unfold dMul at e
  split at e
  · split at e
    · rename_i i j hc
      cases e
      refine ⟨i, j, rfl, rfl, ?_, rfl⟩
      simp only [smallB, Bool.or_eq_true, Bool.and_eq_true, decide_eq_true_eq] at hc
      exact hc
    · cases e
  · cases e
theorem opR_mod : OpR X (binaryOp .Mod) (rD C dMod) := opR_ii op_mod fun x y a e => by
  unfold dMod at e
  split at e
  · split at e
    · cases e; exact ⟨_, _, rfl, rfl, by assumption, rfl⟩
    · cases e
  · cases e
theorem opR_fdiv : OpR X (binaryOp .FloorDiv) (rD C dFdiv) := opR_ii op_fdiv fun x y a e => by
  unfold dFdiv at e
  split at e
  · split at e
    · cases e; exact ⟨_, _, rfl, rfl, by assumption, rfl⟩
    · cases e
  · cases e
theorem opR_pow : OpR X (binaryOp .Pow) (rD C dPow) := opR_ii op_pow fun x y a e => by
  unfold dPow at e
  split at e
  · split at e
    · cases e; exact ⟨_, _, rfl, rfl, by assumption, rfl⟩
    · cases e
  · cases e
theorem opR_iib {f : Value → Value → Sem Value} {h : Int → Int → Bool} {F : Op2} (ho : OpR X f (rI0 fun i j => .bl (h i j)))
    (hF : ∀ x y a, F x y = some a → ∃ i j, x = .int i ∧ y = .int j ∧ a = .dat (.bool (h i j))) : OpR X f (rD C F) := by
  intro pins s σ H x y v u Q I rx ry h
  obtain ⟨g, dx, dy, a, st, hx, hy, e, k⟩ := h
  obtain ⟨i, j, rfl, rfl, rfl⟩ := hF _ _ _ e
  rw [hx.int_inv] at rx; rw [hy.int_inv] at ry
  exact ho pins s σ H _ _ v u Q I rx ry ⟨_, _, rfl, rfl, k _ _ (.flat st (.bl _))⟩
theorem opR_lt : OpR X (compareOp .Lt) (rD C dLt) := opR_iib op_lt fun x y a e => by
  unfold dLt at e
  split at e
  · cases e; exact ⟨_, _, rfl, rfl, rfl⟩
  · cases e
theorem opR_le : OpR X (compareOp .LtE) (rD C dLe) := opR_iib op_le fun x y a e => by
  unfold dLe at e
  split at e
  · cases e; exact ⟨_, _, rfl, rfl, rfl⟩
  · cases e
theorem opR_gt : OpR X (compareOp .Gt) (rD C dGt) := opR_iib op_gt fun x y a e => by
  unfold dGt at e
  split at e
  · cases e; exact ⟨_, _, rfl, rfl, rfl⟩
  · cases e
theorem opR_ge : OpR X (compareOp .GtE) (rD C dGe) := opR_iib op_ge fun x y a e => by
  unfold dGe at e
  split at e
  · cases e; exact ⟨_, _, rfl, rfl, rfl⟩
  · cases e
theorem non_iff {K : PySem.W.Frag} {g : Gh} {H : Hp} {v : V} {d : PyData} (r : RepB K g H v d) : decide (v = .non) = (match d with | .none => true | _ => false) := by
  cases r with
  | fl h => cases h <;> simp
  | tup _ _ _ => simp
  | lst _ _ => simp
theorem opR_is : OpR X (compareOp .Is) (rD C dIs) := by
  intro pins s σ H x y v u Q I rx ry h
  obtain ⟨g, dx, dy, a, st, hx, hy, e, k⟩ := h
  unfold dIs at e
  split at e
  · cases e
    have ey : y = .non := by cases hy with | fl h => cases h; rfl
    refine op_isN pins s σ H _ _ v u Q I rx ry ⟨ey, k _ _ (.flat st ?_)⟩
    rw [non_iff hx]
    cases dx <;> exact .bl _
  · rename_i p q
    cases e
    have ex : x = .bl p := by cases hx with | fl h => cases h; rfl
    have ey : y = .bl q := by cases hy with | fl h => cases h; rfl
    exact op_is_bl pins s σ H _ _ v u Q I rx ry ⟨_, _, ex, ey, k _ _ (.flat st (.bl _))⟩
  · cases e
theorem opR_isnot : OpR X (compareOp .IsNot) (rD C dIsNot) := by
  intro pins s σ H x y v u Q I rx ry h
  obtain ⟨g, dx, dy, a, st, hx, hy, e, k⟩ := h
  unfold dIsNot at e
  split at e
  · cases e
    have ey : y = .non := by cases hy with | fl h => cases h; rfl
    refine op_notN pins s σ H _ _ v u Q I rx ry ⟨ey, k _ _ (.flat st ?_)⟩
    rw [non_iff hx]
    cases dx <;> exact .bl _
  · rename_i p q
    cases e
    have ex : x = .bl p := by cases hx with | fl h => cases h; rfl
    have ey : y = .bl q := by cases hy with | fl h => cases h; rfl
    exact op_isnot_bl pins s σ H _ _ v u Q I rx ry ⟨_, _, ex, ey, k _ _ (.flat st (.bl _))⟩
  · cases e
theorem scal_of {K : PySem.W.Frag} {g : Gh} {H : Hp} {v u : V} {x y : PyData} {b : Bool} (hx : RepB K g H v x) (hy : RepB K g H u y) (e : scalD x y = some b) : scal v u = true ∧ decide (v = u) = b := by
  cases hx with
  | fl hx =>
    cases hy with
    | fl hy => cases hx <;> cases hy <;> first | (cases e; done) | (cases e; exact ⟨rfl, by simp⟩)
    | tup _ _ _ => cases hx <;> cases e
    | lst _ _ => cases hx <;> cases e
  | tup _ _ _ => cases y <;> cases e
  | lst _ _ => cases y <;> cases e
theorem opR_eq (hK : X.K = C.K) (hu : X.A.units + 64 < cLine) : OpR X (compareOp .Eq) (rD C dEq) := by
  intro pins s σ H x y v u Q I rx ry h
  obtain ⟨g, dx, dy, a, st, hx, hy, e, k⟩ := h
  unfold dEq at e
  split at e
  · rename_i b eb
    cases e
    obtain ⟨h1, h2⟩ := scal_of hx hy eb
    exact op_eq pins s σ H _ _ v u Q I rx ry ⟨h1, by rw [h2]; exact k _ _ (.flat st (.bl _))⟩
  · split at e
    · rename_i hc
      cases e
      exact op_eqD hu pins s σ H _ _ v u Q I rx ry ⟨dx, dy, by rw [hK]; exact dp_of st.1 _ hx, by rw [hK]; exact dp_of st.1 _ hy, hc.1, hc.2, k _ _ (.flat st (.bl _))⟩
    · cases e
theorem opR_ne (hK : X.K = C.K) (hu : X.A.units + 64 < cLine) : OpR X (compareOp .NotEq) (rD C dNe) := by
  intro pins s σ H x y v u Q I rx ry h
  obtain ⟨g, dx, dy, a, st, hx, hy, e, k⟩ := h
  unfold dNe at e
  split at e
  · rename_i b eb
    cases e
    obtain ⟨h1, h2⟩ := scal_of hx hy eb
    exact op_ne pins s σ H _ _ v u Q I rx ry ⟨h1, by rw [h2]; exact k _ _ (.flat st (.bl _))⟩
  · split at e
    · rename_i hc
      cases e
      exact op_neD hu pins s σ H _ _ v u Q I rx ry ⟨dx, dy, by rw [hK]; exact dp_of st.1 _ hx, by rw [hK]; exact dp_of st.1 _ hy, hc.1, hc.2, k _ _ (.flat st (.bl _))⟩
    · cases e
end
end TL
namespace TL
open PySem PySem.Spec PyProof.Rows L2 LamX NdefX

def isStar : Expr → Bool
  | .Starred _ _ => true
  | _ => false
/-! ### a value to be stored: a new list is frozen -/
theorem freeze {C : CC} {g g1 : Gh} {H H1 : Hp} {v : V} {a b : AV} (st0 : StOk C g H) (f : Gr g H g1 H1) (st : StOk C g1 H1) (r : RepA C g1 H1 v a) (n : ∀ l, a = .new l → ∃ p, v = .ref p ∧ H p = none) (e : a.st = some b) :
    ∃ g2, Gr g H g2 H1 ∧ StOk C g2 H1 ∧ RepA C g2 H1 v b ∧ (∀ a u, g1 a = some u → g2 a = some u) := by
  cases a with
  | dat d => cases e; exact ⟨g1, f, st, r, fun _ _ h => h⟩
  | clo k c => cases e; exact ⟨g1, f, st, r, fun _ _ h => h⟩
  | well => cases e; exact ⟨g1, f, st, r, fun _ _ h => h⟩
  | clr k c => cases e; exact ⟨g1, f, st, r, fun _ _ h => h⟩
  | brw l => cases e
  | new l =>
    cases e
    obtain ⟨p, vs, rfl, n1, h, q⟩ := r
    obtain ⟨p', e', hp⟩ := n l rfl
    cases e'
    have m : ∀ a u, g1 a = some u → gup g1 p (.dat (.list l)) a = some u := fun a u h2 => by
      rw [gup_ne (fun e => by rw [e, n1] at h2; cases h2)]
      exact h2
    refine ⟨gup g1 p (.dat (.list l)), ⟨fun a u h2 => m a u (f.gm a u h2), fun a o h2 => ?_, f.hm, f.nm⟩, ⟨fun a u e => ?_, st.2⟩, .ref gup_same, m⟩
    · rw [gup_ne (ne_of_none h2 hp)]
      exact f.km a o h2
    · by_cases ha : a = p
      · subst ha
        rw [gup_same] at e
        cases e
        exact ⟨vs, .inl h, RepVs.mono m q⟩
      · rw [gup_ne ha] at e
        exact (st.1 a u e).mono m fun _ h => h

section
variable {C : CC} {B : Base} {X : Cx} {a b : Expr} {ta tb : TEd} {es : List Expr} {t : TAd} {pos : Pos}
/-! ### argument lists: to be stored; to be read -/
def aNil : TAd := fun _ Q _ => Q []
def aCons (ta : TEd) (tr : TAd) : TAd := fun env Q E => ta env (fun a => match a.st with
  | some b => tr env (fun as => Q (b :: as)) E
  | none => False) E
def rCons (ta : TEd) (tr : TAd) : TAd := fun env Q E => ta env (fun a => tr env (fun as => Q (a :: as)) E) E
theorem da_nil : DA C B X [] aNil := by
  refine paW pa_nil fun σ H Q h => ?_
  obtain ⟨g, env, Qd, st, eo, h, k⟩ := h
  exact k [] [] g H h .refl st .nil
theorem RepAs.fr {g g' : Gh} {H H' : Hp} (f : Gr g H g' H') {vs : List V} {as : List AV} (r : Paired (RepA C g H) vs as) : Paired (RepA C g' H') vs as := Paired.mapP r fun _ _ z => z.fr f
theorem star_cons (e : Expr) (es : List Expr) (env : Env) (h : isStar e = false) : starEach (e :: es) env = (false, eval e env) :: starEach es env := by
  cases e <;> first | rfl | cases h
theorem da_cons (ha : DE C B X a ta) (hr : DA C B X es t) (hs : isStar a = false) : DA C B X (a :: es) (aCons ta t) := by
  refine paW (pa_cons ha hr (star_cons _ _ _ hs)) fun σ H Q h => ?_
  obtain ⟨g, env, Qd, st, eo, h, k⟩ := h
  refine ⟨g, env, _, st, eo, h, fun v H1 ⟨x, g1, q, f1, st1, r1, n1⟩ => ?_⟩
  try dsimp only at q
  split at q
  · rename_i b eb
    obtain ⟨g2, f2, st2, r2, m2⟩ := freeze st f1 st1 r1 n1 eb
    exact ⟨g2, env, _, st2, eo.fr f2, q, fun vs as g3 H3 q3 f3 st3 r3 => k (v :: vs) (b :: as) g3 H3 q3 (f2.trans f3) st3 (.cons (r2.fr f3) r3)⟩
  · exact q.elim
theorem dr_cons (ha : DE C B X a ta) (hr : DA C B X es t) (hs : isStar a = false) : DA C B X (a :: es) (rCons ta t) := by
  refine paW (pa_cons ha hr (star_cons _ _ _ hs)) fun σ H Q h => ?_
  obtain ⟨g, env, Qd, st, eo, h, k⟩ := h
  refine ⟨g, env, _, st, eo, h, fun v H1 ⟨x, g1, q, f1, st1, r1, n1⟩ => ?_⟩
  exact ⟨g1, env, _, st1, eo.fr f1, q, fun vs as g3 H3 q3 f3 st3 r3 => k (v :: vs) (x :: as) g3 H3 q3 (f1.trans f3) st3 (.cons (r1.fr f3) r3)⟩

/-! ### displays -/
def dats : List AV → Option (List PyData)
  | [] => some []
  | .dat d :: r => (dats r).map (d :: ·)
  | _ :: _ => none
theorem dats_ok {g : Gh} {H : Hp} : ∀ {as : List AV} {ds : List PyData} {vs : List V}, Paired (RepA C g H) vs as → dats as = some ds → RepVs C.K g vs ds
  | [], _, _, .nil, e => by cases e; exact .nil
  | .dat d :: r, _, _, .cons q t, e => by
    have e : (dats r).map (d :: ·) = some _ := e
    cases h : dats r with
    | none => rw [h] at e; cases e
    | some ds => rw [h] at e; cases e; exact .cons q (dats_ok t h)
def eTup (t : TAd) : TEd := fun env Q E => t env (fun as => match dats as with
  | some ds => ds.length ≤ 16777216 ∧ Q (.dat (.tuple ds))
  | none => False) E
def eLst (t : TAd) : TEd := fun env Q E => t env (fun as => match dats as with
  | some ds => ds.length ≤ 16777216 ∧ Q (.new ds)
  | none => False) E
theorem de_tup {k : Nat} (h : DA C B X es t) : DE C B X (.Tuple es k pos) (eTup t) := by
  refine peW (pe_tup h) fun σ H Q h => ?_
  obtain ⟨g, env, Qd, st, eo, h, k⟩ := h
  refine ⟨g, env, _, st, eo, h, fun vs as g1 H1 q f1 st1 r1 => ?_⟩
  try dsimp only at q
  split at q
  · rename_i ds ed
    have r2 := dats_ok r1 ed
    refine ⟨by rw [sizeLine_eq, Paired.len r2]; exact q.1, fun p hp => k _ _ ((ResV.tup st1 hp r2).fin f1 q.2)⟩
  · exact q.elim
theorem de_lst (h : DA C B X es t) : DE C B X (.List es pos) (eLst t) := by
  refine peW (pe_lst h) fun σ H Q h => ?_
  obtain ⟨g, env, Qd, st, eo, h, k⟩ := h
  refine ⟨g, env, _, st, eo, h, fun vs as g1 H1 q f1 st1 r1 => ?_⟩
  try dsimp only at q
  split at q
  · rename_i ds ed
    have r2 := dats_ok r1 ed
    refine ⟨by rw [sizeLine_eq, Paired.len r2]; exact q.1, fun p hp => k _ _ ((ResV.new st1 hp r2).fin f1 q.2)⟩
  · exact q.elim

/-! ### items, slices -/
def dIx : Op2
  | .list l, .int i => (atI l i).map .dat
  | .tuple l, .int i => (atI l i).map .dat
  | .str z, .int i => if z.length ≤ 16777216 then (atI z.cps.toList i).map (fun c => .dat (.str ⟨#[c]⟩)) else none
  | _, _ => none
theorem atI_rep {K : PySem.W.Frag} {g : Gh} {vs : List V} {ds : List PyData} {i : Int} {d : PyData} (r : RepVs K g vs ds) (e : atI ds i = some d) : ∃ v, atI vs i = some v ∧ RepV K g v d := by
  unfold atI at e ⊢
  rw [Paired.len r]
  cases h : ixN ds.length i with
  | none => rw [h] at e; cases e
  | some j =>
    rw [h] at e
    exact r.get e
theorem ixR (hK : X.K = C.K) : IxR X (rD C dIx) := by
  intro value slice pins s σ H x y v u Q I rx ry h hs
  obtain ⟨g, dx, dy, a, st, hx, hy, e, k⟩ := h
  unfold dIx at e
  split at e
  · rename_i l i
    cases h : atI l i with
    | none => rw [h] at e; cases e
    | some d =>
      rw [h] at e
      cases e
      obtain ⟨p, vs, rfl, h1, h2⟩ := hx.lst_inv
      obtain ⟨z, ez, rz⟩ := atI_rep h2 h
      rw [hy.int_inv] at ry
      exact ix_list value slice pins s σ H _ _ v u Q I rx ry ⟨p, vs, i, z, rfl, rfl, by rw [hK]; exact h1, ez, k _ _ (.same st rz)⟩ hs
  · rename_i l i
    cases h : atI l i with
    | none => rw [h] at e; cases e
    | some d =>
      rw [h] at e
      cases e
      obtain ⟨p, vs, rfl, _, h1, h2⟩ := hx.tup_inv
      obtain ⟨z, ez, rz⟩ := atI_rep h2 h
      rw [hy.int_inv] at ry
      exact ix_tup value slice pins s σ H _ _ v u Q I rx ry ⟨p, vs, i, z, rfl, rfl, by rw [hK]; exact h1, ez, k _ _ (.same st rz)⟩ hs
  · rename_i z i
    split at e
    · rename_i hz
      cases h : atI z.cps.toList i with
      | none => rw [h] at e; cases e
      | some c =>
        rw [h] at e
        cases e
        rw [hx.str_inv] at rx
        rw [hy.int_inv] at ry
        exact ix_str value slice pins s σ H _ _ v u Q I rx ry ⟨z, i, c, rfl, rfl, by rw [sizeLine_eq]; exact hz, h, k _ _ (.flat st (.str _))⟩ hs
    · cases e
  · cases e
def isSlice : Expr → Bool
  | .Slice _ _ _ _ => true
  | _ => false
theorem plainIx {b : Expr} (h : isSlice b = false) : PlainIx b := fun o i => by
  cases b <;> first | rfl | cases h
theorem de_ix (hK : X.K = C.K) (ha : DE C B X a ta) (hb : DE C B X b tb) (h : isSlice b = false) : DE C B X (.Subscript a b pos) (eOp dIx ta tb) := peW (pe_ix (ixR hK) ha hb (plainIx h)) fun _ _ _ => tOpD

/-- a slice's part -/
abbrev TOd := En → (Option Int → Prop) → (XD → Prop) → Prop
def oNone : TOd := fun _ Q _ => Q none
def oSome (t : TEd) : TOd := fun env Q E => t env (fun a => match a with
  | .dat (.int i) => Q (some i)
  | _ => False) E
def tDO (C : CC) (B : Base) (t : TOd) : TO := fun σ H Q => ∃ g env Qd, StOk C g H ∧ EnvOk C B g H σ env ∧ t env Qd XF ∧ ∀ o g' H', Qd o → Gr g H g' H' → StOk C g' H' → Q o H'
abbrev DO (C : CC) (B : Base) (X : Cx) (e : Option Expr) (t : TOd) : Prop := PO X e (tDO C B t)
theorem poW {X : Cx} {e : Option Expr} {t t' : TO} (h : PO X e t) (w : ∀ σ H Q, t' σ H Q → t σ H Q) : PO X e t' := ⟨fun pins s σ H Q I q => h.run pins s σ H Q I (w σ H Q q)⟩
theorem do_none : DO C B X none oNone := by
  refine poW po_none fun σ H Q h => ?_
  obtain ⟨g, env, Qd, st, eo, h, k⟩ := h
  exact k _ g H h .refl st
theorem do_some (ha : DE C B X a ta) : DO C B X (some a) (oSome ta) := by
  refine poW (po_some ha) fun σ H Q h => ?_
  obtain ⟨g, env, Qd, st, eo, h, k⟩ := h
  refine ⟨g, env, _, st, eo, h, fun v H1 ⟨x, g1, q, f1, st1, r1, n1⟩ => ?_⟩
  try dsimp only at q
  split at q
  · exact ⟨_, RepV.isInt st1.1 r1, k _ g1 H1 q f1 st1⟩
  · exact q.elim
def cutD {α : Type} (xs : List α) (lo hi : Option Int) : List α := (xs.drop (HT.sIx xs.length 0 lo)).take (HT.sIx xs.length xs.length hi - HT.sIx xs.length 0 lo)
def dSl (x : PyData) (lo hi : Option Int) : Option AV := match x with
  | .list l => some (.new (cutD l lo hi))
  | .tuple l => some (.dat (.tuple (cutD l lo hi)))
  | _ => none
def eSl (ta : TEd) (tl th : TOd) : TEd := fun env Q E => ta env (fun a => tl env (fun lo => th env (fun hi => match a.rd with
  | some d => (match dSl d lo hi with
    | some b => Q b
    | none => False)
  | none => False) E) E) E
theorem cut_rep {K : PySem.W.Frag} {g : Gh} {vs : List V} {ds : List PyData} (r : RepVs K g vs ds) (lo hi : Option Int) : RepVs K g (cutV vs lo hi) (cutD ds lo hi) := by
  unfold cutV cutD
  rw [Paired.len r]
  exact (r.drop _).take _
theorem cut_all {α : Type} (xs : List α) (lo hi : Option Int) (h : HT.sIx xs.length 0 lo = 0 ∧ HT.sIx xs.length xs.length hi = xs.length) : cutD xs lo hi = xs := by
  unfold cutD
  rw [h.1, h.2]
  simp
def rDSl (C : CC) : V → Option Int → Option Int → Hp → VK → Prop := fun x lo hi H Q => ∃ g d a, StOk C g H ∧ RepB C.K g H x d ∧ dSl d lo hi = some a ∧ ∀ v H', ResV C g H a v H' → Q v H'
theorem slR (hK : X.K = C.K) : SlR X (rDSl C) := by
  intro pins s σ H x v vl vu lo hi sl Q I rx hs pl pu h
  obtain ⟨g, d, a, st, hx, e, k⟩ := h
  unfold dSl at e
  split at e
  · cases e
    obtain ⟨p, vs, rfl, h1, h2⟩ := hx.lst_inv
    exact sl_list pins s σ H _ v vl vu lo hi sl Q I rx hs pl pu ⟨p, vs, rfl, by rw [hK]; exact h1, fun q hq => k _ _ (.new st hq (cut_rep h2 lo hi))⟩
  · cases e
    obtain ⟨p, vs, rfl, r1, h1, h2⟩ := hx.tup_inv
    refine sl_tupA pins s σ H _ v vl vu lo hi sl Q I rx hs pl pu ⟨p, vs, rfl, by rw [hK]; exact h1, fun z => ?_, fun _ q hq => k _ _ (.tup st hq (cut_rep h2 lo hi))⟩
    rw [Paired.len h2] at z
    rw [cut_all _ _ _ z] at k
    exact k _ _ (.same st r1)
  · cases e
theorem de_sl {lo hi : Option Expr} {tl th : TOd} {p2 : Pos} (hK : X.K = C.K) (ha : DE C B X a ta) (hl : DO C B X lo tl) (hh : DO C B X hi th) : DE C B X (.Subscript a (.Slice lo hi none p2) pos) (eSl ta tl th) := by
  refine peW (pe_slice (slR hK) ha hl hh) fun σ H Q h => ?_
  obtain ⟨g, env, Qd, st, eo, h, k⟩ := h
  refine ⟨g, env, _, st, eo, h, fun v H1 ⟨x, g1, q, f1, st1, r1, n1⟩ => ?_⟩
  refine ⟨g1, env, _, st1, eo.fr f1, q, fun o g2 H2 q f2 st2 => ?_⟩
  refine ⟨g2, env, _, st2, eo.fr (f1.trans f2), q, fun o2 g3 H3 q f3 st3 => ?_⟩
  try dsimp only at q
  split at q
  · rename_i d ed
    split at q
    · rename_i b eb
      exact ⟨g3, d, b, st3, (r1.fr (f2.trans f3)).b st3 ed, eb, fun w H4 r => k w H4 (r.fin (f1.trans (f2.trans f3)) q)⟩
    · exact q.elim
  · exact q.elim

/-! ### calls of built-ins -/
abbrev OpN := List AV → Option AV
def rDN (C : CC) (f : OpN) : List V → Hp → VK → Prop := fun vs H Q => ∃ g as a, StOk C g H ∧ Paired (RepA C g H) vs as ∧ f as = some a ∧ ∀ v H', ResV C g H a v H' → Q v H'
def eCB (f : OpN) (t : TAd) : TEd := fun env Q E => t env (fun as => match f as with
  | some a => Q a
  | none => False) E
theorem tCBD {f : OpN} {σ : L2.St} {H : Hp} {Q : VK} (h : tD C B (eCB f t) σ H Q) : tCB (rDN C f) (tDA C B t) σ H Q := by
  obtain ⟨g, env, Qd, st, eo, h, k⟩ := h
  refine ⟨g, env, _, st, eo, h, fun vs as g1 H1 q f1 st1 r1 => ?_⟩
  try dsimp only at q
  split at q
  · rename_i a ea
    exact ⟨g1, as, a, st1, r1, ea, fun v H' r => k v H' (r.fin f1 q)⟩
  · exact q.elim
theorem noStar {pos : Pos} {env : Env} : ∀ (es : List Expr), es.any isStar = false → (backTo pos (starEach es env)).any (·.1) = false
  | [], _ => rfl
  | e :: es, h => by
    rw [List.any_cons, Bool.or_eq_false_iff] at h
    rw [star_cons e es env h.1]
    have := noStar (pos := pos) (env := env) es h.2
    show (false || (backTo pos (starEach es env)).any (·.1)) = false
    rw [Bool.false_or]
    exact this
theorem de_callB {id : String} {f : OpN} {x : Str} {p : Pos} (hc : CallR X (.builtin id) (rDN C f)) (hg : Gl X x) (hm : X.mg x = none) (hv : bootBuiltins x = some (.builtin id)) (ha : DA C B X (a :: es) t) (hn : x ≠ "__name__") (hdb : (x == ("__debug__" : Str)) = false)
    (hs : es.any isStar = false) (hs0 : isStar a = false) : DE C B X (.Call (.Name x p) (a :: es) [] pos) (eCB f t) :=
  peW (pe_callB hc hg hm hv ha hn hdb (star_cons _ _ _ hs0) (noStar _ hs)) fun _ _ _ => tCBD
theorem de_callTy {T : String} {f : OpN} {x : Str} {p : Pos} (hc : CallR X (.type T) (rDN C f)) (hg : Gl X x) (hm : X.mg x = none) (hv : bootBuiltins x = some (.type T)) (ha : DA C B X (a :: es) t) (hn : x ≠ "__name__") (hdb : (x == ("__debug__" : Str)) = false)
    (hs : es.any isStar = false) (hs0 : isStar a = false) : DE C B X (.Call (.Name x p) (a :: es) [] pos) (eCB f t) :=
  peW (pe_callTy hc hg hm hv ha hn hdb (star_cons _ _ _ hs0) (noStar _ hs)) fun _ _ _ => tCBD
end

def f1 (f : PyData → Option AV) : OpN
  | [a] => a.rd.bind f
  | _ => none
def fLen : OpN := f1 fun
  | .list l => some (.dat (.int l.length))
  | .tuple l => some (.dat (.int l.length))
  | .str z => if z.length ≤ 16777216 then some (.dat (.int z.length)) else none
  | _ => none
def intsD : List PyData → Option (List Int)
  | [] => some []
  | .int i :: r => (intsD r).map (i :: ·)
  | _ :: _ => none
def boolsD : List PyData → Option (List Bool)
  | [] => some []
  | .bool i :: r => (boolsD r).map (i :: ·)
  | _ :: _ => none
section
variable {prog : Program} {w : World} {A : Around} {E : Value → Shared → Prop} {s : Shared} {l : Addr}
theorem sum_tupG {xs : Array (Int × Tok)} {Q : Value → Shared → Prop} (hh : A.handled = none) (hl : s.heap.IsTuple l (intItems xs))
    (h : ∀ h' tk t', (∀ b o, s.heap.get? b = some o → h'.get? b = some o) → Q (.int (preSum (numAt xs) xs.size) t') { s with heap := h', toks := tk }) :
    wpAny (model prog w) A (call (.builtin "sum") [.ref l]) Q E s := by
  have hlt : l < s.heap.objs.size := by obtain ⟨_, e, _⟩ := hl; exact Heap.lt_size e
  refine call_sum_walkG (wpAny_pyIter_tuple hl ?_)
  refine ⟨_, [_, l], [_], _, _, _, numAt xs, rfl, Walks.tuple (A := A.in1) hh _ l (Nat.ne_of_lt hlt) (intItems xs), ⟨⟨_, Heap.get?_push_size _ rfl, rfl, rfl⟩, hl.push _⟩, fun b hb => ?_, (fun _ _ => intItems_at), fun h' tk t' hk => ?_⟩
  · show b < (s.heap.push _).objs.size
    rw [Heap.size_push]
    rcases List.mem_cons.mp hb with rfl | hb
    · exact Nat.lt_succ_self _
    · rcases List.mem_cons.mp hb with rfl | hb
      · exact Nat.lt_succ_of_lt hlt
      · cases hb
  · have := h h' tk t' fun b o e => hk b o (fun hm => by
      rcases List.mem_cons.mp hm with e1 | hm
      · exact absurd (e1 ▸ Heap.lt_size e) (Nat.lt_irrefl _)
      · cases hm) (Heap.get?_push_of_some _ e)
    simpa [intItems] using this
end
def rSumT (K : PySem.W.Frag) : List V → Hp → VK → Prop := fun vs H Q => ∃ (a : Addr) (ns : List Int), vs = [V.ref a] ∧ SqT K H a (ns.map V.int) ∧ Q (.int ns.sum) H
theorem cr_sumT {X : Cx} (hc : X.calm = true) : CallR X (.builtin "sum") (rSumT X.K) := by
  intro pins s σ H vs us Q I r h
  obtain ⟨a, ns, rfl, hs, q⟩ := h
  obtain ⟨its, rv, hl, _⟩ := I.tuple hs
  rw [Vals.ref1 r]
  have hi := rv.ints
  obtain ⟨xs, e⟩ := hi.allInts.items
  have hn : numsOf (intItems xs).toList = ns := by rw [← e]; exact hi.numsOf
  rw [nums_intItems] at hn
  rw [e] at hl
  refine sum_tupG (I.ok.hd hc) hl fun h' tk t' hk => ⟨.int _, H, I.kept hk, ⟨_, rfl⟩, ?_⟩
  rw [preSum_eq, List.take_of_length_le (by simp), hn]
  exact q
section
variable {prog : Program} {w : World} {A : Around} {E : Value → Shared → Prop} {s : Shared} {l : Addr} {xs : Array (Int × Tok)}
theorem tup_iter {Q : Value → Shared → Prop} (hl : s.heap.IsTuple l (intItems xs))
    (h : ∀ s₂ : Shared, s₂ = { s with heap := s.heap.push { cls := .type "tuple_iterator", data := .fields #[.ref l, .int 0 0] } } →
      (s₂.heap.IsTupleIter s.heap.objs.size l 0 ∧ s₂.heap.IsTuple l (intItems xs)) → (∀ b ∈ [s.heap.objs.size, l], b < s₂.heap.objs.size) → l ≠ s.heap.objs.size → Q (.ref s.heap.objs.size) s₂) :
    wpAny (model prog w) A (pyIter (.ref l)) Q E s := by
  have hlt : l < s.heap.objs.size := by obtain ⟨_, e, _⟩ := hl; exact Heap.lt_size e
  refine wpAny_pyIter_tuple hl (h _ rfl ⟨⟨_, Heap.get?_push_size _ rfl, rfl, rfl⟩, hl.push _⟩ (fun b hb => ?_) (Nat.ne_of_lt hlt))
  show b < (s.heap.push _).objs.size
  rw [Heap.size_push]
  rcases List.mem_cons.mp hb with rfl | hb
  · exact Nat.lt_succ_self _
  · rcases List.mem_cons.mp hb with rfl | hb
    · exact Nat.lt_succ_of_lt hlt
    · cases hb
theorem tup_kept {h' : Heap} (hk : ∀ b o, b ∉ [s.heap.objs.size] → (s.heap.push { cls := .type "tuple_iterator", data := .fields #[.ref l, .int 0 0] }).get? b = some o → h'.get? b = some o) :
    ∀ b o, s.heap.get? b = some o → h'.get? b = some o := fun b o e => by
  refine hk b o (fun hm => ?_) (Heap.get?_push_of_some _ e)
  rcases List.mem_cons.mp hm with e1 | hm
  · exact absurd (e1 ▸ Heap.lt_size e) (Nat.lt_irrefl _)
  · cases hm
theorem max_tupG {Q : Value → Shared → Prop} (hh : A.handled = none) (hl : s.heap.IsTuple l (intItems xs)) (hne : 0 < xs.size)
    (h : ∀ v h' tk, (intItems xs)[argBest (fun i j => decide (numAt xs i > numAt xs j)) (xs.size - 1)]? = some v → (∀ b o, s.heap.get? b = some o → h'.get? b = some o) → Q v { s with heap := h', toks := tk }) :
    wpAny (model prog w) A (call (.builtin "max") [.ref l]) Q E s := by
  refine call_max_walk (tup_iter hl fun s₂ e st hfp hlI => ?_)
  subst e
  refine ⟨_, _, _, _, _, _, _, rfl, Walks.tuple (A := A.in1) hh _ l hlI (intItems xs), st, hfp, by simpa [intItems] using hne, CmpOf.ints_gt (numAt xs) (fun _ _ => intItems_at), fun v h' tk hP hk => ?_⟩
  exact h v h' tk (by simpa [intItems] using hP) (tup_kept hk)
theorem min_tupG {Q : Value → Shared → Prop} (hh : A.handled = none) (hl : s.heap.IsTuple l (intItems xs)) (hne : 0 < xs.size)
    (h : ∀ v h' tk, (intItems xs)[argBest (fun i j => decide (numAt xs i < numAt xs j)) (xs.size - 1)]? = some v → (∀ b o, s.heap.get? b = some o → h'.get? b = some o) → Q v { s with heap := h', toks := tk }) :
    wpAny (model prog w) A (call (.builtin "min") [.ref l]) Q E s := by
  refine call_min_walk (tup_iter hl fun s₂ e st hfp hlI => ?_)
  subst e
  refine ⟨_, _, _, _, _, _, _, rfl, Walks.tuple (A := A.in1) hh _ l hlI (intItems xs), st, hfp, by simpa [intItems] using hne, CmpOf.ints_lt (numAt xs) (fun _ _ => intItems_at), fun v h' tk hP hk => ?_⟩
  exact h v h' tk (by simpa [intItems] using hP) (tup_kept hk)
end
def rMaxT (K : PySem.W.Frag) : List V → Hp → VK → Prop := fun vs H Q => ∃ (a : Addr) (ns : List Int), vs = [V.ref a] ∧ SqT K H a (ns.map V.int) ∧ 0 < ns.length ∧ ∀ m, m ∈ ns → (∀ y, y ∈ ns → y ≤ m) → Q (.int m) H
def rMinT (K : PySem.W.Frag) : List V → Hp → VK → Prop := fun vs H Q => ∃ (a : Addr) (ns : List Int), vs = [V.ref a] ∧ SqT K H a (ns.map V.int) ∧ 0 < ns.length ∧ ∀ m, m ∈ ns → (∀ y, y ∈ ns → m ≤ y) → Q (.int m) H
theorem cr_maxT {X : Cx} (hc : X.calm = true) : CallR X (.builtin "max") (rMaxT X.K) := by
  intro pins s σ H vs us Q I r h
  obtain ⟨a, ns, rfl, hs, hne, q⟩ := h
  obtain ⟨its, rv, hl, _⟩ := I.tuple hs
  rw [Vals.ref1 r]
  have hi := rv.ints
  obtain ⟨xs, e⟩ := hi.allInts.items
  have hn : numsOf (intItems xs).toList = ns := by rw [← e]; exact hi.numsOf
  rw [nums_intItems] at hn
  subst hn
  rw [e] at hl
  have hsz : 0 < xs.size := by simpa using hne
  refine max_tupG (I.ok.hd hc) hl hsz fun v h' tk hv hk => ?_
  obtain ⟨t, rfl⟩ := intItems_at hv
  obtain ⟨h1, h2⟩ := argBest_gt (numAt xs) (xs.size - 1)
  refine ⟨.int _, H, I.kept hk, ⟨_, rfl⟩, q _ ?_ fun a ha => ?_⟩
  · rw [numAt_eq]; exact PySem.getD_mem (by rw [List.length_map, Array.length_toList]; omega)
  · obtain ⟨j, hj, rfl⟩ := mem_getD ha
    rw [List.length_map, Array.length_toList] at hj
    rw [← numAt_eq]; exact h2 j (by omega)
theorem cr_minT {X : Cx} (hc : X.calm = true) : CallR X (.builtin "min") (rMinT X.K) := by
  intro pins s σ H vs us Q I r h
  obtain ⟨a, ns, rfl, hs, hne, q⟩ := h
  obtain ⟨its, rv, hl, _⟩ := I.tuple hs
  rw [Vals.ref1 r]
  have hi := rv.ints
  obtain ⟨xs, e⟩ := hi.allInts.items
  have hn : numsOf (intItems xs).toList = ns := by rw [← e]; exact hi.numsOf
  rw [nums_intItems] at hn
  subst hn
  rw [e] at hl
  have hsz : 0 < xs.size := by simpa using hne
  refine min_tupG (I.ok.hd hc) hl hsz fun v h' tk hv hk => ?_
  obtain ⟨t, rfl⟩ := intItems_at hv
  obtain ⟨h1, h2⟩ := argBest_lt (numAt xs) (xs.size - 1)
  refine ⟨.int _, H, I.kept hk, ⟨_, rfl⟩, q _ ?_ fun a ha => ?_⟩
  · rw [numAt_eq]; exact PySem.getD_mem (by rw [List.length_map, Array.length_toList]; omega)
  · obtain ⟨j, hj, rfl⟩ := mem_getD ha
    rw [List.length_map, Array.length_toList] at hj
    rw [← numAt_eq]; exact h2 j (by omega)
def fSum : OpN := f1 fun
  | .list l => (intsD l).map fun ns => .dat (.int ns.sum)
  | .tuple l => (intsD l).map fun ns => .dat (.int ns.sum)
  | _ => none
def maxL : List Int → Option Int
  | [] => none
  | x :: r => some (r.foldl max x)
def minL : List Int → Option Int
  | [] => none
  | x :: r => some (r.foldl min x)
def fMax : OpN
  | [a] => (match a.rd with
    | some (.list l) => (intsD l).bind fun ns => (maxL ns).map fun m => .dat (.int m)
    | some (.tuple l) => (intsD l).bind fun ns => (maxL ns).map fun m => .dat (.int m)
    | _ => none)
  | [.dat (.int i), .dat (.int j)] => some (.dat (.int (max i j)))
  | _ => none
def fMin : OpN
  | [a] => (match a.rd with
    | some (.list l) => (intsD l).bind fun ns => (minL ns).map fun m => .dat (.int m)
    | some (.tuple l) => (intsD l).bind fun ns => (minL ns).map fun m => .dat (.int m)
    | _ => none)
  | [.dat (.int i), .dat (.int j)] => some (.dat (.int (min i j)))
  | _ => none
def fAll : OpN := f1 fun
  | .list l => (boolsD l).map fun bs => .dat (.bool (bs.all id))
  | _ => none
def fAny : OpN := f1 fun
  | .list l => (boolsD l).map fun bs => .dat (.bool (bs.any id))
  | _ => none
def fAbs : OpN := f1 fun
  | .int i => some (.dat (.int (if i < 0 then -i else i)))
  | _ => none
def fInt : OpN := f1 fun
  | .int i => some (.dat (.int i))
  | .bool b => some (.dat (.int (if b then 1 else 0)))
  | _ => none
def fTuple : OpN := f1 fun
  | .list l => some (.dat (.tuple l))
  | .tuple l => some (.dat (.tuple l))
  | _ => none
def fList : OpN := f1 fun
  | .list l => some (.new l)
  | .tuple l => some (.new l)
  | _ => none
section
variable {C : CC} {B : Base} {X : Cx}
theorem f1_get {g : Gh} {H : Hp} {f : PyData → Option AV} {vs : List V} {as : List AV} {a : AV} (st : StOk C g H) (r : Paired (RepA C g H) vs as) (e : f1 f as = some a) : ∃ v d, vs = [v] ∧ RepB C.K g H v d ∧ f d = some a := by
  match as, r, e with
  | [x], .cons r1 .nil, e =>
    have e : x.rd.bind f = some a := e
    cases h : x.rd with
    | none => rw [h] at e; cases e
    | some d => rw [h] at e; exact ⟨_, d, rfl, r1.b st h, e⟩
theorem ints_ok {K : PySem.W.Frag} {g : Gh} {H : Hp} (ok : GOk K g H) : ∀ {ds : List PyData} {ns : List Int} {vs : List V}, RepVs K g vs ds → intsD ds = some ns → vs = ns.map V.int
  | [], _, _, .nil, e => by cases e; rfl
  | .int i :: r, _, _, .cons q t, e => by
    have e : (intsD r).map (i :: ·) = some _ := e
    cases h : intsD r with
    | none => rw [h] at e; cases e
    | some ds => rw [h] at e; cases e; rw [List.map_cons, ← ints_ok ok t h, RepV.isInt ok q]
theorem bools_ok {K : PySem.W.Frag} {g : Gh} {H : Hp} (ok : GOk K g H) : ∀ {ds : List PyData} {ns : List Bool} {vs : List V}, RepVs K g vs ds → boolsD ds = some ns → vs = ns.map V.bl
  | [], _, _, .nil, e => by cases e; rfl
  | .bool i :: r, _, _, .cons q t, e => by
    have e : (boolsD r).map (i :: ·) = some _ := e
    cases h : boolsD r with
    | none => rw [h] at e; cases e
    | some ds => rw [h] at e; cases e; rw [List.map_cons, ← bools_ok ok t h, RepV.isBl ok q]
theorem c_len (hK : X.K = C.K) : CallR X (.builtin "len") (rDN C fLen) := by
  intro pins s σ H xs us Q I r h
  obtain ⟨g, as, a, st, ra, e, k⟩ := h
  obtain ⟨v, d, rfl, rb, e⟩ := f1_get st ra e
  split at e
  · cases e
    obtain ⟨p, vs, rfl, h1, h2⟩ := rb.lst_inv
    exact call_len pins s σ H _ us Q I r ⟨_, vs.length, rfl, .inl ⟨vs, by rw [hK]; exact h1, rfl⟩, by rw [Paired.len h2]; exact k _ _ (.flat st (.int _))⟩
  · cases e
    obtain ⟨p, vs, rfl, _, h1, h2⟩ := rb.tup_inv
    exact call_len pins s σ H _ us Q I r ⟨_, vs.length, rfl, .inr ⟨vs, by rw [hK]; exact h1, rfl⟩, by rw [Paired.len h2]; exact k _ _ (.flat st (.int _))⟩
  · split at e
    · rename_i z hz
      cases e
      have ez := rb.str_inv
      subst ez
      exact call_len pins s σ H _ us Q I r ⟨_, _, rfl, ⟨by rw [sizeLine_eq]; exact hz, rfl⟩, k _ _ (.flat st (.int _))⟩
    · cases e
  · cases e
theorem c_sum (hK : X.K = C.K) (hc : X.calm = true) : CallR X (.builtin "sum") (rDN C fSum) := by
  intro pins s σ H xs us Q I r h
  obtain ⟨g, as, a, st, ra, e, k⟩ := h
  obtain ⟨v, d, rfl, rb, e⟩ := f1_get st ra e
  split at e
  · rename_i l
    cases hn : intsD l with
    | none => rw [hn] at e; cases e
    | some ns =>
      rw [hn] at e
      cases e
      obtain ⟨p, vs, rfl, h1, h2⟩ := rb.lst_inv
      rw [ints_ok st.1 h2 hn] at h1
      exact cr_sum hc pins s σ H _ us Q I r ⟨p, ns, rfl, by rw [hK]; exact h1, k _ _ (.flat st (.int _))⟩
  · rename_i l
    cases hn : intsD l with
    | none => rw [hn] at e; cases e
    | some ns =>
      rw [hn] at e
      cases e
      obtain ⟨p, vs, rfl, _, h1, h2⟩ := rb.tup_inv
      rw [ints_ok st.1 h2 hn] at h1
      exact cr_sumT hc pins s σ H _ us Q I r ⟨p, ns, rfl, by rw [hK]; exact h1, k _ _ (.flat st (.int _))⟩
  · cases e
theorem foldl_max_spec : ∀ (r : List Int) (x : Int), (r.foldl max x ∈ x :: r) ∧ ∀ y ∈ x :: r, y ≤ r.foldl max x
  | [], x => ⟨by simp, by simp⟩
  | z :: r, x => by
    obtain ⟨h1, h2⟩ := foldl_max_spec r (max x z)
    show (r.foldl max (max x z) ∈ x :: z :: r) ∧ ∀ y ∈ x :: z :: r, y ≤ r.foldl max (max x z)
    have h3 := h2 (max x z) (List.mem_cons_self ..)
    constructor
    · rcases List.mem_cons.mp h1 with e | e
      · rw [e]
        by_cases q : x ≤ z
        · rw [show max x z = z by omega]; simp
        · rw [show max x z = x by omega]; simp
      · exact List.mem_cons_of_mem _ (List.mem_cons_of_mem _ e)
    · intro y hy
      rcases List.mem_cons.mp hy with e | hy
      · subst e; omega
      · rcases List.mem_cons.mp hy with e | hy
        · subst e; omega
        · exact h2 y (List.mem_cons_of_mem _ hy)
theorem foldl_min_spec : ∀ (r : List Int) (x : Int), (r.foldl min x ∈ x :: r) ∧ ∀ y ∈ x :: r, r.foldl min x ≤ y
  | [], x => ⟨by simp, by simp⟩
  | z :: r, x => by
    obtain ⟨h1, h2⟩ := foldl_min_spec r (min x z)
    show (r.foldl min (min x z) ∈ x :: z :: r) ∧ ∀ y ∈ x :: z :: r, r.foldl min (min x z) ≤ y
    have h3 := h2 (min x z) (List.mem_cons_self ..)
    constructor
    · rcases List.mem_cons.mp h1 with e | e
      · rw [e]
        by_cases q : x ≤ z
        · rw [show min x z = x by omega]; simp
        · rw [show min x z = z by omega]; simp
      · exact List.mem_cons_of_mem _ (List.mem_cons_of_mem _ e)
    · intro y hy
      rcases List.mem_cons.mp hy with e | hy
      · subst e; omega
      · rcases List.mem_cons.mp hy with e | hy
        · subst e; omega
        · exact h2 y (List.mem_cons_of_mem _ hy)
theorem maxL_of {ns : List Int} {m m' : Int} (e : maxL ns = some m) (h1 : m' ∈ ns) (h2 : ∀ y ∈ ns, y ≤ m') : m' = m := by
  cases ns with
  | nil => cases e
  | cons x r =>
    cases e
    obtain ⟨h3, h4⟩ := foldl_max_spec r x
    have a := h4 m' h1
    have b := h2 _ h3
    omega
theorem minL_of {ns : List Int} {m m' : Int} (e : minL ns = some m) (h1 : m' ∈ ns) (h2 : ∀ y ∈ ns, m' ≤ y) : m' = m := by
  cases ns with
  | nil => cases e
  | cons x r =>
    cases e
    obtain ⟨h3, h4⟩ := foldl_min_spec r x
    have a := h4 m' h1
    have b := h2 _ h3
    omega
theorem lenPos {ns : List Int} {m : Int} (e : maxL ns = some m) : 0 < ns.length := by
  cases ns with
  | nil => cases e
  | cons x r => simp
theorem lenPos' {ns : List Int} {m : Int} (e : minL ns = some m) : 0 < ns.length := by
  cases ns with
  | nil => cases e
  | cons x r => simp
theorem c_max (hK : X.K = C.K) (hc : X.calm = true) : CallR X (.builtin "max") (rDN C fMax) := by
  intro pins s σ H xs us Q I r h
  obtain ⟨g, as, a, st, ra, e, k⟩ := h
  unfold fMax at e
  split at e
  · rename_i x
    cases ra with
    | cons r1 r2 =>
      cases r2
      split at e
      · rename_i l hl
        have rb := r1.b st hl
        cases hn : intsD l with
        | none => rw [hn] at e; cases e
        | some ns =>
          rw [hn] at e
          cases hm : maxL ns with
          | none => have e : (maxL ns).map _ = some a := e; rw [hm] at e; cases e
          | some m =>
            have e : (maxL ns).map (fun m => AV.dat (.int m)) = some a := e
            rw [hm] at e
            cases e
            obtain ⟨p, vs, rfl, h1, h2⟩ := rb.lst_inv
            rw [ints_ok st.1 h2 hn] at h1
            exact cr_max hc pins s σ H _ us Q I r ⟨p, ns, rfl, by rw [hK]; exact h1, lenPos hm, fun m' h3 h4 => by rw [maxL_of hm h3 h4]; exact k _ _ (.flat st (.int _))⟩
      · rename_i l hl
        have rb := r1.b st hl
        cases hn : intsD l with
        | none => rw [hn] at e; cases e
        | some ns =>
          rw [hn] at e
          cases hm : maxL ns with
          | none => have e : (maxL ns).map _ = some a := e; rw [hm] at e; cases e
          | some m =>
            have e : (maxL ns).map (fun m => AV.dat (.int m)) = some a := e
            rw [hm] at e
            cases e
            obtain ⟨p, vs, rfl, _, h1, h2⟩ := rb.tup_inv
            rw [ints_ok st.1 h2 hn] at h1
            exact cr_maxT hc pins s σ H _ us Q I r ⟨p, ns, rfl, by rw [hK]; exact h1, lenPos hm, fun m' h3 h4 => by rw [maxL_of hm h3 h4]; exact k _ _ (.flat st (.int _))⟩
      · cases e
  · rename_i i j
    cases ra with
    | cons r1 r2 =>
      cases r2 with
      | cons r2 r3 =>
        cases r3
        cases e
        have e1 := RepV.isInt st.1 r1
        have e2 := RepV.isInt st.1 r2
        subst e1 e2
        refine call_max2 hc pins s σ H _ us Q I r ⟨i, j, rfl, ?_⟩
        rw [show (if j > i then j else i) = max i j by split <;> omega]
        exact k _ _ (.flat st (.int _))
  · cases e
theorem c_min (hK : X.K = C.K) (hc : X.calm = true) : CallR X (.builtin "min") (rDN C fMin) := by
  intro pins s σ H xs us Q I r h
  obtain ⟨g, as, a, st, ra, e, k⟩ := h
  unfold fMin at e
  split at e
  · rename_i x
    cases ra with
    | cons r1 r2 =>
      cases r2
      split at e
      · rename_i l hl
        have rb := r1.b st hl
        cases hn : intsD l with
        | none => rw [hn] at e; cases e
        | some ns =>
          rw [hn] at e
          cases hm : minL ns with
          | none => have e : (minL ns).map _ = some a := e; rw [hm] at e; cases e
          | some m =>
            have e : (minL ns).map (fun m => AV.dat (.int m)) = some a := e
            rw [hm] at e
            cases e
            obtain ⟨p, vs, rfl, h1, h2⟩ := rb.lst_inv
            rw [ints_ok st.1 h2 hn] at h1
            exact cr_min hc pins s σ H _ us Q I r ⟨p, ns, rfl, by rw [hK]; exact h1, lenPos' hm, fun m' h3 h4 => by rw [minL_of hm h3 h4]; exact k _ _ (.flat st (.int _))⟩
      · rename_i l hl
        have rb := r1.b st hl
        cases hn : intsD l with
        | none => rw [hn] at e; cases e
        | some ns =>
          rw [hn] at e
          cases hm : minL ns with
          | none => have e : (minL ns).map _ = some a := e; rw [hm] at e; cases e
          | some m =>
            have e : (minL ns).map (fun m => AV.dat (.int m)) = some a := e
            rw [hm] at e
            cases e
            obtain ⟨p, vs, rfl, _, h1, h2⟩ := rb.tup_inv
            rw [ints_ok st.1 h2 hn] at h1
            exact cr_minT hc pins s σ H _ us Q I r ⟨p, ns, rfl, by rw [hK]; exact h1, lenPos' hm, fun m' h3 h4 => by rw [minL_of hm h3 h4]; exact k _ _ (.flat st (.int _))⟩
      · cases e
  · rename_i i j
    cases ra with
    | cons r1 r2 =>
      cases r2 with
      | cons r2 r3 =>
        cases r3
        cases e
        have e1 := RepV.isInt st.1 r1
        have e2 := RepV.isInt st.1 r2
        subst e1 e2
        refine call_min2 hc pins s σ H _ us Q I r ⟨i, j, rfl, ?_⟩
        rw [show (if j < i then j else i) = min i j by split <;> omega]
        exact k _ _ (.flat st (.int _))
  · cases e
theorem c_all (hK : X.K = C.K) (hc : X.calm = true) : CallR X (.builtin "all") (rDN C fAll) := by
  intro pins s σ H xs us Q I r h
  obtain ⟨g, as, a, st, ra, e, k⟩ := h
  obtain ⟨v, d, rfl, rb, e⟩ := f1_get st ra e
  split at e
  · rename_i l
    cases hn : boolsD l with
    | none => rw [hn] at e; cases e
    | some ns =>
      rw [hn] at e
      cases e
      obtain ⟨p, vs, rfl, h1, h2⟩ := rb.lst_inv
      rw [bools_ok st.1 h2 hn] at h1
      exact cr_all hc pins s σ H _ us Q I r ⟨p, ns, rfl, by rw [hK]; exact h1, k _ _ (.flat st (.bl _))⟩
  · cases e
theorem c_any (hK : X.K = C.K) (hc : X.calm = true) : CallR X (.builtin "any") (rDN C fAny) := by
  intro pins s σ H xs us Q I r h
  obtain ⟨g, as, a, st, ra, e, k⟩ := h
  obtain ⟨v, d, rfl, rb, e⟩ := f1_get st ra e
  split at e
  · rename_i l
    cases hn : boolsD l with
    | none => rw [hn] at e; cases e
    | some ns =>
      rw [hn] at e
      cases e
      obtain ⟨p, vs, rfl, h1, h2⟩ := rb.lst_inv
      rw [bools_ok st.1 h2 hn] at h1
      exact cr_any hc pins s σ H _ us Q I r ⟨p, ns, rfl, by rw [hK]; exact h1, k _ _ (.flat st (.bl _))⟩
  · cases e
theorem c_abs : CallR X (.builtin "abs") (rDN C fAbs) := by
  intro pins s σ H xs us Q I r h
  obtain ⟨g, as, a, st, ra, e, k⟩ := h
  obtain ⟨v, d, rfl, rb, e⟩ := f1_get st ra e
  split at e
  · cases e
    have ev := rb.int_inv
    subst ev
    exact call_abs pins s σ H _ us Q I r ⟨_, rfl, k _ _ (.flat st (.int _))⟩
  · cases e
theorem c_int : CallR X (.type "int") (rDN C fInt) := by
  intro pins s σ H xs us Q I r h
  obtain ⟨g, as, a, st, ra, e, k⟩ := h
  obtain ⟨v, d, rfl, rb, e⟩ := f1_get st ra e
  split at e
  · cases e
    have ev := rb.int_inv
    subst ev
    exact call_int1 pins s σ H _ us Q I r (.inl ⟨_, rfl, k _ _ (.flat st (.int _))⟩)
  · cases e
    rename_i b
    have ev : v = .bl b := by cases rb with | fl h => cases h; rfl
    subst ev
    exact call_int1 pins s σ H _ us Q I r (.inr ⟨_, rfl, k _ _ (.flat st (.int _))⟩)
  · cases e
theorem c_tuple (hK : X.K = C.K) : CallR X (.type "tuple") (rDN C fTuple) := by
  intro pins s σ H xs us Q I r h
  obtain ⟨g, as, a, st, ra, e, k⟩ := h
  obtain ⟨v, d, rfl, rb, e⟩ := f1_get st ra e
  split at e
  · cases e
    obtain ⟨p, vs, rfl, h1, h2⟩ := rb.lst_inv
    exact call_tuple_of pins s σ H _ us Q I r ⟨p, vs, rfl, .inl ⟨by rw [hK]; exact h1, fun l hl => k _ _ (.tup st hl h2)⟩⟩
  · cases e
    obtain ⟨p, vs, rfl, r1, h1, h2⟩ := rb.tup_inv
    exact call_tuple_of pins s σ H _ us Q I r ⟨p, vs, rfl, .inr ⟨by rw [hK]; exact h1, k _ _ (.same st r1)⟩⟩
  · cases e
theorem c_list (hK : X.K = C.K) : CallR X (.type "list") (rDN C fList) := by
  intro pins s σ H xs us Q I r h
  obtain ⟨g, as, a, st, ra, e, k⟩ := h
  obtain ⟨v, d, rfl, rb, e⟩ := f1_get st ra e
  split at e
  · cases e
    obtain ⟨p, vs, rfl, h1, h2⟩ := rb.lst_inv
    exact call_list_of pins s σ H _ us Q I r ⟨p, vs, rfl, .inl (by rw [hK]; exact h1), fun l hl => k _ _ (.new st hl h2)⟩
  · cases e
    obtain ⟨p, vs, rfl, r1, h1, h2⟩ := rb.tup_inv
    exact call_list_of pins s σ H _ us Q I r ⟨p, vs, rfl, .inr (by rw [hK]; exact h1), fun l hl => k _ _ (.new st hl h2)⟩
  · cases e
end
end TL
namespace TL
open PySem PySem.Spec PyProof.Rows L2 LamX NdefX

/-! ### what is walked -/
abbrev TId := En → (List PyData → Prop) → (XD → Prop) → Prop
def Ylds (C : CC) (g0 : Gh) (J : It) (xs : List PyData) : Prop :=
  ∀ i g H, (∀ a u, g0 a = some u → g a = some u) → StOk C g H →
    (∀ d, xs[i]? = some d → J.go i H ∧ ∀ x H', J.yld i H x H' → ∃ g', Gr g H g' H' ∧ StOk C g' H' ∧ RepV C.K g' x d) ∧ (i = xs.length → J.stop i H)
def tDI (C : CC) (B : Base) (t : TId) : TI := fun σ H R => ∃ g env Qd, StOk C g H ∧ EnvOk C B g H σ env ∧ t env Qd XF ∧ ∀ J xs g' H', Qd xs → Gr g H g' H' → StOk C g' H' → Ylds C g' J xs → xs.length ≤ 16777216 → R J H'
abbrev DI (C : CC) (B : Base) (X : Cx) (tg e : Expr) (t : TId) : Prop := PI X tg e (tDI C B t)
theorem piW {X : Cx} {tg e : Expr} {t t' : TI} (h : PI X tg e t) (w : ∀ σ H Q, t' σ H Q → t σ H Q) : PI X tg e t' := ⟨fun pins s σ H Q I q => h.run pins s σ H Q I (w σ H Q q)⟩

def seqOf (a : AV) (Q : List PyData → Prop) : Prop := match a.sd with
  | some (.list l) => Q l
  | some (.tuple l) => Q l
  | _ => False
def iSeq (t : TEd) : TId := fun env Q E => t env (fun a => seqOf a Q) E
theorem seqOf_get {a : AV} {Q : List PyData → Prop} (h : seqOf a Q) : ∃ l b, a.st = some b ∧ (b = .dat (.list l) ∨ b = .dat (.tuple l)) ∧ Q l := by
  unfold seqOf at h
  split at h
  · rename_i l e
    cases a with
    | dat d => cases e; exact ⟨l, _, rfl, .inl rfl, h⟩
    | new l' => cases e; exact ⟨l, _, rfl, .inl rfl, h⟩
    | _ => cases e
  · rename_i l e
    cases a with
    | dat d => cases e; exact ⟨l, _, rfl, .inr rfl, h⟩
    | _ => cases e
  · exact h.elim
section
variable {C : CC} {B : Base} {X : Cx} {tg a b : Expr} {ta tb : TEd} {pos : Pos}
/-- a frozen list as it stands from now on -/
theorem lst_now {g0 : Gh} {v : V} {l : List PyData} (r : RepV C.K g0 v (.list l)) (ok : ∀ H, GOk C.K g0 H → True) : ∃ p, v = .ref p ∧ ∀ g H, (∀ a u, g0 a = some u → g a = some u) → StOk C g H → ∃ vs, SqL C.K H p vs ∧ RepVs C.K g vs l := by
  cases r with
  | ref e =>
    refine ⟨_, rfl, fun g H m st => ?_⟩
    obtain ⟨vs, h, q⟩ := st.1 _ _ (m _ _ e)
    exact ⟨vs, .inl h, q⟩
  | kl h q => exact ⟨_, rfl, fun g H m st => ⟨_, h H, Paired.mapP q fun _ _ z => z.v⟩⟩
theorem tup_now {g0 : Gh} {v : V} {l : List PyData} (r : RepV C.K g0 v (.tuple l)) : ∃ p, v = .ref p ∧ ∀ g H, (∀ a u, g0 a = some u → g a = some u) → StOk C g H → ∃ vs, SqT C.K H p vs ∧ RepVs C.K g vs l := by
  cases r with
  | ref e =>
    refine ⟨_, rfl, fun g H m st => ?_⟩
    obtain ⟨vs, h, q⟩ := st.1 _ _ (m _ _ e)
    exact ⟨vs, .inl h, q⟩
theorem SqL.lenQ {H : Hp} {p : Addr} {vs : List V} {pins σ s} (I : Inv X pins σ H s) (h : SqL X.K H p vs) : vs.length ≤ 16777216 := by
  obtain ⟨_, _, _, z⟩ := I.list h
  rw [sizeLine_eq] at z
  exact z
theorem SqT.lenQ {H : Hp} {p : Addr} {vs : List V} {pins σ s} (I : Inv X pins σ H s) (h : SqT X.K H p vs) : vs.length ≤ 16777216 := by
  obtain ⟨_, _, _, z⟩ := I.tuple h
  rw [sizeLine_eq] at z
  exact z
theorem ylds_list {g0 : Gh} {p : Addr} {l : List PyData} (now : ∀ g H, (∀ a u, g0 a = some u → g a = some u) → StOk C g H → ∃ vs, SqL C.K H p vs ∧ RepVs C.K g vs l) : Ylds C g0 (Itl C.K p) l := fun i g H m st => by
  obtain ⟨vs, h, q⟩ := now g H m st
  refine ⟨fun d e => ?_, fun e => ⟨vs, h, ?_⟩⟩
  · obtain ⟨v, ev, rv⟩ := q.get e
    refine ⟨⟨vs, v, h, ev⟩, fun x H' ⟨eH, y⟩ => ⟨g, ?_⟩⟩
    subst eH
    have e2 : v = x := Option.some.inj (ev.symm.trans (y vs h))
    subst e2
    exact ⟨.refl, st, rv⟩
  · rw [Paired.len q, e]
    exact Nat.le_refl _
theorem ylds_tup {g0 : Gh} {p : Addr} {l : List PyData} (now : ∀ g H, (∀ a u, g0 a = some u → g a = some u) → StOk C g H → ∃ vs, SqT C.K H p vs ∧ RepVs C.K g vs l) : Ylds C g0 (Itt C.K p) l := fun i g H m st => by
  obtain ⟨vs, h, q⟩ := now g H m st
  refine ⟨fun d e => ?_, fun e => ⟨vs, h, ?_⟩⟩
  · obtain ⟨v, ev, rv⟩ := q.get e
    refine ⟨⟨vs, v, h, ev⟩, fun x H' ⟨eH, y⟩ => ⟨g, ?_⟩⟩
    subst eH
    have e2 : v = x := Option.some.inj (ev.symm.trans (y vs h))
    subst e2
    exact ⟨.refl, st, rv⟩
  · rw [Paired.len q, e]
    exact Nat.le_refl _
theorem it_lst {pins : List (Addr × Obj)} {σ : L2.St} {H : Hp} {s : Shared} {p : Addr} {xs : List V} {R : It → Hp → Prop} {E : Value → Shared → Prop} (I : L2.Inv X pins σ H s) (h : SqL X.K H p xs) (q : R (Itl X.K p) H) :
    wpAny (model X.prog X.w) X.A (pyIter (.ref p)) (PIE X pins σ tg R) E s := by
  obtain ⟨its, rv, pl, hz⟩ := I.list h
  have N := Nat.le_refl s.heap.objs.size
  refine wpAny_pyIter_list pl.isList ⟨_, [s.heap.objs.size], _, _, H, rfl, I.kept (t' := s.toks) fun b o e => Heap.get?_push_of_some _ e, turn_list p _, ⟨_, Heap.get?_push_size _ rfl, rfl, rfl⟩, fun b hb => ?_, q⟩
  rw [show b = s.heap.objs.size by simpa using hb]
  exact I.fpOk N (I.hok.fresh N)
theorem it_tup {pins : List (Addr × Obj)} {σ : L2.St} {H : Hp} {s : Shared} {p : Addr} {xs : List V} {R : It → Hp → Prop} {E : Value → Shared → Prop} (I : L2.Inv X pins σ H s) (h : SqT X.K H p xs) (q : R (Itt X.K p) H) :
    wpAny (model X.prog X.w) X.A (pyIter (.ref p)) (PIE X pins σ tg R) E s := by
  obtain ⟨its, rv, pl, hz⟩ := I.tuple h
  have N := Nat.le_refl s.heap.objs.size
  refine wpAny_pyIter_tuple (show s.heap.IsTuple p its.toArray from pl) ⟨_, [s.heap.objs.size], _, _, H, rfl, I.kept (t' := s.toks) fun b o e => Heap.get?_push_of_some _ e, turn_tuple p _, ⟨_, Heap.get?_push_size _ rfl, rfl, rfl⟩, fun b hb => ?_, q⟩
  rw [show b = s.heap.objs.size by simpa using hb]
  exact I.fpOk N (I.hok.fresh N)
/-- a list or a tuple, whichever it is -/
theorem di_seq (hK : X.K = C.K) (ha : DE C B X a ta) : DI C B X tg a (iSeq ta) := by
  refine ⟨fun pins s σ H R I h => ?_⟩
  obtain ⟨g, env, Qd, st, eo, h, k⟩ := h
  refine thn (ha.run pins s σ H (fun v H1 => Res C g H (fun x => seqOf x Qd) v H1) I ⟨g, env, _, st, eo, h, fun v H1 r => r⟩) fun v s1 ⟨x, H1, I1, r1, a1, g1, q, f1, st1, ra, n1⟩ => ?_
  obtain ⟨l, b, eb, hb, q⟩ := seqOf_get q
  obtain ⟨g2, f2, st2, r2, m2⟩ := freeze st f1 st1 ra n1 eb
  rcases hb with rfl | rfl
  · obtain ⟨p, rfl, now⟩ := lst_now r2 fun _ _ => trivial
    obtain ⟨vs, h1, h2⟩ := now g2 H1 (fun _ _ h => h) st2
    rw [← hK] at h1
    cases r1
    refine it_lst I1 h1 (k _ l g2 H1 q f2 st2 ?_ ?_)
    · rw [hK]; exact ylds_list now
    · rw [← Paired.len h2]; exact SqL.lenQ I1 h1
  · obtain ⟨p, rfl, now⟩ := tup_now r2
    obtain ⟨vs, h1, h2⟩ := now g2 H1 (fun _ _ h => h) st2
    rw [← hK] at h1
    cases r1
    refine it_tup I1 h1 (k _ l g2 H1 q f2 st2 ?_ ?_)
    · rw [hK]; exact ylds_tup now
    · rw [← Paired.len h2]; exact SqT.lenQ I1 h1
/-! ### ranges -/
def rngD (lo : Int) (n : Nat) : List PyData := (List.range n).map fun (i : Nat) => .int (lo + i)
def okRng (lo hi : Int) : Bool := decide (-(2 ^ 62) ≤ lo) && decide (lo < 2 ^ 62) && decide (-(2 ^ 62) ≤ hi) && decide (hi < 2 ^ 62) && decide (hi - lo ≤ 16777216)
def iRg1 (t : TAd) : TId := fun env Q E => t env (fun as => match as with
  | [.dat (.int j)] => okRng 0 j = true ∧ Q (rngD 0 j.toNat)
  | _ => False) E
def iRg2 (t : TAd) : TId := fun env Q E => t env (fun as => match as with
  | [.dat (.int i), .dat (.int j)] => okRng i j = true ∧ Q (rngD i (j - i).toNat)
  | _ => False) E
theorem okRng_get {lo hi : Int} (h : okRng lo hi = true) : (-(2 ^ 62) ≤ lo ∧ lo < 2 ^ 62 ∧ -(2 ^ 62) ≤ hi ∧ hi < 2 ^ 62) ∧ hi - lo ≤ 16777216 := by
  simp only [okRng, Bool.and_eq_true, decide_eq_true_eq] at h
  exact ⟨⟨h.1.1.1.1, h.1.1.1.2, h.1.1.2, h.1.2⟩, h.2⟩
theorem ylds_rng {g0 : Gh} (lo : Int) (n : Nat) : Ylds C g0 (Itr lo n) (rngD lo n) := fun i g H m st => by
  unfold rngD
  refine ⟨fun d e => ?_, fun e => ?_⟩
  · rw [List.getElem?_map] at e
    by_cases hi : i < n
    · rw [List.getElem?_range hi] at e
      cases e
      refine ⟨hi, fun x H' ⟨eH, ex⟩ => ⟨g, ?_⟩⟩
      subst eH ex
      exact ⟨.refl, st, .int _⟩
    · rw [List.getElem?_eq_none (by simp; omega)] at e
      cases e
  · show n ≤ i
    rw [e, List.length_map, List.length_range]
    exact Nat.le_refl _
theorem di_rng1 {p : Pos} {t : TAd} (hg : Gl X "range") (hm : X.mg "range" = none) (ha : DA C B X [a] t) (hs : isStar a = false) : DI C B X tg (.Call (.Name "range" p) [a] [] pos) (iRg1 t) := by
  refine piW (pi_range1 hg hm ha (star_cons _ _ _ hs)) fun σ H R h => ?_
  obtain ⟨g, env, Qd, st, eo, h, k⟩ := h
  refine ⟨g, env, _, st, eo, h, fun vs as g1 H1 q f1 st1 r1 => ?_⟩
  try dsimp only at q
  split at q
  · rename_i j
    obtain ⟨ok, q⟩ := q
    obtain ⟨⟨_, _, h1, h2⟩, h3⟩ := okRng_get ok
    cases r1 with
    | cons r1 r2 =>
      cases r2
      exact ⟨j, by rw [RepV.isInt st1.1 r1], h1, h2, k _ _ g1 H1 q f1 st1 (ylds_rng _ _) (by simp [rngD]; omega)⟩
  · exact q.elim
theorem di_rng2 {p : Pos} {t : TAd} (hg : Gl X "range") (hm : X.mg "range" = none) (ha : DA C B X [a, b] t) (hs : isStar a = false) (hs2 : isStar b = false) : DI C B X tg (.Call (.Name "range" p) [a, b] [] pos) (iRg2 t) := by
  refine piW (pi_range2 hg hm ha (by rw [star_cons _ _ _ hs, star_cons _ _ _ hs2]; rfl) (star_cons _ _ _ hs2)) fun σ H R h => ?_
  obtain ⟨g, env, Qd, st, eo, h, k⟩ := h
  refine ⟨g, env, _, st, eo, h, fun vs as g1 H1 q f1 st1 r1 => ?_⟩
  try dsimp only at q
  split at q
  · rename_i i j
    obtain ⟨ok, q⟩ := q
    obtain ⟨h1, h3⟩ := okRng_get ok
    cases r1 with
    | cons r1 r2 =>
      cases r2 with
      | cons r2 r3 =>
        cases r3
        exact ⟨i, j, by rw [RepV.isInt st1.1 r1, RepV.isInt st1.1 r2], h1, k _ _ g1 H1 q f1 st1 (ylds_rng _ _) (by simp [rngD]; omega)⟩
  · exact q.elim
end
end TL
namespace TL
open PySem PySem.Spec PyProof.Rows L2 LamX NdefX

/-! ### targets: a name; several names of a pair, a triple .. -/
inductive NT where
  | n (i : Nat)
  | t (is : List Nat)
inductive Tg where
  | nm (i : Nat)
  | tp (is : List Nat)
  | np (ts : List NT)
  | ez (i : Nat) (ts : List NT)
def setE (env : En) (i : Nat) (d : PyData) : En := env.set i (some (.av (.dat d)))
def setsE : En → List Nat → List PyData → Option En
  | env, [], [] => some env
  | env, i :: is, d :: ds => setsE (setE env i d) is ds
  | _, _, _ => none
def setsN : En → List NT → List PyData → Option En
  | env, [], [] => some env
  | env, .n i :: r, d :: ds => setsN (setE env i d) r ds
  | env, .t is :: r, .tuple l :: ds => (setsE env is l).bind fun e => setsN e r ds
  | _, _, _ => none
def Tg.set (t : Tg) (d : PyData) (env : En) : Option En := match t, d with
  | .nm i, d => some (setE env i d)
  | .tp is, .tuple ds => setsE env is ds
  | .np ts, .tuple ds => setsN env ts ds
  | .ez i ts, .tuple [a, .tuple l] => setsN (setE env i a) ts l
  | _, _ => none
def NT.slots : NT → List Nat
  | .n i => [i]
  | .t is => is
def nSlots : List NT → List Nat
  | [] => []
  | x :: r => x.slots ++ nSlots r
def Tg.slots : Tg → List Nat
  | .nm i => [i]
  | .tp is => is
  | .np ts => nSlots ts
  | .ez i ts => i :: nSlots ts
def gNames : List Nat → TGs
  | [] => gNil
  | i :: is => gCons (gName i) (gNames is)
def gNTs (K : PySem.W.Frag) : List NT → TGs
  | [] => gNil
  | .n i :: r => gCons (gName i) (gNTs K r)
  | .t is :: r => gCons (gTup K is.length (gNames is)) (gNTs K r)
def Tg.g (K : PySem.W.Frag) : Tg → TG
  | .nm i => gName i
  | .tp is => gTup K is.length (gNames is)
  | .np ts => gTup K ts.length (gNTs K ts)
  | .ez i ts => gTup K 2 (gCons (gName i) (gCons (gTup K ts.length (gNTs K ts)) gNil))
section
variable {C : CC} {B : Base}
theorem EnvOk.set {g : Gh} {H : Hp} {σ : L2.St} {env : En} (e : EnvOk C B g H σ env) (i : Nat) {v : V} {d : PyData} (r : RepV C.K g v d) : EnvOk C B g H (σ.set i (some v)) (setE env i d) := by
  have hl := e.len
  refine ⟨by simp [setE, hl], fun j s h => ?_, fun j k l m a h1 h2 h3 h4 => ?_⟩
  · unfold setE at h
    by_cases hj : i = j
    · subst hj
      by_cases hi : i < env.length
      · rw [List.getElem?_set_self hi] at h
        cases h
        exact ⟨v, by rw [List.getElem?_set_self (by omega)], r⟩
      · rw [List.getElem?_eq_none (by simp; omega)] at h
        cases h
    · rw [List.getElem?_set_ne hj] at h
      obtain ⟨w, h1, h2⟩ := e.at_ j s h
      exact ⟨w, by rw [List.getElem?_set_ne hj]; exact h1, h2⟩
  · unfold setE at h1 h2
    have ne : ∀ x l, (env.set i (some (SL.av (.dat d))))[x]? = some (some (.own l)) → i ≠ x := fun x l h z => by
      subst z
      by_cases hi : i < env.length
      · rw [List.getElem?_set_self hi] at h; cases h
      · rw [List.getElem?_eq_none (by simp; omega)] at h; cases h
    have n1 := ne _ _ h1
    have n2 := ne _ _ h2
    rw [List.getElem?_set_ne n1] at h1 h3
    rw [List.getElem?_set_ne n2] at h2 h4
    exact e.sep j k l m a h1 h2 h3 h4
theorem gNames_ok {g : Gh} {H : Hp} {vs0 : List Nat} {Q : L2.St → Hp → Prop} {env' : En} : ∀ {is : List Nat} {ds : List PyData} {vs : List V} {σ : L2.St} {env : En}, EnvOk C B g H σ env → RepVs C.K g vs ds → setsE env is ds = some env' → (∀ i ∈ is, i ∈ vs0) →
    (∀ σ', EnvOk C B g H σ' env' → wipe σ' vs0 = wipe σ vs0 → Q σ' H) → gNames is vs σ H Q
  | [], [], _, σ, env, eo, .nil, e, _, k => by cases e; exact ⟨rfl, k σ eo rfl⟩
  | i :: is, d :: ds, v :: vs, σ, env, eo, .cons r t, e, hs, k => by
    refine ⟨v, vs, rfl, ?_⟩
    show gNames is vs (σ.set i (some v)) H Q
    refine gNames_ok (eo.set i r) t e (fun j hj => hs j (List.mem_cons_of_mem _ hj)) fun σ' eo' w => k σ' eo' (w.trans (wipe_set (hs i (List.mem_cons_self ..))))
  | [], _ :: _, _, _, _, _, _, e, _, _ => by cases e
  | _ :: _, [], _, _, _, _, _, e, _, _ => by cases e
where
  wipe_set {σ : L2.St} {i : Nat} {x : Option V} : ∀ {vs : List Nat}, i ∈ vs → wipe (σ.set i x) vs = wipe σ vs := by
    intro vs
    have gen : ∀ (vs : List Nat) (j : Nat), (wipe (σ.set i x) vs)[j]? = if j = i ∧ i ∉ vs ∧ i < σ.length then some x else (wipe σ vs)[j]? := by
      intro vs
      induction vs with
      | nil =>
        intro j
        unfold wipe
        by_cases hj : j = i
        · subst hj
          by_cases hl : j < σ.length
          · rw [if_pos ⟨rfl, by simp, hl⟩, List.getElem?_set_self hl]
          · rw [if_neg (fun z => hl z.2.2), List.getElem?_eq_none (by simp; omega), List.getElem?_eq_none (by omega)]
        · rw [if_neg (fun z => hj z.1), List.getElem?_set_ne (Ne.symm hj)]
      | cons v vs ih =>
        intro j
        unfold wipe
        by_cases hv : v = j
        · subst hv
          by_cases hl : v < σ.length
          · rw [List.getElem?_set_self (by rw [wipe_length, List.length_set]; exact hl), List.getElem?_set_self (by rw [wipe_length]; exact hl), if_neg (fun z => z.2.1 (by simp [z.1]))]
          · rw [List.getElem?_eq_none (by rw [List.length_set, wipe_length, List.length_set]; omega), List.getElem?_eq_none (by rw [List.length_set, wipe_length]; omega), if_neg (fun z => hl (by rw [z.1]; exact z.2.2))]
        · rw [List.getElem?_set_ne hv, List.getElem?_set_ne hv, ih j]
          by_cases c : j = i ∧ i ∉ vs ∧ i < σ.length
          · rw [if_pos c, if_pos ⟨c.1, fun z => (List.mem_cons.mp z).elim (fun e => hv (by rw [← e, c.1])) c.2.1, c.2.2⟩]
          · rw [if_neg c, if_neg (fun z => c ⟨z.1, fun y => z.2.1 (List.mem_cons_of_mem _ y), z.2.2⟩)]
    intro hi
    refine List.ext_getElem? fun j => ?_
    rw [gen vs j, if_neg (fun z => z.2.1 hi)]
theorem setsE_len {env' : En} : ∀ {is : List Nat} {ds : List PyData} {env : En}, setsE env is ds = some env' → is.length = ds.length := by
  intro is
  induction is with
  | nil => intro ds env e; cases ds with | nil => rfl | cons _ _ => cases e
  | cons i is ih => intro ds env e; cases ds with | nil => cases e | cons d ds => exact congrArg (· + 1) (ih e)
theorem setsN_len {env' : En} : ∀ {ts : List NT} {ds : List PyData} {env : En}, setsN env ts ds = some env' → ts.length = ds.length := by
  intro ts
  induction ts with
  | nil => intro ds env e; cases ds with | nil => rfl | cons _ _ => cases e
  | cons x ts ih =>
    intro ds env e
    cases ds with
    | nil => cases x <;> cases e
    | cons d ds =>
      cases x with
      | n i => exact congrArg (· + 1) (ih (show setsN (setE env i d) ts ds = some env' from e))
      | t is =>
        cases d with
        | tuple l =>
          have e : (setsE env is l).bind (fun e => setsN e ts ds) = some env' := e
          obtain ⟨e1, _, e2⟩ := Option.bind_eq_some_iff.mp e
          exact congrArg (· + 1) (ih e2)
        | _ => cases e
theorem gNTs_ok {g : Gh} {H : Hp} {vs0 : List Nat} {Q : L2.St → Hp → Prop} {env' : En} (st : StOk C g H) : ∀ {ts : List NT} {ds : List PyData} {vs : List V} {σ : L2.St} {env : En}, EnvOk C B g H σ env → RepVs C.K g vs ds → setsN env ts ds = some env' → (∀ i ∈ nSlots ts, i ∈ vs0) →
    (∀ σ', EnvOk C B g H σ' env' → wipe σ' vs0 = wipe σ vs0 → Q σ' H) → gNTs C.K ts vs σ H Q
  | [], [], _, σ, env, eo, .nil, e, _, k => by cases e; exact ⟨rfl, k σ eo rfl⟩
  | .n i :: ts, d :: ds, v :: vs, σ, env, eo, .cons r t, e, hs, k => by
    refine ⟨v, vs, rfl, ?_⟩
    show gNTs C.K ts vs (σ.set i (some v)) H Q
    exact gNTs_ok st (eo.set i r) t e (fun j hj => hs j (List.mem_append_right _ hj)) fun σ' eo' w => k σ' eo' (w.trans (gNames_ok.wipe_set (hs i (List.mem_append_left _ (List.mem_singleton.mpr rfl)))))
  | .t is :: ts, d :: ds, v :: vs, σ, env, eo, .cons r t, e, hs, k => by
    cases d with
    | tuple l =>
      have e : (setsE env is l).bind (fun e => setsN e ts ds) = some env' := e
      obtain ⟨e1, e2, e3⟩ := Option.bind_eq_some_iff.mp e
      refine ⟨v, vs, rfl, ?_⟩
      obtain ⟨p, rfl, now⟩ := tup_now r
      obtain ⟨ws, h1, h2⟩ := now g H (fun _ _ h => h) st
      refine ⟨p, ws, rfl, h1, by rw [Paired.len h2, setsE_len e2], ?_⟩
      exact gNames_ok eo h2 e2 (fun j hj => hs j (List.mem_append_left _ hj)) fun σ1 eo1 w1 =>
        gNTs_ok st eo1 t e3 (fun j hj => hs j (List.mem_append_right _ hj)) fun σ' eo' w => k σ' eo' (w.trans w1)
    | _ => cases e
  | [], _ :: _, _, _, _, _, _, e, _, _ => by cases e
  | .n _ :: _, [], _, _, _, _, _, e, _, _ => by cases e
  | .t _ :: _, [], _, _, _, _, _, e, _, _ => by cases e
theorem Tg.ok {t : Tg} {g : Gh} {H : Hp} {vs0 : List Nat} {Q : L2.St → Hp → Prop} {env env' : En} {d : PyData} {v : V} {σ : L2.St} (st : StOk C g H) (eo : EnvOk C B g H σ env) (r : RepV C.K g v d) (e : t.set d env = some env') (hs : ∀ i ∈ t.slots, i ∈ vs0)
    (k : ∀ σ', EnvOk C B g H σ' env' → wipe σ' vs0 = wipe σ vs0 → Q σ' H) : t.g C.K v σ H Q := by
  cases t with
  | nm i =>
    cases e
    exact k _ (eo.set i r) (gNames_ok.wipe_set (hs i (List.mem_singleton.mpr rfl)))
  | tp is =>
    cases d with
    | tuple ds =>
      obtain ⟨p, rfl, now⟩ := tup_now r
      obtain ⟨vs, h1, h2⟩ := now g H (fun _ _ h => h) st
      have el : ∀ {is : List Nat} {ds : List PyData} {env : En}, setsE env is ds = some env' → is.length = ds.length := by
        intro is
        induction is with
        | nil => intro ds env e; cases ds with | nil => rfl | cons _ _ => cases e
        | cons i is ih => intro ds env e; cases ds with | nil => cases e | cons d ds => exact congrArg (· + 1) (ih e)
      exact ⟨p, vs, rfl, h1, by rw [Paired.len h2, el e], gNames_ok eo h2 e hs k⟩
    | _ => cases e
  | np ts =>
    cases d with
    | tuple ds =>
      obtain ⟨p, rfl, now⟩ := tup_now r
      obtain ⟨vs, h1, h2⟩ := now g H (fun _ _ h => h) st
      exact ⟨p, vs, rfl, h1, by rw [Paired.len h2, setsN_len e], gNTs_ok st eo h2 e hs k⟩
    | _ => cases e
  | ez i ts =>
    match d, e, r with
    | .tuple [a, .tuple l], e, r =>
      have e : setsN (setE env i a) ts l = some env' := e
      obtain ⟨p, rfl, now⟩ := tup_now r
      obtain ⟨vs, h1, h2⟩ := now g H (fun _ _ h => h) st
      cases h2 with
      | cons r1 h2 =>
        cases h2 with
        | cons r2 h2 =>
          cases h2
          obtain ⟨q, rfl, now2⟩ := tup_now r2
          obtain ⟨ws, h3, h4⟩ := now2 g H (fun _ _ h => h) st
          refine ⟨p, _, rfl, h1, rfl, _, _, rfl, _, _, rfl, ?_⟩
          refine ⟨q, ws, rfl, h3, by rw [Paired.len h4, setsN_len e], ?_⟩
          refine gNTs_ok st (eo.set i r1) h4 e (fun j hj => hs j (List.mem_cons_of_mem _ hj)) fun σ' eo' w => ⟨rfl, k σ' eo' (w.trans (gNames_ok.wipe_set (hs i (List.mem_cons_self ..))))⟩
end

/-! ### for -/
def forGo (t : Tg) (body : TSd) (D : EndsD) (E : XD → Prop) : List PyData → En → Prop
  | [], env => D.nx env
  | d :: ds, env => match t.set d env with
    | some env' => body { D with nx := forGo t body D E ds, ct := forGo t body D E ds, bk := D.nx } env' E
    | none => False
def sFor (ti : TId) (t : Tg) (body : TSd) : TSd := fun D env E => ti env (fun xs => forGo t body D E xs env) E
def gle (g g' : Gh) : Prop := ∀ a u, g a = some u → g' a = some u
theorem gle.refl {g : Gh} : gle g g := fun _ _ h => h
theorem gle.trans {g g1 g2 : Gh} (a : gle g g1) (b : gle g1 g2) : gle g g2 := fun x u h => b x u (a x u h)
/-- a state of a body begun at B -/
structure SOk (C : CC) (B : Base) (g0 : Gh) (g : Gh) (H : Hp) : Prop where
  le : gle g0 g
  st : StOk C g H
  fb : Gr B.g B.H g H
/-- the ends of a statement, as the heap has them -/
structure EndsOk (C : CC) (B : Base) (g0 : Gh) (Dd : EndsD) (D : Ends) : Prop where
  nx : ∀ env σ g H, Dd.nx env → SOk C B g0 g H → EnvOk C B g H σ env → D.nx σ H
  bk : ∀ env σ g H, Dd.bk env → SOk C B g0 g H → EnvOk C B g H σ env → D.bk σ H
  ct : ∀ env σ g H, Dd.ct env → SOk C B g0 g H → EnvOk C B g H σ env → D.ct σ H
  rt : ∀ a v g H, Dd.rt a → SOk C B g0 g H → RepA C g H v a → D.rt v H
theorem EndsOk.le {C : CC} {B : Base} {g0 g1 : Gh} {Dd : EndsD} {D : Ends} (e : EndsOk C B g0 Dd D) (h : gle g0 g1) : EndsOk C B g1 Dd D :=
  ⟨fun env σ g H a b => e.nx env σ g H a ⟨h.trans b.le, b.st, b.fb⟩, fun env σ g H a b => e.bk env σ g H a ⟨h.trans b.le, b.st, b.fb⟩, fun env σ g H a b => e.ct env σ g H a ⟨h.trans b.le, b.st, b.fb⟩, fun x v g H a b => e.rt x v g H a ⟨h.trans b.le, b.st, b.fb⟩⟩
def tDS (C : CC) (B : Base) (t : TSd) : TS := fun D σ H => ∃ g env Dd, StOk C g H ∧ Gr B.g B.H g H ∧ EnvOk C B g H σ env ∧ t Dd env XF ∧ EndsOk C B g Dd D
abbrev DS (C : CC) (B : Base) (X : Cx) (st : Stmt) (t : TSd) : Prop := PS X st (tDS C B t)
abbrev DSs (C : CC) (B : Base) (X : Cx) (st : List Stmt) (t : TSd) : Prop := PSs X st (tDS C B t)
section
variable {C : CC} {B : Base} {X : Cx} {tg iter e : Expr} {body : List Stmt} {pos : Pos} {ti : TId} {t : Tg} {tb tu : TSd} {te : TEd} {tt : TTd}
theorem ds_for (hp : PassesOwn (model X.prog X.w) X.A X.env X.xe) (hc : X.calm = true) (hi : DI C B X tg iter ti) (hg : PG X tg (t.g C.K)) (hb : DSs C B X body tb) (hs : ∀ x, foldedSetIterable iter X.env x = pure x) : DS C B X (.For tg iter body [] pos) (sFor ti t tb) := by
  refine psW (ps_for hp hc hi hg hb hs) fun D σ H h => ?_
  obtain ⟨g, env, Dd, st, fb, eo, h, ends⟩ := h
  refine ⟨g, env, _, st, eo, h, fun J xs g1 H1 q f1 st1 y1 hlen => ?_⟩
  have e1 := ends.le f1.gm
  refine ⟨fun i m σ2 H2 => m = xs.length - i ∧ i ≤ xs.length ∧ ∃ g2 env2, SOk C B g1 g2 H2 ∧ EnvOk C B g2 H2 σ2 env2 ∧ forGo t tb Dd XF (xs.drop i) env2,
    ⟨xs.length, by simp, Nat.zero_le _, g1, env, ⟨.refl, st1, fb.trans f1⟩, eo.fr f1, by simpa using q⟩, ?_⟩
  rintro i m σ2 H2 ⟨rfl, hi, g2, env2, s2, eo2, q2⟩
  obtain ⟨go, stop⟩ := y1 i g2 H2 s2.le s2.st
  by_cases hlt : i < xs.length
  · have ed : xs[i]? = some xs[i] := List.getElem?_eq_getElem hlt
    obtain ⟨go, yld⟩ := go _ ed
    rw [List.drop_eq_getElem_cons hlt] at q2
    unfold forGo at q2
    split at q2
    · rename_i env3 e3
      refine .inr ⟨go, fun σ' H' => ∃ g' env', SOk C B g1 g' H' ∧ EnvOk C B g' H' σ' env' ∧ forGo t tb Dd XF (xs.drop (i + 1)) env', fun σ' H' n => ⟨xs.length - (i + 1), by omega, rfl, hlt, n⟩, fun x H3 hy => ?_⟩
      obtain ⟨g3, f3, st3, r3⟩ := yld x H3 hy
      refine Tg.ok (vs0 := t.slots) st3 (eo2.fr f3) r3 e3 (fun _ h => h) fun σ' eo3 _ => ?_
      have l3 : gle g1 g3 := s2.le.trans f3.gm
      exact ⟨g3, env3, _, st3, s2.fb.trans f3, eo3, q2, ⟨fun env σ g H a b c => ⟨g, env, ⟨l3.trans b.le, b.st, b.fb⟩, c, a⟩, fun env σ g H a b c => e1.nx env σ g H a ⟨l3.trans b.le, b.st, b.fb⟩ c,
        fun env σ g H a b c => ⟨g, env, ⟨l3.trans b.le, b.st, b.fb⟩, c, a⟩, fun x v g H a b c => e1.rt x v g H a ⟨l3.trans b.le, b.st, b.fb⟩ c⟩⟩
    · exact q2.elim
  · have e : i = xs.length := by omega
    subst e
    rw [List.drop_length] at q2
    exact .inl ⟨stop rfl, e1.nx _ _ _ _ q2 s2 eo2⟩

/-! ### blocks, small statements -/
def sSeq (t u : TSd) : TSd := fun D env E => t { D with nx := fun env' => u D env' E } env E
def sNext : TSd := fun D env _ => D.nx env
def sBreak : TSd := fun D env _ => D.bk env
def sCont : TSd := fun D env _ => D.ct env
def sNever : TSd := fun _ _ _ => False
theorem dss_nil : DSs C B X [] sNext := pssW pss_nil fun D σ H ⟨g, env, Dd, st, fb, eo, h, ends⟩ => ends.nx _ _ g H h ⟨.refl, st, fb⟩ eo
theorem ds_pass : DS C B X (.Pass pos) sNext := psW ps_pass fun D σ H ⟨g, env, Dd, st, fb, eo, h, ends⟩ => ends.nx _ _ g H h ⟨.refl, st, fb⟩ eo
theorem ds_break : DS C B X (.Break pos) sBreak := psW ps_break fun D σ H ⟨g, env, Dd, st, fb, eo, h, ends⟩ => ends.bk _ _ g H h ⟨.refl, st, fb⟩ eo
theorem ds_cont : DS C B X (.Continue pos) sCont := psW ps_continue fun D σ H ⟨g, env, Dd, st, fb, eo, h, ends⟩ => ends.ct _ _ g H h ⟨.refl, st, fb⟩ eo
theorem ds_never {s : Stmt} : DS C B X s sNever := psW ps_never fun D σ H ⟨g, env, Dd, st, fb, eo, h, ends⟩ => h
theorem dss_cons {s : Stmt} {rest : List Stmt} (h1 : DS C B X s tb) (h2 : DSs C B X rest tu) : DSs C B X (s :: rest) (sSeq tb tu) := by
  refine pssW (pss_cons h1 h2) fun D σ H ⟨g, env, Dd, st, fb, eo, h, ends⟩ => ?_
  exact ⟨g, env, _, st, fb, eo, h, ⟨fun env σ g' H' a b c => ⟨g', env, Dd, b.st, b.fb, c, a, ends.le b.le⟩, ends.bk, ends.ct, ends.rt⟩⟩
/-- an expression whose value is dropped -/
def sDrop (te : TEd) : TSd := fun D env E => te env (fun _ => D.nx env) E
theorem ds_expr (he : DE C B X e te) (hs : swapsWith e none pos.line X.env = pure false) : DS C B X (.Expr e pos) (sDrop te) := by
  refine psW (ps_expr he hs) fun D σ H ⟨g, env, Dd, st, fb, eo, h, ends⟩ => ?_
  exact ⟨g, env, _, st, eo, h, fun v H' ⟨a, g', q, f, st', _, _⟩ => ends.nx _ _ g' H' q ⟨f.gm, st', fb.trans f⟩ (eo.fr f)⟩
def sRet (te : TEd) : TSd := fun D env E => te env (fun a => match a.st with
  | some b => D.rt b
  | none => False) E
theorem ds_ret (he : DE C B X e te) : DS C B X (.Return (some e) pos) (sRet te) := by
  refine psW (ps_ret he) fun D σ H ⟨g, env, Dd, st, fb, eo, h, ends⟩ => ?_
  refine ⟨g, env, _, st, eo, h, fun v H' ⟨a, g', q, f, st', r, n⟩ => ?_⟩
  try dsimp only at q
  split at q
  · rename_i b eb
    obtain ⟨g2, f2, st2, r2, m2⟩ := freeze st f st' r n eb
    exact ends.rt _ _ g2 H' q ⟨f2.gm, st2, fb.trans f2⟩ r2
  · exact q.elim
def sRetN : TSd := fun D _ _ => D.rt (.dat .none)
theorem ds_retN : DS C B X (.Return none pos) sRetN := psW ps_retN fun D σ H ⟨g, env, Dd, st, fb, eo, h, ends⟩ => ends.rt _ _ g H h ⟨.refl, st, fb⟩ .non
def sIf (c : TTd) (t u : TSd) : TSd := fun D env E => c env (fun b => if b = true then t D env E else u D env E) E
theorem ds_if {a b : List Stmt} (hc : DT C B X e tt) (ha : DSs C B X a tb) (hb : DSs C B X b tu) : DS C B X (.If e a b pos) (sIf tt tb tu) := by
  refine psW (ps_if hc ha hb) fun D σ H ⟨g, env, Dd, st, fb, eo, h, ends⟩ => ?_
  refine ⟨g, env, _, st, eo, h, fun c g1 H1 q f st1 => ?_⟩
  cases c with
  | true => exact iteT ⟨g1, env, Dd, st1, fb.trans f, eo.fr f, q, ends.le f.gm⟩
  | false => exact iteF ⟨g1, env, Dd, st1, fb.trans f, eo.fr f, q, ends.le f.gm⟩
/-- a list that a name owns is frozen (a ghost's step alone) -/
def frz1 (i : Nat) (env : En) : En := match env[i]? with
  | some (some (.own l)) => env.set i (some (.av (.dat (.list l))))
  | _ => env
def frzs (is : List Nat) (env : En) : En := is.foldl (fun e i => frz1 i e) env
def sFrz (is : List Nat) (t : TSd) : TSd := fun D env E => t D (frzs is env) E
theorem frz1_ok {g : Gh} {H : Hp} {σ : L2.St} {env : En} (i : Nat) (st : StOk C g H) (fb : Gr B.g B.H g H) (eo : EnvOk C B g H σ env) : ∃ g', SOk C B g g' H ∧ EnvOk C B g' H σ (frz1 i env) := by
  unfold frz1
  split
  · rename_i l e
    obtain ⟨v, hv, ⟨p, vs, rfl, n1, h, q⟩, hf⟩ := eo.at_ i _ e
    have m : gle g (gup g p (.dat (.list l))) := fun a u h2 => by
      rw [gup_ne (fun e => by rw [e, n1] at h2; cases h2)]
      exact h2
    have hi : i < env.length := by
      by_cases z : i < env.length
      · exact z
      · rw [List.getElem?_eq_none (by omega)] at e; cases e
    have bp : B.H p = none := hf p rfl
    refine ⟨gup g p (.dat (.list l)), ⟨m, ⟨fun a u e => ?_, st.2⟩, ⟨fun a u h2 => m a u (fb.gm a u h2), fun a o h2 => ?_, fb.hm, fb.nm⟩⟩, ?_⟩
    · by_cases ha : a = p
      · subst ha
        rw [gup_same] at e
        cases e
        exact ⟨vs, .inl h, RepVs.mono m q⟩
      · rw [gup_ne ha] at e
        exact (st.1 a u e).mono m fun _ h => h
    · rw [gup_ne (ne_of_none h2 bp)]
      exact fb.km a o h2
    · have ne : ∀ j l', env[j]? = some (some (.own l')) → j ≠ i → ∀ a, σ[j]? = some (some (.ref a)) → a ≠ p := fun j l' h1 h2 a h3 z => by
        subst z
        exact h2 (eo.sep j i l' l a h1 e h3 hv)
      refine ⟨by simp [eo.len], fun j s hj => ?_, fun j k l1 l2 a h1 h2 h3 h4 => ?_⟩
      · by_cases hji : i = j
        · subst hji
          rw [List.getElem?_set_self hi] at hj
          cases hj
          exact ⟨_, hv, .ref gup_same⟩
        · rw [List.getElem?_set_ne hji] at hj
          obtain ⟨w, e1, r1⟩ := eo.at_ j s hj
          refine ⟨w, e1, ?_⟩
          cases s with
          | av a =>
            cases a with
            | dat d => exact RepV.mono m r1
            | clo k b =>
              obtain ⟨x, e2, c⟩ := r1
              obtain ⟨L, z1, z2, z3⟩ := c.ex
              refine ⟨x, e2, ⟨L, fun q hq => ?_, z2, fun A outer s H1 g1 us vs ds Qd a b c d e => z3 A outer s H1 g1 us vs ds Qd a b c d fun x u z => e x u (m x u z)⟩⟩
              obtain ⟨y1, y2, y3, y4⟩ := z1 q hq
              exact ⟨y1, by rw [gup_ne (fun z => y4 vs (by rw [z, h] at y1; exact (Option.some.inj y1).symm))]; exact y2, y3, y4⟩
            | clr k b =>
              obtain ⟨x, e2, c⟩ := r1
              obtain ⟨L, z1, z2, z3⟩ := c.ex
              refine ⟨x, e2, ⟨L, fun q hq => ?_, z2, fun A outer s H1 g1 us vs ds Qd Ed a b c d e => z3 A outer s H1 g1 us vs ds Qd Ed a b c d fun x u z => e x u (m x u z)⟩⟩
              obtain ⟨y1, y2, y3, y4⟩ := z1 q hq
              exact ⟨y1, by rw [gup_ne (fun z => y4 vs (by rw [z, h] at y1; exact (Option.some.inj y1).symm))]; exact y2, y3, y4⟩
            | well => obtain ⟨x, e2, c⟩ := r1; exact ⟨x, e2, m _ _ c⟩
            | brw _ => exact r1.elim
            | new _ => exact r1.elim
          | own l' =>
            obtain ⟨⟨p', vs', e2, n2, h2, q2⟩, hf2⟩ := r1
            subst e2
            have np := ne j l' hj (Ne.symm hji) p' e1
            exact ⟨⟨p', vs', rfl, by rw [gup_ne np]; exact n2, h2, RepVs.mono m q2⟩, hf2⟩
      · have z1 : i ≠ j := fun z => by subst z; rw [List.getElem?_set_self hi] at h1; cases h1
        have z2 : i ≠ k := fun z => by subst z; rw [List.getElem?_set_self hi] at h2; cases h2
        rw [List.getElem?_set_ne z1] at h1
        rw [List.getElem?_set_ne z2] at h2
        exact eo.sep j k l1 l2 a h1 h2 h3 h4
  · exact ⟨g, ⟨.refl, st, fb⟩, eo⟩
theorem frzs_ok {σ : L2.St} {H : Hp} : ∀ (is : List Nat) {g : Gh} {env : En}, StOk C g H → Gr B.g B.H g H → EnvOk C B g H σ env → ∃ g', SOk C B g g' H ∧ EnvOk C B g' H σ (frzs is env)
  | [], g, env, st, fb, eo => ⟨g, ⟨.refl, st, fb⟩, eo⟩
  | i :: is, g, env, st, fb, eo => by
    obtain ⟨g1, s1, e1⟩ := frz1_ok i st fb eo
    obtain ⟨g2, s2, e2⟩ := frzs_ok is s1.st s1.fb e1
    exact ⟨g2, ⟨s1.le.trans s2.le, s2.st, s2.fb⟩, e2⟩
theorem ds_frz {s : Stmt} (is : List Nat) (h : DS C B X s tb) : DS C B X s (sFrz is tb) := by
  refine psW h fun D σ H ⟨g, env, Dd, st, fb, eo, h, ends⟩ => ?_
  obtain ⟨g1, s1, e1⟩ := frzs_ok is st fb eo
  exact ⟨g1, _, Dd, s1.st, s1.fb, e1, h, ends.le s1.le⟩
end
end TL
namespace TL
open PySem PySem.Spec PyProof.Rows L2 LamX NdefX

/-! ### stores -/
def storeA (env : En) (i : Nat) : AV → Option En
  | .dat d => some (env.set i (some (.av (.dat d))))
  | .clo k b => some (env.set i (some (.av (.clo k b))))
  | .clr k b => some (env.set i (some (.av (.clr k b))))
  | .well => some (env.set i (some (.av .well)))
  | .new l => some (env.set i (some (.own l)))
  | .brw _ => none
section
variable {C : CC} {B : Base}
theorem EnvOk.store {g : Gh} {H : Hp} {σ : L2.St} {env env' : En} (e : EnvOk C B g H σ env) (i : Nat) {v : V} {a : AV} (r : RepA C g H v a) (he : storeA env i a = some env')
    (hn : ∀ l, a = .new l → ∃ p, v = .ref p ∧ B.H p = none ∧ ∀ (j : Nat) (l' : List PyData), env[j]? = some (some (SL.own l')) → ¬ (σ[j]? = some (some (V.ref p)))) : EnvOk C B g H (σ.set i (some v)) env' := by
  have hl := e.len
  have gen : ∀ s : SL, RepS C B g H v s → (∀ l, s = .own l → ∃ p, v = .ref p ∧ ∀ (j : Nat) (l' : List PyData), env[j]? = some (some (SL.own l')) → ¬ (σ[j]? = some (some (V.ref p)))) → EnvOk C B g H (σ.set i (some v)) (env.set i (some s)) := by
    intro s rs hs
    refine ⟨by simp [hl], fun j s' h => ?_, fun j k l m a h1 h2 h3 h4 => ?_⟩
    · by_cases hj : i = j
      · subst hj
        by_cases hi : i < env.length
        · rw [List.getElem?_set_self hi] at h
          cases h
          exact ⟨v, by rw [List.getElem?_set_self (by omega)], rs⟩
        · rw [List.getElem?_eq_none (by simp; omega)] at h
          cases h
      · rw [List.getElem?_set_ne hj] at h ⊢
        exact e.at_ j s' h
    · by_cases hj : i = j
      · subst hj
        by_cases hk : i = k
        · exact hk
        · have hi : i < env.length := by
            by_cases z : i < env.length
            · exact z
            · rw [List.getElem?_eq_none (by simp; omega)] at h1; cases h1
          rw [List.getElem?_set_self hi] at h1
          rw [List.getElem?_set_self (by omega)] at h3
          rw [List.getElem?_set_ne hk] at h2 h4
          cases h1
          obtain ⟨p, ev, q⟩ := hs _ rfl
          have e3 : v = V.ref a := Option.some.inj (Option.some.inj h3)
          rw [ev] at e3
          cases e3
          exact absurd h4 (q k m h2)
      · by_cases hk : i = k
        · subst hk
          have hi : i < env.length := by
            by_cases z : i < env.length
            · exact z
            · rw [List.getElem?_eq_none (by simp; omega)] at h2; cases h2
          rw [List.getElem?_set_self hi] at h2
          rw [List.getElem?_set_self (by omega)] at h4
          rw [List.getElem?_set_ne hj] at h1 h3
          cases h2
          obtain ⟨p, ev, q⟩ := hs _ rfl
          have e3 : v = V.ref a := Option.some.inj (Option.some.inj h4)
          rw [ev] at e3
          cases e3
          exact absurd h3 (q j l h1)
        · rw [List.getElem?_set_ne hj] at h1 h3
          rw [List.getElem?_set_ne hk] at h2 h4
          exact e.sep j k l m a h1 h2 h3 h4
  cases a with
  | dat d => cases he; exact gen _ r fun _ z => by cases z
  | clo k b => cases he; exact gen _ r fun _ z => by cases z
  | clr k b => cases he; exact gen _ r fun _ z => by cases z
  | well => cases he; exact gen _ r fun _ z => by cases z
  | brw l => cases he
  | new l =>
    cases he
    obtain ⟨p, ev, bp, q⟩ := hn l rfl
    refine gen _ ⟨r, fun p' e' => ?_⟩ fun _ _ => ⟨p, ev, q⟩
    rw [ev] at e'
    cases e'
    exact bp
/-- a new list lies apart from all that the names own -/
theorem EnvOk.apart {g : Gh} {H : Hp} {σ : L2.St} {env : En} (e : EnvOk C B g H σ env) {p : Addr} (hp : H p = none) : ∀ (j : Nat) (l' : List PyData), env[j]? = some (some (SL.own l')) → ¬ (σ[j]? = some (some (V.ref p))) := fun j l' h z => by
  obtain ⟨v, hv, ⟨q, vs, rfl, _, h2, _⟩, _⟩ := e.at_ j _ h
  rw [hv] at z
  cases z
  rw [hp] at h2
  cases h2
variable {X : Cx} {tg e a b c : Expr} {te ta tb tc : TEd} {pos : Pos}
def sSet (i : Nat) (te : TEd) : TSd := fun D env E => te env (fun a => match storeA env i a with
  | some env' => D.nx env'
  | none => False) E
theorem setW {i : Nat} {σ : L2.St} {H : Hp} {D : Ends} (h : tDS C B (sSet i te) D σ H) : tAsg (tD C B te) (gName i) D σ H := by
  obtain ⟨g, env, Dd, st, fb, eo, h, ends⟩ := h
  refine ⟨g, env, _, st, eo, h, fun v H1 ⟨a, g1, q, f1, st1, r1, n1⟩ => ?_⟩
  try dsimp only at q
  split at q
  · rename_i env' e'
    have eo1 := eo.fr f1
    refine ends.nx _ _ g1 H1 q ⟨f1.gm, st1, fb.trans f1⟩ (eo1.store i r1 e' fun l el => ?_)
    obtain ⟨p, ev, hp⟩ := n1 l el
    exact ⟨p, ev, fb.nm p hp, eo.apart hp⟩
  · exact q.elim
theorem ds_set {i : Nat} {x : Str} {pos' : Pos} (hN : X.N.Nodup) (hi : X.N[i]? = some x) (hx : Loc X.env.scope x) (he : DE C B X e te) (hs : swapsWith e (some (.Name x pos')) pos.line X.env = pure false) (hf : X.fn x = true ∨ X.env.scope.names.lookup x = some .local) :
    DS C B X (.Assign [.Name x pos'] e pos) (sSet i te) := psW (ps_set hN hi hx he hs hf) fun _ _ _ => setW
/-- a, b = x, y of plain local names -/
def sPar2 (i j : Nat) (ta tb : TEd) : TSd := fun D env E => ta env (fun x => tb env (fun y => match (storeA env i x).bind fun e => storeA e j y with
  | some env' => D.nx env'
  | none => False) E) E
theorem storeA_len {env env' : En} {i : Nat} {a : AV} (e : storeA env i a = some env') : env'.length = env.length := by
  cases a <;> cases e <;> simp
theorem storeA_own {env env' : En} {i j : Nat} {a : AV} {l' : List PyData} (e : storeA env i a = some env') (h : env'[j]? = some (some (.own l'))) (hj : j ≠ i) : env[j]? = some (some (.own l')) := by
  cases a <;> cases e <;> (rw [List.getElem?_set_ne (Ne.symm hj)] at h; exact h)
theorem storeA_at {env env' : En} {i : Nat} {a : AV} {l' : List PyData} (e : storeA env i a = some env') (h : env'[i]? = some (some (.own l'))) : a = .new l' := by
  cases a with
  | brw l => cases e
  | new l =>
    cases e
    by_cases hi : i < env.length
    · rw [List.getElem?_set_self hi] at h; cases h; rfl
    · rw [List.getElem?_eq_none (by simp; omega)] at h; cases h
  | _ =>
    cases e
    by_cases hi : i < env.length
    · rw [List.getElem?_set_self hi] at h; cases h
    · rw [List.getElem?_eq_none (by simp; omega)] at h; cases h
/-- one store more, behind others: s1 the heap ahead of this value, at which the names owned what they do -/
theorem EnvOk.store2 {g1 g2 : Gh} {H1 H2 : Hp} {σ : L2.St} {env env' : En} (eo : EnvOk C B g1 H1 σ env) (fb : Gr B.g B.H g1 H1) (f : Gr g1 H1 g2 H2) (j : Nat) {v : V} {a : AV} (r : RepA C g2 H2 v a) (n : ∀ l, a = .new l → ∃ p, v = .ref p ∧ H1 p = none) (he : storeA env j a = some env') :
    EnvOk C B g2 H2 (σ.set j (some v)) env' := by
  refine (eo.fr f).store j r he fun l el => ?_
  obtain ⟨p, ev, hp⟩ := n l el
  exact ⟨p, ev, fb.nm p hp, eo.apart hp⟩
theorem ds_par2 {i j : Nat} {x y : Str} {px py pt : Pos} {kt k2 pt2} (hc : X.calm = true) (hN : X.N.Nodup) (hi : X.N[i]? = some x) (hj : X.N[j]? = some y) (hij : i ≠ j)
    (hx : X.env.scope.names.lookup x = some .local) (hy : X.env.scope.names.lookup y = some .local) (ha : DE C B X a ta) (hb : DE C B X b tb) (sa : isStar a = false) (sb : isStar b = false)
    (hw : swappedStores [.Tuple [.Name x px, .Name y py] kt pt] (.Tuple [a, b] k2 pt2) X.env = pure (some [x, y])) :
    DS C B X (.Assign [.Tuple [.Name x px, .Name y py] kt pt] (.Tuple [a, b] k2 pt2) pos) (sPar2 i j ta tb) := by
  refine psW (ps_par hc hN hi hj hij hx hy (pa_cons ha (pa_cons hb pa_nil (star_cons _ _ _ sb)) (star_cons _ _ _ sa)) hw) fun D σ H h => ?_
  obtain ⟨g, env, Dd, st, fb, eo, h, ends⟩ := h
  refine ⟨g, env, _, st, eo, h, fun v H1 ⟨x, g1, q, f1, st1, r1, n1⟩ => ?_⟩
  refine ⟨g1, env, _, st1, eo.fr f1, q, fun w H2 ⟨y, g2, q, f2, st2, r2, n2⟩ => ⟨v, w, rfl, ?_⟩⟩
  try dsimp only at q
  split at q
  · rename_i env2 e2
    cases h1 : storeA env i x with
    | none => rw [h1] at e2; cases e2
    | some env1 =>
      rw [h1] at e2
      have eo1 : EnvOk C B g1 H1 (σ.set i (some v)) env1 := EnvOk.store2 eo fb f1 i r1 n1 h1
      exact ends.nx _ _ g2 H2 q ⟨(f1.trans f2).gm, st2, fb.trans (f1.trans f2)⟩ (EnvOk.store2 eo1 (fb.trans f1) f2 j r2 n2 e2)
  · exact q.elim
def sPar3 (i j k : Nat) (ta tb tc : TEd) : TSd := fun D env E => ta env (fun x => tb env (fun y => tc env (fun z => match (storeA env i x).bind fun e => (storeA e j y).bind fun e => storeA e k z with
  | some env' => D.nx env'
  | none => False) E) E) E
theorem ds_par3 {i j l : Nat} {x y z : Str} {px py pz pt : Pos} {kt k2 pt2} (hc : X.calm = true) (hN : X.N.Nodup) (hi : X.N[i]? = some x) (hj : X.N[j]? = some y) (hl : X.N[l]? = some z) (hij : i ≠ j) (hil : i ≠ l) (hjl : j ≠ l)
    (hx : X.env.scope.names.lookup x = some .local) (hy : X.env.scope.names.lookup y = some .local) (hz : X.env.scope.names.lookup z = some .local) (ha : DE C B X a ta) (hb : DE C B X b tb) (hcc : DE C B X c tc) (sa : isStar a = false) (sb : isStar b = false) (sc : isStar c = false)
    (hw : swappedStores [.Tuple [.Name x px, .Name y py, .Name z pz] kt pt] (.Tuple [a, b, c] k2 pt2) X.env = pure (some [x, y, z])) :
    DS C B X (.Assign [.Tuple [.Name x px, .Name y py, .Name z pz] kt pt] (.Tuple [a, b, c] k2 pt2) pos) (sPar3 i j l ta tb tc) := by
  refine psW (ps_par3 hc hN hi hj hl hij hil hjl hx hy hz (pa_cons ha (pa_cons hb (pa_cons hcc pa_nil (star_cons _ _ _ sc)) (star_cons _ _ _ sb)) (star_cons _ _ _ sa)) hw) fun D σ H h => ?_
  obtain ⟨g, env, Dd, st, fb, eo, h, ends⟩ := h
  refine ⟨g, env, _, st, eo, h, fun v H1 ⟨x, g1, q, f1, st1, r1, n1⟩ => ?_⟩
  refine ⟨g1, env, _, st1, eo.fr f1, q, fun w H2 ⟨y, g2, q, f2, st2, r2, n2⟩ => ?_⟩
  refine ⟨g2, env, _, st2, eo.fr (f1.trans f2), q, fun u H3 ⟨z, g3, q, f3, st3, r3, n3⟩ => ⟨v, w, u, rfl, ?_⟩⟩
  try dsimp only at q
  split at q
  · rename_i env3 e3
    cases h1 : storeA env i x with
    | none => rw [h1] at e3; cases e3
    | some env1 =>
      rw [h1] at e3
      have e3 : (storeA env1 j y).bind (fun e => storeA e l z) = some env3 := e3
      cases h2 : storeA env1 j y with
      | none => rw [h2] at e3; cases e3
      | some env2 =>
        rw [h2] at e3
        have eo1 : EnvOk C B g1 H1 (σ.set i (some v)) env1 := EnvOk.store2 eo fb f1 i r1 n1 h1
        have eo2 : EnvOk C B g2 H2 ((σ.set i (some v)).set j (some w)) env2 := EnvOk.store2 eo1 (fb.trans f1) f2 j r2 n2 h2
        exact ends.nx _ _ g3 H3 q ⟨(f1.trans (f2.trans f3)).gm, st3, fb.trans (f1.trans (f2.trans f3))⟩ (EnvOk.store2 eo2 (fb.trans (f1.trans f2)) f3 l r3 n3 e3)
  · exact q.elim
/-- a tuple unpacked -/
def sUnp (t : Tg) (te : TEd) : TSd := fun D env E => te env (fun a => match a.sd with
  | some d => (match t.set d env with
    | some env' => D.nx env'
    | none => False)
  | none => False) E
theorem sd_st {a : AV} {d : PyData} (h : a.sd = some d) : a.st = some (.dat d) := by
  cases a <;> cases h <;> rfl
theorem ds_unp {t : Tg} (he : DE C B X e te) (hg : PG X tg (t.g C.K)) (hs : swapsWithSole [tg] e pos.line X.env = pure false) (hw : swappedStores [tg] e X.env = pure none)
    (h1 : (assignEach [tg] X.env).map (·.2) = [assign tg X.env]) : DS C B X (.Assign [tg] e pos) (sUnp t te) := by
  refine psW (ps_asg he hg hs hw h1) fun D σ H h => ?_
  obtain ⟨g, env, Dd, st, fb, eo, h, ends⟩ := h
  refine ⟨g, env, _, st, eo, h, fun v H1 ⟨a, g1, q, f1, st1, r1, n1⟩ => ?_⟩
  try dsimp only at q
  split at q
  · rename_i d ed
    split at q
    · rename_i env' e'
      obtain ⟨g2, f2, st2, r2, m2⟩ := freeze st f1 st1 r1 n1 (sd_st ed)
      exact Tg.ok (vs0 := t.slots) st2 (eo.fr f2) r2 e' (fun _ h => h) fun σ' eo' _ => ends.nx _ _ g2 H1 q ⟨f2.gm, st2, fb.trans f2⟩ eo'
    · exact q.elim
  · exact q.elim

/-! ### a list that a name owns is changed -/
def ownAt (env : En) (i : Nat) : Option (List PyData) := match env[i]? with
  | some (some (.own l)) => some l
  | _ => none
theorem EnvOk.own {g : Gh} {H : Hp} {σ : L2.St} {env : En} (eo : EnvOk C B g H σ env) {i : Nat} {l : List PyData} (h : ownAt env i = some l) : ∃ p vs, σ[i]? = some (some (.ref p)) ∧ g p = none ∧ H p = some (.lst vs) ∧ RepVs C.K g vs l ∧ B.H p = none := by
  unfold ownAt at h
  split at h
  · rename_i l' e
    cases h
    obtain ⟨v, hv, ⟨p, vs, rfl, n, h1, q⟩, hf⟩ := eo.at_ i _ e
    exact ⟨p, vs, hv, n, h1, q, hf p rfl⟩
  · cases h
/-- the owned list at p becomes ws -/
theorem own_upd {g : Gh} {H : Hp} {σ : L2.St} {env : En} {i : Nat} {l m : List PyData} {p : Addr} {vs ws : List V} (st : StOk C g H) (fb : Gr B.g B.H g H) (eo : EnvOk C B g H σ env) (ho : ownAt env i = some l) (hp : σ[i]? = some (some (.ref p))) (hg : g p = none) (hH : H p = some (.lst vs)) (bp : B.H p = none) (r : RepVs C.K g ws m) :
    SOk C B g g (upd H p (.lst ws)) ∧ EnvOk C B g (upd H p (.lst ws)) σ (env.set i (some (.own m))) := by
  have hoi : env[i]? = some (some (.own l)) := by
    unfold ownAt at ho
    split at ho
    · cases ho; assumption
    · cases ho
  have hi : i < env.length := by
    by_cases z : i < env.length
    · exact z
    · rw [List.getElem?_eq_none (by omega)] at hoi; cases hoi
  have gne : ∀ a u, g a = some u → a ≠ p := fun a u e z => by rw [z, hg] at e; cases e
  have ent : ∀ {a u}, g a = some u → GEnt C.K g H a u → GEnt C.K g (upd H p (.lst ws)) a u := fun {a u} e x => x.mono (fun _ _ h => h) fun o h => by rw [upd_ne (gne _ _ e)]; exact h
  refine ⟨⟨fun _ _ h => h, ⟨fun a u e => ent e (st.1 a u e), fun q0 hq => ?_⟩, ⟨fb.gm, fb.km, fun a o h1 h2 h3 => ?_, fun a h => ?_⟩⟩, ⟨by simp [eo.len], fun j s h => ?_, fun j k l1 l2 a h1 h2 h3 h4 => ?_⟩⟩
  · obtain ⟨ps, t1, t2, t3⟩ := st.2 q0 hq
    have nq : q0 ≠ p := fun z => by rw [z, hH] at t1; cases t1
    refine ⟨ps, by rw [upd_ne nq]; exact t1, t2, fun pos cv hc => ?_⟩
    obtain ⟨c, e1, e2⟩ := t3 pos cv hc
    exact ⟨c, e1, by rw [upd_ne (fun z => by rw [z, hH] at e2; unfold CodeO at e2; cases e2)]; exact e2⟩
  · rw [upd_ne (fun z => by rw [z, bp] at h1; cases h1)]
    exact fb.hm a o h1 h2 h3
  · refine fb.nm a ?_
    unfold upd at h
    split at h
    · cases h
    · exact h
  · by_cases hj : i = j
    · subst hj
      rw [List.getElem?_set_self hi] at h
      cases h
      exact ⟨_, hp, ⟨p, ws, rfl, hg, upd_same, r⟩, fun p' e' => by cases e'; exact bp⟩
    · rw [List.getElem?_set_ne hj] at h
      obtain ⟨v, hv, rs⟩ := eo.at_ j s h
      refine ⟨v, hv, ?_⟩
      cases s with
      | own l' =>
        obtain ⟨⟨p', vs', rfl, n', h', q'⟩, hf'⟩ := rs
        have np : p' ≠ p := fun z => by
          subst z
          exact hj (eo.sep i j l l' p' hoi h hp hv)
        exact ⟨⟨p', vs', rfl, n', by rw [upd_ne np]; exact h', q'⟩, hf'⟩
      | av a =>
        cases a with
        | dat d => exact rs
        | well => exact rs
        | brw _ => exact rs.elim
        | new _ => exact rs.elim
        | clr k b =>
          obtain ⟨x, e2, c⟩ := rs
          obtain ⟨L, z1, z2, z3⟩ := c.ex
          refine ⟨x, e2, ⟨L, fun q hq => ?_, z2, z3⟩⟩
          obtain ⟨y1, y2, y3, y4⟩ := z1 q hq
          exact ⟨by rw [upd_ne (fun z => y4 vs (by rw [z, hH] at y1; exact (Option.some.inj y1).symm))]; exact y1, y2, y3, y4⟩
        | clo k b =>
          obtain ⟨x, e2, c⟩ := rs
          obtain ⟨L, z1, z2, z3⟩ := c.ex
          refine ⟨x, e2, ⟨L, fun q hq => ?_, z2, z3⟩⟩
          obtain ⟨y1, y2, y3, y4⟩ := z1 q hq
          exact ⟨by rw [upd_ne (fun z => y4 vs (by rw [z, hH] at y1; exact (Option.some.inj y1).symm))]; exact y1, y2, y3, y4⟩
  · have own_of : ∀ (x : Nat) (l' : List PyData), (env.set i (some (SL.own m)))[x]? = some (some (SL.own l')) → ∃ l'' : List PyData, env[x]? = some (some (SL.own l'')) := fun x l' h => by
      by_cases hx : i = x
      · subst hx; exact ⟨l, hoi⟩
      · rw [List.getElem?_set_ne hx] at h; exact ⟨l', h⟩
    obtain ⟨m1, e1⟩ := own_of j l1 h1
    obtain ⟨m2, e2⟩ := own_of k l2 h2
    exact eo.sep j k m1 m2 a e1 e2 h3 h4
/-- x.append(e) -/
def sApp (i : Nat) (te : TEd) : TSd := fun D env E => match ownAt env i with
  | some l => te env (fun a => match a.sd with
    | some d => l.length < 16777216 ∧ D.nx (env.set i (some (.own (l ++ [d]))))
    | none => False) E
  | none => False
theorem few_one (e : Expr) {env : Env} {pos : Pos} (h : isStar e = false) : ((backTo pos (starEach [e] env)).all (fun x => !x.1) && (backToKw pos (keywordEach [] env)).all (fun x => x.1.isSome)
      && decide (([e] : List Expr).length + ([] : List Keyword).length + (if ([] : List Keyword).isEmpty then 0 else 1) < 30)) = true := by
  rw [star_cons _ _ _ h]
  rfl
theorem ds_app {i : Nat} {x : Str} {px pa pc : Pos} (hK : X.K = C.K) (hN : X.N[i]? = some x) (hv : Vis X.env.scope x) (hd : (x == ("__debug__" : Str)) = false) (hcd : (x == ("__classdict__" : Str)) = false) (he : DE C B X e te) (hs : isStar e = false) (h2 : (pa.endLine == pc.line) = true) :
    DS C B X (.Expr (.Call (.Attribute (.Name x px) "append" pa) [e] [] pc) pos) (sApp i te) := by
  have base : PE X (.Call (.Attribute (.Name x px) "append" pa) [e] [] pc) (tBM X.K "list" rAppend (tVar i) (tCons (tD C B te) tNil)) :=
    pe_bm PySem.F.plainAttrs_list PySem.F.slot_list_append PySem.F.type_list_append mt_append (pe_var hN hv hd hcd) (pa_cons he pa_nil (star_cons _ _ _ hs)) rfl (few_one e hs) h2 (star_cons _ _ _ hs) rfl
  refine psW (ps_expr base rfl) fun D σ H h => ?_
  obtain ⟨g, env, Dd, st, fb, eo, h, ends⟩ := h
  unfold sApp at h
  split at h
  · rename_i l hoo
    obtain ⟨p, vs, hp, hg, hH, hr, bp⟩ := eo.own hoo
    refine ⟨.ref p, hp, .inl ⟨rfl, vs, .inl (.inl hH)⟩, ?_⟩
    refine ⟨g, env, _, st, eo, h, fun v H1 ⟨a, g1, q, f1, st1, r1, n1⟩ => ?_⟩
    try dsimp only at q
    split at q
    · rename_i d e2
      obtain ⟨g2, f2, st2, r2, m2⟩ := freeze st f1 st1 r1 n1 (sd_st e2)
      have hH1 := f2.hm p _ hH (by rw [hg]; exact fun z => by cases z) (fun ps z => by cases z)
      have hg2 : g2 p = none := by rw [f2.km p _ hH]; exact hg
      refine ⟨p, vs, v, rfl, rfl, hH1, by rw [sizeLine_eq, Paired.len hr]; exact q.1, ?_⟩
      obtain ⟨s3, eo3⟩ := own_upd (m := l ++ [d]) (ws := vs ++ [v]) st2 (fb.trans f2) (eo.fr f2) hoo hp hg2 hH1 bp (RepVs.append (RepVs.mono f2.gm hr) (.cons r2 .nil))
      exact ends.nx _ _ g2 _ q.2 ⟨gle.trans f2.gm s3.le, s3.st, s3.fb⟩ eo3
    · exact q.elim
  · exact h.elim
end
end TL
namespace TL
open PySem PySem.Spec PyProof.Rows L2 LamX NdefX

/-! ### what a def promises, by data -/
abbrev DSp := List AV → (AV → Prop) → (XD → Prop) → Prop
/-- what comes of a call begun at g, H -/
def AV.plain : AV → Bool
  | .dat _ => true
  | .well => true
  | _ => false
def ResC (C : CC) (g : Gh) (H : Hp) (Qd : AV → Prop) (v : V) (H' : Hp) : Prop :=
  ∃ a g', Qd a ∧ Gr g H g' H' ∧ StOk C g' H' ∧ RepA C g' H' v a ∧ a.plain = true
structure FnG (C : CC) (k : Nat) (f : Addr) (fd : FuncData) (ps : List Str) (sp : DSp) : Prop where
  len : ∀ as Q E, sp as Q E → as.length = ps.length
  run : ∀ (A : Around) (outer : List Env) (s : Shared) (H : Hp) (g : Gh) (args : Args) (us : List Value) (vs : List V) (as : List AV) (Qd : AV → Prop), Room k A → A.guards = some [] → Env0 C.P C.w C.K C.mg C.base A outer s H → BindsTo s fd args (ps.zip us) → Vals vs us →
    StOk C g H → Paired (RepA C g H) vs as → sp as Qd XF → codeAny (model C.P C.w) A (.call (.ref f) args) (CR CX0 outer C.P C.w H s (ResC C g H Qd) E0) s
theorem FnG.mono {C : CC} {j k : Nat} {f : Addr} {fd : FuncData} {ps : List Str} {sp : DSp} (F : FnG C j f fd ps sp) (h : j ≤ k) : FnG C k f fd ps sp :=
  ⟨F.len, fun A outer s H g args us vs as Qd hr => F.run A outer s H g args us vs as Qd (hr.mono h)⟩
theorem FnG.imp {C : CC} {k : Nat} {f : Addr} {fd : FuncData} {ps : List Str} {sp sp' : DSp} (F : FnG C k f fd ps sp) (h : ∀ as Q E, sp' as Q E → sp as Q E) : FnG C k f fd ps sp' :=
  ⟨fun as Q E q => F.len as Q E (h _ _ _ q), fun A outer s H g args us vs as Qd a b c d e st r q => F.run A outer s H g args us vs as Qd a b c d e st r (h _ _ _ q)⟩
/-- a context that runs a def of the law's text -/
structure XOk (C : CC) (X : Cx) : Prop where
  P : X.prog = C.P
  w : X.w = C.w
  K : X.K = C.K
  mg : X.mg = C.mg
  base : X.base = C.base
  calm : X.calm = true
  nd : X.N.Nodup
  gd : X.A.guards = some []
/-- a def of the text: where it stands, how its arguments bind -/
structure Def (C : CC) (k : Nat) (x : Str) (ps : List Str) (sp : DSp) : Prop where
  ex : ∃ f fd, C.mg x = some (.ref f) ∧ PySem.W.keepIn C.K (.ref f) = true ∧ FnG C k f fd ps sp ∧
    (∀ (s : Shared) (us : List Value), us.length = ps.length → BindsTo s fd ⟨us, []⟩ (ps.zip us))
def eCall (sp : DSp) (t : TAd) : TEd := fun env Q E => t env (fun as => sp as Q E) E
section
variable {C : CC} {B : Base} {X : Cx} {a e : Expr} {es : List Expr} {ta te : TEd} {t : TAd} {p pos : Pos}
theorem ResC.res {g g1 : Gh} {H H1 : Hp} {Qd : AV → Prop} {v : V} {H' : Hp} (f : Gr g H g1 H1) (r : ResC C g1 H1 Qd v H') : Res C g H Qd v H' := by
  obtain ⟨a, g', q, f', st, r, n⟩ := r
  exact ⟨a, g', q, f.trans f', st, r, fun l e => by subst e; cases n⟩
theorem run_g {k : Nat} {f : Addr} {fd : FuncData} {ps : List Str} {sp : DSp} {pins : List (Addr × Obj)} {σ : L2.St} {H : Hp} {s : Shared} {g : Gh} {Qd : AV → Prop} {pos' : List Value} {kw : List (Str × Value)} {us : List Value} {vs : List V} {as : List AV} (xo : XOk C X) (F : FnG C k f fd ps sp) (hr : Room k X.A)
    (hb : BindsTo s fd ⟨pos', kw⟩ (ps.zip us)) (I : L2.Inv X pins σ H s) (r : Vals vs us) (st : StOk C g H) (ra : Paired (RepA C g H) vs as) (h : sp as Qd XF) : wpAny (model X.prog X.w) X.A (call (.ref f) pos' kw) (EP X pins σ (ResC C g H Qd)) X.xe s := by
  have e0 := I.env0
  rw [xo.P, xo.w, xo.K, xo.mg, xo.base] at e0
  have c := F.run X.A X.stack s H g ⟨pos', kw⟩ us vs as Qd hr xo.gd e0 hb r st ra h
  rw [← xo.P, ← xo.w] at c
  refine wpAny_call (codeAny_mono c fun r s' hq => ?_)
  cases r with
  | error e => exact hq.elim
  | ok fl =>
    cases fl with
    | ret u => exact I.after hq
    | _ => exact False.elim hq
/-- f(a, ..), f a def of the text -/
theorem de_call {k : Nat} {x : Str} {ps : List Str} {sp : DSp} (xo : XOk C X) (F : Def C k x ps sp) (hr : Room k X.A) (hg : Gl X x) (ha : DA C B X (e :: es) t) (hdb : (x == ("__debug__" : Str)) = false) (hs0 : isStar e = false) (hs : es.any isStar = false) :
    DE C B X (.Call (.Name x p) (e :: es) [] pos) (eCall sp t) := by
  obtain ⟨f, fd, hm, hk, F, hb⟩ := F.ex
  rw [← xo.mg] at hm
  rw [← xo.K] at hk
  refine ⟨fun pins s σ H Q I h => ?_⟩
  obtain ⟨g, env, Qd, st, eo, h, kk⟩ := h
  refine wpAny_Call_Name_kw (ld_glob I hg hm ?_ hdb)
  refine PySem.W.callWith_K (h₀ := X.base) I.ok.mod.kin hk (thn (ha.run pos pins s σ H (fun vs H1 => ∃ as g1, sp as Qd XF ∧ Gr g H g1 H1 ∧ StOk C g1 H1 ∧ Paired (RepA C g1 H1) vs as) I ⟨g, env, _, st, eo, h, fun vs as g1 H1 q f1 st1 r1 => ⟨as, g1, q, f1, st1, r1⟩⟩) fun us s1 ⟨vs, H1, I1, r, as, g1, q, f1, st1, ra⟩ => ⟨I1.kIn, ?_⟩) (star_cons _ _ _ hs0) (noStar _ hs)
  refine thn (run_g xo F hr (hb s1 us ?_) I1 r st1 ra q) fun u s2 ⟨v, H2, I2, rv, rc⟩ => ⟨v, H2, I2, rv, kk v H2 (rc.res f1)⟩
  rw [← r.length, Paired.len ra, F.len _ _ _ q]
theorem de_call0 {k : Nat} {x : Str} {ps : List Str} {sp : DSp} (xo : XOk C X) (F : Def C k x ps sp) (hr : Room k X.A) (hg : Gl X x) (hdb : (x == ("__debug__" : Str)) = false) :
    DE C B X (.Call (.Name x p) [] [] pos) (eCall sp aNil) := by
  obtain ⟨f, fd, hm, hk, F, hb⟩ := F.ex
  rw [← xo.mg] at hm
  rw [← xo.K] at hk
  refine ⟨fun pins s σ H Q I h => ?_⟩
  obtain ⟨g, env, Qd, st, eo, h, kk⟩ := h
  refine wpAny_Call_Name_kw (ld_glob I hg hm ?_ hdb)
  refine PySem.W.callWith_K0 I.kIn hk ?_
  have h : sp [] Qd XF := h
  refine thn (run_g xo F hr (hb s [] ?_) I .nil st .nil h) fun u s2 ⟨v, H2, I2, rv, rc⟩ => ⟨v, H2, I2, rv, kk v H2 (rc.res .refl)⟩
  exact F.len _ _ _ h
/-! ### keywords -/
/-- the values of keywords, in the parameters' order -/
def kwPick (ks ps : List Str) (as : List AV) : Option (List AV) := if as.length = ks.length then ps.mapM fun p => (ks.zip as).lookup p else none
structure DK (C : CC) (B : Base) (X : Cx) (kws : List Keyword) (t : TAd) : Prop where
  pk : PK X kws (tDA C B t)
theorem pkW {X : Cx} {e : List Keyword} {t t' : TA} (h : PK X e t) (w : ∀ σ H Q, t' σ H Q → t σ H Q) : PK X e t' := ⟨fun pos pins s σ H Q I q => h.run pos pins s σ H Q I (w σ H Q q)⟩
theorem dk_nil : DK C B X [] aNil := by
  refine ⟨pkW pk_nil fun σ H Q h => ?_⟩
  obtain ⟨g, env, Qd, st, eo, h, k⟩ := h
  exact k [] [] g H h .refl st .nil
theorem dk_cons {nm : Option Str} {kpos : Pos} {kws : List Keyword} (ha : DE C B X a ta) (hr : DK C B X kws t) : DK C B X (⟨nm, a, kpos⟩ :: kws) (aCons ta t) := by
  refine ⟨pkW (pk_cons ha hr.pk) fun σ H Q h => ?_⟩
  obtain ⟨g, env, Qd, st, eo, h, k⟩ := h
  refine ⟨g, env, _, st, eo, h, fun v H1 ⟨x, g1, q, f1, st1, r1, n1⟩ => ?_⟩
  try dsimp only at q
  split at q
  · rename_i b eb
    obtain ⟨g2, f2, st2, r2, m2⟩ := freeze st f1 st1 r1 n1 eb
    exact ⟨g2, env, _, st2, eo.fr f2, q, fun vs as g3 H3 q3 f3 st3 r3 => k (v :: vs) (b :: as) g3 H3 q3 (f2.trans f3) st3 (.cons (r2.fr f3) r3)⟩
  · exact q.elim
def kwNames : List Keyword → List Str
  | [] => []
  | ⟨some n, _, _⟩ :: r => n :: kwNames r
  | ⟨none, _, _⟩ :: r => kwNames r
def kwAll : List Keyword → Bool
  | [] => true
  | ⟨some _, _, _⟩ :: r => kwAll r
  | ⟨none, _, _⟩ :: _ => false
theorem kw_all {pos : Pos} {env : Env} : ∀ {kws : List Keyword}, kwAll kws = true → (backToKw pos (keywordEach kws env)).all (·.1.isSome) = true ∧ (backToKw pos (keywordEach kws env)).filterMap (·.1) = kwNames kws ∧ (backToKw pos (keywordEach kws env)).any (·.1.isNone) = false
  | [], _ => ⟨rfl, rfl, rfl⟩
  | ⟨some n, v, q⟩ :: r, h => by
    obtain ⟨h1, h2, h3⟩ := kw_all (pos := pos) (env := env) (kws := r) h
    refine ⟨h1, ?_, h3⟩
    show n :: (backToKw pos (keywordEach r env)).filterMap (·.1) = _
    rw [h2]
    rfl
  | ⟨none, _, _⟩ :: _, h => by cases h
/-- f(k = a, ..), all arguments by name -/
def eCallK (sp : DSp) (ks ps : List Str) (t : TAd) : TEd := fun env Q E => t env (fun as => match kwPick ks ps as with
  | some bs => sp bs Q E
  | none => False) E
/-- how the parameters are bound by names -/
structure DefK (C : CC) (k : Nat) (x : Str) (ps ks : List Str) (sp : DSp) : Prop where
  ex : ∃ f fd, C.mg x = some (.ref f) ∧ PySem.W.keepIn C.K (.ref f) = true ∧ FnG C k f fd ps sp ∧
    (∀ (s : Shared) (us ws : List Value), us.length = ks.length → ps.mapM (fun p => (ks.zip us).lookup p) = some ws → BindsTo s fd ⟨[], ks.zip us⟩ (ps.zip ws))
theorem zip_pick {g : Gh} {H : Hp} {ks : List Str} : ∀ {vs : List V} {us : List Value} {as : List AV}, Vals vs us → Paired (RepA C g H) vs as → us.length = ks.length → ∀ {ps : List Str} {bs : List AV}, ps.mapM (fun p => (ks.zip as).lookup p) = some bs →
    ∃ ws xs, ps.mapM (fun p => (ks.zip us).lookup p) = some ws ∧ Vals xs ws ∧ Paired (RepA C g H) xs bs := by
  intro vs us as rv ra hl ps
  have look : ∀ (ks : List Str) {vs : List V} {us : List Value} {as : List AV}, Vals vs us → Paired (RepA C g H) vs as → ∀ {p : Str} {b : AV}, (ks.zip as).lookup p = some b → ∃ w x, (ks.zip us).lookup p = some w ∧ RelV x w ∧ RepA C g H x b := by
    intro ks
    induction ks with
    | nil => intro vs us as _ _ p b h; cases h
    | cons k ks ih =>
      intro vs us as rv ra p b h
      cases ra with
      | nil => cases h
      | cons r1 ra =>
        cases rv with
        | cons r2 rv =>
          rw [List.zip_cons_cons, List.lookup_cons] at h ⊢
          cases q : (p == k) with
          | true => rw [q] at h; cases h; exact ⟨_, _, rfl, r2, r1⟩
          | false => rw [q] at h; exact ih rv ra h
  induction ps with
  | nil => intro bs h; cases h; exact ⟨[], [], rfl, .nil, .nil⟩
  | cons p ps ih =>
    intro bs h
    rw [List.mapM_cons] at h
    cases h1 : (ks.zip as).lookup p with
    | none => rw [h1] at h; cases h
    | some b =>
      rw [h1] at h
      cases h2 : ps.mapM (fun p => (ks.zip as).lookup p) with
      | none => simp [h2] at h
      | some bs' =>
        simp [h2] at h
        subst h
        obtain ⟨ws, xs, e1, e2, e3⟩ := ih h2
        obtain ⟨w, x, e4, e5, e6⟩ := look ks rv ra h1
        refine ⟨w :: ws, x :: xs, ?_, .cons e5 e2, .cons e6 e3⟩
        rw [List.mapM_cons, e4, e1]
        rfl
theorem de_callK {k : Nat} {x : Str} {ps : List Str} {sp : DSp} {kws : List Keyword} (xo : XOk C X) (F : DefK C k x ps (kwNames kws) sp) (hr : Room k X.A) (hg : Gl X x) (hkw : DK C B X kws t) (hall : kwAll kws = true) (hdb : (x == ("__debug__" : Str)) = false) :
    DE C B X (.Call (.Name x p) [] kws pos) (eCallK sp (kwNames kws) ps t) := by
  obtain ⟨f, fd, hm, hk, F, hb⟩ := F.ex
  rw [← xo.mg] at hm
  rw [← xo.K] at hk
  refine ⟨fun pins s σ H Q I h => ?_⟩
  obtain ⟨g, env, Qd, st, eo, h, kk⟩ := h
  obtain ⟨h1, h2, h3⟩ := kw_all (pos := pos) (env := X.env) hall
  refine wpAny_Call_Name_kw (ld_glob I hg hm ?_ hdb)
  refine PySem.W.callWith_KW0 (h₀ := X.base) I.ok.mod.kin hk h1 (thn (hkw.pk.run pos pins s σ H (fun vs H1 => ∃ bs as g1, kwPick (kwNames kws) ps as = some bs ∧ sp bs Qd XF ∧ Gr g H g1 H1 ∧ StOk C g1 H1 ∧ Paired (RepA C g1 H1) vs as) I ⟨g, env, _, st, eo, h, fun vs as g1 H1 q f1 st1 r1 => ?_⟩) fun us s1 ⟨vs, H1, I1, r, bs, as, g1, eb, q, f1, st1, ra⟩ => ⟨I1.kIn, ?_⟩) (by rw [h3]; rfl)
  · try dsimp only at q
    split at q
    · rename_i bs eb
      exact ⟨bs, as, g1, eb, q, f1, st1, r1⟩
    · exact q.elim
  · rw [h2]
    unfold kwPick at eb
    split at eb
    · rename_i hl
      have hlen : us.length = (kwNames kws).length := by rw [← r.length, Paired.len ra, hl]
      obtain ⟨ws, xs, e1, e2, e3⟩ := zip_pick r ra hlen eb
      exact thn (run_g xo F hr (hb s1 us ws hlen e1) I1 e2 st1 e3 q) fun u s2 ⟨v, H2, I2, rv, rc⟩ => ⟨v, H2, I2, rv, kk v H2 (rc.res f1)⟩
    · cases eb

/-! ### a function that a name holds is called -/
def cloAt (env : En) (i : Nat) : Option (Nat × Beh) := match env[i]? with
  | some (some (.av (.clo k b))) => some (k, b)
  | _ => none
def eApp (i n : Nat) (t : TAd) : TEd := fun env Q E => match cloAt env i with
  | some (k, b) => k ≤ n ∧ t env (fun as => match dats as with
    | some ds => b ds (fun d => Q (.dat d))
    | none => False) E
  | none => False
theorem EnvOk.clo {g : Gh} {H : Hp} {σ : L2.St} {env : En} (eo : EnvOk C B g H σ env) {i k : Nat} {b : Beh} (h : cloAt env i = some (k, b)) : ∃ f, σ[i]? = some (some (.ref f)) ∧ CloOk C g H f k b := by
  unfold cloAt at h
  split at h
  · rename_i k' b' e
    cases h
    obtain ⟨v, hv, f, rfl, c⟩ := eo.at_ i _ e
    exact ⟨f, hv, c⟩
  · cases h
theorem de_app {i n : Nat} {x : Str} (xo : XOk C X) (hr : Room n X.A) (hN : X.N[i]? = some x) (hv : Vis X.env.scope x) (hd : (x == ("__debug__" : Str)) = false) (hcd : (x == ("__classdict__" : Str)) = false) (ha : DA C B X (e :: es) t) (hs0 : isStar e = false) (hs : es.any isStar = false) :
    DE C B X (.Call (.Name x p) (e :: es) [] pos) (eApp i n t) := by
  refine ⟨fun pins s σ H Q I h => ?_⟩
  obtain ⟨g, env, Qd, st, eo, h, kk⟩ := h
  unfold eApp at h
  split at h
  · rename_i k b eb
    obtain ⟨hkn, h⟩ := h
    obtain ⟨f, hf, c⟩ := eo.clo eb
    obtain ⟨L, z1, z2, z3⟩ := c.ex
    refine wpAny_Call_Name_kw (thn ((pe_var (pos := p) hN hv hd hcd).run pins s σ H (fun v H1 => v = .ref f ∧ H1 = H) I ⟨.ref f, hf, rfl, rfl⟩) fun u s0 ⟨v0, H0, I0, r0, q0⟩ => ?_)
    obtain ⟨ev, eH⟩ := q0
    subst ev
    rw [eH] at I0
    obtain rfl : u = Value.ref f := r0
    have fnat : ∀ {H1 : Hp} {s1 : Shared}, L2.Inv X pins σ H1 s1 → (∀ q ∈ L, H1 q.1 = some q.2) → PySem.W.FnAt f s1.heap := fun I1 hL => z2 _ _ (by have := I1.hok; rw [xo.P, xo.w] at this; exact this) hL
    refine PySem.W.callWith_F (first := []) (fnat I0 fun q hq => (z1 q hq).1) (thn (ha.run pos pins s0 σ H (fun vs H1 => ∃ as g1, (match dats as with
      | some ds => b ds (fun d => Qd (.dat d))
      | none => False) ∧ Gr g H g1 H1 ∧ StOk C g1 H1 ∧ Paired (RepA C g1 H1) vs as) I0 ⟨g, env, _, st, eo, h, fun vs as g1 H1 q f1 st1 r1 => ⟨as, g1, q, f1, st1, r1⟩⟩) fun us s1 ⟨vs, H1, I1, r, as, g1, q, f1, st1, ra⟩ => ?_) (star_cons _ _ _ hs0) (noStar _ hs)
    split at q
    · rename_i ds ed
      have hL : ∀ q ∈ L, H1 q.1 = some q.2 := fun q hq => by
        obtain ⟨a, b, c, _⟩ := z1 q hq
        exact f1.hm _ _ a (by rw [b]; exact fun z => by cases z) c
      refine ⟨fnat I1 hL, ?_⟩
      have e0 := I1.env0
      rw [xo.P, xo.w, xo.K, xo.mg, xo.base] at e0
      have cc := z3 X.A X.stack s1 H1 g1 us vs ds _ (hr.mono hkn) xo.gd e0 hL f1.gm st1 r (dats_ok ra ed) q
      rw [← xo.P, ← xo.w] at cc
      refine wpAny_call (codeAny_mono cc fun r s' hq => ?_)
      cases r with
      | error e => exact hq.elim
      | ok fl =>
        cases fl with
        | ret u =>
          obtain ⟨v, H2, I2, rv, d, g2, qd, f2, st2, r2⟩ := I1.after hq
          exact ⟨v, H2, I2, rv, kk v H2 ⟨_, g2, qd, f1.trans f2, st2, r2, fun _ z => by cases z⟩⟩
        | _ => exact False.elim hq
    · exact q.elim
  · exact h.elim
end
end TL
namespace TL
open PySem PySem.Spec PyProof.Rows L2 LamX NdefX

/-! ### lambdas -/
/-- the object at f is the lambda of these words -/
def LamO (f : Addr) (F : NF) (body : Expr) : HO := .ext fun h => ∃ pm ctv, h.get? f = some (PySem.W.kla_obj F.name F.qual F.params body F.scope F.cl pm F.c ctv)
section
variable {C : CC} {X : Cx} {pins : List (Addr × Obj)} {σ : L2.St} {H : Hp} {s : Shared}
theorem inv_lam {F : NF} {body : Expr} {t' : Nat} {pm ctv : Value} (I : L2.Inv X pins σ H s) :
    L2.Inv X pins σ (upd H s.heap.objs.size (LamO s.heap.objs.size F body)) { s with heap := s.heap.push (PySem.W.kla_obj F.name F.qual F.params body F.scope F.cl pm F.c ctv), toks := t' } := by
  have e : (s.heap.push (PySem.W.kla_obj F.name F.qual F.params body F.scope F.cl pm F.c ctv)).get? s.heap.objs.size = some (PySem.W.kla_obj F.name F.qual F.params body F.scope F.cl pm F.c ctv) := Heap.get?_push_size _ rfl
  exact I.laid (a := s.heap.objs.size) (fun b u q => Heap.get?_push_of_some _ q) (Nat.le_refl _) ⟨⟨pm, ctv, e⟩, ⟨_, e⟩, fun h1 h2 ⟨p, t, z⟩ st => ⟨p, t, st _ z⟩⟩
/-- what the making of a lambda does to the abstract heap -/
structure Made (C : CC) (X : Cx) (F : NF) (body : Expr) (H : Hp) (f : Addr) (H1 : Hp) : Prop where
  ext : ExtN H H1
  none : ∀ b, H1 b = Option.none → H b = Option.none
  tabs : Tbs C H1
  nf : H f = Option.none
  at_ : H1 f = some (LamO f F body)
  code : H1 F.c = some (CodeO F.c F.qual)
abbrev lamF (X : Cx) (params : Arguments) (scope : Scope) (c' : Addr) : NF := ⟨"<lambda>", X.env.qual ++ "<lambda>", params, [], scope, cloFrom X.env.cells scope.names [], c'⟩
theorem lam_made {c P : Addr} {params : Arguments} {body : Expr} {scope : Scope} {pos : Pos} {E : Value → Shared → Prop} {Q : Value → Shared → Prop} (I : L2.Inv X pins σ H s) (TB : TabB X.base X.mg c P) (hcode : X.env.code = .ref c) (hm : P ∈ C.T) (hn : C.nm pos.line pos.col = X.env.qual ++ "<lambda>") (hT : Tbs C H)
    (hdef : defaultsOf params X.env = ([], [])) (hfree : ∀ y ∈ scope.names, y.2 = .free → ∃ c, X.env.cells.lookup y.1 = some c)
    (k : ∀ (f c' : Addr) (H1 : Hp) (s' : Shared), L2.Inv X pins σ H1 s' → Made C X (lamF X params scope c') body H f H1 → Q (.ref f) s') :
    wpAny (model X.prog X.w) X.A (eval (.Lambda params body scope pos) X.env) Q E s := by
  obtain ⟨ps, hP, ht, ha⟩ := hT P hm
  refine PySem.W.kla_eval hdef ?_
  have bP : s.heap.BuiltinsAt X.mg P := TB.bm.keeps I.bk
  have oP : s.heap.get? P = some { cls := .none, data := .fields ps } := I.hok P _ hP
  cases hc : codeAmong pos ps.toList with
  | none =>
    refine PySem.W.kla_makeFunction (mg := X.mg) (c := c) (P := P) (ps := ps) (closure_ok hfree) I.ok.glob (I.mod.glob.keeps I.bk) hcode (TB.code.keeps I.bk) oP ht hc TB.gP bP fun c' ctv h' tk hx hge hlt hrec htb => ?_
    obtain ⟨c2, oc, vs, t, e2, hoc, hd, hv⟩ := hrec
    cases e2
    have nC : H c' = none := I.hok.fresh hge
    have J1 := inv_table (t' := tk) (more := #[rawInt pos.line, rawInt pos.col, .ref c']) (h' := h') (q := X.env.qual ++ "<lambda>") I hP (fun b o hb e => hx b o hb e) htb hge ⟨oc, vs, t, hoc, hd, hv⟩
    have J2 := inv_lam (F := lamF X params scope c') (body := body) (t' := tk) (pm := (X.mg "__name__").getD .none) (ctv := ctv) J1
    have nF := J1.hok.fresh (Nat.le_refl _)
    have hE : ExtN H (upd (upd H P (.tbl (ps ++ #[rawInt pos.line, rawInt pos.col, .ref c']))) c' (CodeO c' (X.env.qual ++ "<lambda>"))) := fun b o e n => by
      have nbP : b ≠ P := fun z => by
        subst z
        exact n ps (Option.some.inj (e.symm.trans hP))
      exact (upd_ne (ne_of_none e nC)).trans ((upd_ne nbP).trans e)
    have eL : (ps ++ #[rawInt pos.line, rawInt pos.col, .ref c']).toList = ps.toList ++ [rawInt pos.line, rawInt pos.col, .ref c'] := by simp
    have T1 : Tbs C (upd (upd H P (.tbl (ps ++ #[rawInt pos.line, rawInt pos.col, .ref c']))) c' (CodeO c' (X.env.qual ++ "<lambda>"))) := fun P2 hP2 => by
      by_cases hb : P2 = P
      · subst hb
        refine ⟨_, by rw [upd_ne (ne_of_none hP nC), upd_same], by rw [eL]; exact PySem.TriplesOk_snoc _ _ _ _ ht, fun p' cv hcv => ?_⟩
        rw [eL] at hcv
        rcases among_app2 _ ht hcv with z | ⟨z, z1, z2⟩
        · obtain ⟨c0, e1, e2⟩ := ha p' cv z
          exact ⟨c0, e1, hE _ _ e2 codeO_ne⟩
        · exact ⟨c', z, by rw [← z1, ← z2, hn]; exact upd_same⟩
      · obtain ⟨qs, a1, a2, a3⟩ := hT P2 hP2
        refine ⟨qs, by rw [upd_ne (ne_of_none a1 nC), upd_ne hb]; exact a1, a2, fun p' cv hcv => ?_⟩
        obtain ⟨c0, e1, e2⟩ := a3 p' cv hcv
        exact ⟨c0, e1, hE _ _ e2 codeO_ne⟩
    refine k _ c' _ _ J2 ⟨fun b o e n => ?_, fun b e => upd_none (upd_none (upd_none e)), fun P2 hP2 => (T1 P2 hP2).ext fun b o e => ?_, I.hok.fresh (Nat.le_trans hge (Nat.le_of_lt hlt)), upd_same, ?_⟩
    · have e1 := hE b o e n
      exact (upd_ne (ne_of_none e1 nF)).trans e1
    · exact (upd_ne (ne_of_none e nF)).trans e
    · exact (upd_ne (Nat.ne_of_lt hlt)).trans upd_same
  | some cv =>
    obtain ⟨c', e, hco⟩ := ha pos cv hc
    subst e
    rw [hn] at hco
    refine PySem.W.kla_makeFunctionHit (mg := X.mg) (c := c) (P := P) (ps := ps) (closure_ok hfree) I.ok.glob (I.mod.glob.keeps I.bk) hcode (TB.code.keeps I.bk) oP ht hc bP fun ctv h' tk hx hsz => ?_
    have J1 : L2.Inv X pins σ H { s with heap := h', toks := tk } := I.kept hx
    have nF : H h'.objs.size = none := J1.hok.fresh (Nat.le_refl _)
    have J2 := inv_lam (F := lamF X params scope c') (body := body) (t' := tk) (pm := (X.mg "__name__").getD .none) (ctv := ctv) J1
    refine k _ c' _ _ J2 ⟨fun b o e n => (upd_ne (ne_of_none e nF)).trans e, fun b e => upd_none e, fun P2 hP2 => (hT P2 hP2).ext fun b o e => (upd_ne (ne_of_none e nF)).trans e, nF, upd_same, (upd_ne (ne_of_none hco nF)).trans hco⟩
theorem Made.gr {F : NF} {body : Expr} {f : Addr} {H1 : Hp} {g : Gh} (m : Made C X F body H f H1) (st : StOk C g H) : Gr g H g H1 ∧ StOk C g H1 := by
  refine ⟨⟨fun _ _ h => h, fun _ _ _ => rfl, fun a o h _ n => m.ext a o h n, m.none⟩, ⟨fun a u e => ?_, m.tabs⟩⟩
  have x := st.1 a u e
  cases u with
  | well => obtain ⟨c0, c1, c2, z⟩ := x; exact ⟨c0, c1, c2, m.ext _ _ z fun ps z => by cases z⟩
  | dat d =>
    have rd : ∀ {o : HO}, (∀ ps, o ≠ .tbl ps) → Rd H a o → Rd H1 a o := fun n r => r.elim (fun r => .inl (m.ext _ _ r n)) fun ⟨x, r⟩ => .inr ⟨x, m.ext _ _ r fun ps z => by cases z⟩
    cases d with
    | tuple ds => obtain ⟨vs, z, q⟩ := x; exact ⟨vs, rd (fun ps z => by cases z) z, q⟩
    | list ds => obtain ⟨vs, z, q⟩ := x; exact ⟨vs, rd (fun ps z => by cases z) z, q⟩
    | _ => exact x.elim
/-- no ghost tells a thing that is known by its object alone -/
theorem ghost_ext {g : Gh} {a : Addr} {φ : Heap → Prop} (st : StOk C g H) (e : H a = some (.ext φ)) : g a = none := by
  cases q : g a with
  | none => rfl
  | some u =>
    have x := st.1 a u q
    cases u with
    | well => obtain ⟨c0, c1, c2, z⟩ := x; rw [e] at z; cases z
    | dat d =>
      cases d with
      | tuple ds => obtain ⟨vs, z | ⟨o, z⟩, _⟩ := x <;> (rw [e] at z; cases z)
      | list ds => obtain ⟨vs, z | ⟨o, z⟩, _⟩ := x <;> (rw [e] at z; cases z)
      | _ => exact x.elim
theorem ghost_lock {g : Gh} {a : Addr} {ob : Obj} {φ : Heap → Prop} (st : StOk C g H) (e : H a = some (.frz ob (.ext φ))) : g a = none := by
  cases q : g a with
  | none => rfl
  | some u =>
    have x := st.1 a u q
    cases u with
    | well => obtain ⟨c0, c1, c2, z⟩ := x; rw [e] at z; cases z
    | dat d =>
      cases d with
      | tuple ds => obtain ⟨vs, z | ⟨o, z⟩, _⟩ := x <;> (rw [e] at z; cases z)
      | list ds => obtain ⟨vs, z | ⟨o, z⟩, _⟩ := x <;> (rw [e] at z; cases z)
      | _ => exact x.elim
end

/-! ### cells, locked and let go -/
def Tru : HO := .ext fun _ => True
/-- the cells' objects are known -/
def lockH (cs : List Addr) (h : Heap) (H : Hp) : Hp := fun a => if a ∈ cs then (h.get? a).map fun o => .frz o Tru else H a
def letH (cs : List Addr) (H : Hp) : Hp := fun a => if a ∈ cs then none else H a
theorem letH_ne {cs : List Addr} {H : Hp} {a : Addr} (h : a ∉ cs) : letH cs H a = H a := if_neg h
theorem letH_in {cs : List Addr} {H : Hp} {a : Addr} (h : a ∈ cs) : letH cs H a = none := if_pos h
theorem lockH_ne {cs : List Addr} {h : Heap} {H : Hp} {a : Addr} (n : a ∉ cs) : lockH cs h H a = H a := if_neg n
theorem lockH_in {cs : List Addr} {h : Heap} {H : Hp} {a : Addr} {o : Obj} (n : a ∈ cs) (e : h.get? a = some o) : lockH cs h H a = some (.frz o Tru) := by
  unfold lockH
  rw [if_pos n, e]
  rfl
/-- all of cs are locked in H -/
def Locked (cs : List Addr) (H : Hp) : Prop := ∀ a ∈ cs, ∃ o, H a = some (.frz o Tru)
section
variable {C : CC} {P : Program} {w : World} {cs : List Addr} {H H' : Hp} {h h' : Heap} {g g' : Gh}
theorem let_some {a : Addr} {o : HO} (e : letH cs H a = some o) : a ∉ cs ∧ H a = some o := by
  by_cases z : a ∈ cs
  · rw [letH_in z] at e; cases e
  · rw [letH_ne z] at e; exact ⟨z, e⟩
theorem let_hok (lk : Locked cs H) (x : HOk P w H h) : HOk P w (letH cs H) h := fun a o e => by
  obtain ⟨n, e'⟩ := let_some e
  refine (x a o e').stay (fun b u _ q => q) (fun b q => ?_) fun b xs q => ?_
  · refine (letH_ne fun z => ?_).trans q
    obtain ⟨o, z⟩ := lk b z
    rw [q] at z; cases z
  · refine (letH_ne fun z => ?_).trans q
    obtain ⟨o, z⟩ := lk b z
    rw [q] at z; cases z
theorem lock_hok (fr : ∀ a ∈ cs, H a = none) (there : ∀ a ∈ cs, ∃ o, h.get? a = some o) (x : HOk P w H h) : HOk P w (lockH cs h H) h := fun a o e => by
  by_cases z : a ∈ cs
  · obtain ⟨ob, q⟩ := there a z
    rw [lockH_in z q] at e
    cases e
    exact ⟨q, trivial, ⟨ob, q⟩, fun _ _ _ _ => trivial⟩
  · rw [lockH_ne z] at e
    have keep : ∀ {b u}, H b = some u → lockH cs h H b = some u := fun {b u} q => (lockH_ne fun y => by rw [fr b y] at q; cases q).trans q
    exact (x a o e).stay (fun b u _ q => q) (fun b q => keep q) fun b xs q => keep q
theorem let_st (lk : Locked cs H) (st : StOk C g H) : StOk C g (letH cs H) := by
  have gn : ∀ a u, g a = some u → a ∉ cs := fun a u e z => by
    obtain ⟨o, q⟩ := lk a z
    rw [ghost_lock st q] at e; cases e
  refine ⟨fun a u e => (st.1 a u e).mono (fun _ _ h => h) fun o q => (letH_ne (gn a u e)).trans q, fun T hT => ?_⟩
  have keep : ∀ {b u}, H b = some u → (∀ ob φ, u ≠ .frz ob φ) → letH cs H b = some u := fun {b u} q n => (letH_ne fun z => by
    obtain ⟨o, q2⟩ := lk b z
    rw [q] at q2
    exact n _ _ (Option.some.inj q2)).trans q
  obtain ⟨ps, t1, t2, t3⟩ := st.2 T hT
  refine ⟨ps, keep t1 fun _ _ z => (by cases z), t2, fun pos cv hc => ?_⟩
  obtain ⟨c, e1, e2⟩ := t3 pos cv hc
  exact ⟨c, e1, keep e2 fun _ _ z => by unfold CodeO at z; cases z⟩
theorem more_st {H1 : Hp} (m : ∀ a o, H a = some o → H1 a = some o) (st : StOk C g H) : StOk C g H1 :=
  ⟨fun a u e => (st.1 a u e).mono (fun _ _ h => h) fun o q => m a o q, fun T hT => (st.2 T hT).ext m⟩
end
end TL
namespace TL
open PySem PySem.Spec PyProof.Rows L2 LamX NdefX

theorem pairedApp {α β : Type} {F : α → β → Prop} : ∀ {a b : List α} {x y : List β}, Paired F a x → Paired F b y → Paired F (a ++ b) (x ++ y)
  | _, _, _, _, .nil, s => s
  | _, _, _, _, .cons r t, s => .cons r (pairedApp t s)
theorem pairedGet {α β : Type} {F : α → β → Prop} : ∀ {a : List α} {x : List β} {i : Nat} {d : β}, Paired F a x → x[i]? = some d → ∃ v, a[i]? = some v ∧ F v d
  | _, _, _, _, .nil, e => by simp at e
  | _, _, 0, _, .cons r _, e => by simp at e; subst e; exact ⟨_, rfl, r⟩
  | _, _, i + 1, _, .cons _ t, e => by
    obtain ⟨u, h1, h2⟩ := pairedGet (i := i) t (by simpa using e)
    exact ⟨u, by simpa using h1, h2⟩
/-- a slot and its datum, nothing owned -/
def SlotOk (C : CC) (g : Gh) (H : Hp) (o : Option V) (e : Option SL) : Prop := ∀ s, e = some s → ∃ v a, o = some v ∧ s = .av a ∧ RepS C ⟨g, H⟩ g H v (.av a)
theorem envOk_of {C : CC} {g : Gh} {H : Hp} {σ : L2.St} {env : En} (p : Paired (SlotOk C g H) σ env) : EnvOk C ⟨g, H⟩ g H σ env := by
  refine ⟨Paired.length p, fun i s h => ?_, fun i j l m a h1 => ?_⟩
  · obtain ⟨o, e, q⟩ := pairedGet p h
    obtain ⟨v, a, rfl, rfl, r⟩ := q s rfl
    exact ⟨v, e, r⟩
  · obtain ⟨o, e, q⟩ := pairedGet p h1
    obtain ⟨v, a, _, z, _⟩ := q _ rfl
    cases z
def capAt (env : En) (j : Nat) : Option SL := match env[j]? with
  | some (some (.av (.dat d))) => some (.av (.dat d))
  | _ => none
def dslot (d : PyData) : Option SL := some (.av (.dat d))
def envL (N : List Str) (ds : List PyData) (caps : En) : En := ds.map dslot ++ (caps ++ List.replicate (N.length - ds.length - caps.length) none)
def lamB (N : List Str) (n : Nat) (tb : TEd) (caps : En) : Beh := fun ds Qd => ds.length = n ∧ tb (envL N ds caps) (fun a => match a.sd with
  | some d => Qd d
  | none => False) XF
theorem dslots {C : CC} {g : Gh} {H : Hp} : ∀ {vs : List V} {ds : List PyData}, RepVs C.K g vs ds → Paired (SlotOk C g H) (vs.map some) (ds.map dslot)
  | _, _, .nil => .nil
  | _, _, .cons r t => .cons (fun s e => by cases e; exact ⟨_, _, rfl, rfl, r⟩) (dslots t)
theorem nones {C : CC} {g : Gh} {H : Hp} : ∀ (n : Nat), Paired (SlotOk C g H) (List.replicate n (none : Option V)) (List.replicate n none)
  | 0 => .nil
  | n + 1 => .cons (fun s e => by cases e) (nones n)
theorem capslots {C : CC} {B : Base} {g g2 : Gh} {H H2 : Hp} {σ : L2.St} {env : En} (eo : EnvOk C B g H σ env) (m : gle g g2) : ∀ (js : List Nat), Paired (SlotOk C g2 H2) (js.map (slotAt σ)) (js.map (capAt env))
  | [] => .nil
  | j :: js => by
    refine .cons (fun s e => ?_) (capslots eo m js)
    unfold capAt at e
    split at e
    · rename_i d ed
      cases e
      obtain ⟨v, hv, r⟩ := eo.at_ j _ ed
      exact ⟨v, _, slotAt_of hv, rfl, RepV.mono m r⟩
    · cases e
/-- the cells of a function's captured names -/
abbrev cellsOf (cl : List (Str × Addr)) : List Addr := cl.map (·.2)
theorem cl_lookup {cells : List (Str × Addr)} {names : List (Str × NameKind)} (hfree : ∀ y ∈ names, y.2 = .free → ∃ c, cells.lookup y.1 = some c) {a : Addr} (h : a ∈ cellsOf (cloFrom cells names [])) : ∃ y, (y, NameKind.free) ∈ names ∧ cells.lookup y = some a := by
  obtain ⟨⟨y, b⟩, h1, rfl⟩ := List.mem_map.mp h
  rcases cloFrom_mem h1 with hm | ⟨h2, h3⟩
  · cases hm
  · obtain ⟨c1, hc⟩ := hfree _ h2 rfl
    refine ⟨y, h2, ?_⟩
    have hc : cells.lookup y = some c1 := hc
    show cells.lookup y = some b
    rw [hc, h3, hc]
    rfl
section
variable {C : CC} {B : Base} {X : Cx} {pins : List (Addr × Obj)} {σ : L2.St} {H1 : Hp} {s1 : Shared} {g : Gh} {env : En} {params : Arguments} {body : Expr} {scope : Scope} {f c' : Addr} {N ps fr : List Str} {js : List Nat} {k : Nat} {tb : TEd}
/-- the context of a lambda's body -/
structure LamX' (C : CC) (N : List Str) (F : NF) (k : Nat) (X : Cx) : Prop where
  ex : ∃ (f : Addr) (A : Around) (outer : List Env) (s : Shared) (H : Hp), X = ncx CX0 C.P C.w C.K C.mg C.base N F f A outer s H E0 ∧ Room k X.A ∧ X.A.guards = some []
theorem clo_of (xo : XOk C X) (I : L2.Inv X pins σ H1 s1) (st : StOk C g H1) (eo : EnvOk C B g H1 σ env) (hf : H1 f = some (LamO f (lamF X params scope c') body)) (hc : H1 c' = some (CodeO c' (X.env.qual ++ "<lambda>")))
    (hfree : ∀ y ∈ scope.names, y.2 = .free → X.env.scope.names.lookup y.1 = some .cell ∨ X.env.scope.names.lookup y.1 = some .free) (hfr : ∀ y ∈ fr, (y, NameKind.free) ∈ scope.names) (hjs : js.map (fun j => X.N[j]?) = fr.map some)
    (S : NScope N ps fr scope) (hb : ∀ (q : Str) (cl : List (Str × Addr)) (pm cv ctv : Value) (us : List Value), us.length = ps.length → bindArgs (PySem.W.kla_fn "<lambda>" q params body scope cl pm cv ctv) ⟨us, []⟩ = pure (ps.zip us))
    (hbody : ∀ (X' : Cx) (B' : Base), LamX' C N (lamF X params scope c') k X' → DE C B' X' body tb) :
    CloOk C g (lockH (cellsOf (cloFrom X.env.cells scope.names [])) s1.heap H1) f (k + 1) (lamB N ps.length tb (js.map (capAt env))) := by
  have hfreeC : ∀ y ∈ scope.names, y.2 = .free → ∃ c, X.env.cells.lookup y.1 = some c := fun y hy e => (hfree y hy e).elim (fun z => I.ok.has _ (.inl z)) fun z => I.ok.has _ (.inr z)
  have CA1 := cells_of I (Caps.made I.ok hfree hfr hjs)
  generalize hcs : cellsOf (cloFrom X.env.cells scope.names []) = cs
  have cell : ∀ a ∈ cs, H1 a = none ∧ ∃ o, s1.heap.get? a = some o := fun a ha => by
    rw [← hcs] at ha
    obtain ⟨y, hy, e⟩ := cl_lookup hfreeC ha
    obtain ⟨v, o, z, _⟩ := I.cell y a e
    exact ⟨I.freeC y a e, o, z⟩
  have nf : f ∉ cs := fun z => by rw [(cell f z).1] at hf; cases hf
  have nc : c' ∉ cs := fun z => by rw [(cell c' z).1] at hc; cases hc
  have gf : g f = none := ghost_ext st hf
  have gc : g c' = none := ghost_ext st hc
  let L : List (Addr × HO) := (f, LamO f (lamF X params scope c') body) :: (c', CodeO c' (X.env.qual ++ "<lambda>")) :: cs.filterMap fun a => (s1.heap.get? a).map fun o => (a, HO.frz o Tru)
  have memL : ∀ a ∈ cs, ∃ o, s1.heap.get? a = some o ∧ (a, HO.frz o Tru) ∈ L := fun a ha => by
    obtain ⟨_, o, e⟩ := cell a ha
    exact ⟨o, e, List.mem_cons_of_mem _ (List.mem_cons_of_mem _ (List.mem_filterMap.mpr ⟨a, ha, by rw [e]; rfl⟩))⟩
  refine ⟨L, fun p hp => ?_, fun H2 h hok hL => ?_, fun A outer s2 H2 g2 us vs ds Qd hr hgd e0 hL hle st2 rv rd hq => ?_⟩
  · rcases List.mem_cons.mp hp with rfl | hp
    · exact ⟨(lockH_ne nf).trans hf, gf, fun ps z => (by simp [LamO] at z), fun xs z => (by simp [LamO] at z)⟩
    · rcases List.mem_cons.mp hp with rfl | hp
      · exact ⟨(lockH_ne nc).trans hc, gc, fun ps z => (by simp [CodeO] at z), fun xs z => (by simp [CodeO] at z)⟩
      · obtain ⟨a, ha, e⟩ := List.mem_filterMap.mp hp
        obtain ⟨n, o, ho⟩ := cell a ha
        rw [ho] at e
        cases e
        exact ⟨lockH_in ha ho, st.1.none_of n, fun ps z => (by cases z), fun xs z => (by cases z)⟩
  · have z := hok f _ (hL _ (List.mem_cons_self ..))
    obtain ⟨⟨pm, ctv, e⟩, _, _⟩ := z
    exact ⟨_, _, _, _, e⟩
  · obtain ⟨hlen, hq⟩ := hq
    have h2f := hL _ (show (f, LamO f (lamF X params scope c') body) ∈ L from List.mem_cons_self ..)
    have h2c := hL _ (show (c', CodeO c' (X.env.qual ++ "<lambda>")) ∈ L from List.mem_cons_of_mem _ (List.mem_cons_self ..))
    have cell2 : ∀ a ∈ cs, ∃ o, s1.heap.get? a = some o ∧ H2 a = some (.frz o Tru) ∧ s2.heap.get? a = some o := fun a ha => by
      obtain ⟨o, e, m⟩ := memL a ha
      have h := hL _ m
      obtain ⟨z, _⟩ := e0.hok a _ h
      exact ⟨o, e, h, z⟩
    have lk : Locked cs H2 := fun a ha => let ⟨o, _, h, _⟩ := cell2 a ha; ⟨o, h⟩
    have hok3 := let_hok lk e0.hok
    have st3 := let_st lk st2
    have frs3 : ∀ b ∈ frs outer, b ∉ cs := fun b hb z => by
      obtain ⟨o, h⟩ := lk b z
      rw [e0.frf b hb] at h; cases h
    have none3 : ∀ b, H2 b = none → letH cs H2 b = none := fun b e => by
      by_cases z : b ∈ cs
      · exact letH_in z
      · exact (letH_ne z).trans e
    have e3 : Env0 C.P C.w C.K C.mg C.base A outer s2 (letH cs H2) := ⟨e0.frames, e0.mod, fun b o e => ⟨(e0.bs b o e).1, none3 b (e0.bs b o e).2⟩, e0.bsz, e0.funs, fun b hb => none3 b (e0.frf b hb), hok3, e0.bare⟩
    obtain ⟨⟨pm, ctv, hof⟩, _, _⟩ := e0.hok f _ h2f
    obtain ⟨⟨oc, vs', t, hoc, hdc, hvc⟩, _, _⟩ := e0.hok c' _ h2c
    have lim : s2.heap.NoLimit := e0.mod.nolimit.keeps fun b o e => (e0.bs b o e).1
    have lookM : ∀ y c, (cloFrom X.env.cells scope.names []).lookup y = some c → c ∈ cs := fun y c e => by
      rw [← hcs]
      exact List.mem_map.mpr ⟨(y, c), PySem.mem_of_lookup e, rfl⟩
    have cellK : ∀ y c, (cloFrom X.env.cells scope.names []).lookup y = some c → ∀ v, s1.heap.IsCell c v → s2.heap.IsCell c v := fun y c e v ⟨o, ho, hd⟩ => by
      obtain ⟨o', h1, _, h3⟩ := cell2 c (lookM y c e)
      rw [ho] at h1; cases h1
      exact ⟨o, h3, hd⟩
    have CA : CellsAt (cloFrom X.env.cells scope.names []) fr (js.map (slotAt σ)) s2.heap (letH cs H2) := by
      refine ⟨CA1.len, fun y c e => ⟨letH_in (lookM y c e), ?_⟩, CA1.inj, fun i y e => ?_⟩
      · obtain ⟨v, z⟩ := (CA1.all y c e).2
        exact ⟨v, cellK y c e v z⟩
      · obtain ⟨c, hc2, hv⟩ := CA1.has i y e
        refine ⟨c, hc2, fun v ev => ?_⟩
        obtain ⟨u, r, z⟩ := hv v ev
        exact ⟨u, r, cellK y c hc2 _ z⟩
    have hvl : vs.length = ps.length := by rw [Paired.len rd]; exact hlen
    refine PySem.W.kla_callFunE hr.depth hof rfl S.co S.gen rfl ⟨c', oc, vs', t, rfl, hoc, hdc, hvc⟩ ?_
    rw [hb _ _ _ _ _ us (by rw [← rv.length]; exact hvl)]
    refine wpAny_pure (wpAny_newFunctionEnv S.nocell (fun ⟨n, _⟩ hy => S.par n (List.of_mem_zip hy).1) (fun h₁ hns hsb => ⟨lim.fresh _ hsb, ?_⟩) S.kind)
    show codeAny _ _ (.expr body (envF (lamF X params scope c') f s2.heap.objs.size)) _ _
    refine PySem.W.kla_codeExpr ?_
    have kp : ∀ b o, s2.heap.get? b = some o → h₁.get? b = some o := fun b o e => hsb.extBut b o (Nat.ne_of_lt (Heap.lt_size e)) (Heap.get?_push_of_some _ e)
    have J := inv_startN (CX := CX0) (N := N) (F := lamF X params scope c') (f := f) (E := E0) (tk := s2.toks + (ps.zip us).length) S hr.hd e3 hvl rv CA hns kp
    have D := hbody _ ⟨g2, letH cs H2⟩ ⟨f, A, outer, s2, letH cs H2, rfl, hr.deeper _, hgd⟩
    have envok : EnvOk C ⟨g2, letH cs H2⟩ g2 (letH cs H2) (startF N vs (js.map (slotAt σ))) (envL N ds (js.map (capAt env))) := by
      refine envOk_of (pairedApp (dslots rd) (pairedApp (capslots (H2 := letH cs H2) eo hle js) ?_))
      rw [show N.length - ds.length - (js.map (capAt env)).length = N.length - vs.length - (js.map (slotAt σ)).length by rw [List.length_map, List.length_map, Paired.len rd]]
      exact nones _
    refine wpAny_mono (D.run [] _ _ (letH cs H2) (fun v H' => ∃ d g', Qd d ∧ Gr g2 (letH cs H2) g' H' ∧ StOk C g' H' ∧ RepV C.K g' v d) J ⟨g2, _, _, st3, envok, hq, fun v H' ⟨a, g', q, f1, st', r, n⟩ => ?_⟩) (fun u s' h => ?_) fun e s' h => h
    · dsimp only at q
      split at q
      · rename_i d ed
        obtain ⟨g4, f4, st4, r4, _⟩ := freeze st3 f1 st' r n (sd_st ed)
        exact ⟨d, g4, q, f4, st4, r4⟩
      · exact q.elim
    · obtain ⟨v, H', J', rv', d, g', q, f1, st', r'⟩ := h
      -- the cells are locked again
      have un := J'.base
      have old : ∀ a ∈ cs, H' a = none ∧ ∃ o, H2 a = some (.frz o Tru) ∧ s'.heap.get? a = some o := fun a ha => by
        obtain ⟨o, _, h, z⟩ := cell2 a ha
        exact ⟨un.free a o z (letH_in ha) (by exact fun z => nomatch z), o, h, un.keep a o z (letH_in ha) (fun y => frs3 a y ha) (by exact fun z => nomatch z)⟩
      let HF : Hp := fun a => if a ∈ cs then H2 a else H' a
      have HFin : ∀ a, a ∈ cs → HF a = H2 a := fun a ha => if_pos ha
      have HFne : ∀ a, a ∉ cs → HF a = H' a := fun a ha => if_neg ha
      have up : ∀ a o, H' a = some o → HF a = some o := fun a o e => by
        rw [HFne a fun z => by rw [(old a z).1] at e; cases e]
        exact e
      refine ⟨v, HF, J'.os, J'.bare, ?_, ?_, rv', d, g', q, ?_, more_st up st', r'⟩
      · refine ⟨fun b o e n hb hx => ?_, fun b o e n hb hx => ?_, fun b o e n hx => ?_, un.there, fun b xs e => ?_, fun b o u e => ?_, fun b ps e => ?_⟩
        · exact un.keep b o e (none3 b n) hb hx
        · exact un.slot b o e (none3 b n) hb hx
        · have nb : b ∉ cs := fun z => by obtain ⟨o, h⟩ := lk b z; rw [n] at h; cases h
          rw [HFne b nb]
          exact un.free b o e (none3 b n) hx
        · have nb : b ∉ cs := fun z => by obtain ⟨o, h⟩ := lk b z; rw [e] at h; cases h
          rw [HFne b nb]
          exact un.tups b xs ((letH_ne nb).trans e)
        · by_cases nb : b ∈ cs
          · rw [HFin b nb]; exact e
          · rw [HFne b nb]
            exact un.frzs b o u ((letH_ne nb).trans e)
        · have nb : b ∉ cs := fun z => by obtain ⟨o, h⟩ := lk b z; rw [e] at h; cases h
          rw [HFne b nb]
          exact un.tbls b ps ((letH_ne nb).trans e)
      · intro a o e
        by_cases na : a ∈ cs
        · rw [HFin a na] at e
          obtain ⟨_, o', h, z⟩ := old a na
          rw [h] at e
          cases e
          exact ⟨z, trivial, ⟨_, z⟩, fun _ _ _ _ => trivial⟩
        · rw [HFne a na] at e
          exact (J'.hok a o e).stay (fun b u _ q => q) (fun b q => up b _ q) fun b xs q => up b _ q
      · refine ⟨f1.gm, fun a o e => ?_, fun a o e n1 n2 => ?_, fun a e => ?_⟩
        · by_cases na : a ∈ cs
          · obtain ⟨o', h⟩ := lk a na
            rw [st'.1.none_of (old a na).1, ghost_lock st2 h]
          · exact f1.km a o ((letH_ne na).trans e)
        · by_cases na : a ∈ cs
          · rw [HFin a na]; exact e
          · rw [HFne a na]
            exact f1.hm a o ((letH_ne na).trans e) n1 n2
        · by_cases na : a ∈ cs
          · rw [HFin a na] at e; exact e
          · rw [HFne a na] at e
            have := f1.nm a e
            rw [letH_ne na] at this
            exact this
end
end TL
namespace TL
open PySem PySem.Spec PyProof.Rows L2 LamX NdefX

/-- arguments, the last of them a lambda -/
def tDL (C : CC) (B : Base) (X : Cx) (params : Arguments) (body : Expr) (scope : Scope) (t : TAd) : TA := fun σ H Q => ∃ g env Qd, StOk C g H ∧ EnvOk C B g H σ env ∧ t env Qd XF ∧
  ∀ vs as g' H' f c', Qd as → Gr g H g' H' → StOk C g' H' → Paired (RepA C g' H') vs as → H' f = some (LamO f (lamF X params scope c') body) → H' c' = some (CodeO c' (X.env.qual ++ "<lambda>")) → Q (vs ++ [.ref f]) H'
abbrev DL (C : CC) (B : Base) (X : Cx) (es : List Expr) (params : Arguments) (body : Expr) (scope : Scope) (t : TAd) : Prop := PA X es (tDL C B X params body scope t)
/-- what the making of a lambda asks of the context and of the words -/
structure LamOk (C : CC) (X : Cx) (params : Arguments) (scope : Scope) (pos : Pos) (N ps fr : List Str) (js : List Nat) : Prop where
  ex : ∃ c P, TabB X.base X.mg c P ∧ X.env.code = .ref c ∧ P ∈ C.T
  nm : C.nm pos.line pos.col = X.env.qual ++ "<lambda>"
  defs : defaultsOf params X.env = ([], [])
  free : ∀ y ∈ scope.names, y.2 = .free → X.env.scope.names.lookup y.1 = some .cell ∨ X.env.scope.names.lookup y.1 = some .free
  fre : ∀ y ∈ fr, (y, NameKind.free) ∈ scope.names
  js : js.map (fun j => X.N[j]?) = fr.map some
  sc : NScope N ps fr scope
  bind : ∀ (q : Str) (body : Expr) (cl : List (Str × Addr)) (pm cv ctv : Value) (us : List Value), us.length = ps.length → bindArgs (PySem.W.kla_fn "<lambda>" q params body scope cl pm cv ctv) ⟨us, []⟩ = pure (ps.zip us)
section
variable {C : CC} {B : Base} {X : Cx} {a e : Expr} {es : List Expr} {ta te : TEd} {t : TAd} {p pos lpos : Pos} {params : Arguments} {body : Expr} {scope : Scope} {N ps fr : List Str} {js : List Nat}
theorem dl_one (lo : LamOk C X params scope lpos N ps fr js) : DL C B X [.Lambda params body scope lpos] params body scope aNil := by
  obtain ⟨c, P, TB, hc, hm⟩ := lo.ex
  refine ⟨fun pos pins s σ H Q I h => ?_⟩
  obtain ⟨g, env, Qd, st, eo, h, k⟩ := h
  show wpAny _ _ (spliced ((false, eval (.Lambda params body scope lpos) X.env) :: backTo pos (starEach [] X.env))) _ _ s
  refine Calls.spliced_cons (lam_made (C := C) (X := X) I TB hc hm lo.nm st.2 lo.defs (fun y hy e => (lo.free y hy e).elim (fun z => I.ok.has _ (.inl z)) fun z => I.ok.has _ (.inr z)) fun f c' H1 s1 I1 m => ?_)
  obtain ⟨f1, st1⟩ := m.gr st
  exact Calls.spliced_nil ⟨[.ref f], H1, I1, .cons rfl .nil, k [] [] g H1 f c' h f1 st1 .nil m.at_ m.code⟩
theorem star_one (env : Env) : isStar a = false → starEach (a :: es) env = (false, eval a env) :: starEach es env := fun h => star_cons a es env h
theorem dl_cons (ha : DE C B X a ta) (hr : DL C B X es params body scope t) (hs : isStar a = false) : DL C B X (a :: es) params body scope (aCons ta t) := by
  refine ⟨fun pos pins s σ H Q I h => ?_⟩
  obtain ⟨g, env, Qd, st, eo, h, k⟩ := h
  rw [star_cons _ _ _ hs]
  show wpAny _ _ (spliced ((false, eval a X.env) :: backTo pos (starEach es X.env))) _ _ s
  refine Calls.spliced_cons (thn (ha.run pins s σ H (fun v H1 => ∃ b g1, t env (fun bs => Qd (b :: bs)) XF ∧ Gr g H g1 H1 ∧ StOk C g1 H1 ∧ RepA C g1 H1 v b) I ⟨g, env, _, st, eo, h, fun v H1 ⟨x, g1, q, f1, st1, r1, n1⟩ => ?_⟩) fun u s1 ⟨v, H1, I1, rv, b, g1, q, f1, st1, r1⟩ => ?_)
  · try dsimp only at q
    split at q
    · rename_i b eb
      obtain ⟨g2, f2, st2, r2, m2⟩ := freeze st f1 st1 r1 n1 eb
      exact ⟨b, g2, q, f2, st2, r2⟩
    · exact q.elim
  · exact thn (hr.run pos pins s1 σ H1 (fun ws H2 => Q (v :: ws) H2) I1 ⟨g1, env, _, st1, eo.fr f1, q, fun vs as g2 H2 f c' q2 f2 st2 r2 l1 l2 => k (v :: vs) (b :: as) g2 H2 f c' q2 (f1.trans f2) st2 (.cons (r1.fr f2) r2) l1 l2⟩) fun us s2 ⟨ws, H2, I2, r2, q2⟩ => ⟨_, H2, I2, .cons rv r2, q2⟩
/-- a call at the locked heap, told of the heap let go -/
theorem unlock {H1 : Hp} {s1 s' : Shared} {g : Gh} {u : Value} {Qd : AV → Prop} {cs : List Addr} (cell : ∀ a ∈ cs, H1 a = none ∧ ∃ o, s1.heap.get? a = some o)
    (h : CE X.stack X.prog X.w (lockH cs s1.heap H1) s1 (ResC C g (lockH cs s1.heap H1) Qd) u s') : CE X.stack X.prog X.w H1 s1 (ResC C g H1 Qd) u s' := by
  obtain ⟨v, H', os, bare, un, hok, rv, a, g', q, f1, st', r', pl⟩ := h
  have lk : Locked cs H' := fun b hb => by
    obtain ⟨n, o, e⟩ := cell b hb
    exact ⟨o, un.frzs b o Tru (lockH_in hb e)⟩
  have keep : ∀ b ∈ cs, ∀ o, s1.heap.get? b = some o → s'.heap.get? b = some o := fun b hb o e => by
    obtain ⟨z, _⟩ := hok b _ (un.frzs b o Tru (lockH_in hb e))
    exact z
  have up : ∀ b o, H1 b = some o → lockH cs s1.heap H1 b = some o := fun b o e => (lockH_ne fun z => by rw [(cell b z).1] at e; cases e).trans e
  have nin : ∀ b o, H1 b = some o → b ∉ cs := fun b o e z => by rw [(cell b z).1] at e; cases e
  refine ⟨v, letH cs H', os, bare, ⟨fun b o e n hb hx => ?_, fun b o e n hb hx => ?_, fun b o e n hx => ?_, un.there, fun b xs e => ?_, fun b o w e => ?_, fun b ps e => ?_⟩, let_hok lk hok, rv, a, g', q, ⟨f1.gm, fun b o e => f1.km b o (up b o e), fun b o e n1 n2 => ?_, fun b e => ?_⟩, let_st lk st', ?_, pl⟩
  · by_cases z : b ∈ cs
    · exact keep b z o e
    · exact un.keep b o e ((lockH_ne z).trans n) hb hx
  · by_cases z : b ∈ cs
    · exact ⟨o.slots, keep b z o e⟩
    · exact un.slot b o e ((lockH_ne z).trans n) hb hx
  · by_cases z : b ∈ cs
    · exact letH_in z
    · exact (letH_ne z).trans (un.free b o e ((lockH_ne z).trans n) hx)
  · exact (letH_ne (nin b _ e)).trans (un.tups b xs (up b _ e))
  · exact (letH_ne (nin b _ e)).trans (un.frzs b o w (up b _ e))
  · obtain ⟨more, q⟩ := un.tbls b ps (up b _ e)
    exact ⟨more, (letH_ne (nin b _ e)).trans q⟩
  · exact (letH_ne (nin b _ e)).trans (f1.hm b o (up b o e) n1 n2)
  · by_cases z : b ∈ cs
    · exact (cell b z).1
    · rw [letH_ne z] at e
      have := f1.nm b e
      rw [lockH_ne z] at this
      exact this
  · cases a with
    | dat d => exact r'
    | well => exact r'
    | _ => cases pl
/-- x(a, .., lambda ..) -/
def eCallL (sp : DSp) (mk : En → AV) (t : TAd) : TEd := fun env Q E => t env (fun as => sp (as ++ [mk env]) Q E) E
def mkLam (N : List Str) (n k : Nat) (tb : TEd) (js : List Nat) (env : En) : AV := .clo (k + 1) (lamB N n tb (js.map (capAt env)))
theorem de_callL {k m : Nat} {x : Str} {qs : List Str} {sp : DSp} {e : Expr} {es : List Expr} {tb : TEd} (xo : XOk C X) (F : Def C k x qs sp) (hr : Room k X.A) (hg : Gl X x) (ha : DL C B X (e :: es) params body scope t) (lo : LamOk C X params scope lpos N ps fr js)
    (hfn : ∀ y, X.fn y = true) (hbody : ∀ (c' : Addr) (X' : Cx) (B' : Base), LamX' C N (lamF X params scope c') m X' → DE C B' X' body tb) (hdb : (x == ("__debug__" : Str)) = false) (hs0 : isStar e = false) (hs : es.any isStar = false) :
    DE C B X (.Call (.Name x p) (e :: es) [] pos) (eCallL sp (mkLam N ps.length m tb js) t) := by
  obtain ⟨f, fd, hm, hk, F, hb⟩ := F.ex
  rw [← xo.mg] at hm
  rw [← xo.K] at hk
  refine ⟨fun pins s σ H Q I h => ?_⟩
  obtain ⟨g, env, Qd, st, eo, h, kk⟩ := h
  refine wpAny_Call_Name_kw (ld_glob I hg hm ?_ hdb)
  refine PySem.W.callWith_K (h₀ := X.base) I.ok.mod.kin hk (thn (ha.run pos pins s σ H (fun vs H1 => ∃ ws as g1 f c', vs = ws ++ [.ref f] ∧ sp (as ++ [mkLam N ps.length m tb js env]) Qd XF ∧ Gr g H g1 H1 ∧ StOk C g1 H1 ∧ Paired (RepA C g1 H1) ws as ∧ H1 f = some (LamO f (lamF X params scope c') body) ∧ H1 c' = some (CodeO c' (X.env.qual ++ "<lambda>")))
    I ⟨g, env, _, st, eo, h, fun vs as g1 H1 f c' q f1 st1 r1 l1 l2 => ⟨vs, as, g1, f, c', rfl, q, f1, st1, r1, l1, l2⟩⟩) fun us s1 ⟨vs, H1, I1, r, ws, as, g1, fl, c', evs, q, f1, st1, ra, l1, l2⟩ => ⟨I1.kIn, ?_⟩) (star_cons _ _ _ hs0) (noStar _ hs)
  subst evs
  have clo := clo_of (k := m) xo I1 st1 (eo.fr f1) l1 l2 lo.free lo.fre lo.js lo.sc (fun q => lo.bind q body) (hbody c')
  have cell : ∀ a ∈ cellsOf (cloFrom X.env.cells scope.names []), H1 a = none ∧ ∃ o, s1.heap.get? a = some o := fun a ha => by
    obtain ⟨y, hy, e⟩ := cl_lookup (fun y hy e => (lo.free y hy e).elim (fun z => I1.ok.has _ (.inl z)) fun z => I1.ok.has _ (.inr z)) ha
    obtain ⟨v, o, z, _⟩ := I1.cell y a e
    exact ⟨I1.freeC y a e, o, z⟩
  have above : ∀ a ∈ cellsOf (cloFrom X.env.cells scope.names []), X.s_0.heap.objs.size ≤ a ∧ a ≠ X.env.locals := fun a ha => by
    obtain ⟨y, hy, e⟩ := cl_lookup (fun y hy e => (lo.free y hy e).elim (fun z => I1.ok.has _ (.inl z)) fun z => I1.ok.has _ (.inr z)) ha
    exact ⟨I1.ok.cab y a (hfn y) e, I1.cne y a e⟩
  generalize cellsOf (cloFrom X.env.cells scope.names []) = cs at clo cell above
  have up : ∀ b o, H1 b = some o → lockH cs s1.heap H1 b = some o := fun b o e => (lockH_ne fun z => by rw [(cell b z).1] at e; cases e).trans e
  have gr : Gr g1 H1 g1 (lockH cs s1.heap H1) := ⟨fun _ _ h => h, fun _ _ _ => rfl, fun b o e _ _ => up b o e, fun b e => by
    by_cases z : b ∈ cs
    · exact (cell b z).1
    · rw [lockH_ne z] at e; exact e⟩
  have frn : ∀ b ∈ frs X.stack, b ∉ cs := fun b hb z => by
    rcases List.mem_cons.mp (I1.stkSub b hb) with e | hb
    · exact (above b z).2 e
    · obtain ⟨_, o, ho, _⟩ := I1.ok.funs.mem hb
      exact absurd (Nat.lt_of_lt_of_le (Heap.lt_size ho) (above b z).1) (Nat.lt_irrefl _)
  have ev := I1.env0
  have e1 : Env0 X.prog X.w X.K X.mg X.base X.A X.stack s1 (lockH cs s1.heap H1) := ⟨ev.frames, ev.mod, fun b o e => ⟨(ev.bs b o e).1, (lockH_ne fun z => ?_).trans (ev.bs b o e).2⟩, ev.bsz, ev.funs, fun b hb => (lockH_ne (frn b hb)).trans (ev.frf b hb), lock_hok (fun a ha => (cell a ha).1) (fun a ha => (cell a ha).2) ev.hok, ev.bare⟩
  · rw [xo.P, xo.w, xo.K, xo.mg, xo.base] at e1
    have hlen : us.length = qs.length := by
      have := F.len _ _ _ q
      rw [← r.length, ← this, List.length_append, List.length_append, Paired.len ra]
      rfl
    have c := F.run X.A X.stack s1 (lockH cs s1.heap H1) g1 ⟨us, []⟩ us (ws ++ [.ref fl]) (as ++ [mkLam N ps.length m tb js env]) Qd hr xo.gd e1 (hb s1 us hlen) r (more_st up st1)
      (pairedApp (Paired.mapP ra fun _ _ z => z.fr gr) (.cons ⟨fl, rfl, clo⟩ .nil)) q
    rw [← xo.P, ← xo.w] at c
    refine wpAny_call (codeAny_mono c fun r s' hq => ?_)
    cases r with
    | error e => exact hq.elim
    | ok fw =>
      cases fw with
      | ret u =>
        have hq : CE X.stack X.prog X.w (lockH cs s1.heap H1) s1 (ResC C g1 (lockH cs s1.heap H1) Qd) u s' := by rw [xo.P, xo.w]; rw [xo.P, xo.w] at hq; exact hq
        obtain ⟨v, H2, I2, rv, rc⟩ := I1.after (unlock cell hq)
        exact ⟨v, H2, I2, rv, kk v H2 (rc.res f1)⟩
      | _ => exact False.elim hq
  · obtain ⟨h0, _⟩ := I1.ok.bs b o e
    exact absurd (Nat.lt_of_lt_of_le (Heap.lt_size h0) (above b z).1) (Nat.lt_irrefl _)
end
end TL
namespace TL
open PySem PySem.Spec PyProof.Rows L2 LamX NdefX

/-! ### list comprehensions -/
def wipeE (env : En) : List Nat → En
  | [] => env
  | v :: vs => (wipeE env vs).set v none
def compGo (t : Tg) (tt : TTd) (te : TEd) (env : En) (Q : AV → Prop) (E : XD → Prop) : List PyData → List PyData → Prop
  | [], acc => Q (.new acc)
  | d :: ds, acc => match t.set d env with
    | some env' => tt env' (fun b => match b with
      | true => te env' (fun y => match y.sd with
        | some v => compGo t tt te env Q E ds (acc ++ [v])
        | none => False) E
      | false => compGo t tt te env Q E ds acc) E
    | none => False
def eLc (ti : TId) (t : Tg) (tt : TTd) (te : TEd) (vs : List Nat) : TEd := fun env Q E => ti env (fun xs => compGo t tt te (wipeE env vs) Q E xs []) E
def tYesD : TTd := fun _ Q _ => Q true
section
variable {C : CC} {B : Base} {X : Cx}
theorem EnvOk.clear {g : Gh} {H : Hp} {σ : L2.St} {env : En} (e : EnvOk C B g H σ env) (i : Nat) : EnvOk C B g H (σ.set i none) (env.set i none) := by
  have hl := e.len
  have back : ∀ (j : Nat) (s : SL), (env.set i none)[j]? = some (some s) → i ≠ j ∧ env[j]? = some (some s) := fun j s h => by
    by_cases hj : i = j
    · subst hj
      by_cases hi : i < env.length
      · rw [List.getElem?_set_self hi] at h; cases h
      · rw [List.getElem?_eq_none (by simp; omega)] at h; cases h
    · rw [List.getElem?_set_ne hj] at h
      exact ⟨hj, h⟩
  refine ⟨by simp [hl], fun j s h => ?_, fun j k l m a h1 h2 h3 h4 => ?_⟩
  · obtain ⟨n, h⟩ := back j s h
    obtain ⟨w, h1, h2⟩ := e.at_ j s h
    exact ⟨w, by rw [List.getElem?_set_ne n]; exact h1, h2⟩
  · obtain ⟨n1, h1⟩ := back _ _ h1
    obtain ⟨n2, h2⟩ := back _ _ h2
    rw [List.getElem?_set_ne n1] at h3
    rw [List.getElem?_set_ne n2] at h4
    exact e.sep j k l m a h1 h2 h3 h4
theorem EnvOk.wipe {g : Gh} {H : Hp} {σ : L2.St} {env : En} (e : EnvOk C B g H σ env) : ∀ vs : List Nat, EnvOk C B g H (L2.wipe σ vs) (wipeE env vs)
  | [] => e
  | v :: vs => (EnvOk.wipe e vs).clear v
/-- an own list is written -/
theorem StOk.own {g : Gh} {H : Hp} {D : Addr} {vs ws : List V} (st : StOk C g H) (hg : g D = none) (hH : H D = some (.lst vs)) : StOk C g (upd H D (.lst ws)) := by
  have gne : ∀ a u, g a = some u → a ≠ D := fun a u e z => by rw [z, hg] at e; cases e
  refine ⟨fun a u e => (st.1 a u e).mono (fun _ _ h => h) fun o h => by rw [upd_ne (gne _ _ e)]; exact h, fun q0 hq => ?_⟩
  obtain ⟨ps, t1, t2, t3⟩ := st.2 q0 hq
  have nq : q0 ≠ D := fun z => by rw [z, hH] at t1; cases t1
  refine ⟨ps, by rw [upd_ne nq]; exact t1, t2, fun pos cv hc => ?_⟩
  obtain ⟨c, e1, e2⟩ := t3 pos cv hc
  exact ⟨c, e1, by rw [upd_ne (fun z => by rw [z, hH] at e2; unfold CodeO at e2; cases e2)]; exact e2⟩
theorem Gr.young {g g' : Gh} {H H' : Hp} {D : Addr} {o : HO} (f : Gr g H g' H') (hn : H D = none) : Gr g H g' (upd H' D o) := by
  refine ⟨f.gm, f.km, fun a u h1 h2 h3 => ?_, fun a h => ?_⟩
  · rw [upd_ne (fun z => by rw [z, hn] at h1; cases h1)]
    exact f.hm a u h1 h2 h3
  · refine f.nm a ?_
    unfold upd at h
    split at h
    · cases h
    · exact h
abbrev DTs (C : CC) (B : Base) (X : Cx) (e : List Expr) (t : TTd) : Prop := PTs X e (tDT C B t)
theorem dts_nil : DTs C B X [] tYesD := ⟨fun pins s σ H Q I h => by
  obtain ⟨g, env, Qd, st, eo, h, k⟩ := h
  exact pts_nil.run pins s σ H Q I (k true g H h .refl st)⟩
theorem dts_one {c : Expr} {t : TTd} (h : DT C B X c t) : DTs C B X [c] t := ⟨fun pins s σ H Q I hw => (pts_one h).run pins s σ H Q I hw⟩
theorem de_lc {elt tg iter : Expr} {ifs : List Expr} {scope : Scope} {own : List (Str × Nat)} {pos : Pos} {ti : TId} {t : Tg} {tt : TTd} {te : TEd} (hc : X.calm = true) (hN : X.N.Nodup) (hi : DI C B X tg iter ti) (ok : BlkOk X.N X.env.scope scope own) (hsl : ∀ i ∈ t.slots, i ∈ own.map (·.2))
    (hg : ∀ (s : Shared) (H : Hp) (D : Addr) (cl : List (Str × Addr)) (fp : List Addr), PG (X.blk s H scope (compEnvC scope cl D X.env) fp) tg (t.g C.K)) (ht : ∀ (s : Shared) (H : Hp) (D : Addr) (cl : List (Str × Addr)) (fp : List Addr), DTs C B (X.blk s H scope (compEnvC scope cl D X.env) fp) ifs tt)
    (he : ∀ (s : Shared) (H : Hp) (D : Addr) (cl : List (Str × Addr)) (fp : List Addr), DE C B (X.blk s H scope (compEnvC scope cl D X.env) fp) elt te) (hs : ∀ x, foldedSetIterable iter X.env x = pure x) :
    DE C B X (.ListComp elt [⟨tg, iter, ifs, 0⟩] scope pos) (eLc ti t tt te (own.map (·.2))) := by
  refine peW (pe_lc hc hN hi ok hg ht he hs) fun σ H Q h => ?_
  obtain ⟨g, env, Qd, st, eo, h, k⟩ := h
  refine ⟨g, env, _, st, eo, h, fun J xs g1 H1 q f1 st1 y1 hlen D hD => ?_⟩
  have gD : g1 D = none := st1.1.none_of hD
  refine ⟨fun i m H2 => m = xs.length - i ∧ i ≤ xs.length ∧ ∃ g2 acc vs, Gr g1 H1 g2 H2 ∧ StOk C g2 H2 ∧ g2 D = none ∧ H2 D = some (.lst vs) ∧ RepVs C.K g2 vs acc ∧ acc.length ≤ i ∧ compGo t tt te (wipeE env (own.map (·.2))) Qd XF (xs.drop i) acc,
    ⟨xs.length, by simp, Nat.zero_le _, g1, [], [], .fresh hD, st1.fresh hD, gD, upd_same, .nil, Nat.le_refl _, by simpa using q⟩, ?_⟩
  rintro i m H2 ⟨rfl, hi, g2, acc, vs, f2, st2, gD2, hD2, rv, hl, q2⟩
  obtain ⟨go, stop⟩ := y1 i g2 H2 f2.gm st2
  by_cases hlt : i < xs.length
  · have ed : xs[i]? = some xs[i] := List.getElem?_eq_getElem hlt
    obtain ⟨go, yld⟩ := go _ ed
    rw [List.drop_eq_getElem_cons hlt] at q2
    unfold compGo at q2
    split at q2
    · rename_i env3 e3
      refine .inr ⟨go, fun H' => ∃ g2 acc vs, Gr g1 H1 g2 H' ∧ StOk C g2 H' ∧ g2 D = none ∧ H' D = some (.lst vs) ∧ RepVs C.K g2 vs acc ∧ acc.length ≤ i + 1 ∧ compGo t tt te (wipeE env (own.map (·.2))) Qd XF (xs.drop (i + 1)) acc, fun H' n => ⟨xs.length - (i + 1), by omega, rfl, hlt, n⟩, fun x H3 hy => ?_⟩
      obtain ⟨g3, f3, st3, r3⟩ := yld x H3 hy
      have keepD : ∀ {ga gb : Gh} {Ha Hb : Hp}, Gr ga Ha gb Hb → ga D = none → Ha D = some (.lst vs) → gb D = none ∧ Hb D = some (.lst vs) := fun f n h => ⟨by rw [f.km _ _ h]; exact n, f.hm _ _ h (by rw [n]; exact fun z => by cases z) fun ps z => by cases z⟩
      have ew := ((eo.fr (f1.trans (f2.trans f3))).wipe (own.map (·.2)))
      refine Tg.ok (vs0 := own.map (·.2)) st3 ew r3 e3 hsl fun σ3 eo3 hw => ⟨?_, ?_⟩
      · rw [hw]
        exact wipe_wipe σ _
      · refine ⟨g3, env3, _, st3, eo3, q2, fun b g4 H4 q4 f4 st4 => ?_⟩
        obtain ⟨d1, d2⟩ := keepD (f3.trans f4) gD2 hD2
        cases b with
        | true =>
          rw [if_pos rfl]
          refine ⟨g4, env3, _, st4, eo3.fr f4, q4, fun v H5 ⟨a, g5, q5, f5, st5, r5, n5⟩ => ?_⟩
          try dsimp only at q5
          split at q5
          · rename_i d ed
            obtain ⟨g6, f6, st6, r6, m6⟩ := freeze st4 f5 st5 r5 n5 (sd_st ed)
            obtain ⟨d3, d4⟩ := keepD f6 d1 d2
            have l2 : vs.length = acc.length := Paired.len rv
            refine ⟨vs, d4, by rw [sizeLine_eq]; omega, g6, acc ++ [d], vs ++ [v], ((f2.trans f3).trans (f4.trans f6)).young hD, st6.own d3 d4, d3, upd_same, RepVs.append (RepVs.mono ((f3.trans (f4.trans f6)).gm) rv) (.cons r6 .nil), by simp; omega, q5⟩
          · exact q5.elim
        | false =>
          rw [if_neg (by decide)]
          exact ⟨g4, acc, vs, f2.trans (f3.trans f4), st4, d1, d2, RepVs.mono (f3.trans f4).gm rv, by omega, q4⟩
    · exact q2.elim
  · have e : i = xs.length := by omega
    subst e
    rw [List.drop_length] at q2
    refine .inl ⟨stop rfl, k _ _ ⟨.new acc, g2, q2, f1.trans f2, st2, ⟨D, vs, rfl, gD2, hD2, rv⟩, fun l e => ⟨D, rfl, f1.nm _ hD⟩⟩⟩
where
  wipe_wipe (σ : L2.St) : ∀ vs : List Nat, L2.wipe (L2.wipe σ vs) vs = L2.wipe σ vs := by
    intro vs
    refine List.ext_getElem? fun j => ?_
    by_cases hj : j < σ.length
    · by_cases hm : j ∈ vs
      · rw [wipe_at hj hm, wipe_at (by rw [wipe_length]; exact hj) hm]
      · rw [wipe_out hm]
    · rw [List.getElem?_eq_none (by rw [wipe_length, wipe_length]; omega), List.getElem?_eq_none (by rw [wipe_length]; omega)]
  wipe_at {σ : L2.St} {j : Nat} (hj : j < σ.length) : ∀ {vs : List Nat}, j ∈ vs → (L2.wipe σ vs)[j]? = some none
    | v :: vs, h => by
      unfold L2.wipe
      by_cases e : v = j
      · subst e
        rw [List.getElem?_set_self (by rw [wipe_length]; exact hj)]
      · rw [List.getElem?_set_ne e]
        exact wipe_at hj ((List.mem_cons.mp h).resolve_left (Ne.symm e))
end
end TL
namespace TL
open PySem PySem.Spec PyProof.Rows L2 LamX NdefX

/-! ### isinstance with a built-in type -/
def isD : String → PyData → Option Bool
  | "int", .int _ => some true
  | "int", .bool _ => some true
  | "int", _ => some false
  | "bool", .bool _ => some true
  | "bool", _ => some false
  | "tuple", .tuple _ => some true
  | "tuple", _ => some false
  | "str", .str _ => some true
  | "str", _ => some false
  | "list", .list _ => some true
  | "list", _ => some false
  | _, _ => none
def tyD : PyData → String
  | .none => "NoneType"
  | .bool _ => "bool"
  | .int _ => "int"
  | .str _ => "str"
  | .tuple _ => "tuple"
  | .list _ => "list"
  | .dict _ => "dict"
theorem isD_kit {T : String} {d : PyData} {b : Bool} (h : isD T d = some b) : kitB (tyD d) T = some b := by
  unfold isD at h
  split at h <;> first
    | (cases h; simp only [tyD]; decide +kernel)
    | (cases h; cases d <;> simp only [tyD] <;> first | decide +kernel | (exfalso; simp_all; done))
    | cases h
section
variable {C : CC} {B : Base} {X : Cx} {a : Expr} {ta : TEd} {t : TAd}
theorem RepB.ty {g : Gh} {H : Hp} {v : V} {d : PyData} (r : RepB C.K g H v d) : TyX C.K H v (.type (tyD d)) := by
  cases r with
  | fl h =>
    cases h with
    | non => exact .base .non
    | bl b => exact .base (.bl b)
    | int i => exact .base (.int i)
    | str x => exact .base (.str x)
  | tup r h hv =>
    rcases h with (h | ⟨o, h⟩) | ⟨o, _, _, e, c, _⟩
    · exact .base (.tup h)
    · exact .fTuple h
    · exact .kTuple e c
  | lst h hv =>
    rcases h with (h | ⟨o, h⟩) | ⟨o, _, _, e, c, _⟩
    · exact .base (.lst h)
    · exact .base (.frz h)
    · exact .kList e c
def eIsi (T : String) (te : TEd) : TEd := fun env Q E => te env (fun x => match x.rd with
  | some d => (match isD T d with
    | some b => Q (.dat (.bool b))
    | none => False)
  | none => False) E
theorem de_isi {T : String} {tn : Str} {p p2 pos : Pos} (hK : X.K = C.K) (hg : Gl X "isinstance") (hm : X.mg "isinstance" = none) (hg2 : Gl X tn) (hm2 : X.mg tn = none) (hv2 : bootBuiltins tn = some (.type T)) (hn2 : tn ≠ "__name__") (hd2 : (tn == ("__debug__" : Str)) = false) (ha : DE C B X a ta) (hs : isStar a = false) :
    DE C B X (.Call (.Name "isinstance" p) [a, .Name tn p2] [] pos) (eIsi T ta) := by
  refine peW (pe_callB call_isi hg hm (by decide +kernel) (pa_cons ha (pa_cons (pe_bltn (v := .ty T) hg2 hm2 hv2 rfl hn2 hd2) pa_nil) (star_cons _ _ _ hs)) (by decide) (by decide) (star_cons _ _ _ hs) (noStar _ rfl)) fun σ H Q h => ?_
  obtain ⟨g, env, Qd, st, eo, h, k⟩ := h
  refine ⟨g, env, _, st, eo, h, fun v H1 ⟨x, g1, q, f1, st1, r1, n1⟩ => ?_⟩
  try dsimp only at q
  split at q
  · rename_i d ed
    split at q
    · rename_i b eb
      exact ⟨v, .ty T, .type (tyD d), .type T, b, rfl, .ty T, by rw [hK]; exact (r1.b st1 ed).ty, by rw [hK]; exact kit_ty (isD_kit eb), k _ _ ⟨_, g1, q, f1, st1, .bl b, fun _ z => by cases z⟩⟩
    · exact q.elim
  · exact q.elim
end

/-! ### repr -/
mutual
def calmD : PyData → Bool
  | .none | .bool _ => true
  | .int i => decide (i.natAbs.log2 < 1900)
  | .str x => x.cps.toList.all fun c => decide (c < 4294967296)
  | .list xs | .tuple xs => calmDs xs
  | .dict _ => false
def calmDs : List PyData → Bool
  | [] => true
  | x :: xs => calmD x && calmDs xs
end
mutual
theorem calm_show : ∀ d : PyData, calmD d = true → d.showable = true ∧ d.leavesShort 1930 = true ∧ d.hasDict = false
  | .none, _ => ⟨rfl, rfl, rfl⟩
  | .bool _, _ => ⟨rfl, rfl, rfl⟩
  | .int i, h => by
    have h : i.natAbs.log2 < 1900 := by simpa [calmD] using h
    refine ⟨by simp only [PyData.showable, decide_eq_true_eq]; omega, ?_, by simp only [PyData.hasDict]⟩
    have e : (PyData.shown (.int i)).length ≤ 1901 := by
      have q := int_text_length_le (a := i) (k := 1900) (by decide) h
      simp only [PyData.shown]
      exact Nat.le_trans (Nat.le_of_eq (PySem.ofString_length (toString i))) q
    have e2 : (PyData.shown (.int i)).length ≤ 1930 := Nat.le_trans e (by decide)
    simp only [PyData.leavesShort]
    exact decide_eq_true e2
  | .str x, h => by
    refine ⟨by simp only [PyData.showable], ?_, by simp only [PyData.hasDict]⟩
    simpa only [calmD, PyData.leavesShort] using h
  | .list xs, h => by
    have := calms_show xs (by simpa only [calmD] using h)
    simpa only [PyData.showable, PyData.leavesShort, PyData.hasDict] using this
  | .tuple xs, h => by
    have := calms_show xs (by simpa only [calmD] using h)
    simpa only [PyData.showable, PyData.leavesShort, PyData.hasDict] using this
  | .dict _, h => by simp [calmD] at h
theorem calms_show : ∀ ds : List PyData, calmDs ds = true → PyData.showableAll ds = true ∧ PyData.leavesShortAll 1930 ds = true ∧ PyData.hasDictAll ds = false
  | [], _ => ⟨rfl, rfl, rfl⟩
  | d :: ds, h => by
    simp only [calmDs, Bool.and_eq_true] at h
    obtain ⟨a1, a2, a3⟩ := calm_show d h.1
    obtain ⟨b1, b2, b3⟩ := calms_show ds h.2
    simp only [PyData.showableAll, PyData.leavesShortAll, PyData.hasDictAll, a1, a2, a3, b1, b2, b3]
    exact ⟨rfl, rfl, rfl⟩
end
def okShow (d : PyData) : Bool := calmD d && decide (d.bulk ≤ 8000) && decide (d.depth ≤ 100)
def fRepr : OpN := f1 fun d => if okShow d then some (.dat (.str d.shown)) else none
section
variable {C : CC} {B : Base} {X : Cx}
theorem c_repr (hK : X.K = C.K) (hr : Room 0 X.A) (hgd : X.A.guards = some []) : CallR X (.builtin "repr") (rDN C fRepr) := by
  intro pins s σ H xs us Q I r h
  obtain ⟨g, as, a, st, ra, e, k⟩ := h
  obtain ⟨v, d, rfl, rb, e⟩ := f1_get st ra e
  split at e
  · rename_i ok
    cases e
    simp only [okShow, Bool.and_eq_true, decide_eq_true_eq] at ok
    obtain ⟨⟨ok, h2⟩, h3⟩ := ok
    obtain ⟨z1, z2, z3⟩ := calm_show d ok
    have hsz : d.shown.length ≤ sizeLine := by
      have := PyData.shown_le_bulk 1930 (by decide) d z2
      have h4 : (1930 + 2) * d.bulk ≤ 1932 * 8000 := Nat.mul_le_mul_left _ h2
      rw [sizeLine_eq]
      omega
    obtain ⟨u, rfl, ru⟩ := vals1 r
    have dp := dp_of st.1 _ rb
    rw [← hK] at dp
    obtain ⟨as, rd⟩ := Dp.reads I _ _ _ dp ru
    have hu : X.A.units + (d.depth + 1) < cLine := by have := hr.un; omega
    have fin : ∀ h' u tk, (∀ b o, s.heap.get? b = some o → h'.get? b = some o) → EP X pins σ Q (.str d.shown u) { s with heap := h', toks := tk } := fun h' u tk hk => ⟨.str d.shown, H, I.kept (t' := tk) hk, ⟨_, rfl⟩, k _ _ (.flat st (.str _))⟩
    cases rb with
    | fl h =>
      cases h with
      | non => cases (show u = Value.none from ru); exact P.repr_of_none (by simpa only [PyData.shown] using fin s.heap _ _ fun _ _ z => z)
      | bl b => cases (show u = Value.bool b from ru); exact P.repr_of_bool (by simpa only [PyData.shown] using fin s.heap _ _ fun _ _ z => z)
      | int i =>
        obtain ⟨t, rfl⟩ := (show ∃ t, u = Value.int i t from ru)
        exact P.repr_of_int (by simpa only [PyData.showable, decide_eq_true_eq] using z1) (by simpa only [PyData.shown] using fin s.heap _ _ fun _ _ z => z)
      | str x =>
        obtain ⟨t, rfl⟩ := (show ∃ t, u = Value.str x t from ru)
        exact P.repr_of_str (by simpa only [PyData.shown] using fin s.heap _ _ fun _ _ z => z) (by simpa only [PyData.shown] using hsz)
    | tup r0 h hv =>
      cases ru
      exact repr_of_reads' rd z1 (PyData.noDict_hsm z3) hgd hu (fun _ _ z => z) fin hsz
    | lst h hv =>
      cases ru
      exact repr_of_reads' rd z1 (PyData.noDict_hsm z3) hgd hu (fun _ _ z => z) fin hsz
  · cases e
end
end TL

namespace PySem
open Sem (wp)
set_option maxHeartbeats 1000000 in
theorem meets_enumerate_one {v : Value} {o : Obj} {H : Heap → Prop} (B : Begins v o H) :
    Meets (Builtin.«enumerate.__new__» ⟨[.type "enumerate", v], []⟩) (fun _ R s => H s.heap ∧
      R (.ok (.ret (.ref (s.heap.push o).objs.size))) { s with heap := (s.heap.push o).push { cls := .type "enumerate", data := .fields #[.none, .bool false, .ref s.heap.objs.size, rawInt 0, .none, .none] } }) :=
  .of_wp fun prog w A R s h => by
    obtain ⟨hp, g, d, tk, os⟩ := s
    obtain ⟨h1, h⟩ := h
    have hsub := sub_enumerate
    have q1 : ∀ {A' : Around} {E : Value → Shared → Prop} {Q : Value → Shared → Prop}, Q (.ref hp.objs.size) ⟨hp.push o, g, d, tk, os⟩ → wpAny (model prog w) A' (pyIter v) Q E ⟨hp, g, d, tk, os⟩ := fun q => B.iter prog w _ _ ⟨hp, g, d, tk, os⟩ _ h1 q
    wp_walk using q1
    refine wpAny_stack_any fun st => wpAny_pure ?_
    split
    · rename_i c _ _ _ _ _
      cases (c == Value.type "enumerate") <;> (wp_walk using q1; exact ⟨_, rfl, h⟩)
    · wp_walk using q1
      exact ⟨_, rfl, h⟩
theorem enum_one {prog : Program} {w : World} {A : Around} {E : Value → Shared → Prop} {s : Shared} {v : Value} {o : Obj} {H : Heap → Prop} {Q : Value → Shared → Prop} (B : Begins v o H) (h1 : H s.heap)
    (h : ∀ h', IsEnum h' (s.heap.objs.size + 1) s.heap.objs.size 0 .none → h'.get? s.heap.objs.size = some o → h'.objs.size = s.heap.objs.size + 2 → (∀ b o, s.heap.get? b = some o → h'.get? b = some o) → Q (.ref (s.heap.objs.size + 1)) { s with heap := h' }) :
    wpAny (model prog w) A (call (.type "enumerate") [v]) Q E s := by
  refine callType_new F.called_enumerate (by decide) (F.typeCall_enumerate_1 _) (F.newCall_enumerate_1 _) (fun obj => F.args_object_init_2 obj _) F.entry_enumerate_new (meets_enumerate_one B) ⟨h1, ?_⟩
  have hz : (s.heap.push o).objs.size = s.heap.objs.size + 1 := Heap.size_push ..
  show _ ∧ _
  rw [hz]
  generalize ho2 : ({ cls := .type "enumerate", data := .fields #[.none, .bool false, .ref s.heap.objs.size, rawInt 0, .none, .none] } : Obj) = o2
  have he : ((s.heap.push o).push o2).get? (s.heap.objs.size + 1) = some o2 := by
    have := Heap.get?_push_size (s.heap.push o) (o := o2) (by rw [← ho2]; rfl)
    rw [hz] at this; exact this
  have he2 : IsEnum ((s.heap.push o).push o2) (s.heap.objs.size + 1) s.heap.objs.size 0 .none := by
    unfold IsEnum
    rw [he, ← ho2]
  exact ⟨⟨_, he2, rfl⟩, h _ he2 (Heap.get?_push_of_some _ (Heap.get?_push_size _ B.free)) (by rw [Heap.size_push, hz]) fun b o x => Heap.get?_push_of_some _ (Heap.get?_push_of_some _ x)⟩
end PySem

namespace TL
open PySem PySem.Spec PyProof.Rows L2 LamX NdefX
/-! ### a source that is walked: a list or a tuple -/
inductive Src where
  | l (a : Addr)
  | t (a : Addr)
def Src.a : Src → Addr
  | .l a => a
  | .t a => a
def Src.sq (K : PySem.W.Frag) (H : Hp) : Src → List V → Prop
  | .l a, xs => SqL K H a xs
  | .t a, xs => SqT K H a xs
def Src.its (h : Heap) : Src → Array Value → Prop
  | .l a, xs => h.IsList a xs
  | .t a, xs => h.IsTuple a xs
def Src.at_ (h : Heap) : Src → Addr → Nat → Prop
  | .l a, it, i => h.IsListIter it a i
  | .t a, it, i => h.IsTupleIter it a i
def Src.o : Src → Obj
  | .l a => { cls := .type "list_iterator", data := .fields #[.ref a, .int 0 0] }
  | .t a => { cls := .type "tuple_iterator", data := .fields #[.ref a, .int 0 0] }
theorem Src.draws {prog : Program} {w : World} {A : Around} (S : Src) (hh : A.handled = none) (it : Addr) (hne : S.a ≠ it) (items : Array Value) :
    Draws prog w A it [it, S.a] items.size (fun i v => items[i]? = some v) (fun i h => S.at_ h it i ∧ S.its h items) := by
  cases S with
  | l a => exact .list hh it a hne items
  | t a => exact .tuple hh it a hne items
theorem Src.begins (S : Src) (items : Array Value) : Begins (.ref S.a) S.o fun h => S.its h items := by
  cases S with
  | l a => exact begins_list a items
  | t a => exact begins_tuple a items
theorem Src.start {h : Heap} {S : Src} {it : Addr} (e : h.get? it = some S.o) : S.at_ h it 0 := by
  cases S with
  | l a => exact ⟨_, e, rfl, rfl⟩
  | t a => exact ⟨_, e, rfl, rfl⟩
theorem Src.keep {h h' : Heap} {S : Src} {it : Addr} {i : Nat} (q : S.at_ h it i) (k : ∀ o, h.get? it = some o → h'.get? it = some o) : S.at_ h' it i := by
  cases S with
  | l a => exact Heap.IsListIter.at q k
  | t a => exact Heap.IsTupleIter.at q k
theorem Src.obj {h : Heap} {S : Src} {it : Addr} {i : Nat} (q : S.at_ h it i) : ∃ o, h.get? it = some o ∧ (∀ v, o.data ≠ .cell v) ∧ o.cls = S.o.cls := by
  cases S with
  | l a => obtain ⟨o, ho, hc, hd⟩ := q; exact ⟨o, ho, fun v q => by rw [hd] at q; (cases q), hc⟩
  | t a => obtain ⟨o, ho, hc, hd⟩ := q; exact ⟨o, ho, fun v q => by rw [hd] at q; (cases q), hc⟩
theorem Src.itsObj {h : Heap} {S : Src} {its : Array Value} (q : S.its h its) : ∃ o, h.get? S.a = some o ∧ (o.cls = .type "list" ∨ o.cls = .type "tuple") := by
  cases S with
  | l a => obtain ⟨o, ho, hc, _⟩ := q; exact ⟨o, ho, .inl hc⟩
  | t a => obtain ⟨o, ho, hc, _⟩ := q; exact ⟨o, ho, .inr hc⟩
theorem Src.get {X : Cx} {pins σ H s} {S : Src} {xs : List V} (I : L2.Inv X pins σ H s) (h : S.sq X.K H xs) : ∃ its, Vals xs its ∧ S.its s.heap its.toArray ∧ its.length ≤ sizeLine := by
  cases S with
  | l a => obtain ⟨its, rv, p, hz⟩ := I.list h; exact ⟨its, rv, p.isList, by rw [← rv.length]; exact hz⟩
  | t a => obtain ⟨its, rv, p, hz⟩ := I.tuple h; exact ⟨its, rv, p, by rw [← rv.length]; exact hz⟩
theorem Src.inj {X : Cx} {pins σ H s} {S : Src} {xs ys : List V} (I : L2.Inv X pins σ H s) (h : S.sq X.K H xs) (h' : S.sq X.K H ys) : xs = ys := by
  cases S with
  | l a => exact I.list_inj h h'
  | t a => exact I.tuple_inj h h'
/-- the sources as they stand at each turn, the items in a new tuple, behind the turn's number if idx -/
def ItG (K : PySem.W.Frag) (idx : Bool) (Ss : List Src) : It :=
  ⟨fun i H => ∀ S ∈ Ss, ∃ xs v, S.sq K H xs ∧ xs[i]? = some v,
    fun i H v H' => ∃ T vs, v = .ref T ∧ H T = none ∧ H' = upd H T (.tup (if idx = true then .int (i : Nat) :: vs else vs)) ∧ Paired (fun S v => ∀ xs, S.sq K H xs → xs[i]? = some v) Ss vs,
    fun i H => (∀ S ∈ Ss, ∃ xs, S.sq K H xs ∧ i ≤ xs.length) ∧ ∃ S ∈ Ss, ∃ xs, S.sq K H xs ∧ xs.length = i⟩
section
variable {P : Program} {w : World} {K : PySem.W.Frag} {elts : List Expr} {kk : Nat} {tpos : Pos}
theorem new_tup {X : Cx} {pins σ s} {H : Hp} (I : L2.Inv X pins σ H s) {ch : List Addr} {h' : Heap} {T : Addr} {tk : Nat} {vs : List V} {us : Array Value} (hk : ∀ b o, b ∉ ch → s.heap.get? b = some o → h'.get? b = some o) (hf : ∀ b ∈ ch, FpOk X pins H b) (hT : s.heap.objs.size ≤ T) (ht : h'.IsTuple T us) (rv : Vals vs us.toList) (hz : vs.length ≤ sizeLine) :
    L2.Inv X pins σ (upd H T (.tup vs)) { s with heap := h', toks := tk } := by
  obtain ⟨o, a1, a2, n, a3⟩ := ht
  exact I.turnedNew hk hf hT ⟨hz, us.toList, rv, ⟨o, a1, a2, n, by simpa using a3⟩⟩
theorem turn_enumS (S : Src) (e it : Addr) (hea : e ≠ S.a) (hia : it ≠ S.a) :
    Turn P w K (.Tuple elts kk tpos) (ItG K true [S]) [e, it] e (fun i h => (∃ old, IsEnum h e it ((i : Nat) : Int) old) ∧ S.at_ h it i ∧ e ≠ it) where
  mem := by simp
  obj := fun i h st b hb => by
    obtain ⟨⟨old, he⟩, hi, _⟩ := st
    have e' : b = e ∨ b = it := by simpa using hb
    rcases e' with z | z
    · rw [z]; exact ⟨_, he, fun v q => nomatch q⟩
    · rw [z]; obtain ⟨o, ho, hv, _⟩ := Src.obj hi; exact ⟨o, ho, hv⟩
  keep := fun i h h' st k => let ⟨⟨old, he⟩, hi, hne⟩ := st; ⟨⟨old, k e (by simp) _ he⟩, Src.keep hi fun o q => k it (by simp) o q, hne⟩
  item := by
    intro X hP hw hK hc i pins s σ H E I hf st hg
    subst hP hw hK
    obtain ⟨he, hit, hne⟩ := st
    obtain ⟨xs, x, hq, hx⟩ := hg S (List.mem_singleton.mpr rfl)
    obtain ⟨its, rv, p, hz⟩ := Src.get I hq
    have hlt : i < its.toArray.size := by
      have := (List.getElem?_eq_some_iff.mp hx).1
      rw [List.size_toArray, ← rv.length]; exact this
    have G := GoesN.enumFrom (prog := X.prog) (w := X.w) (elts := elts) (x1 := kk) (pos := tpos) 0 (S.draws (A := X.A.in1) (prog := X.prog) (w := X.w) (I.ok.hd hc) it (Ne.symm hia) its.toArray) e hne (by simp; exact ⟨hne, hea⟩) (by simp)
    refine wpAny_mono (G.goes i s (fun v s2 => ∃ x H', L2.Inv X pins σ H' s2 ∧ L2.RelV x v ∧ (ItG X.K true [S]).yld i H x H' ∧ ((∃ old, IsEnum s2.heap e it (((i + 1 : Nat) : Nat) : Int) old) ∧ S.at_ s2.heap it (i + 1) ∧ e ≠ it) ∧ ∀ b ∈ [e, it], H' b = none) E hlt ⟨by simpa using he, hit, p⟩ fun v h' tk hY st' hk htk => ?_) (fun r s1 h => h) fun _ _ z => z
    obtain ⟨T, t, u, ev, hT, hu, ht⟩ := hY
    obtain ⟨st1, st2, st3⟩ := st'
    obtain ⟨u0, hu0, ru⟩ := rv.get hx
    have : u = u0 := by
      rw [List.getElem?_toArray] at hu
      exact Option.some.inj (hu.symm.trans hu0)
    subst this
    have hk' : ∀ b o, b ∉ [e, it] → s.heap.get? b = some o → h'.get? b = some o := hk
    have I1 := new_tup (tk := tk) (vs := [.int (i : Nat), x]) I hk' hf hT ht (.cons ⟨t, by simp⟩ (.cons ru .nil)) (by show 2 ≤ sizeLine; decide)
    have lt : ∀ b ∈ [e, it], b < s.heap.objs.size := fun b hb => by
      have e' : b = e ∨ b = it := by simpa using hb
      rcases e' with z | z
      · obtain ⟨_, q⟩ := he; rw [z]; exact Heap.lt_size q
      · obtain ⟨o, q, _⟩ := Src.obj hit; rw [z]; exact Heap.lt_size q
    refine ⟨.ref T, _, I1, by rw [ev]; rfl, ⟨T, [x], rfl, I.hok.fresh hT, rfl, .cons (fun ys hy => by rw [Src.inj I hy hq]; exact hx) .nil⟩, ⟨by simpa using st1, st2, hne⟩, fun b hb => ?_⟩
    rw [upd_ne (Nat.ne_of_lt (Nat.lt_of_lt_of_le (lt b hb) hT))]
    exact (hf b hb).1
  done := by
    intro X hP hw hK hc i pins s σ H E I hf st hg
    subst hP hw hK
    obtain ⟨he, hit, hne⟩ := st
    obtain ⟨_, S', hS, xs, hq, hx⟩ := hg
    rw [List.mem_singleton.mp hS] at hq
    obtain ⟨its, rv, p, hz⟩ := Src.get I hq
    have hlen : i = its.toArray.size := by rw [List.size_toArray, ← rv.length, hx]
    have G := GoesN.enumFrom (prog := X.prog) (w := X.w) (elts := elts) (x1 := kk) (pos := tpos) 0 (S.draws (A := X.A.in1) (prog := X.prog) (w := X.w) (I.ok.hd hc) it (Ne.symm hia) its.toArray) e hne (by simp; exact ⟨hne, hea⟩) (by simp)
    refine wpAny_mono (G.stops s (fun s' => L2.Inv X pins σ H s') E (by rw [← hlen]; exact ⟨by simpa using he, hit, p⟩) fun h' tk hk htk => ?_) (fun r s1 h => h) fun _ _ z => z
    exact I.turnedL (ch := [e, it]) hk hf
  self := fun A i s Q E st h => let ⟨⟨_, he⟩, _⟩ := st; wpAny_pyIter_enum he h
theorem zip_sep {N : Nat} {a b : Nat} (ha : a < N) (hb : b < N) : ZipSep2 (N + 4) (N + 2) (N + 3) N (N + 1) [N, a] [N + 1, b] := by
  have ni : ∀ x y z : Nat, x ≠ y → x ≠ z → x ∉ [y, z] := fun x y z h1 h2 h => by simp at h; exact h.elim h1 h2
  exact ⟨(by omega : N + 2 ≠ N + 4), (by omega : N + 3 ≠ N + 4), (by omega : N + 2 ≠ N + 3), (by omega : N + 2 ≠ N), List.mem_cons_self .., ni _ _ _ (by omega) (by omega), ni _ _ _ (by omega) (by omega), (by omega : N + 2 ≠ N + 1), List.mem_cons_self .., ni _ _ _ (by omega) (by omega), ni _ _ _ (by omega) (by omega), ni _ _ _ (by omega) (by omega), ni _ _ _ (by omega) (by omega)⟩
theorem in5_lt {N m b : Nat} (h : N + 4 < m) (hb : b ∈ [N + 4, N + 2, N + 3, N, N + 1]) : b < m := by
  simp at hb
  omega
theorem in5_le {N b : Nat} (hb : b ∈ [N + 4, N + 2, N + 3, N, N + 1]) : N ≤ b := by
  simp at hb
  omega
theorem in5_sub {N b : Nat} (hb : b ∈ [N + 4, N + 3, N, N + 1]) : b ∈ [N + 4, N + 2, N + 3, N, N + 1] := by
  simp at hb ⊢
  omega
theorem in2_le {N b : Nat} (hb : b ∈ [N + 1, N]) : N ≤ b := by
  simp at hb
  omega
theorem lt_ne {a N : Nat} (h : a < N) : a ≠ N + 1 ∧ N + 1 ≠ a ∧ N ≠ a := by omega
theorem turn_zipS (S1 S2 : Src) (N : Nat) (h1 : S1.a < N) (h2 : S2.a < N) :
    Turn P w K (.Tuple elts kk tpos) (ItG K false [S1, S2]) [N + 4, N + 2, N + 3, N, N + 1] (N + 4) (fun i h => IsZip h (N + 4) (N + 2) (N + 3) .none ∧ IsTupOf2 h (N + 2) (.ref N) (.ref (N + 1)) ∧ (∃ a1 a2, IsTupOf2 h (N + 3) a1 a2) ∧ S1.at_ h N i ∧ S2.at_ h (N + 1) i) where
  mem := by simp
  obj := fun i h st b hb => by
    obtain ⟨hz, hTI, ⟨a1, a2, hTO⟩, q1, q2⟩ := st
    simp only [List.mem_cons, List.not_mem_nil, or_false] at hb
    rcases hb with z | z | z | z | z
    · rw [z]; exact ⟨_, hz, fun v q => nomatch q⟩
    · rw [z]; exact ⟨_, hTI, fun v q => nomatch q⟩
    · rw [z]; exact ⟨_, hTO, fun v q => nomatch q⟩
    · rw [z]; obtain ⟨o, ho, hv, _⟩ := Src.obj q1; exact ⟨o, ho, hv⟩
    · rw [z]; obtain ⟨o, ho, hv, _⟩ := Src.obj q2; exact ⟨o, ho, hv⟩
  keep := fun i h h' st k => let ⟨hz, hTI, ⟨a1, a2, hTO⟩, q1, q2⟩ := st; ⟨k _ (by simp) _ hz, k _ (by simp) _ hTI, ⟨a1, a2, k _ (by simp) _ hTO⟩, Src.keep q1 fun o q => k _ (by simp) o q, Src.keep q2 fun o q => k _ (by simp) o q⟩
  item := by
    intro X hP hw hK hc i pins s σ H E I hf st hg
    subst hP hw hK
    obtain ⟨hz, hTI, hTO, q1, q2⟩ := st
    obtain ⟨xs, x, hq, hx⟩ := hg S1 (by simp)
    obtain ⟨ys, y, hr, hy⟩ := hg S2 (by simp)
    obtain ⟨its, rv, p, hz1⟩ := Src.get I hq
    obtain ⟨its2, rv2, p2, hz2⟩ := Src.get I hr
    have l1 : i < its.toArray.size := by
      have := (List.getElem?_eq_some_iff.mp hx).1
      rw [List.size_toArray, ← rv.length]; exact this
    have l2 : i < its2.toArray.size := by
      have := (List.getElem?_eq_some_iff.mp hy).1
      rw [List.size_toArray, ← rv2.length]; exact this
    have G := GoesN.zip2 (prog := X.prog) (w := X.w) (elts := elts) (x1 := kk) (pos := tpos) (zip_sep h1 h2) (S1.draws (A := X.A.in1) (prog := X.prog) (w := X.w) (I.ok.hd hc) N (Nat.ne_of_lt h1) its.toArray) (S2.draws (A := X.A.in1) (prog := X.prog) (w := X.w) (I.ok.hd hc) (N + 1) (lt_ne h2).1 its2.toArray)
    refine wpAny_mono (G.goes i s (fun v s2 => ∃ x H', L2.Inv X pins σ H' s2 ∧ L2.RelV x v ∧ (ItG X.K false [S1, S2]).yld i H x H' ∧ (IsZip s2.heap (N + 4) (N + 2) (N + 3) .none ∧ IsTupOf2 s2.heap (N + 2) (.ref N) (.ref (N + 1)) ∧ (∃ a1 a2, IsTupOf2 s2.heap (N + 3) a1 a2) ∧ S1.at_ s2.heap N (i + 1) ∧ S2.at_ s2.heap (N + 1) (i + 1)) ∧ ∀ b ∈ [N + 4, N + 2, N + 3, N, N + 1], H' b = none) E (by omega) ⟨hz, hTI, hTO, ⟨q1, p⟩, ⟨q2, p2⟩⟩ fun v h' tk hY st' hk htk => ?_) (fun r s1 h => h) fun _ _ z => z
    obtain ⟨T, u, u', ev, hT, hu, hu', ht⟩ := hY
    obtain ⟨st1, st2, st3, st4, st5⟩ := st'
    obtain ⟨u0, hu0, ru⟩ := rv.get hx
    obtain ⟨u1, hu1, ru'⟩ := rv2.get hy
    have e1 : u = u0 := by
      rw [List.getElem?_toArray] at hu
      exact Option.some.inj (hu.symm.trans hu0)
    have e2 : u' = u1 := by
      rw [List.getElem?_toArray] at hu'
      exact Option.some.inj (hu'.symm.trans hu1)
    subst e1 e2
    have hk' : ∀ b o, b ∉ [N + 4, N + 2, N + 3, N, N + 1] → s.heap.get? b = some o → h'.get? b = some o := fun b o hb => hk b o fun z => hb (in5_sub z)
    have I1 := new_tup (tk := tk) (vs := [x, y]) I hk' hf hT ht (.cons ru (.cons ru' .nil)) (by show 2 ≤ sizeLine; decide)
    have lt : ∀ b ∈ [N + 4, N + 2, N + 3, N, N + 1], b < s.heap.objs.size := fun b hb => by
      exact in5_lt (Heap.lt_size hz) hb
    refine ⟨.ref T, _, I1, by rw [ev]; rfl, ⟨T, [x, y], rfl, I.hok.fresh hT, rfl, .cons (fun l hl => by rw [Src.inj I hl hq]; exact hx) (.cons (fun l hl => by rw [Src.inj I hl hr]; exact hy) .nil)⟩, ⟨st1, st2, st3, st4.1, st5.1⟩, fun b hb => ?_⟩
    rw [upd_ne (Nat.ne_of_lt (Nat.lt_of_lt_of_le (lt b hb) hT))]
    exact (hf b hb).1
  done := by
    intro X hP hw hK hc i pins s σ H E I hf st hg
    subst hP hw hK
    obtain ⟨hz, hTI, hTO, q1, q2⟩ := st
    obtain ⟨hall, S', hS, zs, hqz, hxz⟩ := hg
    obtain ⟨xs, hq, hx⟩ := hall S1 (by simp)
    obtain ⟨ys, hr, hy⟩ := hall S2 (by simp)
    obtain ⟨its, rv, p, hz1⟩ := Src.get I hq
    obtain ⟨its2, rv2, p2, hz2⟩ := Src.get I hr
    have hmin : i = min its.toArray.size its2.toArray.size := by
      rw [List.size_toArray, List.size_toArray, ← rv.length, ← rv2.length]
      simp only [List.mem_cons, List.not_mem_nil, or_false] at hS
      rcases hS with z | z
      · rw [z] at hqz; rw [Src.inj I hqz hq] at hxz; omega
      · rw [z] at hqz; rw [Src.inj I hqz hr] at hxz; omega
    have G := GoesN.zip2 (prog := X.prog) (w := X.w) (elts := elts) (x1 := kk) (pos := tpos) (zip_sep h1 h2) (S1.draws (A := X.A.in1) (prog := X.prog) (w := X.w) (I.ok.hd hc) N (Nat.ne_of_lt h1) its.toArray) (S2.draws (A := X.A.in1) (prog := X.prog) (w := X.w) (I.ok.hd hc) (N + 1) (lt_ne h2).1 its2.toArray)
    refine wpAny_mono (G.stops s (fun s' => L2.Inv X pins σ H s') E (by rw [← hmin]; exact ⟨hz, hTI, hTO, ⟨q1, p⟩, ⟨q2, p2⟩⟩) fun h' tk hk htk => ?_) (fun r s1 h => h) fun _ _ z => z
    exact I.turnedL (ch := [N + 4, N + 2, N + 3, N, N + 1]) (fun b o hb => hk b o fun z => hb (in5_sub z)) hf
  self := fun A i s Q E st h => wpAny_pyIter_zip st.1 h
end

/-! ### the readings -/
def enumD : Nat → List PyData → List PyData
  | _, [] => []
  | i, d :: ds => .tuple [.int (i : Nat), d] :: enumD (i + 1) ds
def zip2D : List PyData → List PyData → List PyData
  | a :: as, b :: bs => .tuple [a, b] :: zip2D as bs
  | _, _ => []
theorem enumD_get : ∀ (l : List PyData) (k i : Nat), (enumD k l)[i]? = (l[i]?).map fun d => .tuple [.int ((k + i : Nat) : Int), d]
  | [], _, _ => by simp [enumD]
  | d :: ds, k, 0 => by simp [enumD]
  | d :: ds, k, i + 1 => by
    have := enumD_get ds (k + 1) i
    simp only [enumD, List.getElem?_cons_succ, this]
    rw [show k + 1 + i = k + (i + 1) by omega]
theorem enumD_len : ∀ (l : List PyData) (k : Nat), (enumD k l).length = l.length
  | [], _ => rfl
  | d :: ds, k => congrArg (· + 1) (enumD_len ds (k + 1))
theorem zip2D_get : ∀ (l m : List PyData) (i : Nat) (d : PyData), (zip2D l m)[i]? = some d → ∃ a b, l[i]? = some a ∧ m[i]? = some b ∧ d = .tuple [a, b]
  | [], _, _, _, h => by simp [zip2D] at h
  | _ :: _, [], _, _, h => by simp [zip2D] at h
  | a :: as, b :: bs, 0, d, h => by simp [zip2D] at h; exact ⟨a, b, rfl, rfl, h.symm⟩
  | a :: as, b :: bs, i + 1, d, h => by
    simp only [zip2D, List.getElem?_cons_succ] at h
    simpa using zip2D_get as bs i d h
theorem zip2D_len : ∀ (l m : List PyData), (zip2D l m).length = min l.length m.length
  | [], _ => by simp [zip2D]
  | _ :: _, [] => by simp [zip2D]
  | a :: as, b :: bs => by
    have := zip2D_len as bs
    simp only [zip2D, List.length_cons, this]
    omega
/-- a source that holds these data from now on -/
def SrcNow (C : CC) (g0 : Gh) (S : Src) (l : List PyData) : Prop := ∀ g H, (∀ a u, g0 a = some u → g a = some u) → StOk C g H → ∃ vs, S.sq C.K H vs ∧ RepVs C.K g vs l
def seqV (d : PyData) : Option (List PyData) := match d with
  | .list l => some l
  | .tuple l => some l
  | _ => none
theorem src_now {C : CC} {g0 : Gh} {v : V} {d : PyData} {l : List PyData} (r : RepV C.K g0 v d) (e : seqV d = some l) : ∃ S : Src, v = .ref S.a ∧ SrcNow C g0 S l := by
  cases d with
  | list l' => cases e; obtain ⟨p, ev, now⟩ := lst_now (C := C) r fun _ _ => trivial; exact ⟨.l p, ev, now⟩
  | tuple l' => cases e; obtain ⟨p, ev, now⟩ := tup_now (C := C) r; exact ⟨.t p, ev, now⟩
  | _ => cases e
def iEnum (t : TAd) : TId := fun env Q E => t env (fun as => match as with
  | [.dat d] => (match seqV d with
    | some l => Q (enumD 0 l)
    | none => False)
  | _ => False) E
def iZip2 (t : TAd) : TId := fun env Q E => t env (fun as => match as with
  | [.dat d, .dat d'] => (match seqV d, seqV d' with
    | some l, some m => Q (zip2D l m)
    | _, _ => False)
  | _ => False) E
section
variable {C : CC} {B : Base} {X : Cx} {a b : Expr} {ta : TEd} {t : TAd} {elts : List Expr} {kk : Nat} {p pos tpos : Pos}
theorem tup_new {g : Gh} {H : Hp} {T : Addr} {vs : List V} {ds : List PyData} (st : StOk C g H) (hT : H T = none) (rv : RepVs C.K g vs ds) : ∃ g', Gr g H g' (upd H T (.tup vs)) ∧ StOk C g' (upd H T (.tup vs)) ∧ RepV C.K g' (.ref T) (.tuple ds) := by
  have f := Gr.gfresh (o := .tup vs) (u := .dat (.tuple ds)) st.1 hT
  exact ⟨_, f, ⟨st.1.gfresh hT ⟨vs, .inl upd_same, RepVs.mono f.gm rv⟩, Tbs.fresh st.2 hT⟩, .ref gup_same⟩
theorem ylds_enum {g0 : Gh} {S : Src} {l : List PyData} (now : SrcNow C g0 S l) : Ylds C g0 (ItG C.K true [S]) (enumD 0 l) := fun i g H m st => by
  obtain ⟨vs, h, q⟩ := now g H m st
  refine ⟨fun d e => ?_, fun e => ⟨fun S' hS => ?_, S, by simp, vs, h, ?_⟩⟩
  · rw [enumD_get] at e
    cases hd : l[i]? with
    | none => rw [hd] at e; cases e
    | some d0 =>
      rw [hd] at e
      cases e
      obtain ⟨v, ev, rv⟩ := q.get hd
      refine ⟨fun S' hS => ?_, fun x H' y => ?_⟩
      · rw [List.mem_singleton.mp hS]; exact ⟨vs, v, h, ev⟩
      · obtain ⟨T, ws, rfl, hT, rfl, pr⟩ := y
        cases pr with
        | cons p1 p2 =>
          cases p2
          have e2 := Option.some.inj (ev.symm.trans (p1 vs h))
          subst e2
          rw [if_pos rfl, Nat.zero_add]
          exact tup_new st hT (.cons (.int _) (.cons rv .nil))
  · rw [List.mem_singleton.mp hS]
    exact ⟨vs, h, by rw [e, enumD_len, Paired.len q]; exact Nat.le_refl _⟩
  · rw [e, enumD_len, Paired.len q]
theorem ylds_zip {g0 : Gh} {S S' : Src} {l m : List PyData} (now : SrcNow C g0 S l) (now' : SrcNow C g0 S' m) : Ylds C g0 (ItG C.K false [S, S']) (zip2D l m) := fun i g H mm st => by
  obtain ⟨vs, h, q⟩ := now g H mm st
  obtain ⟨vs', h', q'⟩ := now' g H mm st
  refine ⟨fun d e => ?_, fun e => ?_⟩
  · obtain ⟨d1, d2, e1, e2, rfl⟩ := zip2D_get _ _ _ _ e
    obtain ⟨v, ev, rv⟩ := q.get e1
    obtain ⟨v', ev', rv'⟩ := q'.get e2
    refine ⟨fun S' hS => ?_, fun x H' y => ?_⟩
    · simp only [List.mem_cons, List.not_mem_nil, or_false] at hS
      rcases hS with z | z
      · rw [z]; exact ⟨vs, v, h, ev⟩
      · rw [z]; exact ⟨vs', v', h', ev'⟩
    · obtain ⟨T, ws, rfl, hT, rfl, pr⟩ := y
      cases pr with
      | cons p1 p2 =>
        cases p2 with
        | cons p2 p3 =>
          cases p3
          have e2 := Option.some.inj (ev.symm.trans (p1 vs h))
          have e3 := Option.some.inj (ev'.symm.trans (p2 vs' h'))
          subst e2 e3
          rw [if_neg (by decide)]
          exact tup_new st hT (.cons rv (.cons rv' .nil))
  · rw [zip2D_len] at e
    have l1 := Paired.len q
    have l2 := Paired.len q'
    refine ⟨fun S0 hS => ?_, ?_⟩
    · simp only [List.mem_cons, List.not_mem_nil, or_false] at hS
      rcases hS with z | z
      · rw [z]; exact ⟨vs, h, by omega⟩
      · rw [z]; exact ⟨vs', h', by omega⟩
    · by_cases z : vs.length = i
      · exact ⟨S, by simp, vs, h, z⟩
      · exact ⟨S', by simp, vs', h', by omega⟩
theorem Src.lenQ {S : Src} {H : Hp} {vs : List V} {pins σ s} (I : L2.Inv X pins σ H s) (h : S.sq X.K H vs) : vs.length ≤ 16777216 := by
  cases S with
  | l a => exact SqL.lenQ I h
  | t a => exact SqT.lenQ I h
theorem Src.lt {S : Src} {H : Hp} {vs : List V} {pins σ s} (I : L2.Inv X pins σ H s) (h : S.sq X.K H vs) : S.a < s.heap.objs.size := by
  obtain ⟨its, _, p, _⟩ := Src.get I h
  obtain ⟨o, q, _⟩ := Src.itsObj p
  exact Heap.lt_size q
theorem di_enum (hK : X.K = C.K) (hg : Gl X "enumerate") (hm : X.mg "enumerate" = none) (ha : DA C B X [a] t) (hs : isStar a = false) : DI C B X (.Tuple elts kk tpos) (.Call (.Name "enumerate" p) [a] [] pos) (iEnum t) := by
  refine ⟨fun pins s σ H R I h => ?_⟩
  obtain ⟨g, env, Qd, st, eo, h, k⟩ := h
  refine Call_ (ld_blt I hg hm boot_enumerate (PyProof.Rows.callWith_type1 (thn (ha.run pos pins s σ H (fun vs H1 => ∃ d l g1 v, vs = [v] ∧ seqV d = some l ∧ Qd (enumD 0 l) ∧ Gr g H g1 H1 ∧ StOk C g1 H1 ∧ RepV C.K g1 v d) I ⟨g, env, _, st, eo, h, ?_⟩) fun us s1 ⟨vs, H1, I1, r1, q1⟩ => ?_) (star_cons _ _ _ hs) rfl))
  · intro vs as g1 H1 q f1 st1 r1
    try dsimp only at q
    split at q
    · rename_i d
      split at q
      · rename_i l e
        cases r1 with
        | cons r1 r2 =>
          cases r2
          exact ⟨d, l, g1, _, rfl, e, q, f1, st1, r1⟩
      · exact q.elim
    · exact q.elim
  · obtain ⟨d, l, g1, v, rfl, e, q, f1, st1, rv⟩ := q1
    obtain ⟨S, rfl, now⟩ := src_now rv e
    obtain ⟨vs, hsq, rvs⟩ := now g1 H1 (fun _ _ h => h) st1
    rw [← hK] at hsq
    obtain ⟨u, rfl, ru⟩ := vals1 r1
    cases ru
    obtain ⟨its, rv2, p2, _⟩ := Src.get I1 hsq
    have lt := Src.lt I1 hsq
    refine enum_one (S.begins its.toArray) p2 fun h' he hit hsz hk => wpAny_pyIter_enum he ?_
    have I2 : L2.Inv X pins σ H1 { s1 with heap := h' } := I1.kept (t' := s1.toks) hk
    refine ⟨s1.heap.objs.size + 1, [s1.heap.objs.size + 1, s1.heap.objs.size], _, _, H1, rfl, I2, turn_enumS S (s1.heap.objs.size + 1) s1.heap.objs.size (lt_ne lt).2.1 (lt_ne lt).2.2, ⟨⟨.none, he⟩, Src.start hit, Nat.succ_ne_self _⟩, fun b hb => ?_, k _ _ g1 H1 q f1 st1 (by rw [hK]; exact ylds_enum now) ?_⟩
    · have hle : s1.heap.objs.size ≤ b := in2_le hb
      exact I1.fpOk hle (I1.hok.fresh hle)
    · rw [enumD_len, ← Paired.len rvs]
      exact Src.lenQ I1 hsq
theorem di_zip (hK : X.K = C.K) (hg : Gl X "zip") (hm : X.mg "zip" = none) (ha : DA C B X [a, b] t) (hs : isStar a = false) (hs2 : isStar b = false) : DI C B X (.Tuple elts kk tpos) (.Call (.Name "zip" p) [a, b] [] pos) (iZip2 t) := by
  refine ⟨fun pins s σ H R I h => ?_⟩
  obtain ⟨g, env, Qd, st, eo, h, k⟩ := h
  refine Call_ (ld_blt I hg hm PyProof.Rows.boot_zip (PyProof.Rows.callWith_type1 (thn (ha.run pos pins s σ H (fun vs H1 => ∃ d d' l m g1 v v', vs = [v, v'] ∧ seqV d = some l ∧ seqV d' = some m ∧ Qd (zip2D l m) ∧ Gr g H g1 H1 ∧ StOk C g1 H1 ∧ RepV C.K g1 v d ∧ RepV C.K g1 v' d') I ⟨g, env, _, st, eo, h, ?_⟩) fun us s1 ⟨vs, H1, I1, r1, q1⟩ => ?_) (star_cons _ _ _ hs) (noStar _ (by simp [hs2]))))
  · intro vs as g1 H1 q f1 st1 r1
    try dsimp only at q
    split at q
    · rename_i d d'
      split at q
      · rename_i l m e1 e2
        cases r1 with
        | cons r1 r2 =>
          cases r2 with
          | cons r2 r3 =>
            cases r3
            exact ⟨d, d', l, m, g1, _, _, rfl, e1, e2, q, f1, st1, r1, r2⟩
      · exact q.elim
    · exact q.elim
  · obtain ⟨d, d', l, m, g1, v, v', rfl, e, e', q, f1, st1, rv, rv'⟩ := q1
    obtain ⟨S, rfl, now⟩ := src_now rv e
    obtain ⟨S', rfl, now'⟩ := src_now rv' e'
    obtain ⟨vs, hsq, rvs⟩ := now g1 H1 (fun _ _ h => h) st1
    obtain ⟨vs', hsq', rvs'⟩ := now' g1 H1 (fun _ _ h => h) st1
    rw [← hK] at hsq hsq'
    obtain ⟨u, u', rfl, ru, ru'⟩ := vals2 r1
    cases ru
    cases ru'
    obtain ⟨its, rv2, p2, _⟩ := Src.get I1 hsq
    obtain ⟨its', rv2', p2', _⟩ := Src.get I1 hsq'
    have lt := Src.lt I1 hsq
    have lt' := Src.lt I1 hsq'
    refine zip_begins2 (S.begins its.toArray) (S'.begins its'.toArray) p2 p2' fun h' hz hTI hTO h1 h2 hsz hk => wpAny_pyIter_zip hz ?_
    have I2 : L2.Inv X pins σ H1 { s1 with heap := h' } := I1.kept (t' := s1.toks) hk
    refine ⟨s1.heap.objs.size + 4, [s1.heap.objs.size + 4, s1.heap.objs.size + 2, s1.heap.objs.size + 3, s1.heap.objs.size, s1.heap.objs.size + 1], _, _, H1, rfl, I2, turn_zipS S S' s1.heap.objs.size lt lt', ⟨hz, hTI, ⟨_, _, hTO⟩, Src.start h1, Src.start h2⟩, fun b hb => ?_, k _ _ g1 H1 q f1 st1 (by rw [hK]; exact ylds_zip now now') ?_⟩
    · have hle : s1.heap.objs.size ≤ b := in5_le hb
      exact I1.fpOk hle (I1.hok.fresh hle)
    · have := Src.lenQ I1 hsq
      rw [zip2D_len, ← Paired.len rvs]
      omega
end
end TL
namespace TL
open PySem PySem.Spec PyProof.Rows L2 LamX NdefX

/-! ### what a context is known by -/
structure FX (C : CC) (N : List Str) (sc : Scope) (k : Nat) (X : Cx) : Prop where
  xo : XOk C X
  N : X.N = N
  sc : X.env.scope = sc
  room : Room k X.A
/-- .. a def's body (pos: where its lambdas' tables stand) -/
structure BX (C : CC) (N : List Str) (q : Str) (sc : Scope) (k : Nat) (X : Cx) : Prop extends FX C N sc k X where
  fn : ∀ y, X.fn y = true
  pas : PassesOwn (model X.prog X.w) X.A X.env X.xe
  q : X.env.qual = q
/-- its code object's table is known -/
def TabX (C : CC) (X : Cx) : Prop := ∃ c P, TabB X.base X.mg c P ∧ X.env.code = .ref c ∧ P ∈ C.T
def visB (sc : Scope) (x : Str) : Bool := match sc.names.lookup x with
  | some .local => true
  | some .cell => true
  | some .free => true
  | _ => false
def locB (sc : Scope) (x : Str) : Bool := match sc.names.lookup x with
  | some .local => true
  | some .cell => true
  | _ => false
def plnB (sc : Scope) (x : Str) : Bool := match sc.names.lookup x with
  | some .local => true
  | _ => false
def gloB (sc : Scope) (x : Str) : Bool := match sc.names.lookup x with
  | some .globalImplicit => true
  | _ => false
def notDbg (x : Str) : Bool := !(x == ("__debug__" : Str)) && !(x == ("__classdict__" : Str))
theorem visB_ok {sc : Scope} {x : Str} (h : visB sc x = true) : Vis sc x := by
  unfold visB at h
  split at h
  · rename_i e; exact .inl e
  · rename_i e; exact .inr (.inl e)
  · rename_i e; exact .inr (.inr e)
  · cases h
theorem locB_ok {sc : Scope} {x : Str} (h : locB sc x = true) : Loc sc x := by
  unfold locB at h
  split at h
  · rename_i e; exact .inl e
  · rename_i e; exact .inr e
  · cases h
theorem plnB_ok {sc : Scope} {x : Str} (h : plnB sc x = true) : sc.names.lookup x = some .local := by
  unfold plnB at h
  split at h
  · rename_i e; exact e
  · cases h
theorem gloB_ok {sc : Scope} {x : Str} (h : gloB sc x = true) : sc.names.lookup x = some .globalImplicit := by
  unfold gloB at h
  split at h
  · rename_i e; exact e
  · cases h
theorem notDbg_ok {x : Str} (h : notDbg x = true) : (x == ("__debug__" : Str)) = false ∧ (x == ("__classdict__" : Str)) = false := by
  unfold notDbg at h
  simp only [Bool.and_eq_true, Bool.not_eq_true'] at h
  exact h
/-- a name that is read -/
structure NV (X : Cx) (i : Nat) (x : Str) : Prop where
  at_ : X.N[i]? = some x
  vis : Vis X.env.scope x
  d1 : (x == ("__debug__" : Str)) = false
  d2 : (x == ("__classdict__" : Str)) = false
/-- a name that is written -/
structure NL (X : Cx) (i : Nat) (x : Str) : Prop where
  v : NV X i x
  loc : Loc X.env.scope x
  pln : X.fn x = true ∨ X.env.scope.names.lookup x = some .local
/-- .. a plain local -/
structure NP (X : Cx) (i : Nat) (x : Str) : Prop where
  l : NL X i x
  p : X.env.scope.names.lookup x = some .local
/-- a global name -/
structure NG (X : Cx) (x : Str) : Prop where
  g : Gl X x
  d1 : (x == ("__debug__" : Str)) = false
section
variable {C : CC} {B : Base} {X : Cx} {N : List Str} {q : Str} {sc : Scope} {k : Nat} {i : Nat} {x : Str}
theorem FX.v (F : FX C N sc k X) (h : (decide (N[i]? = some x) && (visB sc x && notDbg x)) = true) : NV X i x := by
  simp only [Bool.and_eq_true, decide_eq_true_eq] at h
  obtain ⟨h1, h2, h3⟩ := h
  exact ⟨by rw [F.N]; exact h1, by rw [F.sc]; exact visB_ok h2, (notDbg_ok h3).1, (notDbg_ok h3).2⟩
theorem BX.l (F : BX C N q sc k X) (h : (decide (N[i]? = some x) && (locB sc x && notDbg x)) = true) : NL X i x := by
  simp only [Bool.and_eq_true, decide_eq_true_eq] at h
  obtain ⟨h1, h2, h3⟩ := h
  have l := locB_ok h2
  exact ⟨⟨by rw [F.N]; exact h1, by rw [F.sc]; exact l.elim .inl fun z => .inr (.inl z), (notDbg_ok h3).1, (notDbg_ok h3).2⟩, by rw [F.sc]; exact l, .inl (F.fn x)⟩
theorem BX.p (F : BX C N q sc k X) (h : (decide (N[i]? = some x) && (plnB sc x && notDbg x)) = true) : NP X i x := by
  simp only [Bool.and_eq_true, decide_eq_true_eq] at h
  obtain ⟨h1, h2, h3⟩ := h
  have l := plnB_ok h2
  exact ⟨⟨⟨by rw [F.N]; exact h1, by rw [F.sc]; exact .inl l, (notDbg_ok h3).1, (notDbg_ok h3).2⟩, by rw [F.sc]; exact .inl l, .inl (F.fn x)⟩, by rw [F.sc]; exact l⟩
/-- in a comprehension's block a target is a local of the block -/
theorem FX.l (F : FX C N sc k X) (h : (decide (N[i]? = some x) && (plnB sc x && notDbg x)) = true) : NL X i x := by
  simp only [Bool.and_eq_true, decide_eq_true_eq] at h
  obtain ⟨h1, h2, h3⟩ := h
  have l := plnB_ok h2
  exact ⟨⟨by rw [F.N]; exact h1, by rw [F.sc]; exact .inl l, (notDbg_ok h3).1, (notDbg_ok h3).2⟩, by rw [F.sc]; exact .inl l, .inr (by rw [F.sc]; exact l)⟩
theorem FX.g (F : FX C N sc k X) (h : (gloB sc x && notDbg x) = true) : NG X x := by
  simp only [Bool.and_eq_true] at h
  exact ⟨by show X.env.kindOf x = _; unfold Env.kindOf; rw [F.sc]; exact gloB_ok h.1, (notDbg_ok h.2).1⟩
/-- a comprehension's block -/
theorem FX.blk (F : FX C N sc k X) {scope : Scope} {s : Shared} {H : Hp} {D : Addr} {cl : List (Str × Addr)} {fp : List Addr} : FX C N (relS scope sc) k (X.blk s H scope (compEnvC scope cl D X.env) fp) :=
  ⟨⟨F.xo.P, F.xo.w, F.xo.K, F.xo.mg, F.xo.base, F.xo.calm, F.xo.nd, F.xo.gd⟩, F.N, by rw [← F.sc]; rfl, F.room⟩
def blkB (N : List Str) (sc scope : Scope) (own : List (Str × Nat)) : Bool :=
  decide (scope.kind = .function) && (scope.names.all (fun y => decide (scope.names.lookup y.1 = some y.2)) && (own.all (fun p => decide (N[p.2]? = some p.1)) && (scope.names.all (fun y => !decide (y.2 = .free) || (decide (sc.names.lookup y.1 = some .cell) || decide (sc.names.lookup y.1 = some .free))) &&
    scope.names.all fun y => !(decide (y.2 = .local) || decide (y.2 = .cell)) || (decide (y.1 ∈ own.map (·.1)) || decide (y.1 ∉ N)))))
theorem FX.bk (F : FX C N sc k X) {scope : Scope} {own : List (Str × Nat)} (h : blkB N sc scope own = true) : BlkOk X.N X.env.scope scope own := by
  unfold blkB at h
  simp only [Bool.and_eq_true, decide_eq_true_eq, List.all_eq_true, Bool.or_eq_true, Bool.not_eq_true', decide_eq_false_iff_not, Bool.or_eq_false_iff] at h
  obtain ⟨h1, h2, h3, h4, h5⟩ := h
  rw [F.N, F.sc]
  refine ⟨h1, h2, h3, fun y hy e => ?_, fun y hy e => ?_⟩
  · rcases h4 y hy with z | z
    · exact absurd e z
    · exact z
  · rcases h5 y hy with z | z
    · rcases e with e | e
      · exact absurd e z.1
      · exact absurd e z.2
    · exact z
theorem NV.e (v : NV X i x) {pos : Pos} : DE C B X (.Name x pos) (eVar i) := de_var v.at_ v.vis v.d1 v.d2
theorem NL.g (v : NL X i x) (xo : XOk C X) {pos : Pos} : PG X (.Name x pos) ((Tg.nm i).g C.K) := pg_name xo.nd v.v.at_ v.loc v.pln

/-! ### defs -/
def AV.arg : AV → Bool
  | .dat _ => true
  | .clo _ _ => true
  | .well => true
  | .clr _ _ => true
  | _ => false
def startE (N : List Str) (as : List AV) : En := as.map (fun a => some (.av a)) ++ List.replicate (N.length - as.length) none
/-- what a def's body promises -/
def mkSp (N : List Str) (n : Nat) (den : TSd) : DSp := fun as Q E => as.length = n ∧ as.all AV.arg = true ∧ den { nx := fun _ => Q (.dat .none), rt := fun a => a.plain = true ∧ Q a } (startE N as) E
theorem args_slots {g : Gh} {H : Hp} : ∀ {vs : List V} {as : List AV}, Paired (RepA C g H) vs as → as.all AV.arg = true → Paired (fun (o : Option V) (e : Option SL) => ∃ v s, o = some v ∧ e = some s ∧ RepS C ⟨g, H⟩ g H v s ∧ ∀ l, s ≠ .own l) (vs.map some) (as.map fun a => some (.av a))
  | _, _, .nil, _ => .nil
  | _, a :: _, .cons r t, h => by
    rw [List.all_cons, Bool.and_eq_true] at h
    refine .cons ⟨_, _, rfl, rfl, ?_, fun l z => by cases z⟩ (args_slots t h.2)
    cases a with
    | dat d => exact r
    | clo k b => exact r
    | well => exact r
    | clr k b => exact r
    | _ => cases h.1
theorem start_env {g : Gh} {H : Hp} {vs : List V} {as : List AV} (r : Paired (RepA C g H) vs as) (h : as.all AV.arg = true) : EnvOk C ⟨g, H⟩ g H (L2.start N vs) (startE N as) := by
  have p := args_slots r h
  have hl : vs.length = as.length := Paired.len r
  have none_ : ∀ (m i : Nat) (s : SL), (List.replicate m (none : Option SL))[i]? = some (some s) → False := fun m i s e => by
    rw [List.getElem?_replicate] at e
    split at e <;> cases e
  have at_ : ∀ (i : Nat) (s : SL), (startE N as)[i]? = some (some s) → ∃ v, (L2.start N vs)[i]? = some (some v) ∧ RepS C ⟨g, H⟩ g H v s ∧ ∀ l, s ≠ .own l := fun i s e => by
    unfold startE at e
    by_cases hi : i < (as.map fun a => some (SL.av a)).length
    · rw [List.getElem?_append_left hi] at e
      obtain ⟨o, eo, v, s', rfl, es, rr, no⟩ := pairedGet p e
      cases es
      exact ⟨v, by unfold L2.start; rw [List.getElem?_append_left (by rw [List.length_map] at hi ⊢; omega)]; exact eo, rr, no⟩
    · rw [List.getElem?_append_right (by omega)] at e
      exact (none_ _ _ _ e).elim
  refine ⟨by unfold L2.start startE; simp [hl], fun i s e => let ⟨v, h1, h2, _⟩ := at_ i s e; ⟨v, h1, h2⟩, fun i j l m a h1 => ?_⟩
  obtain ⟨v, _, _, no⟩ := at_ i _ h1
  exact absurd rfl (no l)
/-- a def's promise from its body's reading; tb: its code object's table is known, if it makes lambdas -/
theorem fng_of {x : Str} {params : Arguments} {body : List Stmt} {scope : Scope} {f : Addr} {fd : FuncData} {ps : List Str} {den : TSd} (tb : Bool) (F : FunD C.K x q params body scope [] [] f fd) (S : FnScope N ps scope)
    (ht : tb = true → ∃ c P, fd.code = .ref c ∧ TabB C.base C.mg c P ∧ P ∈ C.T)
    (hbody : ∀ (X : Cx) (B : Base), BX C N (q ++ ".<locals>.") scope k X → (tb = true → TabX C X) → DSs C B X body den) : FnG C (k + 1) f fd ps (mkSp N ps.length den) := by
  refine ⟨fun as Q E h => h.1, fun A outer s H g args us vs as Qd hr hgd e0 hb rv st ra h => ?_⟩
  obtain ⟨oc, od, dV, kV, doc, pm, an, cdv, ct, osl, rfl, lk, hcd, _, _⟩ := F.ex
  obtain ⟨h1, h2, h3⟩ := h
  refine run_ofS (N := N) lk hcd S hr e0 hb rv (by rw [Paired.len ra]; exact h1) fun hr' => ?_
  have D := hbody (cxOf CX0 C.P C.w C.K C.mg C.base N q scope f cdv A outer s H E0) ⟨g, H⟩ ⟨⟨⟨rfl, rfl, rfl, rfl, rfl, rfl, S.nd, hgd⟩, rfl, rfl, hr'⟩, fun _ => rfl, PassesOwn.leaving, rfl⟩ fun t => (let ⟨c, P, e, t1, t2⟩ := ht t; ⟨c, P, t1, e, t2⟩)
  refine ⟨_, D, ⟨g, _, _, st, .refl, start_env ra h2, h3, ⟨fun env σ g' H' a b c => ?_, fun env σ g' H' a b c => a.elim, fun env σ g' H' a b c => a.elim, fun a v g' H' z b c => ?_⟩⟩⟩
  · exact ⟨.dat .none, g', a, b.fb, b.st, .non, rfl⟩
  · exact ⟨a, g', z.2, b.fb, b.st, c, z.1⟩
end
end TL
/-! list(zip(a, b)), both lists -/
namespace PySem.W
open PySem PySem.Calls PyProof.Rows PyProof.V PySem.Spec

structure ZipSt (h : Heap) (z TI TO i1 i2 l1 l2 S : Addr) (i : Nat) (xs ys : Array Value) : Prop where
  pr : IsPair h TI (.ref i1) (.ref i2)
  a1 : h.IsListIter i1 l1 i
  a2 : h.IsListIter i2 l2 i
  s1 : h.IsList l1 xs
  s2 : h.IsList l2 ys
  zs : (IsZip h z TI TO .none ∧ ∃ a b, IsPair h TO a b) ∨ ∃ T f oT, IsZipHeld h z TI TO T f ∧ h.get? T = some oT ∧ T ≠ z ∧ T ≠ i1 ∧ T ≠ i2 ∧ T ≠ S
theorem ZipSt.keep {h h' : Heap} {z TI TO i1 i2 l1 l2 S : Addr} {i : Nat} {xs ys : Array Value} (st : ZipSt h z TI TO i1 i2 l1 l2 S i xs ys) (hS : S < z ∧ S < TI ∧ S < TO ∧ S < i1 ∧ S < i2 ∧ l1 ≠ S ∧ l2 ≠ S) (k : ∀ b o, b ≠ S → h.get? b = some o → h'.get? b = some o) : ZipSt h' z TI TO i1 i2 l1 l2 S i xs ys := by
  obtain ⟨pr, a1, a2, s1, s2, zs⟩ := st
  obtain ⟨n1, n2, n3, n4, n5, n6, n7⟩ := hS
  refine ⟨k _ _ (Nat.ne_of_gt n2) pr, a1.at fun o e => k _ o (Nat.ne_of_gt n4) e, a2.at fun o e => k _ o (Nat.ne_of_gt n5) e, s1.at fun o e => k _ o n6 e, s2.at fun o e => k _ o n7 e, ?_⟩
  rcases zs with ⟨q, a, b, r⟩ | ⟨T, f, oT, q, r, r1, r2, r3, r4⟩
  · exact .inl ⟨k _ _ (Nat.ne_of_gt n1) q, a, b, k _ _ (Nat.ne_of_gt n3) r⟩
  · exact .inr ⟨T, f, oT, k _ _ (Nat.ne_of_gt n1) q, k _ _ r4 r, r1, r2, r3, r4⟩
/-- the tuples made so far -/
structure ZipG (xs ys : Array Value) (lo : Addr) (h : Heap) (as : List Addr) : Prop where
  rise : as.Pairwise (· < ·)
  above : ∀ a ∈ as, lo < a
  pairs : ∀ (j : Nat) (a : Addr), as[j]? = some a → ∃ x y, xs[j]? = some x ∧ ys[j]? = some y ∧ h.get? a = some { cls := .type "tuple", data := .seq #[x, y] }
theorem ZipG.there {xs ys : Array Value} {lo : Addr} {h : Heap} {as : List Addr} (g : ZipG xs ys lo h as) {a : Addr} (ha : a ∈ as) : a < h.objs.size := by
  obtain ⟨j, hj⟩ := List.mem_iff_getElem?.mp ha
  obtain ⟨_, _, _, _, e⟩ := g.pairs j a hj
  exact Heap.lt_size e
section
variable {prog : Program} {w : World} {A : Around} {E : Value → Shared → Prop} {s : Shared} {z TI TO i1 i2 l1 l2 S : Addr} {xs ys : Array Value} {i : Nat}
theorem zip_item_st {x y : Value} {Q : Option Value → Shared → Prop} (D : ZipApart z TI TO i1 i2 l1 l2) (st : ZipSt s.heap z TI TO i1 i2 l1 l2 S i xs ys) (hS : S < s.heap.objs.size) (hx : xs[i]? = some x) (hy : ys[i]? = some y)
    (hQ : ∀ h', ZipSt h' z TI TO i1 i2 l1 l2 S (i + 1) xs ys → h'.get? s.heap.objs.size = some { cls := .type "tuple", data := .seq #[x, y] } → h'.objs.size = s.heap.objs.size + 1 → (∀ b o, b ≠ z → b ≠ TO → b ≠ i1 → b ≠ i2 → s.heap.get? b = some o → h'.get? b = some o) → Q (some (.ref s.heap.objs.size)) { s with heap := h' }) :
    wpAny (model prog w) A (pyNext (.ref z)) Q E s := by
  obtain ⟨pr, a1, a2, s1, s2, zs⟩ := st
  have lt : ∀ {c o}, s.heap.get? c = some o → s.heap.objs.size ≠ c := fun e => Nat.ne_of_gt (Heap.lt_size e)
  have n1 : s.heap.objs.size ≠ i1 := let ⟨_, e, _⟩ := a1; lt e
  have n2 : s.heap.objs.size ≠ i2 := let ⟨_, e, _⟩ := a2; lt e
  rcases zs with ⟨hz, a, b, hTO⟩ | ⟨T, f, oT, hz, hT, r1, r2, r3, r4⟩
  · refine wpAny_pyNext_zip_item D hz pr hTO a1 a2 s1 s2 hx hy fun h' b1 b2 b3 b4 b5 b6 hk => ?_
    exact hQ h' ⟨hk _ _ D.TIz D.TITO D.TIi1 D.TIi2 pr, b3, b4, s1.at fun o e => hk _ o D.l1z D.l1TO D.l1i1 D.l1i2 e, s2.at fun o e => hk _ o D.l2z D.l2TO D.l2i1 D.l2i2 e, .inr ⟨s.heap.objs.size, false, _, b1, b5, lt hz, n1, n2, Nat.ne_of_gt hS⟩⟩ b5 b6 hk
  · refine wpAny_pyNext_zip_item_held D hz hT pr a1 a2 s1 s2 hx hy fun h' b1 b3 b4 b5 b6 hk => ?_
    exact hQ h' ⟨hk _ _ D.TIz D.TIi1 D.TIi2 pr, b3, b4, s1.at fun o e => hk _ o D.l1z D.l1i1 D.l1i2 e, s2.at fun o e => hk _ o D.l2z D.l2i1 D.l2i2 e, .inr ⟨T, true, oT, b1, hk _ _ r1 r2 r3 hT, r1, r2, r3, r4⟩⟩ b5 b6 fun b o h1 _ h3 h4 e => hk b o h1 h3 h4 e
theorem zip_done_st {Q : Option Value → Shared → Prop} (hh : A.handled = none) (D : ZipApart z TI TO i1 i2 l1 l2) (st : ZipSt s.heap z TI TO i1 i2 l1 l2 S i xs ys) (he : xs[i]? = none ∨ ys[i]? = none)
    (hQ : ∀ h', (∀ b o, b ≠ z → b ≠ TO → b ≠ i1 → b ≠ i2 → s.heap.get? b = some o → h'.get? b = some o) → Q none { s with heap := h' }) : wpAny (model prog w) A (pyNext (.ref z)) Q E s := by
  obtain ⟨pr, a1, a2, s1, s2, zs⟩ := st
  rcases zs with ⟨hz, a, b, hTO⟩ | ⟨T, f, oT, hz, hT, r1, r2, r3, r4⟩
  · exact wpAny_pyNext_zip_end hh D hz pr hTO a1 a2 s1 s2 he hQ
  · exact wpAny_pyNext_zip_end_held hh D hz hT pr a1 a2 s1 s2 he fun h' hk => hQ h' fun b o h1 _ h3 h4 e => hk b o h1 h3 h4 e
end
section
variable {prog : Program} {w : World} {A : Around} {s : Shared} {R : Result → Shared → Prop} {z TI TO i1 i2 l1 l2 S : Addr} {xs ys : Array Value}
theorem zip_fill (hh : A.handled = none) (D : ZipApart z TI TO i1 i2 l1 l2) {N : Nat} (hN : S = N ∧ z < N ∧ TI < N ∧ TO < N ∧ i1 < N ∧ i2 < N ∧ l1 < N ∧ l2 < N) (hz : min xs.size ys.size ≤ sizeLine) (res : Value) {h₁ : Heap}
    (hR : ∀ h' tk acc c as, (∀ b o, b ≠ S → b ≠ z → b ≠ TO → b ≠ i1 → b ≠ i2 → h₁.get? b = some o → h'.get? b = some o) → h'.get? S = some { cls := .type "list", dict := none, data := .seq acc c, slots := #[] } → as.length = min xs.size ys.size → ZipG xs ys S h' as →
      acc.toList = as.map Value.ref → R (.ok (.ret res)) { s with heap := h', toks := tk }) :
    ∀ (k i : Nat) (h : Heap) (tk c : Nat) (acc : Array Value) (as : List Addr), min xs.size ys.size - i = k → i ≤ min xs.size ys.size → ZipSt h z TI TO i1 i2 l1 l2 S i xs ys → (∀ b o, b ≠ S → b ≠ z → b ≠ TO → b ≠ i1 → b ≠ i2 → h₁.get? b = some o → h.get? b = some o) →
      h.get? S = some { cls := .type "list", dict := none, data := .seq acc c, slots := #[] } → acc.toList = as.map Value.ref → as.length = i → ZipG xs ys S h as →
      codeAny (model prog w) A (.builtin "list.extend.loop" ⟨[.ref S, .ref z, res], []⟩) R { s with heap := h, toks := tk } := by
  obtain ⟨rfl, n1, n2, n3, n4, n5, n6, n7⟩ := hN
  have old : ∀ {a : Addr} {as : List Addr} {h : Heap}, ZipG xs ys S h as → a ∈ as → a ≠ z ∧ a ≠ TO ∧ a ≠ i1 ∧ a ≠ i2 ∧ a ≠ S := fun {a as h} g ha => by
    have := g.above a ha
    exact ⟨Nat.ne_of_gt (Nat.lt_trans n1 this), Nat.ne_of_gt (Nat.lt_trans n3 this), Nat.ne_of_gt (Nat.lt_trans n4 this), Nat.ne_of_gt (Nat.lt_trans n5 this), Nat.ne_of_gt this⟩
  intro k
  induction k with
  | zero =>
    intro i h tk c acc as hk hi hst hkeep hS hacc hal hG
    have hin : i = min xs.size ys.size := by omega
    refine codeAny_builtin PySem.F.entry_extend_loop ?_
    rw [Around.under_plainId PySem.F.plain_extend_loop _]
    show wpAny _ A.in1 (pyNext (.ref z) >>= _) _ _ _
    have he : xs[i]? = none ∨ ys[i]? = none := by
      rcases Nat.le_total xs.size ys.size with q | q
      · exact .inl (Array.getElem?_eq_none (by omega))
      · exact .inr (Array.getElem?_eq_none (by omega))
    refine wpAny_bind (zip_done_st (s := { s with heap := h, toks := tk }) (A := A.in1) hh D hst he fun h' he => ?_)
    refine wpAny_pure (hR h' tk acc c as (fun b o h1 h2 h3 h4 h5 e => he b o h2 h3 h4 h5 (hkeep b o h1 h2 h3 h4 h5 e)) (he S _ (Nat.ne_of_gt n1) (Nat.ne_of_gt n3) (Nat.ne_of_gt n4) (Nat.ne_of_gt n5) hS) (by omega) ⟨hG.rise, hG.above, fun j a hj => ?_⟩ hacc)
    obtain ⟨x, y, e1, e2, e3⟩ := hG.pairs j a hj
    obtain ⟨m1, m2, m3, m4, m5⟩ := old hG (List.mem_of_getElem? hj)
    exact ⟨x, y, e1, e2, he a _ m1 m2 m3 m4 e3⟩
  | succ k ih =>
    intro i h tk c acc as hk hi hst hkeep hS hacc hal hG
    have hix : i < xs.size := by omega
    have hiy : i < ys.size := by omega
    have ex := Array.getElem?_eq_getElem hix
    have ey := Array.getElem?_eq_getElem hiy
    have hsz : acc.size = i := by rw [← Array.length_toList, hacc, List.length_map, hal]
    refine codeAny_builtin PySem.F.entry_extend_loop ?_
    rw [Around.under_plainId PySem.F.plain_extend_loop _]
    show wpAny _ A.in1 (pyNext (.ref z) >>= _) _ _ _
    refine wpAny_bind (zip_item_st (s := { s with heap := h, toks := tk }) D hst (Heap.lt_size hS) ex ey fun h' hst' ht hz' hkp => ?_)
    dsimp only at ht hz' hkp ⊢
    have hS' := hkp S _ (Nat.ne_of_gt n1) (Nat.ne_of_gt n3) (Nat.ne_of_gt n4) (Nat.ne_of_gt n5) hS
    have up : ∀ b o, b ≠ S → h'.get? b = some o → (h'.update S (Obj.mapSeq (·.push (Value.ref h.objs.size)))).get? b = some o := fun b o hb e => (Heap.get?_update_other _ _ (Ne.symm hb)).trans e
    have hSl : S < h.objs.size := Heap.lt_size hS
    show wpAny _ A.in1 (updateSeq S (·.push (Value.ref h.objs.size)) >>= _) _ _ _
    refine wpAny_bind ?_
    refine wpAny_updateSeq hS' rfl (wpAny_pure ⟨plainId_quiet PySem.F.plain_extend_loop _, ih (i + 1) _ tk _ (acc.push (Value.ref h.objs.size)) (as ++ [h.objs.size]) (by omega) (by omega) (ZipSt.stay hst' ⟨n1, n2, n3, n4, n5, n6, n7⟩ up)
      (fun b o h1 h2 h3 h4 h5 e => up b o h1 (hkp b o h2 h3 h4 h5 (hkeep b o h1 h2 h3 h4 h5 e))) (Heap.get?_update_self _ hS' rfl) (by rw [Array.toList_push, hacc, List.map_append]; rfl) (by rw [List.length_append, hal]; rfl) ⟨?_, ?_, ?_⟩⟩) (by rw [hsz]; omega) (by show (acc.push (Value.ref h.objs.size)).size ≤ sizeLine + 1; rw [Array.size_push, hsz]; omega)
    · refine List.pairwise_append.mpr ⟨hG.rise, List.pairwise_singleton _ _, fun a ha b hb => ?_⟩
      rw [List.mem_singleton.mp hb]
      exact hG.there ha
    · intro a ha
      rcases List.mem_append.mp ha with ha | ha
      · exact hG.above a ha
      · rw [List.mem_singleton.mp ha]; exact hSl
    · intro j b hj
      rcases Nat.lt_trichotomy j as.length with h1 | h1 | h1
      · rw [List.getElem?_append_left h1] at hj
        obtain ⟨x, y, e1, e2, e3⟩ := hG.pairs j b hj
        obtain ⟨m1, m2, m3, m4, m5⟩ := old hG (List.mem_of_getElem? hj)
        exact ⟨x, y, e1, e2, up b _ m5 (hkp b _ m1 m2 m3 m4 e3)⟩
      · subst h1
        have hb : h.objs.size = b := by simpa using hj
        subst hb
        exact ⟨_, _, by rw [hal]; exact ex, by rw [hal]; exact ey, up _ _ (Nat.ne_of_gt hSl) ht⟩
      · have hnone : (as ++ [h.objs.size])[j]? = none := List.getElem?_eq_none (by rw [List.length_append, List.length_singleton]; omega)
        rw [hnone] at hj; cases hj
where
  ZipSt.stay {h h' : Heap} {z TI TO i1 i2 l1 l2 S : Addr} {i : Nat} {xs ys : Array Value} (st : ZipSt h z TI TO i1 i2 l1 l2 S i xs ys) (hS : z < S ∧ TI < S ∧ TO < S ∧ i1 < S ∧ i2 < S ∧ l1 < S ∧ l2 < S) (k : ∀ b o, b ≠ S → h.get? b = some o → h'.get? b = some o) : ZipSt h' z TI TO i1 i2 l1 l2 S i xs ys := by
    obtain ⟨pr, a1, a2, s1, s2, zs⟩ := st
    obtain ⟨n1, n2, n3, n4, n5, n6, n7⟩ := hS
    refine ⟨k _ _ (Nat.ne_of_lt n2) pr, a1.at fun o e => k _ o (Nat.ne_of_lt n4) e, a2.at fun o e => k _ o (Nat.ne_of_lt n5) e, s1.at fun o e => k _ o (Nat.ne_of_lt n6) e, s2.at fun o e => k _ o (Nat.ne_of_lt n7) e, ?_⟩
    rcases zs with ⟨q, a, b, r⟩ | ⟨T, f, oT, q, r, r1, r2, r3, r4⟩
    · exact .inl ⟨k _ _ (Nat.ne_of_lt n1) q, a, b, k _ _ (Nat.ne_of_lt n3) r⟩
    · exact .inr ⟨T, f, oT, k _ _ (Nat.ne_of_lt n1) q, k _ _ r4 r, r1, r2, r3, r4⟩
end
theorem zip_len_none : typeLookup (.type "zip") "__len__" = pure none := by rw [typeLookup_type, builtinLookup_eq_fast]; kernel_rfl
theorem zip_hint_none : typeLookup (.type "zip") "__length_hint__" = pure none := by rw [typeLookup_type, builtinLookup_eq_fast]; kernel_rfl
theorem zip_hint {prog : Program} {w : World} {A : Around} {E : Value → Shared → Prop} {s : Shared} {r : Addr} (hT : s.TypeIs (.ref r) "zip") {Q : Bool → Shared → Prop} (h : Q true s) : wpAny (model prog w) A (Builtin.List.listLengthHint (.ref r)) Q E s := by
  unfold Builtin.List.listLengthHint
  refine wpAny_bind (wpAny_specialOf hT zip_len_none ?_)
  refine wpAny_ite_split (fun hab => absurd hab (by decide)) (fun _ => ?_)
  refine wpAny_ite_split (fun hab => absurd hab (by decide)) (fun _ => ?_)
  refine wpAny_bind (wpAny_specialOf hT zip_hint_none ?_)
  exact wpAny_pure h
section
variable {prog : Program} {w : World} {A : Around} {E : Value → Shared → Prop} {s : Shared} {z TI TO i1 i2 l1 l2 S : Addr} {xs ys : Array Value}
theorem zip_extend {R : Result → Shared → Prop} (hh : A.handled = none) (D : ZipApart z TI TO i1 i2 l1 l2) {N : Nat} (hN : S = N ∧ z < N ∧ TI < N ∧ TO < N ∧ i1 < N ∧ i2 < N ∧ l1 < N ∧ l2 < N) (hz : min xs.size ys.size ≤ sizeLine) (res : Value) (c₀ : Nat)
    (st : ZipSt s.heap z TI TO i1 i2 l1 l2 S 0 xs ys) (hz0 : IsZip s.heap z TI TO .none) (hS : s.heap.get? S = some { cls := .type "list", data := .seq #[] c₀ })
    (hR : ∀ h' tk acc c as, (∀ b o, b ≠ S → b ≠ z → b ≠ TO → b ≠ i1 → b ≠ i2 → s.heap.get? b = some o → h'.get? b = some o) → h'.get? S = some { cls := .type "list", dict := none, data := .seq acc c, slots := #[] } → as.length = min xs.size ys.size → ZipG xs ys S h' as →
      acc.toList = as.map Value.ref → R (.ok (.ret res)) { s with heap := h', toks := tk }) :
    wpAny (model prog w) A.in1 (Builtin.List.listExtendWith (.ref S) (.ref z) res)
      (fun fin s' => match fin with | .done f => R (.ok f) s' | .again c' => c'.quiet = true ∧ codeAny (model prog w) A c' R s') (fun e s' => R (.error e) s') s := by
  obtain ⟨e0, n1, n2, n3, n4, n5, n6, n7⟩ := hN
  have hzt : s.TypeIs (.ref z) "zip" := ⟨_, hz0, rfl⟩
  have hSz : S ≠ z := by rw [e0]; exact Nat.ne_of_gt n1
  have key : ∀ (h : Heap) (c₁ tk : Nat), (∀ b o, b ≠ S → s.heap.get? b = some o → h.get? b = some o) → h.get? S = some { cls := .type "list", data := .seq #[] c₁ } → codeAny (model prog w) A (.builtin "list.extend.loop" ⟨[.ref S, .ref z, res], []⟩) R { s with heap := h, toks := tk } := by
    intro h c₁ tk hk hS₁
    subst e0
    exact zip_fill (s := s) (h₁ := s.heap) hh D ⟨rfl, n1, n2, n3, n4, n5, n6, n7⟩ hz res hR _ 0 h tk c₁ #[] [] rfl (Nat.zero_le _) (zip_fill.ZipSt.stay st ⟨n1, n2, n3, n4, n5, n6, n7⟩ hk) (fun b o h1 _ _ _ _ e => hk b o h1 e) hS₁ rfl rfl ⟨List.Pairwise.nil, (fun _ ha => nomatch ha), (fun j a hj => by simp at hj)⟩
  unfold Builtin.List.listExtendWith
  refine wpAny_bind (wpAny_typeOf (T := "zip") hzt ?_)
  have h1 : Builtin.List.listSameRef (.ref S) (.ref z) = false := by simp [Builtin.List.listSameRef, hSz]
  have h2 : (Value.type "zip" == Value.type "list") = false := by decide
  have h3 : (Value.type "zip" == Value.type "tuple") = false := by decide
  simp only [h1, h2, h3, Bool.or_false, Bool.false_eq_true, if_false]
  refine wpAny_bind (wpAny_pyIter_zip hz0 ?_)
  refine wpAny_bind (wpAny_holding (zip_hint hzt ?_))
  refine wpAny_ite_split (fun _ => ?_) (fun _ => wpAny_pure ⟨plainId_quiet PySem.F.plain_extend_loop _, key s.heap c₀ _ (fun b o _ e => e) hS⟩)
  refine wpAny_bind (wpAny_rule ?_)
  refine wpAny_bind ?_
  show wpAny _ _ (updateSeq S (·.push .none) >>= fun _ => updateSeq S (·.pop)) _ _ _
  refine wpAny_bind (wpAny_updateSeq hS rfl ?_)
  have hS₂ := Heap.get?_update_self (Obj.mapSeq (·.push Value.none)) hS rfl
  refine wpAny_updateSeq (hz := by seq_fits) hS₂ rfl ?_
  have hS₃ := Heap.get?_update_self (Obj.mapSeq (·.pop)) hS₂ rfl
  refine wpAny_pure ⟨plainId_quiet PySem.F.plain_extend_loop _, key _ _ _ (fun b o hb e => ?_) hS₃⟩
  exact (Heap.get?_update_other _ _ (Ne.symm hb)).trans ((Heap.get?_update_other _ _ (Ne.symm hb)).trans e)
theorem zip_init {R : Result → Shared → Prop} (hh : A.handled = none) (D : ZipApart z TI TO i1 i2 l1 l2) {N : Nat} (hN : S = N ∧ z < N ∧ TI < N ∧ TO < N ∧ i1 < N ∧ i2 < N ∧ l1 < N ∧ l2 < N) (hz : min xs.size ys.size ≤ sizeLine)
    (st : ZipSt s.heap z TI TO i1 i2 l1 l2 S 0 xs ys) (hz0 : IsZip s.heap z TI TO .none) (hS : s.heap.get? S = some { cls := .type "list", data := .seq #[] })
    (hR : ∀ h' tk acc c as, (∀ b o, b ≠ S → b ≠ z → b ≠ TO → b ≠ i1 → b ≠ i2 → s.heap.get? b = some o → h'.get? b = some o) → h'.get? S = some { cls := .type "list", dict := none, data := .seq acc c, slots := #[] } → as.length = min xs.size ys.size → ZipG xs ys S h' as →
      acc.toList = as.map Value.ref → R (.ok (.ret .none)) { s with heap := h', toks := tk }) :
    wpAny (model prog w) A.in1 (Builtin.«list.__init__» ⟨[.ref S, .ref z], []⟩)
      (fun fin s' => match fin with | .done f => R (.ok f) s' | .again c' => c'.quiet = true ∧ codeAny (model prog w) A c' R s') (fun e s' => R (.error e) s') s := by
  show wpAny _ _ (do let old ← Builtin.List.listItems (.ref S); Builtin.List.listUpdate (.ref S) (fun _ => #[]); letGo old.toList.reverse; Builtin.List.listExtendWith (.ref S) (.ref z) .none) _ _ s
  refine wpAny_bind ?_
  unfold Builtin.List.listItems
  refine wpAny_bind (wpAny_seqItems hS rfl (wpAny_pure ?_))
  show wpAny _ _ (updateSeq S (fun _ => #[]) >>= fun _ => letGo (#[] : Array Value).toList.reverse >>= fun _ => Builtin.List.listExtendWith (.ref S) (.ref z) .none) _ _ s
  refine wpAny_bind (wpAny_updateSeq hS rfl ?_)
  have hS₂ := Heap.get?_update_self (Obj.mapSeq (fun _ => (#[] : Array Value))) hS rfl
  have oth : ∀ b o, b ≠ S → s.heap.get? b = some o → (s.heap.update S (Obj.mapSeq (fun _ => (#[] : Array Value)))).get? b = some o := fun b o hb e => (Heap.get?_update_other _ _ (Ne.symm hb)).trans e
  obtain ⟨e0, n1, n2, n3, n4, n5, n6, n7⟩ := hN
  subst e0
  refine wpAny_bind (wpAny_letGo ?_)
  refine zip_extend hh D ⟨rfl, n1, n2, n3, n4, n5, n6, n7⟩ hz .none _ (zip_fill.ZipSt.stay st ⟨n1, n2, n3, n4, n5, n6, n7⟩ oth) (oth _ _ (Nat.ne_of_lt n1) hz0) hS₂ fun h' tk acc c as hk hS' hl hG hacc => ?_
  exact hR h' tk acc c as (fun b o h1 h2 h3 h4 h5 e => hk b o h1 h2 h3 h4 h5 (oth b o h1 e)) hS' hl hG hacc
/-- list(z), z a new zip of two lists -/
theorem list_of_zip {Q : Value → Shared → Prop} (hh : A.handled = none) (D : ZipApart z TI TO i1 i2 l1 l2) (hz : min xs.size ys.size ≤ sizeLine) (hz0 : IsZip s.heap z TI TO .none) (pr : IsPair s.heap TI (.ref i1) (.ref i2)) (pt : ∃ a b, IsPair s.heap TO a b)
    (a1 : s.heap.IsListIter i1 l1 0) (a2 : s.heap.IsListIter i2 l2 0) (s1 : s.heap.IsList l1 xs) (s2 : s.heap.IsList l2 ys)
    (hQ : ∀ h' tk acc c as, (∀ b o, b ≠ z → b ≠ TO → b ≠ i1 → b ≠ i2 → s.heap.get? b = some o → h'.get? b = some o) → h'.get? s.heap.objs.size = some { cls := .type "list", dict := none, data := .seq acc c, slots := #[] } → as.length = min xs.size ys.size → ZipG xs ys s.heap.objs.size h' as →
      acc.toList = as.map Value.ref → Q (.ref s.heap.objs.size) { s with heap := h', toks := tk }) :
    wpAny (model prog w) A (call (.type "list") [.ref z]) Q E s := by
  refine callType_codes (Q₁ := fun obj s₁ => obj = .ref s.heap.objs.size ∧ s₁ = { s with heap := s.heap.push { cls := .type "list", data := .seq #[] } }) PySem.F.called_list (PySem.F.typeCall_list_1 _) PySem.F.entry_list_init
    (code_list_new _ ⟨rfl, rfl⟩) fun obj s₁ h₁ => ?_
  obtain ⟨rfl, rfl⟩ := h₁
  have hS : (s.heap.push { cls := .type "list", data := .seq #[] }).get? s.heap.objs.size = some { cls := .type "list", data := .seq #[] } := Heap.get?_push_size _ rfl
  have up : ∀ b o, s.heap.get? b = some o → (s.heap.push { cls := .type "list", data := .seq #[] }).get? b = some o := fun b o e => Heap.get?_push_of_some _ e
  have l1' : l1 < s.heap.objs.size := let ⟨_, e, _⟩ := s1; Heap.lt_size e
  have l2' : l2 < s.heap.objs.size := let ⟨_, e, _⟩ := s2; Heap.lt_size e
  have i1' : i1 < s.heap.objs.size := let ⟨_, e, _⟩ := a1; Heap.lt_size e
  have i2' : i2 < s.heap.objs.size := let ⟨_, e, _⟩ := a2; Heap.lt_size e
  obtain ⟨pa, pb, pt⟩ := pt
  refine ⟨⟨_, hS, rfl⟩, PySem.F.args_list_init_2 _ _, zip_init (A := A.in1) hh D (N := s.heap.objs.size) ⟨rfl, Heap.lt_size hz0, Heap.lt_size pr, Heap.lt_size pt, i1', i2', l1', l2'⟩ hz ⟨up _ _ pr, a1.at fun o e => up _ o e, a2.at fun o e => up _ o e, s1.at fun o e => up _ o e, s2.at fun o e => up _ o e, .inl ⟨up _ _ hz0, pa, pb, up _ _ pt⟩⟩ (up _ _ hz0) hS (fun h' tk acc c as hk hS' hl hG hacc => ?_)⟩
  exact ⟨rfl, hQ h' tk acc c as (fun b o h1 h2 h3 h4 e => hk b o (Nat.ne_of_lt (Heap.lt_size e)) h1 h2 h3 h4 (up b o e)) hS' hl hG hacc⟩
end
end PySem.W
namespace TL
open PySem PySem.Spec PyProof.Rows L2 LamX NdefX

/-! ### list(zip(a, b)) of two lists -/
def putP : Hp → List Addr → List (V × V) → Hp
  | H, a :: as, p :: ps => putP (upd H a (.tup [p.1, p.2])) as ps
  | H, _, _ => H
theorem putP_off {b : Addr} : ∀ (as : List Addr) (ps : List (V × V)) (H : Hp), b ∉ as → putP H as ps b = H b
  | [], _, _, _ => rfl
  | _ :: _, [], _, _ => rfl
  | a :: as, p :: ps, H, h => by
    show putP (upd H a (.tup [p.1, p.2])) as ps b = H b
    rw [putP_off as ps _ fun z => h (List.mem_cons_of_mem _ z), upd_ne fun z => h (by rw [z]; exact List.mem_cons_self)]
theorem putP_at : ∀ (as : List Addr) (ps : List (V × V)) (H : Hp), as.length = ps.length → as.Nodup → Paired (fun (t : Addr) (p : V × V) => putP H as ps t = some (.tup [p.1, p.2])) as ps
  | [], [], _, _, _ => .nil
  | [], _ :: _, _, h, _ => by cases h
  | _ :: _, [], _, h, _ => by cases h
  | a :: as, p :: ps, H, h, hn => by
    have hn' := List.nodup_cons.mp hn
    refine .cons ?_ (putP_at as ps (upd H a (.tup [p.1, p.2])) (Nat.succ.inj h) hn'.2)
    show putP (upd H a (.tup [p.1, p.2])) as ps a = some (.tup [p.1, p.2])
    rw [putP_off as ps _ hn'.1, upd_same]
theorem ne_mem {a b : Addr} {l : List Addr} (h : a ∈ l) (n : b ∉ l) : a ≠ b := fun e => n (by rw [← e]; exact h)
/-- the data of the pairs -/
theorem putP_rep {C : CC} : ∀ (as : List Addr) (vs ws : List V) (l m : List PyData) (g : Gh) (H : Hp), StOk C g H → (∀ a ∈ as, H a = none) → as.Nodup → as.length = min vs.length ws.length → RepVs C.K g vs l → RepVs C.K g ws m →
    ∃ g', Gr g H g' (putP H as (vs.zip ws)) ∧ StOk C g' (putP H as (vs.zip ws)) ∧ RepVs C.K g' (as.map V.ref) (zip2D l m)
  | [], vs, ws, l, m, g, H, st, _, _, hl, r1, r2 => by
    have : zip2D l m = [] := by
      refine List.eq_nil_of_length_eq_zero ?_
      rw [zip2D_len, ← Paired.len r1, ← Paired.len r2]
      exact hl.symm
    rw [this]
    exact ⟨g, .refl, st, .nil⟩
  | a :: as, vs, ws, l, m, g, H, st, hn, nd, hl, r1, r2 => by
    cases r1 with
    | nil => simp at hl
    | cons q1 t1 =>
      cases r2 with
      | nil => simp at hl
      | cons q2 t2 =>
        obtain ⟨n1, n2⟩ := List.nodup_cons.mp nd
        obtain ⟨g1, f1, st1, rr⟩ := tup_new st (hn a (List.mem_cons_self ..)) (.cons q1 (.cons q2 .nil))
        obtain ⟨g2, f2, st2, rs⟩ := putP_rep as _ _ _ _ g1 _ st1 (fun b hb => (upd_ne (ne_mem hb n1)).trans (hn b (List.mem_cons_of_mem _ hb))) n2 (by simp only [List.length_cons] at hl; omega) (RepVs.mono f1.gm t1) (RepVs.mono f1.gm t2)
        exact ⟨g2, f1.trans f2, st2, .cons (RepV.mono f2.gm rr) rs⟩
section
variable {C : CC} {B : Base} {X : Cx} {a b : Expr} {t : TAd}
theorem zip_laid {pins : List (Addr × Obj)} {σ : L2.St} {H : Hp} {s : Shared} {h' : Heap} {tk : Nat} {vs ws : List V} {xs ys : List Value} {acc : Array Value} {c : Nat} {as : List Addr} (I : L2.Inv X pins σ H s) (hz : vs.length ≤ sizeLine) (rv : Vals vs xs) (rw' : Vals ws ys) {S : Addr} (hSs : s.heap.objs.size ≤ S)
    (hk : ∀ b o, s.heap.get? b = some o → h'.get? b = some o) (hS : h'.get? S = some { cls := .type "list", dict := none, data := .seq acc c, slots := #[] }) (hl : as.length = min xs.length ys.length) (hG : PySem.W.ZipG xs.toArray ys.toArray S h' as) (hacc : acc.toList = as.map Value.ref) :
    H S = none ∧ (∀ t ∈ as, H t = none) ∧ S ∉ as ∧ as.Nodup ∧ L2.Inv X pins σ (putP (upd H S (.lst (as.map V.ref))) as (vs.zip ws)) { s with heap := h', toks := tk } := by
  have l1 := rv.length
  have l2 := rw'.length
  have hSn : S ∉ as := fun z => Nat.lt_irrefl _ (hG.above _ z)
  have nd : as.Nodup := List.Pairwise.imp (fun {a b} (h : a < b) => Nat.ne_of_lt h) hG.rise
  have hi : ∀ t ∈ as, s.heap.objs.size ≤ t := fun t ht => Nat.le_trans hSs (Nat.le_of_lt (hG.above t ht))
  have new : ∀ t ∈ as, H t = none := fun t ht => I.hok.fresh (hi t ht)
  have newS : H S = none := I.hok.fresh hSs
  have atP := putP_at as (vs.zip ws) (upd H S (.lst (as.map V.ref))) (by rw [List.length_zip]; omega) nd
  have off : ∀ b, b ∉ as → b ≠ S → putP (upd H S (.lst (as.map V.ref))) as (vs.zip ws) b = H b := fun b h1 h2 => by rw [putP_off as _ _ h1, upd_ne h2]
  have low : ∀ b o, s.heap.get? b = some o → b ∉ as ∧ b ≠ S := fun b o e => ⟨fun z => absurd (Heap.lt_size e) (Nat.not_lt.mpr (hi b z)), Nat.ne_of_lt (Nat.lt_of_lt_of_le (Heap.lt_size e) hSs)⟩
  have kp : ∀ b u, H b = some u → (putP (upd H S (.lst (as.map V.ref))) as (vs.zip ws)) b = some u := fun b u e => by
    rw [off b (fun z => by rw [new b z] at e; cases e) (fun z => by rw [z, newS] at e; cases e)]
    exact e
  have eS : putP (upd H S (.lst (as.map V.ref))) as (vs.zip ws) S = some (.lst (as.map V.ref)) := by rw [putP_off as _ _ hSn, upd_same]
  refine ⟨newS, new, hSn, nd, ?_⟩
  refine I.call' (ch := []) rfl ⟨fun b o q _ _ _ => hk b o q, fun b o q _ _ _ => ⟨o.slots, hk b o q⟩, fun b o q n _ => ?_, fun b o q _ => ⟨o, hk b o q⟩, fun b xs q => kp b _ q, fun b o u q => kp b _ q, fun b ps q => ⟨#[], by rw [kp b _ q]; simp⟩⟩ (fun b u q => ?_) I.bare fun b z => by simp at z
  · obtain ⟨z1, z2⟩ := low b o q
    rw [off b z1 z2]
    exact n
  · by_cases hb : b ∈ as
    · obtain ⟨j, pk, e1, e2, e3⟩ := LiI.paired_ix atP hb
      rw [e3] at q
      cases q
      obtain ⟨x, y, f1, f2, f3⟩ := hG.pairs j b e1
      rw [List.getElem?_zip_eq_some] at e2
      obtain ⟨g1, r1⟩ := rv.get e2.1
      obtain ⟨g2, r2⟩ := rw'.get e2.2
      have e4 : x = g1 := by rw [List.getElem?_toArray] at f1; exact Option.some.inj (f1.symm.trans r1.1)
      have e5 : y = g2 := by rw [List.getElem?_toArray] at f2; exact Option.some.inj (f2.symm.trans r2.1)
      subst e4 e5
      exact ⟨by show 2 ≤ sizeLine; decide, [x, y], .cons r1.2 (.cons r2.2 .nil), ⟨_, f3, rfl, _, rfl⟩⟩
    · by_cases hb2 : b = S
      · rw [hb2] at q ⊢
        rw [eS] at q
        cases q
        refine ⟨by rw [List.length_map]; omega, acc.toList, c, by rw [hacc]; exact LiI.vals_refs as, ?_⟩
        rw [Array.toArray_toList]
        exact hS
      · rw [off b hb hb2] at q
        exact (I.hok b u q).stay (fun d v _ y => hk d v y) (fun d y => kp d _ y) fun d xs y => kp d _ y
def eLZip (t : TAd) : TEd := fun env Q E => t env (fun as => match as with
  | [.dat (.list l), .dat (.list m)] => Q (.new (zip2D l m))
  | _ => False) E
theorem de_lzip {p p2 pos pos2 : Pos} (hK : X.K = C.K) (hc : X.calm = true) (hg : Gl X "list") (hm : X.mg "list" = none) (hg2 : Gl X "zip") (hm2 : X.mg "zip" = none) (ha : DA C B X [a, b] t) (hs : isStar a = false) (hs2 : isStar b = false) :
    DE C B X (.Call (.Name "list" p) [.Call (.Name "zip" p2) [a, b] [] pos2] [] pos) (eLZip t) := by
  refine ⟨fun pins s σ H Q I h => ?_⟩
  obtain ⟨g, env, Qd, st, eo, h, k⟩ := h
  refine wpAny_Call_Name_kw (ld_blt I hg hm (u := .type "list") (by decide +kernel) ?_)
  refine PyProof.Rows.callWith_type1 ?_ (star_cons _ _ _ rfl) rfl
  rw [star_cons _ _ _ rfl]
  show wpAny _ _ (spliced ((false, eval (.Call (.Name "zip" p2) [a, b] [] pos2) X.env) :: backTo pos (starEach [] X.env))) _ _ s
  refine Calls.spliced_cons ?_
  refine Call_ (ld_blt I hg2 hm2 PyProof.Rows.boot_zip (PyProof.Rows.callWith_type1 (thn (ha.run pos2 pins s σ H (fun vs H1 => ∃ l m g1 v v', vs = [v, v'] ∧ Qd (.new (zip2D l m)) ∧ Gr g H g1 H1 ∧ StOk C g1 H1 ∧ RepV C.K g1 v (.list l) ∧ RepV C.K g1 v' (.list m)) I ⟨g, env, _, st, eo, h, ?_⟩) fun us s1 ⟨vs, H1, I1, r1, q1⟩ => ?_) (star_cons _ _ _ hs) (noStar _ (by simp [hs2]))))
  · intro vs as g1 H1 q f1 st1 r1
    try dsimp only at q
    split at q
    · rename_i l m
      cases r1 with
      | cons r1 r2 =>
        cases r2 with
        | cons r2 r3 =>
          cases r3
          exact ⟨l, m, g1, _, _, rfl, q, f1, st1, r1, r2⟩
    · exact q.elim
  · obtain ⟨l, m, g1, v, v', rfl, q, f1, st1, rv, rv'⟩ := q1
    obtain ⟨p1, rfl, now⟩ := lst_now (C := C) rv fun _ _ => trivial
    obtain ⟨p2, rfl, now'⟩ := lst_now (C := C) rv' fun _ _ => trivial
    obtain ⟨vs, hsq, rvs⟩ := now g1 H1 (fun _ _ h => h) st1
    obtain ⟨vs', hsq', rvs'⟩ := now' g1 H1 (fun _ _ h => h) st1
    rw [← hK] at hsq hsq'
    obtain ⟨u, u', rfl, ru, ru'⟩ := vals2 r1
    cases ru
    cases ru'
    obtain ⟨its, rv2, p2, hz1⟩ := I1.list hsq
    obtain ⟨its', rv2', p2', hz2⟩ := I1.list hsq'
    have la := p2.lt
    have lb := p2'.lt
    refine call_zip_2 p2.isList p2'.isList fun h' hz hTI hTO h1 h2 hsz hk => ?_
    refine Calls.spliced_nil ?_
    have I2 : L2.Inv X pins σ H1 { s1 with heap := h' } := I1.kept (t' := s1.toks) hk
    have lx := rv2.length
    have ly := rv2'.length
    refine PySem.W.list_of_zip (s := { s1 with heap := h' }) (I1.ok.hd hc) (PySem.W.ktu_apart s1.heap.objs.size _ _ la lb) (xs := its.toArray) (ys := its'.toArray) (by rw [List.size_toArray, List.size_toArray]; omega) hz hTI ⟨_, _, hTO⟩ h1 h2 (p2.isList.at fun o e => hk _ o e) (p2'.isList.at fun o e => hk _ o e) fun h'' tk acc c as hk2 hS hl hG hacc => ?_
    have hk3 : ∀ b o, s1.heap.get? b = some o → h''.get? b = some o := fun b o e => by
      have lt := Heap.lt_size e
      have ne : ∀ i : Nat, b ≠ s1.heap.objs.size + i := fun i => Nat.ne_of_lt (Nat.lt_of_lt_of_le lt (Nat.le_add_right _ _))
      exact hk2 b o (ne 4) (ne 3) (ne 0) (ne 1) (hk b o e)
    have hs' : s1.heap.objs.size ≤ h'.objs.size := by rw [hsz]; exact Nat.le_add_right _ _
    obtain ⟨n1, n2, n3, n4, J⟩ := zip_laid (tk := tk) I1 hz1 rv2 rv2' hs' hk3 hS (by simpa using hl) hG hacc
    have stS : StOk C g1 (upd H1 h'.objs.size (.lst (as.map V.ref))) := st1.fresh n1
    obtain ⟨g2, f2, st2, rr⟩ := putP_rep as vs vs' l m g1 _ stS (fun a ha => (upd_ne (ne_mem ha n3)).trans (n2 a ha)) n4 (by rw [hl, List.size_toArray, List.size_toArray]; omega) rvs rvs'
    have fr : Gr g1 H1 g1 (upd H1 h'.objs.size (.lst (as.map V.ref))) := .fresh n1
    have gS : g2 h'.objs.size = none := by
      rw [f2.km _ _ upd_same]
      exact st1.1.none_of n1
    refine ⟨.ref h'.objs.size, _, J, rfl, k _ _ ⟨.new (zip2D l m), g2, q, f1.trans (fr.trans f2), st2, ⟨_, as.map V.ref, rfl, gS, by rw [putP_off as _ _ n3, upd_same], rr⟩, fun l e => ⟨_, rfl, f1.nm _ n1⟩⟩⟩
end
end TL
namespace TL
open PySem PySem.Spec PyProof.Rows L2 LamX NdefX

section
variable {C : CC} {B : Base} {X : Cx} {a b c e : Expr} {ta tb tc te : TEd} {pos : Pos}
/-! ### chains -/
def boolV (x : AV) (Q : Bool → Prop) : Prop := match x with
  | .dat (.bool b) => Q b
  | _ => False
theorem boolV_get {x : AV} {Q : Bool → Prop} (h : boolV x Q) : ∃ b, x = .dat (.bool b) ∧ Q b := by
  unfold boolV at h
  split at h
  · exact ⟨_, rfl, h⟩
  · exact h.elim
def eCh (f f' : Op2) (ta tb tc : TEd) : TEd := fun env Q E => ta env (fun x => tb env (fun y => ap2 f x y fun r => boolV r fun k => if k = true then tc env (fun z => ap2 f' y z Q) E else Q (.dat (.bool false))) E) E
theorem resV_bool {g : Gh} {H : Hp} {k : Bool} {v : V} {H' : Hp} (r : ResV C g H (.dat (.bool k)) v H') : v = .bl k ∧ ∃ g', Gr g H g' H' ∧ StOk C g' H' := by
  obtain ⟨g', f, st, r, _⟩ := r
  exact ⟨RepV.isBl st.1 r, g', f, st⟩
theorem chW {f f' : Op2} {σ : L2.St} {H : Hp} {Q : VK} (h : tD C B (eCh f f' ta tb tc) σ H Q) : tChain (rD C f) (rD C f') (tD C B ta) (tD C B tb) (tD C B tc) σ H Q := by
  obtain ⟨g, env, Qd, st, eo, h, k⟩ := h
  refine ⟨g, env, _, st, eo, h, fun v H1 ⟨x, g1, hx, f1, st1, r1, n1⟩ => ?_⟩
  refine ⟨g1, env, _, st1, eo.fr f1, hx, fun w H2 ⟨y, g2, hy, f2, st2, r2, n2⟩ => ?_⟩
  obtain ⟨dx, dy, a, ex, ey, ea, q⟩ := ap2_get hy
  obtain ⟨kb, rfl, q⟩ := boolV_get q
  refine ⟨g2, dx, dy, _, st2, (r1.fr f2).b st2 ex, r2.b st2 ey, ea, fun z H3 r => ?_⟩
  obtain ⟨ez, g3, f3, st3⟩ := resV_bool r
  refine ⟨kb, ez, ?_⟩
  cases kb with
  | false => exact k _ _ ⟨_, g3, q, f1.trans (f2.trans f3), st3, .bl false, fun _ z => by cases z⟩
  | true =>
    refine ⟨g3, env, _, st3, eo.fr (f1.trans (f2.trans f3)), q, fun w' H4 ⟨x4, g4, h4, f4, st4, r4, n4⟩ => ?_⟩
    obtain ⟨d1, d2, a', e1, e2, e3, q⟩ := ap2_get h4
    exact ⟨g4, d1, d2, a', st4, (r2.fr (f3.trans f4)).b st4 e1, r4.b st4 e2, e3, fun z H5 r => k z H5 (r.fin (f1.trans (f2.trans (f3.trans f4))) q)⟩
theorem de_ch {op op' : CmpOp} {f f' : Op2} (ho : OpR X (compareOp op) (rD C f)) (ho' : OpR X (compareOp op') (rD C f')) (ha : DE C B X a ta) (hb : DE C B X b tb) (hc : DE C B X c tc) (hm : lastMarks [op, op'] [b, c] = false) : DE C B X (.Compare a [op, op'] [b, c] pos) (eCh f f' ta tb tc) :=
  peW (pe_chain ho ho' ha hb hc hm) fun _ _ _ => chW
theorem dt_ch {op op' : CmpOp} {f f' : Op2} (ho : OpR X (compareOp op) (rD C f)) (ho' : OpR X (compareOp op') (rD C f')) (ha : DE C B X a ta) (hb : DE C B X b tb) (hc : DE C B X c tc) (hm : lastMarks [op, op'] [b, c] = false) : DT C B X (.Compare a [op, op'] [b, c] pos) (tB (eCh f f' ta tb tc)) := by
  refine ptW (pt_chain ho ho' ha hb hc hm) fun σ H Q h => ?_
  obtain ⟨g, env, Qd, st, eo, h, k⟩ := h
  have h2 := tBD (C := C) (B := B) (t := eCh f f' ta tb tc) (σ := σ) (H := H) (Q := Q) ⟨g, env, Qd, st, eo, h, k⟩
  exact chW h2

/-! ### a list comprehension stored in a name, on one line -/
theorem lcW {t : Tg} {ti : TId} {tt : TTd} {te : TEd} {tg : Expr} {own : List Nat} (hN : X.N.Nodup) (hsl : ∀ i ∈ t.slots, i ∈ own) {σ : L2.St} {H : Hp} {Q : VK} (h : tD C B (eLc ti t tt te own) σ H Q) : tLc (tDI C B ti) (t.g C.K) (tDT C B tt) (tD C B te) own σ H Q := by
  obtain ⟨g, env, Qd, st, eo, h, k⟩ := h
  refine ⟨g, env, _, st, eo, h, fun J xs g1 H1 q f1 st1 y1 hlen D hD => ?_⟩
  have gD : g1 D = none := st1.1.none_of hD
  refine ⟨fun i m H2 => m = xs.length - i ∧ i ≤ xs.length ∧ ∃ g2 acc vs, Gr g1 H1 g2 H2 ∧ StOk C g2 H2 ∧ g2 D = none ∧ H2 D = some (.lst vs) ∧ RepVs C.K g2 vs acc ∧ acc.length ≤ i ∧ compGo t tt te (wipeE env own) Qd XF (xs.drop i) acc,
    ⟨xs.length, by simp, Nat.zero_le _, g1, [], [], .fresh hD, st1.fresh hD, gD, upd_same, .nil, Nat.le_refl _, by simpa using q⟩, ?_⟩
  rintro i m H2 ⟨rfl, hi, g2, acc, vs, f2, st2, gD2, hD2, rv, hl, q2⟩
  obtain ⟨go, stop⟩ := y1 i g2 H2 f2.gm st2
  by_cases hlt : i < xs.length
  · have ed : xs[i]? = some xs[i] := List.getElem?_eq_getElem hlt
    obtain ⟨go, yld⟩ := go _ ed
    rw [List.drop_eq_getElem_cons hlt] at q2
    unfold compGo at q2
    split at q2
    · rename_i env3 e3
      refine .inr ⟨go, fun H' => ∃ g2 acc vs, Gr g1 H1 g2 H' ∧ StOk C g2 H' ∧ g2 D = none ∧ H' D = some (.lst vs) ∧ RepVs C.K g2 vs acc ∧ acc.length ≤ i + 1 ∧ compGo t tt te (wipeE env own) Qd XF (xs.drop (i + 1)) acc, fun H' n => ⟨xs.length - (i + 1), by omega, rfl, hlt, n⟩, fun x H3 hy => ?_⟩
      obtain ⟨g3, f3, st3, r3⟩ := yld x H3 hy
      have keepD : ∀ {ga gb : Gh} {Ha Hb : Hp}, Gr ga Ha gb Hb → ga D = none → Ha D = some (.lst vs) → gb D = none ∧ Hb D = some (.lst vs) := fun f n h => ⟨by rw [f.km _ _ h]; exact n, f.hm _ _ h (by rw [n]; exact fun z => by cases z) fun ps z => by cases z⟩
      have ew := ((eo.fr (f1.trans (f2.trans f3))).wipe own)
      refine Tg.ok (vs0 := own) st3 ew r3 e3 hsl fun σ3 eo3 hw => ⟨?_, ?_⟩
      · rw [hw]
        exact de_lc.wipe_wipe σ _
      · refine ⟨g3, env3, _, st3, eo3, q2, fun b g4 H4 q4 f4 st4 => ?_⟩
        obtain ⟨d1, d2⟩ := keepD (f3.trans f4) gD2 hD2
        cases b with
        | true =>
          rw [if_pos rfl]
          refine ⟨g4, env3, _, st4, eo3.fr f4, q4, fun v H5 ⟨a, g5, q5, f5, st5, r5, n5⟩ => ?_⟩
          try dsimp only at q5
          split at q5
          · rename_i d ed
            obtain ⟨g6, f6, st6, r6, m6⟩ := freeze st4 f5 st5 r5 n5 (sd_st ed)
            obtain ⟨d3, d4⟩ := keepD f6 d1 d2
            have l2 : vs.length = acc.length := Paired.len rv
            refine ⟨vs, d4, by rw [sizeLine_eq]; omega, g6, acc ++ [d], vs ++ [v], ((f2.trans f3).trans (f4.trans f6)).young hD, st6.own d3 d4, d3, upd_same, RepVs.append (RepVs.mono ((f3.trans (f4.trans f6)).gm) rv) (.cons r6 .nil), by simp; omega, q5⟩
          · exact q5.elim
        | false =>
          rw [if_neg (by decide)]
          exact ⟨g4, acc, vs, f2.trans (f3.trans f4), st4, d1, d2, RepVs.mono (f3.trans f4).gm rv, by omega, q4⟩
    · exact q2.elim
  · have e : i = xs.length := by omega
    subst e
    rw [List.drop_length] at q2
    refine .inl ⟨stop rfl, k _ _ ⟨.new acc, g2, q2, f1.trans f2, st2, ⟨D, vs, rfl, gD2, hD2, rv⟩, fun l e => ⟨D, rfl, f1.nm _ hD⟩⟩⟩
theorem ds_setLc {i : Nat} {y : Str} {py : Pos} {elt tg iter : Expr} {ifs : List Expr} {scope : Scope} {own : List (Str × Nat)} {lpos spos : Pos} {ti : TId} {t : Tg} {tt : TTd} {te : TEd} (hc : X.calm = true) (hN : X.N.Nodup) (hy : X.N[i]? = some y) (hyl : X.env.scope.names.lookup y = some .local)
    (hsw : swapsWith (.ListComp elt [⟨tg, iter, ifs, 0⟩] scope lpos) (some (.Name y py)) spos.line X.env = pure true) (hi : DI C B X tg iter ti) (ok : BlkOk X.N X.env.scope scope own) (hsl : ∀ i ∈ t.slots, i ∈ own.map (·.2))
    (hg : ∀ (s : Shared) (H : Hp) (D : Addr) (cl : List (Str × Addr)) (fp : List Addr), PG (X.blk s H scope (compEnvC scope cl D X.env) fp) tg (t.g C.K)) (ht : ∀ (s : Shared) (H : Hp) (D : Addr) (cl : List (Str × Addr)) (fp : List Addr), DTs C B (X.blk s H scope (compEnvC scope cl D X.env) fp) ifs tt)
    (he : ∀ (s : Shared) (H : Hp) (D : Addr) (cl : List (Str × Addr)) (fp : List Addr), DE C B (X.blk s H scope (compEnvC scope cl D X.env) fp) elt te) (hs : ∀ x, foldedSetIterable iter X.env x = pure x) :
    DS C B X (.Assign [.Name y py] (.ListComp elt [⟨tg, iter, ifs, 0⟩] scope lpos) spos) (sSet i (eLc ti t tt te (own.map (·.2)))) :=
  psW (ps_setLc hc hN hy hyl hsw hi ok hg ht he hs) fun D σ H h => lcW (tg := tg) hN hsl (setW h)

/-! ### a value stored frozen -/
def storeF (env : En) (i : Nat) (a : AV) : Option En := match a.st with
  | some b => storeA env i b
  | none => none
def sSetF (i : Nat) (te : TEd) : TSd := fun D env E => te env (fun a => match storeF env i a with
  | some env' => D.nx env'
  | none => False) E
theorem setFW {i : Nat} {σ : L2.St} {H : Hp} {D : Ends} (h : tDS C B (sSetF i te) D σ H) : tAsg (tD C B te) (gName i) D σ H := by
  obtain ⟨g, env, Dd, st, fb, eo, h, ends⟩ := h
  refine ⟨g, env, _, st, eo, h, fun v H1 ⟨a, g1, q, f1, st1, r1, n1⟩ => ?_⟩
  try dsimp only at q
  split at q
  · rename_i env' e'
    unfold storeF at e'
    split at e'
    · rename_i b eb
      obtain ⟨g2, f2, st2, r2, m2⟩ := freeze st f1 st1 r1 n1 eb
      refine ends.nx _ _ g2 H1 q ⟨f2.gm, st2, fb.trans f2⟩ ((eo.fr f2).store i r2 e' fun l el => ?_)
      subst el
      cases a with
      | new l' => cases eb
      | dat d => cases eb
      | clo k b => cases eb
      | well => cases eb
      | clr k b => cases eb
      | brw l' => cases eb
    · cases e'
  · exact q.elim

/-! ### x.extend(e), e a list just made -/
def sExt (i : Nat) (te : TEd) : TSd := fun D env E => match ownAt env i with
  | some l => te env (fun a => match a with
    | .new m => l.length + m.length ≤ 16777216 ∧ D.nx (env.set i (some (.own (l ++ m))))
    | _ => False) E
  | none => False
theorem ds_ext {i : Nat} {x : Str} {px pa pc : Pos} (hK : X.K = C.K) (hN : X.N[i]? = some x) (hv : Vis X.env.scope x) (hd : (x == ("__debug__" : Str)) = false) (hcd : (x == ("__classdict__" : Str)) = false) (he : DE C B X e te) (hs : isStar e = false) (h2 : (pa.endLine == pc.line) = true) :
    DS C B X (.Expr (.Call (.Attribute (.Name x px) "extend" pa) [e] [] pc) pos) (sExt i te) := by
  have base : PE X (.Call (.Attribute (.Name x px) "extend" pa) [e] [] pc) (tBM X.K "list" rExtend (tVar i) (tCons (tD C B te) tNil)) :=
    pe_bm PySem.F.plainAttrs_list PySem.F.slot_list_extend PySem.F.type_list_extend mt_extend (pe_var hN hv hd hcd) (pa_cons he pa_nil (star_cons _ _ _ hs)) rfl (few_one e hs) h2 (star_cons _ _ _ hs) rfl
  refine psW (ps_expr base rfl) fun D σ H h => ?_
  obtain ⟨g, env, Dd, st, fb, eo, h, ends⟩ := h
  unfold sExt at h
  split at h
  · rename_i l hoo
    obtain ⟨p, vs, hp, hg, hH, hr, bp⟩ := eo.own hoo
    refine ⟨.ref p, hp, .inl ⟨rfl, vs, .inl (.inl hH)⟩, ?_⟩
    refine ⟨g, env, _, st, eo, h, fun v H1 ⟨a, g1, q, f1, st1, r1, n1⟩ => ?_⟩
    try dsimp only at q
    split at q
    · rename_i m
      obtain ⟨p2, ws, rfl, gw, hw, rw2⟩ := r1
      have hH1 := f1.hm p _ hH (by rw [hg]; exact fun z => by cases z) (fun ps z => by cases z)
      have hg2 : g1 p = none := by rw [f1.km p _ hH]; exact hg
      refine ⟨p, p2, vs, ws, rfl, rfl, hH1, hw, by rw [sizeLine_eq, Paired.len hr, Paired.len rw2]; exact q.1, ?_⟩
      obtain ⟨s3, eo3⟩ := own_upd (m := l ++ m) (ws := vs ++ ws) st1 (fb.trans f1) (eo.fr f1) hoo hp hg2 hH1 bp (RepVs.append (RepVs.mono f1.gm hr) rw2)
      exact ends.nx _ _ g1 _ q.2 ⟨gle.trans f1.gm s3.le, s3.st, s3.fb⟩ eo3
    · exact q.elim
  · exact h.elim
end
end TL
namespace TL
open PySem PySem.Spec PyProof.Rows L2 LamX NdefX

/-! ### the rules by a context's facts -/
section
variable {C : CC} {B : Base} {X : Cx} {N : List Str} {q : Str} {sc : Scope} {k : Nat} {a b c e : Expr} {es : List Expr} {ta tb tc te : TEd} {t : TAd} {sa sb tt : TTd} {p pos : Pos} {i : Nat} {x : Str}
theorem FX.hu (F : FX C N sc k X) : X.A.units + 64 < cLine := by have := F.room.un; omega
theorem FX.mg (F : FX C N sc k X) {y : Str} {o : Option Value} (h : C.mg y = o) : X.mg y = o := by rw [F.xo.mg]; exact h
theorem FX.add (F : FX C N sc k X) (ha : DE C B X a ta) (hb : DE C B X b tb) : DE C B X (.BinOp a .Add b pos) (eOp dAdd ta tb) := de_op (opR_add F.xo.K) ha hb
theorem FX.sub (F : FX C N sc k X) (ha : DE C B X a ta) (hb : DE C B X b tb) : DE C B X (.BinOp a .Sub b pos) (eOp dSub ta tb) := de_op opR_sub ha hb
theorem FX.mul (F : FX C N sc k X) (ha : DE C B X a ta) (hb : DE C B X b tb) : DE C B X (.BinOp a .Mult b pos) (eOp dMul ta tb) := de_op opR_mul ha hb
theorem FX.mod (F : FX C N sc k X) (ha : DE C B X a ta) (hb : DE C B X b tb) : DE C B X (.BinOp a .Mod b pos) (eOp dMod ta tb) := de_op opR_mod ha hb
theorem FX.fdiv (F : FX C N sc k X) (ha : DE C B X a ta) (hb : DE C B X b tb) : DE C B X (.BinOp a .FloorDiv b pos) (eOp dFdiv ta tb) := de_op opR_fdiv ha hb
theorem FX.pow (F : FX C N sc k X) (ha : DE C B X a ta) (hb : DE C B X b tb) : DE C B X (.BinOp a .Pow b pos) (eOp dPow ta tb) := de_op opR_pow ha hb
theorem FX.ix (F : FX C N sc k X) (ha : DE C B X a ta) (hb : DE C B X b tb) (h : isSlice b = false) : DE C B X (.Subscript a b pos) (eOp dIx ta tb) := de_ix F.xo.K ha hb h
theorem FX.sl {lo hi : Option Expr} {tl th : TOd} {p2 : Pos} (F : FX C N sc k X) (ha : DE C B X a ta) (hl : DO C B X lo tl) (hh : DO C B X hi th) : DE C B X (.Subscript a (.Slice lo hi none p2) pos) (eSl ta tl th) := de_sl F.xo.K ha hl hh
/-- a comparison's rule -/
structure CmpR (C : CC) (X : Cx) (op : CmpOp) (f : Op2) : Prop where
  r : OpR X (compareOp op) (rD C f)
theorem FX.lt (F : FX C N sc k X) : CmpR C X .Lt dLt := ⟨opR_lt⟩
theorem FX.le (F : FX C N sc k X) : CmpR C X .LtE dLe := ⟨opR_le⟩
theorem FX.gt (F : FX C N sc k X) : CmpR C X .Gt dGt := ⟨opR_gt⟩
theorem FX.ge (F : FX C N sc k X) : CmpR C X .GtE dGe := ⟨opR_ge⟩
theorem FX.is (F : FX C N sc k X) : CmpR C X .Is dIs := ⟨opR_is⟩
theorem FX.isn (F : FX C N sc k X) : CmpR C X .IsNot dIsNot := ⟨opR_isnot⟩
theorem FX.eq (F : FX C N sc k X) : CmpR C X .Eq dEq := ⟨opR_eq F.xo.K F.hu⟩
theorem FX.ne (F : FX C N sc k X) : CmpR C X .NotEq dNe := ⟨opR_ne F.xo.K F.hu⟩
theorem CmpR.val {op : CmpOp} {f : Op2} (o : CmpR C X op f) (ha : DE C B X a ta) (hb : DE C B X b tb) (hm : behindInMarks op b = false) : DE C B X (.Compare a [op] [b] pos) (eOp f ta tb) := de_cmp o.r ha hb hm
theorem CmpR.tst {op : CmpOp} {f : Op2} (o : CmpR C X op f) (ha : DE C B X a ta) (hb : DE C B X b tb) (hm : behindInMarks op b = false) : DT C B X (.Compare a [op] [b] pos) (tB (eOp f ta tb)) := dt_cmp o.r ha hb hm
theorem CmpR.ch {op op' : CmpOp} {f f' : Op2} (o : CmpR C X op f) (o' : CmpR C X op' f') (ha : DE C B X a ta) (hb : DE C B X b tb) (hc : DE C B X c tc) (hm : lastMarks [op, op'] [b, c] = false) : DE C B X (.Compare a [op, op'] [b, c] pos) (eCh f f' ta tb tc) := de_ch o.r o'.r ha hb hc hm
theorem CmpR.cht {op op' : CmpOp} {f f' : Op2} (o : CmpR C X op f) (o' : CmpR C X op' f') (ha : DE C B X a ta) (hb : DE C B X b tb) (hc : DE C B X c tc) (hm : lastMarks [op, op'] [b, c] = false) : DT C B X (.Compare a [op, op'] [b, c] pos) (tB (eCh f f' ta tb tc)) := dt_ch o.r o'.r ha hb hc hm
theorem FX.tru (F : FX C N sc k X) (ha : DE C B X a ta) (he : ∀ whole, isTrue a X.env whole = (do let v ← whole; standAt a.pos; holding [v] (truthy v))) : DT C B X a (tTru ta) := dt_tru F.xo.K ha he
/-! built-ins -/
theorem FX.len (F : FX C N sc k X) (g : NG X "len") (m : C.mg "len" = none) (ha : DA C B X [a] t) (hs : isStar a = false) : DE C B X (.Call (.Name "len" p) [a] [] pos) (eCB fLen t) := de_callB (c_len F.xo.K) g.g (F.mg m) (by decide +kernel) ha (by decide) (by decide) rfl hs
theorem FX.sum (F : FX C N sc k X) (g : NG X "sum") (m : C.mg "sum" = none) (ha : DA C B X [a] t) (hs : isStar a = false) : DE C B X (.Call (.Name "sum" p) [a] [] pos) (eCB fSum t) := de_callB (c_sum F.xo.K F.xo.calm) g.g (F.mg m) (by decide +kernel) ha (by decide) (by decide) rfl hs
theorem FX.all (F : FX C N sc k X) (g : NG X "all") (m : C.mg "all" = none) (ha : DA C B X [a] t) (hs : isStar a = false) : DE C B X (.Call (.Name "all" p) [a] [] pos) (eCB fAll t) := de_callB (c_all F.xo.K F.xo.calm) g.g (F.mg m) (by decide +kernel) ha (by decide) (by decide) rfl hs
theorem FX.any (F : FX C N sc k X) (g : NG X "any") (m : C.mg "any" = none) (ha : DA C B X [a] t) (hs : isStar a = false) : DE C B X (.Call (.Name "any" p) [a] [] pos) (eCB fAny t) := de_callB (c_any F.xo.K F.xo.calm) g.g (F.mg m) (by decide +kernel) ha (by decide) (by decide) rfl hs
theorem FX.abs (F : FX C N sc k X) (g : NG X "abs") (m : C.mg "abs" = none) (ha : DA C B X [a] t) (hs : isStar a = false) : DE C B X (.Call (.Name "abs" p) [a] [] pos) (eCB fAbs t) := de_callB c_abs g.g (F.mg m) (by decide +kernel) ha (by decide) (by decide) rfl hs
theorem FX.repr (F : FX C N sc k X) (g : NG X "repr") (m : C.mg "repr" = none) (ha : DA C B X [a] t) (hs : isStar a = false) : DE C B X (.Call (.Name "repr" p) [a] [] pos) (eCB fRepr t) := de_callB (c_repr F.xo.K (F.room.mono (Nat.zero_le _)) F.xo.gd) g.g (F.mg m) (by decide +kernel) ha (by decide) (by decide) rfl hs
theorem FX.max (F : FX C N sc k X) (g : NG X "max") (m : C.mg "max" = none) (ha : DA C B X (a :: es) t) (hs0 : isStar a = false) (hs : es.any isStar = false) : DE C B X (.Call (.Name "max" p) (a :: es) [] pos) (eCB fMax t) := de_callB (c_max F.xo.K F.xo.calm) g.g (F.mg m) (by decide +kernel) ha (by decide) (by decide) hs hs0
theorem FX.min (F : FX C N sc k X) (g : NG X "min") (m : C.mg "min" = none) (ha : DA C B X (a :: es) t) (hs0 : isStar a = false) (hs : es.any isStar = false) : DE C B X (.Call (.Name "min" p) (a :: es) [] pos) (eCB fMin t) := de_callB (c_min F.xo.K F.xo.calm) g.g (F.mg m) (by decide +kernel) ha (by decide) (by decide) hs hs0
theorem FX.int (F : FX C N sc k X) (g : NG X "int") (m : C.mg "int" = none) (ha : DA C B X [a] t) (hs : isStar a = false) : DE C B X (.Call (.Name "int" p) [a] [] pos) (eCB fInt t) := de_callTy c_int g.g (F.mg m) (by decide +kernel) ha (by decide) (by decide) rfl hs
theorem FX.tuple (F : FX C N sc k X) (g : NG X "tuple") (m : C.mg "tuple" = none) (ha : DA C B X [a] t) (hs : isStar a = false) : DE C B X (.Call (.Name "tuple" p) [a] [] pos) (eCB fTuple t) := de_callTy (c_tuple F.xo.K) g.g (F.mg m) (by decide +kernel) ha (by decide) (by decide) rfl hs
theorem FX.list (F : FX C N sc k X) (g : NG X "list") (m : C.mg "list" = none) (ha : DA C B X [a] t) (hs : isStar a = false) : DE C B X (.Call (.Name "list" p) [a] [] pos) (eCB fList t) := de_callTy (c_list F.xo.K) g.g (F.mg m) (by decide +kernel) ha (by decide) (by decide) rfl hs
theorem FX.lzip {p2 pos2 : Pos} (F : FX C N sc k X) (g : NG X "list") (m : C.mg "list" = none) (g2 : NG X "zip") (m2 : C.mg "zip" = none) (ha : DA C B X [a, b] t) (hs : isStar a = false) (hs2 : isStar b = false) : DE C B X (.Call (.Name "list" p) [.Call (.Name "zip" p2) [a, b] [] pos2] [] pos) (eLZip t) :=
  de_lzip F.xo.K F.xo.calm g.g (F.mg m) g2.g (F.mg m2) ha hs hs2
theorem FX.isInt {p2 : Pos} (F : FX C N sc k X) (g : NG X "isinstance") (m : C.mg "isinstance" = none) (g2 : NG X "int") (m2 : C.mg "int" = none) (ha : DE C B X a ta) (hs : isStar a = false) : DE C B X (.Call (.Name "isinstance" p) [a, .Name "int" p2] [] pos) (eIsi "int" ta) :=
  de_isi F.xo.K g.g (F.mg m) g2.g (F.mg m2) (by decide +kernel) (by decide) (by decide) ha hs
theorem FX.isBool {p2 : Pos} (F : FX C N sc k X) (g : NG X "isinstance") (m : C.mg "isinstance" = none) (g2 : NG X "bool") (m2 : C.mg "bool" = none) (ha : DE C B X a ta) (hs : isStar a = false) : DE C B X (.Call (.Name "isinstance" p) [a, .Name "bool" p2] [] pos) (eIsi "bool" ta) :=
  de_isi F.xo.K g.g (F.mg m) g2.g (F.mg m2) (by decide +kernel) (by decide) (by decide) ha hs
theorem FX.isTup {p2 : Pos} (F : FX C N sc k X) (g : NG X "isinstance") (m : C.mg "isinstance" = none) (g2 : NG X "tuple") (m2 : C.mg "tuple" = none) (ha : DE C B X a ta) (hs : isStar a = false) : DE C B X (.Call (.Name "isinstance" p) [a, .Name "tuple" p2] [] pos) (eIsi "tuple" ta) :=
  de_isi F.xo.K g.g (F.mg m) g2.g (F.mg m2) (by decide +kernel) (by decide) (by decide) ha hs
theorem FX.isStr {p2 : Pos} (F : FX C N sc k X) (g : NG X "isinstance") (m : C.mg "isinstance" = none) (g2 : NG X "str") (m2 : C.mg "str" = none) (ha : DE C B X a ta) (hs : isStar a = false) : DE C B X (.Call (.Name "isinstance" p) [a, .Name "str" p2] [] pos) (eIsi "str" ta) :=
  de_isi F.xo.K g.g (F.mg m) g2.g (F.mg m2) (by decide +kernel) (by decide) (by decide) ha hs
theorem FX.gint {j : Int} (F : FX C N sc k X) (g : NG X x) (m : ∃ t, C.mg x = some (.int j t)) : DE C B X (.Name x pos) (eC (.int j)) := de_gint g.g (let ⟨t, h⟩ := m; ⟨t, F.mg h⟩) g.d1
theorem FX.gstr {j : Str} (F : FX C N sc k X) (g : NG X x) (m : ∃ t, C.mg x = some (.str j t)) : DE C B X (.Name x pos) (eC (.str j)) := de_gstr g.g (let ⟨t, h⟩ := m; ⟨t, F.mg h⟩) g.d1
/-! calls -/
theorem FX.call {j : Nat} {ps : List Str} {sp : DSp} (F : FX C N sc k X) (d : Def C j x ps sp) (hj : j ≤ k) (g : NG X x) (ha : DA C B X (e :: es) t) (hs0 : isStar e = false) (hs : es.any isStar = false) : DE C B X (.Call (.Name x p) (e :: es) [] pos) (eCall sp t) :=
  de_call F.xo d (F.room.mono hj) g.g ha g.d1 hs0 hs
theorem FX.call0 {j : Nat} {ps : List Str} {sp : DSp} (F : FX C N sc k X) (d : Def C j x ps sp) (hj : j ≤ k) (g : NG X x) : DE C B X (.Call (.Name x p) [] [] pos) (eCall sp aNil) := de_call0 F.xo d (F.room.mono hj) g.g g.d1
theorem FX.callK {j : Nat} {ps : List Str} {sp : DSp} {kws : List Keyword} (F : FX C N sc k X) (d : DefK C j x ps (kwNames kws) sp) (hj : j ≤ k) (g : NG X x) (hkw : DK C B X kws t) (hall : kwAll kws = true) : DE C B X (.Call (.Name x p) [] kws pos) (eCallK sp (kwNames kws) ps t) :=
  de_callK F.xo d (F.room.mono hj) g.g hkw hall g.d1
theorem FX.app (F : FX C N sc k X) (v : NV X i x) (ha : DA C B X (e :: es) t) (hs0 : isStar e = false) (hs : es.any isStar = false) : DE C B X (.Call (.Name x p) (e :: es) [] pos) (eApp i k t) := de_app F.xo F.room v.at_ v.vis v.d1 v.d2 ha hs0 hs
def lamB' (N : List Str) (sc scope : Scope) (ps fr : List Str) (js : List Nat) : Bool :=
  nscB' && scope.names.all (fun y => !decide (y.2 = .free) || (decide (sc.names.lookup y.1 = some .cell) || decide (sc.names.lookup y.1 = some .free))) && fr.all (fun y => decide ((y, NameKind.free) ∈ scope.names)) && decide (js.map (fun j => N[j]?) = fr.map some)
where
  nscB' : Bool := true
theorem BX.lam {params : Arguments} {scope : Scope} {lpos : Pos} {N' ps fr : List Str} {js : List Nat} (F : BX C N q sc k X) (tb : TabX C X) (hn : C.nm lpos.line lpos.col = q ++ "<lambda>") (hd : defaultsOf params X.env = ([], [])) (h : lamB' N sc scope ps fr js = true) (hsc : nscB N' ps fr scope = true)
    (hb : ∀ (q : Str) (body : Expr) (cl : List (Str × Addr)) (pm cv ctv : Value) (us : List Value), us.length = ps.length → bindArgs (PySem.W.kla_fn "<lambda>" q params body scope cl pm cv ctv) ⟨us, []⟩ = pure (ps.zip us)) : LamOk C X params scope lpos N' ps fr js := by
  unfold lamB' at h
  simp only [Bool.and_eq_true, decide_eq_true_eq, List.all_eq_true, Bool.or_eq_true, Bool.not_eq_true', decide_eq_false_iff_not] at h
  obtain ⟨⟨⟨_, h1⟩, h2⟩, h3⟩ := h
  refine ⟨tb, by rw [F.q]; exact hn, hd, fun y hy e => ?_, h2, by rw [F.N]; exact h3, nscope_by hsc, hb⟩
  rw [F.sc]
  rcases h1 y hy with z | z
  · exact absurd e z
  · exact z
theorem BX.callL {j m : Nat} {qs : List Str} {sp : DSp} {params : Arguments} {body : Expr} {scope : Scope} {lpos : Pos} {N' ps fr : List Str} {js : List Nat} (F : BX C N q sc k X) (d : Def C j x qs sp) (hj : j ≤ k) (g : NG X x) (lo : LamOk C X params scope lpos N' ps fr js) (ha : DL C B X [.Lambda params body scope lpos] params body scope aNil → DL C B X (e :: es) params body scope t)
    (hbody : ∀ (X' : Cx) (B' : Base), FX C N' scope m X' → DE C B' X' body tb) (hs0 : isStar e = false) (hs : es.any isStar = false) : DE C B X (.Call (.Name x p) (e :: es) [] pos) (eCallL sp (mkLam N' ps.length m tb js) t) := by
  refine de_callL F.xo d (F.room.mono hj) g.g (ha (dl_one lo)) lo F.fn (fun c' X' B' hx => hbody X' B' ?_) g.d1 hs0 hs
  obtain ⟨f, A, outer, s, H, rfl, hr, hgd⟩ := hx.ex
  exact ⟨⟨rfl, rfl, rfl, rfl, rfl, rfl, lo.sc.nd, hgd⟩, rfl, rfl, hr⟩
/-! comprehensions, loops, stores -/
theorem FX.lc {elt tg iter : Expr} {ifs : List Expr} {scope : Scope} {own : List (Str × Nat)} {ti : TId} {T : Tg} (F : FX C N sc k X) (hi : DI C B X tg iter ti) (ok : (blkB N sc scope own && T.slots.all (fun i => decide (i ∈ own.map (·.2)))) = true)
    (hg : ∀ X', FX C N (relS scope sc) k X' → PG X' tg (T.g C.K)) (ht : ∀ X', FX C N (relS scope sc) k X' → DTs C B X' ifs tt) (he : ∀ X', FX C N (relS scope sc) k X' → DE C B X' elt te) (hs : ∀ x, foldedSetIterable iter X.env x = pure x) :
    DE C B X (.ListComp elt [⟨tg, iter, ifs, 0⟩] scope pos) (eLc ti T tt te (own.map (·.2))) := by
  simp only [Bool.and_eq_true, List.all_eq_true, decide_eq_true_eq] at ok
  exact de_lc F.xo.calm F.xo.nd hi (F.bk ok.1) ok.2 (fun s H D cl fp => hg _ F.blk) (fun s H D cl fp => ht _ F.blk) (fun s H D cl fp => he _ F.blk) hs
def swB (sc scope : Scope) (y : Str) (py lpos : Pos) : Bool := (if sc.kind.isAnnotationScope = true then ScopeKind.function else sc.kind) == .function && sc.names.lookup y == some .local && py.line == lpos.line && !(scope.names.any fun (n, k) => n == y && (k == .local || k == .cell))
theorem FX.set (F : FX C N sc k X) (n : NL X i x) (he : DE C B X e te) (hs : swapsWith e (some (.Name x p)) pos.line X.env = pure false) : DS C B X (.Assign [.Name x p] e pos) (sSet i te) := ds_set F.xo.nd n.v.at_ n.loc he hs n.pln
theorem FX.setF (F : FX C N sc k X) (n : NL X i x) (he : DE C B X e te) (hs : swapsWith e (some (.Name x p)) pos.line X.env = pure false) : DS C B X (.Assign [.Name x p] e pos) (sSetF i te) := psW (ps_set F.xo.nd n.v.at_ n.loc he hs n.pln) fun _ _ _ => setFW
theorem FX.swaps {elt : Expr} {gens : List Comprehension} {scope : Scope} {lpos : Pos} {ln : Nat} (F : FX C N sc k X) : swapsWith (.ListComp elt gens scope lpos) (some (.Name x p)) ln X.env = pure (swB sc scope x p lpos) := by
  show pure (X.env.blockKind == .function && X.env.kindOf x == some .local && p.line == lpos.line && !(scope.names.any fun (n, k) => n == x && (k == .local || k == .cell))) = _
  unfold Env.blockKind Env.kindOf swB
  rw [F.sc]
/-- y = [..], stored ahead of the block's end -/
theorem FX.setL {elt tg iter : Expr} {ifs : List Expr} {scope : Scope} {own : List (Str × Nat)} {lpos : Pos} {ti : TId} {T : Tg} (F : FX C N sc k X) (n : NP X i x) (hsw : swB sc scope x p lpos = true) (hi : DI C B X tg iter ti) (ok : (blkB N sc scope own && T.slots.all (fun i => decide (i ∈ own.map (·.2)))) = true)
    (hg : ∀ X', FX C N (relS scope sc) k X' → PG X' tg (T.g C.K)) (ht : ∀ X', FX C N (relS scope sc) k X' → DTs C B X' ifs tt) (he : ∀ X', FX C N (relS scope sc) k X' → DE C B X' elt te) (hs : ∀ x, foldedSetIterable iter X.env x = pure x) :
    DS C B X (.Assign [.Name x p] (.ListComp elt [⟨tg, iter, ifs, 0⟩] scope lpos) pos) (sSet i (eLc ti T tt te (own.map (·.2)))) := by
  simp only [Bool.and_eq_true, List.all_eq_true, decide_eq_true_eq] at ok
  exact ds_setLc F.xo.calm F.xo.nd n.l.v.at_ n.p (by rw [F.swaps, hsw]) hi (F.bk ok.1) ok.2 (fun s H D cl fp => hg _ F.blk) (fun s H D cl fp => ht _ F.blk) (fun s H D cl fp => he _ F.blk) hs
theorem FX.setLF {elt tg iter : Expr} {ifs : List Expr} {scope : Scope} {own : List (Str × Nat)} {lpos : Pos} {ti : TId} {T : Tg} (F : FX C N sc k X) (n : NP X i x) (hsw : swB sc scope x p lpos = true) (hi : DI C B X tg iter ti) (ok : (blkB N sc scope own && T.slots.all (fun i => decide (i ∈ own.map (·.2)))) = true)
    (hg : ∀ X', FX C N (relS scope sc) k X' → PG X' tg (T.g C.K)) (ht : ∀ X', FX C N (relS scope sc) k X' → DTs C B X' ifs tt) (he : ∀ X', FX C N (relS scope sc) k X' → DE C B X' elt te) (hs : ∀ x, foldedSetIterable iter X.env x = pure x) :
    DS C B X (.Assign [.Name x p] (.ListComp elt [⟨tg, iter, ifs, 0⟩] scope lpos) pos) (sSetF i (eLc ti T tt te (own.map (·.2)))) := by
  simp only [Bool.and_eq_true, List.all_eq_true, decide_eq_true_eq] at ok
  exact psW (ps_setLc F.xo.calm F.xo.nd n.l.v.at_ n.p (by rw [F.swaps, hsw]) hi (F.bk ok.1) (fun s H D cl fp => hg _ F.blk) (fun s H D cl fp => ht _ F.blk) (fun s H D cl fp => he _ F.blk) hs) fun D σ H h => lcW (tg := tg) F.xo.nd ok.2 (setFW h)
theorem BX.for_ {tg iter : Expr} {body : List Stmt} {ti : TId} {T : Tg} {tb : TSd} (F : BX C N q sc k X) (hi : DI C B X tg iter ti) (hg : PG X tg (T.g C.K)) (hb : DSs C B X body tb) (hs : ∀ x, foldedSetIterable iter X.env x = pure x) : DS C B X (.For tg iter body [] pos) (sFor ti T tb) :=
  ds_for F.pas F.xo.calm hi hg hb hs
theorem FX.par2 {y : Str} {j : Nat} {px py pt : Pos} {kt k2 pt2} (F : FX C N sc k X) (n1 : NP X i x) (n2 : NP X j y) (hij : i ≠ j) (ha : DE C B X a ta) (hb : DE C B X b tb) (sa : isStar a = false) (sb : isStar b = false) (hw : swappedStores [.Tuple [.Name x px, .Name y py] kt pt] (.Tuple [a, b] k2 pt2) X.env = pure (some [x, y])) :
    DS C B X (.Assign [.Tuple [.Name x px, .Name y py] kt pt] (.Tuple [a, b] k2 pt2) pos) (sPar2 i j ta tb) := ds_par2 F.xo.calm F.xo.nd n1.l.v.at_ n2.l.v.at_ hij n1.p n2.p ha hb sa sb hw
theorem FX.par3 {y z : Str} {j l : Nat} {px py pz pt : Pos} {kt k2 pt2} (F : FX C N sc k X) (n1 : NP X i x) (n2 : NP X j y) (n3 : NP X l z) (hij : i ≠ j) (hil : i ≠ l) (hjl : j ≠ l) (ha : DE C B X a ta) (hb : DE C B X b tb) (hc : DE C B X c tc) (sa : isStar a = false) (sb : isStar b = false) (s3 : isStar c = false)
    (hw : swappedStores [.Tuple [.Name x px, .Name y py, .Name z pz] kt pt] (.Tuple [a, b, c] k2 pt2) X.env = pure (some [x, y, z])) :
    DS C B X (.Assign [.Tuple [.Name x px, .Name y py, .Name z pz] kt pt] (.Tuple [a, b, c] k2 pt2) pos) (sPar3 i j l ta tb tc) := ds_par3 F.xo.calm F.xo.nd n1.l.v.at_ n2.l.v.at_ n3.l.v.at_ hij hil hjl n1.p n2.p n3.p ha hb hc sa sb s3 hw
theorem FX.unp {tg : Expr} {T : Tg} (F : FX C N sc k X) (he : DE C B X e te) (hg : PG X tg (T.g C.K)) (hs : swapsWithSole [tg] e pos.line X.env = pure false) (hw : swappedStores [tg] e X.env = pure none) (h1 : (assignEach [tg] X.env).map (·.2) = [assign tg X.env]) : DS C B X (.Assign [tg] e pos) (sUnp T te) := ds_unp he hg hs hw h1
theorem FX.app_ {px pa pc : Pos} (F : FX C N sc k X) (v : NV X i x) (he : DE C B X e te) (hs : isStar e = false) (h2 : (pa.endLine == pc.line) = true) : DS C B X (.Expr (.Call (.Attribute (.Name x px) "append" pa) [e] [] pc) pos) (sApp i te) := ds_app F.xo.K v.at_ v.vis v.d1 v.d2 he hs h2
theorem FX.ext_ {px pa pc : Pos} (F : FX C N sc k X) (v : NV X i x) (he : DE C B X e te) (hs : isStar e = false) (h2 : (pa.endLine == pc.line) = true) : DS C B X (.Expr (.Call (.Attribute (.Name x px) "extend" pa) [e] [] pc) pos) (sExt i te) := ds_ext F.xo.K v.at_ v.vis v.d1 v.d2 he hs h2
theorem FX.seq {tg : Expr} (F : FX C N sc k X) (ha : DE C B X a ta) : DI C B X tg a (iSeq ta) := di_seq F.xo.K ha
theorem FX.rg1 {tg : Expr} (F : FX C N sc k X) (g : NG X "range") (m : C.mg "range" = none) (ha : DA C B X [a] t) (hs : isStar a = false) : DI C B X tg (.Call (.Name "range" p) [a] [] pos) (iRg1 t) := di_rng1 g.g (F.mg m) ha hs
theorem FX.rg2 {tg : Expr} (F : FX C N sc k X) (g : NG X "range") (m : C.mg "range" = none) (ha : DA C B X [a, b] t) (hs : isStar a = false) (hs2 : isStar b = false) : DI C B X tg (.Call (.Name "range" p) [a, b] [] pos) (iRg2 t) := di_rng2 g.g (F.mg m) ha hs hs2
theorem FX.enum {elts : List Expr} {kk : Nat} {tpos : Pos} (F : FX C N sc k X) (g : NG X "enumerate") (m : C.mg "enumerate" = none) (ha : DA C B X [a] t) (hs : isStar a = false) : DI C B X (.Tuple elts kk tpos) (.Call (.Name "enumerate" p) [a] [] pos) (iEnum t) := di_enum F.xo.K g.g (F.mg m) ha hs
theorem FX.zip {elts : List Expr} {kk : Nat} {tpos : Pos} (F : FX C N sc k X) (g : NG X "zip") (m : C.mg "zip" = none) (ha : DA C B X [a, b] t) (hs : isStar a = false) (hs2 : isStar b = false) : DI C B X (.Tuple elts kk tpos) (.Call (.Name "zip" p) [a, b] [] pos) (iZip2 t) := di_zip F.xo.K g.g (F.mg m) ha hs hs2
/-! targets -/
theorem FX.tg_nm (F : FX C N sc k X) (n : NL X i x) : PG X (.Name x pos) ((Tg.nm i).g C.K) := n.g F.xo
theorem tgs_nil : PGs X [] (gNames []) := pgs_nil
theorem FX.tgs_cons {is : List Nat} (F : FX C N sc k X) (n : NL X i x) (h : PGs X es (gNames is)) : PGs X (.Name x pos :: es) (gNames (i :: is)) := pgs_cons (n.g F.xo) h rfl
theorem FX.tg_tp {is : List Nat} {kk : Nat} (F : FX C N sc k X) (h : PGs X es (gNames is)) (hn : (assignEach es X.env).length = is.length) (hst : (assignEach es X.env).findIdx? (·.1) = none) : PG X (.Tuple es kk pos) ((Tg.tp is).g C.K) := by
  have z := pg_tup (X := X) (k := kk) (pos := pos) F.xo.calm h hn hst
  rw [F.xo.K] at z
  exact z
theorem FX.tgn_n {ts : List NT} (F : FX C N sc k X) (n : NL X i x) (h : PGs X es (gNTs C.K ts)) : PGs X (.Name x pos :: es) (gNTs C.K (.n i :: ts)) := pgs_cons (n.g F.xo) h rfl
theorem FX.tgn_t {is : List Nat} {ts : List NT} {kk : Nat} {es' : List Expr} (F : FX C N sc k X) (h0 : PG X (.Tuple es' kk pos) ((Tg.tp is).g C.K)) (h : PGs X es (gNTs C.K ts)) : PGs X (.Tuple es' kk pos :: es) (gNTs C.K (.t is :: ts)) := pgs_cons h0 h rfl
theorem tgn_nil {K : PySem.W.Frag} : PGs X [] (gNTs K []) := pgs_nil
theorem FX.tg_ez {ts : List NT} {kk k2 : Nat} {p1 p2 : Pos} (F : FX C N sc k X) (n : NL X i x) (h : PGs X es (gNTs C.K ts)) (hn : (assignEach es X.env).length = ts.length) (hst : (assignEach es X.env).findIdx? (·.1) = none) : PG X (.Tuple [.Name x p1, .Tuple es k2 p2] kk pos) ((Tg.ez i ts).g C.K) := by
  have z := pg_tup (X := X) (k := k2) (pos := p2) F.xo.calm h hn hst
  have z2 := pg_tup (X := X) (k := kk) (pos := pos) F.xo.calm (pgs_cons (n.g F.xo (pos := p1)) (pgs_cons z pgs_nil rfl) rfl) rfl rfl
  rw [F.xo.K] at z2
  exact z2
theorem FX.tg_np {ts : List NT} {kk : Nat} (F : FX C N sc k X) (h : PGs X es (gNTs C.K ts)) (hn : (assignEach es X.env).length = ts.length) (hst : (assignEach es X.env).findIdx? (·.1) = none) : PG X (.Tuple es kk pos) ((Tg.np ts).g C.K) := by
  have z := pg_tup (X := X) (k := kk) (pos := pos) F.xo.calm h hn hst
  rw [F.xo.K] at z
  exact z
end
end TL
namespace TL
open PySem PySem.Spec PyProof.Rows L2 LamX NdefX
/-- an environment of that scope -/
def envS (sc : Scope) : Env := { scope := sc, locals := 0, globals := mainGlobals, cells := [], qual := "", func := none, code := .none, frame := none, builtins := builtinsNs }
theorem FX.sws {C : CC} {X : Cx} {N : List Str} {sc : Scope} {k : Nat} {ts : List Expr} {v : Expr} {r : Sem (Option (List Str))} (F : FX C N sc k X) (h : swappedStores ts v (envS sc) = r) : swappedStores ts v X.env = r := by
  rw [← h]
  unfold swappedStores Env.blockKind Env.kindOf
  rw [F.sc]
  rfl
def fscB (N P : List Str) (sc : Scope) : Bool := decide (sc.kind = .function) && (!sc.isCoroutine && (!sc.isGenerator && (decide N.Nodup && (decide (N.take P.length = P) && (P.all (fun x => decide (sc.names.lookup x = some .local) || decide (sc.names.lookup x = some .cell)) && sc.names.all fun y => !decide (y.2 = .free))))))
theorem fscope_by {N P : List Str} {sc : Scope} (h : fscB N P sc = true) : FnScope N P sc := by
  unfold fscB at h
  simp only [Bool.and_eq_true, Bool.not_eq_true', decide_eq_true_eq, List.all_eq_true, Bool.or_eq_true, decide_eq_false_iff_not] at h
  obtain ⟨h1, h2, h3, h4, h5, h6, h7⟩ := h
  exact ⟨h1, h2, h3, h4, h5, h6, h7⟩
/-- the head's word of a def -/
def HD (C : CC) (st : Stmt) (x : Str) : Prop := ∃ f fd, C.mg x = some (.ref f) ∧ FunD C.K x x (defArgs st) (defBody st) (defScope st) [] [] f fd
/-- .. of a def that makes lambdas -/
def HT (C : CC) (st : Stmt) (x : Str) : Prop := ∃ f fd, C.mg x = some (.ref f) ∧ FunD C.K x x (defArgs st) (defBody st) (defScope st) [] [] f fd ∧ ∃ c P, fd.code = .ref c ∧ TabB C.base C.mg c P ∧ P ∈ C.T
/-- a def of the text that keeps its promise, with the head's word of it -/
structure DefX (C : CC) (st : Stmt) (k : Nat) (x : Str) (ps : List Str) (sp : DSp) : Prop where
  ex : ∃ f fd, C.mg x = some (.ref f) ∧ FnG C k f fd ps sp ∧ FunD C.K x x (defArgs st) (defBody st) (defScope st) [] [] f fd
section
variable {C : CC} {st : Stmt} {x : Str} {N ps ks : List Str} {k : Nat} {den : TSd} {sp : DSp}
theorem def_of (h : HD C st x) (hs : fscB N ps (defScope st) = true) (ok : ∀ as Q E, sp as Q E → mkSp N ps.length den as Q E) (hw : ∀ (X : Cx) (B : Base), BX C N (x ++ ".<locals>.") (defScope st) k X → DSs C B X (defBody st) den) : DefX C st (k + 1) x ps sp := by
  obtain ⟨f, fd, hm, F⟩ := h
  exact ⟨f, fd, hm, (fng_of false F (fscope_by hs) (fun z => by cases z) fun X B G _ => hw X B G).imp ok, F⟩
theorem def_ofT (h : HT C st x) (hs : fscB N ps (defScope st) = true) (ok : ∀ as Q E, sp as Q E → mkSp N ps.length den as Q E) (hw : ∀ (X : Cx) (B : Base), BX C N (x ++ ".<locals>.") (defScope st) k X → TabX C X → DSs C B X (defBody st) den) : DefX C st (k + 1) x ps sp := by
  obtain ⟨f, fd, hm, F, ht⟩ := h
  exact ⟨f, fd, hm, (fng_of true F (fscope_by hs) (fun _ => ht) fun X B G t => hw X B G (t rfl)).imp ok, F⟩
theorem DefX.dd (D : DefX C st k x ps sp) (hb : ∀ (kV doc pm : Value) (an : Option Addr) (cdv ct : Value) (us : List Value), us.length = ps.length → bindArgs (PySem.W.fnOf x x (defArgs st) (defBody st) (defScope st) .none kV doc pm an cdv ct) ⟨us, []⟩ = pure (ps.zip us)) : Def C k x ps sp := by
  obtain ⟨f, fd, hm, G, F⟩ := D.ex
  exact ⟨f, fd, hm, F.kp, G, F.bindsA hb⟩
/-- the same def called by names -/
theorem DefX.kw (D : DefX C st k x ps sp) (hb : ∀ (kV doc pm : Value) (an : Option Addr) (cdv ct : Value) (us ws : List Value), us.length = ks.length → ps.mapM (fun p => (ks.zip us).lookup p) = some ws → bindArgs (PySem.W.fnOf x x (defArgs st) (defBody st) (defScope st) .none kV doc pm an cdv ct) ⟨[], ks.zip us⟩ = pure (ps.zip ws)) : DefK C k x ps ks sp := by
  obtain ⟨f, fd, hm, G, F⟩ := D.ex
  obtain ⟨oc, od, dV, kV, doc, pm, an, cdv, ct, osl, rfl, lk, hcd, hD, hK⟩ := F.ex
  refine ⟨f, _, hm, F.kp, G, fun s us ws h1 h2 => ?_⟩
  rcases hD with ⟨_, rfl⟩ | ⟨e, _⟩
  · exact .of_eq (hb kV doc pm an cdv ct us ws h1 h2)
  · exact absurd rfl e
end
end TL
set_option maxHeartbeats 1000000
/-! the end: the law's def, called by the row's caller -/
namespace TL
open PySem PySem.Spec PyProof.Rows L2 LamX NdefX
section
variable {P : Program} {w : World} {K : PySem.W.Frag} {mg mb : Str → Option Value} {s : Shared} {fa a : Addr} {cs : List (Addr × Addr)} {zs : List Value} {ns : List Int}
/-- what the head knows: the tables, the script -/
structure EndK (P : Program) (w : World) (K : PySem.W.Frag) (mg mb : Str → Option Value) (s : Shared) (a : Addr) (cs : List (Addr × Addr)) (zs : List Value) (ns : List Int) : Prop where
  kin : K.In s.heap
  glob : s.heap.Ns mainGlobals mg
  blt : s.heap.Ns builtinsNs mb
  boot : ∀ x : Str, x ≠ "__name__" → mb x = bootBuiltins x
  lim : s.heap.NoLimit
  gens : s.gens = #[]
  tab : ∀ p ∈ cs, s.heap.get? p.2 = some { cls := .none, data := .fields #[] }
  tabK : ∀ p ∈ cs, K.lookup p.2 = none
  code : ∀ p ∈ cs, PySem.W.CodeHd s.heap p.1 p.2
  main : ∃ (bm : Addr) (ob : Obj), mg "__builtins__" = some (.ref bm) ∧ bm ≠ builtinsNs ∧ s.heap.get? bm = some ob ∧ ob.cls = .type "module" ∧ ob.dict = some builtinsNs ∧ ob.data = .plain
  scr : s.heap.get? a = some { cls := .type "list", data := .seq zs.toArray }
  isI : IntsAre zs ns
  few : ns.length ≤ sizeLine
def scrO (zs : List Value) : Obj := { cls := .type "list", data := .seq zs.toArray }
/-- what is tracked at the law's entry -/
def endH (K : PySem.W.Frag) (a : Addr) (cs : List (Addr × Addr)) (zs : List Value) (ns : List Int) : Hp := fun b =>
  if b ∈ cs.map (·.2) then some (.tbl #[]) else if b = a ∧ K.lookup a = none then some (.frz (scrO zs) (.lst (ns.map V.int))) else none
def endG (K : PySem.W.Frag) (a : Addr) (ns : List Int) : Gh := fun b => if b = a ∧ K.lookup a = none then some (.dat (.list (ns.map PyData.int))) else none
theorem reps_ints {g : Gh} : ∀ ns : List Int, RepVs K g (ns.map V.int) (ns.map PyData.int)
  | [] => .nil
  | i :: ns => .cons (.int i) (reps_ints ns)
theorem reps_intsF : ∀ ns : List Int, Paired RepF (ns.map V.int) (ns.map PyData.int)
  | [] => .nil
  | i :: ns => .cons (.int i) (reps_intsF ns)
variable (e : EndK P w K mg mb s a cs zs ns)
include e
theorem EndK.notTab : a ∉ cs.map (·.2) := fun z => by
  obtain ⟨p, hp, ep⟩ := List.mem_map.mp z
  have q := e.tab p hp
  have hs := e.scr
  rw [ep, hs] at q
  cases q
theorem EndK.at_ {b : Addr} {u : HO} (h : endH K a cs zs ns b = some u) : (b ∈ cs.map (·.2) ∧ u = .tbl #[]) ∨ (b = a ∧ K.lookup a = none ∧ u = .frz (scrO zs) (.lst (ns.map V.int))) := by
  unfold endH at h
  split at h
  · rename_i m
    cases h
    exact .inl ⟨m, rfl⟩
  · split at h
    · rename_i m
      cases h
      exact .inr ⟨m.1, m.2, rfl⟩
    · cases h
theorem EndK.tabAt {p : Addr × Addr} (hp : p ∈ cs) : endH K a cs zs ns p.2 = some (.tbl #[]) := if_pos (List.mem_map.mpr ⟨p, hp, rfl⟩)
theorem EndK.hok : HOk P w (endH K a cs zs ns) s.heap := fun b u h => by
  rcases e.at_ h with ⟨m, rfl⟩ | ⟨rfl, n, rfl⟩
  · obtain ⟨p, hp, ep⟩ := List.mem_map.mp m
    rw [← ep]
    exact e.tab p hp
  · exact ⟨e.scr, by rw [List.length_map]; exact e.few, zs, _, vals_ints e.isI, e.scr⟩
theorem EndK.base {b : Addr} {o : Obj} (h : s.heap.get? b = some o) (n : endH K a cs zs ns b = none) : (hidT s.heap (endH K a cs zs ns)).get? b = some o := hidT_get h n
theorem EndK.off {b : Addr} {o : Obj} (h : s.heap.get? b = some o) (h1 : ∀ vs n, o.data ≠ .seq vs n) (h2 : o.data ≠ .fields #[]) : endH K a cs zs ns b = none := by
  cases q : endH K a cs zs ns b with
  | none => rfl
  | some u =>
    have z := e.hok b u q
    rcases e.at_ q with ⟨m, rfl⟩ | ⟨rfl, n, rfl⟩
    · obtain ⟨p, hp, ep⟩ := List.mem_map.mp m
      have y := e.tab p hp
      rw [ep, h] at y
      cases y
      exact (h2 rfl).elim
    · have y := e.scr
      rw [h] at y
      cases y
      exact (h1 _ _ rfl).elim
theorem EndK.nsp {b : Addr} {m : Str → Option Value} (h : s.heap.Ns b m) : (hidT s.heap (endH K a cs zs ns)).Ns b m := by
  obtain ⟨o, es, ep, h1, h2, h3⟩ := h
  refine ⟨o, es, ep, e.base h1 (e.off h1 (fun vs n z => ?_) fun z => ?_), h2, h3⟩ <;> (rw [h2] at z; cases z)
theorem EndK.kin' : K.In (hidT s.heap (endH K a cs zs ns)) := fun b o h => e.base (e.kin b o h) (by
  cases q : endH K a cs zs ns b with
  | none => rfl
  | some u =>
    rcases e.at_ q with ⟨m, _⟩ | ⟨rfl, n, _⟩
    · obtain ⟨p, hp, ep⟩ := List.mem_map.mp m
      rw [← ep, e.tabK p hp] at h
      cases h
    · rw [n] at h
      cases h)
theorem EndK.mod : L2.Mod K mg (hidT s.heap (endH K a cs zs ns)) := ⟨e.kin', e.nsp e.glob, ⟨mb, e.nsp e.blt, e.boot⟩, let ⟨mc, h1, h2⟩ := e.lim; ⟨mc, e.nsp h1, h2⟩⟩
theorem EndK.tabB {p : Addr × Addr} (hp : p ∈ cs) : TabB (hidT s.heap (endH K a cs zs ns)) mg p.1 p.2 := by
  refine ⟨?_, ?_, fun z => ?_⟩
  · obtain ⟨o, us, file, tf, flags, tg, inF, text, tt, h1, r1, r2, r3, r⟩ := e.code p hp
    refine ⟨o, us, file, tf, flags, tg, inF, text, tt, e.base h1 (e.off h1 (fun vs n z => ?_) fun z => ?_), r1, r2, r3, r⟩
    · rw [r2] at z; cases z
    · rw [r2] at z
      cases z
      simp at r3
  · obtain ⟨bm, ob, b1, b2, b3, b4, b5, b6⟩ := e.main
    have ng : bm ≠ mainGlobals := fun q => by
      obtain ⟨o, es, ep, h1, h2, _⟩ := e.glob
      rw [q, h1] at b3
      cases b3
      rw [h2] at b6; cases b6
    have nt : bm ≠ p.2 := fun q => by
      rw [q, e.tab p hp] at b3
      cases b3
      cases b6
    refine ⟨bm, ob, b1, b2, ng, nt, e.base b3 (e.off b3 (fun vs n z => ?_) fun z => ?_), b4, b5, b6⟩ <;> (rw [b6] at z; cases z)
  · obtain ⟨o, es, ep, h1, h2, _⟩ := e.glob
    rw [z, e.tab p hp] at h1
    cases h1
    cases h2
theorem EndK.env : Env0 P w K mg (hidT s.heap (endH K a cs zs ns)) callerA [] s (endH K a cs zs ns) := by
  refine ⟨rfl, e.mod, fun b o h => of_hidT h, Nat.le_of_eq (hidT_size _ _), trivial, fun b hb => ?_, e.hok, .of_eq e.gens⟩
  exact absurd (show b ∈ ([] : List Addr) from hb) (by simp)
/-- the context of the law's run -/
def endC (P : Program) (w : World) (K : PySem.W.Frag) (mg : Str → Option Value) (s : Shared) (a : Addr) (cs : List (Addr × Addr)) (zs : List Value) (ns : List Int) (nm : Nat → Nat → Str) : CC := ⟨P, w, K, mg, hidT s.heap (endH K a cs zs ns), cs.map (·.2), nm⟩
theorem EndK.st (nm : Nat → Nat → Str) : StOk (endC P w K mg s a cs zs ns nm) (endG K a ns) (endH K a cs zs ns) := by
  refine ⟨fun b u h => ?_, fun T hT => ?_⟩
  · unfold endG at h
    split at h
    · rename_i m
      cases h
      refine ⟨ns.map V.int, .inr ⟨scrO zs, ?_⟩, reps_ints ns⟩
      unfold endH
      rw [if_neg (by rw [m.1]; exact e.notTab), if_pos m]
    · cases h
  · obtain ⟨p, hp, ep⟩ := List.mem_map.mp hT
    refine ⟨#[], by rw [← ep]; exact e.tabAt hp, True.intro, fun pos cv z => ?_⟩
    have z : codeAmong pos [] = some cv := z
    simp [codeAmong] at z
theorem EndK.script : RepV K (endG K a ns) (.ref a) (.list (ns.map PyData.int)) := by
  cases q : K.lookup a with
  | none => exact .ref (if_pos ⟨rfl, q⟩)
  | some o =>
    refine .kl (vs := ns.map V.int) (fun H => .inr ?_) (reps_intsF ns)
    have y := e.kin a o q
    have hs := e.scr
    rw [hs] at y
    cases y
    have lz := e.isI.length
    refine ⟨_, zs.toArray, 0, q, rfl, rfl, rfl, ?_, by simpa using vals_ints e.isI⟩
    rw [List.size_toArray, lz]
    exact e.few
/-- the call -/
theorem EndK.run {k : Nat} {fd : FuncData} {x : Str} {sp : DSp} (nm : Nat → Nat → Str) (hr : Room k callerA) (F : FnG (endC P w K mg s a cs zs ns nm) k fa fd [x] sp) (hb : BindsTo s fd ⟨[.ref a], []⟩ ([x].zip [.ref a]))
    (h : sp [.dat (.list (ns.map PyData.int))] (fun r => r = .dat (.bool true)) XF) : codeAny (model P w) callerA (.call (.ref fa) ⟨[.ref a], []⟩) (fun r s' => r = .ok (.ret (.bool true)) ∧ OldK s.heap s'.heap ∧ s'.os = s.os ∧ AllBare s'.gens) s := by
  have c := F.run callerA [] s (endH K a cs zs ns) (endG K a ns) ⟨[.ref a], []⟩ [.ref a] [.ref a] [.dat (.list (ns.map PyData.int))] _ hr rfl e.env hb (.cons rfl .nil) (e.st nm) (.cons e.script .nil) h
  refine codeAny_mono c fun r s' hq => ?_
  cases r with
  | error x => exact hq.elim
  | ok fl =>
    cases fl with
    | ret u =>
      obtain ⟨v, H', os, bare, un, hok', rv, av, g', qa, f1, st', ra, pl⟩ := hq
      subst qa
      have ev : v = .bl true := RepV.isBl st'.1 ra
      subst ev
      cases rv
      have same : ∀ b o, b ∉ cs.map (·.2) → s.heap.get? b = some o → s'.heap.get? b = some o := fun b o nb h => by
        cases q : endH K a cs zs ns b with
        | none => exact un.keep b o h q (fun z => absurd (show b ∈ ([] : List Addr) from z) (by simp)) (by simp)
        | some u =>
          rcases e.at_ q with ⟨m, _⟩ | ⟨rfl, n, rfl⟩
          · exact absurd m nb
          · obtain ⟨z1, _⟩ := hok' b _ (un.frzs b _ _ q)
            have y := e.scr
            rw [h] at y
            cases y
            exact z1
      have grown : ∀ p ∈ cs, ∃ more : Array Value, s'.heap.get? p.2 = some { cls := .none, data := .fields more } := fun p hp => by
        obtain ⟨more, z⟩ := un.tbls p.2 #[] (e.tabAt hp)
        exact ⟨_, hok' p.2 _ z⟩
      refine ⟨rfl, ⟨fun b o h => ?_, fun b o h => ?_⟩, os, bare⟩ <;> by_cases nb : b ∈ cs.map (·.2)
      · obtain ⟨p, hp, ep⟩ := List.mem_map.mp nb
        obtain ⟨more, hm⟩ := grown p hp
        have ht := e.tab p hp
        rw [← ep] at h ⊢
        rw [ht] at h
        cases h
        exact .inr (.inl ⟨((e.code p hp).tab ht).isCodeTable, rfl, #[], more, rfl, by rw [Array.empty_append]; exact hm⟩)
      · exact .inl (same b o nb h)
      · obtain ⟨p, hp, ep⟩ := List.mem_map.mp nb
        obtain ⟨more, hm⟩ := grown p hp
        exact ⟨_, by rw [← ep]; exact hm⟩
      · exact ⟨o, same b o nb h⟩
    | _ => exact False.elim hq
end
end TL
set_option maxHeartbeats 1000000
namespace TL
open PySem PySem.Spec PyProof.Rows L2 LamX NdefX
/-- what the head's hook tells, told of a run's context -/
structure HK (fa : List He.Fa) (fn : List He.DefD) (tf : List He.Defn) (h : Heap) (C : CC) : Prop where
  kin : C.K.In h
  glob : h.Ns mainGlobals C.mg
  d : He.SaysD fa fn C.K
  tab : ∀ p ∈ tf, TabB C.base C.mg (He.cT C.K p).1 (He.cT C.K p).2 ∧ (He.cT C.K p).2 ∈ C.T
abbrev dDef (x : Str) (st : Stmt) : He.DefD := ⟨(x, none), x, x, defArgs st, defBody st, defScope st, [], []⟩
section
variable {fa : List He.Fa} {fn : List He.DefD} {tf : List He.Defn} {h : Heap} {C : CC} {x : Str} {st : Stmt}
theorem HK.hd (k : HK fa fn tf h C) (i j : Nat) (hi : fn[i]? = some (dDef x st)) (hj : fa[j]? = some (.glo x)) : HD C st x := by
  obtain ⟨fd, F⟩ := k.d.def_ i hi
  exact ⟨_, fd, He.glo_ok k.kin k.glob (k.d.fact j hj), F⟩
theorem HK.ht (k : HK fa fn tf h C) (i j : Nat) (hi : fn[i]? = some (dDef x st)) (hj : fa[j]? = some (.glo x)) (hm : (x, none) ∈ tf) : HT C st x := by
  obtain ⟨fd, F⟩ := k.d.def_ i hi
  refine ⟨_, fd, He.glo_ok k.kin k.glob (k.d.fact j hj), F, ?_⟩
  obtain ⟨oc, od, dV, kV, doc, pm, an, cdv, ct, osl, rfl, lk, hcd, _, _⟩ := F.ex
  obtain ⟨c, rfl⟩ := He.codeIn_ref hcd
  have e : He.codeOf C.K (x, none) = c := He.codeOf_eq lk rfl
  obtain ⟨t1, t2⟩ := k.tab _ hm
  have e1 : (He.cT C.K (x, none)).1 = c := e
  rw [e1] at t1
  exact ⟨c, _, rfl, t1, t2⟩
theorem HK.fr (k : HK fa fn tf h C) (j : Nat) (hj : fa[j]? = some (.free x)) : C.mg x = none := He.free_ok k.kin k.glob (k.d.fact j hj)
theorem HK.it (k : HK fa fn tf h C) {i : Int} (j : Nat) (hj : fa[j]? = some (.int x i)) : ∃ t, C.mg x = some (.int i t) := He.int_ok k.kin k.glob (k.d.fact j hj)
theorem HK.sr (k : HK fa fn tf h C) {z : Str} (j : Nat) (hj : fa[j]? = some (.str x z)) : ∃ t, C.mg x = some (.str z t) := He.str_ok k.kin k.glob (k.d.fact j hj)
end
/-- the numbers of the scripts: a row's own bound -/
def scriptOk (ns : List Int) : Prop := ns.length ≤ 63 ∧ ∀ z ∈ ns, Builtin.Int.intBits z ≤ 1048576
/-- a table of names by places -/
def nmOf (l : List (Nat × Nat × Str)) (ln co : Nat) : Str := match l.find? fun q => q.1 == ln && q.2.1 == co with
  | some q => q.2.2
  | none => ""
theorem walk_end {l : PySem.W.OpenLaw} {q : Program} {loose : List Str} {XP : (Str → Option Value) → Heap → Prop} {d : DefRec} {k : Nat} {fa : List He.Fa} {fn : List He.DefD} {tf : List He.Defn} {sp : DSp} {st : Stmt} {n : Nat} (nm : Nat → Nat → Str)
    (hn : l.most = some 63) (hdf : d.params.defaults = []) (hd : d.name = "law") (hr : Room k callerA)
    (F : ∀ (h : Heap) (C : CC), C.P = l.prog → C.nm = nm → HK fa fn tf h C → DefX C st k "law" ["script"] sp)
    (hb : ∀ (kV doc pm : Value) (an : Option Addr) (cdv ct : Value) (us : List Value), us.length = (["script"] : List Str).length → bindArgs (PySem.W.fnOf "law" "law" (defArgs st) (defBody st) (defScope st) .none kV doc pm an cdv ct) ⟨us, []⟩ = pure ((["script"] : List Str).zip us))
    (hsp : ∀ ns : List Int, scriptOk ns → sp [.dat (.list (ns.map PyData.int))] (fun r => r = .dat (.bool true)) XF) :
    PySem.W.WalkO q loose XP (He.hookX n fa fn [] tf fun _ => true).says l.row.toRowW d [] (fun f vs => PySem.call f vs) := by
  refine Att.attach_callB hn hdf fun w s₀ s mg mb fa' o pm cd doc a zs ns G Y ho hd' hcd hmg hobj hints hlen hbits hg => ?_
  obtain ⟨K, KX, c⟩ := Y
  have e : EndK l.prog w K mg mb s a (tf.map (He.cT K)) zs ns := by
    refine ⟨KX, G.T.g, G.T.b, G.T.builtins, G.T.nolimit, hg, fun p hp => ?_, fun p hp => ?_, fun p hp => ?_, G.T.bmain, hobj, hints, Nat.le_trans hlen (by rw [sizeLine_eq]; decide)⟩ <;>
      (obtain ⟨y, hy, rfl⟩ := List.mem_map.mp hp)
    · exact c.empty y hy
    · exact c.out y hy
    · exact PySem.W.codeHd_of_K KX (c.hd y hy)
  have D := F s.heap (endC l.prog w K mg s a (tf.map (He.cT K)) zs ns nm) rfl rfl ⟨KX, G.T.g, c.t.d, fun p hp => ⟨e.tabB (List.mem_map.mpr ⟨p, hp, rfl⟩), List.mem_map.mpr ⟨_, List.mem_map.mpr ⟨p, hp, rfl⟩, rfl⟩⟩⟩
  obtain ⟨f, fd, hm, FG, FD⟩ := D.ex
  rw [hd] at hmg
  have hm : mg "law" = some (.ref f) := hm
  rw [hm] at hmg
  cases hmg
  exact e.run nm hr FG (FD.bindsA hb s [.ref a] rfl) (hsp ns ⟨hlen, hbits⟩)
end TL
/-! a source of draws: a list of three numbers that its readers write -/
namespace TL
open PySem PySem.Spec PyProof.Rows L2 LamX NdefX
def wellAt (env : En) (i : Nat) : Prop := match env[i]? with
  | some (some (.av .well)) => True
  | _ => False
/-- any number -/
def eWix (i : Nat) : TEd := fun env Q _ => wellAt env i ∧ ∀ c : Int, Q (.dat (.int c))
def intV (a : AV) (Q : Int → Prop) : Prop := match a with
  | .dat (.int c) => Q c
  | _ => False
theorem intV_get {a : AV} {Q : Int → Prop} (h : intV a Q) : ∃ c, a = .dat (.int c) ∧ Q c := by
  unfold intV at h
  split at h
  · exact ⟨_, rfl, h⟩
  · exact h.elim
def sWset (i : Nat) (te : TEd) : TSd := fun D env E => wellAt env i ∧ te env (fun a => intV a fun _ => D.nx env) E
def ints2 (as : List AV) (Q : Int → Int → Prop) : Prop := match as with
  | [.dat (.int x), .dat (.int y)] => Q x y
  | _ => False
theorem ints2_get {as : List AV} {Q : Int → Int → Prop} (h : ints2 as Q) : ∃ x y, as = [.dat (.int x), .dat (.int y)] ∧ Q x y := by
  unfold ints2 at h
  split at h
  · exact ⟨_, _, rfl, h⟩
  · exact h.elim
def sWdm (i j : Nat) (t : TAd) : TSd := fun D env E => wellAt env i ∧ t env (fun as => ints2 as fun x y => (0 < y ∧ y < 1073741824) ∧ D.nx (setE env j (.int (x % y)))) E
def new3 (a : AV) (Q : Prop) : Prop := match a with
  | .new [.int _, .int _, .int _] => Q
  | _ => False
def sRetW (te : TEd) : TSd := fun D env E => te env (fun a => new3 a (D.rt .well)) E
section
variable {C : CC} {B : Base} {X : Cx} {N : List Str} {q : Str} {sc : Scope} {k : Nat} {a b e : Expr} {te : TEd} {t : TAd} {pos : Pos} {i j : Nat} {x y : Str}
theorem EnvOk.well {g : Gh} {H : Hp} {σ : L2.St} {env : En} (eo : EnvOk C B g H σ env) (st : StOk C g H) (h : wellAt env i) : ∃ p c0 c1 c2, σ[i]? = some (some (.ref p)) ∧ g p = some .well ∧ H p = some (.lst [.int c0, .int c1, .int c2]) := by
  unfold wellAt at h
  split at h
  · rename_i ei
    obtain ⟨v, hv, p, rfl, gp⟩ := eo.at_ i _ ei
    obtain ⟨c0, c1, c2, z⟩ := st.1 p _ gp
    exact ⟨p, c0, c1, c2, hv, gp, z⟩
  · exact h.elim
/-- a source of draws is written -/
theorem well_upd {g : Gh} {H : Hp} {p : Addr} {c0 c1 c2 d0 d1 d2 : Int} (st : StOk C g H) (gp : g p = some .well) (hp : H p = some (.lst [.int c0, .int c1, .int c2])) : Gr g H g (upd H p (.lst [.int d0, .int d1, .int d2])) ∧ StOk C g (upd H p (.lst [.int d0, .int d1, .int d2])) := by
  refine ⟨⟨fun _ _ h => h, fun _ _ _ => rfl, fun c o h1 h2 _ => ?_, fun c h => ?_⟩, ⟨fun c u h => ?_, fun T hT => ?_⟩⟩
  · exact (upd_ne fun z => h2 (by rw [z]; exact gp)).trans h1
  · unfold upd at h
    split at h
    · cases h
    · exact h
  · by_cases hc : c = p
    · subst hc
      rw [gp] at h
      cases h
      exact ⟨d0, d1, d2, upd_same⟩
    · exact (st.1 c u h).mono (fun _ _ h => h) fun o z => (upd_ne hc).trans z
  · obtain ⟨ps, t1, t2, t3⟩ := st.2 T hT
    refine ⟨ps, (upd_ne fun z => by rw [z, hp] at t1; cases t1).trans t1, t2, fun pos cv hc => ?_⟩
    obtain ⟨c, e1, e2⟩ := t3 pos cv hc
    exact ⟨c, e1, (upd_ne fun z => by rw [z, hp] at e2; unfold CodeO at e2; cases e2).trans e2⟩
def idx3 (k : Nat) : Bool := decide (k < 3)
theorem FX.wix {p : Pos} {k0 : Nat} {cp : Pos} {cj : Nat} (F : FX C N sc k X) (v : NV X i x) (hk : idx3 k0 = true) : DE C B X (.Subscript (.Name x p) (.Constant (.int (k0 : Int)) cj cp) pos) (eWix i) := by
  refine peW (pe_ix ix_list (pe_var v.at_ v.vis v.d1 v.d2) (pe_int (i := (k0 : Int))) (plainIx rfl)) fun σ H Q h => ?_
  obtain ⟨g, env, Qd, st, eo, h, kk⟩ := h
  obtain ⟨w, h⟩ := h
  obtain ⟨p, c0, c1, c2, hs, gp, hp⟩ := eo.well st w
  have hk : k0 < 3 := by simpa [idx3] using hk
  have fin : ∀ c : Int, Q (.int c) H := fun c => kk _ _ ⟨_, g, h c, .refl, st, .int c, fun _ z => by cases z⟩
  refine ⟨.ref p, hs, ?_⟩
  match k0, hk with
  | 0, _ => exact ⟨p, _, 0, .int c0, rfl, rfl, .inl (.inl hp), rfl, fin _⟩
  | 1, _ => exact ⟨p, _, 1, .int c1, rfl, rfl, .inl (.inl hp), rfl, fin _⟩
  | 2, _ => exact ⟨p, _, 2, .int c2, rfl, rfl, .inl (.inl hp), rfl, fin _⟩
theorem FX.wset {p tp : Pos} {k0 : Nat} {cp : Pos} {cj : Nat} (F : FX C N sc k X) (v : NV X i x) (he : DE C B X e te) (hk : idx3 k0 = true) (hs : swapsWithSole [.Subscript (.Name x p) (.Constant (.int (k0 : Int)) cj cp) tp] e pos.line X.env = pure false) (hw : swappedStores [.Subscript (.Name x p) (.Constant (.int (k0 : Int)) cj cp) tp] e X.env = pure none) :
    DS C B X (.Assign [.Subscript (.Name x p) (.Constant (.int (k0 : Int)) cj cp) tp] e pos) (sWset i te) := by
  refine psW (ps_asg he (pg_sub (pe_var v.at_ v.vis v.d1 v.d2) (pe_int (i := (k0 : Int))) set_list (fun _ => rfl)) hs hw rfl) fun D σ H h => ?_
  obtain ⟨g, env, Dd, st, fb, eo, ⟨w, h⟩, ends⟩ := h
  have hk : k0 < 3 := by simpa [idx3] using hk
  refine ⟨g, env, _, st, eo, h, fun u H1 ⟨av, g1, qq, f1, st1, r1, n1⟩ => ?_⟩
  obtain ⟨c, rfl, qq⟩ := intV_get qq
  have eu := RepV.isInt st1.1 r1
  subst eu
  obtain ⟨p, c0, c1, c2, hs, gp, hp⟩ := (eo.fr f1).well st1 w
  refine ⟨.ref p, hs, ?_⟩
  have fin : ∀ d0 d1 d2 : Int, D.nx σ (upd H1 p (.lst [.int d0, .int d1, .int d2])) := fun d0 d1 d2 => by
    obtain ⟨f2, st2⟩ := well_upd (d0 := d0) (d1 := d1) (d2 := d2) st1 gp hp
    exact ends.nx _ _ g1 _ qq ⟨f1.gm, st2, fb.trans (f1.trans f2)⟩ (eo.fr (f1.trans f2))
  match k0, hk with
  | 0, _ => exact ⟨p, _, 0, 0, rfl, rfl, hp, rfl, fin _ _ _⟩
  | 1, _ => exact ⟨p, _, 1, 1, rfl, rfl, hp, rfl, fin _ _ _⟩
  | 2, _ => exact ⟨p, _, 2, 2, rfl, rfl, hp, rfl, fin _ _ _⟩
/-- x[0], y = divmod(a, b) -/
theorem FX.wdm {p yp tp dp dp2 : Pos} {cp sp : Pos} {cj kt : Nat} (F : FX C N sc k X) (v : NV X i x) (n : NL X j y) (hij : j ≠ i) (g : NG X "divmod") (m : C.mg "divmod" = none) (ha : DA C B X [a, b] t) (hs : isStar a = false) (hs2 : isStar b = false) :
    DS C B X (.Assign [.Tuple [.Subscript (.Name x p) (.Constant (.int 0) cj cp) sp, .Name y yp] kt tp] (.Call (.Name "divmod" dp) [a, b] [] dp2) pos) (sWdm i j t) := by
  have pg := pg_tup (X := X) (k := kt) (pos := tp) F.xo.calm (pgs_cons (pg_sub (pos := sp) (pe_var (pos := p) v.at_ v.vis v.d1 v.d2) (pe_int (i := 0) (j := cj) (pos := cp)) set_list (fun _ => rfl)) (pgs_cons (pg_name (pos := yp) F.xo.nd n.v.at_ n.loc n.pln) pgs_nil rfl) rfl) rfl rfl
  refine psW (ps_asg (pe_callB call_divmod g.g (F.mg m) (by decide +kernel) ha (by decide) (by decide) (star_cons _ _ _ hs) (noStar _ (by simp [hs2]))) pg rfl rfl rfl) fun D σ H h => ?_
  obtain ⟨g, env, Dd, st, fb, eo, ⟨w, h⟩, ends⟩ := h
  refine ⟨g, env, _, st, eo, h, fun vs as g1 H1 qq f1 st1 r1 => ?_⟩
  obtain ⟨c, d, rfl, cd, qq⟩ := ints2_get qq
  cases r1 with
  | cons r1 r2 =>
    cases r2 with
    | cons r2 r3 =>
      cases r3
      have e1 := RepV.isInt st1.1 r1
      have e2 := RepV.isInt st1.1 r2
      subst e1 e2
      refine ⟨c, d, rfl, cd, fun tp hT => ?_⟩
      refine ⟨tp, _, rfl, .inl (.inl upd_same), rfl, ?_⟩
      obtain ⟨p, c0, c1, c2, hs, gp, hp⟩ := (eo.fr f1).well st1 w
      have f2 : Gr g1 H1 g1 (upd H1 tp (.tup [.int (c / d), .int (c % d)])) := .fresh hT
      have st2 := st1.fresh (o := .tup [.int (c / d), .int (c % d)]) hT
      have hp2 : upd H1 tp (.tup [.int (c / d), .int (c % d)]) p = some (.lst [.int c0, .int c1, .int c2]) := (upd_ne (ne_of_none hp hT)).trans hp
      obtain ⟨f3, st3⟩ := well_upd (d0 := c / d) (d1 := c1) (d2 := c2) st2 gp hp2
      refine ⟨_, _, rfl, .ref p, hs, p, _, 0, 0, rfl, rfl, hp2, rfl, _, _, rfl, ?_⟩
      refine ⟨rfl, ends.nx _ _ g1 _ qq ⟨f1.gm, st3, fb.trans (f1.trans (f2.trans f3))⟩ ((eo.fr (f1.trans (f2.trans f3))).set j (.int (c % d)))⟩
theorem ds_retW (he : DE C B X e te) : DS C B X (.Return (some e) pos) (sRetW te) := by
  refine psW (ps_ret he) fun D σ H ⟨g, env, Dd, st, fb, eo, h, ends⟩ => ?_
  refine ⟨g, env, _, st, eo, h, fun v H1 ⟨av, g1, qq, f1, st1, r1, n1⟩ => ?_⟩
  unfold new3 at qq
  try dsimp only at qq
  split at qq
  · rename_i c0 c1 c2
    obtain ⟨p, vs, rfl, gp, hp, rv⟩ := r1
    obtain ⟨p', ep, hn⟩ := n1 _ rfl
    cases ep
    have ev : vs = [.int c0, .int c1, .int c2] := by
      cases rv with
      | cons z1 rv =>
        cases rv with
        | cons z2 rv =>
          cases rv with
          | cons z3 rv =>
            cases rv
            rw [RepV.isInt st1.1 z1, RepV.isInt st1.1 z2, RepV.isInt st1.1 z3]
    subst ev
    have m : gle g1 (gup g1 p .well) := fun c u h2 => by
      rw [gup_ne (fun z => by rw [z, gp] at h2; cases h2)]
      exact h2
    have f2 : Gr g H (gup g1 p .well) H1 := ⟨fun c u h2 => m c u (f1.gm c u h2), fun c o h2 => by rw [gup_ne (ne_of_none h2 hn)]; exact f1.km c o h2, f1.hm, f1.nm⟩
    refine ends.rt _ _ (gup g1 p .well) H1 qq ⟨f2.gm, ⟨fun c u h2 => ?_, st1.2⟩, fb.trans f2⟩ ⟨p, rfl, gup_same⟩
    by_cases hc : c = p
    · subst hc
      rw [gup_same] at h2
      cases h2
      exact ⟨c0, c1, c2, hp⟩
    · rw [gup_ne hc] at h2
      exact (st1.1 c u h2).mono m fun _ z => z
  · exact qq.elim
end
end TL
namespace TL
open PySem PySem.Spec PyProof.Rows L2 LamX NdefX StX
section
variable {C : CC} {B : Base} {X : Cx} {N : List Str} {sc : Scope} {k : Nat} {a b c e : Expr} {es : List Expr} {ta tb te : TEd} {t : TAd} {p p2 pos pos2 : Pos}
/-! ### list(range(..)), tuple(range(..)) -/
def eRg1 (mk : List PyData → AV) (ta : TEd) : TEd := fun env Q E => ta env (fun x => intV x fun j => okRng 0 j = true ∧ Q (mk (rngD 0 j.toNat))) E
def eRg2 (mk : List PyData → AV) (ta tb : TEd) : TEd := fun env Q E => ta env (fun x => tb env (fun y => intV x fun i => intV y fun j => okRng i j = true ∧ Q (mk (rngD i (j - i).toNat))) E) E
def tupAV (l : List PyData) : AV := .dat (.tuple l)
theorem rg_reps {K : PySem.W.Frag} {g : Gh} {i j : Int} : RepVs K g (rgV i j) (rngD i (j - i).toNat) := by
  unfold rgV rngD
  generalize (j - i).toNat = n
  induction List.range n with
  | nil => exact .nil
  | cons x l ih => exact .cons (.int _) ih
theorem rg_ok' {i j : Int} (h : okRng i j = true) : RgOk i j := by
  obtain ⟨⟨h1, h2, h3, h4⟩, h5⟩ := okRng_get h
  exact ⟨h1, h2, h3, h4, by omega⟩
theorem FX.lrg1 (F : FX C N sc k X) (g : NG X "list") (m : C.mg "list" = none) (g2 : NG X "range") (m2 : C.mg "range" = none) (ha : DE C B X a ta) (hs : isStar a = false) : DE C B X (.Call (.Name "list" p) [.Call (.Name "range" p2) [a] [] pos2] [] pos) (eRg1 .new ta) := by
  refine peW (pe_listRg F.xo.calm g.g (F.mg m) (prg_1 g2.g (F.mg m2) ha (star_cons _ _ _ hs)) (star_cons _ _ _ rfl)) fun σ H Q h => ?_
  obtain ⟨g, env, Qd, st, eo, h, kk⟩ := h
  refine ⟨g, env, _, st, eo, h, fun v H1 ⟨x, g1, q, f1, st1, r1, n1⟩ => ?_⟩
  obtain ⟨j, rfl, ok, q⟩ := intV_get q
  refine ⟨j, RepV.isInt st1.1 r1, rg_ok' ok, fun r hr => kk _ _ ((ResV.new st1 hr ?_).fin f1 q)⟩
  have := rg_reps (K := C.K) (g := g1) (i := 0) (j := j)
  rw [Int.sub_zero] at this
  exact this
theorem FX.lrg2 (F : FX C N sc k X) (g : NG X "list") (m : C.mg "list" = none) (g2 : NG X "range") (m2 : C.mg "range" = none) (ha : DE C B X a ta) (hb : DE C B X b tb) (hs : isStar a = false) (hs2 : isStar b = false) : DE C B X (.Call (.Name "list" p) [.Call (.Name "range" p2) [a, b] [] pos2] [] pos) (eRg2 .new ta tb) := by
  refine peW (pe_listRg F.xo.calm g.g (F.mg m) (prg_2 g2.g (F.mg m2) ha hb (star_cons _ _ _ hs) (star_cons _ _ _ hs2) (noStar _ (by simp [hs2]))) (star_cons _ _ _ rfl)) fun σ H Q h => ?_
  obtain ⟨g, env, Qd, st, eo, h, kk⟩ := h
  refine ⟨g, env, _, st, eo, h, fun v H1 ⟨x, g1, q, f1, st1, r1, n1⟩ => ⟨g1, env, _, st1, eo.fr f1, q, fun w H2 ⟨y, g2, q2, f2, st2, r2, n2⟩ => ?_⟩⟩
  obtain ⟨i, e1, q3⟩ := intV_get q2
  obtain ⟨j, e2, ok, q4⟩ := intV_get q3
  subst e1 e2
  exact ⟨i, j, RepV.isInt st1.1 r1, RepV.isInt st2.1 r2, rg_ok' ok, fun r hr => kk _ _ ((ResV.new st2 hr rg_reps).fin (f1.trans f2) q4)⟩
theorem FX.trg1 (F : FX C N sc k X) (g : NG X "tuple") (m : C.mg "tuple" = none) (g2 : NG X "range") (m2 : C.mg "range" = none) (ha : DE C B X a ta) (hs : isStar a = false) : DE C B X (.Call (.Name "tuple" p) [.Call (.Name "range" p2) [a] [] pos2] [] pos) (eRg1 tupAV ta) := by
  refine peW (pe_tupRg F.xo.calm g.g (F.mg m) (prg_1 g2.g (F.mg m2) ha (star_cons _ _ _ hs)) (star_cons _ _ _ rfl)) fun σ H Q h => ?_
  obtain ⟨g, env, Qd, st, eo, h, kk⟩ := h
  refine ⟨g, env, _, st, eo, h, fun v H1 ⟨x, g1, q, f1, st1, r1, n1⟩ => ?_⟩
  obtain ⟨j, rfl, ok, q⟩ := intV_get q
  refine ⟨j, RepV.isInt st1.1 r1, rg_ok' ok, fun r hr => kk _ _ ((ResV.tup st1 hr ?_).fin f1 q)⟩
  have := rg_reps (K := C.K) (g := g1) (i := 0) (j := j)
  rw [Int.sub_zero] at this
  exact this
theorem FX.trg2 (F : FX C N sc k X) (g : NG X "tuple") (m : C.mg "tuple" = none) (g2 : NG X "range") (m2 : C.mg "range" = none) (ha : DE C B X a ta) (hb : DE C B X b tb) (hs : isStar a = false) (hs2 : isStar b = false) : DE C B X (.Call (.Name "tuple" p) [.Call (.Name "range" p2) [a, b] [] pos2] [] pos) (eRg2 tupAV ta tb) := by
  refine peW (pe_tupRg F.xo.calm g.g (F.mg m) (prg_2 g2.g (F.mg m2) ha hb (star_cons _ _ _ hs) (star_cons _ _ _ hs2) (noStar _ (by simp [hs2]))) (star_cons _ _ _ rfl)) fun σ H Q h => ?_
  obtain ⟨g, env, Qd, st, eo, h, kk⟩ := h
  refine ⟨g, env, _, st, eo, h, fun v H1 ⟨x, g1, q, f1, st1, r1, n1⟩ => ⟨g1, env, _, st1, eo.fr f1, q, fun w H2 ⟨y, g2, q2, f2, st2, r2, n2⟩ => ?_⟩⟩
  obtain ⟨i, e1, q3⟩ := intV_get q2
  obtain ⟨j, e2, ok, q4⟩ := intV_get q3
  subst e1 e2
  exact ⟨i, j, RepV.isInt st1.1 r1, RepV.isInt st2.1 r2, rg_ok' ok, fun r hr => kk _ _ ((ResV.tup st2 hr rg_reps).fin (f1.trans f2) q4)⟩
/-! ### range(a, b, -1) -/
def downD (hi : Int) (n : Nat) : List PyData := (List.range n).map fun (i : Nat) => .int (hi - i)
def iRg3 (t : TAd) : TId := fun env Q E => t env (fun as => match as with
  | [.dat (.int i), .dat (.int j), .dat (.int c)] => c = -1 ∧ okRng j i = true ∧ Q (downD i (i - j).toNat)
  | _ => False) E
theorem ylds_down {g0 : Gh} (hi : Int) (n : Nat) : Ylds C g0 (Itc hi (-1) n) (downD hi n) := fun i g H m st => by
  unfold downD
  refine ⟨fun d e => ?_, fun e => ?_⟩
  · rw [List.getElem?_map] at e
    by_cases h : i < n
    · rw [List.getElem?_range h] at e
      cases e
      refine ⟨h, fun x H' ⟨eH, ex⟩ => ⟨g, ?_⟩⟩
      subst eH ex
      refine ⟨.refl, st, ?_⟩
      rw [show hi + (i : Nat) * (-1 : Int) = hi - (i : Nat) by omega]
      exact .int _
    · rw [List.getElem?_eq_none (by simp; omega)] at e
      cases e
  · show n ≤ i
    rw [e, List.length_map, List.length_range]
    exact Nat.le_refl _
theorem FX.rg3 {tg : Expr} (F : FX C N sc k X) (g : NG X "range") (m : C.mg "range" = none) (ha : DA C B X [a, b, c] t) (hs : isStar a = false) (hs2 : isStar b = false) (hs3 : isStar c = false) : DI C B X tg (.Call (.Name "range" p) [a, b, c] [] pos) (iRg3 t) := by
  refine piW (pi_range3 g.g (F.mg m) ha (star_cons _ _ _ hs) (noStar _ (by simp [hs2, hs3]))) fun σ H R h => ?_
  obtain ⟨g, env, Qd, st, eo, h, kk⟩ := h
  refine ⟨g, env, _, st, eo, h, fun vs as g1 H1 q f1 st1 r1 => ?_⟩
  try dsimp only at q
  split at q
  · rename_i i j c
    obtain ⟨rfl, ok, q⟩ := q
    obtain ⟨⟨h1, h2, h3, h4⟩, h5⟩ := okRng_get ok
    cases r1 with
    | cons r1 r2 =>
      cases r2 with
      | cons r2 r3 =>
        cases r3 with
        | cons r3 r4 =>
          cases r4
          exact ⟨i, j, -1, (i - j).toNat, by rw [RepV.isInt st1.1 r1, RepV.isInt st1.1 r2, RepV.isInt st1.1 r3], RgC.neg h3 h4 h1 h2, kk _ _ g1 H1 q f1 st1 (ylds_down _ _) (by simp [downD]; omega)⟩
  · exact q.elim
/-! ### in, not in -/
def dInB : PyData → PyData → Option Bool
  | d, .list ds => if SeqAt.shaped d = true ∧ SeqAt.shaped (.list ds) = true then some (ds.any fun z => PyData.eqv z d) else none
  | .int i, .tuple ds => (intsD ds).map fun ns => decide (i ∈ ns)
  | _, _ => none
def dIn : Op2 := fun x y => (dInB x y).map fun b => .dat (.bool b)
def dNotIn : Op2 := fun x y => (dInB x y).map fun b => .dat (.bool (!b))
theorem inV_ints (i : Int) : ∀ ns : List Int, inV (.int i) (ns.map V.int) = decide (i ∈ ns)
  | [] => by simp [inV]
  | n :: ns => by
    have ih := inV_ints i ns
    unfold inV at ih ⊢
    rw [List.map_cons, List.any_cons, ih]
    by_cases h : n = i
    · subst h
      simp [eqV]
    · have : eqV (.int n) (.int i) = false := by simp [eqV, h]
      rw [this]
      simp [Ne.symm h]
theorem flat_ints (ns : List Int) : (ns.map V.int).all flatV = true := by
  induction ns with
  | nil => rfl
  | cons n ns ih => exact ih
theorem in_tup {g : Gh} {H : Hp} {x y : V} {i : Int} {ds : List PyData} {ns : List Int} (st : StOk C g H) (hx : RepB C.K g H x (.int i)) (hy : RepB C.K g H y (.tuple ds)) (e : intsD ds = some ns) :
    ∃ q, x = .int i ∧ y = .ref q ∧ SqT C.K H q (ns.map V.int) := by
  obtain ⟨q, vs, rfl, _, h1, h2⟩ := hy.tup_inv
  rw [ints_ok st.1 h2 e] at h1
  exact ⟨q, hx.int_inv, rfl, h1⟩
theorem FX.in_ (F : FX C N sc k X) : CmpR C X .In dIn := ⟨by
  intro pins s σ H x y v u Q I rx ry h
  obtain ⟨g, dx, dy, a, st, hx, hy, e, kk⟩ := h
  have hu : X.A.units + 65 < cLine := by have := F.room.un; omega
  unfold dIn dInB at e
  split at e
  · rename_i ds
    split at e
    · rename_i hs
      cases e
      exact op_inD hu pins s σ H x y v u Q I rx ry ⟨dx, ds, by rw [F.xo.K]; exact dp_of st.1 _ hx, by rw [F.xo.K]; exact dp_of st.1 _ hy, hs.1, hs.2, kk _ _ (.flat st (.bl _))⟩
    · cases e
  · rename_i i ds
    cases hn : intsD ds with
    | none => rw [hn] at e; cases e
    | some ns =>
      rw [hn] at e
      cases e
      obtain ⟨q, rfl, rfl, h1⟩ := in_tup st hx hy hn
      exact op_in_seq pins s σ H _ _ v u Q I rx ry ⟨q, ns.map V.int, rfl, .inr (by rw [F.xo.K]; exact h1), rfl, flat_ints ns, by rw [if_neg (by decide), inV_ints]; exact kk _ _ (.flat st (.bl _))⟩
  · cases e⟩
theorem FX.nin (F : FX C N sc k X) : CmpR C X .NotIn dNotIn := ⟨by
  intro pins s σ H x y v u Q I rx ry h
  obtain ⟨g, dx, dy, a, st, hx, hy, e, kk⟩ := h
  have hu : X.A.units + 65 < cLine := by have := F.room.un; omega
  unfold dNotIn dInB at e
  split at e
  · rename_i ds
    split at e
    · rename_i hs
      cases e
      exact op_notInD hu pins s σ H x y v u Q I rx ry ⟨dx, ds, by rw [F.xo.K]; exact dp_of st.1 _ hx, by rw [F.xo.K]; exact dp_of st.1 _ hy, hs.1, hs.2, kk _ _ (.flat st (.bl _))⟩
    · cases e
  · rename_i i ds
    cases hn : intsD ds with
    | none => rw [hn] at e; cases e
    | some ns =>
      rw [hn] at e
      cases e
      obtain ⟨q, rfl, rfl, h1⟩ := in_tup st hx hy hn
      exact op_notIn_seq pins s σ H _ _ v u Q I rx ry ⟨q, ns.map V.int, rfl, .inr (by rw [F.xo.K]; exact h1), rfl, flat_ints ns, by rw [if_pos rfl, inV_ints]; exact kk _ _ (.flat st (.bl _))⟩
  · cases e⟩
/-! ### *e in a display -/
def aStar (te : TEd) (tr : TAd) : TAd := fun env Q E => te env (fun a => match a.sd with
  | some d => (match seqV d with
    | some l => tr env (fun as => Q (l.map AV.dat ++ as)) E
    | none => False)
  | none => False) E
theorem reps_dats {g : Gh} {H : Hp} : ∀ {vs : List V} {l : List PyData}, RepVs C.K g vs l → Paired (RepA C g H) vs (l.map AV.dat)
  | _, _, .nil => .nil
  | _, _, .cons r t => .cons r (reps_dats t)
theorem FX.star {sp : Pos} (F : FX C N sc k X) (he : DE C B X e te) (hr : DA C B X es t) : DA C B X (.Starred e sp :: es) (aStar te t) := by
  refine paW (pa_star he hr rfl) fun σ H Q h => ?_
  obtain ⟨g, env, Qd, st, eo, h, kk⟩ := h
  refine ⟨g, env, _, st, eo, h, fun v H1 ⟨x, g1, q, f1, st1, r1, n1⟩ => ?_⟩
  try dsimp only at q
  split at q
  · rename_i d ed
    split at q
    · rename_i l el
      obtain ⟨g2, f2, st2, r2, m2⟩ := freeze st f1 st1 r1 n1 (sd_st ed)
      obtain ⟨S, rfl, now⟩ := src_now (C := C) r2 el
      obtain ⟨vs, hsq, rvs⟩ := now g2 H1 (fun _ _ h => h) st2
      refine ⟨S.a, vs, rfl, ?_, ⟨g2, env, _, st2, eo.fr f2, q, fun ws as g3 H3 q3 f3 st3 r3 => kk _ _ g3 H3 q3 (f2.trans f3) st3 (pairedApp (reps_dats (RepVs.mono f3.gm rvs)) r3)⟩⟩
      cases S with
      | l a => exact .inr (by rw [F.xo.K]; exact hsq)
      | t a => exact .inl (by rw [F.xo.K]; exact hsq)
    · exact q.elim
  · exact q.elim
end
end TL
namespace TL
open PySem PySem.Spec PyProof.Rows L2 LamX NdefX StX
/-! ### a list or a tuple times a number -/
section
variable {C : CC} {B : Base} {X : Cx} {N : List Str} {sc : Scope} {k : Nat} {a b c e : Expr} {es : List Expr} {ta tb te : TEd} {t : TAd} {p p2 pos pos2 : Pos}
def repL (n : Nat) (l : List PyData) : List PyData := (List.replicate n l).flatten
def eRep (ta tb : TEd) : TEd := fun env Q E => ta env (fun x => match x with
  | .new l => tb env (fun y => intV y fun n => (0 ≤ n ∧ n ≤ 1000000 ∧ l.length * n.toNat ≤ 1000000) ∧ Q (.new (repL n.toNat l))) E
  | .dat (.tuple l) => tb env (fun y => intV y fun n => (2 ≤ n ∧ n ≤ 1000 ∧ l ≠ [] ∧ l.length ≤ 1000) ∧ Q (.dat (.tuple (repL n.toNat l)))) E
  | _ => False) E
theorem rep_reps {K : PySem.W.Frag} {g : Gh} {vs : List V} {ds : List PyData} (r : RepVs K g vs ds) : ∀ n : Nat, RepVs K g (List.replicate n vs).flatten (repL n ds)
  | 0 => .nil
  | n + 1 => by
    show RepVs K g (List.replicate (n + 1) vs).flatten (List.replicate (n + 1) ds).flatten
    rw [List.replicate_succ, List.replicate_succ, List.flatten_cons, List.flatten_cons]
    exact pairedApp r (rep_reps r n)
theorem op_or {op : Operator} {r r' : R2} (h : OpR X (binaryOp op) r) (h' : OpR X (binaryOp op) r') : OpR X (binaryOp op) fun x y H Q => r x y H Q ∨ r' x y H Q := by
  intro pins s σ H x y v u Q I rx ry q
  rcases q with q | q
  · exact h pins s σ H x y v u Q I rx ry q
  · exact h' pins s σ H x y v u Q I rx ry q
theorem FX.rep (F : FX C N sc k X) (ha : DE C B X a ta) (hb : DE C B X b tb) : DE C B X (.BinOp a .Mult b pos) (eRep ta tb) := by
  refine peW (pe_op (op_or op_rep op_repT) ha hb) fun σ H Q h => ?_
  obtain ⟨g, env, Qd, st, eo, h, kk⟩ := h
  refine ⟨g, env, _, st, eo, h, fun v H1 ⟨x, g1, q, f1, st1, r1, n1⟩ => ?_⟩
  try dsimp only at q
  split at q
  · rename_i l
    refine ⟨g1, env, _, st1, eo.fr f1, q, fun w H2 ⟨y, g2, q2, f2, st2, r2, n2⟩ => ?_⟩
    obtain ⟨i, ei, ⟨h0, h1, h2⟩, q3⟩ := intV_get q2
    subst ei
    obtain ⟨p, vs, ev, gn, hp, rv⟩ := OwnL.fr f2 r1
    subst ev
    have hl := Paired.len rv
    exact .inl ⟨p, i, vs, rfl, RepV.isInt st2.1 r2, hp, by omega, by omega, by rw [hl]; exact Nat.le_trans h2 (by decide), fun r hr => kk _ _ ((ResV.new st2 hr (rep_reps rv _)).fin (f1.trans f2) q3)⟩
  · rename_i l
    refine ⟨g1, env, _, st1, eo.fr f1, q, fun w H2 ⟨y, g2, q2, f2, st2, r2, n2⟩ => ?_⟩
    obtain ⟨i, ei, ⟨h0, h1, h2, h3⟩, q3⟩ := intV_get q2
    subst ei
    have r1 : RepV C.K g1 v (.tuple l) := r1
    obtain ⟨p, vs, ev, _, h4, rv⟩ := (RepV.b st2.1 (RepV.mono f2.gm r1)).tup_inv
    subst ev
    have hl := Paired.len rv
    refine .inr ⟨p, i, vs, rfl, RepV.isInt st2.1 r2, by rw [F.xo.K]; exact h4, fun z => ?_, h0, h1, by omega, fun r hr => kk _ _ ((ResV.tup st2 hr (rep_reps rv _)).fin (f1.trans f2) q3)⟩
    rw [z] at hl
    exact h2 (List.length_eq_zero_iff.mp hl.symm)
  · exact q.elim
end
end TL
/-! steps of the readings upon written slots: rows for simp -/
namespace TL
open PySem PySem.Spec PyProof.Rows L2 LamX NdefX
def rtQ (D : EndsD) (a : AV) : Prop := match a.st with
  | some b => D.rt b
  | none => False
def brQ (b : Bool) (t u : TSd) (D : EndsD) (env : En) (E : XD → Prop) : Prop := if b = true then t D env E else u D env E
def stQ (N : En → Prop) (env : En) (i : Nat) (a : AV) : Prop := match storeA env i a with
  | some e => N e
  | none => False
def sfQ (N : En → Prop) (env : En) (i : Nat) (a : AV) : Prop := match storeF env i a with
  | some e => N e
  | none => False
def p2Q (N : En → Prop) (env : En) (i j : Nat) (x y : AV) : Prop := match (storeA env i x).bind fun e => storeA e j y with
  | some e => N e
  | none => False
def p3Q (N : En → Prop) (env : En) (i j k : Nat) (x y z : AV) : Prop := match (storeA env i x).bind fun e => (storeA e j y).bind fun e => storeA e k z with
  | some e => N e
  | none => False
def tgQ (N : En → Prop) (t : Tg) (env : En) (d : PyData) : Prop := match t.set d env with
  | some e => N e
  | none => False
def unQ (N : En → Prop) (t : Tg) (env : En) (a : AV) : Prop := match a.sd with
  | some d => tgQ N t env d
  | none => False
def tpQ (N : En → Prop) (is : List Nat) (env : En) (ds : List PyData) : Prop := match setsE env is ds with
  | some e => N e
  | none => False
def owQ (o : Option (Option SL)) (K : List PyData → Prop) : Prop := match o with
  | some (some (.own l)) => K l
  | _ => False
def sdQ (K : PyData → Prop) (a : AV) : Prop := match a.sd with
  | some d => K d
  | none => False
def nwQ (K : List PyData → Prop) (a : AV) : Prop := match a with
  | .new l => K l
  | _ => False
def vrQ (o : Option (Option SL)) (Q : AV → Prop) : Prop := match o with
  | some (some (.av a)) => Q a
  | some (some (.own l)) => Q (.brw l)
  | _ => False
def ifQ (c : Bool) (ta tb : TEd) (env : En) (Q : AV → Prop) (E : XD → Prop) : Prop := if c = true then ta env Q E else tb env Q E
def tbQ (Q : Bool → Prop) (a : AV) : Prop := match a with
  | .dat (.bool b) => Q b
  | _ => False
def trQ (Q : Bool → Prop) (a : AV) : Prop := match a.rd with
  | some d => (match truD d with
    | some b => Q b
    | none => False)
  | none => False
def anQ (c : Bool) (t : TTd) (env : En) (Q : Bool → Prop) (E : XD → Prop) : Prop := if c = true then t env Q E else Q false
def orQ (c : Bool) (t : TTd) (env : En) (Q : Bool → Prop) (E : XD → Prop) : Prop := if c = true then Q true else t env Q E
def aeQ (a : AV) (t : TEd) (env : En) (Q : AV → Prop) (E : XD → Prop) : Prop := match a with
  | .dat (.bool true) => t env Q E
  | .dat (.bool false) => Q (.dat (.bool false))
  | _ => False
def oeQ (a : AV) (t : TEd) (env : En) (Q : AV → Prop) (E : XD → Prop) : Prop := match a with
  | .dat (.bool false) => t env Q E
  | .dat (.bool true) => Q (.dat (.bool true))
  | _ => False
def neQ (Q : AV → Prop) (a : AV) : Prop := match a with
  | .dat (.bool b) => Q (.dat (.bool (!b)))
  | _ => False
def ngQ (Q : AV → Prop) (a : AV) : Prop := match a with
  | .dat (.int i) => Q (.dat (.int (-i)))
  | _ => False
def acQ (a : AV) (K : AV → Prop) : Prop := match a.st with
  | some b => K b
  | none => False
def asQ (a : AV) (K : List PyData → Prop) : Prop := match a.sd with
  | some d => (match seqV d with
    | some l => K l
    | none => False)
  | none => False
def dtQ (as : List AV) (K : List PyData → Prop) : Prop := match dats as with
  | some ds => ds.length ≤ 16777216 ∧ K ds
  | none => False
def d0Q (as : List AV) (K : List PyData → Prop) : Prop := match dats as with
  | some ds => K ds
  | none => False
def osQ (Q : Option Int → Prop) (a : AV) : Prop := match a with
  | .dat (.int i) => Q (some i)
  | _ => False
def slQ (lo hi : Option Int) (Q : AV → Prop) (a : AV) : Prop := match a.rd with
  | some d => (match dSl d lo hi with
    | some b => Q b
    | none => False)
  | none => False
def cbQ (f : OpN) (Q : AV → Prop) (as : List AV) : Prop := match f as with
  | some a => Q a
  | none => False
def r1Q (Q : List PyData → Prop) (as : List AV) : Prop := match as with
  | [.dat (.int j)] => okRng 0 j = true ∧ Q (rngD 0 j.toNat)
  | _ => False
def r2Q (Q : List PyData → Prop) (as : List AV) : Prop := match as with
  | [.dat (.int i), .dat (.int j)] => okRng i j = true ∧ Q (rngD i (j - i).toNat)
  | _ => False
def r3Q (Q : List PyData → Prop) (as : List AV) : Prop := match as with
  | [.dat (.int i), .dat (.int j), .dat (.int c)] => c = -1 ∧ okRng j i = true ∧ Q (downD i (i - j).toNat)
  | _ => False
def enQ (Q : List PyData → Prop) (as : List AV) : Prop := match as with
  | [.dat d] => (match seqV d with
    | some l => Q (enumD 0 l)
    | none => False)
  | _ => False
def zpQ (Q : List PyData → Prop) (as : List AV) : Prop := match as with
  | [.dat d, .dat d'] => (match seqV d, seqV d' with
    | some l, some m => Q (zip2D l m)
    | _, _ => False)
  | _ => False
def lzQ (Q : AV → Prop) (as : List AV) : Prop := match as with
  | [.dat (.list l), .dat (.list m)] => Q (.new (zip2D l m))
  | _ => False
def kpQ (o : Option (List AV)) (K : List AV → Prop) : Prop := match o with
  | some bs => K bs
  | none => False
def isQ (T : String) (Q : AV → Prop) (a : AV) : Prop := match a.rd with
  | some d => (match isD T d with
    | some b => Q (.dat (.bool b))
    | none => False)
  | none => False
def weQ (o : Option (Option SL)) : Prop := match o with
  | some (some (.av .well)) => True
  | _ => False
def clQ (o : Option (Option SL)) (K : Nat → Beh → Prop) : Prop := match o with
  | some (some (.av (.clo k b))) => K k b
  | _ => False
def fzO (o : Option (Option SL)) (i : Nat) (env : En) : En := match o with
  | some (some (.own l)) => env.set i (some (.av (.dat (.list l))))
  | _ => env
def rpQ (tb : TEd) (env : En) (Q : AV → Prop) (E : XD → Prop) (x : AV) : Prop := match x with
  | .new l => tb env (fun y => intV y fun n => (0 ≤ n ∧ n ≤ 1000000 ∧ l.length * n.toNat ≤ 1000000) ∧ Q (.new (repL n.toNat l))) E
  | .dat (.tuple l) => tb env (fun y => intV y fun n => (2 ≤ n ∧ n ≤ 1000 ∧ l ≠ [] ∧ l.length ≤ 1000) ∧ Q (.dat (.tuple (repL n.toNat l)))) E
  | _ => False
def chQ (k : Bool) (f' : Op2) (y : AV) (tc : TEd) (env : En) (Q : AV → Prop) (E : XD → Prop) : Prop := if k = true then tc env (fun z => ap2 f' y z Q) E else Q (.dat (.bool false))
section
variable {s : Option SL} {es env : En} {D : EndsD} {E : XD → Prop} {Q : AV → Prop} {N : En → Prop} {i j k : Nat} {a b x y z : AV} {l m : List PyData} {d e : PyData} {t u : TSd} {c c2 : TTd} {ta tb tc te : TEd} {ts tr : TAd} {ti : TId} {tl th : TOd} {tg : Tg} {f f' : Op2} {g : OpN} {sp : DSp} {is : List Nat}
theorem w_seq : sSeq t u D (s :: es) E = t { D with nx := fun e => u D e E } (s :: es) E := rfl
theorem w_next : sNext D (s :: es) E = D.nx (s :: es) := rfl
theorem w_break : sBreak D (s :: es) E = D.bk (s :: es) := rfl
theorem w_cont : sCont D (s :: es) E = D.ct (s :: es) := rfl
theorem w_drop : sDrop te D (s :: es) E = te (s :: es) (fun _ => D.nx (s :: es)) E := rfl
theorem w_ret : sRet te D (s :: es) E = te (s :: es) (fun a => rtQ D a) E := rfl
theorem w_retN : sRetN D (s :: es) E = D.rt (.dat .none) := rfl
theorem w_retW : sRetW te D (s :: es) E = te (s :: es) (fun a => new3 a (D.rt .well)) E := rfl
theorem w_new3 {p q r : Int} {R : Prop} : new3 (.new [.int p, .int q, .int r]) R = R := rfl
theorem w_rtd : rtQ D (.dat d) = D.rt (.dat d) := rfl
theorem w_rtn : rtQ D (.new l) = D.rt (.dat (.list l)) := rfl
theorem w_rtw : rtQ D .well = D.rt .well := rfl
theorem w_if : sIf c t u D (s :: es) E = c (s :: es) (fun b => brQ b t u D (s :: es) E) E := rfl
theorem w_br1 : brQ true t u D env E = t D env E := rfl
theorem w_br0 : brQ false t u D env E = u D env E := rfl
theorem br_dec {p : Prop} [Decidable p] (h1 : p → t D env E) (h2 : ¬ p → u D env E) : brQ (decide p) t u D env E := by
  unfold brQ
  by_cases h : p
  · rw [if_pos (decide_eq_true h)]; exact h1 h
  · rw [if_neg (by simpa using h)]; exact h2 h
theorem br_ndec {p : Prop} [Decidable p] (h1 : ¬ p → t D env E) (h2 : p → u D env E) : brQ (!decide p) t u D env E := by
  unfold brQ
  by_cases h : p
  · rw [if_neg (by simpa using h)]; exact h2 h
  · rw [if_pos (by simpa using h)]; exact h1 h
theorem br_bool {v : Bool} (h1 : v = true → t D env E) (h2 : v = false → u D env E) : brQ v t u D env E := by
  cases v
  · exact h2 rfl
  · exact h1 rfl
theorem br_pos {v : Bool} (h : v = true) (h1 : t D env E) : brQ v t u D env E := by
  subst h; exact h1
theorem br_neg {v : Bool} (h : v = false) (h1 : u D env E) : brQ v t u D env E := by
  subst h; exact h1
theorem w_set : sSet i te D (s :: es) E = te (s :: es) (fun a => stQ D.nx (s :: es) i a) E := rfl
theorem w_setF : sSetF i te D (s :: es) E = te (s :: es) (fun a => sfQ D.nx (s :: es) i a) E := rfl
theorem w_std : stQ N env i (.dat d) = N (env.set i (some (.av (.dat d)))) := rfl
theorem w_stn : stQ N env i (.new l) = N (env.set i (some (.own l))) := rfl
theorem w_stw : stQ N env i .well = N (env.set i (some (.av .well))) := rfl
theorem w_sfd : sfQ N env i (.dat d) = N (env.set i (some (.av (.dat d)))) := rfl
theorem w_sfn : sfQ N env i (.new l) = N (env.set i (some (.av (.dat (.list l))))) := rfl
theorem w_sfw : sfQ N env i .well = N (env.set i (some (.av .well))) := rfl
theorem w_p2 : sPar2 i j ta tb D (s :: es) E = ta (s :: es) (fun x => tb (s :: es) (fun y => p2Q D.nx (s :: es) i j x y) E) E := rfl
theorem w_p3 : sPar3 i j k ta tb tc D (s :: es) E = ta (s :: es) (fun x => tb (s :: es) (fun y => tc (s :: es) (fun z => p3Q D.nx (s :: es) i j k x y z) E) E) E := rfl
theorem w_p2d : p2Q N env i j (.dat d) y = stQ N (env.set i (some (.av (.dat d)))) j y := rfl
theorem w_p2n : p2Q N env i j (.new l) y = stQ N (env.set i (some (.own l))) j y := rfl
theorem w_p3d : p3Q N env i j k (.dat d) y z = p2Q N (env.set i (some (.av (.dat d)))) j k y z := rfl
theorem w_p3n : p3Q N env i j k (.new l) y z = p2Q N (env.set i (some (.own l))) j k y z := rfl
theorem w_unp : sUnp tg te D (s :: es) E = te (s :: es) (fun a => unQ D.nx tg (s :: es) a) E := rfl
theorem w_und : unQ N tg env (.dat d) = tgQ N tg env d := rfl
theorem w_unn : unQ N tg env (.new l) = tgQ N tg env (.list l) := rfl
theorem w_tgn : tgQ N (.nm i) env d = N (env.set i (some (.av (.dat d)))) := rfl
theorem w_tgt : tgQ N (.tp is) env (.tuple l) = tpQ N is env l := rfl
theorem w_tp0 : tpQ N [] env [] = N env := rfl
theorem w_tp1 : tpQ N (i :: is) env (d :: l) = tpQ N is (env.set i (some (.av (.dat d)))) l := rfl
theorem w_app : sApp i te D (s :: es) E = owQ ((s :: es)[i]?) (fun l => te (s :: es) (fun a => sdQ (fun d => l.length < 16777216 ∧ D.nx ((s :: es).set i (some (.own (l ++ [d]))))) a) E) := by
  unfold sApp ownAt owQ
  cases (s :: es)[i]? with
  | none => rfl
  | some o => cases o with
    | none => rfl
    | some v => cases v with
      | av a => rfl
      | own l => rfl
theorem w_ext : sExt i te D (s :: es) E = owQ ((s :: es)[i]?) (fun l => te (s :: es) (fun a => nwQ (fun m => l.length + m.length ≤ 16777216 ∧ D.nx ((s :: es).set i (some (.own (l ++ m))))) a) E) := by
  unfold sExt ownAt owQ
  cases (s :: es)[i]? with
  | none => rfl
  | some o => cases o with
    | none => rfl
    | some v => cases v with
      | av a => rfl
      | own l => rfl
theorem w_ow {K : List PyData → Prop} : owQ (some (some (.own l))) K = K l := rfl
theorem w_sdd {K : PyData → Prop} : sdQ K (.dat d) = K d := rfl
theorem w_sdn {K : PyData → Prop} : sdQ K (.new l) = K (.list l) := rfl
theorem w_nw {K : List PyData → Prop} : nwQ K (.new l) = K l := rfl
theorem w_var : eVar i (s :: es) Q E = vrQ ((s :: es)[i]?) Q := rfl
theorem w_vra : vrQ (some (some (.av a))) Q = Q a := rfl
theorem w_vro : vrQ (some (some (.own l))) Q = Q (.brw l) := rfl
theorem w_c : eC d (s :: es) Q E = Q (.dat d) := rfl
theorem w_op : eOp f ta tb (s :: es) Q E = ta (s :: es) (fun x => tb (s :: es) (fun y => ap2 f x y Q) E) E := rfl
theorem w_eif : eIf c ta tb (s :: es) Q E = c (s :: es) (fun b => ifQ b ta tb (s :: es) Q E) E := rfl
theorem w_if1 : ifQ true ta tb env Q E = ta env Q E := rfl
theorem w_if0 : ifQ false ta tb env Q E = tb env Q E := rfl
theorem if_dec {p : Prop} [Decidable p] (h1 : p → ta env Q E) (h2 : ¬ p → tb env Q E) : ifQ (decide p) ta tb env Q E := by
  unfold ifQ
  by_cases h : p
  · rw [if_pos (decide_eq_true h)]; exact h1 h
  · rw [if_neg (by simpa using h)]; exact h2 h
theorem if_bool {v : Bool} (h1 : v = true → ta env Q E) (h2 : v = false → tb env Q E) : ifQ v ta tb env Q E := by
  cases v
  · exact h2 rfl
  · exact h1 rfl
theorem w_tb {K : Bool → Prop} : tB te (s :: es) K E = te (s :: es) (fun a => tbQ K a) E := rfl
theorem w_tbb {K : Bool → Prop} {v : Bool} : tbQ K (.dat (.bool v)) = K v := rfl
theorem w_tru {K : Bool → Prop} : tTru te (s :: es) K E = te (s :: es) (fun a => trQ K a) E := rfl
theorem w_trb {K : Bool → Prop} {v : Bool} : trQ K (.dat (.bool v)) = K v := rfl
theorem w_tri {K : Bool → Prop} {v : Int} : trQ K (.dat (.int v)) = K (v != 0) := rfl
theorem w_trl {K : Bool → Prop} : trQ K (.dat (.list l)) = K (!l.isEmpty) := rfl
theorem w_trt {K : Bool → Prop} : trQ K (.dat (.tuple l)) = K (!l.isEmpty) := rfl
theorem w_trn {K : Bool → Prop} : trQ K (.new l) = K (!l.isEmpty) := rfl
theorem w_tro {K : Bool → Prop} : trQ K (.brw l) = K (!l.isEmpty) := rfl
theorem w_tr0 {K : Bool → Prop} : trQ K (.dat .none) = K false := rfl
theorem w_and {K : Bool → Prop} : tAndD c c2 (s :: es) K E = c (s :: es) (fun b => anQ b c2 (s :: es) K E) E := rfl
theorem w_or {K : Bool → Prop} : tOrD c c2 (s :: es) K E = c (s :: es) (fun b => orQ b c2 (s :: es) K E) E := rfl
theorem w_an1 {K : Bool → Prop} : anQ true c env K E = c env K E := rfl
theorem w_an0 {K : Bool → Prop} : anQ false c env K E = K false := rfl
theorem w_or1 {K : Bool → Prop} : orQ true c env K E = K true := rfl
theorem w_or0 {K : Bool → Prop} : orQ false c env K E = c env K E := rfl
theorem an_dec {K : Bool → Prop} {p : Prop} [Decidable p] (h1 : p → c env K E) (h2 : ¬ p → K false) : anQ (decide p) c env K E := by
  unfold anQ
  by_cases h : p
  · rw [if_pos (decide_eq_true h)]; exact h1 h
  · rw [if_neg (by simpa using h)]; exact h2 h
theorem or_dec {K : Bool → Prop} {p : Prop} [Decidable p] (h1 : p → K true) (h2 : ¬ p → c env K E) : orQ (decide p) c env K E := by
  unfold orQ
  by_cases h : p
  · rw [if_pos (decide_eq_true h)]; exact h1 h
  · rw [if_neg (by simpa using h)]; exact h2 h
theorem an_bool {K : Bool → Prop} {v : Bool} (h1 : v = true → c env K E) (h2 : v = false → K false) : anQ v c env K E := by
  cases v
  · exact h2 rfl
  · exact h1 rfl
theorem or_bool {K : Bool → Prop} {v : Bool} (h1 : v = true → K true) (h2 : v = false → c env K E) : orQ v c env K E := by
  cases v
  · exact h2 rfl
  · exact h1 rfl
theorem w_tnot {K : Bool → Prop} : tNotD c (s :: es) K E = c (s :: es) (fun b => K (!b)) E := rfl
theorem w_eand : eAnd ta tb (s :: es) Q E = ta (s :: es) (fun a => aeQ a tb (s :: es) Q E) E := rfl
theorem w_eor : eOr ta tb (s :: es) Q E = ta (s :: es) (fun a => oeQ a tb (s :: es) Q E) E := rfl
theorem w_ae1 : aeQ (.dat (.bool true)) te env Q E = te env Q E := rfl
theorem w_ae0 : aeQ (.dat (.bool false)) te env Q E = Q (.dat (.bool false)) := rfl
theorem w_oe1 : oeQ (.dat (.bool true)) te env Q E = Q (.dat (.bool true)) := rfl
theorem w_oe0 : oeQ (.dat (.bool false)) te env Q E = te env Q E := rfl
theorem ae_bool {v : Bool} (h1 : v = true → te env Q E) (h2 : v = false → Q (.dat (.bool false))) : aeQ (.dat (.bool v)) te env Q E := by
  cases v
  · exact h2 rfl
  · exact h1 rfl
theorem oe_bool {v : Bool} (h1 : v = true → Q (.dat (.bool true))) (h2 : v = false → te env Q E) : oeQ (.dat (.bool v)) te env Q E := by
  cases v
  · exact h2 rfl
  · exact h1 rfl
theorem w_enot : eNot te (s :: es) Q E = te (s :: es) (fun a => neQ Q a) E := rfl
theorem w_ne {v : Bool} : neQ Q (.dat (.bool v)) = Q (.dat (.bool (!v))) := rfl
theorem w_eneg : eNeg te (s :: es) Q E = te (s :: es) (fun a => ngQ Q a) E := rfl
theorem w_ng {v : Int} : ngQ Q (.dat (.int v)) = Q (.dat (.int (-v))) := rfl
theorem w_anil {K : List AV → Prop} : aNil (s :: es) K E = K [] := rfl
theorem w_acons {K : List AV → Prop} : aCons te tr (s :: es) K E = te (s :: es) (fun a => acQ a fun b => tr (s :: es) (fun as => K (b :: as)) E) E := rfl
theorem w_rcons {K : List AV → Prop} : rCons te tr (s :: es) K E = te (s :: es) (fun a => tr (s :: es) (fun as => K (a :: as)) E) E := rfl
theorem w_acd {K : AV → Prop} : acQ (.dat d) K = K (.dat d) := rfl
theorem w_acn {K : AV → Prop} : acQ (.new l) K = K (.dat (.list l)) := rfl
theorem w_acw {K : AV → Prop} : acQ .well K = K .well := rfl
theorem w_acc {K : AV → Prop} {bh : Beh} : acQ (.clo k bh) K = K (.clo k bh) := rfl
theorem w_astar {K : List AV → Prop} : aStar te tr (s :: es) K E = te (s :: es) (fun a => asQ a fun l => tr (s :: es) (fun as => K (l.map AV.dat ++ as)) E) E := rfl
theorem w_asl {K : List PyData → Prop} : asQ (.dat (.list l)) K = K l := rfl
theorem w_ast {K : List PyData → Prop} : asQ (.dat (.tuple l)) K = K l := rfl
theorem w_asn {K : List PyData → Prop} : asQ (.new l) K = K l := rfl
theorem w_tup : eTup ts (s :: es) Q E = ts (s :: es) (fun as => dtQ as fun ds => Q (.dat (.tuple ds))) E := rfl
theorem w_lst : eLst ts (s :: es) Q E = ts (s :: es) (fun as => dtQ as fun ds => Q (.new ds)) E := rfl
theorem w_dt0 {K : List PyData → Prop} : dtQ [] K = K [] := propext ⟨fun h => h.2, fun h => ⟨Nat.zero_le _, h⟩⟩
theorem w_dt1 {K : List PyData → Prop} {p : PyData} : dtQ [.dat p] K = K [p] := propext ⟨fun h => h.2, fun h => ⟨by show (1 : Nat) ≤ _; decide, h⟩⟩
theorem w_dt2 {K : List PyData → Prop} {p q : PyData} : dtQ [.dat p, .dat q] K = K [p, q] := propext ⟨fun h => h.2, fun h => ⟨by show (2 : Nat) ≤ _; decide, h⟩⟩
theorem w_dt3 {K : List PyData → Prop} {p q r : PyData} : dtQ [.dat p, .dat q, .dat r] K = K [p, q, r] := propext ⟨fun h => h.2, fun h => ⟨by show (3 : Nat) ≤ _; decide, h⟩⟩
theorem w_dt4 {K : List PyData → Prop} {p q r v : PyData} : dtQ [.dat p, .dat q, .dat r, .dat v] K = K [p, q, r, v] := propext ⟨fun h => h.2, fun h => ⟨by show (4 : Nat) ≤ _; decide, h⟩⟩
theorem w_dt5 {K : List PyData → Prop} {p q r v w : PyData} : dtQ [.dat p, .dat q, .dat r, .dat v, .dat w] K = K [p, q, r, v, w] := propext ⟨fun h => h.2, fun h => ⟨by show (5 : Nat) ≤ _; decide, h⟩⟩
theorem w_dt6 {K : List PyData → Prop} {p q r v w o : PyData} : dtQ [.dat p, .dat q, .dat r, .dat v, .dat w, .dat o] K = K [p, q, r, v, w, o] := propext ⟨fun h => h.2, fun h => ⟨by show (6 : Nat) ≤ _; decide, h⟩⟩
theorem w_dt7 {K : List PyData → Prop} {p q r v w o o7 : PyData} : dtQ [.dat p, .dat q, .dat r, .dat v, .dat w, .dat o, .dat o7] K = K [p, q, r, v, w, o, o7] := propext ⟨fun h => h.2, fun h => ⟨by show (7 : Nat) ≤ _; decide, h⟩⟩
theorem w_dt8 {K : List PyData → Prop} {p q r v w o o7 o8 : PyData} : dtQ [.dat p, .dat q, .dat r, .dat v, .dat w, .dat o, .dat o7, .dat o8] K = K [p, q, r, v, w, o, o7, o8] := propext ⟨fun h => h.2, fun h => ⟨by show (8 : Nat) ≤ _; decide, h⟩⟩
theorem dats_map : ∀ l : List PyData, dats (l.map AV.dat) = some l
  | [] => rfl
  | d :: l => by
    show (dats (l.map AV.dat)).map (d :: ·) = _
    rw [dats_map l]
    rfl
theorem dt_map {K : List PyData → Prop} {as : List AV} (ds : List PyData) (h : as = ds.map AV.dat) (hl : ds.length ≤ 16777216) (k : K ds) : dtQ as K := by
  subst h
  unfold dtQ
  rw [dats_map]
  exact ⟨hl, k⟩
theorem w_sl : eSl te tl th (s :: es) Q E = te (s :: es) (fun a => tl (s :: es) (fun lo => th (s :: es) (fun hi => slQ lo hi Q a) E) E) E := rfl
theorem w_on {K : Option Int → Prop} : oNone (s :: es) K E = K none := rfl
theorem w_os {K : Option Int → Prop} : oSome te (s :: es) K E = te (s :: es) (fun a => osQ K a) E := rfl
theorem w_osi {K : Option Int → Prop} {v : Int} : osQ K (.dat (.int v)) = K (some v) := rfl
theorem w_slt {lo hi : Option Int} : slQ lo hi Q (.dat (.tuple l)) = Q (.dat (.tuple (cutD l lo hi))) := rfl
theorem w_sll {lo hi : Option Int} : slQ lo hi Q (.dat (.list l)) = Q (.new (cutD l lo hi)) := rfl
theorem w_sln {lo hi : Option Int} : slQ lo hi Q (.new l) = Q (.new (cutD l lo hi)) := rfl
theorem w_slo {lo hi : Option Int} : slQ lo hi Q (.brw l) = Q (.new (cutD l lo hi)) := rfl
theorem w_cb : eCB g ts (s :: es) Q E = ts (s :: es) (fun as => cbQ g Q as) E := rfl
theorem w_lc : eLc ti tg c te is (s :: es) Q E = ti (s :: es) (fun xs => compGo tg c te (wipeE (s :: es) is) Q E xs []) E := rfl
theorem w_wp0 : wipeE env [] = env := rfl
theorem w_wp1 : wipeE env (i :: is) = (wipeE env is).set i none := rfl
theorem w_yes {K : Bool → Prop} : tYesD env K E = K true := rfl
theorem w_for : sFor ti tg t D (s :: es) E = ti (s :: es) (fun xs => forGo tg t D E xs (s :: es)) E := rfl
theorem for_nil : forGo tg t D E [] env = D.nx env := rfl
theorem for_cons : forGo tg t D E (d :: l) env = tgQ (fun e => t { D with nx := forGo tg t D E l, ct := forGo tg t D E l, bk := D.nx } e E) tg env d := rfl
theorem w_iseq {K : List PyData → Prop} : iSeq te (s :: es) K E = te (s :: es) (fun a => seqOf a K) E := rfl
theorem w_sqd {K : List PyData → Prop} : seqOf (.dat (.list l)) K = K l := rfl
theorem w_sqt {K : List PyData → Prop} : seqOf (.dat (.tuple l)) K = K l := rfl
theorem w_sqn {K : List PyData → Prop} : seqOf (.new l) K = K l := rfl
theorem w_rg1 {K : List PyData → Prop} : iRg1 ts (s :: es) K E = ts (s :: es) (fun as => r1Q K as) E := rfl
theorem w_rg2 {K : List PyData → Prop} : iRg2 ts (s :: es) K E = ts (s :: es) (fun as => r2Q K as) E := rfl
theorem w_rg3 {K : List PyData → Prop} : iRg3 ts (s :: es) K E = ts (s :: es) (fun as => r3Q K as) E := rfl
theorem w_r1 {K : List PyData → Prop} {n : Int} : r1Q K [.dat (.int n)] = (okRng 0 n = true ∧ K (rngD 0 n.toNat)) := rfl
theorem w_r2 {K : List PyData → Prop} {m n : Int} : r2Q K [.dat (.int m), .dat (.int n)] = (okRng m n = true ∧ K (rngD m (n - m).toNat)) := rfl
theorem w_r3 {K : List PyData → Prop} {m n : Int} : r3Q K [.dat (.int m), .dat (.int n), .dat (.int (-1))] = (okRng n m = true ∧ K (downD m (m - n).toNat)) := propext ⟨fun h => h.2, fun h => ⟨rfl, h⟩⟩
theorem w_ien {K : List PyData → Prop} : iEnum ts (s :: es) K E = ts (s :: es) (fun as => enQ K as) E := rfl
theorem w_enl {K : List PyData → Prop} : enQ K [.dat (.list l)] = K (enumD 0 l) := rfl
theorem w_ent {K : List PyData → Prop} : enQ K [.dat (.tuple l)] = K (enumD 0 l) := rfl
theorem w_izp {K : List PyData → Prop} : iZip2 ts (s :: es) K E = ts (s :: es) (fun as => zpQ K as) E := rfl
theorem w_zll {K : List PyData → Prop} : zpQ K [.dat (.list l), .dat (.list m)] = K (zip2D l m) := rfl
theorem w_zlt {K : List PyData → Prop} : zpQ K [.dat (.list l), .dat (.tuple m)] = K (zip2D l m) := rfl
theorem w_ztl {K : List PyData → Prop} : zpQ K [.dat (.tuple l), .dat (.list m)] = K (zip2D l m) := rfl
theorem w_ztt {K : List PyData → Prop} : zpQ K [.dat (.tuple l), .dat (.tuple m)] = K (zip2D l m) := rfl
theorem w_lz : eLZip ts (s :: es) Q E = ts (s :: es) (fun as => lzQ Q as) E := rfl
theorem w_lzl : lzQ Q [.dat (.list l), .dat (.list m)] = Q (.new (zip2D l m)) := rfl
theorem w_eg1 {mk : List PyData → AV} : eRg1 mk ta (s :: es) Q E = ta (s :: es) (fun x => intV x fun j => okRng 0 j = true ∧ Q (mk (rngD 0 j.toNat))) E := rfl
theorem w_eg2 {mk : List PyData → AV} : eRg2 mk ta tb (s :: es) Q E = ta (s :: es) (fun x => tb (s :: es) (fun y => intV x fun i => intV y fun j => okRng i j = true ∧ Q (mk (rngD i (j - i).toNat))) E) E := rfl
theorem w_int {K : Int → Prop} {v : Int} : intV (.dat (.int v)) K = K v := rfl
theorem w_tav : tupAV l = .dat (.tuple l) := rfl
theorem w_rep : eRep ta tb (s :: es) Q E = ta (s :: es) (fun x => rpQ tb (s :: es) Q E x) E := rfl
theorem w_rpn : rpQ tb env Q E (.new l) = tb env (fun y => intV y fun n => (0 ≤ n ∧ n ≤ 1000000 ∧ l.length * n.toNat ≤ 1000000) ∧ Q (.new (repL n.toNat l))) E := rfl
theorem w_rpt : rpQ tb env Q E (.dat (.tuple l)) = tb env (fun y => intV y fun n => (2 ≤ n ∧ n ≤ 1000 ∧ l ≠ [] ∧ l.length ≤ 1000) ∧ Q (.dat (.tuple (repL n.toNat l)))) E := rfl
theorem w_isi {T : String} : eIsi T te (s :: es) Q E = te (s :: es) (fun a => isQ T Q a) E := rfl
theorem w_call : eCall sp ts (s :: es) Q E = ts (s :: es) (fun as => sp as Q E) E := rfl
theorem w_callK {ks ps : List Str} : eCallK sp ks ps ts (s :: es) Q E = ts (s :: es) (fun as => kpQ (kwPick ks ps as) fun bs => sp bs Q E) E := rfl
theorem w_kp {as : List AV} {K : List AV → Prop} : kpQ (some as) K = K as := rfl
theorem w_callL {mk : En → AV} : eCallL sp mk ts (s :: es) Q E = ts (s :: es) (fun as => sp (as ++ [mk (s :: es)]) Q E) E := rfl
theorem w_eapp {n : Nat} : eApp i n ts (s :: es) Q E = clQ ((s :: es)[i]?) (fun k b => k ≤ n ∧ ts (s :: es) (fun as => d0Q as fun ds => b ds (fun d => Q (.dat d))) E) := by
  unfold eApp cloAt clQ
  cases (s :: es)[i]? with
  | none => rfl
  | some o => cases o with
    | none => rfl
    | some v => cases v with
      | av a => cases a <;> rfl
      | own l => rfl
theorem w_cl {K : Nat → Beh → Prop} {bh : Beh} : clQ (some (some (.av (.clo k bh)))) K = K k bh := rfl
theorem w_d01 {K : List PyData → Prop} {p : PyData} : d0Q [.dat p] K = K [p] := rfl
theorem w_d02 {K : List PyData → Prop} {p q : PyData} : d0Q [.dat p, .dat q] K = K [p, q] := rfl
theorem w_wix : eWix i (s :: es) Q E = (weQ ((s :: es)[i]?) ∧ ∀ c : Int, Q (.dat (.int c))) := rfl
theorem w_we : weQ (some (some (.av .well))) = True := rfl
theorem w_wset : sWset i te D (s :: es) E = (weQ ((s :: es)[i]?) ∧ te (s :: es) (fun a => intV a fun _ => D.nx (s :: es)) E) := rfl
theorem w_wdm : sWdm i j ts D (s :: es) E = (weQ ((s :: es)[i]?) ∧ ts (s :: es) (fun as => ints2 as fun x y => (0 < y ∧ y < 1073741824) ∧ D.nx ((s :: es).set j (some (.av (.dat (.int (x % y))))))) E) := rfl
theorem w_i2 {K : Int → Int → Prop} {v w : Int} : ints2 [.dat (.int v), .dat (.int w)] K = K v w := rfl
theorem w_frz : sFrz is t D (s :: es) E = t D (frzs is (s :: es)) E := rfl
theorem w_fz0 : frzs [] env = env := rfl
theorem w_fz1 : frzs (i :: is) env = frzs is (fzO env[i]? i env) := rfl
theorem w_fzo : fzO (some (some (.own l))) i env = env.set i (some (.av (.dat (.list l)))) := rfl
theorem w_fza : fzO (some (some (.av a))) i env = env := rfl
theorem w_fzn : fzO (some none) i env = env := rfl
theorem w_ch : eCh f f' ta tb tc (s :: es) Q E = ta (s :: es) (fun x => tb (s :: es) (fun y => ap2 f x y fun r => boolV r fun k => chQ k f' y tc (s :: es) Q E) E) E := rfl
theorem w_bv {K : Bool → Prop} {v : Bool} : boolV (.dat (.bool v)) K = K v := rfl
theorem w_ch1 : chQ true f' y tc env Q E = tc env (fun z => ap2 f' y z Q) E := rfl
theorem w_ch0 : chQ false f' y tc env Q E = Q (.dat (.bool false)) := rfl
/-- a chain of two comparisons -/
theorem ch_both {v : Bool} {R : Bool → Prop} (h : ∀ k : Bool, (v = true → Q (.dat (.bool k)) → Q (.dat (.bool (v && k)))) ) : True := trivial
theorem ch_bool {v : Bool} (h1 : v = true → tc env (fun z => ap2 f' y z Q) E) (h2 : v = false → Q (.dat (.bool false))) : chQ v f' y tc env Q E := by
  cases v
  · exact h2 rfl
  · exact h1 rfl
/-! the operators -/
theorem w_add {p q : Int} : ap2 dAdd (.dat (.int p)) (.dat (.int q)) Q = Q (.dat (.int (p + q))) := rfl
theorem w_sub {p q : Int} : ap2 dSub (.dat (.int p)) (.dat (.int q)) Q = Q (.dat (.int (p - q))) := rfl
theorem w_lt {p q : Int} : ap2 dLt (.dat (.int p)) (.dat (.int q)) Q = Q (.dat (.bool (decide (p < q)))) := rfl
theorem w_le {p q : Int} : ap2 dLe (.dat (.int p)) (.dat (.int q)) Q = Q (.dat (.bool (decide (p ≤ q)))) := rfl
theorem w_gt {p q : Int} : ap2 dGt (.dat (.int p)) (.dat (.int q)) Q = Q (.dat (.bool (decide (q < p)))) := rfl
theorem w_ge {p q : Int} : ap2 dGe (.dat (.int p)) (.dat (.int q)) Q = Q (.dat (.bool (decide (q ≤ p)))) := rfl
theorem w_eqi {p q : Int} : ap2 dEq (.dat (.int p)) (.dat (.int q)) Q = Q (.dat (.bool (decide (p = q)))) := rfl
theorem w_nei {p q : Int} : ap2 dNe (.dat (.int p)) (.dat (.int q)) Q = Q (.dat (.bool (!decide (p = q)))) := rfl
theorem w_eqb {p q : Bool} : ap2 dEq (.dat (.bool p)) (.dat (.bool q)) Q = Q (.dat (.bool (decide (p = q)))) := rfl
theorem w_neb {p q : Bool} : ap2 dNe (.dat (.bool p)) (.dat (.bool q)) Q = Q (.dat (.bool (!decide (p = q)))) := rfl
theorem w_eqs {p q : Str} : ap2 dEq (.dat (.str p)) (.dat (.str q)) Q = Q (.dat (.bool (decide (p = q)))) := rfl
theorem w_nes {p q : Str} : ap2 dNe (.dat (.str p)) (.dat (.str q)) Q = Q (.dat (.bool (!decide (p = q)))) := rfl
theorem w_eq00 : ap2 dEq (.dat .none) (.dat .none) Q = Q (.dat (.bool true)) := rfl
theorem w_ne00 : ap2 dNe (.dat .none) (.dat .none) Q = Q (.dat (.bool false)) := rfl
theorem w_eq0i {p : Int} : ap2 dEq (.dat .none) (.dat (.int p)) Q = Q (.dat (.bool false)) := rfl
theorem w_ne0i {p : Int} : ap2 dNe (.dat .none) (.dat (.int p)) Q = Q (.dat (.bool true)) := rfl
theorem w_eqi0 {p : Int} : ap2 dEq (.dat (.int p)) (.dat .none) Q = Q (.dat (.bool false)) := rfl
theorem w_nei0 {p : Int} : ap2 dNe (.dat (.int p)) (.dat .none) Q = Q (.dat (.bool true)) := rfl
theorem iteQ {c : Prop} [Decidable c] {x : AV} : (match (if c then some x else none : Option AV) with | some a => Q a | none => False) = (c ∧ Q x) := by
  by_cases h : c
  · rw [if_pos h]; exact propext ⟨fun q => ⟨h, q⟩, fun q => q.2⟩
  · rw [if_neg h]; exact propext ⟨fun q => q.elim, fun q => h q.1⟩
theorem w_mul {p q : Int} : ap2 dMul (.dat (.int p)) (.dat (.int q)) Q = ((smallB p || smallB q) = true ∧ Q (.dat (.int (p * q)))) := iteQ
theorem w_mod {p q : Int} : ap2 dMod (.dat (.int p)) (.dat (.int q)) Q = (0 < q ∧ Q (.dat (.int (p % q)))) := iteQ
theorem w_fdiv {p q : Int} : ap2 dFdiv (.dat (.int p)) (.dat (.int q)) Q = ((0 < q ∧ q < 1073741824) ∧ Q (.dat (.int (p / q)))) := iteQ
theorem w_pow {p q : Int} : ap2 dPow (.dat (.int p)) (.dat (.int q)) Q = ((0 ≤ q ∧ q ≤ 1000000 ∧ p.natAbs < 2 ^ 64) ∧ Q (.dat (.int (p ^ q.toNat)))) := iteQ
theorem w_is0 : ap2 dIs (.dat .none) (.dat .none) Q = Q (.dat (.bool true)) := rfl
theorem w_isi' {p : Int} : ap2 dIs (.dat (.int p)) (.dat .none) Q = Q (.dat (.bool false)) := rfl
theorem w_ist : ap2 dIs (.dat (.tuple l)) (.dat .none) Q = Q (.dat (.bool false)) := rfl
theorem w_isl : ap2 dIs (.dat (.list l)) (.dat .none) Q = Q (.dat (.bool false)) := rfl
theorem w_in0 : ap2 dIsNot (.dat .none) (.dat .none) Q = Q (.dat (.bool false)) := rfl
theorem w_ini {p : Int} : ap2 dIsNot (.dat (.int p)) (.dat .none) Q = Q (.dat (.bool true)) := rfl
theorem w_isb {p q : Bool} : ap2 dIs (.dat (.bool p)) (.dat (.bool q)) Q = Q (.dat (.bool (decide (p = q)))) := rfl
theorem w_isnb {p q : Bool} : ap2 dIsNot (.dat (.bool p)) (.dat (.bool q)) Q = Q (.dat (.bool (!decide (p = q)))) := rfl
theorem w_isb0 {p : Bool} : ap2 dIs (.dat (.bool p)) (.dat .none) Q = Q (.dat (.bool false)) := rfl
theorem w_isnb0 {p : Bool} : ap2 dIsNot (.dat (.bool p)) (.dat .none) Q = Q (.dat (.bool true)) := rfl
theorem w_int' : ap2 dIsNot (.dat (.tuple l)) (.dat .none) Q = Q (.dat (.bool true)) := rfl
theorem w_inl : ap2 dIsNot (.dat (.list l)) (.dat .none) Q = Q (.dat (.bool true)) := rfl
def ixQ (o : Option PyData) (Q : AV → Prop) : Prop := match o with
  | some d => Q (.dat d)
  | none => False
theorem ixq_eq {o : Option PyData} : (match o.map AV.dat with | some a => Q a | none => False) = ixQ o Q := by
  cases o <;> rfl
theorem w_ixt {p : Int} : ap2 dIx (.dat (.tuple l)) (.dat (.int p)) Q = ixQ (atI l p) Q := ixq_eq
theorem w_ixl {p : Int} : ap2 dIx (.dat (.list l)) (.dat (.int p)) Q = ixQ (atI l p) Q := ixq_eq
theorem w_ixn {p : Int} : ap2 dIx (.new l) (.dat (.int p)) Q = ixQ (atI l p) Q := ixq_eq
theorem w_ixo {p : Int} : ap2 dIx (.brw l) (.dat (.int p)) Q = ixQ (atI l p) Q := ixq_eq
theorem w_ix : ixQ (some d) Q = Q (.dat d) := rfl
theorem w_at0 : atI (d :: l) 0 = some d := (atI_nat (j := 0) rfl : atI (d :: l) ((0 : Nat) : Int) = some d)
theorem w_at1 : atI (d :: e :: l) 1 = some e := (atI_nat (j := 1) rfl : atI (d :: e :: l) ((1 : Nat) : Int) = some e)
theorem w_at2 {v : PyData} : atI (d :: e :: v :: l) 2 = some v := (atI_nat (j := 2) rfl : atI (d :: e :: v :: l) ((2 : Nat) : Int) = some v)
theorem ap2_of {f : Op2} {o : AV} {dx dy : PyData} (hx : x.rd = some dx) (hy : y.rd = some dy) (h : f dx dy = some o) (q : Q o) : ap2 f x y Q := by
  unfold ap2
  rw [hx, hy]
  show (match f dx dy with | some a => Q a | none => False)
  rw [h]
  exact q
theorem w_addll {p q : AV} {l m : List PyData} (hp : p.rd = some (.list l)) (hq : q.rd = some (.list m)) : ap2 dAdd p q Q = (l.length + m.length ≤ 16777216 ∧ Q (.new (l ++ m))) := by
  unfold ap2
  rw [hp, hq]
  exact iteQ
theorem w_al1 : ap2 dAdd (.new l) (.new m) Q = (l.length + m.length ≤ 16777216 ∧ Q (.new (l ++ m))) := w_addll rfl rfl
theorem w_al2 : ap2 dAdd (.new l) (.dat (.list m)) Q = (l.length + m.length ≤ 16777216 ∧ Q (.new (l ++ m))) := w_addll rfl rfl
theorem w_al3 : ap2 dAdd (.dat (.list l)) (.new m) Q = (l.length + m.length ≤ 16777216 ∧ Q (.new (l ++ m))) := w_addll rfl rfl
theorem w_al4 : ap2 dAdd (.dat (.list l)) (.dat (.list m)) Q = (l.length + m.length ≤ 16777216 ∧ Q (.new (l ++ m))) := w_addll rfl rfl
theorem w_al5 : ap2 dAdd (.brw l) (.new m) Q = (l.length + m.length ≤ 16777216 ∧ Q (.new (l ++ m))) := w_addll rfl rfl
theorem w_al6 : ap2 dAdd (.brw l) (.dat (.list m)) Q = (l.length + m.length ≤ 16777216 ∧ Q (.new (l ++ m))) := w_addll rfl rfl
theorem w_att : ap2 dAdd (.dat (.tuple l)) (.dat (.tuple m)) Q = (l.length + m.length ≤ 16777216 ∧ Q (.dat (.tuple (l ++ m)))) := iteQ
theorem w_lenl : cbQ fLen Q [.dat (.list l)] = Q (.dat (.int l.length)) := rfl
theorem w_lent : cbQ fLen Q [.dat (.tuple l)] = Q (.dat (.int l.length)) := rfl
theorem w_lenn : cbQ fLen Q [.new l] = Q (.dat (.int l.length)) := rfl
theorem w_leno : cbQ fLen Q [.brw l] = Q (.dat (.int l.length)) := rfl
theorem ints_map : ∀ l : List Int, intsD (l.map PyData.int) = some l
  | [] => rfl
  | i :: l => by
    show (intsD (l.map PyData.int)).map (i :: ·) = _
    rw [ints_map l]
    rfl
theorem w_suml {l : List Int} : cbQ fSum Q [.dat (.list (l.map PyData.int))] = Q (.dat (.int l.sum)) := by
  show (match (intsD (l.map PyData.int)).map (fun ns => AV.dat (.int ns.sum)) with | some a => Q a | none => False) = _
  rw [ints_map]
  rfl
theorem w_sumt {l : List Int} : cbQ fSum Q [.dat (.tuple (l.map PyData.int))] = Q (.dat (.int l.sum)) := w_suml
theorem w_sumn {l : List Int} : cbQ fSum Q [.new (l.map PyData.int)] = Q (.dat (.int l.sum)) := w_suml
theorem w_sumo {l : List Int} : cbQ fSum Q [.brw (l.map PyData.int)] = Q (.dat (.int l.sum)) := w_suml
theorem cb_sum {α : Type} {f : α → PyData} {h : α → Int} {l : List α} {p : AV} (hp : p.rd = some (.list (l.map f)) ∨ p.rd = some (.tuple (l.map f))) (hf : ∀ x ∈ l, f x = .int (h x)) (q : Q (.dat (.int (l.map h).sum))) : cbQ fSum Q [p] := by
  have e : l.map f = (l.map h).map PyData.int := by
    rw [List.map_map]
    exact List.map_congr_left hf
  have key : (match (intsD (l.map f)).map (fun ns => AV.dat (.int ns.sum)) with | some a => Q a | none => False) := by
    rw [e, ints_map]
    exact q
  rcases hp with hp | hp
  · have : fSum [p] = (intsD (l.map f)).map (fun ns => AV.dat (.int ns.sum)) := by
      show p.rd.bind _ = _
      rw [hp]
      rfl
    unfold cbQ
    rw [this]
    exact key
  · have : fSum [p] = (intsD (l.map f)).map (fun ns => AV.dat (.int ns.sum)) := by
      show p.rd.bind _ = _
      rw [hp]
      rfl
    unfold cbQ
    rw [this]
    exact key
theorem w_max2 {p q : Int} : cbQ fMax Q [.dat (.int p), .dat (.int q)] = Q (.dat (.int (max p q))) := rfl
theorem w_min2 {p q : Int} : cbQ fMin Q [.dat (.int p), .dat (.int q)] = Q (.dat (.int (min p q))) := rfl
theorem w_abs {p : Int} : cbQ fAbs Q [.dat (.int p)] = Q (.dat (.int (if p < 0 then -p else p))) := rfl
theorem w_fint {p : Int} : cbQ fInt Q [.dat (.int p)] = Q (.dat (.int p)) := rfl
theorem w_ftl : cbQ fTuple Q [.dat (.list l)] = Q (.dat (.tuple l)) := rfl
theorem w_ftt : cbQ fTuple Q [.dat (.tuple l)] = Q (.dat (.tuple l)) := rfl
theorem w_ftn : cbQ fTuple Q [.new l] = Q (.dat (.tuple l)) := rfl
theorem w_fto : cbQ fTuple Q [.brw l] = Q (.dat (.tuple l)) := rfl
theorem w_fll : cbQ fList Q [.dat (.list l)] = Q (.new l) := rfl
theorem w_flt : cbQ fList Q [.dat (.tuple l)] = Q (.new l) := rfl
theorem cb_repr {d : PyData} (h : okShow d = true) : cbQ fRepr Q [.dat d] = Q (.dat (.str (PyData.shown d))) := by
  unfold cbQ
  show (match (if okShow d = true then some (AV.dat (.str (PyData.shown d))) else none) with | some a => Q a | none => False) = _
  rw [if_pos h]
theorem cb_reprn (h : okShow (.list l) = true) : cbQ fRepr Q [.new l] = Q (.dat (.str (PyData.shown (.list l)))) := cb_repr h
theorem cb_repro (h : okShow (.list l) = true) : cbQ fRepr Q [.brw l] = Q (.dat (.str (PyData.shown (.list l)))) := cb_repr h
theorem cb_of {as : List AV} {o : AV} (h : g as = some o) (q : Q o) : cbQ g Q as := by
  unfold cbQ
  rw [h]
  exact q
theorem w_pld : ((AV.dat d).plain = true) = True := by simp [AV.plain]
theorem w_plw : (AV.well.plain = true) = True := by simp [AV.plain]
end
end TL
/-! == of data without truths -/
namespace TL
open PySem PySem.Spec PyProof.Rows L2 LamX NdefX
mutual
def nb : PyData → Bool
  | .none => true
  | .int _ => true
  | .str _ => true
  | .list l => nbs l
  | .tuple l => nbs l
  | _ => false
def nbs : List PyData → Bool
  | [] => true
  | x :: l => nb x && nbs l
end
mutual
theorem eqv_nb : ∀ (x y : PyData), nb x = true → nb y = true → (PyData.eqv x y = true ↔ x = y)
  | .none, y, _, hy => by
    cases y <;> simp_all [PyData.eqv, nb]
  | .int i, y, _, hy => by
    cases y <;> simp_all [PyData.eqv, nb]
  | .str i, y, _, hy => by
    cases y <;> simp_all [PyData.eqv, nb]
  | .list l, y, hx, hy => by
    cases y with
    | list m =>
      rw [PyData.eqv]
      rw [eqvs_nb l m hx hy]
      constructor
      · rintro rfl; rfl
      · rintro h; cases h; rfl
    | _ => simp_all [PyData.eqv, nb]
  | .tuple l, y, hx, hy => by
    cases y with
    | tuple m =>
      rw [PyData.eqv]
      rw [eqvs_nb l m hx hy]
      constructor
      · rintro rfl; rfl
      · rintro h; cases h; rfl
    | _ => simp_all [PyData.eqv, nb]
  | .bool b, _, h, _ => by cases h
  | .dict b, _, h, _ => by cases h
theorem eqvs_nb : ∀ (x y : List PyData), nbs x = true → nbs y = true → (PyData.eqvAll x y = true ↔ x = y)
  | [], [], _, _ => by simp [PyData.eqvAll]
  | [], _ :: _, _, _ => by simp [PyData.eqvAll]
  | _ :: _, [], _, _ => by simp [PyData.eqvAll]
  | x :: l, y :: m, hx, hy => by
    simp only [nbs, Bool.and_eq_true] at hx hy
    rw [PyData.eqvAll, Bool.and_eq_true, eqv_nb x y hx.1 hy.1, eqvs_nb l m hx.2 hy.2]
    constructor
    · rintro ⟨rfl, rfl⟩; rfl
    · rintro h; cases h; exact ⟨rfl, rfl⟩
end
/-- data without truths, n deep at most -/
def pd (n : Nat) (x : PyData) : Prop := PyData.canLay0 x = true ∧ PyData.depth x ≤ n ∧ nb x = true
theorem pd_up {n m : Nat} {x : PyData} (h : pd n x) (hm : n ≤ m) : pd m x := ⟨h.1, Nat.le_trans h.2.1 hm, h.2.2⟩
theorem pd_int {n : Nat} {i : Int} : pd n (.int i) := ⟨rfl, Nat.zero_le _, rfl⟩
theorem pd_none {n : Nat} : pd n .none := ⟨rfl, Nat.zero_le _, rfl⟩
theorem pds {n : Nat} : ∀ l : List PyData, (∀ x ∈ l, pd n x) → PyData.canLayAll0 l = true ∧ PyData.depthAll l ≤ n ∧ nbs l = true
  | [], _ => ⟨rfl, Nat.zero_le _, rfl⟩
  | x :: l, h => by
    obtain ⟨a, b, c⟩ := h x (List.mem_cons_self ..)
    obtain ⟨a2, b2, c2⟩ := pds l fun y hy => h y (List.mem_cons_of_mem _ hy)
    refine ⟨?_, ?_, ?_⟩
    · show (PyData.canLay0 x && PyData.canLayAll0 l) = true
      rw [a, a2]; rfl
    · show max x.depth (PyData.depthAll l) ≤ n
      omega
    · show (nb x && nbs l) = true
      rw [c, c2]; rfl
theorem pd_tup {n : Nat} {l : List PyData} (h : ∀ x ∈ l, pd n x) : pd (n + 1) (.tuple l) := by
  obtain ⟨a, b, c⟩ := pds l h
  exact ⟨a, Nat.succ_le_succ b, c⟩
theorem pd_lst {n : Nat} {l : List PyData} (h : ∀ x ∈ l, pd n x) : pd (n + 1) (.list l) := by
  obtain ⟨a, b, c⟩ := pds l h
  exact ⟨a, Nat.succ_le_succ b, c⟩
theorem pd_map {α : Type} {n : Nat} {f : α → PyData} {l : List α} (h : ∀ x, pd n (f x)) : ∀ x ∈ l.map f, pd n x := fun x hx => by
  obtain ⟨y, _, rfl⟩ := List.mem_map.mp hx
  exact h y
theorem pd_nil {n : Nat} : ∀ x ∈ ([] : List PyData), pd n x := fun x hx => by cases hx
theorem pd_cons {n : Nat} {y : PyData} {l : List PyData} (hy : pd n y) (h : ∀ x ∈ l, pd n x) : ∀ x ∈ y :: l, pd n x := fun x hx => by
  rcases List.mem_cons.mp hx with rfl | hx
  · exact hy
  · exact h x hx
theorem pd_ints {n : Nat} {l : List Int} : ∀ x ∈ l.map PyData.int, pd n x := pd_map fun _ => pd_int
theorem pd_lints {n : Nat} {l : List Int} : pd (n + 1) (.list (l.map PyData.int)) := pd_lst pd_ints
theorem pd_tints {n : Nat} {l : List Int} : pd (n + 1) (.tuple (l.map PyData.int)) := pd_tup pd_ints
theorem pd_shaped {n : Nat} {x : PyData} (h : pd n x) (hn : n ≤ 64) : SeqAt.shaped x = true := by
  unfold SeqAt.shaped
  rw [h.1, decide_eq_true (Nat.le_trans h.2.1 hn)]
  rfl
theorem scal_eq {x y : PyData} {b : Bool} (hx : nb x = true) (hy : nb y = true) (h : scalD x y = some b) : b = true ↔ x = y := by
  cases x <;> cases y <;> first | (cases h; done) | (cases hx; done) | (cases hy; done) | (cases h; simp)
section
variable {Q : AV → Prop} {a c : AV} {x y : PyData} {b : Bool}
theorem dEq_pd {n m : Nat} (hx : pd n x) (hy : pd m y) (hn : n ≤ 64) (hm : m ≤ 64) (hb : b = true ↔ x = y) : dEq x y = some (.dat (.bool b)) := by
  unfold dEq
  cases e : scalD x y with
  | some b' =>
    have := scal_eq hx.2.2 hy.2.2 e
    have : b' = b := by rw [Bool.eq_iff_iff, this, hb]
    rw [this]; rfl
  | none =>
    show (if _ then _ else _) = _
    rw [if_pos ⟨pd_shaped hx hn, pd_shaped hy hm⟩]
    have : PyData.eqv x y = b := by rw [Bool.eq_iff_iff, eqv_nb x y hx.2.2 hy.2.2, hb]
    rw [this]; rfl
theorem dNe_pd {n m : Nat} (hx : pd n x) (hy : pd m y) (hn : n ≤ 64) (hm : m ≤ 64) (hb : b = true ↔ x = y) : dNe x y = some (.dat (.bool !b)) := by
  unfold dNe
  cases e : scalD x y with
  | some b' =>
    have := scal_eq hx.2.2 hy.2.2 e
    have : b' = b := by rw [Bool.eq_iff_iff, this, hb]
    rw [this]; rfl
  | none =>
    show (if _ then _ else _) = _
    rw [if_pos ⟨pd_shaped hx hn, pd_shaped hy hm⟩]
    have : PyData.eqv x y = b := by rw [Bool.eq_iff_iff, eqv_nb x y hx.2.2 hy.2.2, hb]
    rw [this]; rfl
theorem eq_of {n m : Nat} (b : Bool) (ha : a.rd = some x) (hc : c.rd = some y) (hx : pd n x) (hy : pd m y) (hb : b = true ↔ x = y) (q : Q (.dat (.bool b))) (hn : n ≤ 64 := by decide) (hm : m ≤ 64 := by decide) : ap2 dEq a c Q := ap2_of ha hc (dEq_pd hx hy hn hm hb) q
theorem ne_of {n m : Nat} (b : Bool) (ha : a.rd = some x) (hc : c.rd = some y) (hx : pd n x) (hy : pd m y) (hb : b = true ↔ x = y) (q : Q (.dat (.bool !b))) (hn : n ≤ 64 := by decide) (hm : m ≤ 64 := by decide) : ap2 dNe a c Q := ap2_of ha hc (dNe_pd hx hy hn hm hb) q
/-- with the empty list, the empty tuple -/
theorem eq_nil {n : Nat} {l : List PyData} (ha : a.rd = some (.list l)) (hc : c.rd = some (.list [])) (hx : ∀ x ∈ l, pd n x) (q : Q (.dat (.bool l.isEmpty))) (hn : n + 1 ≤ 64 := by decide) : ap2 dEq a c Q :=
  ap2_of ha hc (dEq_pd (pd_lst hx) (pd_lst (n := 0) pd_nil) hn (by decide) (by cases l <;> simp)) q
theorem ne_nil {n : Nat} {l : List PyData} (ha : a.rd = some (.list l)) (hc : c.rd = some (.list [])) (hx : ∀ x ∈ l, pd n x) (q : Q (.dat (.bool !l.isEmpty))) (hn : n + 1 ≤ 64 := by decide) : ap2 dNe a c Q :=
  ap2_of ha hc (dNe_pd (pd_lst hx) (pd_lst (n := 0) pd_nil) hn (by decide) (by cases l <;> simp)) q
theorem eq_nilt {n : Nat} {l : List PyData} (ha : a.rd = some (.tuple l)) (hc : c.rd = some (.tuple [])) (hx : ∀ x ∈ l, pd n x) (q : Q (.dat (.bool l.isEmpty))) (hn : n + 1 ≤ 64 := by decide) : ap2 dEq a c Q :=
  ap2_of ha hc (dEq_pd (pd_tup hx) (pd_tup (n := 0) pd_nil) hn (by decide) (by cases l <;> simp)) q
theorem ne_nilt {n : Nat} {l : List PyData} (ha : a.rd = some (.tuple l)) (hc : c.rd = some (.tuple [])) (hx : ∀ x ∈ l, pd n x) (q : Q (.dat (.bool !l.isEmpty))) (hn : n + 1 ≤ 64 := by decide) : ap2 dNe a c Q :=
  ap2_of ha hc (dNe_pd (pd_tup hx) (pd_tup (n := 0) pd_nil) hn (by decide) (by cases l <;> simp)) q
theorem int_inj : ∀ {l m : List Int}, l.map PyData.int = m.map PyData.int ↔ l = m
  | [], [] => by simp
  | [], _ :: _ => by simp
  | _ :: _, [] => by simp
  | x :: l, y :: m => by simp [int_inj (l := l) (m := m)]
theorem int_mem {i : Int} : ∀ {l : List Int}, PyData.int i ∈ l.map PyData.int ↔ i ∈ l
  | [] => by simp
  | x :: l => by simp
theorem eq_lints {l m : List Int} (ha : a.rd = some (.list (l.map PyData.int))) (hc : c.rd = some (.list (m.map PyData.int))) (q : Q (.dat (.bool (decide (l = m))))) : ap2 dEq a c Q :=
  eq_of (n := 1) (m := 1) _ ha hc pd_lints pd_lints (by simp [int_inj]) q
theorem ne_lints {l m : List Int} (ha : a.rd = some (.list (l.map PyData.int))) (hc : c.rd = some (.list (m.map PyData.int))) (q : Q (.dat (.bool (!decide (l = m))))) : ap2 dNe a c Q :=
  ne_of (n := 1) (m := 1) _ ha hc pd_lints pd_lints (by simp [int_inj]) q
theorem eq_tints {l m : List Int} (ha : a.rd = some (.tuple (l.map PyData.int))) (hc : c.rd = some (.tuple (m.map PyData.int))) (q : Q (.dat (.bool (decide (l = m))))) : ap2 dEq a c Q :=
  eq_of (n := 1) (m := 1) _ ha hc pd_tints pd_tints (by simp [int_inj]) q
theorem ne_tints {l m : List Int} (ha : a.rd = some (.tuple (l.map PyData.int))) (hc : c.rd = some (.tuple (m.map PyData.int))) (q : Q (.dat (.bool (!decide (l = m))))) : ap2 dNe a c Q :=
  ne_of (n := 1) (m := 1) _ ha hc pd_tints pd_tints (by simp [int_inj]) q
theorem in_rd {f : Op2} {l : List PyData} (ha : a.rd = some x) (hc : c.rd = some (.list l)) {o : AV} (h : f x (.list l) = some o) (q : Q o) : ap2 f a c Q := ap2_of ha hc h q
theorem in_lst {n : Nat} {l : List PyData} (b : Bool) (ha : a.rd = some x) (hc : c.rd = some (.list l)) (hx : pd n x) (hl : ∀ z ∈ l, pd n z) (hb : b = true ↔ x ∈ l) (q : Q (.dat (.bool b))) (hn : n + 1 ≤ 64 := by decide) : ap2 dIn a c Q := by
  refine ap2_of ha hc (o := .dat (.bool b)) ?_ q
  have e : dInB x (.list l) = some b := by
    have : (l.any fun z => PyData.eqv z x) = b := by
      rw [Bool.eq_iff_iff, hb, List.any_eq_true]
      constructor
      · rintro ⟨z, hz, e⟩
        rw [eqv_nb z x (hl z hz).2.2 hx.2.2] at e
        rw [← e]; exact hz
      · intro h
        exact ⟨x, h, (eqv_nb x x hx.2.2 hx.2.2).mpr rfl⟩
    rw [← this]
    have s : SeqAt.shaped x = true ∧ SeqAt.shaped (.list l) = true := ⟨pd_shaped hx (by omega), pd_shaped (pd_lst hl) hn⟩
    cases x <;> exact if_pos s
  show (dInB x (.list l)).map _ = _
  rw [e]; rfl
theorem nin_lst {n : Nat} {l : List PyData} (b : Bool) (ha : a.rd = some x) (hc : c.rd = some (.list l)) (hx : pd n x) (hl : ∀ z ∈ l, pd n z) (hb : b = true ↔ x ∈ l) (q : Q (.dat (.bool !b))) (hn : n + 1 ≤ 64 := by decide) : ap2 dNotIn a c Q := by
  refine ap2_of ha hc (o := .dat (.bool !b)) ?_ q
  have e : dInB x (.list l) = some b := by
    have : (l.any fun z => PyData.eqv z x) = b := by
      rw [Bool.eq_iff_iff, hb, List.any_eq_true]
      constructor
      · rintro ⟨z, hz, e⟩
        rw [eqv_nb z x (hl z hz).2.2 hx.2.2] at e
        rw [← e]; exact hz
      · intro h
        exact ⟨x, h, (eqv_nb x x hx.2.2 hx.2.2).mpr rfl⟩
    rw [← this]
    have s : SeqAt.shaped x = true ∧ SeqAt.shaped (.list l) = true := ⟨pd_shaped hx (by omega), pd_shaped (pd_lst hl) hn⟩
    cases x <;> exact if_pos s
  show (dInB x (.list l)).map _ = _
  rw [e]; rfl
theorem in_lints {i : Int} {l : List Int} (ha : a.rd = some (.int i)) (hc : c.rd = some (.list (l.map PyData.int))) (q : Q (.dat (.bool (decide (i ∈ l))))) : ap2 dIn a c Q := in_lst (n := 0) _ ha hc pd_int pd_ints (by rw [decide_eq_true_iff, int_mem]) q
theorem nin_lints {i : Int} {l : List Int} (ha : a.rd = some (.int i)) (hc : c.rd = some (.list (l.map PyData.int))) (q : Q (.dat (.bool (!decide (i ∈ l))))) : ap2 dNotIn a c Q := nin_lst (n := 0) _ ha hc pd_int pd_ints (by rw [decide_eq_true_iff, int_mem]) q
theorem in_tints {i : Int} {l : List Int} (ha : a.rd = some (.int i)) (hc : c.rd = some (.tuple (l.map PyData.int))) (q : Q (.dat (.bool (decide (i ∈ l))))) : ap2 dIn a c Q := by
  refine ap2_of ha hc (o := .dat (.bool (decide (i ∈ l)))) ?_ q
  show ((intsD (l.map PyData.int)).map fun ns => decide (i ∈ ns)).map _ = _
  rw [ints_map]; rfl
theorem nin_tints {i : Int} {l : List Int} (ha : a.rd = some (.int i)) (hc : c.rd = some (.tuple (l.map PyData.int))) (q : Q (.dat (.bool (!decide (i ∈ l))))) : ap2 dNotIn a c Q := by
  refine ap2_of ha hc (o := .dat (.bool (!decide (i ∈ l)))) ?_ q
  show ((intsD (l.map PyData.int)).map fun ns => decide (i ∈ ns)).map _ = _
  rw [ints_map]; rfl
end
end TL
namespace TL
open PySem PySem.Spec PyProof.Rows L2 LamX NdefX
/-! ### l.index(i), a list of numbers -/
def ixOf : List Int → Int → Option Nat
  | [], _ => none
  | x :: r, i => if x = i then some 0 else (ixOf r i).map (· + 1)
def lstA (a : AV) (K : List PyData → Prop) : Prop := match a.rd with
  | some (.list l) => K l
  | _ => False
def ixV (l : List PyData) (b : AV) (Q : AV → Prop) : Prop := match b with
  | .dat (.int i) => (match (intsD l).bind fun ns => ixOf ns i with
    | some j => Q (.dat (.int ((j : Nat) : Int)))
    | none => False)
  | _ => False
def eIx1 (tx te : TEd) : TEd := fun env Q E => tx env (fun a => lstA a fun l => te env (fun b => ixV l b Q) E) E
theorem ixOf_spec : ∀ {ns : List Int} {i : Int} {j : Nat}, ixOf ns i = some j → ns[j]? = some i ∧ ∀ m z, m < j → ns[m]? = some z → z ≠ i
  | [], _, _, h => by cases h
  | x :: r, i, j, h => by
    unfold ixOf at h
    by_cases c : x = i
    · rw [if_pos c] at h
      cases h
      subst c
      exact ⟨rfl, fun m z hm => by cases hm⟩
    · rw [if_neg c] at h
      cases e : ixOf r i with
      | none => rw [e] at h; cases h
      | some j' =>
        rw [e] at h
        cases h
        obtain ⟨a, b⟩ := ixOf_spec e
        refine ⟨by simpa using a, fun m z hm hz => ?_⟩
        cases m with
        | zero =>
          have : x = z := by simpa using hz
          rw [← this]; exact c
        | succ m => exact b m z (Nat.lt_of_succ_lt_succ hm) (by simpa using hz)
theorem reps_intsX {K : PySem.W.Frag} {g : Gh} (H : Hp) (ok : GOk K g H) : ∀ {vs : List V} {ds : List PyData} {ns : List Int}, RepVs K g vs ds → intsD ds = some ns → vs = ns.map V.int
  | _, [], ns, .nil, e => by cases e; rfl
  | _, .int i :: r, ns, .cons q t, e => by
    have e : (intsD r).map (i :: ·) = some ns := e
    cases h : intsD r with
    | none => rw [h] at e; cases e
    | some ms =>
      rw [h] at e
      cases e
      rw [RepV.isInt ok q, reps_intsX H ok t h]
      rfl
theorem de_ix1 {C : CC} {B : Base} {X : Cx} {o e : Expr} {tx te : TEd} {pa pc : Pos} (hK : X.K = C.K) (ho : DE C B X o tx) (he : DE C B X e te) (hs : isStar e = false) (h2 : (pa.endLine == pc.line) = true)
    (hbase : attributeBase o "index" X.env (eval o X.env) = eval o X.env) :
    DE C B X (.Call (.Attribute o "index" pa) [e] [] pc) (eIx1 tx te) := by
  have base : PE X (.Call (.Attribute o "index" pa) [e] [] pc) (tBM X.K "list" (rIndex X.K) (tD C B tx) (tCons (tD C B te) tNil)) :=
    pe_bm PySem.F.plainAttrs_list PySem.F.slot_list_index PySem.F.type_list_index mt_index ho (pa_cons he pa_nil (star_cons _ _ _ hs)) hbase (few_one e hs) h2 (star_cons _ _ _ hs) rfl
  refine peW base fun σ H Q h => ?_
  obtain ⟨g, env, Qd, st, eo, h, k⟩ := h
  refine ⟨g, env, _, st, eo, h, fun v H1 ⟨a, g1, q, f1, st1, r1, n1⟩ => ?_⟩
  unfold lstA at q
  try dsimp only at q
  split at q
  · rename_i l el
    obtain ⟨p, vs, rfl, h1, hv⟩ := (r1.b st1 el).lst_inv
    refine ⟨.inl ⟨rfl, vs, by rw [hK]; exact h1⟩, ?_⟩
    refine ⟨g1, env, _, st1, eo.fr f1, q, fun w H2 ⟨b, g2, q2, f2, st2, r2, n2⟩ => ?_⟩
    unfold ixV at q2
    try dsimp only at q2
    split at q2
    · rename_i i
      split at q2
      · rename_i j ej
        cases hn : intsD l with
        | none => rw [hn] at ej; cases ej
        | some ns =>
          rw [hn] at ej
          have ej : ixOf ns i = some j := ej
          obtain ⟨p2, ws, e2, h2', hv2⟩ := ((r1.fr f2).b st2 el).lst_inv
          cases e2
          obtain ⟨a1, a2⟩ := ixOf_spec ej
          have ew : ws = ns.map V.int := reps_intsX H2 st2.1 hv2 hn
          have ei : w = .int i := RepV.isInt st2.1 r2
          refine ⟨p, ws, w, j, .int i, rfl, rfl, by rw [hK]; exact h2', by rw [ei]; rfl, by rw [ew]; exact flat_ints ns, by rw [ew, List.getElem?_map, a1]; rfl, by rw [ei]; simp [eqV], fun m z hm hz => ?_, k _ _ ⟨_, g2, q2, f1.trans f2, st2, .int _, fun _ z => by cases z⟩⟩
          rw [ew, List.getElem?_map] at hz
          cases hz' : ns[m]? with
          | none => rw [hz'] at hz; cases hz
          | some z0 =>
            rw [hz'] at hz
            cases hz
            have := a2 m z0 hm hz'
            rw [ei]
            simp [eqV, this]
      · exact q2.elim
    · exact q2.elim
  · exact q.elim
section
variable {Q : AV → Prop} {E : XD → Prop} {s : Option SL} {es : En} {tx te : TEd} {l : List PyData}
theorem w_ix1 : eIx1 tx te (s :: es) Q E = tx (s :: es) (fun a => lstA a fun l => te (s :: es) (fun b => ixV l b Q) E) E := rfl
theorem w_lad {K : List PyData → Prop} : lstA (.dat (.list l)) K = K l := rfl
theorem w_lan {K : List PyData → Prop} : lstA (.new l) K = K l := rfl
theorem w_lab {K : List PyData → Prop} : lstA (.brw l) K = K l := rfl
theorem ix_of {ns : List Int} {i : Int} {j : Nat} (e : l = ns.map PyData.int) (h : ixOf ns i = some j) (q : Q (.dat (.int (j : Int)))) : ixV l (.dat (.int i)) Q := by
  subst e
  show (match (intsD (ns.map PyData.int)).bind fun ns => ixOf ns i with | some j => _ | none => False)
  rw [ints_map]
  show (match ixOf ns i with | some j => _ | none => False)
  rw [h]
  exact q
end
end TL
/-! list comprehensions of two clauses -/
namespace TL
open PySem PySem.Spec PyProof.Rows L2 LamX NdefX
def comp2Go (t1 : Tg) (tt1 : TTd) (te : TEd) (env : En) (K : List PyData → Prop) (E : XD → Prop) : List PyData → List PyData → Prop
  | [], acc => K acc
  | d :: ds, acc => match t1.set d env with
    | some env' => tt1 env' (fun b => match b with
      | true => te env' (fun y => match y.sd with
        | some v => acc.length < 16777216 ∧ comp2Go t1 tt1 te env K E ds (acc ++ [v])
        | none => False) E
      | false => comp2Go t1 tt1 te env K E ds acc) E
    | none => False
def compGo2 (t : Tg) (tt : TTd) (ti1 : TId) (vs1 : List Nat) (t1 : Tg) (tt1 : TTd) (te : TEd) (env : En) (Q : AV → Prop) (E : XD → Prop) : List PyData → List PyData → Prop
  | [], acc => Q (.new acc)
  | d :: ds, acc => match t.set d env with
    | some env' => tt env' (fun b => match b with
      | true => ti1 env' (fun xs => comp2Go t1 tt1 te (wipeE env' vs1) (fun acc => compGo2 t tt ti1 vs1 t1 tt1 te env Q E ds acc) E xs acc) E
      | false => compGo2 t tt ti1 vs1 t1 tt1 te env Q E ds acc) E
    | none => False
def eLc2 (ti : TId) (t : Tg) (tt : TTd) (ti1 : TId) (t1 : Tg) (tt1 : TTd) (te : TEd) (vs vs1 : List Nat) : TEd := fun env Q E => ti env (fun xs => compGo2 t tt ti1 vs1 t1 tt1 te (wipeE env vs) Q E xs []) E
theorem wipeE_own {env : En} {i : Nat} {l : List PyData} : ∀ {vs : List Nat}, (wipeE env vs)[i]? = some (some (.own l)) → i ∉ vs ∧ env[i]? = some (some (.own l))
  | [], h => ⟨by simp, h⟩
  | v :: vs, h => by
    unfold wipeE at h
    by_cases c : v = i
    · subst c
      by_cases hl : v < (wipeE env vs).length
      · rw [List.getElem?_set_self hl] at h; cases h
      · rw [List.getElem?_eq_none (by rw [List.length_set]; omega)] at h; cases h
    · rw [List.getElem?_set_ne c] at h
      obtain ⟨a, b⟩ := wipeE_own h
      exact ⟨fun z => (List.mem_cons.mp z).elim (fun e => c e.symm) a, b⟩
theorem setE_own {env : En} {i j : Nat} {d : PyData} {l : List PyData} (h : (setE env j d)[i]? = some (some (.own l))) : env[i]? = some (some (.own l)) := by
  unfold setE at h
  by_cases c : j = i
  · subst c
    by_cases hl : j < env.length
    · rw [List.getElem?_set_self hl] at h; cases h
    · rw [List.getElem?_eq_none (by rw [List.length_set]; omega)] at h; cases h
  · rwa [List.getElem?_set_ne c] at h
theorem setsE_own {env' : En} {i : Nat} {l : List PyData} : ∀ {is : List Nat} {ds : List PyData} {env : En}, setsE env is ds = some env' → env'[i]? = some (some (.own l)) → env[i]? = some (some (.own l))
  | [], [], env, e, h => by cases e; exact h
  | j :: is, d :: ds, env, e, h => setE_own (setsE_own (is := is) (ds := ds) e h)
  | [], _ :: _, _, e, _ => by cases e
  | _ :: _, [], _, e, _ => by cases e
theorem setsN_own {env' : En} {i : Nat} {l : List PyData} : ∀ {ts : List NT} {ds : List PyData} {env : En}, setsN env ts ds = some env' → env'[i]? = some (some (.own l)) → env[i]? = some (some (.own l))
  | [], [], env, e, h => by cases e; exact h
  | .n j :: ts, d :: ds, env, e, h => setE_own (setsN_own (ts := ts) (ds := ds) e h)
  | .t is :: ts, d :: ds, env, e, h => by
    cases d with
    | tuple m =>
      have e : (setsE env is m).bind (fun e => setsN e ts ds) = some env' := e
      obtain ⟨e1, e2, e3⟩ := Option.bind_eq_some_iff.mp e
      exact setsE_own e2 (setsN_own e3 h)
    | _ => cases e
  | [], _ :: _, _, e, _ => by cases e
  | .n _ :: _, [], _, e, _ => by cases e
  | .t _ :: _, [], _, e, _ => by cases e
theorem Tg.set_own {t : Tg} {env env' : En} {d : PyData} {i : Nat} {l : List PyData} (e : t.set d env = some env') (h : env'[i]? = some (some (.own l))) : env[i]? = some (some (.own l)) := by
  cases t with
  | nm j => cases e; exact setE_own h
  | tp is =>
    cases d with
    | tuple ds => exact setsE_own (is := is) (ds := ds) e h
    | _ => cases e
  | np ts =>
    cases d with
    | tuple ds => exact setsN_own (ts := ts) (ds := ds) e h
    | _ => cases e
  | ez j ts =>
    match d, e with
    | .tuple [a, .tuple m], e => exact setE_own (setsN_own (ts := ts) (ds := m) e h)
/-- the heap without one list -/
def offH (H : Hp) (D : Addr) : Hp := fun b => if b = D then none else H b
theorem offH_ne {H : Hp} {D b : Addr} (h : b ≠ D) : offH H D b = H b := if_neg h
section
variable {C : CC} {B : Base} {X : Cx}
theorem EnvOk.off {g : Gh} {H : Hp} {σ : L2.St} {env : En} (eo : EnvOk C B g H σ env) {D : Addr} {ys : List V} (hD : H D = some (.lst ys)) (ho : ∀ (i : Nat) (l : List PyData), env[i]? = some (some (.own l)) → σ[i]? ≠ some (some (.ref D))) : EnvOk C B g (offH H D) σ env := by
  refine ⟨eo.len, fun i s h => ?_, eo.sep⟩
  obtain ⟨v, hv, r⟩ := eo.at_ i s h
  refine ⟨v, hv, ?_⟩
  cases s with
  | av a =>
    cases a with
    | dat d => exact r
    | clo k b =>
      obtain ⟨f, e, c⟩ := r
      obtain ⟨L, h1, h2, h3⟩ := c.ex
      refine ⟨f, e, ⟨L, fun p hp => ?_, h2, h3⟩⟩
      obtain ⟨a1, a2, a3, a4⟩ := h1 p hp
      refine ⟨?_, a2, a3, a4⟩
      rw [offH_ne fun z => by rw [z, hD] at a1; exact a4 _ (Option.some.inj a1).symm]
      exact a1
    | clr k b =>
      obtain ⟨f, e, c⟩ := r
      obtain ⟨L, h1, h2, h3⟩ := c.ex
      refine ⟨f, e, ⟨L, fun p hp => ?_, h2, h3⟩⟩
      obtain ⟨a1, a2, a3, a4⟩ := h1 p hp
      refine ⟨?_, a2, a3, a4⟩
      rw [offH_ne fun z => by rw [z, hD] at a1; exact a4 _ (Option.some.inj a1).symm]
      exact a1
    | well => exact r
    | brw l => exact r.elim
    | new l => exact r.elim
  | own l =>
    obtain ⟨⟨p, vs, rfl, n, h1, q⟩, r2⟩ := r
    exact ⟨⟨p, vs, rfl, n, by rw [offH_ne fun z => ho i l h (by rw [hv, z])]; exact h1, q⟩, r2⟩
theorem lc2W {t t1 : Tg} {ti ti1 : TId} {tt tt1 : TTd} {te : TEd} {own vs1 : List Nat} (hsl : ∀ i ∈ t.slots, i ∈ own) (hsl1 : ∀ i ∈ t1.slots, i ∈ vs1) {σ : L2.St} {H : Hp} {Q : VK} (h : tD C B (eLc2 ti t tt ti1 t1 tt1 te own vs1) σ H Q) :
    tLc2 (tDI C B ti) (t.g C.K) (tDT C B tt) (tDI C B ti1) (t1.g C.K) (tDT C B tt1) (tD C B te) own vs1 σ H Q := by
  obtain ⟨g, env, Qd, st, eo, h, k⟩ := h
  refine ⟨g, env, _, st, eo, h, fun J xs g1 H1 q f1 st1 y1 hlen D hD => ?_⟩
  have gD : g1 D = none := st1.1.none_of hD
  have eo1 := eo.fr f1
  refine ⟨fun i m H2 => m = xs.length - i ∧ i ≤ xs.length ∧ ∃ g2 acc vs, Gr g1 H1 g2 H2 ∧ StOk C g2 H2 ∧ g2 D = none ∧ H2 D = some (.lst vs) ∧ RepVs C.K g2 vs acc ∧ compGo2 t tt ti1 vs1 t1 tt1 te (wipeE env own) Qd XF (xs.drop i) acc,
    ⟨xs.length, by simp, Nat.zero_le _, g1, [], [], .fresh hD, st1.fresh hD, gD, upd_same, .nil, by simpa using q⟩, ?_⟩
  rintro i m H2 ⟨rfl, hi, g2, acc, vs, f2, st2, gD2, hD2, rv, q2⟩
  obtain ⟨go, stop⟩ := y1 i g2 H2 f2.gm st2
  by_cases hlt : i < xs.length
  · have ed : xs[i]? = some xs[i] := List.getElem?_eq_getElem hlt
    obtain ⟨go, yld⟩ := go _ ed
    rw [List.drop_eq_getElem_cons hlt] at q2
    unfold compGo2 at q2
    split at q2
    · rename_i env3 e3
      refine .inr ⟨go, fun H' => ∃ g2 acc vs, Gr g1 H1 g2 H' ∧ StOk C g2 H' ∧ g2 D = none ∧ H' D = some (.lst vs) ∧ RepVs C.K g2 vs acc ∧ compGo2 t tt ti1 vs1 t1 tt1 te (wipeE env own) Qd XF (xs.drop (i + 1)) acc, fun H' n => ⟨xs.length - (i + 1), by omega, rfl, hlt, n⟩, fun x H3 hy => ?_⟩
      obtain ⟨g3, f3, st3, r3⟩ := yld x H3 hy
      have keepD : ∀ {ga gb : Gh} {Ha Hb : Hp} {ws : List V}, Gr ga Ha gb Hb → ga D = none → Ha D = some (.lst ws) → gb D = none ∧ Hb D = some (.lst ws) := fun f n h => ⟨by rw [f.km _ _ h]; exact n, f.hm _ _ h (by rw [n]; exact fun z => by cases z) fun ps z => by cases z⟩
      have ew := ((eo.fr (f1.trans (f2.trans f3))).wipe own)
      refine Tg.ok (vs0 := own) st3 ew r3 e3 hsl fun σ3 eo3 hw => ⟨?_, ?_⟩
      · rw [hw]
        exact de_lc.wipe_wipe σ _
      · refine ⟨g3, env3, _, st3, eo3, q2, fun b g4 H4 q4 f4 st4 => ?_⟩
        obtain ⟨d1, d2⟩ := keepD (f3.trans f4) gD2 hD2
        cases b with
        | false =>
          rw [if_neg (by decide)]
          exact ⟨g4, acc, vs, f2.trans (f3.trans f4), st4, d1, d2, RepVs.mono (f3.trans f4).gm rv, q4⟩
        | true =>
          rw [if_pos rfl]
          refine ⟨g4, env3, _, st4, eo3.fr f4, q4, fun J1 ys g5 H5 q5 f5 st5 y5 hlen5 => ?_⟩
          obtain ⟨d3, d4⟩ := keepD f5 d1 d2
          have hoff : ∀ (i : Nat) (l : List PyData), env3[i]? = some (some (.own l)) → σ3[i]? ≠ some (some (.ref D)) := fun i l hi hs => by
            obtain ⟨ni, ei⟩ := wipeE_own (Tg.set_own e3 hi)
            obtain ⟨v, hv, ⟨p, ws, rfl, n, hp, _⟩, _⟩ := eo1.at_ i _ ei
            have e1 : σ3[i]? = σ[i]? := by
              have w : (L2.wipe σ3 own)[i]? = (L2.wipe (L2.wipe σ own) own)[i]? := congrArg (·[i]?) hw
              rw [L2.wipe_out ni, L2.wipe_out ni, L2.wipe_out ni] at w
              exact w
            rw [e1, hv] at hs
            cases hs
            rw [hD] at hp
            cases hp
          have eoR : EnvOk C B g5 (offH H5 D) σ3 env3 := (eo3.fr (f4.trans f5)).off d4 hoff
          have oD : offH H5 D D = none := if_pos rfl
          have g0 : Gr g5 (offH H5 D) g5 H5 := ⟨fun _ _ h => h, fun _ _ _ => rfl, fun a o h _ _ => by
            unfold offH at h
            split at h
            · cases h
            · exact h, fun a h => by
            unfold offH
            split
            · rfl
            · exact h⟩
          refine ⟨fun j m H6 => m = ys.length - j ∧ j ≤ ys.length ∧ ∃ g6 acc6 vs6, Gr g1 H1 g6 H6 ∧ Gr g5 (offH H5 D) g6 H6 ∧ StOk C g6 H6 ∧ g6 D = none ∧ H6 D = some (.lst vs6) ∧ RepVs C.K g6 vs6 acc6 ∧ comp2Go t1 tt1 te (wipeE env3 vs1) (fun acc => compGo2 t tt ti1 vs1 t1 tt1 te (wipeE env own) Qd XF (xs.drop (i + 1)) acc) XF (ys.drop j) acc6,
            ⟨ys.length, by simp, Nat.zero_le _, g5, acc, vs, f2.trans (f3.trans (f4.trans f5)), g0, st5, d3, d4, RepVs.mono (f3.trans (f4.trans f5)).gm rv, by simpa using q5⟩, ?_⟩
          rintro j m H6 ⟨rfl, hj, g6, acc6, vs6, fa, fb, st6, gD6, hD6, rv6, q6⟩
          obtain ⟨go1, stop1⟩ := y5 j g6 H6 fb.gm st6
          by_cases hlt1 : j < ys.length
          · have ed1 : ys[j]? = some ys[j] := List.getElem?_eq_getElem hlt1
            obtain ⟨go1, yld1⟩ := go1 _ ed1
            rw [List.drop_eq_getElem_cons hlt1] at q6
            unfold comp2Go at q6
            split at q6
            · rename_i env7 e7
              refine .inr ⟨go1, fun H' => ∃ g6 acc6 vs6, Gr g1 H1 g6 H' ∧ Gr g5 (offH H5 D) g6 H' ∧ StOk C g6 H' ∧ g6 D = none ∧ H' D = some (.lst vs6) ∧ RepVs C.K g6 vs6 acc6 ∧ comp2Go t1 tt1 te (wipeE env3 vs1) (fun acc => compGo2 t tt ti1 vs1 t1 tt1 te (wipeE env own) Qd XF (xs.drop (i + 1)) acc) XF (ys.drop (j + 1)) acc6, fun H' n => ⟨ys.length - (j + 1), by omega, rfl, hlt1, n⟩, fun x H7 hy7 => ?_⟩
              obtain ⟨g7, f7, st7, r7⟩ := yld1 x H7 hy7
              have ew7 := ((eoR.fr (fb.trans f7)).wipe vs1)
              refine Tg.ok (vs0 := vs1) st7 ew7 r7 e7 hsl1 fun σ8 eo8 hw8 => ⟨?_, ?_⟩
              · rw [hw8]
                exact de_lc.wipe_wipe σ3 _
              · refine ⟨g7, env7, _, st7, eo8, q6, fun b g9 H9 q9 f9 st9 => ?_⟩
                obtain ⟨d5, d6⟩ := keepD (f7.trans f9) gD6 hD6
                cases b with
                | true =>
                  rw [if_pos rfl]
                  refine ⟨g9, env7, _, st9, eo8.fr f9, q9, fun v H10 ⟨a, g10, q10, f10, st10, r10, n10⟩ => ?_⟩
                  try dsimp only at q10
                  split at q10
                  · rename_i dd edd
                    obtain ⟨g11, f11, st11, r11, m11⟩ := freeze st9 f10 st10 r10 n10 (sd_st edd)
                    obtain ⟨d7, d8⟩ := keepD f11 d5 d6
                    have l2 : vs6.length = acc6.length := Paired.len rv6
                    have ff := (f7.trans (f9.trans f11))
                    exact ⟨vs6, d8, by rw [sizeLine_eq, l2]; exact q10.1, g11, acc6 ++ [dd], vs6 ++ [v], (fa.trans ff).young hD, (fb.trans ff).young oD, st11.own d7 d8, d7, upd_same, RepVs.append (RepVs.mono ff.gm rv6) (.cons r11 .nil), q10.2⟩
                  · exact q10.elim
                | false =>
                  rw [if_neg (by decide)]
                  have ff := f7.trans f9
                  exact ⟨g9, acc6, vs6, fa.trans ff, fb.trans ff, st9, d5, d6, RepVs.mono ff.gm rv6, q9⟩
            · exact q6.elim
          · have e : j = ys.length := by omega
            subst e
            rw [List.drop_length] at q6
            exact .inl ⟨stop1 rfl, g6, acc6, vs6, fa, st6, gD6, hD6, rv6, q6⟩
    · exact q2.elim
  · have e : i = xs.length := by omega
    subst e
    rw [List.drop_length] at q2
    refine .inl ⟨stop rfl, k _ _ ⟨.new acc, g2, q2, f1.trans f2, st2, ⟨D, vs, rfl, gD2, hD2, rv⟩, fun l e => ⟨D, rfl, f1.nm _ hD⟩⟩⟩
end
section
open StX
variable {C : CC} {B : Base} {X : Cx} {N : List Str} {sc : Scope} {k : Nat} {i : Nat} {x : Str} {p pos : Pos}
theorem FX.lc2 {elt tg iter tg1 iter1 : Expr} {ifs ifs1 : List Expr} {scope : Scope} {own : List (Str × Nat)} {vs1 : List Nat} {ti ti1 : TId} {T T1 : Tg} {tt tt1 : TTd} {te : TEd} (F : FX C N sc k X) (hi : DI C B X tg iter ti) (ok : (blkB N sc scope own && T.slots.all (fun i => decide (i ∈ own.map (·.2)))) = true) (ok1 : (vs1.all (fun i => decide (i ∈ own.map (·.2))) && T1.slots.all (fun i => decide (i ∈ vs1))) = true)
    (hg : ∀ X', FX C N (relS scope sc) k X' → PG X' tg (T.g C.K)) (ht : ∀ X', FX C N (relS scope sc) k X' → DTs C B X' ifs tt) (hi1 : ∀ X', FX C N (relS scope sc) k X' → DI C B X' tg1 iter1 ti1) (hg1 : ∀ X', FX C N (relS scope sc) k X' → PG X' tg1 (T1.g C.K)) (ht1 : ∀ X', FX C N (relS scope sc) k X' → DTs C B X' ifs1 tt1) (he : ∀ X', FX C N (relS scope sc) k X' → DE C B X' elt te) (hs : ∀ x, foldedSetIterable iter X.env x = pure x) (hs1 : ∀ env x, foldedSetIterable iter1 env x = pure x) :
    DE C B X (.ListComp elt [⟨tg, iter, ifs, 0⟩, ⟨tg1, iter1, ifs1, 0⟩] scope pos) (eLc2 ti T tt ti1 T1 tt1 te (own.map (·.2)) vs1) := by
  simp only [Bool.and_eq_true, List.all_eq_true, decide_eq_true_eq] at ok ok1
  exact peW (pe_lc2 F.xo.calm F.xo.nd hi (F.bk ok.1) ok1.1 (fun s H D cl fp => hg _ F.blk) (fun s H D cl fp => ht _ F.blk) (fun s H D cl fp => hi1 _ F.blk) (fun s H D cl fp => hg1 _ F.blk) (fun s H D cl fp => ht1 _ F.blk) (fun s H D cl fp => he _ F.blk) hs hs1) fun σ H Q h => lc2W ok.2 ok1.2 h
theorem FX.setL2F {elt tg iter tg1 iter1 : Expr} {ifs ifs1 : List Expr} {scope : Scope} {own : List (Str × Nat)} {vs1 : List Nat} {lpos : Pos} {ti ti1 : TId} {T T1 : Tg} {tt tt1 : TTd} {te : TEd} (F : FX C N sc k X) (n : NP X i x) (hsw : swB sc scope x p lpos = true) (hi : DI C B X tg iter ti) (ok : (blkB N sc scope own && T.slots.all (fun i => decide (i ∈ own.map (·.2)))) = true) (ok1 : (vs1.all (fun i => decide (i ∈ own.map (·.2))) && T1.slots.all (fun i => decide (i ∈ vs1))) = true)
    (hg : ∀ X', FX C N (relS scope sc) k X' → PG X' tg (T.g C.K)) (ht : ∀ X', FX C N (relS scope sc) k X' → DTs C B X' ifs tt) (hi1 : ∀ X', FX C N (relS scope sc) k X' → DI C B X' tg1 iter1 ti1) (hg1 : ∀ X', FX C N (relS scope sc) k X' → PG X' tg1 (T1.g C.K)) (ht1 : ∀ X', FX C N (relS scope sc) k X' → DTs C B X' ifs1 tt1) (he : ∀ X', FX C N (relS scope sc) k X' → DE C B X' elt te) (hs : ∀ x, foldedSetIterable iter X.env x = pure x) (hs1 : ∀ env x, foldedSetIterable iter1 env x = pure x) :
    DS C B X (.Assign [.Name x p] (.ListComp elt [⟨tg, iter, ifs, 0⟩, ⟨tg1, iter1, ifs1, 0⟩] scope lpos) pos) (sSetF i (eLc2 ti T tt ti1 T1 tt1 te (own.map (·.2)) vs1)) := by
  simp only [Bool.and_eq_true, List.all_eq_true, decide_eq_true_eq] at ok ok1
  exact psW (ps_setLc2 F.xo.calm F.xo.nd n.l.v.at_ n.p (by rw [F.swaps, hsw]) hi (F.bk ok.1) ok1.1 (fun s H D cl fp => hg _ F.blk) (fun s H D cl fp => ht _ F.blk) (fun s H D cl fp => hi1 _ F.blk) (fun s H D cl fp => hg1 _ F.blk) (fun s H D cl fp => ht1 _ F.blk) (fun s H D cl fp => he _ F.blk) hs hs1) fun D σ H h => lc2W ok.2 ok1.2 (setFW h)
end
section
variable {Q : AV → Prop} {E : XD → Prop} {s : Option SL} {es : En} {te : TEd} {ti ti1 : TId} {t t1 : Tg} {tt tt1 : TTd} {vs vs1 : List Nat}
def npQ (N : En → Prop) (ts : List NT) (env : En) (ds : List PyData) : Prop := match setsN env ts ds with
  | some e => N e
  | none => False
theorem w_tgnp {N : En → Prop} {ts : List NT} {env : En} {l : List PyData} : tgQ N (.np ts) env (.tuple l) = npQ N ts env l := rfl
theorem w_np0 {N : En → Prop} {env : En} : npQ N [] env [] = N env := rfl
theorem w_np1 {N : En → Prop} {ts : List NT} {env : En} {i : Nat} {d : PyData} {l : List PyData} : npQ N (.n i :: ts) env (d :: l) = npQ N ts (env.set i (some (.av (.dat d)))) l := rfl
theorem w_np2 {N : En → Prop} {ts : List NT} {env : En} {is : List Nat} {d : PyData} {l : List PyData} : npQ N (.t is :: ts) env (d :: l) = tgQ (fun e => npQ N ts e l) (.tp is) env d := by
  cases d with
  | tuple m =>
    show (match (setsE env is m).bind (fun e => setsN e ts l) with | some e => N e | none => False) = (match setsE env is m with | some e => npQ N ts e l | none => False)
    cases setsE env is m <;> rfl
  | _ => rfl
theorem w_lc2 : eLc2 ti t tt ti1 t1 tt1 te vs vs1 (s :: es) Q E = ti (s :: es) (fun xs => compGo2 t tt ti1 vs1 t1 tt1 te (wipeE (s :: es) vs) Q E xs []) E := rfl
end
end TL
namespace TL
open PySem PySem.Spec PyProof.Rows L2 LamX NdefX
/-! ### min(l), a list of pairs of numbers -/
def isPr : PyData → Bool
  | .tuple [.int _, .int _] => true
  | _ => false
theorem isPr_of {d : PyData} (h : isPr d = true) : ∃ a b, d = .tuple [.int a, .int b] := by
  unfold isPr at h
  split at h
  · exact ⟨_, _, rfl⟩
  · cases h
def minP : List PyData → Option AV
  | [] => none
  | x :: xs => if (x :: xs).all isPr then some (.dat (PySem.W.minD x xs)) else none
def fMinP : OpN := f1 fun
  | .list l => minP l
  | _ => none
theorem alikePr {xs : List PyData} (h : xs.all isPr = true) : PySem.W.AlikeAll xs := by
  have h := List.all_eq_true.mp h
  refine ⟨fun x hx y hy => ?_, fun x hx => ?_⟩
  · obtain ⟨a, b, rfl⟩ := isPr_of (h x hx)
    obtain ⟨c, d, rfl⟩ := isPr_of (h y hy)
    simp [PySem.W.alike, PySem.W.alikeAll]
  · obtain ⟨a, b, rfl⟩ := isPr_of (h x hx)
    exact fun e => by cases e
theorem depthPr : ∀ {xs : List PyData}, xs.all isPr = true → PyData.depthAll xs ≤ 4
  | [], _ => by simp [PyData.depthAll]
  | x :: xs, h => by
    rw [List.all_cons, Bool.and_eq_true] at h
    obtain ⟨a, b, rfl⟩ := isPr_of h.1
    have := depthPr h.2
    simp [PyData.depthAll, PyData.depth]
    omega
theorem min_list_at {prog : Program} {w : World} {A : Around} {E : Value → Shared → Prop} {s : Shared} {l : Addr} {vs : Array Value} {x : PyData} {xs : List PyData} {as : List Addr} {Q : Value → Shared → Prop} (hh : A.handled = none) (hl : s.heap.IsList l vs) (hr : ReadsAll s.heap vs.toList (x :: xs) as) (ha : PySem.W.AlikeAll (x :: xs)) (hu : A.units + 1 + PyData.depthAll (x :: xs) < cLine)
    (h : ∀ (i : Nat) v h' tk, vs[i]? = some v → (x :: xs)[i]? = some (PySem.W.minD x xs) → (∀ b o, s.heap.get? b = some o → h'.get? b = some o) → Q v { s with heap := h', toks := tk }) :
    wpAny (model prog w) A (call (.builtin "min") [.ref l]) Q E s := by
  have hn : vs.size = xs.length + 1 := PySem.W.readsAll_len hr
  refine call_min_walkH (PySem.W.iter_listW (A := A.in1) hh hl fun s₂ e W st hfp hw hk => ?_)
  refine ⟨_, _, _, _, _, _, _, s.heap, _, rfl, W, st, hfp, by omega, hw, hk, PySem.W.cmpIn_lt (A := A.in1) hr ha (by show A.units + 1 + _ < _; exact hu), fun v s' hP m => ?_⟩
  obtain ⟨h', tk, rfl, hk'⟩ := PySem.W.moved_old e rfl m
  have e1 : vs.size - 1 = xs.length := by omega
  obtain ⟨b1, e2⟩ := PySem.W.argBest_fold PySem.W.dataLt PyData.none x xs xs.length (Nat.le_refl _)
  rw [List.take_length] at e2
  rw [e1] at hP
  refine h _ v h' tk hP ?_ hk'
  rw [List.getD_eq_getElem?_getD] at e2
  have hlt : argBest (fun i j => PySem.W.dataLt ((x :: xs).getD i PyData.none) ((x :: xs).getD j PyData.none)) xs.length < (x :: xs).length := by rw [List.length_cons]; omega
  rw [List.getElem?_eq_getElem hlt] at e2 ⊢
  exact congrArg some e2
theorem c_minP {C : CC} {X : Cx} (hK : X.K = C.K) (hc : X.calm = true) (hu : X.A.units + 64 < cLine) : CallR X (.builtin "min") (rDN C fMinP) := by
  intro pins s σ H xs us Q I r h
  obtain ⟨g, as, a, st, ra, e, k⟩ := h
  obtain ⟨v, d, rfl, rb, e⟩ := f1_get st ra e
  split at e
  · rename_i l
    cases l with
    | nil => cases e
    | cons x l =>
      unfold minP at e
      try dsimp only at e
      split at e
      · rename_i hp
        cases e
        obtain ⟨p, vs, rfl, h1, h2⟩ := rb.lst_inv
        obtain ⟨its, rv, hl, _⟩ := I.list (by rw [hK]; exact h1)
        rw [Vals.ref1 r]
        obtain ⟨as2, ra2⟩ := Dp.readsAll I (x :: l) vs its (by rw [hK]; exact dps_of st.1 _ h2) rv
        have hd := depthPr hp
        refine min_list_at (vs := its.toArray) (I.ok.hd hc) hl.isList (by simpa using ra2) (alikePr hp) (by omega) fun i v h' tk hv hx hk => ?_
        obtain ⟨w, hw, rw'⟩ := RepVs.get h2 hx
        obtain ⟨u, hu', ru⟩ := Vals.get rv hw
        have : v = u := by
          have hv : its[i]? = some v := by simpa using hv
          rw [hu'] at hv
          exact (Option.some.inj hv).symm
        subst this
        exact ⟨w, H, I.kept hk, ru, k _ _ (.same st rw')⟩
      · cases e
  · cases e
theorem FX.minP {C : CC} {N : List Str} {sc : Scope} {k : Nat} {X : Cx} {B : Base} {a : Expr} {t : TAd} {p pos : Pos} (F : FX C N sc k X) (g : NG X "min") (m : C.mg "min" = none) (ha : DA C B X [a] t) (hs : isStar a = false) : DE C B X (.Call (.Name "min" p) [a] [] pos) (eCB fMinP t) := de_callB (c_minP F.xo.K F.xo.calm F.hu) g.g (F.mg m) (by decide +kernel) ha (by decide) (by decide) rfl hs
end TL
namespace TL
open PySem PySem.Spec PyProof.Rows L2 LamX NdefX
/-! ### a, b = x, y by a tuple: the names may be cells, the values new lists -/
theorem ds_unp2 {C : CC} {B : Base} {X : Cx} {a b tg : Expr} {ta tb : TEd} {i j k2 : Nat} {pt pos : Pos} (hK : X.K = C.K) (ha : DE C B X a ta) (hb : DE C B X b tb) (sa : isStar a = false) (sb : isStar b = false) (hg : PG X tg ((Tg.tp [i, j]).g C.K)) (hs : swapsWithSole [tg] (.Tuple [a, b] k2 pt) pos.line X.env = pure false) (hw : swappedStores [tg] (.Tuple [a, b] k2 pt) X.env = pure none)
    (h1 : (assignEach [tg] X.env).map (·.2) = [assign tg X.env]) : DS C B X (.Assign [tg] (.Tuple [a, b] k2 pt) pos) (sPar2 i j ta tb) := by
  refine psW (ps_asg (pe_tup (pa_cons ha (pa_cons hb pa_nil (star_cons _ _ _ sb)) (star_cons _ _ _ sa))) hg hs hw h1) fun D σ H h => ?_
  obtain ⟨g, env, Dd, st, fb, eo, h, ends⟩ := h
  refine ⟨g, env, _, st, eo, h, fun v H1 ⟨x, g1, q, f1, st1, r1, n1⟩ => ?_⟩
  refine ⟨g1, env, _, st1, eo.fr f1, q, fun w H2 ⟨y, g2, q, f2, st2, r2, n2⟩ => ?_⟩
  try dsimp only at q
  split at q
  · rename_i env2 e2
    cases h1 : storeA env i x with
    | none => rw [h1] at e2; cases e2
    | some env1 =>
      rw [h1] at e2
      refine ⟨by rw [sizeLine_eq]; show 2 ≤ 16777216; decide, fun p hp => ?_⟩
      have f3 : Gr g2 H2 g2 (upd H2 p (.tup [v, w])) := Gr.fresh hp
      have eo1 : EnvOk C B g1 H1 (σ.set i (some v)) env1 := EnvOk.store2 eo fb f1 i r1 n1 h1
      have eo2 := (EnvOk.store2 eo1 (fb.trans f1) f2 j r2 n2 e2).fr f3
      exact ⟨p, [v, w], rfl, .inl (.inl upd_same), rfl, v, [w], rfl, w, [], rfl, rfl, ends.nx _ _ g2 _ q ⟨(f1.trans f2).gm, st2.fresh hp, (fb.trans (f1.trans f2)).trans f3⟩ eo2⟩
  · exact q.elim
theorem FX.unp2 {C : CC} {B : Base} {X : Cx} {N : List Str} {sc : Scope} {k : Nat} {a b tg : Expr} {ta tb : TEd} {i j k2 : Nat} {pt pos : Pos} (F : FX C N sc k X) (ha : DE C B X a ta) (hb : DE C B X b tb) (sa : isStar a = false) (sb : isStar b = false) (hg : PG X tg ((Tg.tp [i, j]).g C.K)) (hs : swapsWithSole [tg] (.Tuple [a, b] k2 pt) pos.line X.env = pure false) (hw : swappedStores [tg] (.Tuple [a, b] k2 pt) X.env = pure none)
    (h1 : (assignEach [tg] X.env).map (·.2) = [assign tg X.env]) : DS C B X (.Assign [tg] (.Tuple [a, b] k2 pt) pos) (sPar2 i j ta tb) := ds_unp2 F.xo.K ha hb sa sb hg hs hw h1
end TL
namespace TL
open PySem PySem.Spec PyProof.Rows L2 LamX NdefX
/-! ### set(xs) of a list of numbers: the kit's rule for a tuple, turned to a list -/
section
variable {P : Program} {w : World} {A : Around} {E : Value → Shared → Prop} {s : Shared}
set_option maxRecDepth 100000 in
set_option maxHeartbeats 3200000 in
theorem set_listI {l : Addr} {items : Array Value} (ns : List Int) {Q : Value → Shared → Prop} (hh : A.handled = none) (hl : s.heap.IsList l items) (hit : IntsAre items.toList ns) (hb : ns.length + 1 < scanBound)
    (h : ∀ (h' : Heap) (tk c : Nat), SetR w h' s.heap.objs.size (fun j => decide (j ∈ ns)) c → c ≤ ns.length → (∀ b o, s.heap.get? b = some o → h'.get? b = some o) → Q (.ref s.heap.objs.size) { s with heap := h', toks := tk }) :
    wpAny (model P w) A (call (.type "set") [.ref l]) Q E s := by
  have hisz : items.size = ns.length := by
    have q := IntsAre.length hit
    rw [Array.length_toList] at q
    exact q
  obtain ⟨c, tl, hmro⟩ := F.called_set.mro
  have hmade := F.called_set.made
  have hsub := F.called_set.sub
  refine wpAny_call (codeAny_of_tree ?_)
  show wpAny _ _ (callAny (.type "set") _) _ _ _
  refine wpAny_pure ⟨Code.quiet_builtin _ (by decide +kernel), codeAny_builtin F.entry_type_call ?_⟩
  rw [Around.under_plain (weight_type_call_type "set" [.ref l] []) rfl]
  have h1 := F.called_set.notType
  have h2 := F.called_set.canCreate
  have hct := F.typeCall_set_1 (.ref l)
  repeat (any_goals (first | assumption | wp_step))

  refine codeAny_mono (code_set_led1 (.ref l) (E := E) (Q₁ := fun obj s₁ => obj = .ref s.heap.objs.size ∧ s₁ = { s with heap := s.heap.push { cls := .type "set", dict := none, data := .set #[] 0 (.fresh 0 0 (!w.params.followText "set-order")) } }) ⟨rfl, rfl⟩) fun r s₁ hr => ?_
  cases r with
  | error e => exact hr
  | ok fl =>
    cases fl with
    | ret obj =>
      obtain ⟨rfl, rfl⟩ := hr
      have hS : (s.heap.push { cls := .type "set", dict := none, data := .set #[] 0 (.fresh 0 0 (!w.params.followText "set-order")) }).get? s.heap.objs.size = some { cls := .type "set", dict := none, data := .set #[] 0 (.fresh 0 0 (!w.params.followText "set-order")) } := Heap.get?_push_size _ rfl
      have hT : Shared.TypeIs { s with heap := s.heap.push { cls := .type "set", dict := none, data := .set #[] 0 (.fresh 0 0 (!w.params.followText "set-order")) } } (.ref s.heap.objs.size) "set" := ⟨_, hS, rfl⟩
      have hli := F.called_set.init.lookup
      have hbi := F.called_set.init.bind (.ref s.heap.objs.size)
      repeat (any_goals (first | assumption | wp_step))

      refine codeAny_mono (codeAny_call_builtin (R := wants (fun r s₂ => r = .none ∧ ∃ h' tk c, s₂ = { s with heap := h', toks := tk } ∧ SetR w h' s.heap.objs.size (fun j => decide (j ∈ ns)) c ∧ c ≤ ns.length ∧
          (∀ b o, s.heap.get? b = some o → h'.get? b = some o)) E) F.called_set.init.plain F.entry_set_init (check_set_init_1 hT ?_)) fun r₂ s₂ hr₂ => ?_
      · obtain ⟨ol, hol, hcl, nl, hdl⟩ := hl
        obtain ⟨ocls, odict, odata, oslots⟩ := ol
        simp only at hcl hdl
        subst hcl; subst hdl
        have hol' : (s.heap.push { cls := .type "set", dict := none, data := .set #[] 0 (.fresh 0 0 (!w.params.followText "set-order")) }).get? l = some { cls := .type "list", dict := odict, data := .seq items nl, slots := oslots } := Heap.get?_push_of_some _ hol
        have hsls := F.sub_list_set
        have hslf := F.sub_list_frozenset
        have hne : (Value.type "list" == Value.type "dict") = false := by decide
        have hl1 : (s.heap.push { cls := .type "set", dict := none, data := .set #[] 0 (.fresh 0 0 (!w.params.followText "set-order")) }).IsList l items := ⟨_, hol', rfl, nl, rfl⟩
        unfold Builtin.«set.__init__» noKeywords Builtin.Frozenset.updateFrom
        generalize hPI : pyIter = PI
        wp_walk
        subst hPI

        refine wpAny_pyIter_list hl1 ?_
        refine wpAny_bind (wpAny_runValue ?_)
        have hlS : l < s.heap.objs.size := Heap.lt_size hol
        have hh3 : A.in1.in1.in1.handled = none := by simp [hh]
        have hz1 : (s.heap.push { cls := .type "set", dict := none, data := .set #[] 0 (.fresh 0 0 (!w.params.followText "set-order")) }).objs.size = s.heap.objs.size + 1 := Heap.size_push ..
        have hneI : l ≠ (s.heap.push { cls := .type "set", dict := none, data := .set #[] 0 (.fresh 0 0 (!w.params.followText "set-order")) }).objs.size := by
          rw [Heap.size_push]; exact Nat.ne_of_lt (Nat.lt_succ_of_lt hlS)
        have hSf : s.heap.objs.size ∉ [(s.heap.push { cls := .type "set", dict := none, data := .set #[] 0 (.fresh 0 0 (!w.params.followText "set-order")) }).objs.size, l] := by
          rw [Heap.size_push]; simp only [List.mem_cons, List.mem_singleton, List.not_mem_nil, or_false, not_or]
          exact ⟨Nat.ne_of_lt (Nat.lt_succ_self _), Nat.ne_of_gt hlS⟩
        have hval : ∀ (i : Nat) (v : Value), items[i]? = some v → ∃ k t, ns[i]? = some k ∧ v = .int k t := fun i v hv => by
          have hi : i < ns.length := by rw [← hisz]; exact (Array.getElem?_eq_some_iff.mp hv).1
          obtain ⟨t, e⟩ := PyProof.Rows.IntsAre.int_at hit i v (by rw [Array.getElem?_toList]; exact hv)
          refine ⟨ns[i], t, List.getElem?_eq_getElem hi, ?_⟩
          rw [e, List.getD_eq_getElem?_getD, List.getElem?_eq_getElem hi] <;> rfl
        refine set_update_ints ((Walks.list hh3 _ l hneI items).toS) s.heap.objs.size
          hSf ns hisz hb hval (items.size - 0) 0 _ (by omega) (Nat.zero_le _)
          ⟨⟨_, Heap.get?_push_size _ rfl, rfl, rfl⟩, (hl1.push _)⟩ ?hS0 ?hR
        case hS0 =>
          have hget : ((s.heap.push { cls := .type "set", dict := none, data := .set #[] 0 (.fresh 0 0 (!w.params.followText "set-order")) }).push { cls := .type "list_iterator", data := .fields #[.ref l, .int 0 0] }).get? s.heap.objs.size
              = some { cls := .type "set", dict := none, data := .set #[] 0 (.fresh 0 0 (!w.params.followText "set-order")) } := Heap.get?_push_of_some _ hS
          exact ⟨0, Nat.le_refl 0, setR_new_at hget⟩
        case hR =>
          intro s' c' hm hc' hS'
          obtain ⟨h', g2, d', tk', os'⟩ := s'
          have eg : g2 = s.gens := hm.gens
          have ed : d' = s.drawn := hm.drawn
          have eo : os' = s.os := hm.os
          subst eg; subst ed; subst eo
          show wpAny _ _ _ _ _ _
          refine wpAny_pure ?_
          show wpAny _ _ (ret Value.none) _ _ _
          rw [hisz] at hc'
          refine wpAny_pure ⟨rfl, h', tk', c', rfl, hS', hc', fun b o e => ?_⟩
          have hb0 : b < s.heap.objs.size := Heap.lt_size e
          have hb1 : b ≠ s.heap.objs.size := Nat.ne_of_lt hb0
          have hb2 : b ≠ (s.heap.push { cls := .type "set", dict := none, data := .set #[] 0 (.fresh 0 0 (!w.params.followText "set-order")) }).objs.size := by
            rw [Heap.size_push]; exact Nat.ne_of_lt (Nat.lt_succ_of_lt hb0)
          exact hm.heap b o (by simp only [List.mem_cons, List.mem_singleton, List.not_mem_nil, or_false, not_or]; exact ⟨hb1, hb2⟩) (Heap.get?_push_of_some _ (Heap.get?_push_of_some _ e))

      · cases r₂ with
        | error e => exact hr₂
        | ok fl₂ =>
          cases fl₂ with
          | ret r =>
            obtain ⟨rfl, h', tk, c', rfl, hS', hc', hk'⟩ := hr₂
            repeat (any_goals (first | assumption | wp_step))
            exact h _ _ _ hS' hc' hk'
          | _ => exact hr₂.elim
    | _ => exact hr.elim

end
/-! ### sorted(set(t)), a tuple or a list of numbers -/
def rSetT (K : PySem.W.Frag) (w : World) : List V → Hp → VK → Prop := fun vs H Q => ∃ (a : Addr) (ns : List Int), vs = [V.ref a] ∧ (SqT K H a (ns.map V.int) ∨ SqL K H a (ns.map V.int)) ∧ ns.length < 64 ∧ ∀ p c, H p = none → c ≤ ns.length → Q (.ref p) (upd H p (SetO w p (fun j => decide (j ∈ ns)) c))
theorem cr_setT {X : Cx} (hc : X.calm = true) : CallR X (.type "set") (rSetT X.K X.w) := by
  intro pins s σ H vs us Q I r h
  obtain ⟨a, ns, rfl, hs, h64, q⟩ := h
  rw [Vals.ref1 r]
  rcases hs with hs | hs
  · obtain ⟨its, rv, ht, _⟩ := I.tuple hs
    refine call_set_tupI (items := its.toArray) ns (I.ok.hd hc) ht (by simpa using rv.ints) (by show ns.length + 1 < 4096; omega) fun h' tk c R hc' hk => ?_
    exact ⟨.ref _, upd H s.heap.objs.size (SetO X.w s.heap.objs.size (fun j => decide (j ∈ ns)) c), I.laid (t' := tk) hk (Nat.le_refl _) (setO_new R), rfl, q _ _ (I.hok.fresh (Nat.le_refl _)) hc'⟩
  · obtain ⟨its, rv, ⟨o, n, ho, hcl, hdn, hd⟩, _⟩ := I.list hs
    refine set_listI (items := its.toArray) ns (I.ok.hd hc) ⟨o, ho, hcl, n, hd⟩ (by simpa using rv.ints) (by show ns.length + 1 < 4096; omega) fun h' tk c R hc' hk => ?_
    exact ⟨.ref _, upd H s.heap.objs.size (SetO X.w s.heap.objs.size (fun j => decide (j ∈ ns)) c), I.laid (t' := tk) hk (Nat.le_refl _) (setO_new R), rfl, q _ _ (I.hok.fresh (Nat.le_refl _)) hc'⟩
theorem repsInts {K : PySem.W.Frag} {g : Gh} : ∀ ms : List Int, RepVs K g (ms.map V.int) (ms.map PyData.int)
  | [] => .nil
  | m :: ms => .cons (RepF.v (.int m)) (repsInts ms)
def ssI (l : List PyData) (Q : AV → Prop) : Prop := match intsD l with
  | some ns => ns.length < 64 ∧ ∀ ms : List Int, ms.Pairwise (· < ·) → (∀ k, k ∈ ms ↔ k ∈ ns) → ms.length ≤ ns.length → Q (.new (ms.map PyData.int))
  | none => False
def ssV (a : AV) (Q : AV → Prop) : Prop := match a.rd with
  | some (.tuple l) => ssI l Q
  | some (.list l) => ssI l Q
  | _ => False
def eSS (te : TEd) : TEd := fun env Q E => te env (fun a => ssV a Q) E
theorem de_ss {C : CC} {B : Base} {X : Cx} {e : Expr} {te : TEd} {p p2 pos pos2 : Pos} (hK : X.K = C.K) (hc : X.calm = true) (hg : Gl X "sorted") (hm : X.mg "sorted" = none) (hg2 : Gl X "set") (hm2 : X.mg "set" = none) (he : DE C B X e te) (hs : isStar e = false) :
    DE C B X (.Call (.Name "sorted" p) [.Call (.Name "set" p2) [e] [] pos2] [] pos) (eSS te) := by
  have s1 := star_cons e [] X.env hs
  have base : PE X (.Call (.Name "sorted" p) [.Call (.Name "set" p2) [e] [] pos2] [] pos) (tCB (rSortedSet X.w) (tCons (tCB (rSetT X.K X.w) (tCons (tD C B te) tNil)) tNil)) :=
    pe_callB (cr_sortedSet hc) hg hm (by decide +kernel) (pa_cons (pe_callTy (cr_setT hc) hg2 hm2 (by decide +kernel) (pa_cons he pa_nil s1) (by decide) (by decide) s1 rfl) pa_nil (star_cons _ _ _ rfl)) (by decide) (by decide) (star_cons _ _ _ rfl) rfl
  refine peW base fun σ H Q h => ?_
  obtain ⟨g, env, Qd, st, eo, h, k⟩ := h
  refine ⟨g, env, _, st, eo, h, fun v H1 ⟨a, g1, q, f1, st1, r1, n1⟩ => ?_⟩
  obtain ⟨l, ns, a', rfl, h1, hn, q0, q⟩ : ∃ (l : List PyData) (ns : List Int) (a' : Addr), v = .ref a' ∧ (SqT C.K H1 a' (ns.map V.int) ∨ SqL C.K H1 a' (ns.map V.int)) ∧ intsD l = some ns ∧ ns.length < 64 ∧ ∀ ms : List Int, ms.Pairwise (· < ·) → (∀ k, k ∈ ms ↔ k ∈ ns) → ms.length ≤ ns.length → Qd (.new (ms.map PyData.int)) := by
    unfold ssV at q
    try dsimp only at q
    split at q
    · rename_i l el
      unfold ssI at q
      try dsimp only at q
      split at q
      · rename_i ns hn
        obtain ⟨a', vs, rfl, _, h1, h2⟩ := (r1.b st1 el).tup_inv
        rw [ints_ok st1.1 h2 hn] at h1
        exact ⟨l, ns, a', rfl, .inl h1, hn, q.1, q.2⟩
      · exact q.elim
    · rename_i l el
      unfold ssI at q
      try dsimp only at q
      split at q
      · rename_i ns hn
        obtain ⟨a', vs, rfl, h1, h2⟩ := (r1.b st1 el).lst_inv
        rw [ints_ok st1.1 h2 hn] at h1
        exact ⟨l, ns, a', rfl, .inr h1, hn, q.1, q.2⟩
      · exact q.elim
    · exact q.elim
  refine ⟨a', ns, rfl, by rw [hK]; exact h1, q0, fun p c hp hcn => ?_⟩
  have f2 : Gr g1 H1 g1 (upd H1 p (SetO X.w p (fun j => decide (j ∈ ns)) c)) := Gr.fresh hp
  have st2 := st1.fresh (o := SetO X.w p (fun j => decide (j ∈ ns)) c) hp
  refine ⟨p, _, c, rfl, upd_same, by omega, fun ms p' m1 m2 m3 hp' => ?_⟩
  refine k _ _ ((ResV.new (ds := ms.map PyData.int) st2 hp' ?_).fin (f1.trans f2) (q ms m1 (fun k => by rw [m2]; exact decide_eq_true_iff) (by omega)))
  exact repsInts ms
theorem FX.ss {C : CC} {N : List Str} {sc : Scope} {k : Nat} {X : Cx} {B : Base} {e : Expr} {te : TEd} {p p2 pos pos2 : Pos} (F : FX C N sc k X) (g : NG X "sorted") (m : C.mg "sorted" = none) (g2 : NG X "set") (m2 : C.mg "set" = none) (he : DE C B X e te) (hs : isStar e = false) :
    DE C B X (.Call (.Name "sorted" p) [.Call (.Name "set" p2) [e] [] pos2] [] pos) (eSS te) := de_ss F.xo.K F.xo.calm g.g (F.mg m) g2.g (F.mg m2) he hs
section
variable {Q : AV → Prop} {E : XD → Prop} {s : Option SL} {es : En} {te : TEd}
theorem w_ss : eSS te (s :: es) Q E = te (s :: es) (fun a => ssV a Q) E := rfl
end
end TL
namespace TL
open PySem PySem.Spec PyProof.Rows L2 LamX NdefX
/-! ### zip(a, b, c) -/
section
variable {P : Program} {w : World} {K : PySem.W.Frag} {elts : List Expr} {kk : Nat} {tpos : Pos}
theorem lt_ne2 {a N : Nat} (h : a < N) : a ≠ N + 2 := by omega
def ch6 (N : Nat) : List Addr := [N + 5, N + 3, N + 4, N, N + 1, N + 2]
theorem in6_lt {N m b : Nat} (h : N + 5 < m) (hb : b ∈ ch6 N) : b < m := by
  simp [ch6] at hb
  omega
theorem in6_le {N b : Nat} (hb : b ∈ ch6 N) : N ≤ b := by
  simp [ch6] at hb
  omega
theorem in6_sub {N b : Nat} (hb : b ∈ [N + 5, N + 4, N, N + 1, N + 2]) : b ∈ ch6 N := by
  simp [ch6] at hb ⊢
  omega
theorem zip_sep3S {N a b c : Nat} (ha : a < N) (hb : b < N) (hc : c < N) : ZipSep3 (N + 5) (N + 3) (N + 4) N (N + 1) (N + 2) [N, a] [N + 1, b] [N + 2, c] :=
  zip_sep3 (N := N) (fp1 := [a]) (fp2 := [b]) (fp3 := [c]) (fun x hx => by rw [List.mem_singleton.mp hx]; exact ha) (fun x hx => by rw [List.mem_singleton.mp hx]; exact hb) (fun x hx => by rw [List.mem_singleton.mp hx]; exact hc)
theorem ne_in6 {N b : Nat} : N + 5 ∈ ch6 N ∧ N + 3 ∈ ch6 N ∧ N + 4 ∈ ch6 N ∧ N ∈ ch6 N ∧ N + 1 ∈ ch6 N ∧ N + 2 ∈ ch6 N := by simp [ch6]
theorem turn_zip3S (S1 S2 S3 : Src) (N : Nat) (h1 : S1.a < N) (h2 : S2.a < N) (h3 : S3.a < N) :
    Turn P w K (.Tuple elts kk tpos) (ItG K false [S1, S2, S3]) (ch6 N) (N + 5) (fun i h => IsZip h (N + 5) (N + 3) (N + 4) .none ∧ IsTupOf3 h (N + 3) (.ref N) (.ref (N + 1)) (.ref (N + 2)) ∧ (∃ a1 a2 a3, IsTupOf3 h (N + 4) a1 a2 a3) ∧ S1.at_ h N i ∧ S2.at_ h (N + 1) i ∧ S3.at_ h (N + 2) i) where
  mem := by simp [ch6]
  obj := fun i h st b hb => by
    obtain ⟨hz, hTI, ⟨a1, a2, a3, hTO⟩, q1, q2, q3⟩ := st
    simp only [ch6, List.mem_cons, List.not_mem_nil, or_false] at hb
    rcases hb with z | z | z | z | z | z
    · rw [z]; exact ⟨_, hz, fun v q => nomatch q⟩
    · rw [z]; exact ⟨_, hTI, fun v q => nomatch q⟩
    · rw [z]; exact ⟨_, hTO, fun v q => nomatch q⟩
    · rw [z]; obtain ⟨o, ho, hv, _⟩ := Src.obj q1; exact ⟨o, ho, hv⟩
    · rw [z]; obtain ⟨o, ho, hv, _⟩ := Src.obj q2; exact ⟨o, ho, hv⟩
    · rw [z]; obtain ⟨o, ho, hv, _⟩ := Src.obj q3; exact ⟨o, ho, hv⟩
  keep := fun i h h' st k => let ⟨hz, hTI, ⟨a1, a2, a3, hTO⟩, q1, q2, q3⟩ := st; ⟨k _ (by simp [ch6]) _ hz, k _ (by simp [ch6]) _ hTI, ⟨a1, a2, a3, k _ (by simp [ch6]) _ hTO⟩, Src.keep q1 fun o q => k _ (by simp [ch6]) o q, Src.keep q2 fun o q => k _ (by simp [ch6]) o q, Src.keep q3 fun o q => k _ (by simp [ch6]) o q⟩
  item := by
    intro X hP hw hK hc i pins s σ H E I hf st hg
    subst hP hw hK
    obtain ⟨hz, hTI, hTO, q1, q2, q3⟩ := st
    obtain ⟨xs, x, hq, hx⟩ := hg S1 (by simp)
    obtain ⟨ys, y, hr, hy⟩ := hg S2 (by simp)
    obtain ⟨zs, z, ht, hzz⟩ := hg S3 (by simp)
    obtain ⟨its, rv, p, hz1⟩ := Src.get I hq
    obtain ⟨its2, rv2, p2, hz2⟩ := Src.get I hr
    obtain ⟨its3, rv3, p3, hz3⟩ := Src.get I ht
    have l1 : i < its.toArray.size := by
      have := (List.getElem?_eq_some_iff.mp hx).1
      rw [List.size_toArray, ← rv.length]; exact this
    have l2 : i < its2.toArray.size := by
      have := (List.getElem?_eq_some_iff.mp hy).1
      rw [List.size_toArray, ← rv2.length]; exact this
    have l3 : i < its3.toArray.size := by
      have := (List.getElem?_eq_some_iff.mp hzz).1
      rw [List.size_toArray, ← rv3.length]; exact this
    have G := GoesN.zip3 (prog := X.prog) (w := X.w) (elts := elts) (x1 := kk) (pos := tpos) (zip_sep3S h1 h2 h3) (S1.draws (A := X.A.in1) (prog := X.prog) (w := X.w) (I.ok.hd hc) N (Nat.ne_of_lt h1) its.toArray) (S2.draws (A := X.A.in1) (prog := X.prog) (w := X.w) (I.ok.hd hc) (N + 1) (lt_ne h2).1 its2.toArray) (S3.draws (A := X.A.in1) (prog := X.prog) (w := X.w) (I.ok.hd hc) (N + 2) (lt_ne2 h3) its3.toArray)
    refine wpAny_mono (G.goes i s (fun v s2 => ∃ x H', L2.Inv X pins σ H' s2 ∧ L2.RelV x v ∧ (ItG X.K false [S1, S2, S3]).yld i H x H' ∧ (IsZip s2.heap (N + 5) (N + 3) (N + 4) .none ∧ IsTupOf3 s2.heap (N + 3) (.ref N) (.ref (N + 1)) (.ref (N + 2)) ∧ (∃ a1 a2 a3, IsTupOf3 s2.heap (N + 4) a1 a2 a3) ∧ S1.at_ s2.heap N (i + 1) ∧ S2.at_ s2.heap (N + 1) (i + 1) ∧ S3.at_ s2.heap (N + 2) (i + 1)) ∧ ∀ b ∈ ch6 N, H' b = none) E (by omega) ⟨hz, hTI, hTO, ⟨q1, p⟩, ⟨q2, p2⟩, ⟨q3, p3⟩⟩ fun v h' tk hY st' hk htk => ?_) (fun r s1 h => h) fun _ _ z => z
    obtain ⟨T, u, u', u'', ev, hT, hu, hu', hu'', ht'⟩ := hY
    obtain ⟨st1, st2, st3, st4, st5, st6⟩ := st'
    obtain ⟨u0, hu0, ru⟩ := rv.get hx
    obtain ⟨u1, hu1, ru'⟩ := rv2.get hy
    obtain ⟨u2, hu2, ru''⟩ := rv3.get hzz
    have e1 : u = u0 := by
      rw [List.getElem?_toArray] at hu
      exact Option.some.inj (hu.symm.trans hu0)
    have e2 : u' = u1 := by
      rw [List.getElem?_toArray] at hu'
      exact Option.some.inj (hu'.symm.trans hu1)
    have e3 : u'' = u2 := by
      rw [List.getElem?_toArray] at hu''
      exact Option.some.inj (hu''.symm.trans hu2)
    subst e1 e2 e3
    have hk' : ∀ b o, b ∉ ch6 N → s.heap.get? b = some o → h'.get? b = some o := fun b o hb => hk b o fun z => hb (in6_sub z)
    have I1 := new_tup (tk := tk) (vs := [x, y, z]) I hk' hf hT ht' (.cons ru (.cons ru' (.cons ru'' .nil))) (by show 3 ≤ sizeLine; decide)
    have lt : ∀ b ∈ ch6 N, b < s.heap.objs.size := fun b hb => by
      exact in6_lt (Heap.lt_size hz) hb
    refine ⟨.ref T, _, I1, by rw [ev]; rfl, ⟨T, [x, y, z], rfl, I.hok.fresh hT, rfl, .cons (fun l hl => by rw [Src.inj I hl hq]; exact hx) (.cons (fun l hl => by rw [Src.inj I hl hr]; exact hy) (.cons (fun l hl => by rw [Src.inj I hl ht]; exact hzz) .nil))⟩, ⟨st1, st2, st3, st4.1, st5.1, st6.1⟩, fun b hb => ?_⟩
    rw [upd_ne (Nat.ne_of_lt (Nat.lt_of_lt_of_le (lt b hb) hT))]
    exact (hf b hb).1
  done := by
    intro X hP hw hK hc i pins s σ H E I hf st hg
    subst hP hw hK
    obtain ⟨hz, hTI, hTO, q1, q2, q3⟩ := st
    obtain ⟨hall, S', hS, zs, hqz, hxz⟩ := hg
    obtain ⟨xs, hq, hx⟩ := hall S1 (by simp)
    obtain ⟨ys, hr, hy⟩ := hall S2 (by simp)
    obtain ⟨ws, ht, hw⟩ := hall S3 (by simp)
    obtain ⟨its, rv, p, hz1⟩ := Src.get I hq
    obtain ⟨its2, rv2, p2, hz2⟩ := Src.get I hr
    obtain ⟨its3, rv3, p3, hz3⟩ := Src.get I ht
    have hmin : i = min (min its.toArray.size its2.toArray.size) its3.toArray.size := by
      rw [List.size_toArray, List.size_toArray, List.size_toArray, ← rv.length, ← rv2.length, ← rv3.length]
      simp only [List.mem_cons, List.not_mem_nil, or_false] at hS
      rcases hS with z | z | z
      · rw [z] at hqz; rw [Src.inj I hqz hq] at hxz; omega
      · rw [z] at hqz; rw [Src.inj I hqz hr] at hxz; omega
      · rw [z] at hqz; rw [Src.inj I hqz ht] at hxz; omega
    have G := GoesN.zip3 (prog := X.prog) (w := X.w) (elts := elts) (x1 := kk) (pos := tpos) (zip_sep3S h1 h2 h3) (S1.draws (A := X.A.in1) (prog := X.prog) (w := X.w) (I.ok.hd hc) N (Nat.ne_of_lt h1) its.toArray) (S2.draws (A := X.A.in1) (prog := X.prog) (w := X.w) (I.ok.hd hc) (N + 1) (lt_ne h2).1 its2.toArray) (S3.draws (A := X.A.in1) (prog := X.prog) (w := X.w) (I.ok.hd hc) (N + 2) (lt_ne2 h3) its3.toArray)
    refine wpAny_mono (G.stops s (fun s' => L2.Inv X pins σ H s') E (by rw [← hmin]; exact ⟨hz, hTI, hTO, ⟨q1, p⟩, ⟨q2, p2⟩, ⟨q3, p3⟩⟩) fun h' tk hk htk => ?_) (fun r s1 h => h) fun _ _ z => z
    exact I.turnedL (ch := ch6 N) (fun b o hb => hk b o fun z => hb (in6_sub z)) hf
  self := fun A i s Q E st h => wpAny_pyIter_zip st.1 h
end
def zip3D : List PyData → List PyData → List PyData → List PyData
  | a :: as, b :: bs, c :: cs => .tuple [a, b, c] :: zip3D as bs cs
  | _, _, _ => []
theorem zip3D_get : ∀ (l m n : List PyData) (i : Nat) (d : PyData), (zip3D l m n)[i]? = some d → ∃ a b c, l[i]? = some a ∧ m[i]? = some b ∧ n[i]? = some c ∧ d = .tuple [a, b, c]
  | a :: as, b :: bs, c :: cs, 0, d, e => ⟨a, b, c, rfl, rfl, rfl, (Option.some.inj e).symm⟩
  | a :: as, b :: bs, c :: cs, i + 1, d, e => zip3D_get as bs cs i d e
  | [], _, _, _, _, e => by simp [zip3D] at e
  | _ :: _, [], _, _, _, e => by simp [zip3D] at e
  | _ :: _, _ :: _, [], _, _, e => by simp [zip3D] at e
theorem zip3D_len : ∀ l m n : List PyData, (zip3D l m n).length = min (min l.length m.length) n.length
  | a :: as, b :: bs, c :: cs => by
    show (zip3D as bs cs).length + 1 = _
    rw [zip3D_len as bs cs, List.length_cons, List.length_cons, List.length_cons]; omega
  | [], _, _ => by simp [zip3D]
  | _ :: _, [], _ => by simp [zip3D]
  | _ :: _, _ :: _, [] => by simp [zip3D]
def iZip3 (t : TAd) : TId := fun env Q E => t env (fun as => match as with
  | [.dat d, .dat d', .dat d''] => (match seqV d, seqV d', seqV d'' with
    | some l, some m, some n => Q (zip3D l m n)
    | _, _, _ => False)
  | _ => False) E
theorem ylds_zip3 {C : CC} {g0 : Gh} {S S' S'' : Src} {l m n : List PyData} (now : SrcNow C g0 S l) (now' : SrcNow C g0 S' m) (now'' : SrcNow C g0 S'' n) : Ylds C g0 (ItG C.K false [S, S', S'']) (zip3D l m n) := fun i g H mm st => by
  obtain ⟨vs, h, q⟩ := now g H mm st
  obtain ⟨vs', h', q'⟩ := now' g H mm st
  obtain ⟨vs'', h'', q''⟩ := now'' g H mm st
  refine ⟨fun d e => ?_, fun e => ?_⟩
  · obtain ⟨d1, d2, d3, e1, e2, e3, rfl⟩ := zip3D_get _ _ _ _ _ e
    obtain ⟨v, ev, rv⟩ := q.get e1
    obtain ⟨v', ev', rv'⟩ := q'.get e2
    obtain ⟨v'', ev'', rv''⟩ := q''.get e3
    refine ⟨fun S0 hS => ?_, fun x H' y => ?_⟩
    · simp only [List.mem_cons, List.not_mem_nil, or_false] at hS
      rcases hS with z | z | z
      · rw [z]; exact ⟨vs, v, h, ev⟩
      · rw [z]; exact ⟨vs', v', h', ev'⟩
      · rw [z]; exact ⟨vs'', v'', h'', ev''⟩
    · obtain ⟨T, ws, rfl, hT, rfl, pr⟩ := y
      cases pr with
      | cons p1 p2 =>
        cases p2 with
        | cons p2 p3 =>
          cases p3 with
          | cons p3 p4 =>
            cases p4
            have e2 := Option.some.inj (ev.symm.trans (p1 vs h))
            have e3 := Option.some.inj (ev'.symm.trans (p2 vs' h'))
            have e4 := Option.some.inj (ev''.symm.trans (p3 vs'' h''))
            subst e2 e3 e4
            rw [if_neg (by decide)]
            exact tup_new st hT (.cons rv (.cons rv' (.cons rv'' .nil)))
  · rw [zip3D_len] at e
    have l1 := Paired.len q
    have l2 := Paired.len q'
    have l3 := Paired.len q''
    refine ⟨fun S0 hS => ?_, ?_⟩
    · simp only [List.mem_cons, List.not_mem_nil, or_false] at hS
      rcases hS with z | z | z
      · rw [z]; exact ⟨vs, h, by omega⟩
      · rw [z]; exact ⟨vs', h', by omega⟩
      · rw [z]; exact ⟨vs'', h'', by omega⟩
    · by_cases z : vs.length = i
      · exact ⟨S, by simp, vs, h, z⟩
      · by_cases z' : vs'.length = i
        · exact ⟨S', by simp, vs', h', z'⟩
        · exact ⟨S'', by simp, vs'', h'', by omega⟩
section
variable {C : CC} {B : Base} {X : Cx} {a b c : Expr} {t : TAd} {p pos : Pos} {elts : List Expr} {kk : Nat} {tpos : Pos}
theorem di_zip3 (hK : X.K = C.K) (hg : Gl X "zip") (hm : X.mg "zip" = none) (ha : DA C B X [a, b, c] t) (hs : isStar a = false) (hs2 : isStar b = false) (hs3 : isStar c = false) : DI C B X (.Tuple elts kk tpos) (.Call (.Name "zip" p) [a, b, c] [] pos) (iZip3 t) := by
  refine ⟨fun pins s σ H R I h => ?_⟩
  obtain ⟨g, env, Qd, st, eo, h, k⟩ := h
  refine Call_ (ld_blt I hg hm PyProof.Rows.boot_zip (PyProof.Rows.callWith_type1 (thn (ha.run pos pins s σ H (fun vs H1 => ∃ d d' d'' l m n g1 v v' v'', vs = [v, v', v''] ∧ seqV d = some l ∧ seqV d' = some m ∧ seqV d'' = some n ∧ Qd (zip3D l m n) ∧ Gr g H g1 H1 ∧ StOk C g1 H1 ∧ RepV C.K g1 v d ∧ RepV C.K g1 v' d' ∧ RepV C.K g1 v'' d'') I ⟨g, env, _, st, eo, h, ?_⟩) fun us s1 ⟨vs, H1, I1, r1, q1⟩ => ?_) (star_cons _ _ _ hs) (noStar _ (by simp [hs2, hs3]))))
  · intro vs as g1 H1 q f1 st1 r1
    try dsimp only at q
    split at q
    · rename_i d d' d''
      split at q
      · rename_i l m n e1 e2 e3
        cases r1 with
        | cons r1 r2 =>
          cases r2 with
          | cons r2 r3 =>
            cases r3 with
            | cons r3 r4 =>
              cases r4
              exact ⟨d, d', d'', l, m, n, g1, _, _, _, rfl, e1, e2, e3, q, f1, st1, r1, r2, r3⟩
      · exact q.elim
    · exact q.elim
  · obtain ⟨d, d', d'', l, m, n, g1, v, v', v'', rfl, e, e', e'', q, f1, st1, rv, rv', rv''⟩ := q1
    obtain ⟨S, rfl, now⟩ := src_now rv e
    obtain ⟨S', rfl, now'⟩ := src_now rv' e'
    obtain ⟨S'', rfl, now''⟩ := src_now rv'' e''
    obtain ⟨vs, hsq, rvs⟩ := now g1 H1 (fun _ _ h => h) st1
    obtain ⟨vs', hsq', rvs'⟩ := now' g1 H1 (fun _ _ h => h) st1
    obtain ⟨vs'', hsq'', rvs''⟩ := now'' g1 H1 (fun _ _ h => h) st1
    rw [← hK] at hsq hsq' hsq''
    cases r1 with
    | cons ru r1 =>
      cases r1 with
      | cons ru' r1 =>
        cases r1 with
        | cons ru'' r1 =>
          cases r1
          cases ru
          cases ru'
          cases ru''
          obtain ⟨its, rv2, p2, _⟩ := Src.get I1 hsq
          obtain ⟨its', rv2', p2', _⟩ := Src.get I1 hsq'
          obtain ⟨its'', rv2'', p2'', _⟩ := Src.get I1 hsq''
          have lt := Src.lt I1 hsq
          have lt' := Src.lt I1 hsq'
          have lt'' := Src.lt I1 hsq''
          refine zip_begins3 (S.begins its.toArray) (S'.begins its'.toArray) (S''.begins its''.toArray) p2 p2' p2'' fun h' hz hTI hTO h1 h2 h3 hsz hk => wpAny_pyIter_zip hz ?_
          have I2 : L2.Inv X pins σ H1 { s1 with heap := h' } := I1.kept (t' := s1.toks) hk
          refine ⟨s1.heap.objs.size + 5, ch6 s1.heap.objs.size, _, _, H1, rfl, I2, turn_zip3S S S' S'' s1.heap.objs.size lt lt' lt'', ⟨hz, hTI, ⟨_, _, _, hTO⟩, Src.start h1, Src.start h2, Src.start h3⟩, fun b hb => ?_, k _ _ g1 H1 q f1 st1 (by rw [hK]; exact ylds_zip3 now now' now'') ?_⟩
          · have hle : s1.heap.objs.size ≤ b := in6_le hb
            exact I1.fpOk hle (I1.hok.fresh hle)
          · have := Src.lenQ I1 hsq
            rw [zip3D_len, ← Paired.len rvs]
            omega
end
section
variable {Q : List PyData → Prop} {E : XD → Prop} {s : Option SL} {es : En} {ts : TAd}
def zp3Q (Q : List PyData → Prop) (as : List AV) : Prop := match as with
  | [.dat d, .dat d', .dat d''] => (match seqV d, seqV d', seqV d'' with
    | some l, some m, some n => Q (zip3D l m n)
    | _, _, _ => False)
  | _ => False
theorem w_iz3 : iZip3 ts (s :: es) Q E = ts (s :: es) (fun as => zp3Q Q as) E := rfl
theorem w_z3ll {l m n : List PyData} : zp3Q Q [.dat (.list l), .dat (.list m), .dat (.list n)] = Q (zip3D l m n) := rfl
end
theorem FX.zip3 {C : CC} {N : List Str} {sc : Scope} {k : Nat} {X : Cx} {B : Base} {a b c : Expr} {t : TAd} {p pos : Pos} {elts : List Expr} {kk : Nat} {tpos : Pos} (F : FX C N sc k X) (g : NG X "zip") (m : C.mg "zip" = none) (ha : DA C B X [a, b, c] t) (hs : isStar a = false) (hs2 : isStar b = false) (hs3 : isStar c = false) : DI C B X (.Tuple elts kk tpos) (.Call (.Name "zip" p) [a, b, c] [] pos) (iZip3 t) := di_zip3 F.xo.K g.g (F.mg m) ha hs hs2 hs3
theorem zip3D_ints : ∀ a b c : List Int, zip3D (a.map PyData.int) (b.map PyData.int) (c.map PyData.int) = (a.zip (b.zip c)).map fun p => .tuple [.int p.1, .int p.2.1, .int p.2.2]
  | x :: a, y :: b, z :: c => by
    show PyData.tuple [.int x, .int y, .int z] :: zip3D _ _ _ = _
    rw [zip3D_ints a b c]; rfl
  | [], _, _ => by simp [zip3D]
  | _ :: _, [], _ => by simp [zip3D]
  | _ :: _, _ :: _, [] => by simp [zip3D]
end TL
namespace TL
open PySem PySem.Spec PyProof.Rows L2 LamX NdefX
/-! ### a, b, c, d = x, y, z, u by a tuple -/
def sPar4 (i j k l : Nat) (ta tb tc td : TEd) : TSd := fun D env E => ta env (fun x => tb env (fun y => tc env (fun z => td env (fun u => match (storeA env i x).bind fun e => (storeA e j y).bind fun e => (storeA e k z).bind fun e => storeA e l u with
  | some env' => D.nx env'
  | none => False) E) E) E) E
theorem ds_unp4 {C : CC} {B : Base} {X : Cx} {a b c d tg : Expr} {ta tb tc td : TEd} {i j l m k2 : Nat} {pt pos : Pos} (hK : X.K = C.K) (ha : DE C B X a ta) (hb : DE C B X b tb) (hc : DE C B X c tc) (hd : DE C B X d td) (sa : isStar a = false) (sb : isStar b = false) (sc : isStar c = false) (sd : isStar d = false) (hg : PG X tg ((Tg.tp [i, j, l, m]).g C.K)) (hs : swapsWithSole [tg] (.Tuple [a, b, c, d] k2 pt) pos.line X.env = pure false) (hw : swappedStores [tg] (.Tuple [a, b, c, d] k2 pt) X.env = pure none)
    (h1 : (assignEach [tg] X.env).map (·.2) = [assign tg X.env]) : DS C B X (.Assign [tg] (.Tuple [a, b, c, d] k2 pt) pos) (sPar4 i j l m ta tb tc td) := by
  refine psW (ps_asg (pe_tup (pa_cons ha (pa_cons hb (pa_cons hc (pa_cons hd pa_nil (star_cons _ _ _ sd)) (star_cons _ _ _ sc)) (star_cons _ _ _ sb)) (star_cons _ _ _ sa))) hg hs hw h1) fun D σ H h => ?_
  obtain ⟨g, env, Dd, st, fb, eo, h, ends⟩ := h
  refine ⟨g, env, _, st, eo, h, fun v H1 ⟨x, g1, q, f1, st1, r1, n1⟩ => ?_⟩
  refine ⟨g1, env, _, st1, eo.fr f1, q, fun w H2 ⟨y, g2, q, f2, st2, r2, n2⟩ => ?_⟩
  refine ⟨g2, env, _, st2, (eo.fr f1).fr f2, q, fun w3 H3 ⟨z, g3, q, f3, st3, r3, n3⟩ => ?_⟩
  refine ⟨g3, env, _, st3, ((eo.fr f1).fr f2).fr f3, q, fun w4 H4 ⟨u, g4, q, f4, st4, r4, n4⟩ => ?_⟩
  try dsimp only at q
  split at q
  · rename_i env5 e5
    cases h1 : storeA env i x with
    | none => rw [h1] at e5; cases e5
    | some env1 =>
      rw [h1] at e5
      have e5 : ((storeA env1 j y).bind fun e => (storeA e l z).bind fun e => storeA e m u) = some env5 := e5
      cases h2 : storeA env1 j y with
      | none => rw [h2] at e5; cases e5
      | some env2 =>
        rw [h2] at e5
        have e5 : ((storeA env2 l z).bind fun e => storeA e m u) = some env5 := e5
        cases h3 : storeA env2 l z with
        | none => rw [h3] at e5; cases e5
        | some env3 =>
          rw [h3] at e5
          have e5 : storeA env3 m u = some env5 := e5
          refine ⟨by rw [sizeLine_eq]; show 4 ≤ 16777216; decide, fun p hp => ?_⟩
          have f5 : Gr g4 H4 g4 (upd H4 p (.tup [v, w, w3, w4])) := Gr.fresh hp
          have eo1 : EnvOk C B g1 H1 (σ.set i (some v)) env1 := EnvOk.store2 eo fb f1 i r1 n1 h1
          have eo2 := EnvOk.store2 eo1 (fb.trans f1) f2 j r2 n2 h2
          have eo3 := EnvOk.store2 eo2 ((fb.trans f1).trans f2) f3 l r3 n3 h3
          have eo4 := (EnvOk.store2 eo3 (((fb.trans f1).trans f2).trans f3) f4 m r4 n4 e5).fr f5
          exact ⟨p, [v, w, w3, w4], rfl, .inl (.inl upd_same), rfl, v, [w, w3, w4], rfl, w, [w3, w4], rfl, w3, [w4], rfl, w4, [], rfl, rfl, ends.nx _ _ g4 _ q ⟨(((f1.trans f2).trans f3).trans f4).gm, st4.fresh hp, ((((fb.trans f1).trans f2).trans f3).trans f4).trans f5⟩ eo4⟩
  · exact q.elim
theorem FX.unp4 {C : CC} {B : Base} {X : Cx} {N : List Str} {sc' : Scope} {k : Nat} {a b c d tg : Expr} {ta tb tc td : TEd} {i j l m k2 : Nat} {pt pos : Pos} (F : FX C N sc' k X) (ha : DE C B X a ta) (hb : DE C B X b tb) (hc : DE C B X c tc) (hd : DE C B X d td) (sa : isStar a = false) (sb : isStar b = false) (sc : isStar c = false) (sd : isStar d = false) (hg : PG X tg ((Tg.tp [i, j, l, m]).g C.K)) (hs : swapsWithSole [tg] (.Tuple [a, b, c, d] k2 pt) pos.line X.env = pure false) (hw : swappedStores [tg] (.Tuple [a, b, c, d] k2 pt) X.env = pure none)
    (h1 : (assignEach [tg] X.env).map (·.2) = [assign tg X.env]) : DS C B X (.Assign [tg] (.Tuple [a, b, c, d] k2 pt) pos) (sPar4 i j l m ta tb tc td) := ds_unp4 F.xo.K ha hb hc hd sa sb sc sd hg hs hw h1
section
variable {D : EndsD} {E : XD → Prop} {s : Option SL} {es : En} {ta tb tc td : TEd} {i j k l : Nat} {N : En → Prop} {env : En}
def p4Q (N : En → Prop) (env : En) (i j k l : Nat) (x y z u : AV) : Prop := match (storeA env i x).bind fun e => (storeA e j y).bind fun e => (storeA e k z).bind fun e => storeA e l u with
  | some env' => N env'
  | none => False
theorem w_p4 : sPar4 i j k l ta tb tc td D (s :: es) E = ta (s :: es) (fun x => tb (s :: es) (fun y => tc (s :: es) (fun z => td (s :: es) (fun u => p4Q D.nx (s :: es) i j k l x y z u) E) E) E) E := rfl
theorem w_p4n {ds : List PyData} {y z u : PyData} : p4Q N env i j k l (.new ds) (.dat y) (.dat z) (.dat u) = N ((((env.set i (some (.own ds))).set j (some (.av (.dat y)))).set k (some (.av (.dat z)))).set l (some (.av (.dat u)))) := rfl
theorem w_p4d {x y z u : PyData} : p4Q N env i j k l (.dat x) (.dat y) (.dat z) (.dat u) = N ((((env.set i (some (.av (.dat x)))).set j (some (.av (.dat y)))).set k (some (.av (.dat z)))).set l (some (.av (.dat u)))) := rfl
end
end TL
namespace TL
open PySem PySem.Spec PyProof.Rows L2 LamX NdefX
/-! ### comprehensions whose target an inner block reads: a cell -/
section
variable {C : CC} {N : List Str} {sc : Scope} {k : Nat} {X : Cx} {B : Base} {x : Str} {i : Nat}
theorem FX.lC {sc1 scope : Scope} (F : FX C N sc1 k X) (hfn : ∀ x, X.fn x = (scope.names.lookup x == some .cell)) (h : (decide (N[i]? = some x) && (locB sc1 x && notDbg x)) = true) (hc : (scope.names.lookup x == some .cell) = true) : NL X i x := by
  simp only [Bool.and_eq_true, decide_eq_true_eq] at h
  obtain ⟨h1, h2, h3⟩ := h
  have l := locB_ok h2
  exact ⟨⟨by rw [F.N]; exact h1, by rw [F.sc]; exact l.elim .inl fun z => .inr (.inl z), (notDbg_ok h3).1, (notDbg_ok h3).2⟩, by rw [F.sc]; exact l, .inl (by rw [hfn]; exact hc)⟩
theorem FX.lcC {elt tg iter : Expr} {ifs : List Expr} {scope : Scope} {own : List (Str × Nat)} {pos : Pos} {ti : TId} {T : Tg} {tt : TTd} {te : TEd} (F : FX C N sc k X) (hi : DI C B X tg iter ti) (ok : (blkB N sc scope own && T.slots.all (fun i => decide (i ∈ own.map (·.2)))) = true)
    (hg : ∀ X', FX C N (relS scope sc) k X' → (∀ x, X'.fn x = (scope.names.lookup x == some .cell)) → PG X' tg (T.g C.K)) (ht : ∀ X', FX C N (relS scope sc) k X' → DTs C B X' ifs tt) (he : ∀ X', FX C N (relS scope sc) k X' → DE C B X' elt te) (hs : ∀ x, foldedSetIterable iter X.env x = pure x) :
    DE C B X (.ListComp elt [⟨tg, iter, ifs, 0⟩] scope pos) (eLc ti T tt te (own.map (·.2))) := by
  simp only [Bool.and_eq_true, List.all_eq_true, decide_eq_true_eq] at ok
  exact de_lc F.xo.calm F.xo.nd hi (F.bk ok.1) ok.2 (fun s H D cl fp => hg _ F.blk (fun _ => rfl)) (fun s H D cl fp => ht _ F.blk) (fun s H D cl fp => he _ F.blk) hs
theorem FX.setLC {elt tg iter : Expr} {ifs : List Expr} {scope : Scope} {own : List (Str × Nat)} {p lpos pos : Pos} {ti : TId} {T : Tg} {tt : TTd} {te : TEd} (F : FX C N sc k X) (n : NP X i x) (hsw : swB sc scope x p lpos = true) (hi : DI C B X tg iter ti) (ok : (blkB N sc scope own && T.slots.all (fun i => decide (i ∈ own.map (·.2)))) = true)
    (hg : ∀ X', FX C N (relS scope sc) k X' → (∀ x, X'.fn x = (scope.names.lookup x == some .cell)) → PG X' tg (T.g C.K)) (ht : ∀ X', FX C N (relS scope sc) k X' → DTs C B X' ifs tt) (he : ∀ X', FX C N (relS scope sc) k X' → DE C B X' elt te) (hs : ∀ x, foldedSetIterable iter X.env x = pure x) :
    DS C B X (.Assign [.Name x p] (.ListComp elt [⟨tg, iter, ifs, 0⟩] scope lpos) pos) (sSet i (eLc ti T tt te (own.map (·.2)))) := by
  simp only [Bool.and_eq_true, List.all_eq_true, decide_eq_true_eq] at ok
  exact ds_setLc F.xo.calm F.xo.nd n.l.v.at_ n.p (by rw [F.swaps, hsw]) hi (F.bk ok.1) ok.2 (fun s H D cl fp => hg _ F.blk (fun _ => rfl)) (fun s H D cl fp => ht _ F.blk) (fun s H D cl fp => he _ F.blk) hs
theorem FX.setLFC {elt tg iter : Expr} {ifs : List Expr} {scope : Scope} {own : List (Str × Nat)} {p lpos pos : Pos} {ti : TId} {T : Tg} {tt : TTd} {te : TEd} (F : FX C N sc k X) (n : NP X i x) (hsw : swB sc scope x p lpos = true) (hi : DI C B X tg iter ti) (ok : (blkB N sc scope own && T.slots.all (fun i => decide (i ∈ own.map (·.2)))) = true)
    (hg : ∀ X', FX C N (relS scope sc) k X' → (∀ x, X'.fn x = (scope.names.lookup x == some .cell)) → PG X' tg (T.g C.K)) (ht : ∀ X', FX C N (relS scope sc) k X' → DTs C B X' ifs tt) (he : ∀ X', FX C N (relS scope sc) k X' → DE C B X' elt te) (hs : ∀ x, foldedSetIterable iter X.env x = pure x) :
    DS C B X (.Assign [.Name x p] (.ListComp elt [⟨tg, iter, ifs, 0⟩] scope lpos) pos) (sSetF i (eLc ti T tt te (own.map (·.2)))) := by
  simp only [Bool.and_eq_true, List.all_eq_true, decide_eq_true_eq] at ok
  exact psW (ps_setLc F.xo.calm F.xo.nd n.l.v.at_ n.p (by rw [F.swaps, hsw]) hi (F.bk ok.1) (fun s H D cl fp => hg _ F.blk (fun _ => rfl)) (fun s H D cl fp => ht _ F.blk) (fun s H D cl fp => he _ F.blk) hs) fun D σ H h => lcW (tg := tg) F.xo.nd ok.2 (setFW h)
end
end TL
namespace TL
open PySem PySem.Spec PyProof.Rows L2 LamX NdefX
/-! ### a def that calls itself: its promise built up from none -/
def sNone : DSp := fun _ _ _ => False
theorem dss_false {C : CC} {B : Base} {X : Cx} {ss : List Stmt} : DSs C B X ss (fun _ _ _ => False) := ⟨fun pins s σ H D I h => by
  obtain ⟨g, env, Dd, st, fb, eo, h, ends⟩ := h
  exact h.elim⟩
end TL
namespace TL
open PySem PySem.Spec PyProof.Rows L2 LamX NdefX HT
/-! ### t[::-1], a list or a tuple -/
theorem fmap_some {α β : Type} {f : α → Option β} {g : α → β} : ∀ {l : List α}, (∀ m ∈ l, f m = some (g m)) → l.filterMap f = l.map g
  | [], _ => rfl
  | x :: l, h => by
    rw [List.filterMap_cons, h x (List.mem_cons_self ..), List.map_cons, fmap_some fun m hm => h m (List.mem_cons_of_mem _ hm)]
theorem pick_rev (xs : Array Value) : ((List.range xs.size).filterMap fun (m : Nat) => xs[((xs.size : Int) - 1 + (m : Int) * (-1)).toNat]?).toArray = xs.toList.reverse.toArray := by
  congr 1
  refine List.ext_getElem? fun i => ?_
  have e : ((List.range xs.size).filterMap fun (m : Nat) => xs[((xs.size : Int) - 1 + (m : Int) * (-1)).toNat]?) = (List.range xs.size).map fun m => xs.getD (xs.size - 1 - m) .none := by
    refine fmap_some fun m hm => ?_
    rw [List.mem_range] at hm
    have e1 : ((xs.size : Int) - 1 + (m : Int) * (-1)).toNat = xs.size - 1 - m := by omega
    rw [e1]
    have hl : xs.size - 1 - m < xs.size := by omega
    simp [Array.getD, hl]
  rw [e, List.getElem?_map]
  by_cases h : i < xs.size
  · rw [List.getElem?_range h, List.getElem?_reverse (by simpa using h)]
    have hl : xs.size - 1 - i < xs.size := by omega
    simp [Array.getD, hl]
  · rw [List.getElem?_eq_none (by simp; omega), List.getElem?_eq_none (by simp; omega)]
    rfl
section
variable {prog : Program} {w : World} {A : Around} {E : Value → Shared → Prop} {s : Shared}
theorem sliceApplied_rev {sl : Addr} {t : Tok} {n : Nat} {Q : Int × Int × Nat → Shared → Prop} (hs : s.heap.IsSliceOf sl .none .none (.int (-1) t))
    (h : Q ((n : Int) - 1, -1, n) s) : wpAny (model prog w) A (Builtin.Slice.sliceApplied (.ref sl) (pure (n : Int))) Q E s := by
  obtain ⟨os, hos, hcs, hds⟩ := id hs
  unfold Builtin.Slice.sliceApplied Builtin.Slice.sliceFields
  refine wpAny_bind (wpAny_bind (wpAny_field hos hds (x := .none) rfl (wpAny_bind (wpAny_field hos hds (x := .none) rfl (wpAny_bind (wpAny_field hos hds (x := .int (-1) t) rfl (wpAny_pure ?_)))))))
  refine wpAny_bind (slicePart_ (o := some (-1)) (.int _ _) ?_)
  show wpAny _ _ (if ((-1 : Int) == 0) = true then _ else _) _ _ s
  rw [if_neg (by decide)]
  refine wpAny_bind (slicePart_ (o := none) .none (wpAny_bind (slicePart_ (o := none) .none (wpAny_bind (wpAny_pure ?_)))))
  have ea : Builtin.Slice.sliceAdjust none none (-1) (n : Int) = ((n : Int) - 1, -1) := rfl
  have ep : Builtin.Slice.slicePlaces ((n : Int) - 1) (-1) (-1) = n := by
    unfold Builtin.Slice.slicePlaces
    rw [if_neg (by decide)]
    by_cases c : (n : Int) - 1 > -1
    · rw [if_pos c, show (- (-1 : Int)) = 1 by decide, Int.ediv_one]
      omega
    · rw [if_neg c]
      omega
  show wpAny _ _ (match Builtin.Slice.sliceAdjust none none (-1) (n : Int) with | (lo, hi) => pure (lo, (-1 : Int), Builtin.Slice.slicePlaces lo hi (-1))) _ _ s
  rw [ea]
  show wpAny _ _ (pure ((n : Int) - 1, (-1 : Int), Builtin.Slice.slicePlaces ((n : Int) - 1) (-1) (-1))) _ _ s
  rw [ep]
  exact wpAny_pure h
theorem getItem_tuple_rev {t sl : Addr} {items : Array Value} {tk : Tok} {Q : Value → Shared → Prop} (ht : IsTup s.heap t items) (hs : s.heap.IsSliceOf sl .none .none (.int (-1) tk))
    (h : Q (.ref s.heap.objs.size) { s with heap := s.heap.push { cls := .type "tuple", data := .seq items.toList.reverse.toArray } })
    (hsz : items.size ≤ sizeLine) : wpAny (model prog w) A (getItem (.ref t) (.ref sl)) Q E s := by
  have htake : sizeOk (.seq items.toList.reverse.toArray) := by
    show items.toList.reverse.toArray.size ≤ sizeLine
    rw [List.size_toArray, List.length_reverse, Array.length_toList]
    exact hsz
  obtain ⟨os, hos, hcs, hds⟩ := id hs
  have hTs : s.TypeIs (.ref sl) "slice" := ⟨os, hos, hcs⟩
  unfold getItem
  try with_reducible refine wpAny_holding ?_
  first | refine wpAny_bind (wpAny_pure ?_) | skip
  refine wpAny_bind (wpAny_sequenceKey ht.typeIs (by decide) ?_)
  refine wpAny_bind (wpAny_callSpecial?_slot (name := Str.ofString "__getitem__") ht.typeIs PyProof.Rows.slot_tuple_getitem
    (wpAny_call_entry PyProof.Rows.slot_tuple_getitem ht.typeIs entry_tuple_getitem ?_ (args_tuple_getitem _ _)))
  show wpAny _ _ (Builtin.Tuple.tupleItemsOf (.ref t) >>= _) _ _ s
  refine wpAny_bind (tupleItemsOf_ ht ?_)
  refine wpAny_bind (wpAny_typeOf hTs ?_)
  rw [if_pos (by decide)]
  refine wpAny_bind (sliceApplied_rev hs ?_)
  have hno : ¬ (((items.size : Int) - 1 == 0 && (-1 : Int) == 1 && items.size == items.size) = true) := by
    intro q
    rw [Bool.and_eq_true, Bool.and_eq_true] at q
    exact absurd (eq_of_beq q.1.2) (by decide)
  show wpAny _ _ (if (((items.size : Int) - 1) == 0 && (-1 : Int) == 1 && items.size == items.size) = true then _ else _) _ _ s
  rw [if_neg hno, pick_rev]
  first
    | exact wpAny_bind (m := Builtin.Tuple.tupleExact _) (wpAny_newObj_type (wpAny_pure ⟨_, rfl, wpAny_pure h⟩) htake)
    | exact wpAny_bind (m := Builtin.Tuple.tupleExact _) (wpAny_newObj_type (wpAny_bind (wpAny_pure (wpAny_pure ⟨_, rfl, wpAny_pure h⟩))) htake)
    | exact wpAny_bind (wpAny_bind (m := Builtin.Tuple.tupleExact _) (wpAny_newObj_type (wpAny_pure (wpAny_pure ⟨_, rfl, wpAny_pure h⟩)) htake))
    | exact wpAny_bind (wpAny_bind (m := Builtin.Tuple.tupleExact _) (wpAny_newObj_type (wpAny_pure ⟨_, rfl, wpAny_pure h⟩) htake))
end
/-- t[::-1]: a new one, turned round -/
def tRev (K : PySem.W.Frag) (te : TE) : TE := fun σ H Q => te σ H fun x H1 => ∃ a xs, x = .ref a ∧ ((SqL K H1 a xs ∧ ∀ p, H1 p = none → Q (.ref p) (upd H1 p (.lst xs.reverse))) ∨ (SqT K H1 a xs ∧ ∀ p, H1 p = none → Q (.ref p) (upd H1 p (.tup xs.reverse))))
theorem pe_rev {X : Cx} {e : Expr} {te : TE} {k : Nat} {p1 p2 p3 pos : Pos} (he : PE X e te) : PE X (.Subscript e (.Slice none none (some (.UnaryOp .USub (.Constant (.int 1) k p1) p2)) p3) pos) (tRev X.K te) := by
  refine ⟨fun pins s σ H Q I h => ?_⟩
  refine Subscript_ (thn (he.run pins s σ H _ I h) fun v s1 ⟨x, H1, I1, r1, q1⟩ => ?_)
  obtain ⟨a, xs, ex, q⟩ := q1
  subst ex
  cases r1
  have hst : PO X (some (.UnaryOp .USub (.Constant (.int 1) k p1) p2)) (tPart (tUn (rU fun i => .int (-i)) (tC (.int 1)))) := po_some (pe_un un_neg pe_int)
  refine wpAny_Slice (thn (po_none.run pins s1 σ H1 (fun o H2 => o = none ∧ H2 = H1) I1 ⟨rfl, rfl⟩) fun vl s2 ⟨l, H2, I2, pl, el, e2⟩ => ?_)
  subst el e2
  refine thn (po_none.run pins s2 σ H2 (fun o H3 => o = none ∧ H3 = H2) I2 ⟨rfl, rfl⟩) fun vu s3 ⟨u, H3, I3, pu, eu, e3⟩ => ?_
  subst eu e3
  refine thn (hst.run pins s3 σ H3 (fun o H4 => o = some (-1) ∧ H4 = H3) I3 ⟨1, rfl, -1, rfl, rfl, rfl⟩) fun vs s4 ⟨o, H4, I4, ps, eo, e4⟩ => ?_
  subst eo e4
  have I5 : Inv X pins σ H4 { s4 with heap := s4.heap.push { cls := .type "slice", data := .fields #[vl, vu, vs] } } := I4.kept (t' := s4.toks) fun b ob q => Heap.get?_push_of_some _ q
  show wpAny (model X.prog X.w) X.A (subscriptTail e (.Slice none none (some (.UnaryOp .USub (.Constant (.int 1) k p1) p2)) p3) (.ref a) (.ref s4.heap.objs.size)) (EP X pins σ Q) X.xe { s4 with heap := s4.heap.push { cls := .type "slice", data := .fields #[vl, vu, vs] } }
  rcases q with ⟨hx, q⟩ | ⟨hx, q⟩
  · obtain ⟨its, r, ht, hz⟩ := I5.list hx
    have hlen := r.length
    refine tail_any (ops := [.ref a, .ref s4.heap.objs.size]) ht.isList.typeIs (PySem.slot_list_getitem.lookup) ?_ (by with_unfolding_all rfl)
    refine wpAny_getItem_list_slice ht.isList (Heap.IsSliceOf.new _ vl vu vs) pl pu ps (by decide) ?_ (by rw [List.size_toArray]; omega)
    rw [PySem.W.krv_pick]
    refine ⟨.ref _, _, I5.laid (t' := s4.toks) (o := .lst xs.reverse) (fun b ob q => Heap.get?_push_of_some _ q) (Nat.le_refl _) ?_, rfl, q _ (I5.hok.fresh (Nat.le_refl _))⟩
    exact ⟨by rw [List.length_reverse]; exact hz, _, 0, r.reverse, Heap.get?_push_size _ rfl⟩
  · obtain ⟨its, r, ht, hz⟩ := I5.tuple hx
    have hlen := r.length
    refine tail_any (ops := [.ref a, .ref s4.heap.objs.size]) ht.typeIs (PyProof.Rows.slot_tuple_getitem.lookup) ?_ (by with_unfolding_all rfl)
    cases pl
    cases pu
    cases ps
    refine getItem_tuple_rev ht (Heap.IsSliceOf.new _ _ _ _) ?_ (by rw [List.size_toArray]; omega)
    refine ⟨.ref _, _, I5.laid (t' := s4.toks) (o := .tup xs.reverse) (fun b ob q => Heap.get?_push_of_some _ q) (Nat.le_refl _) ?_, rfl, q _ (I5.hok.fresh (Nat.le_refl _))⟩
    exact ⟨by rw [List.length_reverse]; exact hz, _, r.reverse, IsTup.new _ _⟩
theorem RepVs.reverse {K : PySem.W.Frag} {g : Gh} : ∀ {a : List V} {x : List PyData}, RepVs K g a x → RepVs K g a.reverse x.reverse
  | _, _, .nil => .nil
  | _, _, .cons r t => by
    rw [List.reverse_cons, List.reverse_cons]
    exact RepVs.append (RepVs.reverse t) (.cons r .nil)
def rvV (a : AV) (Q : AV → Prop) : Prop := match a.rd with
  | some (.list l) => Q (.new l.reverse)
  | some (.tuple l) => Q (.dat (.tuple l.reverse))
  | _ => False
def eRev (te : TEd) : TEd := fun env Q E => te env (fun a => rvV a Q) E
theorem de_rev {C : CC} {B : Base} {X : Cx} {e : Expr} {te : TEd} {k : Nat} {p1 p2 p3 pos : Pos} (hK : X.K = C.K) (he : DE C B X e te) : DE C B X (.Subscript e (.Slice none none (some (.UnaryOp .USub (.Constant (.int 1) k p1) p2)) p3) pos) (eRev te) := by
  refine peW (pe_rev he) fun σ H Q h => ?_
  obtain ⟨g, env, Qd, st, eo, h, k⟩ := h
  refine ⟨g, env, _, st, eo, h, fun v H1 ⟨a, g1, q, f1, st1, r1, n1⟩ => ?_⟩
  unfold rvV at q
  try dsimp only at q
  split at q
  · rename_i l el
    obtain ⟨p, vs, rfl, h1, h2⟩ := (r1.b st1 el).lst_inv
    exact ⟨p, vs, rfl, .inl ⟨by rw [hK]; exact h1, fun p' hp => k _ _ ((ResV.new st1 hp h2.reverse).fin f1 q)⟩⟩
  · rename_i l el
    obtain ⟨p, vs, rfl, _, h1, h2⟩ := (r1.b st1 el).tup_inv
    exact ⟨p, vs, rfl, .inr ⟨by rw [hK]; exact h1, fun p' hp => k _ _ ((ResV.tup st1 hp h2.reverse).fin f1 q)⟩⟩
  · exact q.elim
theorem FX.rev {C : CC} {N : List Str} {sc : Scope} {k' : Nat} {X : Cx} {B : Base} {e : Expr} {te : TEd} {k : Nat} {p1 p2 p3 pos : Pos} (F : FX C N sc k' X) (he : DE C B X e te) : DE C B X (.Subscript e (.Slice none none (some (.UnaryOp .USub (.Constant (.int 1) k p1) p2)) p3) pos) (eRev te) := de_rev F.xo.K he
section
variable {Q : AV → Prop} {E : XD → Prop} {s : Option SL} {es : En} {te : TEd} {l : List PyData}
theorem w_rev : eRev te (s :: es) Q E = te (s :: es) (fun a => rvV a Q) E := rfl
theorem w_rvl : rvV (.dat (.list l)) Q = Q (.new l.reverse) := rfl
theorem w_rvt : rvV (.dat (.tuple l)) Q = Q (.dat (.tuple l.reverse)) := rfl
theorem w_rvn : rvV (.new l) Q = Q (.new l.reverse) := rfl
theorem w_rvo : rvV (.brw l) Q = Q (.new l.reverse) := rfl
end
end TL
namespace TL
open PySem PySem.Spec PyProof.Rows L2 LamX NdefX HT
/-! ### t * 0, t * 1 -/
theorem tuple_mul1 (l : Addr) (items : Array Value) (n : Nat) (dd : Option Addr) (sl : Array (Option Value)) (u : Tok) :
    Meets (Builtin.«tuple.__mul__» ⟨[.ref l, .int 1 u], []⟩) (fun _ R s => s.heap.get? l = some { cls := .type "tuple", dict := dd, data := .seq items n, slots := sl } ∧ R (.ok (.ret (Value.ref l))) s) :=
  .of_wp fun prog w A R s h => by
    obtain ⟨hp, g, d, tk, os⟩ := s
    obtain ⟨hl, h⟩ := h
    have f1 := AutoSeq1.idx_int
    have c1 : (items.isEmpty || (1 : Int) == 1) = true := by simp
    wp_walk using wpAny_loadPart' hl
    exact ⟨_, rfl, h⟩
theorem tuple_mul0 (l : Addr) (items : Array Value) (n : Nat) (dd : Option Addr) (sl : Array (Option Value)) (u : Tok) (c : items.isEmpty = false) :
    Meets (Builtin.«tuple.__mul__» ⟨[.ref l, .int 0 u], []⟩) (fun _ R s => s.heap.get? l = some { cls := .type "tuple", dict := dd, data := .seq items n, slots := sl } ∧
      R (.ok (.ret (Value.ref s.heap.objs.size))) { s with heap := s.heap.push { cls := Value.type "tuple", data := Data.seq #[] }, toks := s.toks }) :=
  .of_wp fun prog w A R s h => by
    obtain ⟨hp, g, d, tk, os⟩ := s
    obtain ⟨hl, h⟩ := h
    have f1 := AutoSeq1.idx_int
    have c1 : (items.isEmpty || (0 : Int) == 1) = false := by simp [c]
    wp_walk using wpAny_loadPart' hl
    exact ⟨_, rfl, h⟩
def rRep01 (K : PySem.W.Frag) : R2 := fun x y H Q => ∃ l k xs, x = .ref l ∧ y = .int k ∧ SqT K H l xs ∧ xs ≠ [] ∧ ((k = 0 ∧ ∀ p, H p = none → Q (.ref p) (upd H p (.tup []))) ∨ (k = 1 ∧ Q (.ref l) H))
theorem op_rep01 {X : Cx} : OpR X (binaryOp .Mult) (rRep01 X.K) := by
  intro pins s σ H x y v u Q I rx ry h
  obtain ⟨l, k, xs, rfl, rfl, hT, hne, q⟩ := h
  cases rx
  obtain ⟨t, rfl⟩ := ry
  obtain ⟨its, r, ⟨⟨cls, dd, data, sl⟩, ho, hc, n, hd⟩, hs⟩ := I.tuple hT
  simp only at hc hd
  subst hc hd
  have hle : its.length = xs.length := r.length.symm
  have hn : its ≠ [] := fun e => hne (by
    rw [e] at hle
    exact List.eq_nil_of_length_eq_zero hle.symm)
  have hi : its.toArray.isEmpty = false := by
    cases its with
    | nil => exact absurd rfl hn
    | cons a b => rfl
  rcases q with ⟨rfl, q⟩ | ⟨rfl, q⟩
  · refine wpAny_binaryOp_repeat_ref (T := "tuple") (U := "int") (by decide) ⟨_, ho, rfl⟩ (fun s' => typeIs_int s' 0 t) noFill_tuple_mul F.fills_int_mul F.slot_int_rmul repeat_tuple F.slot_int_index.lookup
      (call_meets F.slot_int_rmul (typeIs_int s 0 t) F.entry_int_rmul (F.args_int_rmul_2 _ _) (int_rmul_tuple 0 t l its.toArray n dd sl)
        ⟨ho, rfl, ⟨_, ho, rfl⟩, call_meets F.slot_tuple_mul ⟨_, ho, rfl⟩ F.entry_tuple_mul (F.args_tuple_mul_2 _ _) (tuple_mul0 l its.toArray n dd sl t hi) ⟨ho, ?_⟩⟩)
    refine ⟨.ref s.heap.objs.size, _, I.laid (t' := s.toks) (o := .tup []) (fun b ob q => Heap.get?_push_of_some _ q) (Nat.le_refl _) ?_, rfl, q _ (I.hok.fresh (Nat.le_refl _))⟩
    exact ⟨Nat.zero_le _, [], .nil, IsTup.new _ _⟩
  · refine wpAny_binaryOp_repeat_ref (T := "tuple") (U := "int") (by decide) ⟨_, ho, rfl⟩ (fun s' => typeIs_int s' 1 t) noFill_tuple_mul F.fills_int_mul F.slot_int_rmul repeat_tuple F.slot_int_index.lookup
      (call_meets F.slot_int_rmul (typeIs_int s 1 t) F.entry_int_rmul (F.args_int_rmul_2 _ _) (int_rmul_tuple 1 t l its.toArray n dd sl)
        ⟨ho, rfl, ⟨_, ho, rfl⟩, call_meets F.slot_tuple_mul ⟨_, ho, rfl⟩ F.entry_tuple_mul (F.args_tuple_mul_2 _ _) (tuple_mul1 l its.toArray n dd sl t) ⟨ho, ?_⟩⟩)
    exact ⟨.ref l, H, I, rfl, q⟩
def eRepT (ta tb : TEd) : TEd := fun env Q E => ta env (fun x => match x with
  | .dat (.tuple l) => tb env (fun y => intV y fun n => (0 ≤ n ∧ n ≤ 1000 ∧ l ≠ [] ∧ l.length ≤ 1000) ∧ Q (.dat (.tuple (repL n.toNat l)))) E
  | _ => False) E
theorem FX.repT {C : CC} {B : Base} {X : Cx} {N : List Str} {sc : Scope} {k : Nat} {a b : Expr} {ta tb : TEd} {pos : Pos} (F : FX C N sc k X) (ha : DE C B X a ta) (hb : DE C B X b tb) : DE C B X (.BinOp a .Mult b pos) (eRepT ta tb) := by
  refine peW (pe_op (op_or op_repT op_rep01) ha hb) fun σ H Q h => ?_
  obtain ⟨g, env, Qd, st, eo, h, kk⟩ := h
  refine ⟨g, env, _, st, eo, h, fun v H1 ⟨x, g1, q, f1, st1, r1, n1⟩ => ?_⟩
  try dsimp only at q
  split at q
  · rename_i l
    refine ⟨g1, env, _, st1, eo.fr f1, q, fun w H2 ⟨y, g2, q2, f2, st2, r2, n2⟩ => ?_⟩
    obtain ⟨i, ei, ⟨h0, h1, h2, h3⟩, q3⟩ := intV_get q2
    subst ei
    have r1 : RepV C.K g1 v (.tuple l) := r1
    have r1' := RepV.mono f2.gm r1
    obtain ⟨p, vs, ev, _, h4, rv⟩ := (RepV.b st2.1 r1').tup_inv
    subst ev
    have hl := Paired.len rv
    have hne : vs ≠ [] := fun z => by
      rw [z] at hl
      exact h2 (List.length_eq_zero_iff.mp hl.symm)
    by_cases c : 2 ≤ i
    · exact .inl ⟨p, i, vs, rfl, RepV.isInt st2.1 r2, by rw [F.xo.K]; exact h4, hne, c, h1, by omega, fun r hr => kk _ _ ((ResV.tup st2 hr (rep_reps rv _)).fin (f1.trans f2) q3)⟩
    · refine .inr ⟨p, i, vs, rfl, RepV.isInt st2.1 r2, by rw [F.xo.K]; exact h4, hne, ?_⟩
      by_cases c1 : i = 1
      · subst c1
        refine .inr ⟨rfl, ?_⟩
        have e : repL (Int.toNat 1) l = l := by
          show (List.replicate 1 l).flatten = l
          simp
        rw [e] at q3
        exact kk _ _ ((ResV.same st2 r1').fin (f1.trans f2) q3)
      · have c0 : i = 0 := by omega
        subst c0
        refine .inl ⟨rfl, fun r hr => ?_⟩
        have e : repL (Int.toNat 0) l = [] := rfl
        rw [e] at q3
        exact kk _ _ ((ResV.tup st2 hr .nil).fin (f1.trans f2) q3)
  · exact q.elim
section
variable {Q : AV → Prop} {E : XD → Prop} {s : Option SL} {es env : En} {ta tb : TEd} {l : List PyData}
def rtpQ (tb : TEd) (env : En) (Q : AV → Prop) (E : XD → Prop) (x : AV) : Prop := match x with
  | .dat (.tuple l) => tb env (fun y => intV y fun n => (0 ≤ n ∧ n ≤ 1000 ∧ l ≠ [] ∧ l.length ≤ 1000) ∧ Q (.dat (.tuple (repL n.toNat l)))) E
  | _ => False
theorem w_repT : eRepT ta tb (s :: es) Q E = ta (s :: es) (fun x => rtpQ tb (s :: es) Q E x) E := rfl
theorem w_rtp : rtpQ tb env Q E (.dat (.tuple l)) = tb env (fun y => intV y fun n => (0 ≤ n ∧ n ≤ 1000 ∧ l ≠ [] ∧ l.length ≤ 1000) ∧ Q (.dat (.tuple (repL n.toNat l)))) E := rfl
end
end TL
namespace TL
open PySem PySem.Spec PyProof.Rows L2 LamX NdefX
/-! ### max(i, j, k) -/
def fMax3 : OpN
  | [.dat (.int i), .dat (.int j), .dat (.int k)] => some (.dat (.int (max (max i j) k)))
  | _ => none
theorem nu3 (i j k : Int) : nuMax3 (.int i) (.int j) (.int k) = some (.int (max (max i j) k)) := by
  have e2 : ∀ a b : Int, nuMax2 (.int a) (.int b) = some (.int (max a b)) := fun a b => by
    show some (if decide (a < b) = true then V.int b else V.int a) = _
    by_cases h : a < b
    · rw [if_pos (decide_eq_true h), show max a b = b by omega]
    · rw [if_neg (by rw [decide_eq_false h]; decide), show max a b = a by omega]
  unfold nuMax3
  rw [e2, Option.bind_some, e2]
theorem c_max3 {C : CC} {X : Cx} (hc : X.calm = true) : CallR X (.builtin "max") (rDN C fMax3) := by
  intro pins s σ H xs us Q I r h
  obtain ⟨g, as, a, st, ra, e, k⟩ := h
  unfold fMax3 at e
  split at e
  · rename_i i j l
    cases e
    cases ra with
    | cons r1 r2 =>
      cases r2 with
      | cons r2 r3 =>
        cases r3 with
        | cons r3 r4 =>
          cases r4
          have e1 := RepV.isInt st.1 r1
          have e2 := RepV.isInt st.1 r2
          have e3 := RepV.isInt st.1 r3
          subst e1 e2 e3
          exact call_max3Nu hc pins s σ H _ us Q I r ⟨_, _, _, _, rfl, nu3 i j l, k _ _ (.flat st (.int _))⟩
  · cases e
theorem FX.max3 {C : CC} {N : List Str} {sc : Scope} {k : Nat} {X : Cx} {B : Base} {a : Expr} {es : List Expr} {t : TAd} {p pos : Pos} (F : FX C N sc k X) (g : NG X "max") (m : C.mg "max" = none) (ha : DA C B X (a :: es) t) (hs0 : isStar a = false) (hs : es.any isStar = false) : DE C B X (.Call (.Name "max" p) (a :: es) [] pos) (eCB fMax3 t) := de_callB (c_max3 F.xo.calm) g.g (F.mg m) (by decide +kernel) ha (by decide) (by decide) hs hs0
theorem w_max3 {Q : AV → Prop} {i j k : Int} : cbQ fMax3 Q [.dat (.int i), .dat (.int j), .dat (.int k)] = Q (.dat (.int (max (max i j) k))) := rfl
/-- four stored, the third a new list -/
theorem w_p4n3 {N : En → Prop} {env : En} {i j k l : Nat} {ds : List PyData} {x y u : PyData} : p4Q N env i j k l (.dat x) (.dat y) (.new ds) (.dat u) = N ((((env.set i (some (.av (.dat x)))).set j (some (.av (.dat y)))).set k (some (.own ds))).set l (some (.av (.dat u)))) := rfl
end TL
namespace TL
open PySem PySem.Spec PyProof.Rows L2 LamX NdefX
/-! ### l.index(x), any data -/
def ixDV (l : List PyData) (b : AV) (Q : AV → Prop) : Prop := ∃ (y : PyData) (j : Nat) (z : PyData), b.rd = some y ∧ SeqAt.shaped (.list l) = true ∧ SeqAt.shaped y = true ∧ l[j]? = some z ∧ PyData.eqv z y = true ∧ (∀ (m : Nat) (z' : PyData), m < j → l[m]? = some z' → PyData.eqv z' y = false) ∧ Q (.dat (.int ((j : Nat) : Int)))
def eIxD (tx te : TEd) : TEd := fun env Q E => tx env (fun a => lstA a fun l => te env (fun b => ixDV l b Q) E) E
theorem de_ixD {C : CC} {B : Base} {X : Cx} {o e : Expr} {tx te : TEd} {pa pc : Pos} (hK : X.K = C.K) (hu : X.A.units + 65 < cLine) (ho : DE C B X o tx) (he : DE C B X e te) (hs : isStar e = false) (h2 : (pa.endLine == pc.line) = true)
    (hbase : attributeBase o "index" X.env (eval o X.env) = eval o X.env) :
    DE C B X (.Call (.Attribute o "index" pa) [e] [] pc) (eIxD tx te) := by
  have base : PE X (.Call (.Attribute o "index" pa) [e] [] pc) (tBM X.K "list" (rIndexD X.K) (tD C B tx) (tCons (tD C B te) tNil)) :=
    pe_bm PySem.F.plainAttrs_list PySem.F.slot_list_index PySem.F.type_list_index (mt_indexD hu) ho (pa_cons he pa_nil (star_cons _ _ _ hs)) hbase (few_one e hs) h2 (star_cons _ _ _ hs) rfl
  refine peW base fun σ H Q h => ?_
  obtain ⟨g, env, Qd, st, eo, h, k⟩ := h
  refine ⟨g, env, _, st, eo, h, fun v H1 ⟨a, g1, q, f1, st1, r1, n1⟩ => ?_⟩
  unfold lstA at q
  try dsimp only at q
  split at q
  · rename_i l el
    obtain ⟨p, vs, rfl, h1, hv⟩ := (r1.b st1 el).lst_inv
    refine ⟨.inl ⟨rfl, vs, by rw [hK]; exact h1⟩, ?_⟩
    refine ⟨g1, env, _, st1, eo.fr f1, q, fun w H2 ⟨b, g2, q2, f2, st2, r2, n2⟩ => ?_⟩
    obtain ⟨y, j, z, ey, sl, sy, hz, hzj, hno, q2⟩ := q2
    have d1 := dp_of st2.1 _ ((r1.fr f2).b st2 el)
    have d2 := dp_of st2.1 _ (r2.b st2 ey)
    exact ⟨p, w, y, l, j, z, rfl, rfl, by rw [hK]; exact d1, by rw [hK]; exact d2, sl, sy, hz, hzj, hno, k _ _ ⟨_, g2, q2, f1.trans f2, st2, .int _, fun _ z => by cases z⟩⟩
  · exact q.elim
theorem FX.hu65 {C : CC} {N : List Str} {sc : Scope} {k : Nat} {X : Cx} (F : FX C N sc k X) : X.A.units + 65 < cLine := by have := F.room.un; omega
section
variable {Q : AV → Prop} {E : XD → Prop} {s : Option SL} {es : En} {tx te : TEd} {l : List PyData}
theorem w_ixDr : eIxD tx te (s :: es) Q E = tx (s :: es) (fun a => lstA a fun l => te (s :: es) (fun b => ixDV l b Q) E) E := rfl
/-- any place at which it stands -/
theorem ixD_of {n : Nat} {b : AV} {y : PyData} (hb : b.rd = some y) (hl : ∀ x ∈ l, pd n x) (hy : pd n y) (hm : y ∈ l) (q : ∀ j : Nat, l[j]? = some y → Q (.dat (.int (j : Int)))) (hn : n + 1 ≤ 64 := by decide) : ixDV l b Q := by
  have fst : ∀ l : List PyData, y ∈ l → ∃ j, l[j]? = some y ∧ ∀ (m : Nat) (z : PyData), m < j → l[m]? = some z → z ≠ y := by
    intro l
    induction l with
    | nil => exact fun h => by cases h
    | cons x l ih =>
      intro h
      by_cases c : x = y
      · exact ⟨0, by rw [c]; rfl, fun m z hm => by cases hm⟩
      · obtain ⟨j, a, b⟩ := ih (by rcases List.mem_cons.mp h with rfl | h; exact absurd rfl c; exact h)
        refine ⟨j + 1, a, fun m z hm hz => ?_⟩
        cases m with
        | zero => cases hz; exact c
        | succ m => exact b m z (by omega) hz
  obtain ⟨j, h1, h2⟩ := fst l hm
  refine ⟨y, j, y, hb, pd_shaped (pd_lst hl) hn, pd_shaped hy (by omega), h1, (eqv_nb y y hy.2.2 hy.2.2).mpr rfl, fun m z hm hz => ?_, q j h1⟩
  have hz' := List.mem_of_getElem? hz
  have := mt (eqv_nb z y (hl z hz').2.2 hy.2.2).mp (h2 m z hm hz)
  simpa using this
end
end TL
namespace TL
open PySem PySem.Spec PyProof.Rows L2 LamX NdefX
/-! ### a, b = a list -/
def unlQ (N : En → Prop) (is : List Nat) (env : En) (a : AV) : Prop := match a.sd with
  | some (.list l) => tpQ N is env l
  | _ => False
def sUnl (is : List Nat) (te : TEd) : TSd := fun D env E => te env (fun a => unlQ D.nx is env a) E
section
variable {C : CC} {B : Base} {X : Cx} {N : List Str} {sc : Scope} {k : Nat}
theorem FX.tg_ul {is : List Nat} {kk : Nat} {es : List Expr} {pos : Pos} (F : FX C N sc k X) (h : PGs X es (gNames is)) (hn : (assignEach es X.env).length = is.length) (hst : (assignEach es X.env).findIdx? (·.1) = none) : PG X (.Tuple es kk pos) (gUnl C.K is.length (gNames is)) := by
  have z := pg_unl (X := X) (k := kk) (pos := pos) F.xo.calm h hn hst
  rw [F.xo.K] at z
  exact z
theorem ds_unl {is : List Nat} {tg e : Expr} {te : TEd} {pos : Pos} (he : DE C B X e te) (hg : PG X tg (gUnl C.K is.length (gNames is))) (hs : swapsWithSole [tg] e pos.line X.env = pure false) (hw : swappedStores [tg] e X.env = pure none)
    (h1 : (assignEach [tg] X.env).map (·.2) = [assign tg X.env]) : DS C B X (.Assign [tg] e pos) (sUnl is te) := by
  refine psW (ps_asg he hg hs hw h1) fun D σ H h => ?_
  obtain ⟨g, env, Dd, st, fb, eo, h, ends⟩ := h
  refine ⟨g, env, _, st, eo, h, fun v H1 ⟨a, g1, q, f1, st1, r1, n1⟩ => ?_⟩
  unfold unlQ at q
  try dsimp only at q
  split at q
  · rename_i l ed
    obtain ⟨g2, f2, st2, r2, m2⟩ := freeze st f1 st1 r1 n1 (sd_st ed)
    unfold tpQ at q
    split at q
    · rename_i env' e'
      obtain ⟨p, ev, now⟩ := lst_now (C := C) r2 (fun _ _ => True.intro)
      obtain ⟨vs, q1, q2⟩ := now g2 H1 (fun _ _ z => z) st2
      refine ⟨p, vs, ev, q1, by rw [Paired.len q2, setsE_len e'], ?_⟩
      exact gNames_ok (vs0 := is) (eo.fr f2) q2 e' (fun _ z => z) fun σ' eo' _ => ends.nx _ _ g2 H1 q ⟨f2.gm, st2, fb.trans f2⟩ eo'
    · exact q.elim
  · exact q.elim
theorem FX.unl {is : List Nat} {tg e : Expr} {te : TEd} {pos : Pos} (F : FX C N sc k X) (he : DE C B X e te) (hg : PG X tg (gUnl C.K is.length (gNames is))) (hs : swapsWithSole [tg] e pos.line X.env = pure false) (hw : swappedStores [tg] e X.env = pure none) (h1 : (assignEach [tg] X.env).map (·.2) = [assign tg X.env]) : DS C B X (.Assign [tg] e pos) (sUnl is te) := ds_unl he hg hs hw h1
end
section
variable {s : Option SL} {es env : En} {D : EndsD} {E : XD → Prop} {N : En → Prop} {is : List Nat} {te : TEd} {l : List PyData}
theorem w_unl : sUnl is te D (s :: es) E = te (s :: es) (fun a => unlQ D.nx is (s :: es) a) E := rfl
theorem w_unld : unlQ N is env (.dat (.list l)) = tpQ N is env l := rfl
theorem w_unln : unlQ N is env (.new l) = tpQ N is env l := rfl
end
end TL
namespace TL
open PySem PySem.Spec PyProof.Rows L2 LamX NdefX
/-! ### while -/
def whQ (b : Bool) (t : TSd) (D : EndsD) (N : En → Prop) (env : En) (E : XD → Prop) : Prop := if b = true then t { D with nx := N, ct := N, bk := D.nx } env E else D.nx env
def sWhile (tc : TTd) (tb : TSd) : TSd := fun D env E => ∃ P : Nat → En → Prop, (∃ m, P m env) ∧ ∀ (m : Nat) (env' : En), P m env' → tc env' (fun b => whQ b tb D (fun e => ∃ m', m' < m ∧ P m' e) env' E) E
section
variable {C : CC} {B : Base} {X : Cx} {N : List Str} {sc : Scope} {k : Nat}
theorem ds_while {c : Expr} {body : List Stmt} {pos : Pos} {tc : TTd} {tb : TSd} (hp : PassesOwn (model X.prog X.w) X.A X.env X.xe) (hc : DT C B X c tc) (hb : DSs C B X body tb) : DS C B X (.While c body [] pos) (sWhile tc tb) := by
  refine psW (ps_while hp hc hb) fun D σ H h => ?_
  obtain ⟨g, env, Dd, st, fb, eo, ⟨P, ⟨m0, p0⟩, turn⟩, ends⟩ := h
  refine ⟨fun m σ' H' => ∃ g' env', SOk C B g g' H' ∧ EnvOk C B g' H' σ' env' ∧ P m env', ⟨m0, g, env, ⟨.refl, st, fb⟩, eo, p0⟩, ?_⟩
  rintro m σ' H' ⟨g1, env1, s1, eo1, p1⟩
  refine ⟨g1, env1, _, s1.st, eo1, turn m env1 p1, fun b g2 H2 q f2 st2 => ?_⟩
  have l2 : gle g g2 := s1.le.trans f2.gm
  have fb2 := s1.fb.trans f2
  unfold whQ at q
  cases b with
  | true =>
    refine iteT ⟨fun σ3 H3 => ∃ m', m' < m ∧ ∃ g3 env3, SOk C B g g3 H3 ∧ EnvOk C B g3 H3 σ3 env3 ∧ P m' env3, fun σ3 H3 ⟨m', hm, z⟩ => ⟨m', hm, z⟩, ?_⟩
    refine ⟨g2, env1, _, st2, fb2, eo1.fr f2, q, ⟨fun env σ g3 H3 a b c => ?_, fun env σ g3 H3 a b c => ends.nx env σ g3 H3 a ⟨l2.trans b.le, b.st, b.fb⟩ c, fun env σ g3 H3 a b c => ?_, fun x v g3 H3 a b c => ends.rt x v g3 H3 a ⟨l2.trans b.le, b.st, b.fb⟩ c⟩⟩
    · obtain ⟨m', hm, p'⟩ := a
      exact ⟨m', hm, g3, env, ⟨l2.trans b.le, b.st, b.fb⟩, c, p'⟩
    · obtain ⟨m', hm, p'⟩ := a
      exact ⟨m', hm, g3, env, ⟨l2.trans b.le, b.st, b.fb⟩, c, p'⟩
  | false =>
    exact iteF (ends.nx _ _ g2 H2 q ⟨l2, st2, fb2⟩ (eo1.fr f2))
theorem BX.while_ {q : Str} {c : Expr} {body : List Stmt} {pos : Pos} {tc : TTd} {tb : TSd} (F : BX C N q sc k X) (hc : DT C B X c tc) (hb : DSs C B X body tb) : DS C B X (.While c body [] pos) (sWhile tc tb) := ds_while F.pas hc hb
end
section
variable {s : Option SL} {es env : En} {D : EndsD} {E : XD → Prop} {N : En → Prop} {tc : TTd} {tb : TSd}
theorem w_wh1 : whQ true tb D N env E = tb { D with nx := N, ct := N, bk := D.nx } env E := rfl
theorem w_wh0 : whQ false tb D N env E = D.nx env := rfl
/-- a while loop, by an invariant and a measure -/
theorem while_go {P : Nat → En → Prop} (m : Nat) (h0 : P m env) (h : ∀ (m : Nat) (env' : En), P m env' → tc env' (fun b => whQ b tb D (fun e => ∃ m', m' < m ∧ P m' e) env' E) E) : sWhile tc tb D env E := ⟨P, ⟨m, h0⟩, h⟩
theorem wh_dec {p : Prop} [Decidable p] (h1 : p → tb { D with nx := N, ct := N, bk := D.nx } env E) (h2 : ¬ p → D.nx env) : whQ (decide p) tb D N env E := by
  unfold whQ
  by_cases h : p
  · rw [if_pos (decide_eq_true h)]; exact h1 h
  · rw [if_neg (by simpa using h)]; exact h2 h
theorem wh_bool {v : Bool} (h1 : v = true → tb { D with nx := N, ct := N, bk := D.nx } env E) (h2 : v = false → D.nx env) : whQ v tb D N env E := by
  cases v
  · exact h2 rfl
  · exact h1 rfl
end
end TL
set_option maxHeartbeats 1000000
namespace TL
open PySem PySem.Spec PyProof.Rows L2 LamX NdefX PySem.W
/-! ### sorted(xs, key = f) -/
section
variable {pr : Program} {wd : World} {A : Around} {E : Value → Shared → Prop} {s : Shared} {l0 kS : Addr} {f : Value} {b : Bool} {e1 : Nat} {vs : List Value} {P : PySem.Fin → Shared → Prop}
/-- the keys are asked one by one: G tells the run behind each -/
theorem key_loop (G : Nat → List Value → Shared → Prop) (h0 : G 0 [] s) (nk0 : s.heap.get? kS = some (seqObj "list" #[] 0)) (na0 : s.heap.get? l0 = some (seqObj "list" #[] e1)) (hne : kS ≠ l0) (hZ : vs.length ≤ sizeLine)
    (turn : ∀ (i : Nat) (v : Value) (ks : List Value) (t : Shared) (n : Nat), vs[i]? = some v → ks.length = i → G i ks t → t.heap.get? kS = some (seqObj "list" ks.toArray n) → t.heap.get? l0 = some (seqObj "list" #[] e1) →
      wpAny (model pr wd) A (call f [v]) (fun u t' => t'.heap.get? kS = some (seqObj "list" ks.toArray n) ∧ t'.heap.get? l0 = some (seqObj "list" #[] e1) ∧ G (i + 1) (ks ++ [u]) { t' with heap := t'.heap.update kS (Obj.mapSeq (·.push u)) }) (fun _ _ => False) t)
    (fin : ∀ (ks : List Value) (t : Shared) (n : Nat), ks.length = vs.length → G vs.length ks t → t.heap.get? kS = some (seqObj "list" ks.toArray n) → t.heap.get? l0 = some (seqObj "list" #[] e1) → wpAny (model pr wd) A (ksk_end l0 b vs.toArray e1 (.ref kS) ks.toArray) P E t) :
    wpAny (model pr wd) A (ksk_rest l0 f b vs.toArray e1 (.ref kS)) P E s := by
  unfold ksk_rest
  refine wpAny_bind (wpAny_rule ?_)
  first | rw [List.forIn_toArray] | (rw [← Array.forIn_toList]; simp only [List.toList_toArray]) | rw [← Array.forIn_toList]
  refine wpAny_bind (ksk_fold (fun i t => ∃ (ks : List Value) (n : Nat), ks.length = i ∧ G i ks t ∧ t.heap.get? kS = some (seqObj "list" ks.toArray n) ∧ t.heap.get? l0 = some (seqObj "list" #[] e1)) vs 0 s ⟨[], 0, rfl, h0, nk0, na0⟩ (fun j x t hx hI => ?_) fun t hI => ?_)
  · obtain ⟨ks, n, hl, hG, k1, k2⟩ := hI
    simp only [Nat.zero_add] at hl hG ⊢
    have hj : j < vs.length := (List.getElem?_eq_some_iff.mp hx).1
    refine wpAny_bind (wpAny_attempt (wpAny_mono (turn j x ks t n hx hl hG k1 k2) (fun u t' q => ?_) fun _ _ z => z.elim))
    obtain ⟨q1, q2, q3⟩ := q
    try dsimp only
    have sb := Heap.SameBut.update t'.heap kS (Obj.mapSeq (·.push u))
    have ea : ks.toArray.push u = (ks ++ [u]).toArray := by simp
    have szk : ks.toArray.size ≤ sizeLine := by rw [List.size_toArray, hl]; exact Nat.le_trans (Nat.le_of_lt hj) hZ
    refine wpAny_bind (listUpdate_at q1 rfl ?_ szk (Nat.le_trans (Nat.le_of_eq (Array.size_push ..)) (Nat.succ_le_succ szk)))
    refine wpAny_pure ⟨rfl, ks ++ [u], _, by simp [hl], q3, by rw [← ea]; exact get?_update_seq q1 (·.push u), (sb.2 l0 hne.symm).trans q2⟩
  · obtain ⟨ks, n, hl, hG, k1, k2⟩ := hI
    rw [Nat.zero_add] at hl hG
    try dsimp only
    refine wpAny_bind (listItems_at k1 rfl ?_)
    exact fin ks t n hl hG k1 k2
/-- .. and the list in which it all is laid -/
theorem key_list {n : Nat} (G : Nat → List Value → Shared → Prop) (ho : s.heap.get? l0 = some (seqObj "list" vs.toArray n)) (hZ : vs.length ≤ sizeLine)
    (h0 : ∀ (h : Heap) (k0 : Addr) (e1 : Nat), k0 = s.heap.objs.size + 1 → (∀ c o, c ≠ l0 → s.heap.get? c = some o → h.get? c = some o) → h.get? k0 = some (seqObj "list" #[] 0) → h.get? l0 = some (seqObj "list" #[] e1) → G 0 [] { s with heap := h })
    (turn : ∀ (e1 i : Nat) (v : Value) (ks : List Value) (t : Shared) (n : Nat), vs[i]? = some v → ks.length = i → G i ks t → t.heap.get? (s.heap.objs.size + 1) = some (seqObj "list" ks.toArray n) → t.heap.get? l0 = some (seqObj "list" #[] e1) →
      wpAny (model pr wd) A (call f [v]) (fun u t' => t'.heap.get? (s.heap.objs.size + 1) = some (seqObj "list" ks.toArray n) ∧ t'.heap.get? l0 = some (seqObj "list" #[] e1) ∧ G (i + 1) (ks ++ [u]) { t' with heap := t'.heap.update (s.heap.objs.size + 1) (Obj.mapSeq (·.push u)) }) (fun _ _ => False) t)
    (fin : ∀ (e1 : Nat) (ks : List Value) (t : Shared) (n : Nat), ks.length = vs.length → G vs.length ks t → t.heap.get? (s.heap.objs.size + 1) = some (seqObj "list" ks.toArray n) → t.heap.get? l0 = some (seqObj "list" #[] e1) → s.heap.objs.size + 1 ≠ l0 → wpAny (model pr wd) A (ksk_end l0 b vs.toArray e1 (.ref (s.heap.objs.size + 1)) ks.toArray) P E t) :
    wpAny (model pr wd) A (ksk_tree l0 f b) P E s := by
  have hlt : l0 < s.heap.objs.size := Heap.lt_size ho
  obtain ⟨e1, ho1⟩ : ∃ e1, (s.heap.update l0 (Obj.mapSeq fun _ => (#[] : Array Value))).get? l0 = some (seqObj "list" #[] e1) := ⟨_, get?_update_seq ho fun _ => #[]⟩
  have hks : ((s.heap.update l0 (Obj.mapSeq fun _ => (#[] : Array Value))).push (seqObj "tuple" vs.toArray 0)).objs.size = s.heap.objs.size + 1 := by rw [size_push', Heap.size_update]
  unfold ksk_tree
  refine wpAny_bind (listItems_at ho rfl ?_)
  refine wpAny_bind (listUpdate_at ho rfl ?_ (by rw [List.size_toArray]; exact hZ) (Nat.zero_le _))
  refine wpAny_bind (seqEpoch_at ho1 rfl ?_)
  refine wpAny_bind (wpAny_newTuple ?_ (by show vs.length ≤ _; exact hZ))
  refine wpAny_bind (wpAny_newList ?_ (Nat.zero_le _))
  refine wpAny_holding ?_
  have hk0 : (sortingHeap s.heap l0 vs).get? (s.heap.objs.size + 1) = some (seqObj "list" #[] 0) := by
    rw [← hks]
    exact Heap.get?_push_size _ rfl
  have ha0 : (sortingHeap s.heap l0 vs).get? l0 = some (seqObj "list" #[] e1) := Heap.get?_push_of_some _ (Heap.get?_push_of_some _ ho1)
  have hne : s.heap.objs.size + 1 ≠ l0 := Nat.ne_of_gt (Nat.lt_succ_of_lt hlt)
  have go := key_loop (pr := pr) (wd := wd) (A := A) (E := E) (s := { s with heap := sortingHeap s.heap l0 vs }) (P := P) (b := b) (f := f) (vs := vs) (kS := s.heap.objs.size + 1) (l0 := l0) (e1 := e1) G (h0 _ _ e1 rfl (fun c o hc q => sortingHeap_old hc q) hk0 ha0) hk0 ha0 hne hZ (turn e1)
    (fun ks t n x1 x2 x3 x4 => fin e1 ks t n x1 x2 x3 x4 hne)
  have ek : ((s.heap.update l0 (Obj.mapSeq fun _ => (#[] : Array Value))).push (seqObj "tuple" vs.toArray 0)).objs.size = s.heap.objs.size + 1 := hks
  show wpAny (model pr wd) A (ksk_rest l0 f b vs.toArray e1 (.ref ((s.heap.update l0 (Obj.mapSeq fun _ => (#[] : Array Value))).push (seqObj "tuple" vs.toArray 0)).objs.size)) P E _
  rw [ek]
  exact go
end
end TL
set_option maxHeartbeats 1000000
namespace TL
open PySem PySem.Spec PyProof.Rows L2 LamX NdefX PySem.W
/-- a function that is asked for keys: told of one argument -/
structure KeyFn (C : CC) (g : Gh) (H : Hp) (k : Nat) (fv : Value) (b : Beh) : Prop where
  ex : ∃ L : List (Addr × HO), (∀ p ∈ L, H p.1 = some p.2 ∧ g p.1 = none ∧ (∀ ps, p.2 ≠ .tbl ps) ∧ ∀ xs, p.2 ≠ .lst xs) ∧
    ∀ (A : Around) (outer : List Env) (s : Shared) (H1 : Hp) (g1 : Gh) (u : Value) (v : V) (d : PyData) (Qd : PyData → Prop), Room k A → A.guards = some [] → Env0 C.P C.w C.K C.mg C.base A outer s H1 → (∀ p ∈ L, H1 p.1 = some p.2) →
      (∀ a u, g a = some u → g1 a = some u) → StOk C g1 H1 → RelV v u → RepV C.K g1 v d → b [d] Qd →
      codeAny (model C.P C.w) A (.call fv ⟨[u], []⟩) (CR CX0 outer C.P C.w H1 s (fun v H' => ∃ d g', Qd d ∧ Gr g1 H1 g' H' ∧ StOk C g' H' ∧ RepV C.K g' v d) E0) s
theorem eachIs_of {α β γ : Type} {R : α → γ → Prop} {F : β → γ → Prop} {S : β → α → Prop} : ∀ {us : List α} {vs : List β} {ds : List γ}, Paired S vs us → Paired F vs ds → (∀ u v d, S v u → F v d → R u d) → EachIs R us ds
  | _, _, _, .nil, .nil, _ => .nil
  | _, _, _, .cons a r, .cons b t, h => .cons (h _ _ _ a b) (eachIs_of r t h)
theorem eachIs_zip {α β γ : Type} {R : α → β × γ → Prop} {F : β → γ → Prop} {S : β → α → Prop} : ∀ {us : List α} {vs : List β} {ds : List γ}, Paired S vs us → Paired F vs ds → (∀ u v d, S v u → F v d → R u (v, d)) → EachIs R us (vs.zip ds)
  | _, _, _, .nil, .nil, _ => .nil
  | _, _, _, .cons a r, .cons b t, h => .cons (h _ _ _ a b) (eachIs_zip r t h)
theorem paired_of_each {α β γ : Type} {R : α → β × γ → Prop} {F : β → γ → Prop} {S : β → α → Prop} (h : ∀ u p, R u p → S p.1 u ∧ F p.1 p.2) : ∀ {us : List α} {ps : List (β × γ)}, EachIs R us ps → Paired S (ps.map (·.1)) us ∧ Paired F (ps.map (·.1)) (ps.map (·.2))
  | _, _, .nil => ⟨.nil, .nil⟩
  | _, _, .cons a r => by
    obtain ⟨x, y⟩ := paired_of_each h r
    obtain ⟨z, w⟩ := h _ _ a
    exact ⟨.cons z x, .cons w y⟩
theorem zip_fst {β γ : Type} {F : β → γ → Prop} : ∀ {vs : List β} {ds : List γ}, Paired F vs ds → (vs.zip ds).map (·.1) = vs ∧ (vs.zip ds).map (·.2) = ds
  | _, _, .nil => ⟨rfl, rfl⟩
  | _, _, .cons _ t => by
    obtain ⟨a, b⟩ := zip_fst t
    exact ⟨congrArg (_ :: ·) a, congrArg (_ :: ·) b⟩
section
variable {C : CC} {X : Cx} {pins : List (Addr × Obj)} {σ : L2.St} {H : Hp} {s : Shared} {g : Gh}
/-- an untracked record of ours becomes a list that is told -/
theorem inv_adopt {h' : Heap} {t' : Nat} {k0 l0 : Addr} {xs : List V} {us : List Value} {n : Nat} (I : L2.Inv X pins σ H s) (f1 : FpOk X pins H k0) (f2 : FpOk X pins H l0) (hk : ∀ c o, c ≠ k0 → c ≠ l0 → s.heap.get? c = some o → h'.get? c = some o)
    (hl : xs.length ≤ sizeLine) (rv : Vals xs us) (hn : h'.get? l0 = some (seqObj "list" us.toArray n)) : L2.Inv X pins σ (upd H l0 (.lst xs)) { s with heap := h', toks := t' } := by
  have nin : ∀ c u, H c = some u → c ≠ k0 ∧ c ≠ l0 := fun c u e => ⟨fun z => (by rw [z, f1.1] at e; cases e), fun z => (by rw [z, f2.1] at e; cases e)⟩
  have ne2 : ∀ c, c ∉ [k0, l0] → c ≠ k0 ∧ c ≠ l0 := fun c hc => ⟨fun z => hc (by simp [z]), fun z => hc (by simp [z])⟩
  refine I.step (g' := s.gens) (d' := s.drawn) (ch := [k0, l0]) (fun c hc => ?_) (fun c o _ _ hc e _ => hk c o (ne2 c hc).1 (ne2 c hc).2 e) (fun c o _ _ hc e _ => ⟨o.slots, hk c o (ne2 c hc).1 (ne2 c hc).2 e⟩)
    (fun c o hc e n => by rw [upd_ne (ne2 c hc).2]; exact n) (fun c o hc e => ⟨o, hk c o (ne2 c hc).1 (ne2 c hc).2 e⟩) (fun c xs e => by rw [upd_ne (nin c _ e).2]; exact e) (fun c o u e => by rw [upd_ne (nin c _ e).2]; exact e)
    (fun c ps e => ⟨#[], by rw [upd_ne (nin c _ e).2, e]; simp⟩) (fun m hm => ?_) (fun c u e => ?_) I.bare
  · have hc : c = k0 ∨ c = l0 := by simpa using hc
    rcases hc with z | z
    · rw [z]; exact ⟨f1.2.2.2.1, f1.2.1, f1.2.2.2.2.1, f1.2.2.2.2.2⟩
    · rw [z]; exact ⟨f2.2.2.2.1, f2.2.1, f2.2.2.2.2.1, f2.2.2.2.2.2⟩
  · obtain ⟨o, es, ep, ho, r⟩ := hm
    exact ⟨o, es, ep, hk _ o (Ne.symm f1.2.1) (Ne.symm f2.2.1) ho, r⟩
  · by_cases hc : c = l0
    · subst hc
      rw [upd_same] at e
      cases e
      exact ⟨hl, us, n, rv, hn⟩
    · rw [upd_ne hc] at e
      refine (I.hok c u e).stay (fun x v hx q => hk x v ?_ ?_ q) (fun x q => ?_) fun x xs q => ?_
      · rcases hx with z | z
        · rw [z]; exact (nin c u e).1
        · exact (nin x _ z).1
      · rcases hx with z | z
        · rw [z]; exact (nin c u e).2
        · exact (nin x _ z).2
      · rw [upd_ne (nin x _ q).2]; exact q
      · rw [upd_ne (nin x _ q).2]; exact q
theorem sort_key_run {k : Nat} {q : Addr} {bh : Beh} {l : Addr} {vs : List V} {ds : List PyData} (kf : PyData → PyData) (hP : X.prog = C.P) (hw : X.w = C.w) (hK : X.K = C.K) (hmg : X.mg = C.mg) (hbs : X.base = C.base) (hgd : X.A.guards = some []) (hr : Room (k + 1) X.A) (F : KeyFn C g H k (.ref q) bh)
    (I : L2.Inv X pins σ H s) (st : StOk C g H) (hl : SqL X.K H l vs) (rp : RepVs C.K g vs ds) (hb : ∀ d ∈ ds, bh [d] (fun y => y = kf d)) (hal : AllAlike (ds.map kf)) (hso : Sortable (ds.map kf)) (hdp : ∀ d ∈ ds, (kf d).depth ≤ 64) :
    wpAny (model X.prog X.w) X.A (call (.builtin "sorted") [.ref l] [(Str.ofString "key", .ref q)]) (EP X pins σ (fun v H' => ∃ (g' : Gh) (p : Addr), v = .ref p ∧ H p = none ∧ Gr g H g' H' ∧ StOk C g' H' ∧ OwnL C.K g' H' v (ds.mergeSort (dataLe false kf)))) X.xe s := by
  obtain ⟨its, rv, pl, hz⟩ := I.list hl
  have hil : s.heap.IsList l its.toArray := by
    obtain ⟨o, m, e, c, d, qq⟩ := pl
    exact ⟨o, e, c, m, qq⟩
  have lv := rv.length
  have ld := Paired.len rp
  have hL : its.length ≤ sizeLine := by rw [← lv]; exact hz
  obtain ⟨L, lk1, lk2⟩ := F.ex
  refine sorted_of_sort hil hL (ksk_s1 _ _) (fun x => ?_) fun E' => ?_
  · unfold argsOk; kernel_rfl
  have e0 := copyHeap_at s.heap its
  generalize hl0 : s.heap.objs.size + 1 = l0 at *
  have hl0s : s.heap.objs.size ≤ l0 := by omega
  rw [ksk_t1]
  have I0 : L2.Inv X pins σ H { s with heap := copyHeap s.heap its } := I.kept (t' := s.toks) fun c o e => copyHeap_old e
  have n0 : H l0 = none := I.hok.fresh hl0s
  have fp0 : FpOk X pins H l0 := I.fpOk hl0s n0
  have hg' : X.A.in1.in1.guards = some [] := hgd
  have hr' : Room k X.A.in1.in1 := ⟨hr.hd, by have := hr.dp; show X.A.depth + 3 * k + 5 < _; omega, by have := hr.un; show X.A.units + 1 + 1 + 16 * k + 200 < _; omega⟩
  have sz1 : s.heap.objs.size + 2 ≤ (copyHeap s.heap its).objs.size := by
    unfold copyHeap
    rw [size_push', Heap.size_update, size_push']
    exact Nat.le_refl _
  let G : Nat → List Value → Shared → Prop := fun i ks t => ∃ (Hi : Hp) (gi : Gh) (kv : List V), L2.Inv X pins σ Hi t ∧ Gr g H gi Hi ∧ StOk C gi Hi ∧ FpOk X pins Hi l0 ∧ FpOk X pins Hi ((copyHeap s.heap its).objs.size + 1) ∧ Vals kv ks ∧ RepVs C.K gi kv ((ds.take i).map kf)
  refine key_list (s := { s with heap := copyHeap s.heap its }) (n := 0) G e0 hL ?h0 ?turn ?fin
  case h0 =>
    intro h k0 e1 hk0 hkeep h1 h2
    have J : L2.Inv X pins σ H { s with heap := h } := I.kept (t' := s.toks) fun c o (e : s.heap.get? c = some o) => hkeep c o (fun z => absurd (Heap.lt_size e) (by rw [z, ← hl0]; exact Nat.not_lt.mpr (Nat.le_succ _))) (copyHeap_old e)
    exact ⟨H, g, [], J, .refl, st, fp0, I0.fpOk (Nat.le_succ _) (I0.hok.fresh (Nat.le_succ _)), .nil, by rw [List.take_zero]; exact .nil⟩
  case turn =>
    intro e1 i v ks t n hv hlen hG h1 h2
    obtain ⟨Hi, gi, kv, J, gr, sti, f1, f2, rk, rkd⟩ := hG
    have hii : i < its.length := (List.getElem?_eq_some_iff.mp hv).1
    have hx : vs[i]? = some (vs[i]'(by omega)) := List.getElem?_eq_getElem (by omega)
    have hd : ds[i]? = some (ds[i]'(by omega)) := List.getElem?_eq_getElem (by omega)
    generalize vs[i]'(by omega) = x at hx
    generalize hdi : ds[i]'(by omega) = d at hd
    obtain ⟨v', hv', rx⟩ := rv.get hx
    rw [hv] at hv'
    cases hv'
    obtain ⟨d', hd', rd⟩ := RepVs.getL rp hx
    rw [hd] at hd'
    cases hd'
    have dm : d ∈ ds := List.mem_of_getElem? hd
    generalize hkS : (copyHeap s.heap its).objs.size + 1 = kS at *
    have fpall : ∀ c ∈ [kS, l0], FpOk X pins Hi c := fun c hc => by
      have hc : c = kS ∨ c = l0 := by simpa using hc
      rcases hc with z | z
      · rw [z]; exact f2
      · rw [z]; exact f1
    have J2 := J.pinned (fp := [kS, l0]) fpall fun c hc => by
      have hc : c = kS ∨ c = l0 := by simpa using hc
      rcases hc with z | z
      · rw [z]; exact ⟨_, h1, fun v e => by cases e⟩
      · rw [z]; exact ⟨_, h2, fun v e => by cases e⟩
    have ev := J2.env0
    have ev2 : Env0 X.prog X.w X.K X.mg X.base X.A.in1.in1 X.stack t Hi := ⟨ev.frames, ev.mod, ev.bs, ev.bsz, ev.funs, ev.frf, ev.hok, ev.bare⟩
    rw [hP, hw, hK, hmg, hbs] at ev2
    have cc := lk2 X.A.in1.in1 X.stack t Hi gi v x d (fun y => y = kf d) hr' hg' ev2 (fun p hp => by
      obtain ⟨a1, a2, a3, a4⟩ := lk1 p hp
      exact gr.hm _ _ a1 (by rw [a2]; exact fun z => by cases z) a3) gr.gm sti rx (rd.mono gr.gm) (hb d dm)
    rw [← hP, ← hw] at cc
    refine wpAny_call (codeAny_mono cc fun r t' hq => ?_)
    cases r with
    | error e => exact hq.elim
    | ok fl =>
      cases fl with
      | ret u =>
        obtain ⟨y, H2, K2, ry, d2, g2, ed, gr2, st2, r2⟩ := J2.after hq
        subst ed
        have p1 := K2.pin (kS, _) (List.mem_append_right _ (List.mem_append_right _ (mem_pinsAt (by simp) h1)))
        have p2 := K2.pin (l0, _) (List.mem_append_right _ (List.mem_append_right _ (mem_pinsAt (by simp) h2)))
        have K3 := K2.unpinned
        have f1' : FpOk X pins H2 l0 := ⟨p2.2.1, f1.2⟩
        have f2' : FpOk X pins H2 kS := ⟨p1.2.1, f2.2⟩
        refine ⟨p1.1, p2.1, H2, g2, kv ++ [y], ?_, gr.trans gr2, st2, f1', by rw [hkS]; exact f2', rk.append (.cons ry .nil), ?_⟩
        · exact K3.turnedL (t' := t'.toks) (ch := [kS]) (fun c o hc e => (Heap.SameBut.update t'.heap kS (Obj.mapSeq (·.push u))).2 c (by simpa using hc) ▸ e) fun c hc => by rw [List.mem_singleton.mp hc]; exact f2'
        · rw [List.take_succ_eq_append_getElem (by omega), hdi, List.map_append]
          exact RepVs.append (RepVs.mono gr2.gm rkd) (.cons r2 .nil)
      | _ => exact False.elim hq
  case fin =>
    intro e1 ks t n hlen hG h1 h2 hne
    obtain ⟨Hi, gi, kv, J, gr, sti, f1, f2, rk, rkd⟩ := hG
    generalize hkS : (copyHeap s.heap its).objs.size + 1 = kS at *
    rw [List.take_of_length_le (by omega)] at rkd
    have eks : EachIs (fun v d => ∃ as, Reads t.heap v d as) ks (ds.map kf) := eachIs_of rk rkd fun u v d ru rd => Dp.reads J d v u (by rw [hK]; exact dp_of sti.1 d (rd.b sti.1)) ru
    obtain ⟨Gx, gx1, gx2⟩ := restrict t.heap fun c => decide (c ≠ kS)
    have kp : KeepsBut l0 Gx t.heap := fun c o hc e => by
      by_cases z : c = kS
      · rw [gx2 c (by simp [z])] at e; cases e
      · rw [gx1 c (by simp [z])] at e; exact e
    have hku : ∀ d ∈ ds.map kf, X.A.in1.in1.units + d.depth < cLine := fun d hd => by
      obtain ⟨d0, h0, rfl⟩ := List.mem_map.mp hd
      have a := hdp d0 h0
      have b := hr.un
      show X.A.units + 1 + 1 + _ < _
      omega
    refine keyH_end (κ := dataKind t.heap (ds.map kf)) (h₁ := Gx) kp (gx2 kS (by simp)) h1 h2 hne (SortsAt.data (s := t) eks hal hso hku) (by rw [List.size_toArray, hlen]) hL fun h' tk c hk3 hn3 => ⟨rfl, ?_⟩
    have ko : KeyedOut false (ds.map kf) its (sortVals (dataKind t.heap (ds.map kf)) false ks its) := ⟨t.heap, ks, hal, rfl, eks⟩
    have ezz := zip_fst rp
    have emap : (vs.zip ds).map (kf ∘ fun p : V × PyData => p.2) = ds.map kf := by rw [← List.map_map, ezz.2]
    have out := keyedOut_each (R := fun (u : Value) (p : V × PyData) => RelV p.1 u ∧ RepV C.K g p.1 p.2) (bs := vs.zip ds) (kf ∘ fun p : V × PyData => p.2) (by rw [emap]; exact ko) (eachIs_zip rv rp fun u v d ru rd => ⟨ru, rd⟩)
    obtain ⟨o1, o2⟩ := paired_of_each (S := RelV) (F := RepV C.K g) (fun u p h => h) out
    have es : ((vs.zip ds).mergeSort (dataLe false (kf ∘ fun p : V × PyData => p.2))).map (·.2) = ds.mergeSort (dataLe false kf) := by
      rw [List.map_mergeSort (r := dataLe false (kf ∘ fun p : V × PyData => p.2)) (s := dataLe false kf) (f := fun p : V × PyData => p.2) (fun a _ b _ => rfl), ezz.2]
    rw [es] at o2
    have ln : (((vs.zip ds).mergeSort (dataLe false (kf ∘ fun p : V × PyData => p.2))).map (·.1)).length ≤ sizeLine := by
      rw [List.length_map, List.length_mergeSort, List.length_zip, ← ld, Nat.min_self]
      exact hz
    have K := inv_adopt (t' := tk) J f2 f1 (fun c o hc1 hc2 e => hk3 c o hc2 (by rw [gx1 c (by simp [hc1])]; exact e)) ln o1 hn3
    have g0 : gi l0 = none := sti.1.none_of f1.1
    refine ⟨.ref l0, _, K, rfl, gi, l0, rfl, n0, ?_, sti.fresh f1.1, ⟨l0, _, rfl, g0, upd_same, RepVs.mono gr.gm o2⟩⟩
    exact gr.trans (Gr.fresh f1.1)
end
end TL
set_option maxHeartbeats 1000000
namespace TL
open PySem PySem.Spec PyProof.Rows L2 LamX NdefX
/-! ### sorted(e, key = a def), sorted(e, key = a lambda that captures nothing) -/
def srtQ (b : Beh) (a : AV) (Q : AV → Prop) : Prop := match a.rd with
  | some (.list l) => ∃ kf : PyData → PyData, (∀ d ∈ l, b [d] (fun y => y = kf d)) ∧ PySem.W.AllAlike (l.map kf) ∧ PySem.W.Sortable (l.map kf) ∧ (∀ d ∈ l, (kf d).depth ≤ 64) ∧ Q (.new (l.mergeSort (PySem.W.dataLe false kf)))
  | _ => False
def behD (sp : DSp) : Beh := fun ds Qd => sp (ds.map AV.dat) (fun a => ∃ d, a = .dat d ∧ Qd d) XF
def eSrtD (sp : DSp) (te : TEd) : TEd := fun env Q E => te env (fun a => srtQ (behD sp) a Q) E
def eSrtL (N : List Str) (n : Nat) (tb te : TEd) : TEd := fun env Q E => te env (fun a => srtQ (lamB N n tb []) a Q) E
section
variable {C : CC} {B : Base} {X : Cx} {e : Expr} {te : TEd} {p p2 pos kpos : Pos}
theorem keyFn_def {g : Gh} {H : Hp} {k : Nat} {f : Addr} {fd : FuncData} {ps : List Str} {sp : DSp} (F : FnG C k f fd ps sp) (hb : ∀ (s : Shared) (us : List Value), us.length = ps.length → BindsTo s fd ⟨us, []⟩ (ps.zip us)) : KeyFn C g H k (.ref f) (behD sp) := by
  refine ⟨[], fun p hp => (by cases hp), fun A outer s H1 g1 u v d Qd hr hg ev _ hm st rv rd hq => ?_⟩
  have hlen := F.len _ _ _ hq
  have c := F.run A outer s H1 g1 ⟨[u], []⟩ [u] [v] [.dat d] _ hr hg ev (hb s [u] hlen) (.cons rv .nil) st (.cons rd .nil) hq
  refine codeAny_mono c fun r s' h => ?_
  cases r with
  | error e => exact h
  | ok fl =>
    cases fl with
    | ret u =>
      obtain ⟨v', H', a1, a2, a3, a4, a5, ⟨a, g', ⟨d', rfl, q⟩, f1, st', ra, _⟩⟩ := h
      exact ⟨v', H', a1, a2, a3, a4, a5, d', g', q, f1, st', ra⟩
    | _ => exact h
/-- behind the arguments: the sort, told of the call's state -/
theorem srt_end {g g1 : Gh} {H H1 : Hp} {Qd : AV → Prop} {Q : VK} {pins : List (Addr × Obj)} {σ : L2.St} {s1 : Shared} {k : Nat} {q : Addr} {bh : Beh} {u : Value} {v : V} {a : AV} (xo : XOk C X) (hr : Room (k + 1) X.A) (I1 : L2.Inv X pins σ H1 s1) (st1 : StOk C g1 H1) (f1 : Gr g H g1 H1) (F : KeyFn C g1 H1 k (.ref q) bh)
    (rv : L2.RelV v u) (r1 : RepA C g1 H1 v a) (h : srtQ bh a Qd) (kk : ∀ v H', Res C g H Qd v H' → Q v H') : wpAny (model X.prog X.w) X.A (call (.builtin "sorted") [u] [(Str.ofString "key", .ref q)]) (EP X pins σ Q) X.xe s1 := by
  unfold srtQ at h
  split at h
  · rename_i l el
    obtain ⟨kf, h1, h2, h3, h4, h5⟩ := h
    obtain ⟨p, vs, rfl, hs, hv⟩ := (r1.b st1 el).lst_inv
    obtain rfl : u = Value.ref p := rv
    refine thn (sort_key_run kf xo.P xo.w xo.K xo.mg xo.base xo.gd hr F I1 st1 (by rw [xo.K]; exact hs) hv h1 h2 h3 h4) fun w s2 ⟨x, H2, I2, rx, g2, p2, ex, n2, f2, st2, ow⟩ => ⟨x, H2, I2, rx, kk x H2 ⟨.new _, g2, h5, f1.trans f2, st2, ow, fun _ _ => ⟨p2, ex, f1.nm _ n2⟩⟩⟩
  · exact h.elim
theorem de_srtD {j : Nat} {x : Str} {ps : List Str} {sp : DSp} (xo : XOk C X) (F : Def C j x ps sp) (hr : Room (j + 1) X.A) (hg : Gl X "sorted") (hm : X.mg "sorted" = none) (hgx : Gl X x) (hdx : (x == ("__debug__" : Str)) = false) (he : DE C B X e te) (hs : isStar e = false) :
    DE C B X (.Call (.Name "sorted" p) [e] [⟨some "key", .Name x p2, kpos⟩] pos) (eSrtD sp te) := by
  obtain ⟨f, fd, hmx, hk, F, hb⟩ := F.ex
  rw [← xo.mg] at hmx
  refine ⟨fun pins s σ H Q I h => ?_⟩
  obtain ⟨g, env, Qd, st, eo, h, kk⟩ := h
  refine wpAny_Call_Name_kw (ld_blt I hg hm (u := .builtin "sorted") (by decide +kernel) ?_ (by decide))
  have ha : PA X [e] (tCons (tD C B te) tNil) := pa_cons he pa_nil (star_cons _ _ _ hs)
  refine PyProof.Rows.callWith_kw (thn (ha.run pos pins s σ H (fun vs H1 => ∃ v, vs = [v] ∧ Res C g H (fun a => srtQ (behD sp) a Qd) v H1) I ⟨g, env, _, st, eo, h, fun v H1 r => ⟨v, rfl, r⟩⟩) fun us s1 hh => ?_) (by rw [star_cons _ _ _ hs]; rfl) (by rw [star_cons _ _ _ hs]; rfl) rfl rfl
  obtain ⟨vs, H1, I1, r1, v, rfl, a, g1, q, f1, st1, ra, _⟩ := hh
  cases r1 with
  | cons rv rn =>
    rename_i u us'
    cases rn
    show wpAny _ _ (evalAll ((do let v ← eval (.Name x p2) X.env; standAt pos; pure v) :: [])) _ _ s1
    refine wpAny_evalAll_cons (wpAny_bind (ld_glob I1 hgx hmx (wpAny_bind (wpAny_standAt (wpAny_pure (wpAny_evalAll_nil ?_)))) hdx))
    show wpAny (model X.prog X.w) X.A (call (.builtin "sorted") [u] [(Str.ofString "key", .ref f)]) (EP X pins σ Q) X.xe s1
    exact srt_end xo hr I1 st1 f1 (keyFn_def F hb) rv ra q kk
theorem lockH_nil {h : Heap} {H : Hp} : lockH [] h H = H := by
  funext a
  exact lockH_ne (by simp)
theorem keyFn_clo {g : Gh} {H : Hp} {f : Addr} {k : Nat} {b : Beh} (c : CloOk C g H f k b) : KeyFn C g H k (.ref f) b := by
  obtain ⟨L, h1, _, h3⟩ := c.ex
  exact ⟨L, h1, fun A outer s H1 g1 u v d Qd hr hg ev hl hm st rv rd hq => h3 A outer s H1 g1 [u] [v] [d] Qd hr hg ev hl hm st (.cons rv .nil) (.cons rd .nil) hq⟩
theorem de_srtL {m : Nat} {params : Arguments} {body : Expr} {scope : Scope} {lpos : Pos} {N ps : List Str} {tb : TEd} (xo : XOk C X) (hr : Room (m + 2) X.A) (hg : Gl X "sorted") (hm : X.mg "sorted" = none) (lo : LamOk C X params scope lpos N ps [] [])
    (hnf : scope.names.all (fun y => !decide (y.2 = .free)) = true) (hbody : ∀ (c' : Addr) (X' : Cx) (B' : Base), LamX' C N (lamF X params scope c') m X' → DE C B' X' body tb) (he : DE C B X e te) (hs : isStar e = false) :
    DE C B X (.Call (.Name "sorted" p) [e] [⟨some "key", .Lambda params body scope lpos, kpos⟩] pos) (eSrtL N ps.length tb te) := by
  obtain ⟨c, P, TB, hc, hmT⟩ := lo.ex
  refine ⟨fun pins s σ H Q I h => ?_⟩
  obtain ⟨g, env, Qd, st, eo, h, kk⟩ := h
  refine wpAny_Call_Name_kw (ld_blt I hg hm (u := .builtin "sorted") (by decide +kernel) ?_ (by decide))
  have ha : PA X [e] (tCons (tD C B te) tNil) := pa_cons he pa_nil (star_cons _ _ _ hs)
  refine PyProof.Rows.callWith_kw (thn (ha.run pos pins s σ H (fun vs H1 => ∃ v, vs = [v] ∧ Res C g H (fun a => srtQ (lamB N ps.length tb []) a Qd) v H1) I ⟨g, env, _, st, eo, h, fun v H1 r => ⟨v, rfl, r⟩⟩) fun us s1 hh => ?_) (by rw [star_cons _ _ _ hs]; rfl) (by rw [star_cons _ _ _ hs]; rfl) rfl rfl
  obtain ⟨vs, H1, I1, r1, v, rfl, a, g1, q, f1, st1, ra, _⟩ := hh
  cases r1 with
  | cons rv rn =>
    rename_i u us'
    cases rn
    show wpAny _ _ (evalAll ((do let v ← eval (.Lambda params body scope lpos) X.env; standAt pos; pure v) :: [])) _ _ s1
    refine wpAny_evalAll_cons (wpAny_bind ?_)
    refine lam_made (C := C) (X := X) I1 TB hc hmT lo.nm st1.2 lo.defs (fun y hy e => (lo.free y hy e).elim (fun z => I1.ok.has _ (.inl z)) fun z => I1.ok.has _ (.inr z)) fun f c' H2 s2 I2 md => ?_
    obtain ⟨f2, st2⟩ := md.gr st1
    refine wpAny_bind (wpAny_standAt (wpAny_pure (wpAny_evalAll_nil ?_)))
    have cs : cloFrom X.env.cells scope.names [] = [] := by
      rw [List.eq_nil_iff_forall_not_mem]
      rintro ⟨y, b⟩ hy
      rcases cloFrom_mem hy with z | ⟨z, _⟩
      · cases z
      · have := List.all_eq_true.mp hnf _ z
        simp at this
    have clo := clo_of (k := m) xo I2 st2 (eo.fr (f1.trans f2)) md.at_ md.code lo.free lo.fre lo.js lo.sc (fun q => lo.bind q body) (hbody c')
    rw [cs] at clo
    have clo : CloOk C g1 H2 f (m + 1) (lamB N ps.length tb []) := by
      have h := clo
      simp only [cellsOf, List.map_nil, lockH_nil] at h
      exact h
    show wpAny (model X.prog X.w) X.A (call (.builtin "sorted") [u] [(Str.ofString "key", .ref f)]) (EP X pins σ Q) X.xe s2
    exact srt_end xo hr I2 st2 (f1.trans f2) (keyFn_clo clo) rv (ra.fr f2) q kk
end
section
variable {C : CC} {B : Base} {X : Cx} {N : List Str} {q : Str} {sc : Scope} {k : Nat} {e : Expr} {te : TEd} {p p2 pos kpos : Pos} {x : Str}
theorem FX.srtD {j : Nat} {ps : List Str} {sp : DSp} (F : FX C N sc k X) (g0 : NG X "sorted") (m0 : C.mg "sorted" = none) (d : Def C j x ps sp) (hj : j + 1 ≤ k) (g : NG X x) (he : DE C B X e te) (hs : isStar e = false) :
    DE C B X (.Call (.Name "sorted" p) [e] [⟨some "key", .Name x p2, kpos⟩] pos) (eSrtD sp te) := de_srtD F.xo d (F.room.mono hj) g0.g (F.mg m0) g.g g.d1 he hs
theorem BX.srtL {m : Nat} {params : Arguments} {body : Expr} {scope : Scope} {lpos : Pos} {N' ps : List Str} {tb : TEd} (F : BX C N q sc k X) (g0 : NG X "sorted") (m0 : C.mg "sorted" = none) (hj : m + 2 ≤ k) (lo : LamOk C X params scope lpos N' ps [] [])
    (hnf : scope.names.all (fun y => !decide (y.2 = .free)) = true) (hbody : ∀ (X' : Cx) (B' : Base), FX C N' scope m X' → DE C B' X' body tb) (he : DE C B X e te) (hs : isStar e = false) :
    DE C B X (.Call (.Name "sorted" p) [e] [⟨some "key", .Lambda params body scope lpos, kpos⟩] pos) (eSrtL N' ps.length tb te) := by
  refine de_srtL F.xo (F.room.mono hj) g0.g (F.mg m0) lo hnf (fun c' X' B' hx => hbody X' B' ?_) he hs
  obtain ⟨f, A, outer, s, H, rfl, hr, hgd⟩ := hx.ex
  exact ⟨⟨rfl, rfl, rfl, rfl, rfl, rfl, lo.sc.nd, hgd⟩, rfl, rfl, hr⟩
end
section
variable {env : En} {Q : AV → Prop} {E : XD → Prop} {te : TEd} {s : Option SL} {es : En}
theorem w_srtd {sp : DSp} : eSrtD sp te (s :: es) Q E = te (s :: es) (fun a => srtQ (behD sp) a Q) E := rfl
theorem w_srtl {N : List Str} {n : Nat} {tb : TEd} : eSrtL N n tb te env Q E = te env (fun a => srtQ (lamB N n tb []) a Q) E := rfl
end
end TL
set_option maxHeartbeats 1000000
namespace TL
open PySem PySem.Spec PyProof.Rows L2 LamX NdefX
/-! ### a choice of two tests -/
def tifQ (b : Bool) (ta tb : TTd) (env : En) (Q : Bool → Prop) (E : XD → Prop) : Prop := if b = true then ta env Q E else tb env Q E
def tIfD (tc ta tb : TTd) : TTd := fun env Q E => tc env (fun b => tifQ b ta tb env Q E) E
section
variable {C : CC} {B : Base} {X : Cx} {c a b : Expr} {tc sa sb : TTd} {pos : Pos}
theorem dt_ife (hc : DT C B X c tc) (ha : DT C B X a sa) (hb : DT C B X b sb) : DT C B X (.IfExp c a b pos) (tIfD tc sa sb) := by
  refine ⟨fun pins s σ H Q I h => ?_⟩
  obtain ⟨g, env, Qd, st, eo, h, k⟩ := h
  show wpAny _ _ (do if ← isTrue c X.env (eval c X.env) then isTrue a X.env (eval a X.env) else isTrue b X.env (eval b X.env)) _ _ s
  refine wpAny_bind (thn (hc.run pins s σ H (fun r H1 => ∃ g1, tifQ r sa sb env Qd XF ∧ Gr g H g1 H1 ∧ StOk C g1 H1) I ⟨g, env, _, st, eo, h, fun r g1 H1 q f st1 => ⟨g1, q, f, st1⟩⟩) fun r s1 ⟨H1, I1, g1, q, f, st1⟩ => ?_)
  unfold tifQ at q
  cases r with
  | true => exact ha.run pins s1 σ H1 Q I1 ⟨g1, env, _, st1, eo.fr f, q, fun d g2 H2 q2 f2 st2 => k d g2 H2 q2 (f.trans f2) st2⟩
  | false => exact hb.run pins s1 σ H1 Q I1 ⟨g1, env, _, st1, eo.fr f, q, fun d g2 H2 q2 f2 st2 => k d g2 H2 q2 (f.trans f2) st2⟩
end
section
variable {s : Option SL} {es : En} {c sa sb : TTd} {K : Bool → Prop} {E : XD → Prop} {env : En}
theorem w_tif : tIfD c sa sb (s :: es) K E = c (s :: es) (fun b => tifQ b sa sb (s :: es) K E) E := rfl
theorem w_tif1 : tifQ true sa sb env K E = sa env K E := rfl
theorem w_tif0 : tifQ false sa sb env K E = sb env K E := rfl
end
end TL
set_option maxHeartbeats 1000000
namespace TL
open PySem PySem.Spec PyProof.Rows L2 LamX NdefX
/-! ### divmod -/
def fDivmod : OpN
  | [a, b] => (match a.rd, b.rd with
    | some (.int i), some (.int j) => if 0 < j ∧ j < 1073741824 then some (.dat (.tuple [.int (i / j), .int (i % j)])) else none
    | _, _ => none)
  | _ => none
section
variable {C : CC} {B : Base} {X : Cx}
theorem c_divmod : CallR X (.builtin "divmod") (rDN C fDivmod) := by
  intro pins s σ H xs us Q I r h
  obtain ⟨g, as, a, st, ra, e, k⟩ := h
  unfold fDivmod at e
  split at e
  · rename_i a1 a2
    split at e
    · rename_i i j e1 e2
      split at e
      · rename_i cd
        cases e
        cases ra with
        | cons r1 r2 =>
          cases r2 with
          | cons r2 r3 =>
            cases r3
            have v1 := (r1.b st e1).int_inv
            have v2 := (r2.b st e2).int_inv
            subst v1 v2
            exact call_divmod pins s σ H _ us Q I r ⟨i, j, rfl, cd, fun p hp => k _ _ (.tup st hp (.cons (.int _) (.cons (.int _) .nil)))⟩
      · cases e
    · cases e
  · cases e
theorem FX.divmod {N : List Str} {sc : Scope} {k : Nat} {a b : Expr} {t : TAd} {p pos : Pos} (F : FX C N sc k X) (g : NG X "divmod") (m : C.mg "divmod" = none) (ha : DA C B X [a, b] t) (hs0 : isStar a = false) (hs : [b].any isStar = false) : DE C B X (.Call (.Name "divmod" p) [a, b] [] pos) (eCB fDivmod t) :=
  de_callB c_divmod g.g (F.mg m) (by decide +kernel) ha (by decide) (by decide) hs hs0
theorem w_dm {Q : AV → Prop} {i j : Int} : cbQ fDivmod Q [.dat (.int i), .dat (.int j)] = ((0 < j ∧ j < 1073741824) ∧ Q (.dat (.tuple [.int (i / j), .int (i % j)]))) := by
  unfold cbQ
  show (match (if 0 < j ∧ j < 1073741824 then some (AV.dat (.tuple [.int (i / j), .int (i % j)])) else none) with | some a => Q a | none => False) = _
  exact iteQ
end
/-! ### x.append(y.pop(e)) -/
def popQ (N : En → Prop) (env : En) (i j : Nat) (l m : List PyData) (a : AV) : Prop := match a.rd with
  | some (.int n) => ∃ (k : Nat) (d : PyData), n = (k : Int) ∧ m[k]? = some d ∧ (k < 16777216 ∧ l.length < 16777216) ∧ N ((env.set j (some (.own (m.eraseIdx k)))).set i (some (.own (l ++ [d]))))
  | _ => False
def sPopA (i j : Nat) (te : TEd) : TSd := fun D env E => match ownAt env i with
  | some l => (match ownAt env j with
    | some m => te env (fun a => popQ D.nx env i j l m a) E
    | none => False)
  | none => False
theorem RepVs.erase {K : PySem.W.Frag} {g : Gh} : ∀ {vs : List V} {ds : List PyData} (k : Nat), RepVs K g vs ds → RepVs K g (vs.eraseIdx k) (ds.eraseIdx k)
  | _, _, _, .nil => .nil
  | _, _, 0, .cons _ t => t
  | _, _, k + 1, .cons a t => .cons a (RepVs.erase k t)
section
variable {C : CC} {B : Base} {X : Cx} {e : Expr} {te : TEd}
theorem ds_popA {i j : Nat} {x y : Str} {px pa pc py pb pd pos : Pos} (hK : X.K = C.K) (hij : i ≠ j) (hN : X.N[i]? = some x) (hv : Vis X.env.scope x) (hd : (x == ("__debug__" : Str)) = false) (hcd : (x == ("__classdict__" : Str)) = false)
    (hN2 : X.N[j]? = some y) (hv2 : Vis X.env.scope y) (hd2 : (y == ("__debug__" : Str)) = false) (hcd2 : (y == ("__classdict__" : Str)) = false) (he : DE C B X e te) (hs : isStar e = false) (h2 : (pa.endLine == pc.line) = true) (h3 : (pb.endLine == pd.line) = true) :
    DS C B X (.Expr (.Call (.Attribute (.Name x px) "append" pa) [.Call (.Attribute (.Name y py) "pop" pb) [e] [] pd] [] pc) pos) (sPopA i j te) := by
  have inner : PE X (.Call (.Attribute (.Name y py) "pop" pb) [e] [] pd) (tBM X.K "list" rPopAt (tVar j) (tCons (tD C B te) tNil)) :=
    pe_bm PySem.F.plainAttrs_list PySem.F.slot_list_pop PySem.F.type_list_pop mt_popAt (pe_var hN2 hv2 hd2 hcd2) (pa_cons he pa_nil (star_cons _ _ _ hs)) rfl (few_one e hs) h3 (star_cons _ _ _ hs) rfl
  have base : PE X (.Call (.Attribute (.Name x px) "append" pa) [.Call (.Attribute (.Name y py) "pop" pb) [e] [] pd] [] pc) (tBM X.K "list" rAppend (tVar i) (tCons (tBM X.K "list" rPopAt (tVar j) (tCons (tD C B te) tNil)) tNil)) :=
    pe_bm PySem.F.plainAttrs_list PySem.F.slot_list_append PySem.F.type_list_append mt_append (pe_var hN hv hd hcd) (pa_cons inner pa_nil (star_cons _ _ _ rfl)) rfl (few_one _ rfl) h2 (star_cons _ _ _ rfl) rfl
  refine psW (ps_expr base rfl) fun D σ H h => ?_
  obtain ⟨g, env, Dd, st, fb, eo, h, ends⟩ := h
  unfold sPopA at h
  split at h
  case h_2 => exact h.elim
  rename_i l hl
  split at h
  · rename_i m hm
    obtain ⟨p, vs, hp, hg, hH, hr, bp⟩ := eo.own hl
    obtain ⟨p2, ws, hp2, hg2, hH2, hr2, bp2⟩ := eo.own hm
    refine ⟨.ref p, hp, .inl ⟨rfl, vs, .inl (.inl hH)⟩, ?_⟩
    refine ⟨.ref p2, hp2, .inl ⟨rfl, ws, .inl (.inl hH2)⟩, ?_⟩
    refine ⟨g, env, _, st, eo, h, fun v H1 ⟨a, g1, q, f1, st1, r1, n1⟩ => ?_⟩
    try dsimp only at q
    unfold popQ at q
    split at q
    · rename_i n ea
      obtain ⟨k, d, rfl, hk, ⟨hk2, hlen⟩, q⟩ := q
      have ev := (r1.b st1 ea).int_inv
      subst ev
      have hH2' := f1.hm p2 _ hH2 (by rw [hg2]; exact fun z => by cases z) (fun ps z => by cases z)
      have hg2' : g1 p2 = none := by rw [f1.km p2 _ hH2]; exact hg2
      have hrr := RepVs.mono f1.gm hr2
      obtain ⟨u, hu, ru⟩ := hrr.get hk
      have kl : k < ws.length := (List.getElem?_eq_some_iff.mp hu).1
      refine ⟨p2, ws, (k : Int), k, u, rfl, rfl, hH2', by omega, by omega, seqIndex_of (by omega) (by omega), hu, ?_⟩
      obtain ⟨s2, eo2⟩ := own_upd (m := m.eraseIdx k) (ws := ws.eraseIdx k) st1 (fb.trans f1) (eo.fr f1) hm hp2 hg2' hH2' bp2 (RepVs.erase k hrr)
      have hoi : ownAt (env.set j (some (.own (m.eraseIdx k)))) i = some l := by
        unfold ownAt at hl ⊢
        rw [List.getElem?_set_ne (Ne.symm hij)]
        exact hl
      obtain ⟨p3, vs3, hp3, hg3, hH3, hr3, bp3⟩ := eo2.own hoi
      have : p3 = p := by
        rw [hp] at hp3
        cases hp3
        rfl
      subst this
      refine ⟨p3, vs3, u, rfl, rfl, hH3, by rw [sizeLine_eq, Paired.len hr3]; exact hlen, ?_⟩
      obtain ⟨s3, eo3⟩ := own_upd (m := l ++ [d]) (ws := vs3 ++ [u]) s2.st s2.fb eo2 hoi hp3 hg3 hH3 bp3 (RepVs.append hr3 (.cons ru .nil))
      exact ends.nx _ _ g1 _ q ⟨gle.trans f1.gm s3.le, s3.st, s3.fb⟩ eo3
    · exact q.elim
  · exact h.elim
theorem FX.popA {N : List Str} {sc : Scope} {k i j : Nat} {x y : Str} {px pa pc py pb pd pos : Pos} (F : FX C N sc k X) (v : NV X i x) (v2 : NV X j y) (hij : i ≠ j) (he : DE C B X e te) (hs : isStar e = false) (h2 : (pa.endLine == pc.line) = true) (h3 : (pb.endLine == pd.line) = true) :
    DS C B X (.Expr (.Call (.Attribute (.Name x px) "append" pa) [.Call (.Attribute (.Name y py) "pop" pb) [e] [] pd] [] pc) pos) (sPopA i j te) :=
  ds_popA F.xo.K hij v.at_ v.vis v.d1 v.d2 v2.at_ v2.vis v2.d1 v2.d2 he hs h2 h3
end
section
variable {s : Option SL} {es : En} {D : EndsD} {E : XD → Prop} {te : TEd} {i j : Nat}
theorem w_popA : sPopA i j te D (s :: es) E = owQ ((s :: es)[i]?) (fun l => owQ ((s :: es)[j]?) (fun m => te (s :: es) (fun a => popQ D.nx (s :: es) i j l m a) E)) := by
  unfold sPopA ownAt owQ
  cases (s :: es)[i]? with
  | none => rfl
  | some o => cases o with
    | none => rfl
    | some v => cases v with
      | av a => rfl
      | own l =>
        cases (s :: es)[j]? with
        | none => rfl
        | some o => cases o with
          | none => rfl
          | some v => cases v with
            | av a => rfl
            | own m => rfl
theorem pop_go {N : En → Prop} {env : En} {l m : List PyData} {k : Nat} {d : PyData} (h : m[k]? = some d) (h1 : k < 16777216) (h2 : l.length < 16777216) (q : N ((env.set j (some (.own (m.eraseIdx k)))).set i (some (.own (l ++ [d]))))) : popQ N env i j l m (.dat (.int (k : Int))) := ⟨k, d, rfl, h, ⟨h1, h2⟩, q⟩
end
end TL
set_option maxHeartbeats 1000000
namespace TL
open PySem PySem.Spec PyProof.Rows L2 LamX NdefX PySem.W
/-! ### < of tuples that are alike -/
def isTupD : PyData → Bool
  | .tuple _ => true
  | _ => false
def dLtD : Op2 := fun x y => if alike x y = true ∧ isTupD x = true ∧ x.depth ≤ 64 then dB (dataLt x y) else none
section
variable {C : CC} {B : Base} {X : Cx}
theorem opR_ltD (hK : X.K = C.K) (hu : X.A.units + 64 < cLine) : OpR X (compareOp .Lt) (rD C dLtD) := by
  intro pins s σ H x y v u Q I rx ry h
  obtain ⟨g, dx, dy, a, st, hx, hy, e, k⟩ := h
  unfold dLtD at e
  split at e
  · rename_i hc
    cases e
    obtain ⟨c1, c2, c3⟩ := hc
    obtain ⟨as, r1⟩ := Dp.reads I dx x v (by rw [hK]; exact dp_of st.1 _ hx) rx
    obtain ⟨bs, r2⟩ := Dp.reads I dy y u (by rw [hK]; exact dp_of st.1 _ hy) ry
    refine lt_data r1 r2 c1 (fun z => by rw [z] at c2; cases c2) (by omega) ?_
    exact ⟨.bl _, H, I, rfl, k _ _ (.flat st (.bl _))⟩
  · cases e
theorem FX.ltD {N : List Str} {sc : Scope} {k : Nat} (F : FX C N sc k X) : CmpR C X .Lt dLtD := ⟨opR_ltD F.xo.K F.hu⟩
theorem lt_go {x : List PyData} {y : PyData} {Q : AV → Prop} (h1 : alike (.tuple x) y = true) (h2 : (PyData.tuple x).depth ≤ 64) (q : Q (.dat (.bool (dataLt (.tuple x) y)))) : ap2 dLtD (.dat (.tuple x)) (.dat y) Q := by
  unfold ap2
  show (match (if alike (.tuple x) y = true ∧ isTupD (.tuple x) = true ∧ (PyData.tuple x).depth ≤ 64 then dB (dataLt (.tuple x) y) else none) with | some a => Q a | none => False)
  rw [if_pos ⟨h1, rfl, h2⟩]
  exact q
end
end TL
/-! enumerate(zip(a, b)): the zip's first tuple stays out (the enumerate's tuple holds it); whether it is alive at the next turn is not told: both ways are walked -/
namespace PySem
open Sem (wp)
/-- a zip, whatever it knows of the tuple it gave out last -/
abbrev ZipAs (h : Heap) (z TI TO : Addr) (u : Value) (f : Bool) : Prop :=
  h.get? z = some { cls := .type "zip", dict := none, data := .fields #[u, .bool f, .bool false, .ref TI, .ref TO], slots := #[] }
def ZipAny (h : Heap) (z TI TO : Addr) : Prop := ∃ u f, ZipAs h z TI TO u f ∧ (u = .none ∨ ∃ T : Addr, u = rawInt T)
section
variable {prog : Program} {w : World} {A : Around} {E : Value → Shared → Prop} {s : Shared}
theorem loadIf_any {a : Addr} {Q : Option Obj → Shared → Prop} (h : Q (s.heap.get? a) s) : wpAny (model prog w) A (loadIfAlive a) Q E s := fun _ _ _ => h
theorem zip_owned {z TI TO : Addr} {u : Value} {f : Bool} {Q : Bool → Shared → Prop} (hz : ZipAs s.heap z TI TO u f) (hu : u = .none ∨ ∃ T : Addr, u = rawInt T)
    (q1 : Q true s) (q2 : ∀ h2, ZipAs h2 z TI TO u true → Heap.SameBut z s.heap h2 → Q false { s with heap := h2 }) : wpAny (model prog w) A (Builtin.SmallTypes.ownedTupleIsFree (.ref z)) Q E s := by
  unfold Builtin.SmallTypes.ownedTupleIsFree
  rcases hu with rfl | ⟨T, rfl⟩
  · exact wpAny_bind (wpAny_field hz rfl (x := .none) rfl (wpAny_pure q1))
  · refine wpAny_bind (wpAny_field hz rfl (x := rawInt T) rfl ?_)
    show wpAny _ _ (loadIfAlive ((T : Int).toNat) >>= _) _ _ _
    rw [Int.toNat_natCast]
    refine wpAny_bind (loadIf_any ?_)
    cases s.heap.get? T with
    | none =>
      simp only [Option.isNone_none, if_true]
      exact wpAny_pure q1
    | some oT =>
      simp only [Option.isNone_some, Bool.false_eq_true, if_false]
      refine wpAny_bind (wpAny_field hz rfl (x := .bool f) rfl ?_)
      cases f with
      | true =>
        rw [if_neg (show ¬ ((Value.bool true != Value.bool true) = true) from Bool.false_ne_true)]
        exact wpAny_pure (q2 _ hz (Heap.SameBut.refl _ _))
      | false =>
        rw [if_pos (show (Value.bool false != Value.bool true) = true from rfl)]
        exact wpAny_bind (wpAny_setField_rec hz (by simp) fun h2 z2 b2 => wpAny_pure (q2 h2 z2 b2))
end
section
variable {prog : Program} {w : World} {A : Around} {E : Value → Shared → Prop} {s : Shared} {z TI TO i1 i2 : Addr} {fp1 fp2 : List Addr} {n1 n2 i : Nat} {P1 P2 : Nat → Value → Prop} {St1 St2 : Nat → Heap → Prop} {a1 a2 : Value}
/-- what zip's next leaves -/
structure ZipLeft (h0 h : Heap) (z TI TO i1 i2 : Addr) (x1 x2 : Value) : Prop where
  zip : ZipAny h z TI TO
  out : ∃ b1 b2, IsTupOf2 h TO b1 b2
  new : IsTupOf2 h h0.objs.size x1 x2
  sz : h.objs.size = h0.objs.size + 1
  old : ∀ c o, c ≠ z → c ≠ TO → c ≠ i1 → c ≠ i2 → h0.get? c = some o → h.get? c = some o
theorem zipAny_item {Q : Value → Shared → Prop} (S : ZipSep2 z TI TO i1 i2 fp1 fp2) (D1 : Draws prog w A i1 fp1 n1 P1 St1) (D2 : Draws prog w A i2 fp2 n2 P2 St2)
    (hz : ZipAny s.heap z TI TO) (hTI : IsTupOf2 s.heap TI (.ref i1) (.ref i2)) (hTO : IsTupOf2 s.heap TO a1 a2) (st1 : St1 i s.heap) (st2 : St2 i s.heap) (l1 : i < n1) (l2 : i < n2)
    (hQ : ∀ x1 x2 h tk, P1 i x1 → P2 i x2 → St1 (i + 1) h → St2 (i + 1) h → ZipLeft s.heap h z TI TO i1 i2 x1 x2 → Q (.ref s.heap.objs.size) { s with heap := h, toks := tk }) :
    wpAny (model prog w) A (Builtin.«zip.__next__» ⟨[.ref z], []⟩) (fun r s2 => ∃ v, r = .done (.ret v) ∧ Q v s2) E s := by
  obtain ⟨u, f, hz, hu⟩ := hz
  obtain ⟨hp, gs, dr, tk0, os⟩ := s
  show wpAny _ _ (field (.ref z) 2 >>= _) _ _ _
  refine wpAny_bind (wpAny_field hz rfl (x := .bool false) rfl ?_)
  show wpAny _ _ (field (.ref z) 3 >>= _) _ _ _
  refine wpAny_bind (wpAny_field hz rfl (x := .ref TI) rfl ?_)
  refine wpAny_bind (wpAny_seqItems hTI rfl ?_)
  show wpAny _ _ (Builtin.SmallTypes.ownedTupleIsFree (.ref z) >>= _) _ _ _
  refine wpAny_bind (zip_owned hz hu ?_ fun k1 z1 b1 => ?_)
  · simp only [if_true]
    refine wpAny_bind (wpAny_rule (wpAny_bind (wpAny_field hz rfl (x := .ref TO) rfl ?_)))
    refine wpAny_bind (wpAny_setField_rec hz (by simp) fun k0 z0 b0 => ?_)
    replace z0 : ZipAs k0 z TI TO .ellipsis f := z0
    replace b0 : Heap.SameBut z hp k0 := b0
    refine wpAny_bind ?_
    simp only [List.zipIdx_cons, List.zipIdx_nil, List.forIn_cons, List.forIn_nil]
    refine wpAny_bind (wpAny_bind (wpAny_onRaise ?_))
    show wpAny _ _ (Builtin.SmallTypes.nextOf (.ref i1) >>= _) _ _ ⟨k0, gs, dr, tk0, os⟩
    refine wpAny_bind (D1.item i _ _ _ l1 (D1.over st1 b0 S.zf1) fun x1 k1 tk1 y1 n1' b1 => wpAny_pure ?_)
    replace b1 : Heap.SameBut i1 k0 k1 := b1
    have t1 : IsTupOf2 k1 TO a1 a2 := b1.extBut _ _ S.Ti1 (b0.extBut _ _ S.TOz hTO)
    refine wpAny_bind (wpAny_seqItems (s := ⟨k1, gs, dr, tk1, os⟩) t1 rfl ?_)
    refine wpAny_bind (updateSeq_IsTupOf2 (s := ⟨k1, gs, dr, tk1, os⟩) t1 fun k2 t2 b2 => ?_)
    replace t2 : IsTupOf2 k2 TO x1 a2 := t2
    replace b2 : Heap.SameBut TO k1 k2 := b2
    refine wpAny_bind (wpAny_letGo (wpAny_pure ?_))
    refine wpAny_bind (wpAny_bind (wpAny_onRaise ?_))
    show wpAny _ _ (Builtin.SmallTypes.nextOf (.ref i2) >>= _) _ _ ⟨k2, gs, dr, tk1, os⟩
    refine wpAny_bind (D2.item i _ _ _ l2 (D2.over (D2.over (D2.over st2 b0 S.zf2) b1 S.sep1_2) b2 S.Tf2) fun x2 k3 tk2 y2 n2' b3 => wpAny_pure ?_)
    replace b3 : Heap.SameBut i2 k2 k3 := b3
    have t3 : IsTupOf2 k3 TO x1 a2 := b3.extBut _ _ S.Ti2 t2
    refine wpAny_bind (wpAny_seqItems (s := ⟨k3, gs, dr, tk2, os⟩) t3 rfl ?_)
    refine wpAny_bind (updateSeq_IsTupOf2 (s := ⟨k3, gs, dr, tk2, os⟩) t3 fun k4 t4 b4 => ?_)
    replace t4 : IsTupOf2 k4 TO x1 x2 := t4
    replace b4 : Heap.SameBut TO k3 k4 := b4
    refine wpAny_bind (wpAny_letGo (wpAny_pure (wpAny_pure ?_)))
    refine wpAny_bind (wpAny_seqItems (s := ⟨k4, gs, dr, tk2, os⟩) t4 rfl ?_)
    refine wpAny_bind (wpAny_newTuple ?_)
    have sz4 : k4.objs.size = hp.objs.size := by rw [b4.1, b3.1, b2.1, b1.1, b0.1]
    have z4 : ZipAs k4 z TI TO .ellipsis f := b4.extBut _ _ S.TOz.symm (b3.extBut _ _ S.zi2 (b2.extBut _ _ S.TOz.symm (b1.extBut _ _ S.zi1 z0)))
    have o4 : ∀ c o, c ≠ z → c ≠ TO → c ≠ i1 → c ≠ i2 → hp.get? c = some o → k4.get? c = some o := fun c o cz cT c1 c2 e =>
      b4.extBut _ _ cT (b3.extBut _ _ c2 (b2.extBut _ _ cT (b1.extBut _ _ c1 (b0.extBut _ _ cz e))))
    have j1 : St1 (i + 1) k4 := D1.over (D1.over (D1.over n1' b2 S.Tf1) b3 S.sep2_1) b4 S.Tf1
    have j2 : St2 (i + 1) k4 := D2.over n2' b4 S.Tf2
    have zlt : z < k4.objs.size := Heap.lt_size z4
    show wpAny _ _ (Builtin.SmallTypes.ownedTupleHandOut (.ref z) (.ref k4.objs.size) >>= _) _ _ ⟨k4.push { cls := .type "tuple", data := .seq #[x1, x2] }, gs, dr, tk2, os⟩
    refine wpAny_bind ?_
    unfold Builtin.SmallTypes.ownedTupleHandOut
    have z5 : ZipAs (k4.push { cls := .type "tuple", data := .seq #[x1, x2] }) z TI TO .ellipsis f := Heap.get?_push_of_some _ z4
    refine wpAny_bind (wpAny_setField_rec z5 (by simp) fun k6 z6 b6 => ?_)
    replace z6 : ZipAs k6 z TI TO (rawInt k4.objs.size) f := z6
    refine wpAny_setField_rec z6 (by simp) fun k7 z7 b7 => ?_
    replace z7 : ZipAs k7 z TI TO (rawInt k4.objs.size) false := z7
    replace b6 : Heap.SameBut z (k4.push { cls := .type "tuple", data := .seq #[x1, x2] }) k6 := b6
    replace b7 : Heap.SameBut z k6 k7 := b7
    have up : ∀ c o, c ≠ z → k4.get? c = some o → k7.get? c = some o := fun c o c1 e => b7.extBut _ _ c1 (b6.extBut _ _ c1 (Heap.get?_push_of_some _ e))
    have t7 : IsTupOf2 k7 k4.objs.size x1 x2 := b7.extBut _ _ (Nat.ne_of_gt zlt) (b6.extBut _ _ (Nat.ne_of_gt zlt) (Heap.get?_push_size _ rfl))
    have sz7 : k7.objs.size = k4.objs.size + 1 := by rw [b7.1, b6.1, Heap.size_push]
    rw [sz4] at z7 t7 sz7
    refine wpAny_pure ⟨_, rfl, ?_⟩
    show Q (.ref k4.objs.size) ⟨k7, gs, dr, tk2, os⟩
    rw [sz4]
    exact hQ x1 x2 k7 tk2 y1 y2 (D1.frame _ _ _ j1 fun b hb o e => up b o (fun q => S.zf1 (q ▸ hb)) e) (D2.frame _ _ _ j2 fun b hb o e => up b o (fun q => S.zf2 (q ▸ hb)) e)
      ⟨⟨_, _, z7, .inr ⟨_, rfl⟩⟩, ⟨_, _, up _ _ S.TOz t4⟩, t7, sz7, fun c o cz cT c1 c2 e => up c o cz (o4 c o cz cT c1 c2 e)⟩
  · replace b1 : Heap.SameBut z hp k1 := b1
    simp only [Bool.false_eq_true, if_false]
    refine wpAny_bind ?_
    rw [← Array.forIn_toList]
    simp only [List.forIn_cons, List.forIn_nil]
    refine wpAny_bind (wpAny_bind (wpAny_holding ?_))
    show wpAny _ _ (Builtin.SmallTypes.nextOf (.ref i1) >>= _) _ _ ⟨k1, gs, dr, tk0, os⟩
    refine wpAny_bind (D1.item i _ _ _ l1 (D1.over st1 b1 S.zf1) fun x1 k2 tk1 y1 n1' b2 => wpAny_pure ?_)
    replace b2 : Heap.SameBut i1 k1 k2 := b2
    refine wpAny_pure ?_
    refine wpAny_bind (wpAny_bind (wpAny_holding ?_))
    show wpAny _ _ (Builtin.SmallTypes.nextOf (.ref i2) >>= _) _ _ ⟨k2, gs, dr, tk1, os⟩
    refine wpAny_bind (D2.item i _ _ _ l2 (D2.over (D2.over st2 b1 S.zf2) b2 S.sep1_2) fun x2 k3 tk2 y2 n2' b3 => wpAny_pure ?_)
    replace b3 : Heap.SameBut i2 k2 k3 := b3
    refine wpAny_pure (wpAny_pure ?_)
    show wpAny _ _ (newTuple [x1, x2] >>= _) _ _ _
    refine wpAny_bind (wpAny_newTuple ?_)
    have sz3 : k3.objs.size = hp.objs.size := by rw [b3.1, b2.1, b1.1]
    have z3 : ZipAs k3 z TI TO u true := b3.extBut _ _ S.zi2 (b2.extBut _ _ S.zi1 z1)
    have o3 : ∀ c o, c ≠ z → c ≠ i1 → c ≠ i2 → hp.get? c = some o → k3.get? c = some o := fun c o cz c1 c2 e => b3.extBut _ _ c2 (b2.extBut _ _ c1 (b1.extBut _ _ cz e))
    have t3 : IsTupOf2 k3 TO a1 a2 := b3.extBut _ _ S.Ti2 (b2.extBut _ _ S.Ti1 (b1.extBut _ _ S.TOz hTO))
    have j1 : St1 (i + 1) k3 := D1.over n1' b3 S.sep2_1
    refine wpAny_pure ⟨_, rfl, ?_⟩
    show Q (.ref k3.objs.size) _
    have t4 : IsTupOf2 (k3.push { cls := .type "tuple", data := .seq #[x1, x2] }) k3.objs.size x1 x2 := Heap.get?_push_size _ rfl
    have sz4 : (k3.push { cls := .type "tuple", data := .seq #[x1, x2] }).objs.size = k3.objs.size + 1 := Heap.size_push ..
    have up : ∀ c o, k3.get? c = some o → (k3.push { cls := .type "tuple", data := .seq #[x1, x2] }).get? c = some o := fun c o e => Heap.get?_push_of_some _ e
    rw [sz3] at t4 sz4 ⊢
    exact hQ x1 x2 _ tk2 y1 y2 (D1.frame _ _ _ j1 fun b hb o e => up b o e) (D2.frame _ _ _ n2' fun b hb o e => up b o e)
      ⟨⟨u, true, up _ _ z3, hu⟩, ⟨_, _, up _ _ t3⟩, t4, sz4, fun c o cz cT c1 c2 e => up c o (o3 c o cz c1 c2 e)⟩
theorem zipAny_end {Q : Fin → Shared → Prop} (S : ZipSep2 z TI TO i1 i2 fp1 fp2) (D1 : Draws prog w A i1 fp1 n1 P1 St1) (D2 : Draws prog w A i2 fp2 n2 P2 St2)
    (hz : ZipAny s.heap z TI TO) (hTI : IsTupOf2 s.heap TI (.ref i1) (.ref i2)) (hTO : IsTupOf2 s.heap TO a1 a2) (st1 : St1 i s.heap) (st2 : St2 i s.heap) (l1 : i ≤ n1) (l2 : i ≤ n2) (le : i = n1 ∨ i = n2)
    (hE : ∀ h tk e, (∀ c o, c ≠ z → c ≠ TO → c ≠ i1 → c ≠ i2 → s.heap.get? c = some o → h.get? c = some o) → (∃ o, h.get? e = some o ∧ o.cls = .type "StopIteration") → E (.ref e) { s with heap := h, toks := tk }) :
    wpAny (model prog w) A (Builtin.«zip.__next__» ⟨[.ref z], []⟩) Q E s := by
  obtain ⟨u, f, hz, hu⟩ := hz
  obtain ⟨hp, gs, dr, tk0, os⟩ := s
  show wpAny _ _ (field (.ref z) 2 >>= _) _ _ _
  refine wpAny_bind (wpAny_field hz rfl (x := .bool false) rfl ?_)
  show wpAny _ _ (field (.ref z) 3 >>= _) _ _ _
  refine wpAny_bind (wpAny_field hz rfl (x := .ref TI) rfl ?_)
  refine wpAny_bind (wpAny_seqItems hTI rfl ?_)
  show wpAny _ _ (Builtin.SmallTypes.ownedTupleIsFree (.ref z) >>= _) _ _ _
  refine wpAny_bind (zip_owned hz hu ?_ fun k1 z1 b1 => ?_)
  · simp only [if_true]
    refine wpAny_bind (wpAny_rule (wpAny_bind (wpAny_field hz rfl (x := .ref TO) rfl ?_)))
    refine wpAny_bind (wpAny_setField_rec hz (by simp) fun k0 z0 b0 => ?_)
    replace z0 : ZipAs k0 z TI TO .ellipsis f := z0
    replace b0 : Heap.SameBut z hp k0 := b0
    refine wpAny_bind ?_
    simp only [List.zipIdx_cons, List.zipIdx_nil, List.forIn_cons, List.forIn_nil]
    refine wpAny_bind (wpAny_bind (wpAny_onRaise ?_))
    show wpAny _ _ (Builtin.SmallTypes.nextOf (.ref i1) >>= _) _ _ ⟨k0, gs, dr, tk0, os⟩
    by_cases lt1 : i < n1
    · refine wpAny_bind (D1.item i _ _ _ lt1 (D1.over st1 b0 S.zf1) fun x1 k1 tk1 y1 n1' b1 => wpAny_pure ?_)
      replace b1 : Heap.SameBut i1 k0 k1 := b1
      have t1 : IsTupOf2 k1 TO a1 a2 := b1.extBut _ _ S.Ti1 (b0.extBut _ _ S.TOz hTO)
      refine wpAny_bind (wpAny_seqItems (s := ⟨k1, gs, dr, tk1, os⟩) t1 rfl ?_)
      refine wpAny_bind (updateSeq_IsTupOf2 (s := ⟨k1, gs, dr, tk1, os⟩) t1 fun k2 t2 b2 => ?_)
      replace t2 : IsTupOf2 k2 TO x1 a2 := t2
      replace b2 : Heap.SameBut TO k1 k2 := b2
      refine wpAny_bind (wpAny_letGo (wpAny_pure ?_))
      have ei : i = n2 := by omega
      refine wpAny_bind (wpAny_bind (wpAny_onRaise ?_))
      show wpAny _ _ (Builtin.SmallTypes.nextOf (.ref i2) >>= _) _ _ ⟨k2, gs, dr, tk1, os⟩
      refine wpAny_bind (D2.done ⟨k2, gs, dr, tk1, os⟩ _ _ (by rw [← ei]; exact D2.over (D2.over (D2.over st2 b0 S.zf2) b1 S.sep1_2) b2 S.Tf2) fun q e hq he => ?_)
      replace hq : Heap.ExtBut i2 k2 q := hq
      obtain ⟨oe, hoe, hce⟩ := he
      replace hoe : q.get? e = some oe := hoe
      have zq : ZipAs q z TI TO .ellipsis f := hq _ _ S.zi2 (b2.extBut _ _ S.TOz.symm (b1.extBut _ _ S.zi1 z0))
      have ez : e ≠ z := fun x => by subst x; rw [zq] at hoe; cases hoe; simp at hce
      refine wpAny_setField_rec (s := ⟨q, gs, dr, tk1, os⟩) zq (by simp) fun q2 _ b4 => ?_
      replace b4 : Heap.SameBut z q q2 := b4
      exact hE q2 tk1 e (fun c o cz cT c1 c2 x => b4.extBut _ _ cz (hq _ _ c2 (b2.extBut _ _ cT (b1.extBut _ _ c1 (b0.extBut _ _ cz x))))) ⟨oe, b4.extBut _ _ ez hoe, hce⟩
    · have ei : i = n1 := by omega
      refine wpAny_bind (D1.done ⟨k0, gs, dr, tk0, os⟩ _ _ (by rw [← ei]; exact D1.over st1 b0 S.zf1) fun q e hq he => ?_)
      replace hq : Heap.ExtBut i1 k0 q := hq
      obtain ⟨oe, hoe, hce⟩ := he
      replace hoe : q.get? e = some oe := hoe
      have zq : ZipAs q z TI TO .ellipsis f := hq _ _ S.zi1 z0
      have ez : e ≠ z := fun x => by subst x; rw [zq] at hoe; cases hoe; simp at hce
      refine wpAny_setField_rec (s := ⟨q, gs, dr, tk0, os⟩) zq (by simp) fun q2 _ b4 => ?_
      replace b4 : Heap.SameBut z q q2 := b4
      exact hE q2 tk0 e (fun c o cz cT c1 c2 x => b4.extBut _ _ cz (hq _ _ c1 (b0.extBut _ _ cz x))) ⟨oe, b4.extBut _ _ ez hoe, hce⟩
  · replace b1 : Heap.SameBut z hp k1 := b1
    simp only [Bool.false_eq_true, if_false]
    refine wpAny_bind ?_
    rw [← Array.forIn_toList]
    simp only [List.forIn_cons, List.forIn_nil]
    refine wpAny_bind (wpAny_bind (wpAny_holding ?_))
    show wpAny _ _ (Builtin.SmallTypes.nextOf (.ref i1) >>= _) _ _ ⟨k1, gs, dr, tk0, os⟩
    by_cases lt1 : i < n1
    · refine wpAny_bind (D1.item i _ _ _ lt1 (D1.over st1 b1 S.zf1) fun x1 k2 tk1 y1 n1' b2 => wpAny_pure ?_)
      replace b2 : Heap.SameBut i1 k1 k2 := b2
      refine wpAny_pure ?_
      have ei : i = n2 := by omega
      refine wpAny_bind (wpAny_bind (wpAny_holding ?_))
      show wpAny _ _ (Builtin.SmallTypes.nextOf (.ref i2) >>= _) _ _ ⟨k2, gs, dr, tk1, os⟩
      refine wpAny_bind (D2.done ⟨k2, gs, dr, tk1, os⟩ _ _ (by rw [← ei]; exact D2.over (D2.over st2 b1 S.zf2) b2 S.sep1_2) fun q e hq he => ?_)
      replace hq : Heap.ExtBut i2 k2 q := hq
      exact hE q tk1 e (fun c o cz cT c1 c2 x => hq _ _ c2 (b2.extBut _ _ c1 (b1.extBut _ _ cz x))) he
    · have ei : i = n1 := by omega
      refine wpAny_bind (D1.done ⟨k1, gs, dr, tk0, os⟩ _ _ (by rw [← ei]; exact D1.over st1 b1 S.zf1) fun q e hq he => ?_)
      replace hq : Heap.ExtBut i1 k1 q := hq
      exact hE q tk0 e (fun c o cz cT c1 c2 x => hq _ _ c1 (b1.extBut _ _ cz x)) he
theorem zipAny_is {h : Heap} (hz : ZipAny h z TI TO) : ∃ u f, ZipAs h z TI TO u f := let ⟨u, f, q, _⟩ := hz; ⟨u, f, q⟩
theorem nextOf_zipAny {Q : Value → Shared → Prop} (S : ZipSep2 z TI TO i1 i2 fp1 fp2) (D1 : Draws prog w A.in1 i1 fp1 n1 P1 St1) (D2 : Draws prog w A.in1 i2 fp2 n2 P2 St2)
    (hz : ZipAny s.heap z TI TO) (hTI : IsTupOf2 s.heap TI (.ref i1) (.ref i2)) (hTO : IsTupOf2 s.heap TO a1 a2) (st1 : St1 i s.heap) (st2 : St2 i s.heap) (l1 : i < n1) (l2 : i < n2)
    (hQ : ∀ x1 x2 h tk, P1 i x1 → P2 i x2 → St1 (i + 1) h → St2 (i + 1) h → ZipLeft s.heap h z TI TO i1 i2 x1 x2 → Q (.ref s.heap.objs.size) { s with heap := h, toks := tk }) :
    wpAny (model prog w) A (Builtin.SmallTypes.nextOf (.ref z)) Q E s := by
  obtain ⟨u, f, hz0⟩ := zipAny_is hz
  have hT : s.TypeIs (.ref z) "zip" := ⟨_, hz0, rfl⟩
  unfold Builtin.SmallTypes.nextOf
  exact wpAny_bind (wpAny_callSpecial?_slot (name := Str.ofString "__next__") hT F.slot_zip_next
    (wpAny_call_entry F.slot_zip_next hT F.entry_zip_next (zipAny_item (Q := fun v s2 => wpAny (model prog w) A (match some v with | some v => pure v | none => (do rule "iternext.gone"; raiseError "TypeError" s!"'{← typeNameOf (.ref z)}' object is not iterable")) Q E s2) S D1 D2 hz hTI hTO st1 st2 l1 l2 fun x1 x2 h tk a b c d e => wpAny_pure (hQ x1 x2 h tk a b c d e)) (F.args_zip_next_1 _)))
theorem nextOf_zipAny_end {Q : Value → Shared → Prop} (S : ZipSep2 z TI TO i1 i2 fp1 fp2) (D1 : Draws prog w A.in1 i1 fp1 n1 P1 St1) (D2 : Draws prog w A.in1 i2 fp2 n2 P2 St2)
    (hz : ZipAny s.heap z TI TO) (hTI : IsTupOf2 s.heap TI (.ref i1) (.ref i2)) (hTO : IsTupOf2 s.heap TO a1 a2) (st1 : St1 i s.heap) (st2 : St2 i s.heap) (l1 : i ≤ n1) (l2 : i ≤ n2) (le : i = n1 ∨ i = n2)
    (hE : ∀ h tk e, (∀ c o, c ≠ z → c ≠ TO → c ≠ i1 → c ≠ i2 → s.heap.get? c = some o → h.get? c = some o) → (∃ o, h.get? e = some o ∧ o.cls = .type "StopIteration") → E (.ref e) { s with heap := h, toks := tk }) :
    wpAny (model prog w) A (Builtin.SmallTypes.nextOf (.ref z)) Q E s := by
  obtain ⟨u, f, hz0⟩ := zipAny_is hz
  have hT : s.TypeIs (.ref z) "zip" := ⟨_, hz0, rfl⟩
  unfold Builtin.SmallTypes.nextOf
  exact wpAny_bind (wpAny_callSpecial?_slot (name := Str.ofString "__next__") hT F.slot_zip_next
    (wpAny_call_entry F.slot_zip_next hT F.entry_zip_next (zipAny_end S D1 D2 hz hTI hTO st1 st2 l1 l2 le hE) (F.args_zip_next_1 _)))
end
end PySem
namespace PySem
open Sem (wp)
section
variable {prog : Program} {w : World} {A : Around} {E : Value → Shared → Prop} {s : Shared}
/-- an enumerate over an iterator whose next does whatever it does -/
theorem enum_over {e it : Addr} {c : Int} {old : Value} {Q : Value → Shared → Prop} (he : IsEnum s.heap e it c old)
    (hi : ∀ R : Value → Shared → Prop, (∀ x h1 tk, IsEnum h1 e it c old → (∀ h2 tk2 x0 , IsEnumOut h2 e it (c + 1) x h1.objs.size → h2.get? h1.objs.size = some { cls := .type "tuple", data := .seq #[.int c x0, x] } → h2.objs.size = h1.objs.size + 1 →
        (∀ b o, b ≠ e → h1.get? b = some o → h2.get? b = some o) → Q (.ref h1.objs.size) { s with heap := h2, toks := tk2 }) → R x { s with heap := h1, toks := tk }) → wpAny (model prog w) A (Builtin.SmallTypes.nextOf (.ref it)) R E s) :
    wpAny (model prog w) A (Builtin.«enumerate.__next__» ⟨[.ref e], []⟩) (fun r s2 => ∃ v, r = .done (.ret v) ∧ Q v s2) E s := by
  obtain ⟨hp, gs, dr, tk₀, os⟩ := s
  show wpAny _ _ (field (.ref e) 2 >>= _) _ _ _
  refine wpAny_bind (wpAny_field he rfl (x := .ref it) rfl ?_)
  refine wpAny_bind (hi _ fun x k1 tk e1 back => ?_)
  show wpAny _ _ (field (.ref e) 3 >>= _) _ _ ⟨k1, gs, dr, tk, os⟩
  refine wpAny_bind (wpAny_field e1 rfl (x := rawInt c) rfl ?_)
  show wpAny _ _ (field (.ref e) 4 >>= _) _ _ ⟨k1, gs, dr, tk, os⟩
  refine wpAny_bind (wpAny_field e1 rfl (x := .none) rfl ?_)
  show wpAny _ _ (mkInt c >>= _) _ _ ⟨k1, gs, dr, tk, os⟩
  refine wpAny_bind (wpAny_mkInt ?_)
  show wpAny _ _ (setField (.ref e) 3 (rawInt (c + 1)) >>= _) _ _ ⟨k1, gs, dr, tk + 1, os⟩
  refine wpAny_bind (wpAny_setField_rec e1 (by simp) fun k2 e2 b2 => ?_)
  replace b2 : Heap.SameBut e k1 k2 := b2
  replace e2 : IsEnum k2 e it (c + 1) old := e2
  show wpAny _ _ (setField (.ref e) 4 .none >>= _) _ _ ⟨k2, gs, dr, tk + 1, os⟩
  refine wpAny_bind (wpAny_setField_rec e2 (by simp) fun k3 e3 b3 => ?_)
  replace b3 : Heap.SameBut e k2 k3 := b3
  replace e3 : IsEnum k3 e it (c + 1) old := e3
  show wpAny _ _ (newTuple [.int c tk, x] >>= _) _ _ ⟨k3, gs, dr, tk + 1, os⟩
  refine wpAny_bind (wpAny_newTuple ?_)
  have e4 : IsEnum (k3.push { cls := .type "tuple", data := .seq #[.int c tk, x] }) e it (c + 1) old := Heap.get?_push_of_some _ e3
  generalize hk4 : k3.push { cls := .type "tuple", data := .seq #[.int c tk, x] } = k4 at e4
  have sz3 : k3.objs.size = k1.objs.size := by rw [b3.1, b2.1]
  have el : e < k1.objs.size := Heap.lt_size e1
  have t4 : k4.get? k1.objs.size = some { cls := .type "tuple", data := .seq #[.int c tk, x] } := by rw [← hk4, ← sz3]; exact Heap.get?_push_size _ rfl
  have sz4 : k4.objs.size = k1.objs.size + 1 := by rw [← hk4, Heap.size_push, sz3]
  have o4 : ∀ b o, b ≠ e → k1.get? b = some o → k4.get? b = some o := fun b o hb q => by
    rw [← hk4]; exact Heap.get?_push_of_some _ (b3.extBut b o hb (b2.extBut b o hb q))
  show wpAny _ _ (Builtin.SmallTypes.ownedTupleIsFree (.ref e) >>= _) _ _ ⟨k4, gs, dr, tk + 1, os⟩
  rw [sz3]
  clear hk4 e3 b3 e2 b2 sz3
  refine wpAny_bind ?_
  unfold Builtin.SmallTypes.ownedTupleIsFree
  refine wpAny_bind (wpAny_field e4 rfl (x := .none) rfl (wpAny_pure ?_))
  simp only [if_true]
  refine wpAny_bind (wpAny_rule (wpAny_bind (wpAny_field e4 rfl (x := old) rfl ?_)))
  refine wpAny_bind (wpAny_setField_rec e4 (by simp) fun k5 e5 b5 => ?_)
  replace b5 : Heap.SameBut e k4 k5 := b5
  replace e5 : IsEnum k5 e it (c + 1) x := e5
  show wpAny _ _ (Builtin.SmallTypes.ownedTupleHandOut (.ref e) (.ref k1.objs.size) >>= _) _ _ ⟨k5, gs, dr, tk + 1, os⟩
  refine wpAny_bind ?_
  unfold Builtin.SmallTypes.ownedTupleHandOut
  refine wpAny_bind (wpAny_setField_rec e5 (by simp) fun k6 e6 b6 => ?_)
  replace b6 : Heap.SameBut e k5 k6 := b6
  replace e6 : IsEnumOut k6 e it (c + 1) x k1.objs.size := e6
  refine wpAny_setField_rec e6 (by simp) fun k7 e7 b7 => ?_
  replace b7 : Heap.SameBut e k6 k7 := b7
  replace e7 : IsEnumOut k7 e it (c + 1) x k1.objs.size := e7
  have up : ∀ b o, b ≠ e → k4.get? b = some o → k7.get? b = some o := fun b o hb q => b7.extBut b o hb (b6.extBut b o hb (b5.extBut b o hb q))
  refine wpAny_bind (wpAny_letGo (wpAny_pure ⟨_, rfl, back k7 (tk + 1) tk e7 ?_ ?_ ?_⟩))
  · exact up _ _ (Nat.ne_of_gt el) t4
  · rw [b7.1, b6.1, b5.1, sz4]
  · exact fun b o hb q => up b o hb (o4 b o hb q)
theorem next_enum_over {e it : Addr} {c : Int} {old : Value} {Q : Option Value → Shared → Prop} (he : IsEnum s.heap e it c old)
    (hi : ∀ R : Value → Shared → Prop, (∀ x h1 tk, IsEnum h1 e it c old → (∀ h2 tk2 x0 , IsEnumOut h2 e it (c + 1) x h1.objs.size → h2.get? h1.objs.size = some { cls := .type "tuple", data := .seq #[.int c x0, x] } → h2.objs.size = h1.objs.size + 1 →
        (∀ b o, b ≠ e → h1.get? b = some o → h2.get? b = some o) → Q (some (.ref h1.objs.size)) { s with heap := h2, toks := tk2 }) → R x { s with heap := h1, toks := tk }) → ∀ E' : Value → Shared → Prop, wpAny (model prog w) A.in1 (Builtin.SmallTypes.nextOf (.ref it)) R E' s) :
    wpAny (model prog w) A (pyNext (.ref e)) Q E s := by
  have hT : s.TypeIs (.ref e) "enumerate" := ⟨_, he, rfl⟩
  unfold pyNext
  refine wpAny_bind (wpAny_attempt (wpAny_callSpecial?_slot (name := Str.ofString "__next__") hT F.slot_enumerate_next
    (wpAny_call_entry F.slot_enumerate_next hT F.entry_enumerate_next
      (enum_over (Q := fun v s2 => wpAny (model prog w) A (pure (some v) : Sem (Option Value)) Q E s2) he fun R hR => hi R (fun x h1 tk q back => hR x h1 tk q fun h2 tk2 x0 a b c d => wpAny_pure (back h2 tk2 x0 a b c d)) _) (F.args_enumerate_next_1 _))))
theorem next_enum_end {e it : Addr} {c : Int} {old : Value} {Q : Option Value → Shared → Prop} (he : IsEnum s.heap e it c old)
    (hi : ∀ (R : Value → Shared → Prop) (E' : Value → Shared → Prop), (∀ h tk x, (∃ o, h.get? x = some o ∧ o.cls = .type "StopIteration") → Q none { s with heap := h, toks := tk } → E' (.ref x) { s with heap := h, toks := tk }) → wpAny (model prog w) A.in1 (Builtin.SmallTypes.nextOf (.ref it)) R E' s) :
    wpAny (model prog w) A (pyNext (.ref e)) Q E s := by
  have hT : s.TypeIs (.ref e) "enumerate" := ⟨_, he, rfl⟩
  unfold pyNext
  refine wpAny_bind (wpAny_attempt (wpAny_callSpecial?_slot (name := Str.ofString "__next__") hT F.slot_enumerate_next
    (wpAny_call_entry F.slot_enumerate_next hT F.entry_enumerate_next ?_ (F.args_enumerate_next_1 _))))
  show wpAny _ _ (field (.ref e) 2 >>= _) _ _ _
  refine wpAny_bind (wpAny_field he rfl (x := .ref it) rfl (wpAny_bind (hi _ _ fun h tk x hx q => ?_)))
  obtain ⟨o, ho, hc⟩ := hx
  exact wpAny_bind (wpAny_isInstance (T := "StopIteration") (b := true) ⟨o, ho, hc⟩ isSubtype_stop (wpAny_pure q))
end
end PySem
namespace PySem
open Sem (wp)
set_option maxHeartbeats 1000000 in
theorem meets_enum_self {z TI TO : Addr} :
    Meets (Builtin.«enumerate.__new__» ⟨[.type "enumerate", .ref z], []⟩) (fun _ R s => IsZip s.heap z TI TO .none ∧
      R (.ok (.ret (.ref s.heap.objs.size))) { s with heap := s.heap.push { cls := .type "enumerate", data := .fields #[.none, .bool false, .ref z, rawInt 0, .none, .none] } }) :=
  .of_wp fun prog w A R s h => by
    obtain ⟨hp, g, d, tk, os⟩ := s
    obtain ⟨h1, h⟩ := h
    have hsub := sub_enumerate
    have q1 : ∀ {A' : Around} {E : Value → Shared → Prop} {Q : Value → Shared → Prop}, Q (.ref z) ⟨hp, g, d, tk, os⟩ → wpAny (model prog w) A' (pyIter (.ref z)) Q E ⟨hp, g, d, tk, os⟩ := fun q => wpAny_pyIter_zip h1 q
    wp_walk using q1
    refine wpAny_stack_any fun st => wpAny_pure ?_
    split
    · rename_i c _ _ _ _ _
      cases (c == Value.type "enumerate") <;> (wp_walk using q1; exact ⟨_, rfl, h⟩)
    · wp_walk using q1
      exact ⟨_, rfl, h⟩
theorem enum_self {prog : Program} {w : World} {A : Around} {E : Value → Shared → Prop} {s : Shared} {z TI TO : Addr} {Q : Value → Shared → Prop} (h1 : IsZip s.heap z TI TO .none)
    (h : ∀ h', IsEnum h' s.heap.objs.size z 0 .none → h'.objs.size = s.heap.objs.size + 1 → (∀ b o, s.heap.get? b = some o → h'.get? b = some o) → Q (.ref s.heap.objs.size) { s with heap := h' }) :
    wpAny (model prog w) A (call (.type "enumerate") [.ref z]) Q E s := by
  refine callType_new F.called_enumerate (by decide) (F.typeCall_enumerate_1 _) (F.newCall_enumerate_1 _) (fun obj => F.args_object_init_2 obj _) F.entry_enumerate_new (meets_enum_self (TI := TI) (TO := TO)) ⟨h1, ?_⟩
  show _ ∧ _
  generalize ho2 : ({ cls := .type "enumerate", data := .fields #[.none, .bool false, .ref z, rawInt 0, .none, .none] } : Obj) = o2
  have he : (s.heap.push o2).get? s.heap.objs.size = some o2 := Heap.get?_push_size s.heap (o := o2) (by rw [← ho2]; rfl)
  have he2 : IsEnum (s.heap.push o2) s.heap.objs.size z 0 .none := by
    unfold IsEnum
    rw [he, ← ho2]
  exact ⟨⟨_, he2, rfl⟩, h _ he2 (Heap.size_push ..) fun b o x => Heap.get?_push_of_some _ x⟩
end PySem
namespace TL
open PySem PySem.Spec PyProof.Rows L2 LamX NdefX
/-- two sources side by side, each pair behind its number: the pair in a tuple of its own -/
def ItEZ (K : PySem.W.Frag) (S1 S2 : Src) : It :=
  ⟨fun i H => ∀ S ∈ [S1, S2], ∃ xs v, S.sq K H xs ∧ xs[i]? = some v,
    fun i H v H' => ∃ U T a b, v = .ref T ∧ H U = none ∧ upd H U (.tup [a, b]) T = none ∧ H' = upd (upd H U (.tup [a, b])) T (.tup [.int (i : Nat), .ref U]) ∧ (∀ xs, S1.sq K H xs → xs[i]? = some a) ∧ (∀ xs, S2.sq K H xs → xs[i]? = some b),
    fun i H => (∀ S ∈ [S1, S2], ∃ xs, S.sq K H xs ∧ i ≤ xs.length) ∧ ∃ S ∈ [S1, S2], ∃ xs, S.sq K H xs ∧ xs.length = i⟩
def chEZ (N : Nat) : List Addr := [N + 5, N + 4, N + 2, N + 3, N, N + 1]
theorem chEZ_le {N b : Nat} (h : b ∈ chEZ N) : N ≤ b := by simp [chEZ] at h; omega
theorem chEZ_lt {N m b : Nat} (h : b ∈ chEZ N) (q : N + 5 < m) : b < m := by simp [chEZ] at h; omega
/-- how it stands -/
def stEZ (S1 S2 : Src) (N : Nat) (i : Nat) (h : Heap) : Prop :=
  (∃ old, IsEnum h (N + 5) (N + 4) ((i : Nat) : Int) old) ∧ ZipAny h (N + 4) (N + 2) (N + 3) ∧ IsTupOf2 h (N + 2) (.ref N) (.ref (N + 1)) ∧ (∃ a1 a2, IsTupOf2 h (N + 3) a1 a2) ∧ S1.at_ h N i ∧ S2.at_ h (N + 1) i
section
variable {P : Program} {w : World} {K : PySem.W.Frag} {elts : List Expr} {kk : Nat} {tpos : Pos}
theorem turn_ez (S1 S2 : Src) (N : Nat) (h1 : S1.a < N) (h2 : S2.a < N) : Turn P w K (.Tuple elts kk tpos) (ItEZ K S1 S2) (chEZ N) (N + 5) (stEZ S1 S2 N) where
  mem := by simp [chEZ]
  obj := fun i h st b hb => by
    obtain ⟨⟨old, he⟩, ⟨u, f, hz, _⟩, hTI, ⟨a1, a2, hTO⟩, q1, q2⟩ := st
    simp only [chEZ, List.mem_cons, List.not_mem_nil, or_false] at hb
    rcases hb with z | z | z | z | z | z
    · rw [z]; exact ⟨_, he, fun v q => nomatch q⟩
    · rw [z]; exact ⟨_, hz, fun v q => nomatch q⟩
    · rw [z]; exact ⟨_, hTI, fun v q => nomatch q⟩
    · rw [z]; exact ⟨_, hTO, fun v q => nomatch q⟩
    · rw [z]; obtain ⟨o, ho, hv, _⟩ := Src.obj q1; exact ⟨o, ho, hv⟩
    · rw [z]; obtain ⟨o, ho, hv, _⟩ := Src.obj q2; exact ⟨o, ho, hv⟩
  keep := fun i h h' st k => let ⟨⟨old, he⟩, ⟨u, f, hz, hu⟩, hTI, ⟨a1, a2, hTO⟩, q1, q2⟩ := st
    ⟨⟨old, k _ (by simp [chEZ]) _ he⟩, ⟨u, f, k _ (by simp [chEZ]) _ hz, hu⟩, k _ (by simp [chEZ]) _ hTI, ⟨a1, a2, k _ (by simp [chEZ]) _ hTO⟩, Src.keep q1 fun o q => k _ (by simp [chEZ]) o q, Src.keep q2 fun o q => k _ (by simp [chEZ]) o q⟩
  item := by
    intro X hP hw hK hc i pins s σ H E I hf st hg
    subst hP hw hK
    obtain ⟨⟨old, he⟩, hz, hTI, ⟨a1, a2, hTO⟩, q1, q2⟩ := st
    obtain ⟨xs, x, hq, hx⟩ := hg S1 (by simp)
    obtain ⟨ys, y, hr, hy⟩ := hg S2 (by simp)
    obtain ⟨its, rv, p, hz1⟩ := Src.get I hq
    obtain ⟨its2, rv2, p2, hz2⟩ := Src.get I hr
    have l1 : i < its.toArray.size := by
      have := (List.getElem?_eq_some_iff.mp hx).1
      rw [List.size_toArray, ← rv.length]; exact this
    have l2 : i < its2.toArray.size := by
      have := (List.getElem?_eq_some_iff.mp hy).1
      rw [List.size_toArray, ← rv2.length]; exact this
    have D1 := S1.draws (A := X.A.in1.in1) (prog := X.prog) (w := X.w) (I.ok.hd hc) N (Nat.ne_of_lt h1) its.toArray
    have D2 := S2.draws (A := X.A.in1.in1) (prog := X.prog) (w := X.w) (I.ok.hd hc) (N + 1) (lt_ne h2).1 its2.toArray
    have hlt : ∀ b ∈ chEZ N, b < s.heap.objs.size := fun b hb => chEZ_lt hb (Heap.lt_size he)
    refine next_enum_over he fun R hR E' => nextOf_zipAny (zip_sep h1 h2) D1 D2 hz hTI hTO ⟨q1, p⟩ ⟨q2, p2⟩ l1 l2 fun u1 u2 k tk hu hu' sk1 sk2 zl => ?_
    have ek : IsEnum k (N + 5) (N + 4) ((i : Nat) : Int) old := zl.old _ _ (by omega : (N + 5 : Nat) ≠ N + 4) (by omega : (N + 5 : Nat) ≠ N + 3) (by omega : (N + 5 : Nat) ≠ N) (by omega : (N + 5 : Nat) ≠ N + 1) he
    refine hR _ k tk ek fun k2 tk2 x0 eo tz sz2 o2 => ?_
    have e1 : u1 = its.toArray[i] := (Option.some.inj (hu.symm.trans (Array.getElem?_eq_getElem l1)))
    obtain ⟨u0, hu0, ru⟩ := rv.get hx
    obtain ⟨u3, hu3, ru'⟩ := rv2.get hy
    have e1 : u1 = u0 := by
      rw [List.getElem?_toArray] at hu
      exact Option.some.inj (hu.symm.trans hu0)
    have e2 : u2 = u3 := by
      rw [List.getElem?_toArray] at hu'
      exact Option.some.inj (hu'.symm.trans hu3)
    subst e1 e2
    refine ⟨.ref k.objs.size, rfl, wpAny_letOwnedTupleGo_enum eo fun k3 ek3 b3 => ?_⟩
    replace b3 : Heap.SameBut (N + 5) k2 k3 := b3
    have kN5 : k.objs.size ≠ N + 5 := Nat.ne_of_gt (Heap.lt_size ek)
    have sN5 : s.heap.objs.size ≠ N + 5 := Nat.ne_of_gt (Heap.lt_size he)
    have ok3 : ∀ b o, b ≠ N + 5 → k.get? b = some o → k3.get? b = some o := fun b o hb q => b3.extBut _ _ hb (o2 b o hb q)
    -- the pair, then the tuple of number and pair
    have I1 : L2.Inv X pins σ (upd H s.heap.objs.size (.tup [x, y])) { s with heap := k, toks := tk } := by
      refine new_tup (ch := chEZ N) (T := s.heap.objs.size) (vs := [x, y]) I (fun b o hb q => zl.old b o ?_ ?_ ?_ ?_ q) hf (Nat.le_refl _) (us := #[u1, u2]) ⟨_, zl.new, rfl, _, rfl⟩ (.cons ru (.cons ru' .nil)) (by show 2 ≤ sizeLine; decide)
      all_goals (intro e; exact hb (by rw [e]; simp [chEZ]))
    have hf1 : ∀ b ∈ [N + 5], FpOk X pins (upd H s.heap.objs.size (.tup [x, y])) b := fun b hb => by
      rw [List.mem_singleton.mp hb]
      obtain ⟨f0, f1⟩ := hf (N + 5) (by simp [chEZ])
      exact ⟨by rw [upd_ne (Ne.symm sN5)]; exact f0, f1⟩
    have I2 : L2.Inv X pins σ (upd (upd H s.heap.objs.size (.tup [x, y])) k.objs.size (.tup [.int (i : Nat), .ref s.heap.objs.size])) { s with heap := k3, toks := tk2 } := by
      refine new_tup (ch := [N + 5]) (T := k.objs.size) (vs := [.int (i : Nat), .ref s.heap.objs.size]) I1 (fun b o hb q => ok3 b o (by simpa using hb) q) hf1 (Nat.le_refl _) (us := #[.int (i : Nat) x0, .ref s.heap.objs.size]) ⟨_, b3.extBut _ _ kN5 tz, rfl, _, rfl⟩ (.cons ⟨x0, rfl⟩ (.cons rfl .nil)) (by show 2 ≤ sizeLine; decide)
    refine ⟨.ref k.objs.size, _, I2, rfl, ⟨s.heap.objs.size, k.objs.size, x, y, rfl, I.hok.fresh (Nat.le_refl _), I1.hok.fresh (Nat.le_refl _), rfl, fun ls hl => by rw [Src.inj I hl hq]; exact hx, fun ls hl => by rw [Src.inj I hl hr]; exact hy⟩, ?_, fun b hb => ?_⟩
    · obtain ⟨v, f, z1, z2⟩ := zl.zip
      obtain ⟨c1, c2, z3⟩ := zl.out
      have tk2' : IsTupOf2 k (N + 2) (.ref N) (.ref (N + 1)) := zl.old _ _ (by omega : (N + 2 : Nat) ≠ N + 4) (by omega : (N + 2 : Nat) ≠ N + 3) (by omega : (N + 2 : Nat) ≠ N) (by omega : (N + 2 : Nat) ≠ N + 1) hTI
      refine ⟨⟨_, by rw [show ((i + 1 : Nat) : Int) = (i : Int) + 1 by omega]; exact ek3⟩, ⟨v, f, ok3 _ _ (by omega : (N + 4 : Nat) ≠ N + 5) z1, z2⟩, ok3 _ _ (by omega : (N + 2 : Nat) ≠ N + 5) tk2', ⟨c1, c2, ok3 _ _ (by omega : (N + 3 : Nat) ≠ N + 5) z3⟩, Src.keep sk1.1 fun o q => ok3 _ _ (by omega : (N : Nat) ≠ N + 5) q, Src.keep sk2.1 fun o q => ok3 _ _ (by omega : (N + 1 : Nat) ≠ N + 5) q⟩
    · have lb : (b : Nat) < s.heap.objs.size := hlt b hb
      have sk : (k.objs.size : Nat) = s.heap.objs.size + 1 := zl.sz
      have m1 : b ≠ k.objs.size := Nat.ne_of_lt (Nat.lt_of_lt_of_le lb (by rw [sk]; exact Nat.le_succ _))
      rw [upd_ne m1, upd_ne (Nat.ne_of_lt lb)]
      exact (hf b hb).1
  done := by
    intro X hP hw hK hc i pins s σ H E I hf st hg
    subst hP hw hK
    obtain ⟨⟨old, he⟩, hz, hTI, ⟨a1, a2, hTO⟩, q1, q2⟩ := st
    obtain ⟨hall, S', hS, zs, hqz, hxz⟩ := hg
    obtain ⟨xs, hq, hx⟩ := hall S1 (by simp)
    obtain ⟨ys, hr, hy⟩ := hall S2 (by simp)
    obtain ⟨its, rv, p, hz1⟩ := Src.get I hq
    obtain ⟨its2, rv2, p2, hz2⟩ := Src.get I hr
    have D1 := S1.draws (A := X.A.in1.in1) (prog := X.prog) (w := X.w) (I.ok.hd hc) N (Nat.ne_of_lt h1) its.toArray
    have D2 := S2.draws (A := X.A.in1.in1) (prog := X.prog) (w := X.w) (I.ok.hd hc) (N + 1) (lt_ne h2).1 its2.toArray
    have lens : i ≤ its.toArray.size ∧ i ≤ its2.toArray.size ∧ (i = its.toArray.size ∨ i = its2.toArray.size) := by
      rw [List.size_toArray, List.size_toArray, ← rv.length, ← rv2.length]
      refine ⟨hx, hy, ?_⟩
      simp only [List.mem_cons, List.not_mem_nil, or_false] at hS
      rcases hS with z | z
      · rw [z] at hqz; rw [Src.inj I hqz hq] at hxz; omega
      · rw [z] at hqz; rw [Src.inj I hqz hr] at hxz; omega
    refine next_enum_end he fun R E' back => nextOf_zipAny_end (zip_sep h1 h2) D1 D2 hz hTI hTO ⟨q1, p⟩ ⟨q2, p2⟩ lens.1 lens.2.1 lens.2.2 fun k tk e hk hx => back k tk e hx ⟨rfl, ?_⟩
    exact I.turnedL (ch := chEZ N) (fun b o hb q => hk b o (fun e => hb (by rw [e]; simp [chEZ])) (fun e => hb (by rw [e]; simp [chEZ])) (fun e => hb (by rw [e]; simp [chEZ])) (fun e => hb (by rw [e]; simp [chEZ])) q) hf
  self := fun A i s Q E st h => let ⟨⟨_, he⟩, _⟩ := st; wpAny_pyIter_enum he h
end
end TL
namespace TL
open PySem PySem.Spec PyProof.Rows L2 LamX NdefX
section
variable {C : CC} {B : Base} {X : Cx} {a b : Expr} {t : TAd} {p p2 pos pos2 tpos : Pos} {elts : List Expr} {kk : Nat}
/-- for (i, (x, y)) in enumerate(zip(a, b)) -/
def iEnumZ (t : TAd) : TId := fun env Q E => t env (fun as => zpQ (fun l => Q (enumD 0 l)) as) E
theorem pair_new {g : Gh} {H : Hp} {U T : Addr} {x y : V} {d d2 : PyData} {i : Nat} (st : StOk C g H) (hU : H U = none) (hT : upd H U (.tup [x, y]) T = none) (r1 : RepV C.K g x d) (r2 : RepV C.K g y d2) :
    ∃ g', Gr g H g' (upd (upd H U (.tup [x, y])) T (.tup [.int (i : Nat), .ref U])) ∧ StOk C g' (upd (upd H U (.tup [x, y])) T (.tup [.int (i : Nat), .ref U])) ∧ RepV C.K g' (.ref T) (.tuple [.int (i : Nat), .tuple [d, d2]]) := by
  obtain ⟨g1, f1, st1, ra⟩ := tup_new st hU (.cons r1 (.cons r2 .nil))
  obtain ⟨g2, f2, st2, rb⟩ := tup_new st1 hT (.cons (.int (i : Nat)) (.cons ra .nil))
  exact ⟨g2, f1.trans f2, st2, rb⟩
theorem ylds_ez {g0 : Gh} {S S' : Src} {l m : List PyData} (now : SrcNow C g0 S l) (now' : SrcNow C g0 S' m) : Ylds C g0 (ItEZ C.K S S') (enumD 0 (zip2D l m)) := fun i g H mm st => by
  obtain ⟨vs, h, q⟩ := now g H mm st
  obtain ⟨vs', h', q'⟩ := now' g H mm st
  refine ⟨fun d e => ?_, fun e => ?_⟩
  · rw [enumD_get] at e
    obtain ⟨d0, e0, rfl⟩ := Option.map_eq_some_iff.mp e
    obtain ⟨d1, d2, e1, e2, rfl⟩ := zip2D_get _ _ _ _ e0
    obtain ⟨v, ev, rv⟩ := q.get e1
    obtain ⟨v', ev', rv'⟩ := q'.get e2
    refine ⟨fun S' hS => ?_, fun x H' y => ?_⟩
    · simp only [List.mem_cons, List.not_mem_nil, or_false] at hS
      rcases hS with z | z
      · rw [z]; exact ⟨vs, v, h, ev⟩
      · rw [z]; exact ⟨vs', v', h', ev'⟩
    · obtain ⟨U, T, a, b, rfl, hU, hT, rfl, p1, p2⟩ := y
      have e2 := Option.some.inj (ev.symm.trans (p1 vs h))
      have e3 := Option.some.inj (ev'.symm.trans (p2 vs' h'))
      subst e2 e3
      have := pair_new (i := i) st hU hT rv rv'
      simpa using this
  · rw [enumD_len, zip2D_len] at e
    have l1 := Paired.len q
    have l2 := Paired.len q'
    refine ⟨fun S0 hS => ?_, ?_⟩
    · simp only [List.mem_cons, List.not_mem_nil, or_false] at hS
      rcases hS with z | z
      · rw [z]; exact ⟨vs, h, by omega⟩
      · rw [z]; exact ⟨vs', h', by omega⟩
    · by_cases z : vs.length = i
      · exact ⟨S, by simp, vs, h, z⟩
      · exact ⟨S', by simp, vs', h', by omega⟩
/-- the zip has begun -/
def EZat (C : CC) (X : Cx) (pins : List (Addr × Obj)) (σ : L2.St) (H : Hp) (g : Gh) (Qd : List PyData → Prop) (v : Value) (s1 : Shared) : Prop :=
  ∃ (S S' : Src) (N : Nat) (l m : List PyData) (g1 : Gh) (H1 : Hp) (vs : List V), v = .ref (N + 4) ∧ IsZip s1.heap (N + 4) (N + 2) (N + 3) .none ∧ IsTupOf2 s1.heap (N + 2) (.ref N) (.ref (N + 1)) ∧ IsTupOf2 s1.heap (N + 3) .none .none ∧ s1.heap.get? N = some (Src.o S) ∧ s1.heap.get? (N + 1) = some (Src.o S') ∧ s1.heap.objs.size = N + 5 ∧ S.a < N ∧ S'.a < N ∧ L2.Inv X pins σ H1 s1 ∧ (∀ b ∈ chEZ N, FpOk X pins H1 b) ∧ SrcNow C g1 S l ∧ SrcNow C g1 S' m ∧ S.sq X.K H1 vs ∧ RepVs C.K g1 vs l ∧ Qd (enumD 0 (zip2D l m)) ∧ Gr g H g1 H1 ∧ StOk C g1 H1
theorem di_enumZ (hK : X.K = C.K) (hge : Gl X "enumerate") (hme : X.mg "enumerate" = none) (hg : Gl X "zip") (hm : X.mg "zip" = none) (ha : DA C B X [a, b] t) (hs : isStar a = false) (hs2 : isStar b = false) :
    DI C B X (.Tuple elts kk tpos) (.Call (.Name "enumerate" p) [.Call (.Name "zip" p2) [a, b] [] pos2] [] pos) (iEnumZ t) := by
  refine ⟨fun pins s σ H R I h => ?_⟩
  obtain ⟨g, env, Qd, st, eo, h, k⟩ := h
  refine Call_ (ld_blt I hge hme boot_enumerate (PyProof.Rows.callWith_type1 (Calls.spliced_cons ?_) rfl rfl))
  refine thn (Q := EZat C X pins σ H g Qd) ?_ fun v s1 hv => Calls.spliced_nil ?_
  · refine Call_ (ld_blt I hg hm PyProof.Rows.boot_zip (PyProof.Rows.callWith_type1 (thn (ha.run _ pins s σ H (fun vs H1 => ∃ d d' l m g1 v v', vs = [v, v'] ∧ seqV d = some l ∧ seqV d' = some m ∧ Qd (enumD 0 (zip2D l m)) ∧ Gr g H g1 H1 ∧ StOk C g1 H1 ∧ RepV C.K g1 v d ∧ RepV C.K g1 v' d') I ⟨g, env, _, st, eo, h, ?_⟩) fun us s1 ⟨vs, H1, I1, r1, q1⟩ => ?_) (star_cons _ _ _ hs) (noStar _ (by simp [hs2]))))
    · intro vs as g1 H1 q f1 st1 r1
      unfold zpQ at q
      try dsimp only at q
      split at q
      · rename_i d d'
        split at q
        · rename_i l m e1 e2
          cases r1 with
          | cons r1 r2 =>
            cases r2 with
            | cons r2 r3 =>
              cases r3
              exact ⟨d, d', l, m, g1, _, _, rfl, e1, e2, q, f1, st1, r1, r2⟩
        · exact q.elim
      · exact q.elim
    · obtain ⟨d, d', l, m, g1, v, v', rfl, e, e', q, f1, st1, rv, rv'⟩ := q1
      obtain ⟨S, rfl, now⟩ := src_now rv e
      obtain ⟨S', rfl, now'⟩ := src_now rv' e'
      obtain ⟨vs, hsq, rvs⟩ := now g1 H1 (fun _ _ h => h) st1
      obtain ⟨vs', hsq', rvs'⟩ := now' g1 H1 (fun _ _ h => h) st1
      rw [← hK] at hsq hsq'
      obtain ⟨u, u', rfl, ru, ru'⟩ := vals2 r1
      cases ru
      cases ru'
      obtain ⟨its, rv2, p2, _⟩ := Src.get I1 hsq
      obtain ⟨its', rv2', p2', _⟩ := Src.get I1 hsq'
      have lt := Src.lt I1 hsq
      have lt' := Src.lt I1 hsq'
      refine zip_begins2 (S.begins its.toArray) (S'.begins its'.toArray) p2 p2' fun h' hz hTI hTO h1 h2 hsz hk => ?_
      have I2 : L2.Inv X pins σ H1 { s1 with heap := h' } := I1.kept (t' := s1.toks) hk
      refine ⟨S, S', s1.heap.objs.size, l, m, g1, H1, vs, rfl, hz, hTI, hTO, h1, h2, hsz, lt, lt', I2, fun b hb => ?_, now, now', hsq, rvs, q, f1, st1⟩
      have hle : s1.heap.objs.size ≤ b := chEZ_le hb
      exact I1.fpOk hle (I1.hok.fresh hle)
  · obtain ⟨S, S', N, l, m, g1, H1, vs, rfl, hz, hTI, hTO, h1, h2, hsz, lt, lt', I1, hf, now, now', hsq, rvs, q, f1, st1⟩ := hv
    refine enum_self hz fun h' he hsz2 hk => ?_
    rw [hsz] at he ⊢
    refine wpAny_pyIter_enum he ?_
    have I2 : L2.Inv X pins σ H1 { s1 with heap := h' } := I1.kept (t' := s1.toks) hk
    refine ⟨N + 5, chEZ N, _, _, H1, rfl, I2, turn_ez S S' N lt lt', ⟨⟨.none, he⟩, ⟨.none, false, hk _ _ hz, .inl rfl⟩, hk _ _ hTI, ⟨_, _, hk _ _ hTO⟩, Src.start (hk _ _ h1), Src.start (hk _ _ h2)⟩, hf, k _ _ g1 H1 q f1 st1 (by rw [hK]; exact ylds_ez now now') ?_⟩
    have := Src.lenQ I1 hsq
    rw [enumD_len, zip2D_len, ← Paired.len rvs]
    omega
theorem w_ienumz {s : Option SL} {es : En} {ta : TAd} {Q : List PyData → Prop} {E : XD → Prop} : iEnumZ ta (s :: es) Q E = ta (s :: es) (zpQ fun l => Q (enumD 0 l)) E := rfl
theorem w_tgez {N : En → Prop} {i : Nat} {ts : List NT} {env : En} {d : PyData} {l : List PyData} : tgQ N (.ez i ts) env (.tuple [d, .tuple l]) = npQ N ts (env.set i (some (.av (.dat d)))) l := rfl
end
section
open StX
variable {C : CC} {B : Base} {X : Cx} {N : List Str} {sc : Scope} {k : Nat} {a b : Expr} {t : TAd} {p p2 pos pos2 tpos : Pos} {elts : List Expr} {kk : Nat}
theorem FX.enumZ (F : FX C N sc k X) (ge : NG X "enumerate") (me : C.mg "enumerate" = none) (g : NG X "zip") (m : C.mg "zip" = none) (ha : DA C B X [a, b] t) (hs : isStar a = false) (hs2 : isStar b = false) : DI C B X (.Tuple elts kk tpos) (.Call (.Name "enumerate" p) [.Call (.Name "zip" p2) [a, b] [] pos2] [] pos) (iEnumZ t) := di_enumZ F.xo.K ge.g (F.mg me) g.g (F.mg m) ha hs hs2
end
end TL
/-! sorted(xs): numbers in a list or a tuple -/
namespace PySem
open Sem (wp)
open PyProof.Rows
section
variable {prog : Program} {w : World} {A : Around} {E : Value → Shared → Prop} {s : Shared}
theorem collect_tupA {l : Addr} {vs : List Value} {Q : List Value → Shared → Prop} (hl : s.heap.IsTuple l vs.toArray) (hz : vs.length ≤ sizeLine)
    (h : Q vs { s with heap := (s.heap.push (seqObj "list" #[] 0)).update s.heap.objs.size (Obj.mapSeq (· ++ vs.toArray)) }) : wpAny (model prog w) A (collect (.ref l)) Q E s := by
  obtain ⟨ot, hot, hct, nt, hdt⟩ := id hl
  unfold collect
  refine wpAny_bind (wpAny_runValue (codeAny_builtin entry_proto_collect' ?_))
  show wpAny _ _ (do again (.builtin "list.__iadd__" ⟨[← newList [], .ref l], []⟩)) _ _ s
  refine wpAny_bind (wpAny_newList (wpAny_pure ⟨Code.quiet_builtin _ (by decide +kernel), codeAny_builtin entry_list_iadd' ?_⟩))
  show wpAny _ _ (Builtin.List.listExtendWith (.ref s.heap.objs.size) (.ref l) (.ref s.heap.objs.size)) _ _ { s with heap := s.heap.push (seqObj "list" #[] 0) }
  unfold Builtin.List.listExtendWith
  have hot' : (s.heap.push (seqObj "list" #[] 0)).get? l = some ot := Heap.get?_push_of_some _ hot
  refine wpAny_bind (wpAny_typeOf (T := "tuple") ⟨ot, hot', hct⟩ ?_)
  have tt : (Value.type "tuple" == Value.type "tuple") = true := by rfl
  rw [if_pos (by rw [tt]; simp)]
  refine wpAny_bind (listItems_at hot' hdt ?_)
  refine wpAny_bind (listItems_at (xs := #[]) (n := 0) (Heap.get?_push_size _ rfl) rfl ?_)
  rw [if_neg (by simp)]
  refine wpAny_bind (listUpdate_at (xs := #[]) (n := 0) (Heap.get?_push_size _ rfl) rfl ?_ (Nat.zero_le _) (by show (#[] ++ vs.toArray).size ≤ sizeLine + 1; simp only [Array.size_append, List.size_toArray, List.length_nil]; omega))
  refine wpAny_pure ?_
  show wpAny (model prog w) A (do
      let o ← load s.heap.objs.size
      match o.data with
      | .seq xs _ => pure xs.toList
      | _ => unsupported "internal:collect") Q E { s with heap := (s.heap.push (seqObj "list" #[] 0)).update s.heap.objs.size (Obj.mapSeq (· ++ vs.toArray)) }
  refine wpAny_bind (wpAny_load (get?_update_seq (Heap.get?_push_size _ rfl) _) ?_)
  show wpAny _ _ (pure ((#[] : Array Value) ++ vs.toArray).toList) Q E _
  rw [show ((#[] : Array Value) ++ vs.toArray).toList = vs by simp]
  exact wpAny_pure h
open SrtO in
theorem sorted_tupA {l : Addr} {vs : List Value} {ltv : Value → Value → Bool} {Q : Value → Shared → Prop} (O : Swo ltv) (hl : s.heap.IsTuple l vs.toArray) (hz : vs.length ≤ sizeLine)
    (hS : 2 ≤ vs.length → ∀ (h₁ : Heap) (a : Addr), h₁.get? a = some (seqObj "list" vs.toArray 0) → (∀ b o, s.heap.get? b = some o → b ≠ a ∧ h₁.get? b = some o) → SortableO prog w A.in1.in1 { s with heap := h₁ } a vs ltv)
    (h : ∀ out : List Value, Srtd ltv out → Stb ltv out vs → Q (.ref (s.heap.objs.size + 1)) { s with heap := sortedAll s.heap vs out.toArray }) :
    wpAny (model prog w) A (call (.builtin "sorted") [.ref l]) Q E s := by
  refine Calls.call_function_entry kind_sorted plain_sorted entry_sorted (args_sorted1 _) ?_
  unfold Builtin.«sorted»
  refine wpAny_bind (m := checkCount "sorted" 1 1 _) (wpAny_pure ?_)
  refine wpAny_bind (collect_tupA hl hz ?_)
  refine wpAny_bind (wpAny_newList ?_ hz)
  have szk : ((s.heap.push (seqObj "list" #[] 0)).update s.heap.objs.size (Obj.mapSeq (· ++ vs.toArray))).objs.size = s.heap.objs.size + 1 := by
    rw [Heap.size_update, size_push']
  have hk : (((s.heap.push (seqObj "list" #[] 0)).update s.heap.objs.size (Obj.mapSeq (· ++ vs.toArray))).push (seqObj "list" vs.toArray 0)).get? (s.heap.objs.size + 1) = some (seqObj "list" vs.toArray 0) := by
    rw [← szk]; exact Heap.get?_push_size _ rfl
  have old : ∀ b o, s.heap.get? b = some o → b ≠ s.heap.objs.size + 1 ∧ (((s.heap.push (seqObj "list" #[] 0)).update s.heap.objs.size (Obj.mapSeq (· ++ vs.toArray))).push (seqObj "list" vs.toArray 0)).get? b = some o := fun b o q => by
    have bl : b < s.heap.objs.size := Heap.lt_size q
    refine ⟨Nat.ne_of_lt (Nat.lt_succ_of_lt bl), Heap.get?_push_of_some _ ?_⟩
    rw [Heap.get?_update_ne _ _ _ _ (Nat.ne_of_lt bl)]
    exact Heap.get?_push_of_some _ q
  show wpAny _ _ _ _ _ { s with heap := ((s.heap.push (seqObj "list" #[] 0)).update s.heap.objs.size (Obj.mapSeq (· ++ vs.toArray))).push (seqObj "list" vs.toArray 0) }
  rw [szk]
  refine wpAny_bind (wpAny_holding (wpAny_call_entry slot_list_sort ⟨_, hk, rfl⟩ entry_list_sort (list_sort_ord O hk hz (fun h2 => hS h2 _ _ hk old) fun out hs hb => ⟨_, rfl, ?_⟩) (args_list_sort _)))
  exact wpAny_pure ⟨_, rfl, h out hs hb⟩
end
end PySem
namespace TL
open PySem PySem.Spec PyProof.Rows L2 LamX NdefX
def sortI (l : List Int) : List Int := l.mergeSort fun a b => decide (a ≤ b)
theorem sortI_perm (l : List Int) : (sortI l).Perm l := List.mergeSort_perm ..
theorem sortI_len (l : List Int) : (sortI l).length = l.length := (sortI_perm l).length_eq
theorem sortI_ord (l : List Int) : (sortI l).Pairwise (· ≤ ·) := by
  have := List.pairwise_mergeSort (le := fun (a b : Int) => decide (a ≤ b)) (fun a b c h1 h2 => by simp only [decide_eq_true_eq] at *; omega) (fun a b => by simp only [Bool.or_eq_true, decide_eq_true_eq]; omega) l
  exact this.imp fun h => of_decide_eq_true h
theorem srt_same {l m : List Int} (h : l.Perm m) (hl : l.Pairwise (· ≤ ·)) (hm : m.Pairwise (· ≤ ·)) : l = m := List.Perm.eq_of_pairwise (fun a b _ _ h1 h2 => by omega) hl hm h
theorem sortI_of {l m : List Int} (h : l.Perm m) (hl : l.Pairwise (· ≤ ·)) : l = sortI m := srt_same (h.trans (sortI_perm m).symm) hl (sortI_ord m)
def fSort : OpN := f1 fun
  | .list l => (intsD l).map fun ns => .new ((sortI ns).map PyData.int)
  | .tuple l => (intsD l).map fun ns => .new ((sortI ns).map PyData.int)
  | _ => none
section
variable {C : CC} {B : Base} {X : Cx}
theorem reps_ii {K : PySem.W.Frag} {g : Gh} : ∀ (ns : List Int), RepVs K g (ns.map V.int) (ns.map PyData.int)
  | [] => .nil
  | i :: ns => .cons (.int i) (reps_ii ns)
theorem cr_sortedTI : CallR X (.builtin "sorted") (fun vs H Q => ∃ (a : Addr) (ns : List Int), vs = [V.ref a] ∧ SqT X.K H a (ns.map V.int) ∧ ∀ (ns' : List Int) (p : Addr), ns'.Perm ns → ns'.Pairwise (· ≤ ·) → H p = none → Q (.ref p) (upd H p (.lst (ns'.map V.int)))) := by
  intro pins s σ H vs us Q I r h
  obtain ⟨a, ns, rfl, hs, q⟩ := h
  obtain ⟨its, rv, hl, hz⟩ := I.tuple hs
  rw [Vals.ref1 r]
  have hi := rv.ints
  refine sorted_tupA SrtO.swo_int (show s.heap.IsTuple a its.toArray from hl) (by rw [← rv.length]; exact hz) (fun h2 h₁ a' _ _ => SrtO.ints_sortable hi h2) fun out h1 h2 => ?_
  obtain ⟨k1, k2, k3⟩ := SrtO.ints_out hi h1 h2
  obtain ⟨ep, he'⟩ := PyProof.Rows.sortedAll_at s.heap its out.toArray
  have hlen : ((out.map SrtO.iv).map V.int).length ≤ sizeLine := by
    rw [List.length_map, k2.length_eq]
    rw [List.length_map] at hz
    exact hz
  exact ⟨.ref _, upd H (s.heap.objs.size + 1) (.lst ((out.map SrtO.iv).map V.int)), I.laid (t' := s.toks) (fun _ _ => PyProof.Rows.sortedAll_old) (Nat.le_succ _) ⟨hlen, out, ep, vals_of_ints k1, he'⟩, rfl, q _ _ k2 k3 (I.hok.fresh (Nat.le_succ _))⟩
theorem c_sort (hK : X.K = C.K) : CallR X (.builtin "sorted") (rDN C fSort) := by
  intro pins s σ H xs us Q I r h
  obtain ⟨g, as, a, st, ra, e, k⟩ := h
  obtain ⟨v, d, rfl, rb, e⟩ := f1_get st ra e
  split at e
  · rename_i l
    cases hn : intsD l with
    | none => rw [hn] at e; cases e
    | some ns =>
      rw [hn] at e
      cases e
      obtain ⟨p, vs, rfl, h1, h2⟩ := rb.lst_inv
      rw [ints_ok st.1 h2 hn] at h1
      refine cr_sortedI pins s σ H _ us Q I r ⟨p, ns, rfl, by rw [hK]; exact h1, fun ns' q hp ho hq => ?_⟩
      rw [sortI_of hp ho]
      exact k _ _ (.new st hq (reps_ii _))
  · rename_i l
    cases hn : intsD l with
    | none => rw [hn] at e; cases e
    | some ns =>
      rw [hn] at e
      cases e
      obtain ⟨p, vs, rfl, _, h1, h2⟩ := rb.tup_inv
      rw [ints_ok st.1 h2 hn] at h1
      refine cr_sortedTI pins s σ H _ us Q I r ⟨p, ns, rfl, by rw [hK]; exact h1, fun ns' q hp ho hq => ?_⟩
      rw [sortI_of hp ho]
      exact k _ _ (.new st hq (reps_ii _))
  · cases e
end
section
open StX
variable {C : CC} {B : Base} {X : Cx} {N : List Str} {sc : Scope} {k : Nat} {a : Expr} {t : TAd} {p pos : Pos}
theorem FX.sorted (F : FX C N sc k X) (g : NG X "sorted") (m : C.mg "sorted" = none) (ha : DA C B X [a] t) (hs : isStar a = false) : DE C B X (.Call (.Name "sorted" p) [a] [] pos) (eCB fSort t) := de_callB (c_sort F.xo.K) g.g (F.mg m) (by decide +kernel) ha (by decide) (by decide) rfl hs
theorem w_sortl {l : List Int} {Q : AV → Prop} : cbQ fSort Q [.dat (.list (l.map PyData.int))] = Q (.new ((sortI l).map PyData.int)) := by
  show (match (intsD (l.map PyData.int)).map (fun ns => AV.new ((sortI ns).map PyData.int)) with | some a => Q a | none => False) = _
  have e : ∀ l : List Int, intsD (l.map PyData.int) = some l := fun l => by
    induction l with
    | nil => rfl
    | cons i l ih => show (intsD (l.map PyData.int)).map (i :: ·) = _; rw [ih]; rfl
  rw [e]
  rfl
theorem w_sortn {l : List Int} {Q : AV → Prop} : cbQ fSort Q [.new (l.map PyData.int)] = Q (.new ((sortI l).map PyData.int)) := w_sortl
theorem w_sortt {l : List Int} {Q : AV → Prop} : cbQ fSort Q [.dat (.tuple (l.map PyData.int))] = Q (.new ((sortI l).map PyData.int)) := w_sortl
end
end TL
namespace TL
open PySem PySem.Spec PyProof.Rows L2 LamX NdefX
/-! a list that a name owns, lent to a test: its name owns it again behind the test -/
/-- what reaches p by what the ghost tells -/
inductive Rc (K : PySem.W.Frag) (g : Gh) (H : Hp) (p : Addr) : Addr → Prop
  | base : Rc K g H p p
  | lst {a b : Addr} {ds : List PyData} {vs : List V} {i : Nat} {d : PyData} (h : g a = some (.dat (.list ds))) (r : Rd H a (.lst vs)) (hv : vs[i]? = some (.ref b)) (hd : ds[i]? = some d) (n : ¬ RepV K (fun _ => none) (.ref b) d) (q : Rc K g H p b) : Rc K g H p a
  | tup {a b : Addr} {ds : List PyData} {vs : List V} {i : Nat} {d : PyData} (h : g a = some (.dat (.tuple ds))) (r : Rd H a (.tup vs)) (hv : vs[i]? = some (.ref b)) (hd : ds[i]? = some d) (n : ¬ RepV K (fun _ => none) (.ref b) d) (q : Rc K g H p b) : Rc K g H p a
open Classical in
/-- the ghost without what reaches p -/
noncomputable def gOff (K : PySem.W.Frag) (g : Gh) (H : Hp) (p : Addr) : Gh := fun a => if Rc K g H p a then none else g a
theorem gOff_in {K : PySem.W.Frag} {g : Gh} {H : Hp} {p a : Addr} (h : Rc K g H p a) : gOff K g H p a = none := by unfold gOff; rw [if_pos h]
theorem gOff_out {K : PySem.W.Frag} {g : Gh} {H : Hp} {p a : Addr} (h : ¬ Rc K g H p a) : gOff K g H p a = g a := by unfold gOff; rw [if_neg h]
theorem Rd.one {H : Hp} {a : Addr} {u u2 : HO} (r : Rd H a u) (r2 : Rd H a u2) (h1 : ∀ o x, u ≠ .frz o x) (h2 : ∀ o x, u2 ≠ .frz o x) : u = u2 := by
  rcases r with r | ⟨o, r⟩ <;> rcases r2 with q | ⟨x, q⟩ <;> rw [r] at q <;> cases q
  · rfl
  · exact absurd rfl (h1 _ _)
  · exact absurd rfl (h2 _ _)
  · rfl
theorem RepVs.at_ {K : PySem.W.Frag} {g : Gh} : ∀ {vs : List V} {ds : List PyData} {i : Nat} {v : V} {d : PyData}, RepVs K g vs ds → vs[i]? = some v → ds[i]? = some d → RepV K g v d
  | _, _, i, _, _, .nil, e, _ => by simp at e
  | _, _, 0, _, _, .cons r _, e1, e2 => by simp at e1 e2; subst e1; subst e2; exact r
  | _, _, i + 1, _, _, .cons _ t, e1, e2 => RepVs.at_ t (by simpa using e1) (by simpa using e2)
theorem RepVs.of {K : PySem.W.Frag} {g g2 : Gh} : ∀ {vs : List V} {ds : List PyData}, RepVs K g vs ds → (∀ (i : Nat) (b : Addr) (d : PyData), vs[i]? = some (.ref b) → ds[i]? = some d → g b = some (.dat d) → RepV K g2 (.ref b) d) → RepVs K g2 vs ds
  | _, _, .nil, _ => .nil
  | _, _, .cons r t, h => by
    refine .cons ?_ (RepVs.of t fun i b d e1 e2 e3 => h (i + 1) b d (by simpa using e1) (by simpa using e2) e3)
    cases r with
    | non => exact .non
    | bl b => exact .bl b
    | int i => exact .int i
    | str x => exact .str x
    | ref e => exact h 0 _ _ rfl rfl e
    | kl a b => exact .kl a b
theorem RepV.any {K : PySem.W.Frag} {g : Gh} {v : V} {d : PyData} (r : RepV K (fun _ => none) v d) : RepV K g v d := RepV.mono (fun _ _ h => by cases h) r
/-- behind the loan the ghost tells no more of the list lent -/
theorem lent_off {C : CC} {g g1 : Gh} {H H1 : Hp} {p : Addr} {vs : List V} {l : List PyData} (st : StOk C g H) (n : g p = none) (hp : H p = some (.lst vs)) (f : Gr (gup g p (.dat (.list l))) H g1 H1) (st1 : StOk C g1 H1) : Gr g H (gOff C.K g1 H1 p) H1 ∧ StOk C (gOff C.K g1 H1 p) H1 := by
  have up : ∀ a u, g a = some u → g1 a = some u := fun a u h => f.gm a u (by
    rw [gup_ne (fun e => by rw [e, n] at h; cases h)]
    exact h)
  have keep : ∀ {a : Addr} {u : HO} {d : PyData}, g a = some (.dat d) → Rd H a u → (∀ ps, u ≠ .tbl ps) → Rd H1 a u := fun {a u d} e r nt => by
    have ne : a ≠ p := fun z => by rw [z, n] at e; cases e
    have nw : gup g p (.dat (.list l)) a ≠ some .well := by rw [gup_ne ne, e]; exact fun z => by cases z
    rcases r with r | ⟨o, r⟩
    · exact .inl (f.hm a _ r nw nt)
    · exact .inr ⟨o, f.hm a _ r nw fun ps z => by cases z⟩
  have key : ∀ a, Rc C.K g1 H1 p a → g a = none := fun a h => by
    induction h with
    | base => exact n
    | @lst a b ds vs i d h r hv hd nk q ih =>
      cases e : g a with
      | none => rfl
      | some u =>
        have e2 := up a u e
        rw [h] at e2
        cases e2
        obtain ⟨vs2, r2, q2⟩ := st.1 a _ e
        have e3 := Rd.one r (keep e r2 fun ps z => by cases z) (fun _ _ z => by cases z) (fun _ _ z => by cases z)
        cases e3
        have rb := RepVs.at_ q2 hv hd
        cases rb with
        | ref e4 => rw [ih] at e4; cases e4
        | kl z1 z2 => exact absurd (.kl z1 z2) nk
    | @tup a b ds vs i d h r hv hd nk q ih =>
      cases e : g a with
      | none => rfl
      | some u =>
        have e2 := up a u e
        rw [h] at e2
        cases e2
        obtain ⟨vs2, r2, q2⟩ := st.1 a _ e
        have e3 := Rd.one r (keep e r2 fun ps z => by cases z) (fun _ _ z => by cases z) (fun _ _ z => by cases z)
        cases e3
        have rb := RepVs.at_ q2 hv hd
        cases rb with
        | ref e4 => rw [ih] at e4; cases e4
        | kl z1 z2 => exact absurd (.kl z1 z2) nk
  refine ⟨⟨fun a u h => ?_, fun a o h => ?_, fun a o h h1 h2 => ?_, f.nm⟩, fun a u e => ?_, st1.2⟩
  · rw [gOff_out fun z => by rw [key a z] at h; cases h]
    exact up a u h
  · by_cases c : Rc C.K g1 H1 p a
    · rw [gOff_in c, key a c]
    · have ne : a ≠ p := fun z => c (z ▸ .base)
      rw [gOff_out c, f.km a o h, gup_ne ne]
  · refine f.hm a o h (fun z => ?_) h2
    by_cases ne : a = p
    · rw [ne, gup_same] at z
      cases z
    · rw [gup_ne ne] at z
      exact h1 z
  · have nc : ¬ Rc C.K g1 H1 p a := fun z => by rw [gOff_in z] at e; cases e
    rw [gOff_out nc] at e
    have x := st1.1 a u e
    cases u with
    | well => exact x
    | dat d =>
      cases d with
      | tuple ds =>
        obtain ⟨vs2, r2, q2⟩ := x
        refine ⟨vs2, r2, q2.of fun i b d e1 e2 e3 => ?_⟩
        by_cases k : RepV C.K (fun _ => none) (.ref b) d
        · exact k.any
        · exact .ref (by rw [gOff_out fun z => nc (.tup e r2 e1 e2 k z)]; exact e3)
      | list ds =>
        obtain ⟨vs2, r2, q2⟩ := x
        refine ⟨vs2, r2, q2.of fun i b d e1 e2 e3 => ?_⟩
        by_cases k : RepV C.K (fun _ => none) (.ref b) d
        · exact k.any
        · exact .ref (by rw [gOff_out fun z => nc (.lst e r2 e1 e2 k z)]; exact e3)
      | _ => exact x.elim
def tLent (i : Nat) (t : TTd) : TTd := fun env Q E => t (frz1 i env) Q E
section
variable {C : CC} {B : Base} {X : Cx} {e : Expr} {t : TTd}
theorem lent1 {g : Gh} {H : Hp} {σ : L2.St} {env : En} {i : Nat} {l : List PyData} {p : Addr} {vs : List V} (st : StOk C g H) (eo : EnvOk C B g H σ env) (e : env[i]? = some (some (.own l))) (hv : σ[i]? = some (some (.ref p))) (n1 : g p = none) (h : H p = some (.lst vs)) (q : RepVs C.K g vs l) :
    StOk C (gup g p (.dat (.list l))) H ∧ EnvOk C B (gup g p (.dat (.list l))) H σ (env.set i (some (.av (.dat (.list l))))) := by
  have m : ∀ a u, g a = some u → gup g p (.dat (.list l)) a = some u := fun a u h2 => by
    rw [gup_ne (fun e => by rw [e, n1] at h2; cases h2)]
    exact h2
  have hi : i < env.length := by
    by_cases z : i < env.length
    · exact z
    · rw [List.getElem?_eq_none (by omega)] at e; cases e
  refine ⟨⟨fun a u e => ?_, st.2⟩, ?_⟩
  · by_cases ha : a = p
    · subst ha
      rw [gup_same] at e
      cases e
      exact ⟨vs, .inl h, RepVs.mono m q⟩
    · rw [gup_ne ha] at e
      exact (st.1 a u e).mono m fun _ h => h
  · have ne : ∀ j l', env[j]? = some (some (.own l')) → j ≠ i → ∀ a, σ[j]? = some (some (.ref a)) → a ≠ p := fun j l' h1 h2 a h3 z => by
      subst z
      exact h2 (eo.sep j i l' l a h1 e h3 hv)
    refine ⟨by simp [eo.len], fun j s hj => ?_, fun j k l1 l2 a h1 h2 h3 h4 => ?_⟩
    · by_cases hji : i = j
      · subst hji
        rw [List.getElem?_set_self hi] at hj
        cases hj
        exact ⟨_, hv, .ref gup_same⟩
      · rw [List.getElem?_set_ne hji] at hj
        obtain ⟨w, e1, r1⟩ := eo.at_ j s hj
        refine ⟨w, e1, ?_⟩
        cases s with
        | av a =>
          cases a with
          | dat d => exact RepV.mono m r1
          | clo k b =>
            obtain ⟨x, e2, c⟩ := r1
            obtain ⟨L, z1, z2, z3⟩ := c.ex
            refine ⟨x, e2, ⟨L, fun q hq => ?_, z2, fun A outer s H1 g1 us vs ds Qd a b c d e => z3 A outer s H1 g1 us vs ds Qd a b c d fun x u z => e x u (m x u z)⟩⟩
            obtain ⟨y1, y2, y3, y4⟩ := z1 q hq
            exact ⟨y1, by rw [gup_ne (fun z => y4 vs (by rw [z, h] at y1; exact (Option.some.inj y1).symm))]; exact y2, y3, y4⟩
          | clr k b =>
            obtain ⟨x, e2, c⟩ := r1
            obtain ⟨L, z1, z2, z3⟩ := c.ex
            refine ⟨x, e2, ⟨L, fun q hq => ?_, z2, fun A outer s H1 g1 us vs ds Qd Ed a b c d e => z3 A outer s H1 g1 us vs ds Qd Ed a b c d fun x u z => e x u (m x u z)⟩⟩
            obtain ⟨y1, y2, y3, y4⟩ := z1 q hq
            exact ⟨y1, by rw [gup_ne (fun z => y4 vs (by rw [z, h] at y1; exact (Option.some.inj y1).symm))]; exact y2, y3, y4⟩
          | well => obtain ⟨x, e2, c⟩ := r1; exact ⟨x, e2, m _ _ c⟩
          | brw _ => exact r1.elim
          | new _ => exact r1.elim
        | own l' =>
          obtain ⟨⟨p', vs', e2, n2, h2, q2⟩, hf2⟩ := r1
          subst e2
          have np := ne j l' hj (Ne.symm hji) p' e1
          exact ⟨⟨p', vs', rfl, by rw [gup_ne np]; exact n2, h2, RepVs.mono m q2⟩, hf2⟩
    · have z1 : i ≠ j := fun z => by subst z; rw [List.getElem?_set_self hi] at h1; cases h1
      have z2 : i ≠ k := fun z => by subst z; rw [List.getElem?_set_self hi] at h2; cases h2
      rw [List.getElem?_set_ne z1] at h1
      rw [List.getElem?_set_ne z2] at h2
      exact eo.sep j k l1 l2 a h1 h2 h3 h4
theorem dt_lent (i : Nat) (h : DT C B X e t) : DT C B X e (tLent i t) := by
  refine ptW h fun σ H Q ⟨g, env, Qd, st, eo, hh, k⟩ => ?_
  unfold tLent frz1 at hh
  split at hh
  · rename_i l e
    obtain ⟨v, hv, ⟨p, vs, rfl, n1, hp, q⟩, _⟩ := eo.at_ i _ e
    obtain ⟨s1, e1⟩ := lent1 st eo e hv n1 hp q
    refine ⟨_, _, Qd, s1, e1, hh, fun b g1 H1 qb f st1 => ?_⟩
    obtain ⟨f2, st2⟩ := lent_off st n1 hp f st1
    exact k b _ H1 qb f2 st2
  · exact ⟨g, env, Qd, st, eo, hh, k⟩
end
theorem w_lentT {i : Nat} {t : TTd} {env : En} {Q : Bool → Prop} {E : XD → Prop} : tLent i t env Q E = t (fzO env[i]? i env) Q E := by
  unfold tLent
  congr 1
end TL
set_option maxHeartbeats 2000000
/-! own errors that keep one thing: made and raised -/
namespace PySem
namespace ErrX
open PySem.W PySem.Calls PyProof.Rows PySem.HandSPX
def iA (f : Str) (p1 p2 : Pos) : Arguments := { posonlyargs := [], args := [{ arg := "self", annotation := none, pos := p1 }, { arg := f, annotation := none, pos := p2 }], vararg := none, kwonlyargs := [], kw_defaults := [], kwarg := none, defaults := [] }
def iB (f : Str) (q1 q2 q3 q4 : Pos) : List Stmt := [.Assign [.Attribute (.Name "self" q1) f q2] (.Name f q3) q4]
def iS (f : Str) : Scope := { kind := .function, names := [(PySem.Str.ofString "self", .local), (f, .local)], isGenerator := false, isCoroutine := false, more := [] }
/-- what the written part says of the error's class x, at C, and of its __init__, at fI -/
structure Txt (K : Frag) (mg : Str → Option Value) (x q f : Str) (C fI : Addr) : Prop where
  gC : mg x = some (.ref C)
  cls : ∃ nm q N bs bm sn sub ab col dd k0 k1 k2 k3 k5, K.lookup C = some (excClassObj nm q C N bs bm true sn sub ab col dd k0 k1 k2 k3 k5 "ValueError.__new__") ∧ refsVE bm = true
  sa : findIn K (.ref C) "__setattr__" = some (some (.builtin "object.__setattr__"))
  ga : findIn K (.ref C) "__getattribute__" = some (some (.builtin "BaseException.__getattribute__"))
  gg : findIn K (.ref C) "__getattr__" = some none
  noN : findIn K (.ref C) f = some none
  iC : findIn K (.ref C) "__init__" = some (some (.ref fI))
  tC : typeIn K (.ref fI) = some (.type "function")
  kC : keepIn K (.ref C) = true
  exC : subIn K (.ref C) (.type "BaseException") = some true
  tyC : typeIn K (.ref C) = some (.type "type")
  hdC : hasDictIn K C = true
  fn : ∃ (oc : Value) (od : Option Addr) (kV doc pm : Value) (an : Option Addr) (cdv ct : Value) (osl : Array (Option Value)) (p1 p2 q1 q2 q3 q4 : Pos),
    K.lookup fI = some ⟨oc, od, .func (fnOf "__init__" q (iA f p1 p2) (iB f q1 q2 q3 q4) (iS f) .none kV doc pm an cdv ct), osl⟩ ∧ codeIn K cdv q = true
theorem one_size (v : Value) : [v].length ≤ sizeLine := by
  rw [sizeLine_eq]
  exact (by decide : 1 ≤ 16777216)
theorem ldC {M : Model} {s : Shared} {name : Str} {scope : Scope} {L a : Addr} {cd : Value} {m : Str → Option Value} {x : Str} {pos : Pos} {v : Value} {Q : Value → Shared → Prop} {A : Around} {E : Value → Shared → Prop} (hn : s.heap.Ns L m) (hv : m x = some v) (h : Q v s)
    (hk : scope.kind = .function := by rfl) (hl : (envOfC name scope L a cd).kindOf x = some .local := by rfl) (hd : (x == ("__debug__" : Str)) = false := by decide) :
    wpAny M A (eval (.Name x pos) (envOfC name scope L a cd)) Q E s := wpAny_Name (wpAny_loadName_local hk hl hn hv h) hd
/-- what __init__ leaves of a fresh exception at x -/
structure InitEnd (f : Str) (h h' : Heap) (x C dx t1 : Addr) (v : Value) : Prop where
  keep : ∀ b o, b ≠ x → h.get? b = some o → h'.get? b = some o
  obj : h'.get? x = some { cls := .ref C, dict := some dx, data := .fields #[.ref t1, .none, .none, .none, .bool false, .none] }
  dbig : h.objs.size ≤ dx
  dne : dx ≠ x
  ns : h'.Ns1 dx (fun y => if y = f then some v else none)
/-- a made error -/
structure OwnMade (f : Str) (h h' : Heap) (e C d : Addr) (v : Value) : Prop where
  keep : ∀ b o, h.get? b = some o → h'.get? b = some o
  new : h.objs.size ≤ e
  obj : ∃ oe vs, h'.get? e = some oe ∧ oe.cls = .ref C ∧ oe.dict = some d ∧ oe.data = .fields vs ∧ vs[1]? = some .none
  dbig : h.objs.size ≤ d
  dne : d ≠ e
  ns : h'.Ns1 d (fun y => if y = f then some v else none)
section
variable {prog : Program} {w : World} {A : Around} {E : Value → Shared → Prop} {R : Result → Shared → Prop} {s : Shared} {K : Frag} {mg : Str → Option Value} {C fI : Addr} {x0 q0 f0 : Str}
theorem err_init (T : Txt K mg x0 q0 f0 C fI) (hf : f0 = "given" ∨ f0 = "index") {x t0 : Addr} {v : Value} (X : K.In s.heap) (hlim : s.heap.NoLimit) (hx : s.heap.get? x = some (excO C t0)) (hnx : K.lookup x = none) (hroom : A.depth < recursionLimit)
    (hq : ∀ h' tk dx, InitEnd f0 s.heap h' x C dx t0 v → R (.ok (.ret .none)) { s with heap := h', toks := tk }) :
    codeAny (model prog w) A (.call (.ref fI) ⟨[.ref x, v], []⟩) R s := by
  obtain ⟨oc, od, kV, doc, pm, an, cdv, ct, osl, p1, p2, q1, q2, q3, q4, ho, hcd⟩ := T.fn
  obtain ⟨nm, q, N, bs, bm, sn, sub, ab, col, dd, k0, k1, k2, k3, k5, hC, hbm⟩ := T.cls
  have hcl : clsIn K C = some { name := nm, bases := bs, mro := .ref C :: bm, ns := N, qualname := q, hasDict := true, slotNames := sn, subclasses := sub, abstract := ab, collection := col, hasDel := false } := by unfold clsIn; rw [hC] <;> rfl
  have noN := T.noN
  have sa := T.sa
  rcases hf with rfl | rfl
  · refine Att.call_fn (binds := [("self", .ref x), ("given", v)]) X hlim ho hcd hroom (BindsTo.of_eq (by first | rfl | with_unfolding_all rfl)) (by first | rfl | decide | with_unfolding_all rfl) (fun s₁ IC => ?_) rfl rfl rfl
    obtain ⟨h₁, tk₁, rfl⟩ := IC.toInCall.same
    have k : ∀ b o, s.heap.get? b = some o → h₁.get? b = some o := IC.toInCall.keep
    have hn := IC.toInCall.ns
    have X₁ : K.In h₁ := X.keeps k
    have hx₁ := k _ _ hx
    show wpAny _ _ (execs _ _) _ _ _
    refine wpAny_execs_cons (plainObj_wpAny_Assign_Attribute ?_)
    refine ldC (v := v) hn (by first | rfl | with_unfolding_all rfl | kernel_rfl) (ldC (v := .ref x) hn (by first | rfl | with_unfolding_all rfl | kernel_rfl) ?_)
    refine set_plain X₁ (ox := excO C t0) (od := none) ⟨hx₁, rfl, rfl, trivial⟩ sa ?_
    refine exc_osa X₁ hx₁ hcl (show refsVE (.ref C :: bm) = true from hbm) rfl noN (fun h₃ tk₃ dx k₃ dn dne hx₃ hn₃ => ?_)
    show wpAny _ _ (execs _ _) _ _ _
    have z : s.heap.objs.size < h₁.objs.size := hn.lt
    exact wpAny_execs_nil (hq h₃ tk₃ dx ⟨fun b o hb e => k₃ b o hb (k b o e), hx₃, Nat.le_of_lt (Nat.lt_of_lt_of_le z dn), dne, hn₃⟩)
  · refine Att.call_fn (binds := [("self", .ref x), ("index", v)]) X hlim ho hcd hroom (BindsTo.of_eq (by first | rfl | with_unfolding_all rfl)) (by first | rfl | decide | with_unfolding_all rfl) (fun s₁ IC => ?_) rfl rfl rfl
    obtain ⟨h₁, tk₁, rfl⟩ := IC.toInCall.same
    have k : ∀ b o, s.heap.get? b = some o → h₁.get? b = some o := IC.toInCall.keep
    have hn := IC.toInCall.ns
    have X₁ : K.In h₁ := X.keeps k
    have hx₁ := k _ _ hx
    show wpAny _ _ (execs _ _) _ _ _
    refine wpAny_execs_cons (plainObj_wpAny_Assign_Attribute ?_)
    refine ldC (v := v) hn (by first | rfl | with_unfolding_all rfl | kernel_rfl) (ldC (v := .ref x) hn (by first | rfl | with_unfolding_all rfl | kernel_rfl) ?_)
    refine set_plain X₁ (ox := excO C t0) (od := none) ⟨hx₁, rfl, rfl, trivial⟩ sa ?_
    refine exc_osa X₁ hx₁ hcl (show refsVE (.ref C :: bm) = true from hbm) rfl noN (fun h₃ tk₃ dx k₃ dn dne hx₃ hn₃ => ?_)
    show wpAny _ _ (execs _ _) _ _ _
    have z : s.heap.objs.size < h₁.objs.size := hn.lt
    exact wpAny_execs_nil (hq h₃ tk₃ dx ⟨fun b o hb e => k₃ b o hb (k b o e), hx₃, Nat.le_of_lt (Nat.lt_of_lt_of_le z dn), dne, hn₃⟩)
theorem err_made (T : Txt K mg x0 q0 f0 C fI) (hf : f0 = "given" ∨ f0 = "index") {v : Value} (X : K.In s.heap) (hlim : s.heap.NoLimit) (hroom : A.depth + 1 < recursionLimit)
    (hq : ∀ h' tk e d, OwnMade f0 s.heap h' e C d v → R (.ok (.ret (.ref e))) { s with heap := h', toks := tk }) :
    codeAny (model prog w) A (.call (.ref C) ⟨[v], []⟩) R s := by
  obtain ⟨nm, q, N, bs, bm, sn, sub, ab, col, dd, k0, k1, k2, k3, k5, hC, hbm⟩ := T.cls
  obtain ⟨hp, g, dr, tk, os⟩ := s
  have k : ∀ b o, hp.get? b = some o → ((hp.push (kdv_tup [v])).push (excO C hp.objs.size)).get? b = some o := fun b o e => Heap.get?_push_of_some _ (Heap.get?_push_of_some _ e)
  have hget : ((hp.push (kdv_tup [v])).push (excO C hp.objs.size)).get? (hp.objs.size + 1) = some (excO C hp.objs.size) := by heap_get
  have hnx : K.lookup (hp.objs.size + 1) = none := by
    cases e : K.lookup (hp.objs.size + 1) with
    | none => rfl
    | some o =>
      have z : hp.get? (hp.objs.size + 1) = some o := X _ _ e
      exact absurd (Nat.lt_of_succ_lt (Heap.lt_size z)) (Nat.lt_irrefl _)
  refine call_own F.excBase_ValueError (fun X => refsVE_contains X bm hbm) (X _ _ hC) (looks_findIn X T.iC) (fun self => bind_fn X self T.tC) (one_size v) ?_
  refine err_init (s := ⟨(hp.push (kdv_tup [v])).push (excO C hp.objs.size), g, dr, tk, os⟩) T hf (X.keeps k) (hlim.keeps k) hget hnx ?_ fun h' tk' dx ⟨k', hx, dn, dne, hns⟩ => ?_
  · show A.depth + 1 < recursionLimit
    exact hroom
  · have old : ∀ b o, hp.get? b = some o → h'.get? b = some o := fun b o e => k' b o (Nat.ne_of_lt (Nat.lt_succ_of_lt (Heap.lt_size e))) (k b o e)
    have z : hp.objs.size + 1 + 1 ≤ dx := by
      first
        | (simpa only [Heap.size_push] using dn)
        | exact dn
        | (have q := dn; rw [Heap.size_push, Heap.size_push] at q; exact q)
    exact ⟨rfl, hq h' tk' (hp.objs.size + 1) dx ⟨old, Nat.le_succ _, ⟨_, _, hx, rfl, rfl, rfl, rfl⟩, Nat.le_trans (Nat.le_trans (Nat.le_succ _) (Nat.le_succ _)) z, dne, hns⟩⟩
end
end ErrX
end PySem
namespace L2
open PySem PySem.Spec PyProof.Rows
theorem relO_err {f0 : Str} {v : V} {v' : Value} (r : RelV v v') (f : Str) : RelO (List.lookup f [(f0, v)]) (if f = f0 then some v' else none) := by
  by_cases hw : f = f0
  · subst hw
    rw [if_pos rfl]
    have q : List.lookup f [(f, v)] = some v := by simp [List.lookup]
    rw [q]
    exact r
  · rw [if_neg hw]
    have qw : (f == f0) = false := by simpa using hw
    have q2 : List.lookup f [(f0, v)] = none := by simp [List.lookup, qw]
    rw [q2]
    trivial
section
variable {X : Cx} {C fI : Addr} {x0 q0 f0 : Str}
/-- the class called with one thing -/
def tMkErr (C : Addr) (f : Str) (ta : TA) : St → Hp → XK → Prop := fun σ H Q => ta σ H fun vs H1 => ∃ v, vs = [v] ∧ ∀ d, H1 d = none → Q (.ref C) (some d) (upd H1 d (.xd [(f, v)]))
theorem pmk_err {a : Expr} {ta : TA} {p pos : Pos} {k : Nat} (T : PySem.ErrX.Txt X.K X.mg x0 q0 f0 C fI) (hf : f0 = "given" ∨ f0 = "index") (hr : Room k X.A) (ha : PA X [a] ta) (hg : Gl X x0) (hdb : (x0 == ("__debug__" : Str)) = false)
    (he : starEach (a :: []) X.env = (false, eval a X.env) :: starEach [] X.env) (hpl : (backTo pos (starEach [] X.env)).any (·.1) = false := by rfl) :
    PMk X (.Call (.Name x0 p) [a] [] pos) (tMkErr C f0 ta) := by
  intro pins s σ H Q I h
  refine wpAny_Call_Name_kw (ld_glob I hg T.gC ?_ hdb)
  refine PySem.W.callWith_K (h₀ := X.base) I.ok.mod.kin T.kC (thn (ha.run pos pins s σ H _ I h) fun us s1 hh => ?_) he hpl
  obtain ⟨vs, H1, I1, r1, v, ev, q1⟩ := hh
  subst ev
  refine ⟨I1.kIn, ?_⟩
  cases r1 with
  | cons rv rn =>
    rename_i v' us'
    cases rn
    show wpAny _ _ (call (.ref C) [v']) _ _ _
    have hlim := I1.nolimit
    obtain ⟨hp, g, dr, tk, os⟩ := s1
    refine wpAny_call (PySem.ErrX.err_made T hf I1.kIn hlim (by have := hr.dp; omega) fun h' tk' e d M => ?_)
    show MkP X pins σ Q (.ref e) ⟨h', g, dr, tk', os⟩
    obtain ⟨oe, fv, hoe, hc, hd, hdat, h1⟩ := M.obj
    have hns := M.ns
    obtain ⟨G', g1, g2⟩ := restrict h' fun b => decide (b ≠ e)
    have gk : ∀ b, b ≠ e → G'.get? b = h'.get? b := fun b hb => g1 b (decide_eq_true hb)
    have ge : G'.get? e = none := g2 e (by simp)
    have old : ∀ b o, hp.get? b = some o → G'.get? b = some o := fun b o q => (gk b (Nat.ne_of_lt (Nat.lt_of_lt_of_le (Heap.lt_size q) M.new))).trans (M.keep b o q)
    have ob : ObjOk X.prog X.w (upd H1 d (.xd [(f0, v)])) G' d (.xd [(f0, v)]) :=
      ⟨_, hns.at (fun o q => (gk d M.dne).trans q), fun f => relO_err rv f⟩
    have J : Inv X pins σ (upd H1 d (.xd [(f0, v)])) ⟨G', g, dr, tk', os⟩ := I1.laid (t' := tk') old M.dbig ob
    refine ⟨e, oe, fv, ⟨G', g, dr, tk', os⟩, _, .ref C, some d, rfl, J, fun b o q => ?_, ge, hoe, ⟨hc, hd⟩, hdat, h1, ?_, rfl, I1.bare, raises_own T.exC T.tyC, q1 d (I1.hok.fresh M.dbig)⟩
    · by_cases hb : b = e
      · have q' : G'.get? b = some o := q
        rw [hb, ge] at q'; cases q'
      · exact (gk b hb).symm.trans q
    · rw [upd_ne (Ne.symm M.dne)]
      exact I1.hok.fresh M.new
end
end L2
set_option maxHeartbeats 1000000
/-! readings that may let errors out -/
namespace TL
open PySem PySem.Spec PyProof.Rows L2 LamX NdefX
/-- what a body begun at B wishes of an error -/
def WR (C : CC) (B : Base) (Ed : XD → Prop) : WX := fun cls d _ H => ResX C B.g B.H Ed cls d H
def atX (Ed : XD → Prop) (t : TSd) : TSd := fun D env _ => t D env Ed
def sCalm (t : TSd) : TSd := fun D env _ => t D env XF
def tCalm (t : TTd) : TTd := fun env Q _ => t env Q XF
def eCalm (t : TEd) : TEd := fun env Q _ => t env Q XF
def iCalm (t : TId) : TId := fun env Q _ => t env Q XF
abbrev DSx (C : CC) (B : Base) (X : Cx) (Ed : XD → Prop) (st : Stmt) (t : TSd) : Prop := DS C B X st (atX Ed t)
abbrev DSsx (C : CC) (B : Base) (X : Cx) (Ed : XD → Prop) (st : List Stmt) (t : TSd) : Prop := DSs C B X st (atX Ed t)
/-- an expression that may let errors out, the whole of its statement -/
def tDx (C : CC) (B : Base) (Ed : XD → Prop) (t : TEd) : TE := fun σ H Q => ∃ g env Qd, StOk C g H ∧ Gr B.g B.H g H ∧ EnvOk C B g H σ env ∧ t env Qd Ed ∧ ∀ v H', Res C g H Qd v H' → Q v H'
abbrev DEx (C : CC) (B : Base) (X : Cx) (Ed : XD → Prop) (e : Expr) (t : TEd) : Prop := PE X e (tDx C B Ed t)
structure FnR (C : CC) (k : Nat) (f : Addr) (fd : FuncData) (ps : List Str) (sp : DSp) : Prop where
  len : ∀ as Q E, sp as Q E → as.length = ps.length
  run : ∀ (A : Around) (outer : List Env) (s : Shared) (H : Hp) (g : Gh) (args : Args) (us : List Value) (vs : List V) (as : List AV) (Qd : AV → Prop) (Ed : XD → Prop), Room k A → A.guards = some [] → Env0 C.P C.w C.K C.mg C.base A outer s H → BindsTo s fd args (ps.zip us) → Vals vs us →
    StOk C g H → Paired (RepA C g H) vs as → sp as Qd Ed → codeAny (model C.P C.w) A (.call (.ref f) args) (CR (L2.CX C.P C.w) outer C.P C.w H s (ResC C g H Qd) (ResX C g H Ed)) s
/-- a def that lets no error out, as one that may -/
theorem FnG.r {C : CC} {k : Nat} {f : Addr} {fd : FuncData} {ps : List Str} {sp : DSp} (F : FnG C k f fd ps sp) : FnR C k f fd ps (fun as Q _ => sp as Q XF) :=
  ⟨fun as Q E h => F.len as Q XF h, fun A outer s H g args us vs as Qd Ed a b c d e st r q => codeAny_mono (F.run A outer s H g args us vs as Qd a b c d e st r q) fun r s' hq => by
    cases r with
    | error x => exact hq.elim
    | ok fl => cases fl <;> exact hq⟩
structure DefR (C : CC) (k : Nat) (x : Str) (ps : List Str) (sp : DSp) : Prop where
  ex : ∃ f fd, C.mg x = some (.ref f) ∧ PySem.W.keepIn C.K (.ref f) = true ∧ FnR C k f fd ps sp ∧
    (∀ (s : Shared) (us : List Value), us.length = ps.length → BindsTo s fd ⟨us, []⟩ (ps.zip us))
def eCallR (sp : DSp) (t : TAd) : TEd := fun env Q E => t env (fun as => sp as Q E) XF
def sRaise1 (x f : Str) (te : TEd) : TSd := fun _ env E => te env (fun a => match a.sd with
  | some d => E (x, .tuple [.str f, d])
  | none => False) XF
section
variable {C : CC} {B : Base} {X : Cx} {Ed : XD → Prop} {st : Stmt} {a b ss : List Stmt} {e : Expr} {es : List Expr} {t ta tb : TSd} {tt : TTd} {te : TEd} {tas : TAd} {p pos : Pos}
theorem dsx_calm (h : DS C B X st t) : DSx C B X Ed st (sCalm t) := h
theorem dsx_if (hc : DT C B X e tt) (ha : DSsx C B X Ed a ta) (hb : DSsx C B X Ed b tb) : DSx C B X Ed (.If e a b pos) (sIf (tCalm tt) ta tb) := psW (ds_if (pos := pos) hc ha hb) fun _ _ _ h => h
theorem dssx_nil : DSsx C B X Ed [] sNext := dss_nil
theorem dssx_cons (h : DSx C B X Ed st t) (hr : DSsx C B X Ed ss ta) : DSsx C B X Ed (st :: ss) (sSeq t ta) := pssW (dss_cons h hr) fun _ _ _ h => h
/-- raise X(e), X an own error that keeps one thing -/
theorem dsx_raise {x q f : Str} {Cc fI : Addr} {k : Nat} (xo : XOk C X) (tk : Takes X (WR C B Ed)) (T : PySem.ErrX.Txt C.K C.mg x q f Cc fI) (hf : f = "given" ∨ f = "index") (hr : Room k X.A) (hg : Gl X x) (hdb : (x == ("__debug__" : Str)) = false) (ha : DE C B X e te) (hs : isStar e = false) :
    DSx C B X Ed (.Raise (some (.Call (.Name x p) [e] [] pos)) none pos2) (sRaise1 x f te) := by
  have T2 : PySem.ErrX.Txt X.K X.mg x q f Cc fI := by rw [xo.K, xo.mg]; exact T
  refine psW (ps_raise xo.calm tk (pmk_err T2 hf hr (pa_cons ha pa_nil (star_cons _ _ _ hs)) hg hdb (star_cons _ _ _ hs))) fun D σ H ⟨g, env, Dd, st, fb, eo, h, ends⟩ => ?_
  refine ⟨g, env, _, st, eo, h, fun v H' ⟨a, g', q, f', st', r, n⟩ => ?_⟩
  refine ⟨v, rfl, fun d hd => ?_⟩
  try dsimp only at q
  split at q
  · rename_i dv eb
    obtain ⟨g2, f2, st2, r2, m2⟩ := freeze st f' st' r n (sd_st eb)
    exact ⟨_, g2, q, fb.trans (f2.trans (Gr.fresh hd)), st2.fresh hd, T.gC, .inr ⟨d, f, v, dv, rfl, upd_same, rfl, r2⟩⟩
  · exact q.elim
theorem ResX.up {g : Gh} {H : Hp} (fb : Gr B.g B.H g H) {cls : Value} {d : Option Addr} {H' : Hp} (r : ResX C g H Ed cls d H') : ResX C B.g B.H Ed cls d H' := by
  obtain ⟨x, g', q, f, st, er⟩ := r
  exact ⟨x, g', q, fb.trans f, st, er⟩
theorem run_r {k : Nat} {f : Addr} {fd : FuncData} {ps : List Str} {sp : DSp} {pins : List (Addr × Obj)} {σ : L2.St} {H : Hp} {s : Shared} {g : Gh} {Qd : AV → Prop} {pos' : List Value} {kw : List (Str × Value)} {us : List Value} {vs : List V} {as : List AV} (xo : XOk C X) (tk : Takes X (WR C B Ed)) (F : FnR C k f fd ps sp) (hr : Room k X.A)
    (hb : BindsTo s fd ⟨pos', kw⟩ (ps.zip us)) (I : L2.Inv X pins σ H s) (r : Vals vs us) (st : StOk C g H) (fb : Gr B.g B.H g H) (ra : Paired (RepA C g H) vs as) (h : sp as Qd Ed) : wpAny (model X.prog X.w) X.A (call (.ref f) pos' kw) (EP X pins σ (ResC C g H Qd)) X.xe s := by
  have e0 := I.env0
  rw [xo.P, xo.w, xo.K, xo.mg, xo.base] at e0
  have c := F.run X.A X.stack s H g ⟨pos', kw⟩ us vs as Qd Ed hr xo.gd e0 hb r st ra h
  rw [← xo.P, ← xo.w] at c
  refine wpAny_call (codeAny_mono c fun r s' hq => ?_)
  cases r with
  | error e => exact passes_call tk (E := ResX C g H Ed) (fun cls d σ H' z => ResX.up fb z) pins σ H s e s' I hq
  | ok fl =>
    cases fl with
    | ret u => exact I.after hq
    | _ => exact False.elim hq
/-- f(a, ..), f a def of the text that may let errors out -/
theorem dex_call {k : Nat} {x : Str} {ps : List Str} {sp : DSp} (xo : XOk C X) (tk : Takes X (WR C B Ed)) (F : DefR C k x ps sp) (hr : Room k X.A) (hg : Gl X x) (ha : DA C B X (e :: es) tas) (hdb : (x == ("__debug__" : Str)) = false) (hs0 : isStar e = false) (hs : es.any isStar = false) :
    DEx C B X Ed (.Call (.Name x p) (e :: es) [] pos) (eCallR sp tas) := by
  obtain ⟨f, fd, hm, hk, F, hb⟩ := F.ex
  rw [← xo.mg] at hm
  rw [← xo.K] at hk
  refine ⟨fun pins s σ H Q I h => ?_⟩
  obtain ⟨g, env, Qd, st, fb, eo, h, kk⟩ := h
  refine wpAny_Call_Name_kw (ld_glob I hg hm ?_ hdb)
  refine PySem.W.callWith_K (h₀ := X.base) I.ok.mod.kin hk (thn (ha.run pos pins s σ H (fun vs H1 => ∃ as g1, sp as Qd Ed ∧ Gr g H g1 H1 ∧ StOk C g1 H1 ∧ Paired (RepA C g1 H1) vs as) I ⟨g, env, _, st, eo, h, fun vs as g1 H1 q f1 st1 r1 => ⟨as, g1, q, f1, st1, r1⟩⟩) fun us s1 ⟨vs, H1, I1, r, as, g1, q, f1, st1, ra⟩ => ⟨I1.kIn, ?_⟩) (star_cons _ _ _ hs0) (noStar _ hs)
  refine thn (run_r xo tk F hr (hb s1 us ?_) I1 r st1 (fb.trans f1) ra q) fun u s2 ⟨v, H2, I2, rv, rc⟩ => ⟨v, H2, I2, rv, kk v H2 (rc.res f1)⟩
  rw [← r.length, Paired.len ra, F.len _ _ _ q]
theorem dsx_expr (he : DEx C B X Ed e te) (hs : swapsWith e none pos.line X.env = pure false) : DSx C B X Ed (.Expr e pos) (sDrop te) := by
  refine psW (ps_expr he hs) fun D σ H ⟨g, env, Dd, st, fb, eo, h, ends⟩ => ?_
  exact ⟨g, env, _, st, fb, eo, h, fun v H' ⟨a, g', q, f, st', _, _⟩ => ends.nx _ _ g' H' q ⟨f.gm, st', fb.trans f⟩ (eo.fr f)⟩
theorem dsx_ret (he : DEx C B X Ed e te) : DSx C B X Ed (.Return (some e) pos) (sRet te) := by
  refine psW (ps_ret he) fun D σ H ⟨g, env, Dd, st, fb, eo, h, ends⟩ => ?_
  refine ⟨g, env, _, st, fb, eo, h, fun v H' ⟨a, g', q, f, st', r, n⟩ => ?_⟩
  try dsimp only at q
  split at q
  · rename_i b eb
    obtain ⟨g2, f2, st2, r2, m2⟩ := freeze st f st' r n eb
    exact ends.rt _ _ g2 H' q ⟨f2.gm, st2, fb.trans f2⟩ r2
  · exact q.elim
/-- a def's promise from its body's reading, errors let out -/
theorem fnr_of {N : List Str} {q : Str} {k : Nat} {x : Str} {params : Arguments} {body : List Stmt} {scope : Scope} {f : Addr} {fd : FuncData} {ps : List Str} {den : TSd} (tb : Bool) (F : FunD C.K x q params body scope [] [] f fd) (S : FnScope N ps scope)
    (ht : tb = true → ∃ c P, fd.code = .ref c ∧ TabB C.base C.mg c P ∧ P ∈ C.T)
    (hbody : ∀ (X : Cx) (B : Base) (Ed : XD → Prop), BX C N (q ++ ".<locals>.") scope k X → (tb = true → TabX C X) → Takes X (WR C B Ed) → DSsx C B X Ed body den) : FnR C (k + 1) f fd ps (mkSp N ps.length den) := by
  refine ⟨fun as Q E h => h.1, fun A outer s H g args us vs as Qd Ed hr hgd e0 hb rv st ra h => ?_⟩
  obtain ⟨oc, od, dV, kV, doc, pm, an, cdv, ct, osl, rfl, lk, hcd, _, _⟩ := F.ex
  obtain ⟨h1, h2, h3⟩ := h
  refine run_ofS (N := N) lk hcd S hr e0 hb rv (by rw [Paired.len ra]; exact h1) fun hr' => ?_
  have D := hbody (cxOf (L2.CX C.P C.w) C.P C.w C.K C.mg C.base N q scope f cdv A outer s H (ResX C g H Ed)) ⟨g, H⟩ Ed ⟨⟨⟨rfl, rfl, rfl, rfl, rfl, rfl, S.nd, hgd⟩, rfl, rfl, hr'⟩, fun _ => rfl, PassesOwn.leaving, rfl⟩ (fun t => (let ⟨c, P, e, t1, t2⟩ := ht t; ⟨c, P, t1, e, t2⟩)) (takes_of rfl rfl rfl rfl)
  refine ⟨_, D, ⟨g, _, _, st, .refl, start_env ra h2, h3, ⟨fun env σ g' H' a b c => ?_, fun env σ g' H' a b c => a.elim, fun env σ g' H' a b c => a.elim, fun a v g' H' z b c => ?_⟩⟩⟩
  · exact ⟨.dat .none, g', a, b.fb, b.st, .non, rfl⟩
  · exact ⟨a, g', z.2, b.fb, b.st, c, z.1⟩
end
end TL
set_option maxHeartbeats 1000000
/-! lambdas that may let errors out -/
namespace TL
open PySem PySem.Spec PyProof.Rows L2 LamX NdefX
def lamR (N : List Str) (n : Nat) (tb : TEd) (caps : En) : BehR := fun ds Qd E => ds.length = n ∧ tb (envL N ds caps) (fun a => match a.sd with
  | some d => Qd d
  | none => False) E
section
variable {C : CC} {B : Base} {X : Cx} {pins : List (Addr × Obj)} {σ : L2.St} {H1 : Hp} {s1 : Shared} {g : Gh} {env : En} {params : Arguments} {body : Expr} {scope : Scope} {f c' : Addr} {N ps fr : List Str} {js : List Nat} {k : Nat} {tb : TEd}
structure LamXR (C : CC) (N : List Str) (F : NF) (k : Nat) (X : Cx) : Prop where
  ex : ∃ (f : Addr) (A : Around) (outer : List Env) (s : Shared) (H : Hp) (E : XK), X = ncx (L2.CX C.P C.w) C.P C.w C.K C.mg C.base N F f A outer s H E ∧ Room k X.A ∧ X.A.guards = some []
/-- an error left a body whose cells were let go: they are locked again -/
theorem relock {cs : List Addr} {H2 : Hp} {g2 : Gh} {s2 s' : Shared} {outer : List Env} {Ed : XD → Prop} {u : Value} (st2 : StOk C g2 H2) (lk : Locked cs H2) (hok2 : HOk C.P C.w H2 s2.heap) (frs3 : ∀ b ∈ frs outer, b ∉ cs)
    (h : L2.CX C.P C.w outer (letH cs H2) s2 (ResX C g2 (letH cs H2) Ed) u s') : L2.CX C.P C.w outer H2 s2 (ResX C g2 H2 Ed) u s' := by
  obtain ⟨a, Bh, H', cls, d, rfl, fly, hokB, ub, na, os, ag, x, g', q, f1, st', er⟩ := h
  have none3 : ∀ b, H2 b = none → letH cs H2 b = none := fun b e => by
    by_cases z : b ∈ cs
    · exact letH_in z
    · exact (letH_ne z).trans e
  have cell2 : ∀ b ∈ cs, ∃ o, H2 b = some (.frz o Tru) ∧ s2.heap.get? b = some o := fun b hb => by
    obtain ⟨o, h⟩ := lk b hb
    obtain ⟨z, _⟩ := hok2 b _ h
    exact ⟨o, h, z⟩
  have old : ∀ b ∈ cs, H' b = none ∧ ∃ o, H2 b = some (.frz o Tru) ∧ Bh.get? b = some o := fun b hb => by
    obtain ⟨o, h, z⟩ := cell2 b hb
    exact ⟨ub.free b o z (letH_in hb), o, h, ub.keep b o z (letH_in hb) fun y => frs3 b y hb⟩
  let HF : Hp := fun b => if b ∈ cs then H2 b else H' b
  have HFin : ∀ b, b ∈ cs → HF b = H2 b := fun b hb => if_pos hb
  have HFne : ∀ b, b ∉ cs → HF b = H' b := fun b hb => if_neg hb
  have up : ∀ b o, H' b = some o → HF b = some o := fun b o e => by
    rw [HFne b fun z => by rw [(old b z).1] at e; cases e]
    exact e
  have nac : a ∉ cs := fun z => by
    obtain ⟨_, o, _, e⟩ := old a z
    have := fly.2.1
    rw [e] at this
    cases this
  refine ⟨a, Bh, HF, cls, d, rfl, fly, ?_, ⟨fun b o e n hb => ?_, fun b o e hb => ?_, fun b o e n => ?_, ub.there, fun b xs e => ?_, fun b o xs e => ?_, fun b ps e => ?_⟩, by rw [HFne a nac]; exact na, os, ag, x, g', q, ?_, more_st up st', ?_⟩
  · intro b o e
    by_cases nb : b ∈ cs
    · rw [HFin b nb] at e
      obtain ⟨_, o', h, z⟩ := old b nb
      rw [h] at e
      cases e
      exact ⟨z, trivial, ⟨_, z⟩, fun _ _ _ _ => trivial⟩
    · rw [HFne b nb] at e
      exact (hokB b o e).stay (fun c u _ q => q) (fun c q => up c _ q) fun c xs q => up c _ q
  · exact ub.keep b o e (none3 b n) hb
  · exact ub.slot b o e hb
  · have nb : b ∉ cs := fun z => by obtain ⟨o, h⟩ := lk b z; rw [n] at h; cases h
    rw [HFne b nb]
    exact ub.free b o e (none3 b n)
  · have nb : b ∉ cs := fun z => by obtain ⟨o, h⟩ := lk b z; rw [e] at h; cases h
    rw [HFne b nb]
    exact ub.tups b xs ((letH_ne nb).trans e)
  · by_cases nb : b ∈ cs
    · rw [HFin b nb]; exact e
    · rw [HFne b nb]
      exact ub.frzs b o xs ((letH_ne nb).trans e)
  · have nb : b ∉ cs := fun z => by obtain ⟨o, h⟩ := lk b z; rw [e] at h; cases h
    rw [HFne b nb]
    exact ub.tbls b ps ((letH_ne nb).trans e)
  · refine ⟨f1.gm, fun b o e => ?_, fun b o e n1 n2 => ?_, fun b e => ?_⟩
    · by_cases nb : b ∈ cs
      · obtain ⟨o', h⟩ := lk b nb
        rw [st'.1.none_of (old b nb).1, ghost_lock st2 h]
      · exact f1.km b o ((letH_ne nb).trans e)
    · by_cases nb : b ∈ cs
      · rw [HFin b nb]; exact e
      · rw [HFne b nb]
        exact f1.hm b o ((letH_ne nb).trans e) n1 n2
    · by_cases nb : b ∈ cs
      · rw [HFin b nb] at e; exact e
      · rw [HFne b nb] at e
        have := f1.nm b e
        rw [letH_ne nb] at this
        exact this
  · obtain ⟨m, z⟩ := er
    refine ⟨m, ?_⟩
    rcases z with z | ⟨dd, fl, v, p, e1, e2, e3, e4⟩
    · exact .inl z
    · exact .inr ⟨dd, fl, v, p, e1, up _ _ e2, e3, e4⟩
theorem clr_of (xo : XOk C X) (I : L2.Inv X pins σ H1 s1) (st : StOk C g H1) (eo : EnvOk C B g H1 σ env) (hf : H1 f = some (LamO f (lamF X params scope c') body)) (hc : H1 c' = some (CodeO c' (X.env.qual ++ "<lambda>")))
    (hfree : ∀ y ∈ scope.names, y.2 = .free → X.env.scope.names.lookup y.1 = some .cell ∨ X.env.scope.names.lookup y.1 = some .free) (hfr : ∀ y ∈ fr, (y, NameKind.free) ∈ scope.names) (hjs : js.map (fun j => X.N[j]?) = fr.map some)
    (S : NScope N ps fr scope) (hb : ∀ (q : Str) (cl : List (Str × Addr)) (pm cv ctv : Value) (us : List Value), us.length = ps.length → bindArgs (PySem.W.kla_fn "<lambda>" q params body scope cl pm cv ctv) ⟨us, []⟩ = pure (ps.zip us))
    (hbody : ∀ (X' : Cx) (B' : Base) (Ed : XD → Prop), LamXR C N (lamF X params scope c') k X' → Takes X' (WR C B' Ed) → DEx C B' X' Ed body tb) :
    CloR C g (lockH (cellsOf (cloFrom X.env.cells scope.names [])) s1.heap H1) f (k + 1) (lamR N ps.length tb (js.map (capAt env))) := by
  have hfreeC : ∀ y ∈ scope.names, y.2 = .free → ∃ c, X.env.cells.lookup y.1 = some c := fun y hy e => (hfree y hy e).elim (fun z => I.ok.has _ (.inl z)) fun z => I.ok.has _ (.inr z)
  have CA1 := cells_of I (Caps.made I.ok hfree hfr hjs)
  generalize hcs : cellsOf (cloFrom X.env.cells scope.names []) = cs
  have cell : ∀ a ∈ cs, H1 a = none ∧ ∃ o, s1.heap.get? a = some o := fun a ha => by
    rw [← hcs] at ha
    obtain ⟨y, hy, e⟩ := cl_lookup hfreeC ha
    obtain ⟨v, o, z, _⟩ := I.cell y a e
    exact ⟨I.freeC y a e, o, z⟩
  have nf : f ∉ cs := fun z => by rw [(cell f z).1] at hf; cases hf
  have nc : c' ∉ cs := fun z => by rw [(cell c' z).1] at hc; cases hc
  have gf : g f = none := ghost_ext st hf
  have gc : g c' = none := ghost_ext st hc
  let L : List (Addr × HO) := (f, LamO f (lamF X params scope c') body) :: (c', CodeO c' (X.env.qual ++ "<lambda>")) :: cs.filterMap fun a => (s1.heap.get? a).map fun o => (a, HO.frz o Tru)
  have memL : ∀ a ∈ cs, ∃ o, s1.heap.get? a = some o ∧ (a, HO.frz o Tru) ∈ L := fun a ha => by
    obtain ⟨_, o, e⟩ := cell a ha
    exact ⟨o, e, List.mem_cons_of_mem _ (List.mem_cons_of_mem _ (List.mem_filterMap.mpr ⟨a, ha, by rw [e]; rfl⟩))⟩
  refine ⟨L, fun p hp => ?_, fun H2 h hok hL => ?_, fun A outer s2 H2 g2 us vs ds Qd Ed hr hgd e0 hL hle st2 rv rd hq => ?_⟩
  · rcases List.mem_cons.mp hp with rfl | hp
    · exact ⟨(lockH_ne nf).trans hf, gf, fun ps z => (by simp [LamO] at z), fun xs z => (by simp [LamO] at z)⟩
    · rcases List.mem_cons.mp hp with rfl | hp
      · exact ⟨(lockH_ne nc).trans hc, gc, fun ps z => (by simp [CodeO] at z), fun xs z => (by simp [CodeO] at z)⟩
      · obtain ⟨a, ha, e⟩ := List.mem_filterMap.mp hp
        obtain ⟨n, o, ho⟩ := cell a ha
        rw [ho] at e
        cases e
        exact ⟨lockH_in ha ho, st.1.none_of n, fun ps z => (by cases z), fun xs z => (by cases z)⟩
  · have z := hok f _ (hL _ (List.mem_cons_self ..))
    obtain ⟨⟨pm, ctv, e⟩, _, _⟩ := z
    exact ⟨_, _, _, _, e⟩
  · obtain ⟨hlen, hq⟩ := hq
    have h2f := hL _ (show (f, LamO f (lamF X params scope c') body) ∈ L from List.mem_cons_self ..)
    have h2c := hL _ (show (c', CodeO c' (X.env.qual ++ "<lambda>")) ∈ L from List.mem_cons_of_mem _ (List.mem_cons_self ..))
    have cell2 : ∀ a ∈ cs, ∃ o, s1.heap.get? a = some o ∧ H2 a = some (.frz o Tru) ∧ s2.heap.get? a = some o := fun a ha => by
      obtain ⟨o, e, m⟩ := memL a ha
      have h := hL _ m
      obtain ⟨z, _⟩ := e0.hok a _ h
      exact ⟨o, e, h, z⟩
    have lk : Locked cs H2 := fun a ha => let ⟨o, _, h, _⟩ := cell2 a ha; ⟨o, h⟩
    have hok3 := let_hok lk e0.hok
    have st3 := let_st lk st2
    have frs3 : ∀ b ∈ frs outer, b ∉ cs := fun b hb z => by
      obtain ⟨o, h⟩ := lk b z
      rw [e0.frf b hb] at h; cases h
    have none3 : ∀ b, H2 b = none → letH cs H2 b = none := fun b e => by
      by_cases z : b ∈ cs
      · exact letH_in z
      · exact (letH_ne z).trans e
    have e3 : Env0 C.P C.w C.K C.mg C.base A outer s2 (letH cs H2) := ⟨e0.frames, e0.mod, fun b o e => ⟨(e0.bs b o e).1, none3 b (e0.bs b o e).2⟩, e0.bsz, e0.funs, fun b hb => none3 b (e0.frf b hb), hok3, e0.bare⟩
    obtain ⟨⟨pm, ctv, hof⟩, _, _⟩ := e0.hok f _ h2f
    obtain ⟨⟨oc, vs', t, hoc, hdc, hvc⟩, _, _⟩ := e0.hok c' _ h2c
    have lim : s2.heap.NoLimit := e0.mod.nolimit.keeps fun b o e => (e0.bs b o e).1
    have lookM : ∀ y c, (cloFrom X.env.cells scope.names []).lookup y = some c → c ∈ cs := fun y c e => by
      rw [← hcs]
      exact List.mem_map.mpr ⟨(y, c), PySem.mem_of_lookup e, rfl⟩
    have cellK : ∀ y c, (cloFrom X.env.cells scope.names []).lookup y = some c → ∀ v, s1.heap.IsCell c v → s2.heap.IsCell c v := fun y c e v ⟨o, ho, hd⟩ => by
      obtain ⟨o', h1, _, h3⟩ := cell2 c (lookM y c e)
      rw [ho] at h1; cases h1
      exact ⟨o, h3, hd⟩
    have CA : CellsAt (cloFrom X.env.cells scope.names []) fr (js.map (slotAt σ)) s2.heap (letH cs H2) := by
      refine ⟨CA1.len, fun y c e => ⟨letH_in (lookM y c e), ?_⟩, CA1.inj, fun i y e => ?_⟩
      · obtain ⟨v, z⟩ := (CA1.all y c e).2
        exact ⟨v, cellK y c e v z⟩
      · obtain ⟨c, hc2, hv⟩ := CA1.has i y e
        refine ⟨c, hc2, fun v ev => ?_⟩
        obtain ⟨u, r, z⟩ := hv v ev
        exact ⟨u, r, cellK y c hc2 _ z⟩
    have hvl : vs.length = ps.length := by rw [Paired.len rd]; exact hlen
    refine PySem.W.kla_callFunE hr.depth hof rfl S.co S.gen rfl ⟨c', oc, vs', t, rfl, hoc, hdc, hvc⟩ ?_
    rw [hb _ _ _ _ _ us (by rw [← rv.length]; exact hvl)]
    refine wpAny_pure (wpAny_newFunctionEnv S.nocell (fun ⟨n, _⟩ hy => S.par n (List.of_mem_zip hy).1) (fun h₁ hns hsb => ⟨lim.fresh _ hsb, ?_⟩) S.kind)
    show codeAny _ _ (.expr body (envF (lamF X params scope c') f s2.heap.objs.size)) _ _
    refine PySem.W.kla_codeExpr ?_
    have kp : ∀ b o, s2.heap.get? b = some o → h₁.get? b = some o := fun b o e => hsb.extBut b o (Nat.ne_of_lt (Heap.lt_size e)) (Heap.get?_push_of_some _ e)
    have J := inv_startN (CX := L2.CX C.P C.w) (N := N) (F := lamF X params scope c') (f := f) (E := ResX C g2 (letH cs H2) Ed) (tk := s2.toks + (ps.zip us).length) S hr.hd e3 hvl rv CA hns kp
    have D := hbody _ ⟨g2, letH cs H2⟩ Ed ⟨f, A, outer, s2, letH cs H2, _, rfl, hr.deeper _, hgd⟩ (takes_of rfl rfl rfl rfl)
    have envok : EnvOk C ⟨g2, letH cs H2⟩ g2 (letH cs H2) (startF N vs (js.map (slotAt σ))) (envL N ds (js.map (capAt env))) := by
      refine envOk_of (pairedApp (dslots rd) (pairedApp (capslots (H2 := letH cs H2) eo hle js) ?_))
      rw [show N.length - ds.length - (js.map (capAt env)).length = N.length - vs.length - (js.map (slotAt σ)).length by rw [List.length_map, List.length_map, Paired.len rd]]
      exact nones _
    refine wpAny_mono (D.run [] _ _ (letH cs H2) (fun v H' => ∃ d g', Qd d ∧ Gr g2 (letH cs H2) g' H' ∧ StOk C g' H' ∧ RepV C.K g' v d) J ⟨g2, _, _, st3, .refl, envok, hq, fun v H' ⟨a, g', q, f1, st', r, n⟩ => ?_⟩) (fun u s' h => ?_) fun e s' h => wpAny_mono h (fun _ s'' c => ?_) fun _ _ c => ?_
    · dsimp only at q
      split at q
      · rename_i d ed
        obtain ⟨g4, f4, st4, r4, _⟩ := freeze st3 f1 st' r n (sd_st ed)
        exact ⟨d, g4, q, f4, st4, r4⟩
      · exact q.elim
    · obtain ⟨v, H', J', rv', d, g', q, f1, st', r'⟩ := h
      -- the cells are locked again
      have un := J'.base
      have old : ∀ a ∈ cs, H' a = none ∧ ∃ o, H2 a = some (.frz o Tru) ∧ s'.heap.get? a = some o := fun a ha => by
        obtain ⟨o, _, h, z⟩ := cell2 a ha
        exact ⟨un.free a o z (letH_in ha) (by exact fun z => nomatch z), o, h, un.keep a o z (letH_in ha) (fun y => frs3 a y ha) (by exact fun z => nomatch z)⟩
      let HF : Hp := fun a => if a ∈ cs then H2 a else H' a
      have HFin : ∀ a, a ∈ cs → HF a = H2 a := fun a ha => if_pos ha
      have HFne : ∀ a, a ∉ cs → HF a = H' a := fun a ha => if_neg ha
      have up : ∀ a o, H' a = some o → HF a = some o := fun a o e => by
        rw [HFne a fun z => by rw [(old a z).1] at e; cases e]
        exact e
      refine ⟨v, HF, J'.os, J'.bare, ?_, ?_, rv', d, g', q, ?_, more_st up st', r'⟩
      · refine ⟨fun b o e n hb hx => ?_, fun b o e n hb hx => ?_, fun b o e n hx => ?_, un.there, fun b xs e => ?_, fun b o u e => ?_, fun b ps e => ?_⟩
        · exact un.keep b o e (none3 b n) hb hx
        · exact un.slot b o e (none3 b n) hb hx
        · have nb : b ∉ cs := fun z => by obtain ⟨o, h⟩ := lk b z; rw [n] at h; cases h
          rw [HFne b nb]
          exact un.free b o e (none3 b n) hx
        · have nb : b ∉ cs := fun z => by obtain ⟨o, h⟩ := lk b z; rw [e] at h; cases h
          rw [HFne b nb]
          exact un.tups b xs ((letH_ne nb).trans e)
        · by_cases nb : b ∈ cs
          · rw [HFin b nb]; exact e
          · rw [HFne b nb]
            exact un.frzs b o u ((letH_ne nb).trans e)
        · have nb : b ∉ cs := fun z => by obtain ⟨o, h⟩ := lk b z; rw [e] at h; cases h
          rw [HFne b nb]
          exact un.tbls b ps ((letH_ne nb).trans e)
      · intro a o e
        by_cases na : a ∈ cs
        · rw [HFin a na] at e
          obtain ⟨_, o', h, z⟩ := old a na
          rw [h] at e
          cases e
          exact ⟨z, trivial, ⟨_, z⟩, fun _ _ _ _ => trivial⟩
        · rw [HFne a na] at e
          exact (J'.hok a o e).stay (fun b u _ q => q) (fun b q => up b _ q) fun b xs q => up b _ q
      · refine ⟨f1.gm, fun a o e => ?_, fun a o e n1 n2 => ?_, fun a e => ?_⟩
        · by_cases na : a ∈ cs
          · obtain ⟨o', h⟩ := lk a na
            rw [st'.1.none_of (old a na).1, ghost_lock st2 h]
          · exact f1.km a o ((letH_ne na).trans e)
        · by_cases na : a ∈ cs
          · rw [HFin a na]; exact e
          · rw [HFne a na]
            exact f1.hm a o ((letH_ne na).trans e) n1 n2
        · by_cases na : a ∈ cs
          · rw [HFin a na] at e; exact e
          · rw [HFne a na] at e
            have := f1.nm a e
            rw [letH_ne na] at this
            exact this
    · exact relock st2 lk e0.hok frs3 c
    · exact relock st2 lk e0.hok frs3 c
end
end TL
set_option maxHeartbeats 1000000
/-! a def that is handed a lambda which may let errors out; a name's function called; several except clauses with a name -/
namespace TL
open PySem PySem.Spec PyProof.Rows L2 LamX NdefX
def mkLamR (N : List Str) (n k : Nat) (tb : TEd) (js : List Nat) (env : En) : AV := .clr (k + 1) (lamR N n tb (js.map (capAt env)))
section
variable {C : CC} {B : Base} {X : Cx} {a e : Expr} {es : List Expr} {ta te : TEd} {t : TAd} {p pos lpos : Pos} {params : Arguments} {body : Expr} {scope : Scope} {N ps fr : List Str} {js : List Nat}
theorem de_callLR {k m : Nat} {x : Str} {qs : List Str} {sp : DSp} {tb : TEd} (xo : XOk C X) (F : Def C k x qs sp) (hr : Room k X.A) (hg : Gl X x) (lo : LamOk C X params scope lpos N ps fr js)
    (hfn : ∀ y, X.fn y = true) (hbody : ∀ (c' : Addr) (X' : Cx) (B' : Base) (Ed : XD → Prop), LamXR C N (lamF X params scope c') m X' → Takes X' (WR C B' Ed) → DEx C B' X' Ed body tb) (hdb : (x == ("__debug__" : Str)) = false) :
    DE C B X (.Call (.Name x p) [.Lambda params body scope lpos] [] pos) (eCallL sp (mkLamR N ps.length m tb js) aNil) := by
  have ha : DL C B X [.Lambda params body scope lpos] params body scope aNil := dl_one lo
  obtain ⟨f, fd, hm, hk, F, hb⟩ := F.ex
  rw [← xo.mg] at hm
  rw [← xo.K] at hk
  refine ⟨fun pins s σ H Q I h => ?_⟩
  obtain ⟨g, env, Qd, st, eo, h, kk⟩ := h
  refine wpAny_Call_Name_kw (ld_glob I hg hm ?_ hdb)
  refine PySem.W.callWith_K (h₀ := X.base) I.ok.mod.kin hk (thn (ha.run pos pins s σ H (fun vs H1 => ∃ ws as g1 f c', vs = ws ++ [.ref f] ∧ sp (as ++ [mkLamR N ps.length m tb js env]) Qd XF ∧ Gr g H g1 H1 ∧ StOk C g1 H1 ∧ Paired (RepA C g1 H1) ws as ∧ H1 f = some (LamO f (lamF X params scope c') body) ∧ H1 c' = some (CodeO c' (X.env.qual ++ "<lambda>")))
    I ⟨g, env, _, st, eo, h, fun vs as g1 H1 f c' q f1 st1 r1 l1 l2 => ⟨vs, as, g1, f, c', rfl, q, f1, st1, r1, l1, l2⟩⟩) fun us s1 ⟨vs, H1, I1, r, ws, as, g1, fl, c', evs, q, f1, st1, ra, l1, l2⟩ => ⟨I1.kIn, ?_⟩) (star_cons _ _ _ rfl) (noStar _ rfl)
  subst evs
  have clo := clr_of (k := m) xo I1 st1 (eo.fr f1) l1 l2 lo.free lo.fre lo.js lo.sc (fun q => lo.bind q body) (hbody c')
  have cell : ∀ a ∈ cellsOf (cloFrom X.env.cells scope.names []), H1 a = none ∧ ∃ o, s1.heap.get? a = some o := fun a ha => by
    obtain ⟨y, hy, e⟩ := cl_lookup (fun y hy e => (lo.free y hy e).elim (fun z => I1.ok.has _ (.inl z)) fun z => I1.ok.has _ (.inr z)) ha
    obtain ⟨v, o, z, _⟩ := I1.cell y a e
    exact ⟨I1.freeC y a e, o, z⟩
  have above : ∀ a ∈ cellsOf (cloFrom X.env.cells scope.names []), X.s_0.heap.objs.size ≤ a ∧ a ≠ X.env.locals := fun a ha => by
    obtain ⟨y, hy, e⟩ := cl_lookup (fun y hy e => (lo.free y hy e).elim (fun z => I1.ok.has _ (.inl z)) fun z => I1.ok.has _ (.inr z)) ha
    exact ⟨I1.ok.cab y a (hfn y) e, I1.cne y a e⟩
  generalize cellsOf (cloFrom X.env.cells scope.names []) = cs at clo cell above
  have up : ∀ b o, H1 b = some o → lockH cs s1.heap H1 b = some o := fun b o e => (lockH_ne fun z => by rw [(cell b z).1] at e; cases e).trans e
  have gr : Gr g1 H1 g1 (lockH cs s1.heap H1) := ⟨fun _ _ h => h, fun _ _ _ => rfl, fun b o e _ _ => up b o e, fun b e => by
    by_cases z : b ∈ cs
    · exact (cell b z).1
    · rw [lockH_ne z] at e; exact e⟩
  have frn : ∀ b ∈ frs X.stack, b ∉ cs := fun b hb z => by
    rcases List.mem_cons.mp (I1.stkSub b hb) with e | hb
    · exact (above b z).2 e
    · obtain ⟨_, o, ho, _⟩ := I1.ok.funs.mem hb
      exact absurd (Nat.lt_of_lt_of_le (Heap.lt_size ho) (above b z).1) (Nat.lt_irrefl _)
  have ev := I1.env0
  have e1 : Env0 X.prog X.w X.K X.mg X.base X.A X.stack s1 (lockH cs s1.heap H1) := ⟨ev.frames, ev.mod, fun b o e => ⟨(ev.bs b o e).1, (lockH_ne fun z => ?_).trans (ev.bs b o e).2⟩, ev.bsz, ev.funs, fun b hb => (lockH_ne (frn b hb)).trans (ev.frf b hb), lock_hok (fun a ha => (cell a ha).1) (fun a ha => (cell a ha).2) ev.hok, ev.bare⟩
  · rw [xo.P, xo.w, xo.K, xo.mg, xo.base] at e1
    have hlen : us.length = qs.length := by
      have := F.len _ _ _ q
      rw [← r.length, ← this, List.length_append, List.length_append, Paired.len ra]
      rfl
    have c := F.run X.A X.stack s1 (lockH cs s1.heap H1) g1 ⟨us, []⟩ us (ws ++ [.ref fl]) (as ++ [mkLamR N ps.length m tb js env]) Qd hr xo.gd e1 (hb s1 us hlen) r (more_st up st1)
      (pairedApp (Paired.mapP ra fun _ _ z => z.fr gr) (.cons ⟨fl, rfl, clo⟩ .nil)) q
    rw [← xo.P, ← xo.w] at c
    refine wpAny_call (codeAny_mono c fun r s' hq => ?_)
    cases r with
    | error e => exact hq.elim
    | ok fw =>
      cases fw with
      | ret u =>
        have hq : CE X.stack X.prog X.w (lockH cs s1.heap H1) s1 (ResC C g1 (lockH cs s1.heap H1) Qd) u s' := by rw [xo.P, xo.w]; rw [xo.P, xo.w] at hq; exact hq
        obtain ⟨v, H2, I2, rv, rc⟩ := I1.after (unlock cell hq)
        exact ⟨v, H2, I2, rv, kk v H2 (rc.res f1)⟩
      | _ => exact False.elim hq
  · obtain ⟨h0, _⟩ := I1.ok.bs b o e
    exact absurd (Nat.lt_of_lt_of_le (Heap.lt_size h0) (above b z).1) (Nat.lt_irrefl _)

def clrAt (env : En) (i : Nat) : Option (Nat × BehR) := match env[i]? with
  | some (some (.av (.clr k b))) => some (k, b)
  | _ => none
/-- x(), x the name of a function that may let errors out -/
def eAppR (i n : Nat) : TEd := fun env Q E => match clrAt env i with
  | some (k, b) => k ≤ n ∧ b [] (fun d => Q (.dat d)) E
  | none => False
theorem EnvOk.clr {g : Gh} {H : Hp} {σ : L2.St} {env : En} (eo : EnvOk C B g H σ env) {i k : Nat} {b : BehR} (h : clrAt env i = some (k, b)) : ∃ f, σ[i]? = some (some (.ref f)) ∧ CloR C g H f k b := by
  unfold clrAt at h
  split at h
  · rename_i k' b' e
    cases h
    obtain ⟨v, hv, f, rfl, c⟩ := eo.at_ i _ e
    exact ⟨f, hv, c⟩
  · cases h
theorem dex_app {Ed : XD → Prop} {i n : Nat} {x : Str} (xo : XOk C X) (tk : Takes X (WR C B Ed)) (hr : Room n X.A) (hN : X.N[i]? = some x) (hv : Vis X.env.scope x) (hd : (x == ("__debug__" : Str)) = false) (hcd : (x == ("__classdict__" : Str)) = false) :
    DEx C B X Ed (.Call (.Name x p) [] [] pos) (eAppR i n) := by
  refine ⟨fun pins s σ H Q I h => ?_⟩
  obtain ⟨g, env, Qd, st, fb, eo, h, kk⟩ := h
  unfold eAppR at h
  split at h
  · rename_i k b eb
    obtain ⟨hkn, h⟩ := h
    obtain ⟨f, hf, c⟩ := eo.clr eb
    obtain ⟨L, z1, z2, z3⟩ := c.ex
    refine wpAny_Call_Name_kw (thn ((pe_var (pos := p) hN hv hd hcd).run pins s σ H (fun v H1 => v = .ref f ∧ H1 = H) I ⟨.ref f, hf, rfl, rfl⟩) fun u s0 ⟨v0, H0, I0, r0, q0⟩ => ?_)
    obtain ⟨ev, eH⟩ := q0
    subst ev
    rw [eH] at I0
    obtain rfl : u = Value.ref f := r0
    have hL : ∀ q ∈ L, H q.1 = some q.2 := fun q hq => (z1 q hq).1
    have fnat : PySem.W.FnAt f s0.heap := z2 _ _ (by have := I0.hok; rw [xo.P, xo.w] at this; exact this) hL
    refine PySem.W.callWith_F0 (first := []) fnat ?_
    have e0 := I0.env0
    rw [xo.P, xo.w, xo.K, xo.mg, xo.base] at e0
    have cc := z3 X.A X.stack s0 H g [] [] [] _ Ed (hr.mono hkn) xo.gd e0 hL (fun _ _ h => h) st .nil .nil h
    rw [← xo.P, ← xo.w] at cc
    refine wpAny_call (codeAny_mono cc fun r s' hq => ?_)
    cases r with
    | error e => exact passes_call tk (E := ResX C g H Ed) (fun cls d σ H' z => ResX.up fb z) pins σ H s0 e s' I0 hq
    | ok fl =>
      cases fl with
      | ret u =>
        obtain ⟨v, H2, I2, rv, d, g2, qd, f2, st2, r2⟩ := I0.after hq
        exact ⟨v, H2, I2, rv, kk v H2 ⟨_, g2, qd, f2, st2, r2, fun _ z => by cases z⟩⟩
      | _ => exact False.elim hq
  · exact h.elim
end
end TL
set_option maxHeartbeats 2000000
/-! try: several clauses except X as e -/
namespace L2
open PySem PySem.Spec PyProof.Rows
/-- the ends behind a suite whose error's name (slot i) goes -/
def goneE (i : Nat) (D : Ends) : Ends := { nx := fun σ H => D.nx (σ.set i none) H, rt := D.rt, bk := fun σ H => D.bk (σ.set i none) H, ct := fun σ H => D.ct (σ.set i none) H }
/-- what the clauses wish of an error of the body, one after the other -/
def wAss (K : PySem.W.Frag) (i : Nat) (Wout : WX) (D : Ends) : List (Value × (Addr → Value → Option Addr → TS)) → WX
  | [] => Wout
  | (c, ts) :: r => fun cls d σ H => ∃ b, PySem.W.exmOne K cls c = some b ∧ (b = true → ∀ a, H a = none → ts a cls d (goneE i D) (σ.set i (some (.ref a))) H) ∧ (b = false → wAss K i Wout D r cls d σ H)
inductive HdsAs (X : Cx) (n : Str) : List ExceptHandler → List (Value × (Addr → Value → Option Addr → TS)) → Prop
  | nil : HdsAs X n [] []
  | cons {x : Str} {c : Value} {ts : Addr → Value → Option Addr → TS} {b₀ : Stmt} {suite : List Stmt} {np pos' : Pos} {hds : List ExceptHandler} {l : List (Value × (Addr → Value → Option Addr → TS))} (hc : Names X x c)
      (hsu : ∀ (a : Addr) (oe : Obj) (cls : Value) (d : Option Addr) (pn : List (Addr × Obj)), Zc cls d oe → (∃ vs, oe.data = .fields vs) → PSs (X.suite a ((a, oe) :: pn)) (b₀ :: suite) (ts a cls d)) (r : HdsAs X n hds l) :
      HdsAs X n (.ExceptHandler (some (.Name x np)) (some n) (b₀ :: suite) pos' :: hds) ((c, ts) :: l)
section
variable {X : Cx} {body : List Stmt} {h₀ : ExceptHandler} {hds : List ExceptHandler} {l : List (Value × (Addr → Value → Option Addr → TS))} {pos : Pos} {tb : WX → TS} {Wout : WX} {i : Nat} {n : Str}
theorem ps_try_ass (hs : X.stack = X.env :: X.outer) (hf : X.env.frame = some X.env.locals) (hN : X.N.Nodup) (hi : X.N[i]? = some n) (hln : X.env.kindOf n = some .local) (tk : Takes X Wout)
    (hb : ∀ (W : WX) (pn : List (Addr × Obj)) (xe : Value → Shared → Prop), Takes (X.tr pn xe) W → PassesOwn (model X.prog X.w) X.A X.env xe → PSs (X.tr pn xe) body (tb W))
    (hh : HdsAs X n (h₀ :: hds) l) : PS X (.Try body (h₀ :: hds) [] [] pos) (fun D σ H => tb (wAss X.K i Wout D l) D σ H) := by
  refine ⟨fun pins s σ H D I h => ?_⟩
  have ok := I.ok
  have hfr : X.A.frames = some (X.env :: X.outer) := by rw [ok.frames, hs]
  have hloc : Loc X.env.scope n := .inl hln
  refine wpAny_Try_except ?_
  refine wpAny_mono ((hb (wAss X.K i Wout D l) (X.pn ++ pins) (fun e s₁ => wpAny (model X.prog X.w) X.A (noteFrame e X.env) (fun _ s₂ => wpAny (model X.prog X.w) X.A (setFlight e none) (fun _ s₃ =>
    wpAny (model X.prog X.w) X.A (handleBy e X.env (h₀ :: hds)) (SP X pins D) X.xe s₃) X.xe s₂) X.xe s₁) (fun u s' xx => ?_) PassesOwn.looking).run [] s σ H D (I.toTry _) h) (fun f s1 hsp => ?_) (fun e s1 he => he)
  · obtain ⟨a, B, sI, pins', σ', H', cls, d, rfl, J', nb, up, sky, na, os, ag, w⟩ := xx
    have J : Inv X pins σ' H' sI := J'.ofTry ok
    rw [show (X.tr (X.pn ++ pins) _).stack = X.env :: X.outer from hs] at sky
    show wpAny (model X.prog X.w) X.A (noteFrame (.ref a) X.env) _ _ _
    refine Sky.land Zc.steady hfr hf sky fun h3 fl3 up3 => ?_
    have J3 : Inv X pins σ' H' { s' with heap := h3 } := J.landed nb fl3.1 (up.trans up3) os ag
    obtain ⟨oe3, vs3, he3, hz3, hd3⟩ := fl3.there
    have nfr : a ∉ frs (X.env :: X.outer) := fun hm => by
      obtain ⟨_, o', e', hnf⟩ := fl3.2.2.1.mem hm
      rw [he3] at e'
      cases e'
      exact hnf _ hd3
    have nL : a ≠ X.env.locals := fun z => nfr (List.mem_filterMap.mpr ⟨X.env, List.mem_cons_self, by rw [hf, z]⟩)
    have nF : a ∉ X.fs := fun hm => by
      obtain ⟨e, he, q⟩ := List.mem_filterMap.mp hm
      exact nfr (List.mem_filterMap.mpr ⟨e, List.mem_cons_of_mem _ he, q⟩)
    have S3 := J3.suite he3 hd3 na nL nF
    have go : ∀ {hds' : List ExceptHandler} {l' : List (Value × (Addr → Value → Option Addr → TS))}, HdsAs X n hds' l' → wAss X.K i Wout D l' cls d σ' H' →
        wpAny (model X.prog X.w) X.A (handleBy (.ref a) X.env hds') (SP X pins D) X.xe { s' with heap := h3 } := by
      intro hds' l' hk
      induction hk with
      | nil =>
        intro w
        refine wpAny_handleBy_nil ?_
        obtain ⟨k1, k2, k3, oe, vs, T, oT, ts', he, hz, hd, h1, hr⟩ := id fl3
        unfold PySem.passOn
        refine wpAny_bind (wpAny_field he hd h1 ?_)
        rw [if_neg (show ¬ ((Value.ref T == Value.none) = true) from by simp)]
        have fin : wpAny (model X.prog X.w) X.A (setFlight (.ref a) X.env.frame) (fun _ s4 => wpAny (model X.prog X.w) X.A (throw (.ref a) : Sem Flow) (SP X pins D) X.xe s4) X.xe { s' with heap := h3 } := by
          rw [hf]
          refine HandSPX.setFlight_upZ fl3 fun h4 hh4 up4 => wpAny_throw (tk _ _ ?_)
          exact ⟨a, B, sI, pins, σ', H', cls, d, rfl, J, nb, (up.trans up3).trans up4, .inr (.inr (by rw [hs]; exact hh4)), na, os, ag, w⟩
        first
          | exact wpAny_bind (wpAny_pure (wpAny_bind fin))
          | exact wpAny_bind fin
      | @cons x c ts b₀ suite np pos' hds2 l2 hc hsu r ih =>
        intro w
        obtain ⟨b, hb1, hyes, hno⟩ := w
        refine wpAny_handleBy_cons (codeAny_handlers_test ?_) (by intro q; cases q)
        have LM := PySem.W.exm_one (M := model X.prog X.w) (J3.kIn) (fun A Q E s k q => wpAny_typeOf_ref (k _ _ he3) (by rw [hz3.1]; exact q)) hb1
        have test : ∀ {Q : Value → Shared → Prop} {E : Value → Shared → Prop}, Q c { s' with heap := h3 } → wpAny (model X.prog X.w) (X.A.mark (some (.ref a))) (eval (.Name x np) X.env) Q E { s' with heap := h3 } := fun {Q E} q => by
          obtain ⟨hg, hdbg, hm | ⟨hm, hv, hnn⟩⟩ := hc
          · exact ld_glob (X := X.suite a ((a, oe3) :: (X.pn ++ pins))) S3 hg hm q hdbg
          · exact ld_blt (X := X.suite a ((a, oe3) :: (X.pn ++ pins))) S3 hg hm hv q hnn hdbg
        refine test (LM.here ?_)
        cases b with
        | true =>
          refine codeAny_handlers_suite_as ?_
          refine HandSPX.lands_againZ fl3 fun h4 fl4 up4 => ?_
          have J4 : Inv X pins σ' H' { s' with heap := h4 } := J.landed nb fl4.1 ((up.trans up3).trans up4) os ag
          obtain ⟨oe4, vs4, he4, hz4, hd4⟩ := fl4.there
          have S4 := J4.suite he4 hd4 na nL nF
          refine store_ok (X := X.suite a ((a, oe4) :: (X.pn ++ pins))) (v := .ref a) S4 hN hi hloc rfl (fun s5 S5 => ?_) (.inr hln)
          refine wpAny_mono ((hsu a oe4 cls d (X.pn ++ pins) hz4 ⟨_, hd4⟩).run [] s5 _ H' _ S5 (hyes rfl a na)) (fun f s6 hsp => ?_) (fun _ _ z => False.elim z)
          have end_ : ∀ {σ6 : St} {H6 : Hp} {Q : Shared → Prop}, Inv (X.suite a ((a, oe4) :: (X.pn ++ pins))) [] σ6 H6 s6 → (∀ s7, Inv X pins (σ6.set i none) H6 s7 → Q s7) →
              wpAny (model X.prog X.w) X.A (do bindName X.env n .none; unbindBehindTheSuite X.env n pos') (fun _ s7 => Q s7) X.xe s6 := fun {σ6 H6 Q} S6 hq => gone_ok (S6.unsuite ok) hN hi hln hq
          cases f with
          | next =>
            obtain ⟨σ6, H6, S6, q6⟩ := hsp
            exact end_ S6 fun s7 J7 => ⟨_, _, J7, q6⟩
          | brk =>
            obtain ⟨σ6, H6, S6, q6⟩ := hsp
            exact end_ S6 fun s7 J7 => ⟨_, _, J7, q6⟩
          | cont =>
            obtain ⟨σ6, H6, S6, q6⟩ := hsp
            exact end_ S6 fun s7 J7 => ⟨_, _, J7, q6⟩
          | ret u =>
            obtain ⟨v6, σ6, H6, S6, r6, q6⟩ := hsp
            exact end_ S6 fun s7 J7 => ⟨_, _, _, J7, r6, q6⟩
        | false => exact ih (hno rfl)
    exact go hh w
  · cases f with
    | next =>
      obtain ⟨σ', H', J', q⟩ := hsp
      exact wpAny_execs_nil ⟨σ', H', J'.ofTry ok, q⟩
    | brk =>
      obtain ⟨σ', H', J', q⟩ := hsp
      exact ⟨σ', H', J'.ofTry ok, q⟩
    | cont =>
      obtain ⟨σ', H', J', q⟩ := hsp
      exact ⟨σ', H', J'.ofTry ok, q⟩
    | ret u =>
      obtain ⟨v, σ', H', J', r, q⟩ := hsp
      exact ⟨v, σ', H', J'.ofTry ok, r, q⟩
end
end L2
set_option maxHeartbeats 1000000
/-! try: e / except X as n: return ["..", n.f] .. -/
namespace TL
open PySem PySem.Spec PyProof.Rows L2 LamX NdefX
/-- an expression in a try's body: what it lets out is W's -/
def tDw (C : CC) (B : Base) (W : WX) (t : TEd) : TE := fun σ H Q => ∃ g env Qd Ed, StOk C g H ∧ Gr B.g B.H g H ∧ EnvOk C B g H σ env ∧ t env Qd Ed ∧ (∀ v H', Res C g H Qd v H' → Q v H') ∧ ∀ cls d H', ResX C g H Ed cls d H' → W cls d σ H'
abbrev DEw (C : CC) (B : Base) (X : Cx) (W : WX) (e : Expr) (t : TEd) : Prop := PE X e (tDw C B W t)
/-- the clauses: the class's name, the suite by what the error tells -/
abbrev Cls := List (Str × (XD → TSd))
def catchX (sub : Str → Str → Option Bool) : Cls → XD → TSd
  | [], _ => fun _ _ _ => False
  | (c, ts) :: r, x => fun D env E => match sub x.1 c with
    | some true => ts x D env E
    | some false => catchX sub r x D env E
    | none => False
def goneD (i : Nat) (D : EndsD) : EndsD := { nx := fun e => D.nx (e.set i none), rt := D.rt, bk := fun e => D.bk (e.set i none), ct := fun e => D.ct (e.set i none) }
def sTry (sub : Str → Str → Option Bool) (i : Nat) (te : TEd) (cl : Cls) : TSd := fun D env E => te env (fun _ => D.nx env) (fun x => catchX sub cl x (goneD i D) (env.set i none) E)
/-- a suite's reading: the error's name stands in slot i -/
def tDSu (C : CC) (B : Base) (i : Nat) (ts : XD → TSd) (a : Addr) (cls : Value) (d : Option Addr) : TS := fun D σ H => ∃ g env Dd x, StOk C g H ∧ Gr B.g B.H g H ∧ EnvOk C B g H σ env ∧ ExcR C g H cls d x ∧ σ[i]? = some (some (.ref a)) ∧ ts x Dd env XF ∧ EndsOk C B g Dd D
abbrev DSu (C : CC) (B : Base) (X : Cx) (i : Nat) (suite : List Stmt) (ts : XD → TSd) : Prop := ∀ (a : Addr) (oe : Obj) (cls : Value) (d : Option Addr) (pn : List (Addr × Obj)), Zc cls d oe → (∃ vs, oe.data = .fields vs) → PSs (X.suite a ((a, oe) :: pn)) suite (tDSu C B i ts a cls d)
/-- what the table says of the classes is so -/
def SubOk (C : CC) (sub : Str → Str → Option Bool) : Prop := ∀ x c b, sub x c = some b → ∀ u v, C.mg x = some u → C.mg c = some v → PySem.W.exmOne C.K u v = some b
inductive HdsD (C : CC) (B : Base) (X : Cx) (i : Nat) (n : Str) : List ExceptHandler → Cls → List (Value × (Addr → Value → Option Addr → TS)) → Prop
  | nil : HdsD C B X i n [] [] []
  | cons {x : Str} {c : Value} {ts : XD → TSd} {b₀ : Stmt} {suite : List Stmt} {np pos' : Pos} {hds : List ExceptHandler} {cl : Cls} {l : List (Value × (Addr → Value → Option Addr → TS))} (hc : Names X x c) (hm : C.mg x = some c) (hsu : DSu C B X i (b₀ :: suite) ts) (r : HdsD C B X i n hds cl l) :
      HdsD C B X i n (.ExceptHandler (some (.Name x np)) (some n) (b₀ :: suite) pos' :: hds) ((x, ts) :: cl) ((c, tDSu C B i ts) :: l)
section
variable {C : CC} {B : Base} {X : Cx} {i : Nat} {n : Str} {e : Expr} {te : TEd} {p pos ep : Pos} {sub : Str → Str → Option Bool} {cl : Cls} {h₀ : ExceptHandler} {hds : List ExceptHandler} {l : List (Value × (Addr → Value → Option Addr → TS))}
theorem HdsD.as {hds : List ExceptHandler} (h : HdsD C B X i n hds cl l) : HdsAs X n hds l := by
  induction h with
  | nil => exact .nil
  | cons hc hm hsu r ih => exact .cons hc hsu ih
theorem EnvOk.off_ {g : Gh} {H : Hp} {σ : L2.St} {env : En} (eo : EnvOk C B g H σ env) (i : Nat) (v : Option V) : EnvOk C B g H (σ.set i v) (env.set i none) := by
  have z := eo.clear i
  have back : ∀ (j : Nat) (s : SL), (env.set i none)[j]? = some (some s) → i ≠ j := fun j s h e => by
    subst e
    by_cases hi : i < env.length
    · rw [List.getElem?_set_self hi] at h; cases h
    · rw [List.getElem?_eq_none (by simp; omega)] at h; cases h
  refine ⟨by simp [eo.len], fun j s h => ?_, fun j k l m a h1 h2 h3 h4 => ?_⟩
  · have nj := back j s h
    obtain ⟨w, h1, h2⟩ := z.at_ j s h
    rw [List.getElem?_set_ne nj] at h1
    exact ⟨w, by rw [List.getElem?_set_ne nj]; exact h1, h2⟩
  · rw [List.getElem?_set_ne (back _ _ h1)] at h3
    rw [List.getElem?_set_ne (back _ _ h2)] at h4
    refine z.sep j k l m a h1 h2 ?_ ?_
    · rw [List.getElem?_set_ne (back _ _ h1)]; exact h3
    · rw [List.getElem?_set_ne (back _ _ h2)]; exact h4
theorem EndsOk.gone {g : Gh} {Dd : EndsD} {D : Ends} (e : EndsOk C B g Dd D) (i : Nat) : EndsOk C B g (goneD i Dd) (goneE i D) :=
  ⟨fun env σ g' H a b c => e.nx _ _ g' H a b (c.clear i), fun env σ g' H a b c => e.bk _ _ g' H a b (c.clear i), fun env σ g' H a b c => e.ct _ _ g' H a b (c.clear i), fun a v g' H z b c => e.rt a v g' H z b c⟩
theorem catch_ok (so : SubOk C sub) (hK : X.K = C.K) {g : Gh} {H H' : Hp} {σ : L2.St} {env : En} {Dd : EndsD} {D : Ends} {x : XD} {g' : Gh} {cls : Value} {d : Option Addr} {Wout : WX} (eo : EnvOk C B g H σ env) (fb : Gr B.g B.H g H) (ends : EndsOk C B g Dd D) (f : Gr g H g' H') (st' : StOk C g' H') (er : ExcR C g' H' cls d x) (hi : i < σ.length) :
    ∀ {hds : List ExceptHandler} {cl : Cls} {l : List (Value × (Addr → Value → Option Addr → TS))}, HdsD C B X i n hds cl l → catchX sub cl x (goneD i Dd) (env.set i none) XF → wAss X.K i Wout D l cls d σ H' := by
  intro hds cl l h
  induction h with
  | nil => intro q; exact q.elim
  | @cons x0 c ts b₀ suite np pos' hds cl l hc hm hsu r ih =>
    intro q
    have q : (match sub x.1 x0 with
      | some true => ts x (goneD i Dd) (env.set i none) XF
      | some false => catchX sub cl x (goneD i Dd) (env.set i none) XF
      | none => False) := q
    split at q
    · rename_i es
      refine ⟨true, by rw [hK]; exact so _ _ _ es _ _ er.1 hm, fun _ a na => ?_, fun z => Bool.noConfusion z⟩
      exact ⟨g', _, _, x, st', fb.trans f, (eo.fr f).off_ i _, er, List.getElem?_set_self hi, q, (ends.gone i).le f.gm⟩
    · rename_i es
      exact ⟨false, by rw [hK]; exact so _ _ _ es _ _ er.1 hm, fun z => Bool.noConfusion z, fun _ => ih q⟩
    · exact q.elim
theorem ds_try (so : SubOk C sub) (hK : X.K = C.K) (hs : X.stack = X.env :: X.outer) (hf : X.env.frame = some X.env.locals) (hN : X.N.Nodup) (hi : X.N[i]? = some n) (hln : X.env.kindOf n = some .local) (tk : Takes X (fun _ _ _ _ => False))
    (hb : ∀ (W : WX) (pn : List (Addr × Obj)) (xe : Value → Shared → Prop), Takes (X.tr pn xe) W → PassesOwn (model X.prog X.w) X.A X.env xe → DEw C B (X.tr pn xe) W e te) (hsw : swapsWith e none ep.line X.env = pure false)
    (hh : HdsD C B X i n (h₀ :: hds) cl l) (hlen : ∀ {pins : List (Addr × Obj)} {σ : L2.St} {H : Hp} {s : Shared}, L2.Inv X pins σ H s → i < σ.length) : DS C B X (.Try [.Expr e ep] (h₀ :: hds) [] [] pos) (sTry sub i te cl) := by
  have base := ps_try_ass (pos := pos) (body := [.Expr e ep]) (tb := fun W => tSeq (tDrop (tDw C B W te)) tNext) (Wout := fun _ _ _ _ => False) (i := i) hs hf hN hi hln tk (fun W pn xe tk pas => pss_cons (ps_expr (hb W pn xe tk pas) hsw) pss_nil) hh.as
  refine ⟨fun pins s σ H D I h => base.run pins s σ H D I ?_⟩
  have hσ := hlen I
  obtain ⟨g, env, Dd, st, fb, eo, h, ends⟩ := h
  refine ⟨g, env, _, _, st, fb, eo, h, fun v H' ⟨a, g', q, f, st', _, _⟩ => ?_, fun cls d H' ⟨x, g', q, f, st', er⟩ => ?_⟩
  · exact ends.nx _ _ g' H' q ⟨f.gm, st', fb.trans f⟩ (eo.fr f)
  · exact catch_ok so hK eo fb ends f st' er hσ hh q
/-- the suite: return ["..", n.f] -/
def suG (c s f : Str) : XD → TSd := fun x D _ _ => x.1 = c ∧ match x.2 with
  | .tuple [.str g, p] => g = f ∧ D.rt (.dat (.list [.str s, p]))
  | _ => False
theorem su_g {c s f q : Str} {Cc fI : Addr} {np p1 p2 p3 p4 : Pos} {j : Option Str} (T : PySem.ErrX.Txt C.K C.mg c q f Cc fI) (hK : X.K = C.K) (hi : X.N[i]? = some n) (hv : Vis X.env.scope n) (hd : (n == ("__debug__" : Str)) = false) (hcd : (n == ("__classdict__" : Str)) = false)
    (hb : attributeBase (.Name n p1) f X.env (eval (.Name n p1) X.env) = eval (.Name n p1) X.env) {jj : Nat} : DSu C B X i [.Return (some (.List [.Constant (.str s) jj p2, .Attribute (.Name n p1) f p3] p4)) pos] (suG c s f) := by
  intro a oe cls d pn hz hf
  have XT : XfC X.K Cc := by rw [hK]; exact ⟨T.ga, T.gg, T.exC, T.hdC⟩
  have hno : PySem.W.findIn X.K (.ref Cc) f = some none := by rw [hK]; exact T.noN
  have rd := pss_cons (ps_ret (pos := pos) (X := X.suite a ((a, oe) :: pn)) (pe_lst (pos := p4) (pa_cons (pe_str (x := s) (j := jj) (pos := p2)) (pa_cons (pe_xf (pos := p3) XT hno hz hf (pe_var (X := X.suite a ((a, oe) :: pn)) (pos := p1) hi hv hd hcd) hb) pa_nil)))) pss_nil
  refine ⟨fun pins st σ H D I h => rd.run pins st σ H D I ?_⟩
  obtain ⟨g, env, Dd, x, sk, fb, eo, er, hσ, ⟨hx, q⟩, ends⟩ := h
  obtain ⟨m, er⟩ := er
  rw [hx, T.gC] at m
  cases m
  obtain ⟨xn, xd⟩ := x
  dsimp only at q er
  rcases er with ⟨_, e2⟩ | ⟨dd, fl, v, pv, e1, e2, e3, e4⟩
  · rw [e2] at q
    exact q.elim
  · rw [e3] at q
    obtain ⟨rfl, q⟩ := q
    refine ⟨_, hσ, rfl, rfl, dd, [(fl, v)], v, e1, e2, by simp [List.lookup], ?_⟩
    refine ⟨by show 2 ≤ sizeLine; rw [sizeLine_eq]; decide, fun pp hp => ?_⟩
    have gr : Gr g H (gup g pp (.dat (.list [.str s, pv]))) (upd H pp (.lst [.str s, v])) := Gr.gfresh sk.1 hp
    refine ends.rt _ _ _ _ q ⟨gr.gm, ⟨GOk.gfresh sk.1 hp ⟨_, .inl upd_same, .cons (.str s) (.cons (e4.mono gr.gm) .nil)⟩, Tbs.fresh sk.2 hp⟩, fb.trans gr⟩ (.ref gup_same)
end
end TL
set_option maxHeartbeats 1000000
/-! what the head tells of the errors' classes; the law's end with it -/
namespace TL
open PySem PySem.Spec PyProof.Rows L2 LamX NdefX
/-- at C: an own error's class -/
def errClsB (K : PySem.W.Frag) (C : Addr) : Bool := match K.lookup C with
  | some ⟨.type "type", _, .cls cd, sl⟩ => (match cd.mro, sl.toList with
    | .ref C' :: bm, [_, _, _, _, some (.builtin n), _] => C' == C && (n == "ValueError.__new__" && (!cd.hasDel && (cd.hasDict && PySem.HandSPX.refsVE bm)))
    | _, _ => false)
  | _ => false
theorem errCls_ok {K : PySem.W.Frag} {C : Addr} (q : errClsB K C = true) : ∃ nm q N bs bm sn sub ab col dd k0 k1 k2 k3 k5, K.lookup C = some (excClassObj nm q C N bs bm true sn sub ab col dd k0 k1 k2 k3 k5 "ValueError.__new__") ∧ PySem.HandSPX.refsVE bm = true := by
  unfold errClsB at q
  split at q
  · rename_i dd cd sl ho
    split at q
    · rename_i C' bm k0 k1 k2 k3 n k5 hm hs
      simp only [Bool.and_eq_true, beq_iff_eq, Bool.not_eq_true'] at q
      obtain ⟨rfl, rfl, hdel, hd, ht⟩ := q
      obtain ⟨nm, bs, mro, ns, qn, hd', sn, sub, ab, col, del⟩ := cd
      dsimp only at hm hdel hd
      subst hm hdel hd
      have hsl : sl = #[k0, k1, k2, k3, some (.builtin "ValueError.__new__"), k5] := by
        obtain ⟨l⟩ := sl
        simp only at hs
        rw [hs]
      subst hsl
      exact ⟨nm, qn, ns, bs, bm, sn, sub, ab, col, dd, k0, k1, k2, k3, k5, ho, ht⟩
    · cases q
  · cases q
def eqP (a b : Option (Option Value)) : Bool := decide (a = b)
/-- all that the head must show of the class x, whose errors keep f -/
def errB (K : PySem.W.Frag) (x f : Str) : Bool :=
  errClsB K (He.ga K x) && (eqP (PySem.W.findIn K (.ref (He.ga K x)) "__setattr__") (some (some (.builtin "object.__setattr__"))) && (eqP (PySem.W.findIn K (.ref (He.ga K x)) "__getattribute__") (some (some (.builtin "BaseException.__getattribute__"))) &&
  (eqP (PySem.W.findIn K (.ref (He.ga K x)) "__getattr__") (some none) && (eqP (PySem.W.findIn K (.ref (He.ga K x)) f) (some none) && (eqP (PySem.W.findIn K (.ref (He.ga K x)) "__init__") (some (some (.ref (He.ma K (He.ga K x) "__init__")))) &&
  (decide (PySem.W.typeIn K (.ref (He.ma K (He.ga K x) "__init__")) = some (.type "function")) && (PySem.W.keepIn K (.ref (He.ga K x)) && (decide (PySem.W.subIn K (.ref (He.ga K x)) (.type "BaseException") = some true) && (decide (PySem.W.typeIn K (.ref (He.ga K x)) = some (.type "type")) && PySem.W.hasDictIn K (He.ga K x))))))))))
theorem txt_of {K : PySem.W.Frag} {mg : Str → Option Value} {x q f : Str} {fd : FuncData} {p1 p2 q1 q2 q3 q4 : Pos} (h : errB K x f = true) (m : mg x = some (.ref (He.ga K x)))
    (F : FunD K "__init__" q (PySem.ErrX.iA f p1 p2) (PySem.ErrX.iB f q1 q2 q3 q4) (PySem.ErrX.iS f) [] [] (He.ma K (He.ga K x) "__init__") fd) : PySem.ErrX.Txt K mg x q f (He.ga K x) (He.ma K (He.ga K x) "__init__") := by
  unfold errB eqP at h
  simp only [Bool.and_eq_true, decide_eq_true_eq] at h
  obtain ⟨h1, h2, h3, h4, h5, h6, h7, h8, h9, h10, h11⟩ := h
  obtain ⟨oc, od, dV, kV, doc, pm, an, cdv, ct, osl, rfl, lk, hcd, dd, _⟩ := F.ex
  have ed : dV = .none := by
    rcases dd with ⟨_, z⟩ | ⟨z, _⟩
    · exact z
    · exact absurd rfl z
  subst ed
  exact ⟨m, errCls_ok h1, h2, h3, h4, h5, h6, h7, h8, h9, h10, h11, _, _, _, _, _, _, _, _, _, _, _, _, _, _, _, lk, hcd⟩
section
variable {C : CC} {B : Base} {X : Cx} {p : Pos}
/-- x() in a try's body -/
theorem dew_app {W : WX} {i n : Nat} {x : Str} (xo : XOk C X) (tk : Takes X W) (hr : Room n X.A) (hN : X.N[i]? = some x) (hv : Vis X.env.scope x) (hd : (x == ("__debug__" : Str)) = false) (hcd : (x == ("__classdict__" : Str)) = false) :
    DEw C B X W (.Call (.Name x p) [] [] pos) (eAppR i n) := by
  refine ⟨fun pins s σ H Q I h => ?_⟩
  obtain ⟨g, env, Qd, Ed, st, fb, eo, h, kk, kx⟩ := h
  unfold eAppR at h
  split at h
  · rename_i k b eb
    obtain ⟨hkn, h⟩ := h
    obtain ⟨f, hf, c⟩ := eo.clr eb
    obtain ⟨L, z1, z2, z3⟩ := c.ex
    refine wpAny_Call_Name_kw (thn ((pe_var (pos := p) hN hv hd hcd).run pins s σ H (fun v H1 => v = .ref f ∧ H1 = H) I ⟨.ref f, hf, rfl, rfl⟩) fun u s0 ⟨v0, H0, I0, r0, q0⟩ => ?_)
    obtain ⟨ev, eH⟩ := q0
    subst ev
    rw [eH] at I0
    obtain rfl : u = Value.ref f := r0
    have hL : ∀ q ∈ L, H q.1 = some q.2 := fun q hq => (z1 q hq).1
    have fnat : PySem.W.FnAt f s0.heap := z2 _ _ (by have := I0.hok; rw [xo.P, xo.w] at this; exact this) hL
    refine PySem.W.callWith_F0 (first := []) fnat ?_
    have e0 := I0.env0
    rw [xo.P, xo.w, xo.K, xo.mg, xo.base] at e0
    have cc := z3 X.A X.stack s0 H g [] [] [] _ Ed (hr.mono hkn) xo.gd e0 hL (fun _ _ h => h) st .nil .nil h
    rw [← xo.P, ← xo.w] at cc
    refine wpAny_call (codeAny_mono cc fun r s' hq => ?_)
    cases r with
    | error e => exact tk e s' (XE.of_call I0 (fun cls d H' z => kx cls d H' z) hq)
    | ok fl =>
      cases fl with
      | ret u =>
        obtain ⟨v, H2, I2, rv, d, g2, qd, f2, st2, r2⟩ := I0.after hq
        exact ⟨v, H2, I2, rv, kk v H2 ⟨_, g2, qd, f2, st2, r2, fun _ z => by cases z⟩⟩
      | _ => exact False.elim hq
  · exact h.elim
end
theorem walk_endX {l : PySem.W.OpenLaw} {q : Program} {loose : List Str} {XP : (Str → Option Value) → Heap → Prop} {d : DefRec} {k : Nat} {fa : List He.Fa} {fn : List He.DefD} {tf : List He.Defn} {sp : DSp} {st : Stmt} {n : Nat} (nm : Nat → Nat → Str) (ex : PySem.W.Frag → Bool)
    (hn : l.most = some 63) (hdf : d.params.defaults = []) (hd : d.name = "law") (hr : Room k callerA)
    (F : ∀ (h : Heap) (C : CC), C.P = l.prog → C.nm = nm → HK fa fn tf h C → ex C.K = true → DefX C st k "law" ["script"] sp)
    (hb : ∀ (kV doc pm : Value) (an : Option Addr) (cdv ct : Value) (us : List Value), us.length = (["script"] : List Str).length → bindArgs (PySem.W.fnOf "law" "law" (defArgs st) (defBody st) (defScope st) .none kV doc pm an cdv ct) ⟨us, []⟩ = pure ((["script"] : List Str).zip us))
    (hsp : ∀ ns : List Int, scriptOk ns → sp [.dat (.list (ns.map PyData.int))] (fun r => r = .dat (.bool true)) XF) :
    PySem.W.WalkO q loose XP (He.hookX n fa fn [] tf ex).says l.row.toRowW d [] (fun f vs => PySem.call f vs) := by
  refine Att.attach_callB hn hdf fun w s₀ s mg mb fa' o pm cd doc a zs ns G Y ho hd' hcd hmg hobj hints hlen hbits hg => ?_
  obtain ⟨K, KX, c⟩ := Y
  have e : EndK l.prog w K mg mb s a (tf.map (He.cT K)) zs ns := by
    refine ⟨KX, G.T.g, G.T.b, G.T.builtins, G.T.nolimit, hg, fun p hp => ?_, fun p hp => ?_, fun p hp => ?_, G.T.bmain, hobj, hints, Nat.le_trans hlen (by rw [sizeLine_eq]; decide)⟩ <;>
      (obtain ⟨y, hy, rfl⟩ := List.mem_map.mp hp)
    · exact c.empty y hy
    · exact c.out y hy
    · exact PySem.W.codeHd_of_K KX (c.hd y hy)
  have D := F s.heap (endC l.prog w K mg s a (tf.map (He.cT K)) zs ns nm) rfl rfl ⟨KX, G.T.g, c.t.d, fun p hp => ⟨e.tabB (List.mem_map.mpr ⟨p, hp, rfl⟩), List.mem_map.mpr ⟨_, List.mem_map.mpr ⟨p, hp, rfl⟩, rfl⟩⟩⟩ c.more
  obtain ⟨f, fd, hm, FG, FD⟩ := D.ex
  rw [hd] at hmg
  have hm : mg "law" = some (.ref f) := hm
  rw [hm] at hmg
  cases hmg
  exact e.run nm hr FG (FD.bindsA hb s [.ref a] rfl) (hsp ns ⟨hlen, hbits⟩)
end TL
set_option maxHeartbeats 1000000
/-! defs that may let errors out, as the walks name them -/
namespace TL
open PySem PySem.Spec PyProof.Rows L2 LamX NdefX
structure DefY (C : CC) (st : Stmt) (k : Nat) (x : Str) (ps : List Str) (sp : DSp) : Prop where
  ex : ∃ f fd, C.mg x = some (.ref f) ∧ FnR C k f fd ps sp ∧ FunD C.K x x (defArgs st) (defBody st) (defScope st) [] [] f fd
structure DefKR (C : CC) (k : Nat) (x : Str) (ps ks : List Str) (sp : DSp) : Prop where
  ex : ∃ f fd, C.mg x = some (.ref f) ∧ PySem.W.keepIn C.K (.ref f) = true ∧ FnR C k f fd ps sp ∧
    (∀ (s : Shared) (us ws : List Value), us.length = ks.length → ps.mapM (fun p => (ks.zip us).lookup p) = some ws → BindsTo s fd ⟨[], ks.zip us⟩ (ps.zip ws))
theorem FnR.imp {C : CC} {k : Nat} {f : Addr} {fd : FuncData} {ps : List Str} {sp sp' : DSp} (F : FnR C k f fd ps sp) (h : ∀ as Q E, sp' as Q E → sp as Q E) : FnR C k f fd ps sp' :=
  ⟨fun as Q E q => F.len as Q E (h _ _ _ q), fun A outer s H g args us vs as Qd Ed a b c d e st r q => F.run A outer s H g args us vs as Qd Ed a b c d e st r (h _ _ _ q)⟩
section
variable {C : CC} {st : Stmt} {x : Str} {N ps ks : List Str} {k : Nat} {den : TSd} {sp : DSp}
theorem def_ofR (h : HD C st x) (hs : fscB N ps (defScope st) = true) (ok : ∀ as Q E, sp as Q E → mkSp N ps.length den as Q E) (hw : ∀ (X : Cx) (B : Base) (Ed : XD → Prop), BX C N (x ++ ".<locals>.") (defScope st) k X → Takes X (WR C B Ed) → DSsx C B X Ed (defBody st) den) : DefY C st (k + 1) x ps sp := by
  obtain ⟨f, fd, hm, F⟩ := h
  exact ⟨f, fd, hm, (fnr_of false F (fscope_by hs) (fun z => by cases z) fun X B Ed G _ tk => hw X B Ed G tk).imp ok, F⟩
theorem DefY.dd (D : DefY C st k x ps sp) (hb : ∀ (kV doc pm : Value) (an : Option Addr) (cdv ct : Value) (us : List Value), us.length = ps.length → bindArgs (PySem.W.fnOf x x (defArgs st) (defBody st) (defScope st) .none kV doc pm an cdv ct) ⟨us, []⟩ = pure (ps.zip us)) : DefR C k x ps sp := by
  obtain ⟨f, fd, hm, G, F⟩ := D.ex
  exact ⟨f, fd, hm, F.kp, G, F.bindsA hb⟩
theorem DefY.kw (D : DefY C st k x ps sp) (hb : ∀ (kV doc pm : Value) (an : Option Addr) (cdv ct : Value) (us ws : List Value), us.length = ks.length → ps.mapM (fun p => (ks.zip us).lookup p) = some ws → bindArgs (PySem.W.fnOf x x (defArgs st) (defBody st) (defScope st) .none kV doc pm an cdv ct) ⟨[], ks.zip us⟩ = pure (ps.zip ws)) : DefKR C k x ps ks sp := by
  obtain ⟨f, fd, hm, G, F⟩ := D.ex
  obtain ⟨oc, od, dV, kV, doc, pm, an, cdv, ct, osl, rfl, lk, hcd, hD, hK⟩ := F.ex
  refine ⟨f, _, hm, F.kp, G, fun s us ws h1 h2 => ?_⟩
  rcases hD with ⟨_, rfl⟩ | ⟨e, _⟩
  · exact .of_eq (hb kV doc pm an cdv ct us ws h1 h2)
  · exact absurd rfl e
end
/-- f(k = a, ..), all arguments by name, f may let errors out -/
def eCallKR (sp : DSp) (ks ps : List Str) (t : TAd) : TEd := fun env Q E => t env (fun as => match kwPick ks ps as with
  | some bs => sp bs Q E
  | none => False) XF
section
variable {C : CC} {B : Base} {X : Cx} {Ed : XD → Prop} {N : List Str} {q : Str} {sc : Scope} {k : Nat} {x : Str} {e tg iter : Expr} {es : List Expr} {a b ss body : List Stmt} {st : Stmt} {t ta tb : TSd} {tt : TTd} {te : TEd} {tas : TAd} {ti : TId} {T : Tg} {p pos pos2 : Pos}
theorem dex_callK {ps : List Str} {sp : DSp} {kws : List Keyword} (xo : XOk C X) (tk : Takes X (WR C B Ed)) (F : DefKR C k x ps (kwNames kws) sp) (hr : Room k X.A) (hg : Gl X x) (hkw : DK C B X kws tas) (hall : kwAll kws = true) (hdb : (x == ("__debug__" : Str)) = false) :
    DEx C B X Ed (.Call (.Name x p) [] kws pos) (eCallKR sp (kwNames kws) ps tas) := by
  obtain ⟨f, fd, hm, hk, F, hb⟩ := F.ex
  rw [← xo.mg] at hm
  rw [← xo.K] at hk
  refine ⟨fun pins s σ H Q I h => ?_⟩
  obtain ⟨g, env, Qd, st, fb, eo, h, kk⟩ := h
  obtain ⟨h1, h2, h3⟩ := kw_all (pos := pos) (env := X.env) hall
  refine wpAny_Call_Name_kw (ld_glob I hg hm ?_ hdb)
  refine PySem.W.callWith_KW0 (h₀ := X.base) I.ok.mod.kin hk h1 (thn (hkw.pk.run pos pins s σ H (fun vs H1 => ∃ bs as g1, kwPick (kwNames kws) ps as = some bs ∧ sp bs Qd Ed ∧ Gr g H g1 H1 ∧ StOk C g1 H1 ∧ Paired (RepA C g1 H1) vs as) I ⟨g, env, _, st, eo, h, fun vs as g1 H1 q f1 st1 r1 => ?_⟩) fun us s1 ⟨vs, H1, I1, r, bs, as, g1, eb, q, f1, st1, ra⟩ => ⟨I1.kIn, ?_⟩) (by rw [h3]; rfl)
  · try dsimp only at q
    split at q
    · rename_i bs eb
      exact ⟨bs, as, g1, eb, q, f1, st1, r1⟩
    · exact q.elim
  · rw [h2]
    unfold kwPick at eb
    split at eb
    · rename_i hl
      have hlen : us.length = (kwNames kws).length := by rw [← r.length, Paired.len ra, hl]
      obtain ⟨ws, xs, e1, e2, e3⟩ := zip_pick r ra hlen eb
      exact thn (run_r xo tk F hr (hb s1 us ws hlen e1) I1 e2 st1 (fb.trans f1) e3 q) fun u s2 ⟨v, H2, I2, rv, rc⟩ => ⟨v, H2, I2, rv, kk v H2 (rc.res f1)⟩
    · cases eb
theorem FX.callR {j : Nat} {ps : List Str} {sp : DSp} (F : FX C N sc k X) (tk : Takes X (WR C B Ed)) (d : DefR C j x ps sp) (hj : j ≤ k) (g : NG X x) (ha : DA C B X (e :: es) tas) (hs0 : isStar e = false) (hs : es.any isStar = false) : DEx C B X Ed (.Call (.Name x p) (e :: es) [] pos) (eCallR sp tas) :=
  dex_call F.xo tk ⟨d.ex⟩ (F.room.mono hj) g.g ha g.d1 hs0 hs
theorem FX.callKR {j : Nat} {ps : List Str} {sp : DSp} {kws : List Keyword} (F : FX C N sc k X) (tk : Takes X (WR C B Ed)) (d : DefKR C j x ps (kwNames kws) sp) (hj : j ≤ k) (g : NG X x) (hkw : DK C B X kws tas) (hall : kwAll kws = true) : DEx C B X Ed (.Call (.Name x p) [] kws pos) (eCallKR sp (kwNames kws) ps tas) :=
  dex_callK F.xo tk ⟨d.ex⟩ (F.room.mono hj) g.g hkw hall g.d1
theorem FX.raise1 {f q0 : Str} {Cc fI : Addr} (F : FX C N sc k X) (tk : Takes X (WR C B Ed)) (T : PySem.ErrX.Txt C.K C.mg x q0 f Cc fI) (hf : f = "given" ∨ f = "index") (g : NG X x) (ha : DE C B X e te) (hs : isStar e = false) : DSx C B X Ed (.Raise (some (.Call (.Name x p) [e] [] pos)) none pos2) (sRaise1 x f te) :=
  dsx_raise F.xo tk T hf F.room g.g g.d1 ha hs
theorem BX.forx (F : BX C N q sc k X) (hi : DI C B X tg iter ti) (hg : PG X tg (T.g C.K)) (hb : DSsx C B X Ed body tb) (hs : ∀ x, foldedSetIterable iter X.env x = pure x) : DSx C B X Ed (.For tg iter body [] pos) (sFor (iCalm ti) T tb) := by
  refine psW (BX.for_ (pos := pos) F hi hg hb hs) fun D σ H h => ?_
  obtain ⟨g, env, Dd, st, fb, eo, h, ends⟩ := h
  refine ⟨g, env, Dd, st, fb, eo, ?_, ends⟩
  have key : ∀ l : List PyData, forGo T (atX Ed tb) Dd XF l = forGo T tb Dd Ed l := by
    intro l
    induction l with
    | nil => rfl
    | cons d3 l ih3 =>
      funext e3
      show (match T.set d3 e3 with | some env' => atX Ed tb { Dd with nx := forGo T (atX Ed tb) Dd XF l, ct := forGo T (atX Ed tb) Dd XF l, bk := Dd.nx } env' XF | none => False) = _
      rw [ih3]
      rfl
  have h : ti env (fun xs => forGo T tb Dd Ed xs env) XF := h
  show ti env (fun xs => forGo T (atX Ed tb) Dd XF xs env) XF
  have e : (fun xs => forGo T (atX Ed tb) Dd XF xs env) = fun xs => forGo T tb Dd Ed xs env := by
    funext xs
    rw [key]
  rw [e]
  exact h
/-- a def handed a lambda that may let errors out -/
theorem BX.callLR {j m : Nat} {qs : List Str} {sp : DSp} {params : Arguments} {body : Expr} {scope : Scope} {lpos : Pos} {N' ps fr : List Str} {js : List Nat} {tb : TEd} (F : BX C N q sc k X) (d : Def C j x qs sp) (hj : j ≤ k) (g : NG X x) (lo : LamOk C X params scope lpos N' ps fr js)
    (hbody : ∀ (X' : Cx) (B' : Base) (Ed : XD → Prop), FX C N' scope m X' → Takes X' (WR C B' Ed) → DEx C B' X' Ed body tb) : DE C B X (.Call (.Name x p) [.Lambda params body scope lpos] [] pos) (eCallL sp (mkLamR N' ps.length m tb js) aNil) := by
  refine de_callLR F.xo d (F.room.mono hj) g.g lo F.fn (fun c' X' B' Ed hx tk => hbody X' B' Ed ?_ tk) g.d1
  obtain ⟨f, A, outer, s, H, E, rfl, hr, hgd⟩ := hx.ex
  exact ⟨⟨rfl, rfl, rfl, rfl, rfl, rfl, lo.sc.nd, hgd⟩, rfl, rfl, hr⟩
end
end TL
set_option maxHeartbeats 1000000
/-! a def whose body is a try -/
namespace TL
open PySem PySem.Spec PyProof.Rows L2 LamX NdefX
structure BXt (C : CC) (N : List Str) (q : Str) (sc : Scope) (k : Nat) (X : Cx) : Prop extends BX C N q sc k X where
  hs : X.stack = X.env :: X.outer
  hf : X.env.frame = some X.env.locals
section
variable {C : CC} {B : Base} {X : Cx} {N : List Str} {q : Str} {sc : Scope} {k : Nat} {st : Stmt} {x n : Str} {ps : List Str} {den : TSd} {sp : DSp} {i : Nat} {e : Expr} {te : TEd} {pos ep p : Pos} {sub : Str → Str → Option Bool} {cl : Cls} {h₀ : ExceptHandler} {hds : List ExceptHandler} {l : List (Value × (Addr → Value → Option Addr → TS))}
theorem fng_ofS {params : Arguments} {body : List Stmt} {scope : Scope} {f : Addr} {fd : FuncData} (F : FunD C.K x q params body scope [] [] f fd) (S : FnScope N ps scope)
    (hbody : ∀ (X : Cx) (B : Base), BXt C N (q ++ ".<locals>.") scope k X → DSs C B X body den) : FnG C (k + 1) f fd ps (mkSp N ps.length den) := by
  refine ⟨fun as Q E h => h.1, fun A outer s H g args us vs as Qd hr hgd e0 hb rv st ra h => ?_⟩
  obtain ⟨oc, od, dV, kV, doc, pm, an, cdv, ct, osl, rfl, lk, hcd, _, _⟩ := F.ex
  obtain ⟨h1, h2, h3⟩ := h
  refine run_ofS (N := N) lk hcd S hr e0 hb rv (by rw [Paired.len ra]; exact h1) fun hr' => ?_
  have D := hbody (cxOf CX0 C.P C.w C.K C.mg C.base N q scope f cdv A outer s H E0) ⟨g, H⟩ ⟨⟨⟨⟨rfl, rfl, rfl, rfl, rfl, rfl, S.nd, hgd⟩, rfl, rfl, hr'⟩, fun _ => rfl, PassesOwn.leaving, rfl⟩, rfl, rfl⟩
  refine ⟨_, D, ⟨g, _, _, st, .refl, start_env ra h2, h3, ⟨fun env σ g' H' a b c => ?_, fun env σ g' H' a b c => a.elim, fun env σ g' H' a b c => a.elim, fun a v g' H' z b c => ?_⟩⟩⟩
  · exact ⟨.dat .none, g', a, b.fb, b.st, .non, rfl⟩
  · exact ⟨a, g', z.2, b.fb, b.st, c, z.1⟩
theorem def_ofS (h : HD C st x) (hs : fscB N ps (defScope st) = true) (ok : ∀ as Q E, sp as Q E → mkSp N ps.length den as Q E) (hw : ∀ (X : Cx) (B : Base), BXt C N (x ++ ".<locals>.") (defScope st) k X → DSs C B X (defBody st) den) : DefX C st (k + 1) x ps sp := by
  obtain ⟨f, fd, hm, F⟩ := h
  exact ⟨f, fd, hm, (fng_ofS F (fscope_by hs) hw).imp ok, F⟩
theorem FX.tr (F : FX C N sc k X) (pn : List (Addr × Obj)) (xe : Value → Shared → Prop) : FX C N sc k (X.tr pn xe) := ⟨⟨F.xo.P, F.xo.w, F.xo.K, F.xo.mg, F.xo.base, F.xo.calm, F.xo.nd, F.xo.gd⟩, F.N, F.sc, F.room⟩
/-- try: x() / except X as n: .. -/
theorem BXt.try_ {j : Nat} (F : BXt C N q sc k X) (so : SubOk C sub) (nl : NL X i n) (nv : ∀ (pn : List (Addr × Obj)) (xe : Value → Shared → Prop), NV (X.tr pn xe) j x) (hln : plnB sc n = true)
    (hsw : swapsWith (.Call (.Name x p) [] [] pos) none ep.line X.env = pure false) (hh : HdsD C B X i n (h₀ :: hds) cl l) : DS C B X (.Try [.Expr (.Call (.Name x p) [] [] pos) ep] (h₀ :: hds) [] [] pos2) (sTry sub i (eAppR j k) cl) := by
  refine ds_try so F.xo.K F.hs F.hf F.xo.nd nl.v.at_ ?_ (fun u s' ⟨_, _, _, _, _, _, _, _, _, _, _, _, _, _, _, _, w⟩ => w.elim) (fun W pn xe tk _ => ?_) hsw hh (fun I => ?_)
  · have z := plnB_ok hln
    show X.env.scope.names.lookup n = some .local
    rw [F.sc]
    exact z
  · have v := nv pn xe
    exact dew_app (F.toFX.tr pn xe).xo tk F.room v.at_ v.vis v.d1 v.d2
  · rw [I.len]
    have := nl.v.at_
    by_cases z : i < X.N.length
    · exact z
    · rw [List.getElem?_eq_none (by omega)] at this
      cases this
end
end TL
set_option maxHeartbeats 1000000
/-! the errors' classes, as the walks name them -/
namespace TL
open PySem PySem.Spec PyProof.Rows L2 LamX NdefX
/-- a class's own statement -/
def clsMeth (s : Stmt) (j : Nat) : Stmt := match s with
  | .ClassDef _ _ _ b _ _ _ _ _ _ _ => b.getD j (.Pass ⟨0, 0, 0, 0⟩)
  | _ => .Pass ⟨0, 0, 0, 0⟩
abbrev dMeth (x q : Str) (st : Stmt) : He.DefD := ⟨(x, some "__init__"), "__init__", q, defArgs st, defBody st, defScope st, [], []⟩
theorem HK.txt {fa : List He.Fa} {fn : List He.DefD} {tf : List He.Defn} {h : Heap} {C : CC} {x q f : Str} {st : Stmt} {p1 p2 q1 q2 q3 q4 : Pos} (k : HK fa fn tf h C) (e : errB C.K x f = true) (i j : Nat) (hi : fn[i]? = some (dMeth x q st)) (hj : fa[j]? = some (.glo x))
    (ea : defArgs st = PySem.ErrX.iA f p1 p2) (eb : defBody st = PySem.ErrX.iB f q1 q2 q3 q4) (es : defScope st = PySem.ErrX.iS f) : PySem.ErrX.Txt C.K C.mg x q f (He.ga C.K x) (He.ma C.K (He.ga C.K x) "__init__") := by
  obtain ⟨fd, F⟩ := k.d.def_ i hi
  have F : FunD C.K "__init__" q (defArgs st) (defBody st) (defScope st) [] [] (He.ma C.K (He.ga C.K x) "__init__") fd := F
  rw [ea, eb, es] at F
  exact txt_of e (He.glo_ok k.kin k.glob (k.d.fact j hj)) F
theorem HK.exm {fa : List He.Fa} {fn : List He.DefD} {tf : List He.Defn} {h : Heap} {C : CC} {x y : Str} {b : Bool} (k : HK fa fn tf h C) (j : Nat) (hj : fa[j]? = some (.exm x y b)) (i1 i2 : Nat) (h1 : fa[i1]? = some (.glo x)) (h2 : fa[i2]? = some (.glo y)) :
    ∀ u v, C.mg x = some u → C.mg y = some v → PySem.W.exmOne C.K u v = some b := fun u v e1 e2 => by
  have g1 := He.glo_ok k.kin k.glob (k.d.fact i1 h1)
  have g2 := He.glo_ok k.kin k.glob (k.d.fact i2 h2)
  rw [g1] at e1
  rw [g2] at e2
  cases e1
  cases e2
  exact of_decide_eq_true (k.d.fact j hj)
/-- a table of classes: is the first the second's -/
def subT (l : List (Str × Str × Bool)) (x c : Str) : Option Bool := (l.find? fun t => decide (t.1 = x) && decide (t.2.1 = c)).map (·.2.2)
theorem subT_ok {C : CC} {l : List (Str × Str × Bool)} (h : ∀ t ∈ l, ∀ u v, C.mg t.1 = some u → C.mg t.2.1 = some v → PySem.W.exmOne C.K u v = some t.2.2) : SubOk C (subT l) := fun x c b e u v e1 e2 => by
  unfold subT at e
  cases q : l.find? (fun t => decide (t.1 = x) && decide (t.2.1 = c)) with
  | none => rw [q] at e; cases e
  | some t =>
    rw [q] at e
    have p := List.find?_some q
    simp only [Bool.and_eq_true, decide_eq_true_eq] at p
    have m := List.mem_of_find?_eq_some q
    cases e
    exact h t m u v (by rw [p.1]; exact e1) (by rw [p.2]; exact e2)
section
variable {C : CC} {B : Base} {X : Cx} {N : List Str} {sc : Scope} {k : Nat} {x c s f q n : Str} {i : Nat} {v : Value} {Cc fI : Addr} {p1 p2 p3 p4 pos : Pos} {jj : Nat}
theorem FX.names (F : FX C N sc k X) (g : NG X x) (m : C.mg x = some v) : Names X x v := ⟨g.g, g.d1, .inl (by rw [F.xo.mg]; exact m)⟩
theorem FX.suG (F : FX C N sc k X) (T : PySem.ErrX.Txt C.K C.mg c q f Cc fI) (nv : NV X i n) (hb : attributeBase (.Name n p1) f X.env (eval (.Name n p1) X.env) = eval (.Name n p1) X.env) :
    DSu C B X i [.Return (some (.List [.Constant (.str s) jj p2, .Attribute (.Name n p1) f p3] p4)) pos] (suG c s f) := su_g (j := none) (np := p1) T F.xo.K nv.at_ nv.vis nv.d1 nv.d2 hb
end
section
variable {C : CC} {st : Stmt} {x : Str} {N ps : List Str} {k : Nat} {den : TSd} {sp : DSp}
theorem def_ofRT (h : HT C st x) (hs : fscB N ps (defScope st) = true) (ok : ∀ as Q E, sp as Q E → mkSp N ps.length den as Q E) (hw : ∀ (X : Cx) (B : Base) (Ed : XD → Prop), BX C N (x ++ ".<locals>.") (defScope st) k X → TabX C X → Takes X (WR C B Ed) → DSsx C B X Ed (defBody st) den) : DefY C st (k + 1) x ps sp := by
  obtain ⟨f, fd, hm, F, ht⟩ := h
  exact ⟨f, fd, hm, (fnr_of true F (fscope_by hs) (fun _ => ht) fun X B Ed G t tk => hw X B Ed G (t rfl) tk).imp ok, F⟩
end
/-- the readings of errors let out, and of try -/
theorem w_calm {t : TSd} {D : EndsD} {env : En} {E : XD → Prop} : sCalm t D env E = t D env XF := rfl
theorem w_tcalm {t : TTd} {env : En} {Q : Bool → Prop} {E : XD → Prop} : tCalm t env Q E = t env Q XF := rfl
theorem w_icalm {t : TId} {env : En} {Q : List PyData → Prop} {E : XD → Prop} : iCalm t env Q E = t env Q XF := rfl
theorem w_callR {sp : DSp} {t : TAd} {env : En} {Q : AV → Prop} {E : XD → Prop} : eCallR sp t env Q E = t env (fun as => sp as Q E) XF := rfl
def rsQ (x f : Str) (E : XD → Prop) (a : AV) : Prop := match a.sd with
  | some d => E (x, .tuple [.str f, d])
  | none => False
theorem w_raise1 {x f : Str} {te : TEd} {D : EndsD} {env : En} {E : XD → Prop} : sRaise1 x f te D env E = te env (rsQ x f E) XF := rfl
theorem w_rsq {x f : Str} {E : XD → Prop} {d : PyData} : rsQ x f E (.dat d) = E (x, .tuple [.str f, d]) := rfl
theorem w_rsn {x f : Str} {E : XD → Prop} {l : List PyData} : rsQ x f E (.new l) = E (x, .tuple [.str f, .list l]) := rfl
theorem w_try {sub : Str → Str → Option Bool} {i : Nat} {te : TEd} {cl : Cls} {D : EndsD} {env : En} {E : XD → Prop} : sTry sub i te cl D env E = te env (fun _ => D.nx env) (fun x => catchX sub cl x (goneD i D) (env.set i none) E) := rfl
theorem w_appR {n k : Nat} {b : BehR} {es : En} {Q : AV → Prop} {E : XD → Prop} : eAppR 0 n (some (.av (.clr k b)) :: es) Q E = (k ≤ n ∧ b [] (fun d => Q (.dat d)) E) := rfl
end TL
namespace TL
open PySem PySem.Spec PyProof.Rows L2 LamX NdefX
set_option maxHeartbeats 1000000
local macro_rules | `(tactic| simp? [$ls,*]) => `(tactic| try simp only [↓w_seq, ↓w_next, ↓w_break, ↓w_cont, ↓w_drop, ↓w_ret, ↓w_retN, ↓w_retW, ↓w_new3, ↓w_rtd, ↓w_rtn, ↓w_rtw, ↓w_if, ↓w_br1, ↓w_br0, ↓w_set, ↓w_setF, ↓w_std, ↓w_stn, ↓w_stw, ↓w_sfd, ↓w_sfn, ↓w_sfw, ↓w_p2, ↓w_p3, ↓w_p2d, ↓w_p2n, ↓w_p3d, ↓w_p3n, ↓w_unp, ↓w_und, ↓w_unn, ↓w_tgn, ↓w_tgt, ↓w_tp0, ↓w_tp1, ↓w_app, ↓w_ext, ↓w_ow, ↓w_sdd, ↓w_sdn, ↓w_nw, ↓w_var, ↓w_vra, ↓w_vro, ↓w_c, ↓w_op, ↓w_eif, ↓w_if1, ↓w_if0, ↓w_tb, ↓w_tbb, ↓w_tru, ↓w_trb, ↓w_tri, ↓w_trl, ↓w_trt, ↓w_trn, ↓w_tro, ↓w_tr0, ↓w_and, ↓w_or, ↓w_an1, ↓w_an0, ↓w_or1, ↓w_or0, ↓w_tnot, ↓w_eand, ↓w_eor, ↓w_ae1, ↓w_ae0, ↓w_oe1, ↓w_oe0, ↓w_enot, ↓w_ne, ↓w_eneg, ↓w_ng, ↓w_anil, ↓w_acons, ↓w_rcons, ↓w_acd, ↓w_acn, ↓w_acw, ↓w_acc, ↓w_astar, ↓w_asl, ↓w_ast, ↓w_asn, ↓w_tup, ↓w_lst, ↓w_dt0, ↓w_dt1, ↓w_dt2, ↓w_dt3, ↓w_dt4, ↓w_dt5, ↓w_dt6, ↓w_dt7, ↓w_dt8, ↓w_sl, ↓w_on, ↓w_os, ↓w_osi, ↓w_slt, ↓w_sll, ↓w_sln, ↓w_slo, ↓w_cb, ↓w_lc, ↓w_wp0, ↓w_wp1, ↓w_yes, ↓w_for, ↓w_iseq, ↓w_sqd, ↓w_sqt, ↓w_sqn, ↓w_rg1, ↓w_rg2, ↓w_rg3, ↓w_r1, ↓w_r2, ↓w_r3, ↓w_ien, ↓w_enl, ↓w_ent, ↓w_izp, ↓w_zll, ↓w_zlt, ↓w_ztl, ↓w_ztt, ↓w_lz, ↓w_lzl, ↓w_eg1, ↓w_eg2, ↓w_int, ↓w_tav, ↓w_rep, ↓w_rpn, ↓w_rpt, ↓w_isi, ↓w_call, ↓w_callK, ↓w_kp, ↓w_callL, ↓w_eapp, ↓w_cl, ↓w_d01, ↓w_d02, ↓w_wix, ↓w_we, ↓w_wset, ↓w_wdm, ↓w_i2, ↓w_frz, ↓w_fz0, ↓w_fz1, ↓w_fzo, ↓w_fza, ↓w_fzn, ↓w_ch, ↓w_bv, ↓w_ch1, ↓w_ch0, ↓w_add, ↓w_sub, ↓w_lt, ↓w_le, ↓w_gt, ↓w_ge, ↓w_eqi, ↓w_nei, ↓w_eqb, ↓w_neb, ↓w_eqs, ↓w_nes, ↓w_eq00, ↓w_ne00, ↓w_eq0i, ↓w_ne0i, ↓w_eqi0, ↓w_nei0, ↓w_mul, ↓w_mod, ↓w_fdiv, ↓w_pow, ↓w_is0, ↓w_isi', ↓w_ist, ↓w_isl, ↓w_in0, ↓w_ini, ↓w_isb, ↓w_isnb, ↓w_isb0, ↓w_isnb0, ↓w_int', ↓w_inl, ↓w_ixt, ↓w_ixl, ↓w_ixn, ↓w_ixo, ↓w_ix, ↓w_at0, ↓w_at1, ↓w_at2, ↓w_al1, ↓w_al2, ↓w_al3, ↓w_al4, ↓w_al5, ↓w_al6, ↓w_att, ↓w_lenl, ↓w_lent, ↓w_lenn, ↓w_leno, ↓w_suml, ↓w_sumt, ↓w_sumn, ↓w_sumo, ↓w_max2, ↓w_min2, ↓w_abs, ↓w_fint, ↓w_ftl, ↓w_ftt, ↓w_ftn, ↓w_fto, ↓w_fll, ↓w_flt, ↓w_pld, ↓w_plw, ↓w_ix1, ↓w_lad, ↓w_lan, ↓w_lab, ↓w_tgnp, ↓w_np0, ↓w_np1, ↓w_np2, ↓w_lc2, ↓w_ss, ↓w_iz3, ↓w_z3ll, ↓w_p4, ↓w_p4n, ↓w_p4d, ↓w_rev, ↓w_rvl, ↓w_rvt, ↓w_rvn, ↓w_rvo, ↓w_repT, ↓w_rtp, ↓w_max3, ↓w_p4n3, ↓w_ixDr, ↓w_unl, ↓w_unld, ↓w_unln, ↓w_wh1, ↓w_wh0, ↓w_srtd, ↓w_srtl, ↓w_tif, ↓w_tif1, ↓w_tif0, ↓w_dm, ↓w_popA, ↓w_ienumz, ↓w_tgez, ↓w_sortl, ↓w_sortn, ↓w_sortt, ↓w_lentT, ↓w_calm, ↓w_tcalm, ↓w_icalm, ↓w_callR, ↓w_raise1, ↓w_rsq, ↓w_rsn, ↓w_try, ↓w_appR, List.getElem?_cons_zero, List.getElem?_cons_succ, List.set_cons_zero, List.set_cons_succ, true_and, Bool.not_true, Bool.not_false, List.cons_append, List.nil_append, startE, List.map_cons, List.map_nil, List.length_cons, List.length_nil, List.replicate_succ, List.replicate_zero, Nat.zero_add, Nat.reduceAdd, Nat.reduceSub, eq_self, decide_true, setE, setsE, List.isEmpty_nil, List.isEmpty_cons, $ls,*])
local macro_rules | `(tactic| simp?) => `(tactic| try simp only [↓w_seq, ↓w_next, ↓w_break, ↓w_cont, ↓w_drop, ↓w_ret, ↓w_retN, ↓w_retW, ↓w_new3, ↓w_rtd, ↓w_rtn, ↓w_rtw, ↓w_if, ↓w_br1, ↓w_br0, ↓w_set, ↓w_setF, ↓w_std, ↓w_stn, ↓w_stw, ↓w_sfd, ↓w_sfn, ↓w_sfw, ↓w_p2, ↓w_p3, ↓w_p2d, ↓w_p2n, ↓w_p3d, ↓w_p3n, ↓w_unp, ↓w_und, ↓w_unn, ↓w_tgn, ↓w_tgt, ↓w_tp0, ↓w_tp1, ↓w_app, ↓w_ext, ↓w_ow, ↓w_sdd, ↓w_sdn, ↓w_nw, ↓w_var, ↓w_vra, ↓w_vro, ↓w_c, ↓w_op, ↓w_eif, ↓w_if1, ↓w_if0, ↓w_tb, ↓w_tbb, ↓w_tru, ↓w_trb, ↓w_tri, ↓w_trl, ↓w_trt, ↓w_trn, ↓w_tro, ↓w_tr0, ↓w_and, ↓w_or, ↓w_an1, ↓w_an0, ↓w_or1, ↓w_or0, ↓w_tnot, ↓w_eand, ↓w_eor, ↓w_ae1, ↓w_ae0, ↓w_oe1, ↓w_oe0, ↓w_enot, ↓w_ne, ↓w_eneg, ↓w_ng, ↓w_anil, ↓w_acons, ↓w_rcons, ↓w_acd, ↓w_acn, ↓w_acw, ↓w_acc, ↓w_astar, ↓w_asl, ↓w_ast, ↓w_asn, ↓w_tup, ↓w_lst, ↓w_dt0, ↓w_dt1, ↓w_dt2, ↓w_dt3, ↓w_dt4, ↓w_dt5, ↓w_dt6, ↓w_dt7, ↓w_dt8, ↓w_sl, ↓w_on, ↓w_os, ↓w_osi, ↓w_slt, ↓w_sll, ↓w_sln, ↓w_slo, ↓w_cb, ↓w_lc, ↓w_wp0, ↓w_wp1, ↓w_yes, ↓w_for, ↓w_iseq, ↓w_sqd, ↓w_sqt, ↓w_sqn, ↓w_rg1, ↓w_rg2, ↓w_rg3, ↓w_r1, ↓w_r2, ↓w_r3, ↓w_ien, ↓w_enl, ↓w_ent, ↓w_izp, ↓w_zll, ↓w_zlt, ↓w_ztl, ↓w_ztt, ↓w_lz, ↓w_lzl, ↓w_eg1, ↓w_eg2, ↓w_int, ↓w_tav, ↓w_rep, ↓w_rpn, ↓w_rpt, ↓w_isi, ↓w_call, ↓w_callK, ↓w_kp, ↓w_callL, ↓w_eapp, ↓w_cl, ↓w_d01, ↓w_d02, ↓w_wix, ↓w_we, ↓w_wset, ↓w_wdm, ↓w_i2, ↓w_frz, ↓w_fz0, ↓w_fz1, ↓w_fzo, ↓w_fza, ↓w_fzn, ↓w_ch, ↓w_bv, ↓w_ch1, ↓w_ch0, ↓w_add, ↓w_sub, ↓w_lt, ↓w_le, ↓w_gt, ↓w_ge, ↓w_eqi, ↓w_nei, ↓w_eqb, ↓w_neb, ↓w_eqs, ↓w_nes, ↓w_eq00, ↓w_ne00, ↓w_eq0i, ↓w_ne0i, ↓w_eqi0, ↓w_nei0, ↓w_mul, ↓w_mod, ↓w_fdiv, ↓w_pow, ↓w_is0, ↓w_isi', ↓w_ist, ↓w_isl, ↓w_in0, ↓w_ini, ↓w_isb, ↓w_isnb, ↓w_isb0, ↓w_isnb0, ↓w_int', ↓w_inl, ↓w_ixt, ↓w_ixl, ↓w_ixn, ↓w_ixo, ↓w_ix, ↓w_at0, ↓w_at1, ↓w_at2, ↓w_al1, ↓w_al2, ↓w_al3, ↓w_al4, ↓w_al5, ↓w_al6, ↓w_att, ↓w_lenl, ↓w_lent, ↓w_lenn, ↓w_leno, ↓w_suml, ↓w_sumt, ↓w_sumn, ↓w_sumo, ↓w_max2, ↓w_min2, ↓w_abs, ↓w_fint, ↓w_ftl, ↓w_ftt, ↓w_ftn, ↓w_fto, ↓w_fll, ↓w_flt, ↓w_pld, ↓w_plw, ↓w_ix1, ↓w_lad, ↓w_lan, ↓w_lab, ↓w_tgnp, ↓w_np0, ↓w_np1, ↓w_np2, ↓w_lc2, ↓w_ss, ↓w_iz3, ↓w_z3ll, ↓w_p4, ↓w_p4n, ↓w_p4d, ↓w_rev, ↓w_rvl, ↓w_rvt, ↓w_rvn, ↓w_rvo, ↓w_repT, ↓w_rtp, ↓w_max3, ↓w_p4n3, ↓w_ixDr, ↓w_unl, ↓w_unld, ↓w_unln, ↓w_wh1, ↓w_wh0, ↓w_srtd, ↓w_srtl, ↓w_tif, ↓w_tif1, ↓w_tif0, ↓w_dm, ↓w_popA, ↓w_ienumz, ↓w_tgez, ↓w_sortl, ↓w_sortn, ↓w_sortt, ↓w_lentT, ↓w_calm, ↓w_tcalm, ↓w_icalm, ↓w_callR, ↓w_raise1, ↓w_rsq, ↓w_rsn, ↓w_try, ↓w_appR, List.getElem?_cons_zero, List.getElem?_cons_succ, List.set_cons_zero, List.set_cons_succ, true_and, Bool.not_true, Bool.not_false, List.cons_append, List.nil_append, startE, List.map_cons, List.map_nil, List.length_cons, List.length_nil, List.replicate_succ, List.replicate_zero, Nat.zero_add, Nat.reduceAdd, Nat.reduceSub, eq_self, decide_true, setE, setsE, List.isEmpty_nil, List.isEmpty_cons])
local macro_rules | `(tactic| dsimp? [$ls,*]) => `(tactic| try simp only [↓w_seq, ↓w_next, ↓w_break, ↓w_cont, ↓w_drop, ↓w_ret, ↓w_retN, ↓w_retW, ↓w_new3, ↓w_rtd, ↓w_rtn, ↓w_rtw, ↓w_br1, ↓w_br0, ↓w_set, ↓w_setF, ↓w_std, ↓w_stn, ↓w_stw, ↓w_sfd, ↓w_sfn, ↓w_sfw, ↓w_p2, ↓w_p3, ↓w_p2d, ↓w_p2n, ↓w_p3d, ↓w_p3n, ↓w_unp, ↓w_und, ↓w_unn, ↓w_tgn, ↓w_tgt, ↓w_tp0, ↓w_tp1, ↓w_app, ↓w_ext, ↓w_ow, ↓w_sdd, ↓w_sdn, ↓w_nw, ↓w_var, ↓w_vra, ↓w_vro, ↓w_c, ↓w_op, ↓w_eif, ↓w_if1, ↓w_if0, ↓w_tb, ↓w_tbb, ↓w_tru, ↓w_trb, ↓w_tri, ↓w_trl, ↓w_trt, ↓w_trn, ↓w_tro, ↓w_tr0, ↓w_and, ↓w_or, ↓w_an1, ↓w_an0, ↓w_or1, ↓w_or0, ↓w_tnot, ↓w_eand, ↓w_eor, ↓w_ae1, ↓w_ae0, ↓w_oe1, ↓w_oe0, ↓w_enot, ↓w_ne, ↓w_eneg, ↓w_ng, ↓w_anil, ↓w_acons, ↓w_rcons, ↓w_acd, ↓w_acn, ↓w_acw, ↓w_acc, ↓w_astar, ↓w_asl, ↓w_ast, ↓w_asn, ↓w_tup, ↓w_lst, ↓w_dt0, ↓w_dt1, ↓w_dt2, ↓w_dt3, ↓w_dt4, ↓w_dt5, ↓w_dt6, ↓w_dt7, ↓w_dt8, ↓w_sl, ↓w_on, ↓w_os, ↓w_osi, ↓w_slt, ↓w_sll, ↓w_sln, ↓w_slo, ↓w_cb, ↓w_lc, ↓w_wp0, ↓w_wp1, ↓w_yes, ↓w_for, ↓w_iseq, ↓w_sqd, ↓w_sqt, ↓w_sqn, ↓w_rg1, ↓w_rg2, ↓w_rg3, ↓w_r1, ↓w_r2, ↓w_r3, ↓w_ien, ↓w_enl, ↓w_ent, ↓w_izp, ↓w_zll, ↓w_zlt, ↓w_ztl, ↓w_ztt, ↓w_lz, ↓w_lzl, ↓w_eg1, ↓w_eg2, ↓w_int, ↓w_tav, ↓w_rep, ↓w_rpn, ↓w_rpt, ↓w_isi, ↓w_call, ↓w_callK, ↓w_kp, ↓w_callL, ↓w_eapp, ↓w_cl, ↓w_d01, ↓w_d02, ↓w_wix, ↓w_we, ↓w_wset, ↓w_wdm, ↓w_i2, ↓w_frz, ↓w_fz0, ↓w_fz1, ↓w_fzo, ↓w_fza, ↓w_fzn, ↓w_ch, ↓w_bv, ↓w_ch1, ↓w_ch0, ↓w_add, ↓w_sub, ↓w_lt, ↓w_le, ↓w_gt, ↓w_ge, ↓w_eqi, ↓w_nei, ↓w_eqb, ↓w_neb, ↓w_eqs, ↓w_nes, ↓w_eq00, ↓w_ne00, ↓w_eq0i, ↓w_ne0i, ↓w_eqi0, ↓w_nei0, ↓w_mul, ↓w_mod, ↓w_fdiv, ↓w_pow, ↓w_is0, ↓w_isi', ↓w_ist, ↓w_isl, ↓w_in0, ↓w_ini, ↓w_isb, ↓w_isnb, ↓w_isb0, ↓w_isnb0, ↓w_int', ↓w_inl, ↓w_ixt, ↓w_ixl, ↓w_ixn, ↓w_ixo, ↓w_ix, ↓w_at0, ↓w_at1, ↓w_at2, ↓w_al1, ↓w_al2, ↓w_al3, ↓w_al4, ↓w_al5, ↓w_al6, ↓w_att, ↓w_lenl, ↓w_lent, ↓w_lenn, ↓w_leno, ↓w_suml, ↓w_sumt, ↓w_sumn, ↓w_sumo, ↓w_max2, ↓w_min2, ↓w_abs, ↓w_fint, ↓w_ftl, ↓w_ftt, ↓w_ftn, ↓w_fto, ↓w_fll, ↓w_flt, ↓w_pld, ↓w_plw, ↓w_ix1, ↓w_lad, ↓w_lan, ↓w_lab, ↓w_tgnp, ↓w_np0, ↓w_np1, ↓w_np2, ↓w_lc2, ↓w_ss, ↓w_iz3, ↓w_z3ll, ↓w_p4, ↓w_p4n, ↓w_p4d, ↓w_rev, ↓w_rvl, ↓w_rvt, ↓w_rvn, ↓w_rvo, ↓w_repT, ↓w_rtp, ↓w_max3, ↓w_p4n3, ↓w_ixDr, ↓w_unl, ↓w_unld, ↓w_unln, ↓w_wh1, ↓w_wh0, ↓w_srtd, ↓w_srtl, ↓w_tif, ↓w_tif1, ↓w_tif0, ↓w_dm, ↓w_popA, ↓w_ienumz, ↓w_tgez, ↓w_sortl, ↓w_sortn, ↓w_sortt, ↓w_lentT, ↓w_calm, ↓w_tcalm, ↓w_icalm, ↓w_callR, ↓w_raise1, ↓w_rsq, ↓w_rsn, ↓w_try, ↓w_appR, List.getElem?_cons_zero, List.getElem?_cons_succ, List.set_cons_zero, List.set_cons_succ, true_and, Bool.not_true, Bool.not_false, List.cons_append, List.nil_append, startE, List.map_cons, List.map_nil, List.length_cons, List.length_nil, List.replicate_succ, List.replicate_zero, Nat.zero_add, Nat.reduceAdd, Nat.reduceSub, eq_self, decide_true, setE, setsE, List.isEmpty_nil, List.isEmpty_cons, $ls,*])
local macro_rules | `(tactic| dsimp?) => `(tactic| try simp only [↓w_seq, ↓w_next, ↓w_break, ↓w_cont, ↓w_drop, ↓w_ret, ↓w_retN, ↓w_retW, ↓w_new3, ↓w_rtd, ↓w_rtn, ↓w_rtw, ↓w_br1, ↓w_br0, ↓w_set, ↓w_setF, ↓w_std, ↓w_stn, ↓w_stw, ↓w_sfd, ↓w_sfn, ↓w_sfw, ↓w_p2, ↓w_p3, ↓w_p2d, ↓w_p2n, ↓w_p3d, ↓w_p3n, ↓w_unp, ↓w_und, ↓w_unn, ↓w_tgn, ↓w_tgt, ↓w_tp0, ↓w_tp1, ↓w_app, ↓w_ext, ↓w_ow, ↓w_sdd, ↓w_sdn, ↓w_nw, ↓w_var, ↓w_vra, ↓w_vro, ↓w_c, ↓w_op, ↓w_eif, ↓w_if1, ↓w_if0, ↓w_tb, ↓w_tbb, ↓w_tru, ↓w_trb, ↓w_tri, ↓w_trl, ↓w_trt, ↓w_trn, ↓w_tro, ↓w_tr0, ↓w_and, ↓w_or, ↓w_an1, ↓w_an0, ↓w_or1, ↓w_or0, ↓w_tnot, ↓w_eand, ↓w_eor, ↓w_ae1, ↓w_ae0, ↓w_oe1, ↓w_oe0, ↓w_enot, ↓w_ne, ↓w_eneg, ↓w_ng, ↓w_anil, ↓w_acons, ↓w_rcons, ↓w_acd, ↓w_acn, ↓w_acw, ↓w_acc, ↓w_astar, ↓w_asl, ↓w_ast, ↓w_asn, ↓w_tup, ↓w_lst, ↓w_dt0, ↓w_dt1, ↓w_dt2, ↓w_dt3, ↓w_dt4, ↓w_dt5, ↓w_dt6, ↓w_dt7, ↓w_dt8, ↓w_sl, ↓w_on, ↓w_os, ↓w_osi, ↓w_slt, ↓w_sll, ↓w_sln, ↓w_slo, ↓w_cb, ↓w_lc, ↓w_wp0, ↓w_wp1, ↓w_yes, ↓w_for, ↓w_iseq, ↓w_sqd, ↓w_sqt, ↓w_sqn, ↓w_rg1, ↓w_rg2, ↓w_rg3, ↓w_r1, ↓w_r2, ↓w_r3, ↓w_ien, ↓w_enl, ↓w_ent, ↓w_izp, ↓w_zll, ↓w_zlt, ↓w_ztl, ↓w_ztt, ↓w_lz, ↓w_lzl, ↓w_eg1, ↓w_eg2, ↓w_int, ↓w_tav, ↓w_rep, ↓w_rpn, ↓w_rpt, ↓w_isi, ↓w_call, ↓w_callK, ↓w_kp, ↓w_callL, ↓w_eapp, ↓w_cl, ↓w_d01, ↓w_d02, ↓w_wix, ↓w_we, ↓w_wset, ↓w_wdm, ↓w_i2, ↓w_frz, ↓w_fz0, ↓w_fz1, ↓w_fzo, ↓w_fza, ↓w_fzn, ↓w_ch, ↓w_bv, ↓w_ch1, ↓w_ch0, ↓w_add, ↓w_sub, ↓w_lt, ↓w_le, ↓w_gt, ↓w_ge, ↓w_eqi, ↓w_nei, ↓w_eqb, ↓w_neb, ↓w_eqs, ↓w_nes, ↓w_eq00, ↓w_ne00, ↓w_eq0i, ↓w_ne0i, ↓w_eqi0, ↓w_nei0, ↓w_mul, ↓w_mod, ↓w_fdiv, ↓w_pow, ↓w_is0, ↓w_isi', ↓w_ist, ↓w_isl, ↓w_in0, ↓w_ini, ↓w_isb, ↓w_isnb, ↓w_isb0, ↓w_isnb0, ↓w_int', ↓w_inl, ↓w_ixt, ↓w_ixl, ↓w_ixn, ↓w_ixo, ↓w_ix, ↓w_at0, ↓w_at1, ↓w_at2, ↓w_al1, ↓w_al2, ↓w_al3, ↓w_al4, ↓w_al5, ↓w_al6, ↓w_att, ↓w_lenl, ↓w_lent, ↓w_lenn, ↓w_leno, ↓w_suml, ↓w_sumt, ↓w_sumn, ↓w_sumo, ↓w_max2, ↓w_min2, ↓w_abs, ↓w_fint, ↓w_ftl, ↓w_ftt, ↓w_ftn, ↓w_fto, ↓w_fll, ↓w_flt, ↓w_pld, ↓w_plw, ↓w_ix1, ↓w_lad, ↓w_lan, ↓w_lab, ↓w_tgnp, ↓w_np0, ↓w_np1, ↓w_np2, ↓w_lc2, ↓w_ss, ↓w_iz3, ↓w_z3ll, ↓w_p4, ↓w_p4n, ↓w_p4d, ↓w_rev, ↓w_rvl, ↓w_rvt, ↓w_rvn, ↓w_rvo, ↓w_repT, ↓w_rtp, ↓w_max3, ↓w_p4n3, ↓w_ixDr, ↓w_unl, ↓w_unld, ↓w_unln, ↓w_wh1, ↓w_wh0, ↓w_srtd, ↓w_srtl, ↓w_tif, ↓w_tif1, ↓w_tif0, ↓w_dm, ↓w_popA, ↓w_ienumz, ↓w_tgez, ↓w_sortl, ↓w_sortn, ↓w_sortt, ↓w_lentT, ↓w_calm, ↓w_tcalm, ↓w_icalm, ↓w_callR, ↓w_raise1, ↓w_rsq, ↓w_rsn, ↓w_try, ↓w_appR, List.getElem?_cons_zero, List.getElem?_cons_succ, List.set_cons_zero, List.set_cons_succ, true_and, Bool.not_true, Bool.not_false, List.cons_append, List.nil_append, startE, List.map_cons, List.map_nil, List.length_cons, List.length_nil, List.replicate_succ, List.replicate_zero, Nat.zero_add, Nat.reduceAdd, Nat.reduceSub, eq_self, decide_true, setE, setsE, List.isEmpty_nil, List.isEmpty_cons])
/-! ### pure: numbers, forms -/
theorem cut_to {α : Type} (l : List α) (k : Nat) (h : k ≤ l.length) : cutD l none (some (k : Int)) = l.take k := by
  unfold cutD
  rw [HT.sIx_none, HT.sIx_nat, Nat.min_eq_left h]
  simp
theorem cut_from {α : Type} (l : List α) (k : Nat) : cutD l (some (k : Int)) none = l.drop k := by
  unfold cutD
  rw [HT.sIx_none, HT.sIx_nat]
  by_cases h : k ≤ l.length
  · rw [Nat.min_eq_left h, List.take_of_length_le (by simp)]
  · rw [Nat.min_eq_right (by omega), List.drop_of_length_le (Nat.le_refl _), List.drop_of_length_le (by omega)]
    simp
theorem cut_mid {α : Type} (l : List α) (a b : Nat) : cutD l (some (a : Int)) (some (b : Int)) = (l.take b).drop a := by
  unfold cutD
  rw [HT.sIx_nat, HT.sIx_nat]
  rw [List.drop_take]
  by_cases h : a ≤ l.length
  · rw [Nat.min_eq_left h]
    by_cases h2 : b ≤ l.length
    · rw [Nat.min_eq_left h2]
    · rw [Nat.min_eq_right (by omega), List.take_of_length_le (by simp), List.take_of_length_le (by simp; omega)]
  · rw [Nat.min_eq_right (by omega : l.length ≤ a), List.drop_of_length_le (Nat.le_refl _), List.drop_of_length_le (by omega)]
    simp
theorem at_nat {α : Type} {l : List α} {j : Nat} {v : α} (h : l[j]? = some v) : atI l (j : Int) = some v := atI_nat h
def isWhole : PyData → Bool
  | .int _ => true
  | _ => false
def optI : PyData → Bool
  | .none => true
  | .int _ => true
  | _ => false
def geB (i : Int) : PyData → Bool
  | .int l => decide (l ≤ i)
  | _ => true
def leB (i : Int) : PyData → Bool
  | .int h => decide (i ≤ h)
  | _ => true
def numB (v lo hi : PyData) : Bool := match v with
  | .int i => geB i lo && leB i hi
  | _ => false
theorem st_mul {a b : Int} {Q : AV → Prop} (h : (smallB a || smallB b) = true) (q : Q (.dat (.int (a * b)))) : ap2 dMul (.dat (.int a)) (.dat (.int b)) Q := by
  unfold ap2
  show (match (if (smallB a || smallB b) = true then some (AV.dat (.int (a * b))) else none) with | some a => Q a | none => False)
  rw [if_pos h]
  exact q
theorem st_mod {a b : Int} {Q : AV → Prop} (h : 0 < b) (q : Q (.dat (.int (a % b)))) : ap2 dMod (.dat (.int a)) (.dat (.int b)) Q := by
  unfold ap2
  show (match (if 0 < b then some (AV.dat (.int (a % b))) else none) with | some a => Q a | none => False)
  rw [if_pos h]
  exact q
theorem st_fdiv {a b : Int} {Q : AV → Prop} (h : 0 < b ∧ b < 1073741824) (q : Q (.dat (.int (a / b)))) : ap2 dFdiv (.dat (.int a)) (.dat (.int b)) Q := by
  unfold ap2
  show (match (if 0 < b ∧ b < 1073741824 then some (AV.dat (.int (a / b))) else none) with | some a => Q a | none => False)
  rw [if_pos h]
  exact q
theorem st_pow {a b : Int} {Q : AV → Prop} (h : 0 ≤ b ∧ b ≤ 1000000 ∧ a.natAbs < 2 ^ 64) (q : Q (.dat (.int (a ^ b.toNat)))) : ap2 dPow (.dat (.int a)) (.dat (.int b)) Q := by
  unfold ap2
  show (match (if 0 ≤ b ∧ b ≤ 1000000 ∧ a.natAbs < 2 ^ 64 then some (AV.dat (.int (a ^ b.toNat))) else none) with | some a => Q a | none => False)
  rw [if_pos h]
  exact q
theorem sm_r {a b : Int} (h : smallB b = true) : (smallB a || smallB b) = true := by rw [h, Bool.or_true]
theorem sm_l {a b : Int} (h : smallB a = true) : (smallB a || smallB b) = true := by rw [h, Bool.true_or]
theorem sm_of {a : Int} (h0 : -(2 ^ 64) < a) (h1 : a < 2 ^ 64) : smallB a = true := by
  unfold smallB
  rw [decide_eq_true h0, decide_eq_true h1]
  rfl
theorem st_add {a b : Int} {Q : AV → Prop} (q : Q (.dat (.int (a + b)))) : ap2 dAdd (.dat (.int a)) (.dat (.int b)) Q := q
theorem st_sub {a b : Int} {Q : AV → Prop} (q : Q (.dat (.int (a - b)))) : ap2 dSub (.dat (.int a)) (.dat (.int b)) Q := q
theorem st_cb {env : En} {E : XD → Prop} {f : OpN} {x a : AV} {Q : AV → Prop} (h : f [x] = some a) (q : Q a) : aNil env (fun as => (fun as => match f as with | some a => Q a | none => False) (x :: as)) E := by
  show (match f [x] with | some a => Q a | none => False)
  rw [h]
  exact q
theorem st_int {env : En} {E : XD → Prop} {i : Int} {Q : AV → Prop} (q : Q (.dat (.int i))) : aNil env (fun as => (fun as => match fInt as with | some a => Q a | none => False) (.dat (.int i) :: as)) E := q
theorem go_C {env : En} {E : XD → Prop} {d : PyData} {Q : AV → Prop} (q : Q (.dat d)) : eC d env Q E := q
theorem cut_take {α : Type} (l : List α) (k : Nat) : cutD l none (some (k : Int)) = l.take k := by
  by_cases h : k ≤ l.length
  · exact cut_to l k h
  · unfold cutD
    rw [HT.sIx_none, HT.sIx_nat, Nat.min_eq_right (by omega), List.take_of_length_le (by omega : l.length ≤ k)]
    simp
/-- a for loop by an invariant of the slots -/
theorem for_inv {t : Tg} {body : TSd} {D : EndsD} {E : XD → Prop} {P : En → Prop} (hnx : ∀ env, P env → D.nx env) : ∀ (ds : List PyData) (env : En), P env →
    (∀ d ∈ ds, ∀ env, P env → ∃ env', t.set d env = some env' ∧ ∀ D' : EndsD, D'.rt = D.rt → (∀ e, P e → D'.nx e) → body D' env' E) → forGo t body D E ds env
  | [], env, p, _ => hnx env p
  | d :: ds, env, p, h => by
    obtain ⟨env', e, q⟩ := h d (List.mem_cons_self ..) env p
    show (match t.set d env with | some env' => _ | none => False)
    rw [e]
    exact q _ rfl fun env'' p'' => for_inv hnx ds env'' p'' fun d hd => h d (List.mem_cons_of_mem _ hd)
theorem rngD_mem {lo : Int} {n : Nat} {d : PyData} (h : d ∈ rngD lo n) : ∃ j : Nat, j < n ∧ d = .int (lo + j) := by
  unfold rngD at h
  obtain ⟨j, hj, rfl⟩ := List.mem_map.mp h
  exact ⟨j, List.mem_range.mp hj, rfl⟩
/-! towers as data -/
structure Hr where
  lo : Int
  most : Int
  pump : Int
def goodH (h : Hr) : Prop := 0 ≤ h.lo ∧ h.lo ≤ h.most ∧ h.most ≤ 30 ∧ 0 ≤ h.pump ∧ h.pump ≤ 30
def hrD (h : Hr) : PyData := .tuple [.int h.lo, .int h.most, .int h.pump]
def twD (holds : Int) (hs : List Hr) : PyData := .tuple [.int holds, .tuple (hs.map hrD)]
def isTw (v : PyData) (Q : Int → List Hr → Prop) : Prop := ∃ holds hs, v = twD holds hs ∧ Q holds hs
/-- a comprehension over such hours, its element a number of the hour -/
theorem comp_hours {t : Tg} {te : TEd} {env : En} {Q : AV → Prop} {E : XD → Prop} {f : Hr → PyData} (hset : ∀ h, ∃ env', t.set (hrD h) env = some env' ∧ ∀ Q', Q' (.dat (f h)) → te env' Q' E) :
    ∀ (hs : List Hr) (acc : List PyData), Q (.new (acc ++ hs.map f)) → compGo t tYesD te env Q E (hs.map hrD) acc
  | [], acc, h => by
    show Q (.new acc)
    simpa using h
  | x :: hs, acc, h => by
    obtain ⟨env', e, q⟩ := hset x
    show (match t.set (hrD x) env with | some env' => _ | none => False)
    rw [e]
    refine q _ ?_
    exact comp_hours hset hs (acc ++ [f x]) (by simpa using h)
def maxI (l : List Int) : Int := l.foldl max 0
theorem intsD_map : ∀ l : List Int, intsD (l.map PyData.int) = some l
  | [] => rfl
  | i :: l => by
    show (intsD (l.map PyData.int)).map (i :: ·) = _
    rw [intsD_map l]
    rfl
/-- a comprehension with a test -/
theorem comp_filt {α : Type} {t : Tg} {tt : TTd} {te : TEd} {env : En} {Q : AV → Prop} {E : XD → Prop} (D : α → PyData) (p : α → Bool) (f : α → PyData) : ∀ (l : List α) (acc : List PyData),
    (∀ x ∈ l, ∃ env', t.set (D x) env = some env' ∧ (∀ R : Bool → Prop, R (p x) → tt env' R E) ∧ (p x = true → ∀ Q' : AV → Prop, Q' (.dat (f x)) → te env' Q' E)) →
    Q (.new (acc ++ (l.filter p).map f)) → compGo t tt te env Q E (l.map D) acc
  | [], acc, _, h => by
    have h : Q (.new (acc ++ [])) := h
    rw [List.append_nil] at h
    exact h
  | x :: l, acc, hs, h => by
    obtain ⟨env', e, q1, q2⟩ := hs x (List.mem_cons_self ..)
    show (match t.set (D x) env with | some env' => _ | none => False)
    rw [e]
    refine q1 _ ?_
    cases hp : p x with
    | true =>
      rw [List.filter_cons_of_pos hp] at h
      refine q2 hp _ ?_
      refine comp_filt D p f l (acc ++ [f x]) (fun y hy => hs y (List.mem_cons_of_mem _ hy)) ?_
      rw [List.append_assoc]
      exact h
    | false =>
      rw [List.filter_cons_of_neg (by rw [hp]; decide)] at h
      exact comp_filt D p f l acc (fun y hy => hs y (List.mem_cons_of_mem _ hy)) h
/-- .. without one -/
theorem comp_all {α : Type} {t : Tg} {te : TEd} {env : En} {Q : AV → Prop} {E : XD → Prop} (D : α → PyData) (f : α → PyData) (l : List α)
    (hs : ∀ x ∈ l, ∃ env', t.set (D x) env = some env' ∧ ∀ Q' : AV → Prop, Q' (.dat (f x)) → te env' Q' E) (h : Q (.new (l.map f))) : compGo t tYesD te env Q E (l.map D) [] := by
  refine comp_filt D (fun _ => true) f l [] (fun x hx => ?_) ?_
  · obtain ⟨env', e, q⟩ := hs x hx
    exact ⟨env', e, fun R r => r, fun _ => q⟩
  · have e : l.filter (fun _ => true) = l := List.filter_eq_self.mpr fun _ _ => rfl
    rw [e]
    exact h
theorem dAdd_lists {a b : List PyData} (h : a.length + b.length ≤ 16777216) : dAdd (.list a) (.list b) = some (.new (a ++ b)) := by
  show (if _ then _ else _) = _
  rw [if_pos h]
theorem fMax_zero (l : List Int) : fMax [.new ([.int 0] ++ l.map PyData.int)] = some (.dat (.int (maxI l))) := by
  show (intsD ((0 :: l).map PyData.int)).bind _ = _
  rw [intsD_map]
  rfl
theorem maxI_nn (l : List Int) : 0 ≤ maxI l := by
  have : ∀ (l : List Int) (x : Int), x ≤ l.foldl max x := by
    intro l
    induction l with
    | nil => exact fun x => Int.le_refl _
    | cons y l ih =>
      intro x
      have := ih (max x y)
      show x ≤ l.foldl max (max x y)
      omega
  exact this l 0
theorem fSum_new (l : List Int) : fSum [.new (l.map PyData.int)] = some (.dat (.int l.sum)) := by
  show (intsD (l.map PyData.int)).map _ = _
  rw [intsD_map]
  rfl
theorem fSum_list (l : List Int) : fSum [.dat (.list (l.map PyData.int))] = some (.dat (.int l.sum)) := fSum_new l
theorem okRg {a b : Int} (h0 : -100000 ≤ a) (h1 : a ≤ 100000) (h2 : -100000 ≤ b) (h3 : b ≤ 100000) : okRng a b = true := by
  simp only [okRng, Bool.and_eq_true, decide_eq_true_eq]
  omega
theorem rngD_map (lo : Int) (n : Nat) : rngD lo n = (List.range n).map fun (j : Nat) => .int (lo + j) := rfl
theorem rngD_nat (n : Nat) : rngD 0 n = (List.range n).map fun (j : Nat) => .int (j : Int) := by
  rw [rngD_map]
  exact List.map_congr_left fun j _ => by rw [Int.zero_add]
/-! what repr is told of -/
theorem calm_i {i : Int} (h0 : -1000000 ≤ i) (h1 : i ≤ 1000000) : calmD (.int i) = true := by
  have e : i.natAbs.log2 < 1900 := by
    by_cases z : i.natAbs = 0
    · rw [z]; decide
    · exact (Nat.log2_lt z).mpr (show i.natAbs < 2 ^ 1900 from Nat.lt_of_le_of_lt (show i.natAbs ≤ 1000000 by omega) (by decide))
  exact decide_eq_true e
/-- data of small numbers, not big, not deep: n cells, d levels -/
def tame (n d : Nat) (x : PyData) : Prop := calmD x = true ∧ x.bulk ≤ n ∧ x.depth ≤ d
theorem tame_i {i : Int} (h0 : -1000000 ≤ i) (h1 : i ≤ 1000000) : tame 0 0 (.int i) := ⟨calm_i h0 h1, Nat.le_refl _, Nat.le_refl _⟩
theorem tame_none : tame 0 0 .none := ⟨rfl, Nat.le_refl _, Nat.le_refl _⟩
theorem tame_bool {b : Bool} : tame 0 0 (.bool b) := ⟨rfl, Nat.le_refl _, Nat.le_refl _⟩
theorem tame_up {n d n' d' : Nat} {x : PyData} (h : tame n d x) (hn : n ≤ n') (hd : d ≤ d') : tame n' d' x := ⟨h.1, Nat.le_trans h.2.1 hn, Nat.le_trans h.2.2 hd⟩
theorem tame_seq {n d : Nat} : ∀ l : List PyData, (∀ x ∈ l, tame n d x) → calmDs l = true ∧ PyData.bulkAll l ≤ (n + 1) * l.length ∧ PyData.depthAll l ≤ d
  | [], _ => ⟨rfl, Nat.zero_le _, Nat.zero_le _⟩
  | x :: l, h => by
    obtain ⟨a, b, c⟩ := h x (List.mem_cons_self ..)
    obtain ⟨a2, b2, c2⟩ := tame_seq l fun y hy => h y (List.mem_cons_of_mem _ hy)
    refine ⟨?_, ?_, ?_⟩
    · show (calmD x && calmDs l) = true
      rw [a, a2]
      rfl
    · show x.bulk + 1 + PyData.bulkAll l ≤ (n + 1) * (l.length + 1)
      rw [Nat.mul_add]
      omega
    · show max x.depth (PyData.depthAll l) ≤ d
      omega
theorem tame_tup {n d m : Nat} {l : List PyData} (h : ∀ x ∈ l, tame n d x) (hl : l.length ≤ m) : tame ((n + 1) * m) (d + 1) (.tuple l) := by
  obtain ⟨a, b, c⟩ := tame_seq l h
  exact ⟨a, Nat.le_trans b (Nat.mul_le_mul_left _ hl), Nat.succ_le_succ c⟩
theorem tame_lst {n d m : Nat} {l : List PyData} (h : ∀ x ∈ l, tame n d x) (hl : l.length ≤ m) : tame ((n + 1) * m) (d + 1) (.list l) := by
  obtain ⟨a, b, c⟩ := tame_seq l h
  exact ⟨a, Nat.le_trans b (Nat.mul_le_mul_left _ hl), Nat.succ_le_succ c⟩
theorem tame_show {n d : Nat} {x : PyData} (h : tame n d x) (hn : n ≤ 8000) (hd : d ≤ 100) : okShow x = true := by
  unfold okShow
  rw [h.1, decide_eq_true (Nat.le_trans h.2.1 hn), decide_eq_true (Nat.le_trans h.2.2 hd)]
  rfl
theorem repr_new {l : List PyData} (h : okShow (.list l) = true) : fRepr [.new l] = some (.dat (.str (PyData.shown (.list l)))) := by
  show (if okShow (.list l) = true then _ else _) = _
  rw [if_pos h]
theorem repr_dat {x : PyData} (h : okShow x = true) : fRepr [.dat x] = some (.dat (.str (PyData.shown x))) := by
  show (if okShow x = true then _ else _) = _
  rw [if_pos h]
/-- a list of one thing told twice -/
theorem tame_two {n d : Nat} {x y : PyData} (hx : tame n d x) (hy : tame n d y) : tame ((n + 1) * 2) (d + 1) (.list [x, y]) :=
  tame_lst (fun z hz => by
    simp only [List.mem_cons, List.not_mem_nil, or_false] at hz
    rcases hz with rfl | rfl
    · exact hx
    · exact hy) (Nat.le_refl 2)
/-- a for loop over numbers by an invariant of the number -/
theorem for_idx {t : Tg} {body : TSd} {D : EndsD} {E : XD → Prop} {P : Nat → En → Prop} {f : Nat → PyData} : ∀ (m k : Nat) (env : En), P k env → (∀ env, P (k + m) env → D.nx env) →
    (∀ j env, k ≤ j → j < k + m → P j env → ∃ env', t.set (f j) env = some env' ∧ ∀ D' : EndsD, D'.rt = D.rt → (∀ e, P (j + 1) e → D'.nx e) → body D' env' E) → forGo t body D E ((List.range' k m).map f) env
  | 0, k, env, p, hn, _ => hn env p
  | m + 1, k, env, p, hn, h => by
    obtain ⟨env', e, q⟩ := h k env (Nat.le_refl _) (by omega) p
    rw [List.range'_succ]
    show (match t.set (f k) env with | some env' => _ | none => False)
    rw [e]
    refine q _ rfl fun env'' p'' => ?_
    exact for_idx m (k + 1) env'' p'' (fun env z => hn env (by rw [show k + (m + 1) = k + 1 + m by omega]; exact z)) fun j env h1 h2 => h j env (by omega) (by omega)
theorem comp_map {t : Tg} {te : TEd} {env : En} {Q : AV → Prop} {E : XD → Prop} {f : PyData → PyData} : ∀ (ds acc : List PyData), (∀ d ∈ ds, ∃ env', t.set d env = some env' ∧ ∀ Q' : AV → Prop, Q' (.dat (f d)) → te env' Q' E) → Q (.new (acc ++ ds.map f)) → compGo t tYesD te env Q E ds acc
  | [], acc, _, h => by
    show Q (.new acc)
    simpa using h
  | x :: ds, acc, hs, h => by
    obtain ⟨env', e, q⟩ := hs x (List.mem_cons_self ..)
    show (match t.set x env with | some env' => _ | none => False)
    rw [e]
    refine q _ ?_
    exact comp_map ds (acc ++ [f x]) (fun d hd => hs d (List.mem_cons_of_mem _ hd)) (by simpa using h)
/-- .. over a range, its element by the number -/
theorem comp_rng {i : Nat} {te : TEd} {env : En} {Q : AV → Prop} {E : XD → Prop} {f : Nat → PyData} {lo : Int} : ∀ (n k : Nat) (acc : List PyData), (∀ j, k ≤ j → j < k + n → ∀ Q' : AV → Prop, Q' (.dat (f j)) → te (setE env i (.int (lo + (j : Nat)))) Q' E) → Q (.new (acc ++ (List.range' k n).map f)) →
    compGo (.nm i) tYesD te env Q E ((List.range' k n).map fun (j : Nat) => .int (lo + j)) acc
  | 0, k, acc, _, h => by
    have h : Q (.new (acc ++ [])) := h
    rw [List.append_nil] at h
    exact h
  | n + 1, k, acc, hs, h => by
    have h : Q (.new (acc ++ f k :: (List.range' (k + 1) n).map f)) := h
    refine hs k (Nat.le_refl _) (by omega) _ ?_
    refine comp_rng n (k + 1) (acc ++ [f k]) (fun j h1 h2 => hs j (by omega) (by omega)) ?_
    rw [List.append_assoc]
    exact h
theorem rngD_eq (lo : Int) (n : Nat) : rngD lo n = (List.range' 0 n).map fun (j : Nat) => .int (lo + j) := by
  unfold rngD
  rw [List.range_eq_range']
theorem rg_ok {n : Nat} (h : n ≤ 100000) : okRng 0 (n : Int) = true := by
  simp only [okRng, Bool.and_eq_true, decide_eq_true_eq]
  omega
theorem dAdd_tups {a b : List PyData} (h : a.length + b.length ≤ 16777216) : dAdd (.tuple a) (.tuple b) = some (.dat (.tuple (a ++ b))) := by
  show (if _ then _ else _) = _
  rw [if_pos h]
theorem maxI_mem {l : List Int} {i : Int} (h : i ∈ l) : i ≤ maxI l := by
  have : ∀ (l : List Int) (x : Int), (∀ y ∈ l, y ≤ l.foldl max x) ∧ x ≤ l.foldl max x := by
    intro l
    induction l with
    | nil => exact fun x => ⟨fun y hy => (by cases hy), Int.le_refl _⟩
    | cons z l ih =>
      intro x
      obtain ⟨a, b⟩ := ih (max x z)
      refine ⟨fun y hy => ?_, by show x ≤ l.foldl max (max x z); omega⟩
      show y ≤ l.foldl max (max x z)
      rcases List.mem_cons.mp hy with rfl | hy
      · omega
      · exact a y hy
  exact (this l 0).1 i h
theorem maxI_all {l : List Int} {b : Int} (h0 : 0 ≤ b) (h : ∀ i ∈ l, i ≤ b) : maxI l ≤ b := by
  have : ∀ (l : List Int) (x : Int), x ≤ b → (∀ i ∈ l, i ≤ b) → l.foldl max x ≤ b := by
    intro l
    induction l with
    | nil => exact fun x h _ => h
    | cons y l ih => exact fun x h hh => ih (max x y) (by have := hh y (List.mem_cons_self ..); omega) fun i hi => hh i (List.mem_cons_of_mem _ hi)
  exact this l 0 h0 h
theorem rngD_from (k n : Nat) : rngD (k : Int) n = (List.range' k n).map fun (j : Nat) => .int (j : Int) := by
  unfold rngD
  rw [List.range'_eq_map_range, List.map_map]
  refine List.map_congr_left fun j _ => ?_
  show PyData.int ((k : Int) + (j : Int)) = .int ((k + j : Nat) : Int)
  congr 1
theorem rngD_zero (n : Nat) : rngD 0 n = (List.range' 0 n).map fun (j : Nat) => .int (j : Int) := rngD_from 0 n
/-- a choice of values, told once -/
theorem if_to {b : Bool} {ta tb : TEd} {env : En} {Q : AV → Prop} {E : XD → Prop} (a : AV) (h1 : b = true → ∀ Q' : AV → Prop, Q' a → ta env Q' E) (h2 : b = false → ∀ Q' : AV → Prop, Q' a → tb env Q' E) (q : Q a) : ifQ b ta tb env Q E := by
  cases b
  · exact h2 rfl _ q
  · exact h1 rfl _ q
def lk (h : Hr) : Int := h.most - h.pump
/-- what lacks over the hours from a on, ahead of b -/
def lackI (hs : List Hr) (a b : Nat) : Int := (((hs.take b).drop a).map lk).sum
theorem tw_1 {holds : Int} {hs : List Hr} {Q : AV → Prop} : ap2 dIx (.dat (twD holds hs)) (.dat (.int 1)) Q = Q (.dat (.tuple (hs.map hrD))) := rfl
theorem tw_0 {holds : Int} {hs : List Hr} {Q : AV → Prop} : ap2 dIx (.dat (twD holds hs)) (.dat (.int 0)) Q = Q (.dat (.int holds)) := rfl
theorem tw_u {holds : Int} {hs : List Hr} {N : En → Prop} {i j : Nat} {env : En} : tgQ N (.tp [i, j]) env (twD holds hs) = N ((env.set i (some (.av (.dat (.int holds))))).set j (some (.av (.dat (.tuple (hs.map hrD)))))) := rfl
theorem hr_u {h : Hr} {N : En → Prop} {i j k : Nat} {env : En} : tgQ N (.tp [i, j, k]) env (hrD h) = N (((env.set i (some (.av (.dat (.int h.lo))))).set j (some (.av (.dat (.int h.most))))).set k (some (.av (.dat (.int h.pump))))) := rfl
theorem at_hr {hs : List Hr} {j : Nat} (h : j < hs.length) : atI (hs.map hrD) (j : Int) = some (hrD (hs[j]'h)) := at_nat (by simp [h])
theorem at_int {l : List Int} {j : Nat} (h : j < l.length) : atI (l.map PyData.int) (j : Int) = some (.int (l[j]'h)) := at_nat (by simp [h])
/-- a pair of hours -/
def prD (p : Nat × Nat) : PyData := .tuple [.int (p.1 : Int), .int (p.2 : Int)]
theorem pd_pr {n : Nat} {p : Nat × Nat} : pd (n + 1) (prD p) := pd_tup (pd_cons pd_int (pd_cons pd_int pd_nil))
theorem pd_hr {n : Nat} {h : Hr} : pd (n + 1) (hrD h) := pd_tup (pd_cons pd_int (pd_cons pd_int (pd_cons pd_int pd_nil)))
theorem at_last {α : Type} (l : List α) (v : α) : atI (l ++ [v]) (-1) = some v := by
  have e : ixN (l ++ [v]).length (-1) = some l.length := by
    unfold ixN
    rw [if_neg (by decide), if_pos (by simp; omega)]
    congr 1
    simp
    omega
  unfold atI
  rw [e]
  show (l ++ [v])[l.length]? = some v
  simp
def optN : Option Nat → PyData
  | some n => .int (n : Int)
  | none => .none
/-- what comes behind a statement, told once for all its ways -/
theorem gen_nx {D : EndsD} {env : En} {E : XD → Prop} {t : TSd} (P : En → Prop) (hK : ∀ e, P e → D.nx e) (h : ∀ D' : EndsD, D'.rt = D.rt → (∀ e, P e → D'.nx e) → t D' env E) : t D env E := h D rfl hK
theorem hr_0 {h : Hr} {Q : AV → Prop} : ap2 dIx (.dat (hrD h)) (.dat (.int 0)) Q = Q (.dat (.int h.lo)) := rfl
theorem hr_1 {h : Hr} {Q : AV → Prop} : ap2 dIx (.dat (hrD h)) (.dat (.int 1)) Q = Q (.dat (.int h.most)) := rfl
theorem hr_2 {h : Hr} {Q : AV → Prop} : ap2 dIx (.dat (hrD h)) (.dat (.int 2)) Q = Q (.dat (.int h.pump)) := rfl
theorem cut_put {l : List Int} {j : Nat} {x : Int} : cutD (l.map PyData.int) none (some (j : Int)) ++ [PyData.int x] ++ cutD (l.map PyData.int) (some ((j : Int) + 1)) none = (l.take j ++ x :: l.drop (j + 1)).map PyData.int := by
  rw [cut_take, show ((j : Int) + 1) = ((j + 1 : Nat) : Int) by omega, cut_from, ← List.map_take, ← List.map_drop, List.map_append, List.map_cons, List.append_assoc]
  rfl
theorem put_len {α : Type} {l : List α} {j : Nat} {x : α} (h : j < l.length) : (l.take j ++ x :: l.drop (j + 1)).length = l.length := by
  rw [List.length_append, List.length_cons, List.length_take, List.length_drop]
  omega
theorem filt_snoc {p : Nat → Bool} {j : Nat} {b : Bool} (hb : p j = b) : (List.range' 0 (j + 1)).filter p = (List.range' 0 j).filter p ++ (if b = true then [j] else []) := by
  rw [List.range'_concat, List.filter_append, Nat.one_mul, Nat.zero_add]
  congr 1
  rw [← hb]
  cases h' : p j with
  | true => rw [List.filter_cons_of_pos h']; rfl
  | false => rw [List.filter_cons_of_neg (by rw [h']; decide)]; rfl
theorem enum_zip {α : Type} (D : α → PyData) : ∀ (l : List α) (k : Nat), enumD k (l.map D) = (l.zipIdx k).map fun p => .tuple [.int (p.2 : Int), D p.1]
  | [], _ => rfl
  | x :: l, k => by
    show PyData.tuple [.int (k : Int), D x] :: enumD (k + 1) (l.map D) = _
    rw [enum_zip D l (k + 1)]
    rfl
theorem zip_ints : ∀ (a b : List Int), zip2D (a.map PyData.int) (b.map PyData.int) = (a.zip b).map fun p => .tuple [.int p.1, .int p.2]
  | [], _ => rfl
  | _ :: _, [] => rfl
  | x :: a, y :: b => by
    show PyData.tuple [.int x, .int y] :: zip2D (a.map PyData.int) (b.map PyData.int) = _
    rw [zip_ints a b]
    rfl
theorem ints_of {l : List Nat} : (l.map fun (x : Nat) => PyData.int (x : Int)) = (l.map fun (x : Nat) => (x : Int)).map PyData.int := by
  rw [List.map_map]; rfl
/-- the first of some numbers, or None -/
theorem head_none {l : List Nat} : atI ((l.map fun (x : Nat) => PyData.int (x : Int)) ++ [PyData.none]) 0 = some (optN l.head?) := by
  cases l <;> exact w_at0
theorem head_ix {l : List Nat} (h : (!l.isEmpty) = true) : atI (l.map fun (x : Nat) => PyData.int (x : Int)) 0 = some (optN l.head?) := by
  cases l with
  | nil => cases h
  | cons x l => exact w_at0
theorem head_no {l : List Nat} (h : (!l.isEmpty) = false) : PyData.none = optN l.head? := by
  cases l with
  | nil => rfl
  | cons x l => cases h
/-- what holds of all greater ones is a range's end -/
theorem filt_up {p : Nat → Bool} (hp : ∀ i, p i = true → p (i + 1) = true) : ∀ (n k : Nat), (List.range' k n).filter p = List.range' (k + n - ((List.range' k n).filter p).length) ((List.range' k n).filter p).length
  | 0, k => rfl
  | n + 1, k => by
    rw [List.range'_succ]
    cases h : p k with
    | true =>
      have all : ∀ (m j : Nat), p j = true → (List.range' j m).filter p = List.range' j m := by
        intro m
        induction m with
        | zero => exact fun j _ => rfl
        | succ m ih =>
          intro j hj
          rw [List.range'_succ, List.filter_cons_of_pos hj, ih (j + 1) (hp j hj)]
      rw [List.filter_cons_of_pos h, all n (k + 1) (hp k h), List.length_cons, List.length_range']
      rw [show k + (n + 1) - (n + 1) = k by omega, List.range'_succ]
    | false =>
      rw [List.filter_cons_of_neg (by rw [h]; decide)]
      have ih := filt_up hp n (k + 1)
      have : ((List.range' (k + 1) n).filter p).length ≤ n := by
        have := List.length_filter_le p (List.range' (k + 1) n)
        rwa [List.length_range'] at this
      rw [show k + (n + 1) - ((List.range' (k + 1) n).filter p).length = k + 1 + n - ((List.range' (k + 1) n).filter p).length by omega]
      exact ih
theorem bools_map {α : Type} (p : α → Bool) : ∀ l : List α, boolsD (l.map fun x => PyData.bool (p x)) = some (l.map p)
  | [] => rfl
  | x :: l => by
    show (boolsD (l.map fun x => PyData.bool (p x))).map (p x :: ·) = _
    rw [bools_map p l]
    rfl
theorem cb_all {α : Type} {p : α → Bool} {l : List α} {Q : AV → Prop} (q : Q (.dat (.bool (l.all p)))) : cbQ fAll Q [.new (l.map fun x => .bool (p x))] := by
  refine cb_of (o := .dat (.bool (l.all p))) ?_ q
  show (boolsD (l.map fun x => PyData.bool (p x))).map _ = _
  rw [bools_map]
  show some (AV.dat (.bool ((l.map p).all id))) = _
  rw [List.all_map]
  rfl
theorem cb_any {α : Type} {p : α → Bool} {l : List α} {Q : AV → Prop} (q : Q (.dat (.bool (l.any p)))) : cbQ fAny Q [.new (l.map fun x => .bool (p x))] := by
  refine cb_of (o := .dat (.bool (l.any p))) ?_ q
  show (boolsD (l.map fun x => PyData.bool (p x))).map _ = _
  rw [bools_map]
  show some (AV.dat (.bool ((l.map p).any id))) = _
  rw [List.any_map]
  rfl
/-- a comprehension of two clauses, no tests -/
theorem comp2_in {β : Type} {t1 : Tg} {te : TEd} {env : En} {K : List PyData → Prop} {E : XD → Prop} (D1 : β → PyData) (f : β → PyData) : ∀ (l : List β) (acc : List PyData), acc.length + l.length ≤ 16777216 →
    (∀ y ∈ l, ∃ env', t1.set (D1 y) env = some env' ∧ ∀ Q' : AV → Prop, Q' (.dat (f y)) → te env' Q' E) → K (acc ++ l.map f) → comp2Go t1 tYesD te env K E (l.map D1) acc
  | [], acc, _, _, h => by
    have h : K (acc ++ []) := h
    rw [List.append_nil] at h
    exact h
  | y :: l, acc, hl, hs, h => by
    obtain ⟨env', e, q⟩ := hs y (List.mem_cons_self ..)
    show (match t1.set (D1 y) env with | some env' => _ | none => False)
    rw [e]
    simp only [List.length_cons] at hl
    refine q _ ⟨by omega, ?_⟩
    refine comp2_in D1 f l (acc ++ [f y]) (by simp; omega) (fun z hz => hs z (List.mem_cons_of_mem _ hz)) ?_
    rw [List.append_assoc]
    exact h
theorem comp2_all {α β : Type} {t t1 : Tg} {ti1 : TId} {vs1 : List Nat} {te : TEd} {env : En} {Q : AV → Prop} {E : XD → Prop} (D : α → PyData) (I : α → List β) (D1 : α → β → PyData) (f : α → β → PyData) : ∀ (l : List α) (acc : List PyData), acc.length + (l.flatMap I).length ≤ 16777216 →
    (∀ x ∈ l, ∃ env', t.set (D x) env = some env' ∧ (∀ R : List PyData → Prop, R ((I x).map (D1 x)) → ti1 env' R E) ∧ ∀ y ∈ I x, ∃ env2, t1.set (D1 x y) (wipeE env' vs1) = some env2 ∧ ∀ Q' : AV → Prop, Q' (.dat (f x y)) → te env2 Q' E) →
    Q (.new (acc ++ l.flatMap fun x => (I x).map (f x))) → compGo2 t tYesD ti1 vs1 t1 tYesD te env Q E (l.map D) acc
  | [], acc, _, _, h => by
    have h : Q (.new (acc ++ [])) := h
    rw [List.append_nil] at h
    exact h
  | x :: l, acc, hl, hs, h => by
    obtain ⟨env', e, q1, q2⟩ := hs x (List.mem_cons_self ..)
    show (match t.set (D x) env with | some env' => _ | none => False)
    rw [e]
    rw [List.flatMap_cons, List.length_append] at hl
    refine q1 _ ?_
    refine comp2_in (D1 x) (f x) (I x) acc (by omega) q2 ?_
    refine comp2_all D I D1 f l _ (by rw [List.length_append, List.length_map]; omega) (fun z hz => hs z (List.mem_cons_of_mem _ hz)) ?_
    rw [List.append_assoc]
    rw [List.flatMap_cons] at h
    exact h
/-- a loop that returns the first that is found -/
theorem find_gen {α : Type} {t : Tg} {body : TSd} {D : EndsD} {E : XD → Prop} {P : En → Prop} {Q : Option α → Prop} (G : α → PyData) (p : α → Bool) : ∀ (l rest : List α) (env : En), P env → Q ((l.filter p ++ rest).head?) → (∀ e, P e → Q rest.head? → D.nx e) →
    (∀ x ∈ l, ∀ env, P env → ∃ env', t.set (G x) env = some env' ∧ ∀ D' : EndsD, D'.rt = D.rt → (p x = true → Q (some x)) → (p x = false → ∀ e, P e → D'.nx e) → body D' env' E) → forGo t body D E (l.map G) env
  | [], rest, env, hp, h, hn, _ => hn env hp h
  | x :: l, rest, env, hp, h, hn, hb => by
    obtain ⟨env', e, q⟩ := hb x (List.mem_cons_self ..) env hp
    rw [List.map_cons]
    show (match t.set (G x) env with | some env' => _ | none => False)
    rw [e]
    refine q _ rfl (fun pk => ?_) (fun pk e hpe => ?_)
    · rw [List.filter_cons_of_pos pk] at h
      exact h
    · rw [List.filter_cons_of_neg (by rw [pk]; decide)] at h
      exact find_gen G p l rest e hpe h hn fun y hy => hb y (List.mem_cons_of_mem _ hy)
theorem rngD_m1 (a n : Nat) : rngD (-1 + (a : Int)) n = (List.range' a n).map fun (b : Nat) => .int (-1 + (b : Int)) := by
  unfold rngD
  rw [List.range'_eq_map_range, List.map_map]
  refine List.map_congr_left fun j _ => ?_
  show PyData.int (-1 + (a : Int) + (j : Int)) = .int (-1 + ((a + j : Nat) : Int))
  congr 1
  omega
theorem find_out {α β : Type} {t : Tg} {body : TSd} {D : EndsD} {E : XD → Prop} {P : En → Prop} {Q : Option β → Prop} (G : α → PyData) (I : α → List β) (p : β → Bool) : ∀ (l : List α) (env : En), P env → Q (((l.flatMap I).filter p).head?) → (∀ e, P e → Q none → D.nx e) →
    (∀ x ∈ l, ∀ rest env, P env → ∃ env', t.set (G x) env = some env' ∧ ∀ D' : EndsD, D'.rt = D.rt → Q (((I x).filter p ++ rest).head?) → (∀ e, P e → Q rest.head? → D'.nx e) → body D' env' E) → forGo t body D E (l.map G) env
  | [], env, hp, h, hn, _ => hn env hp h
  | x :: l, env, hp, h, hn, hb => by
    rw [List.flatMap_cons, List.filter_append] at h
    obtain ⟨env', e, q⟩ := hb x (List.mem_cons_self ..) _ env hp
    rw [List.map_cons]
    show (match t.set (G x) env with | some env' => _ | none => False)
    rw [e]
    exact q _ rfl h fun e hpe hq => find_out G I p l e hpe hq hn fun y hy => hb y (List.mem_cons_of_mem _ hy)
theorem ss_of {a : AV} {ns : List Int} {Q : AV → Prop} (e : a.rd = some (.tuple (ns.map PyData.int))) (h : ns.length < 64) (q : ∀ ms : List Int, ms.Pairwise (· < ·) → (∀ k, k ∈ ms ↔ k ∈ ns) → ms.length ≤ ns.length → Q (.new (ms.map PyData.int))) : ssV a Q := by
  unfold ssV
  rw [e]
  show (match intsD (ns.map PyData.int) with | some ns => _ | none => False)
  rw [ints_map]
  exact ⟨h, q⟩
/-- a for loop by an invariant of what has been gone through -/
theorem for_pre {α : Type} {Dt : α → PyData} {t : Tg} {body : TSd} {D : EndsD} {E : XD → Prop} {P : List α → En → Prop} : ∀ (l pre : List α) (env : En), P pre env → (∀ env, P (pre ++ l) env → D.nx env) →
    (∀ (p : List α) (x : α) (q : List α) (env : En), pre ++ l = p ++ x :: q → P p env → ∃ env', t.set (Dt x) env = some env' ∧ ∀ D' : EndsD, D'.rt = D.rt → (∀ e, P (p ++ [x]) e → D'.nx e) → body D' env' E) → forGo t body D E (l.map Dt) env
  | [], pre, env, p, hn, _ => hn env (by rw [List.append_nil]; exact p)
  | x :: l, pre, env, p, hn, h => by
    obtain ⟨env', e, q⟩ := h pre x l env rfl p
    rw [List.map_cons]
    show (match t.set (Dt x) env with | some env' => _ | none => False)
    rw [e]
    refine q _ rfl fun env'' p'' => ?_
    have ea : pre ++ [x] ++ l = pre ++ x :: l := by rw [List.append_assoc]; rfl
    exact for_pre l (pre ++ [x]) env'' p'' (by rw [ea]; exact hn) (by rw [ea]; exact h)
/-- a comprehension over one datum, its value drawn -/
theorem comp_one {t : Tg} {tt : TTd} {te : TEd} {env env' : En} {Q : AV → Prop} {E : XD → Prop} {d : PyData} {P : PyData → Prop} (e : t.set d env = some env') (b : Bool) (htt : ∀ R : Bool → Prop, R b → tt env' R E) (hte : b = true → ∀ Q' : AV → Prop, (∀ x, P x → Q' (.dat x)) → te env' Q' E) (h : ∀ l : List PyData, (∀ x ∈ l, P x) → l.length ≤ 1 → Q (.new l)) : compGo t tt te env Q E [d] [] := by
  show (match t.set d env with | some env' => _ | none => False)
  rw [e]
  refine htt _ ?_
  cases b with
  | false => exact h [] (fun x hx => by cases hx) (by decide)
  | true =>
    refine hte rfl _ fun x px => ?_
    show Q (.new ([] ++ [x]))
    exact h _ (fun y hy => by rw [List.mem_singleton.mp hy]; exact px) (Nat.le_refl _)
theorem ae_to {v w : Bool} {te : TEd} {env : En} {Q : AV → Prop} {E : XD → Prop} (h : ∀ Q' : AV → Prop, Q' (.dat (.bool w)) → te env Q' E) (q : Q (.dat (.bool (v && w)))) : aeQ (.dat (.bool v)) te env Q E := by
  cases v
  · exact q
  · exact h _ q
theorem is_ii {i : Int} {Q : AV → Prop} : isQ "int" Q (.dat (.int i)) = Q (.dat (.bool true)) := rfl
theorem is_bi {i : Int} {Q : AV → Prop} : isQ "bool" Q (.dat (.int i)) = Q (.dat (.bool false)) := rfl
theorem is_tt {l : List PyData} {Q : AV → Prop} : isQ "tuple" Q (.dat (.tuple l)) = Q (.dat (.bool true)) := rfl
theorem is_not {T : String} {d : PyData} {Q : AV → Prop} (h : isD T d = some false) : isQ T Q (.dat d) = Q (.dat (.bool false)) := by
  unfold isQ
  show (match isD T d with | some b => Q (.dat (.bool b)) | none => False) = _
  rw [h]
theorem if_any {b : Bool} {ta tb : TEd} {env : En} {Q : AV → Prop} {E : XD → Prop} {P : PyData → Prop} (h1 : ∀ Q' : AV → Prop, (∀ v, P v → Q' (.dat v)) → ta env Q' E) (h2 : ∀ Q' : AV → Prop, (∀ v, P v → Q' (.dat v)) → tb env Q' E) (q : ∀ v, P v → Q (.dat v)) : ifQ b ta tb env Q E := by
  cases b
  · exact h2 _ q
  · exact h1 _ q
theorem for_preD {t : Tg} {body : TSd} {D : EndsD} {E : XD → Prop} {P : List PyData → En → Prop} (l : List PyData) (env : En) (h0 : P [] env) (hn : ∀ env, P l env → D.nx env)
    (h : ∀ (p : List PyData) (x : PyData) (q : List PyData) (env : En), l = p ++ x :: q → P p env → ∃ env', t.set x env = some env' ∧ ∀ D' : EndsD, D'.rt = D.rt → (∀ e, P (p ++ [x]) e → D'.nx e) → body D' env' E) : forGo t body D E l env := by
  have := for_pre (Dt := fun x => x) (t := t) (body := body) (D := D) (E := E) (P := P) l [] env h0 (by rw [List.nil_append]; exact hn) (by rw [List.nil_append]; exact h)
  rwa [List.map_id'] at this
theorem comp_filtD {t : Tg} {tt : TTd} {te : TEd} {env : En} {Q : AV → Prop} {E : XD → Prop} (p : PyData → Bool) (f : PyData → PyData) (l : List PyData)
    (h : ∀ x ∈ l, ∃ env', t.set x env = some env' ∧ (∀ R : Bool → Prop, R (p x) → tt env' R E) ∧ (p x = true → ∀ Q' : AV → Prop, Q' (.dat (f x)) → te env' Q' E)) (q : Q (.new ((l.filter p).map f))) : compGo t tt te env Q E l [] := by
  have := comp_filt (t := t) (tt := tt) (te := te) (env := env) (Q := Q) (E := E) (fun x => x) p f l [] h (by rw [List.nil_append]; exact q)
  rwa [List.map_id'] at this
/-- .. whose body may go on, too -/
theorem for_invC {t : Tg} {body : TSd} {D : EndsD} {E : XD → Prop} {P : En → Prop} (hnx : ∀ env, P env → D.nx env) : ∀ (ds : List PyData) (env : En), P env →
    (∀ d ∈ ds, ∀ env, P env → ∃ env', t.set d env = some env' ∧ ∀ D' : EndsD, D'.rt = D.rt → (∀ e, P e → D'.nx e) → (∀ e, P e → D'.ct e) → body D' env' E) → forGo t body D E ds env
  | [], env, p, _ => hnx env p
  | d :: ds, env, p, h => by
    obtain ⟨env', e, q⟩ := h d (List.mem_cons_self ..) env p
    show (match t.set d env with | some env' => _ | none => False)
    rw [e]
    exact q _ rfl (fun env'' p'' => for_invC hnx ds env'' p'' fun d hd => h d (List.mem_cons_of_mem _ hd)) fun env'' p'' => for_invC hnx ds env'' p'' fun d hd => h d (List.mem_cons_of_mem _ hd)
theorem ss_ofL {a : AV} {ns : List Int} {Q : AV → Prop} (e : a.rd = some (.list (ns.map PyData.int))) (h : ns.length < 64) (q : ∀ ms : List Int, ms.Pairwise (· < ·) → (∀ k, k ∈ ms ↔ k ∈ ns) → ms.length ≤ ns.length → Q (.new (ms.map PyData.int))) : ssV a Q := by
  unfold ssV
  rw [e]
  show (match intsD (ns.map PyData.int) with | some ns => _ | none => False)
  rw [ints_map]
  exact ⟨h, q⟩
/-- tame data that are layable too -/
def fit (n d : Nat) (x : PyData) : Prop := tame n d x ∧ x.canLay0 = true
theorem fit_i {i : Int} (h0 : -1000000 ≤ i) (h1 : i ≤ 1000000) : fit 0 0 (.int i) := ⟨tame_i h0 h1, rfl⟩
theorem fit_none : fit 0 0 .none := ⟨tame_none, rfl⟩
theorem fit_bool {b : Bool} : fit 0 0 (.bool b) := ⟨tame_bool, rfl⟩
theorem fit_up {n d n' d' : Nat} {x : PyData} (h : fit n d x) (hn : n ≤ n') (hd : d ≤ d') : fit n' d' x := ⟨tame_up h.1 hn hd, h.2⟩
theorem fit_seq : ∀ l : List PyData, (∀ x ∈ l, x.canLay0 = true) → PyData.canLayAll0 l = true
  | [], _ => rfl
  | x :: l, h => by
    show (PyData.canLay0 x && PyData.canLayAll0 l) = true
    rw [h x (List.mem_cons_self ..), fit_seq l fun y hy => h y (List.mem_cons_of_mem _ hy)]
    rfl
theorem fit_tup {n d m : Nat} {l : List PyData} (h : ∀ x ∈ l, fit n d x) (hl : l.length ≤ m) : fit ((n + 1) * m) (d + 1) (.tuple l) := ⟨tame_tup (fun x hx => (h x hx).1) hl, fit_seq l fun x hx => (h x hx).2⟩
theorem fit_lst {n d m : Nat} {l : List PyData} (h : ∀ x ∈ l, fit n d x) (hl : l.length ≤ m) : fit ((n + 1) * m) (d + 1) (.list l) := ⟨tame_lst (fun x hx => (h x hx).1) hl, fit_seq l fun x hx => (h x hx).2⟩
theorem fit_shaped {n d : Nat} {x : PyData} (h : fit n d x) (hd : d ≤ 64) : SeqAt.shaped x = true := by
  unfold SeqAt.shaped
  rw [h.2, decide_eq_true (Nat.le_trans h.1.2.2 hd)]
  rfl
theorem fit_show {n d : Nat} {x : PyData} (h : fit n d x) (hn : n ≤ 8000) (hd : d ≤ 64) : okShow x = true := tame_show h.1 hn (by omega)
theorem fit_ints {l : List Int} {m : Nat} (h : ∀ x ∈ l, -1000000 ≤ x ∧ x ≤ 1000000) (hl : l.length ≤ m) : fit m 1 (.tuple (l.map PyData.int)) := by
  have := fit_tup (n := 0) (d := 0) (m := m) (l := l.map PyData.int) (fun x hx => by
    obtain ⟨y, hy, rfl⟩ := List.mem_map.mp hx
    exact fit_i (h y hy).1 (h y hy).2) (by rw [List.length_map]; exact hl)
  rwa [Nat.zero_add, Nat.one_mul] at this
theorem fit_cons {n d m : Nat} {o : PyData} {r : List PyData} (h : fit n d o) (hr : fit m (d + 1) (.tuple r)) : fit (n + 1 + m) (d + 1) (.tuple (o :: r)) := by
  obtain ⟨⟨a, b, c⟩, e⟩ := h
  obtain ⟨⟨a2, b2, c2⟩, e2⟩ := hr
  refine ⟨⟨?_, ?_, ?_⟩, ?_⟩
  · show (calmD o && calmDs r) = true
    rw [a, show calmDs r = true from a2]
    rfl
  · show o.bulk + 1 + PyData.bulkAll r ≤ n + 1 + m
    have : PyData.bulkAll r ≤ m := b2
    omega
  · show max o.depth (PyData.depthAll r) + 1 ≤ d + 1
    have : PyData.depthAll r + 1 ≤ d + 1 := c2
    omega
  · show (PyData.canLay0 o && PyData.canLayAll0 r) = true
    rw [e, show PyData.canLayAll0 r = true from e2]
    rfl

def hSub : Str → Str → Option Bool := subT [("InvalidTower", "InvalidTower", true), ("InvalidNumber", "InvalidTower", false), ("InvalidNumber", "InvalidNumber", true), ("OutOfRange", "InvalidTower", false), ("OutOfRange", "InvalidNumber", false), ("OutOfRange", "OutOfRange", true)]
def N_is_whole : List Str := ["value"]
def den_is_whole : TSd := sSeq (sRet (eAnd (eIsi "int" (eVar 0)) (eNot (eIsi "bool" (eVar 0))))) (sNext)
def S.is_whole : DSp := fun as Q _ => match as with
  | [.dat d] => Q (.dat (.bool (isWhole d)))
  | _ => False
theorem S.is_whole_ok : ∀ as Q E, S.is_whole as Q E → mkSp N_is_whole 1 den_is_whole as Q E := by
  intro as Q E h
  unfold S.is_whole at h
  split at h
  · rename_i d
    refine ⟨rfl, rfl, ?_⟩
    cases d <;> exact ⟨rfl, h⟩
  · exact h.elim

def N_is_number : List Str := ["value", "low", "high"]
def den_is_number : TSd := sSeq (sIf (tOrD (tNotD (tTru (eCall S.is_whole (aCons (eVar 0) (aNil))))) (tAndD (tB (eOp dIsNot (eVar 1) (eC .none))) (tB (eOp dLt (eVar 0) (eVar 1))))) (sSeq (sRet (eC (.bool false))) (sNext)) (sNext)) (sSeq (sRet (eOr (eOp dIs (eVar 2) (eC .none)) (eOp dLe (eVar 0) (eVar 2)))) (sNext))
def S.is_number : DSp := fun as Q _ => match as with
  | [.dat v, .dat lo, .dat hi] => (optI lo && optI hi) = true ∧ Q (.dat (.bool (numB v lo hi)))
  | _ => False
theorem S.is_number_ok : ∀ as Q E, S.is_number as Q E → mkSp N_is_number 3 den_is_number as Q E := by
  intro as Q E h
  unfold S.is_number at h
  split at h
  · rename_i v lo hi
    obtain ⟨h1, h⟩ := h
    refine ⟨rfl, rfl, ?_⟩
    cases v with
    | int i =>
      have last : ∀ hi' : PyData, optI hi' = true → Q (.dat (.bool (leB i hi'))) →
          sSeq (sRet (eOr (eOp dIs (eVar 2) (eC .none)) (eOp dLe (eVar 0) (eVar 2)))) sNext { nx := fun _ => Q (.dat .none), rt := fun a => a.plain = true ∧ Q a } (startE N_is_number [.dat (.int i), .dat lo, .dat hi']) E := fun hi' h1 h => by
        cases hi' <;> first
          | (cases h1; done)
          | exact ⟨rfl, h⟩
      cases lo with
      | none => cases hi with
        | none => exact last .none rfl h
        | int z => exact last (.int z) rfl h
        | _ => cases h1
      | int l =>
        have h1 : optI hi = true := h1
        show (if (decide (i < l)) = true then _ else _)
        by_cases q : i < l
        · rw [if_pos (decide_eq_true q)]
          have e : numB (.int i) (.int l) hi = false := by
            show (decide (l ≤ i) && _) = false
            rw [decide_eq_false (by omega)]
            rfl
          rw [e] at h
          exact ⟨rfl, h⟩
        · rw [if_neg (by simpa using q)]
          refine last hi h1 ?_
          have e : numB (.int i) (.int l) hi = leB i hi := by
            show (decide (l ≤ i) && _) = _
            rw [decide_eq_true (by omega)]
            rfl
          rw [e] at h
          exact h
      | _ => cases h1
    | _ => exact ⟨rfl, h⟩
  · exact h.elim

def N_is_tuple_of : List Str := ["value", "many"]
def den_is_tuple_of : TSd := sSeq (sRet (eAnd (eIsi "tuple" (eVar 0)) (eOp dEq (eCB fLen (rCons (eVar 0) (aNil))) (eVar 1)))) (sNext)
def tupB (v : PyData) (n : Int) : Bool := match v with
  | .tuple l => decide ((l.length : Int) = n)
  | _ => false
def S.is_tuple_of : DSp := fun as Q _ => match as with
  | [.dat v, .dat (.int n)] => Q (.dat (.bool (tupB v n)))
  | _ => False
theorem S.is_tuple_of_ok : ∀ as Q E, S.is_tuple_of as Q E → mkSp N_is_tuple_of 2 den_is_tuple_of as Q E := by
  intro as Q E h
  unfold S.is_tuple_of at h
  split at h
  · rename_i v n
    refine ⟨rfl, rfl, ?_⟩
    cases v <;> exact ⟨rfl, h⟩
  · exact h.elim

def N_wrong_at : List Str := ["value", "most", "is_right", "at", "each"]
def den_wrong_at : TSd := sSeq (sIf (tNotD (tTru (eIsi "tuple" (eVar 0)))) (sSeq (sRet (eLst (aCons (eC .none) (aNil)))) (sNext)) (sNext)) (sSeq (sFor (iEnum (aCons (eVar 0) (aNil))) (.tp [3, 4]) (sSeq (sIf (tOrD (tAndD (tB (eOp dIsNot (eVar 1) (eC .none))) (tB (eOp dGe (eVar 3) (eVar 1)))) (tNotD (tTru (eApp 2 20 (aCons (eVar 4) (aCons (eSl (eVar 0) (oNone) (oSome (eVar 3))) (aNil))))))) (sSeq (sRet (eLst (aCons (eVar 3) (aNil)))) (sNext)) (sNext)) (sNext))) (sSeq (sRet (eLst (aNil))) (sNext)))
def overB (n : Nat) : PyData → Bool
  | .int m => decide (m ≤ (n : Int))
  | _ => false
/-- the place of the first item that is too late or not right -/
def wrongGo (most : PyData) (p : PyData → List PyData → Bool) : List PyData → List PyData → List PyData
  | _, [] => []
  | bef, e :: r => if (overB bef.length most || !p e bef) = true then [.int bef.length] else wrongGo most p (bef ++ [e]) r
def wrongAt (v most : PyData) (p : PyData → List PyData → Bool) : List PyData := match v with
  | .tuple l => wrongGo most p [] l
  | _ => [.none]
/-- a function that judges the items as p does, where it is asked -/
def Right (b : Beh) (most : PyData) (p : PyData → List PyData → Bool) : List PyData → List PyData → Prop
  | _, [] => True
  | bef, e :: r => overB bef.length most = false → (∀ Qd : PyData → Prop, Qd (.bool (p e bef)) → b [e, .tuple bef] Qd) ∧ (p e bef = true → Right b most p (bef ++ [e]) r)
def S.wrong_at : DSp := fun as Q _ => match as with
  | [.dat v, .dat most, .clo k b] => optI most = true ∧ k ≤ 20 ∧ ∃ p, (∀ l, v = .tuple l → Right b most p [] l) ∧ Q (.dat (.list (wrongAt v most p)))
  | _ => False
def wrongBody : TSd := sSeq (sIf (tOrD (tAndD (tB (eOp dIsNot (eVar 1) (eC .none))) (tB (eOp dGe (eVar 3) (eVar 1)))) (tNotD (tTru (eApp 2 20 (aCons (eVar 4) (aCons (eSl (eVar 0) (oNone) (oSome (eVar 3))) (aNil))))))) (sSeq (sRet (eLst (aCons (eVar 3) (aNil)))) (sNext)) (sNext)) (sNext)
theorem wrong_loop {k : Nat} {b : Beh} {most : PyData} {p : PyData → List PyData → Bool} {Q : AV → Prop} {E : XD → Prop} {D : EndsD} {l : List PyData} (hk : k ≤ 20) (hm : optI most = true) (hrt : ∀ x, Q (.dat (.list x)) → D.rt (.dat (.list x)))
    (hnx : ∀ e3 e4, Q (.dat (.list [])) → D.nx [some (.av (.dat (.tuple l))), some (.av (.dat most)), some (.av (.clo k b)), e3, e4]) :
    ∀ (r bef : List PyData) (e3 e4 : Option SL), l = bef ++ r → Right b most p bef r → Q (.dat (.list (wrongGo most p bef r))) →
      forGo (.tp [3, 4]) wrongBody D E (enumD bef.length r) [some (.av (.dat (.tuple l))), some (.av (.dat most)), some (.av (.clo k b)), e3, e4] := by
  intro r
  induction r with
  | nil => exact fun bef e3 e4 _ _ h => hnx e3 e4 h
  | cons e r ih =>
    intro bef e3 e4 hl hr h
    have hc : cutD l none (some (bef.length : Int)) = bef := by
      rw [hl, cut_to _ _ (by simp)]
      simp
    have next : Q (.dat (.list (wrongGo most p (bef ++ [e]) r))) → Right b most p (bef ++ [e]) r → forGo (.tp [3, 4]) wrongBody D E (enumD (bef.length + 1) r) [some (.av (.dat (.tuple l))), some (.av (.dat most)), some (.av (.clo k b)), some (.av (.dat (.int bef.length))), some (.av (.dat e))] := fun h hr => by
      have z := ih (bef ++ [e]) (some (.av (.dat (.int bef.length)))) (some (.av (.dat e))) (by rw [hl]; simp) hr h
      rw [List.length_append] at z
      exact z
    have stop : Q (.dat (.list [.int bef.length])) → (1 ≤ 16777216 ∧ D.rt (.dat (.list [.int bef.length]))) := fun h => ⟨by decide, hrt _ h⟩
    unfold wrongGo at h
    have ask : overB bef.length most = false → (k ≤ 20 ∧ b [e, .tuple (cutD l none (some (bef.length : Int)))] (fun d => match truD d with
        | some c => if (!c) = true then (1 ≤ 16777216 ∧ D.rt (.dat (.list [.int bef.length]))) else forGo (.tp [3, 4]) wrongBody D E (enumD (bef.length + 1) r) [some (.av (.dat (.tuple l))), some (.av (.dat most)), some (.av (.clo k b)), some (.av (.dat (.int bef.length))), some (.av (.dat e))]
        | none => False)) := fun ho => by
      obtain ⟨h1, h2⟩ := hr ho
      refine ⟨hk, ?_⟩
      rw [hc]
      refine h1 _ ?_
      rw [ho] at h
      show if (!p e bef) = true then _ else _
      cases hp : p e bef with
      | true =>
        rw [hp] at h
        exact next h (h2 hp)
      | false =>
        rw [hp] at h
        exact stop h
    cases most with
    | none => exact ask rfl
    | int m =>
      show if decide (m ≤ (bef.length : Int)) = true then _ else _
      by_cases hq : m ≤ (bef.length : Int)
      · have ho : overB bef.length (.int m) = true := decide_eq_true hq
        rw [if_pos (decide_eq_true hq)]
        rw [ho] at h
        exact stop h
      · have ho : overB bef.length (.int m) = false := decide_eq_false hq
        rw [if_neg (by simpa using hq)]
        exact ask ho
    | _ => cases hm
theorem S.wrong_at_ok : ∀ as Q E, S.wrong_at as Q E → mkSp N_wrong_at 3 den_wrong_at as Q E := by
  intro as Q E h
  unfold S.wrong_at at h
  split at h
  · rename_i v most k b
    obtain ⟨hm, hk, p, hr, h⟩ := h
    refine ⟨rfl, rfl, ?_⟩
    cases v with
    | tuple l => exact wrong_loop (D := { nx := fun env' => sSeq (sRet (eLst aNil)) sNext { nx := fun _ => Q (.dat .none), rt := fun a => a.plain = true ∧ Q a } env' E, rt := fun a => a.plain = true ∧ Q a }) hk hm (fun x h => ⟨rfl, h⟩) (fun e3 e4 h => ⟨Nat.zero_le _, rfl, h⟩) l [] none none rfl (hr l rfl) h
    | _ => exact ⟨by decide, rfl, h⟩
  · exact h.elim
def pumpB (hs : List Hr) (e : PyData) (bef : List PyData) : Bool := match hs[bef.length]? with
  | some h => numB e (.int 0) (.int h.pump)
  | none => false
/-- what is pumped, hour by hour -/
def goodPs : List Hr → List Int → Prop
  | _, [] => True
  | h :: hs, p :: ps => 0 ≤ p ∧ p ≤ h.pump ∧ goodPs hs ps
  | [], _ :: _ => False
theorem goodPs_nil (hs : List Hr) : goodPs hs [] := by cases hs <;> trivial
theorem right_pump {b : Beh} {hs : List Hr} {most : Int} (hm : most ≤ hs.length) (h : ∀ (e : PyData) (bef : List PyData) (x : Hr) (Qd : PyData → Prop), hs[bef.length]? = some x → Qd (.bool (numB e (.int 0) (.int x.pump))) → b [e, .tuple bef] Qd) : ∀ (r bef : List PyData), Right b (.int most) (pumpB hs) bef r
  | [], _ => trivial
  | e :: r, bef => fun ho => by
    have ho : ¬ most ≤ (bef.length : Int) := of_decide_eq_false ho
    have hlt : bef.length < hs.length := by omega
    refine ⟨fun Qd q => h e bef hs[bef.length] Qd (List.getElem?_eq_getElem hlt) ?_, fun _ => right_pump hm h r _⟩
    unfold pumpB at q
    rw [List.getElem?_eq_getElem hlt] at q
    exact q
theorem pump_go {hs : List Hr} {most : Int} : ∀ (r : List Int) (bef : List PyData) (xs : List Hr), hs.drop bef.length = xs → goodPs xs r → ((bef.length + r.length : Nat) : Int) ≤ most → wrongGo (.int most) (pumpB hs) bef (r.map PyData.int) = []
  | [], _, _, _, _, _ => rfl
  | p :: r, bef, xs, hx, g, hl => by
    cases xs with
    | nil => exact g.elim
    | cons x xs =>
      obtain ⟨g1, g2, g3⟩ := g
      simp only [List.length_cons] at hl
      have hlt : bef.length < hs.length := by
        by_cases c : bef.length < hs.length
        · exact c
        · rw [List.drop_of_length_le (by omega)] at hx; cases hx
      have e0 := List.drop_eq_getElem_cons hlt
      rw [hx] at e0
      have e1 : hs[bef.length]? = some x := by
        rw [List.getElem?_eq_getElem hlt, (List.cons.inj e0).1]
      have e : pumpB hs (.int p) bef = true := by
        unfold pumpB
        rw [e1]
        show (decide (0 ≤ p) && decide (p ≤ x.pump)) = true
        rw [decide_eq_true g1, decide_eq_true g2]
        rfl
      show (if (decide (most ≤ (bef.length : Int)) || !pumpB hs (.int p) bef) = true then _ else wrongGo (.int most) (pumpB hs) (bef ++ [.int p]) (r.map PyData.int)) = _
      rw [e, decide_eq_false (by omega), if_neg (by decide)]
      exact pump_go (most := most) r (bef ++ [.int p]) xs (by rw [List.length_append]; exact (List.cons.inj e0).2.symm) g3 (by
        have z : (bef ++ [PyData.int p]).length = bef.length + 1 := by simp
        rw [z]
        omega)
def useB (hs : List Hr) (e : PyData) (bef : List PyData) : Bool := match hs[bef.length]? with
  | some h => numB e (.int h.lo) (.int h.most)
  | none => false
/-- uses, hour by hour -/
def goodUs : List Hr → List Int → Prop
  | _, [] => True
  | h :: hs, u :: us => h.lo ≤ u ∧ u ≤ h.most ∧ goodUs hs us
  | [], _ :: _ => False
theorem goodUs_nil (hs : List Hr) : goodUs hs [] := by cases hs <;> trivial
theorem right_use {b : Beh} {hs : List Hr} {most : Int} (hm : most ≤ hs.length) (h : ∀ (e : PyData) (bef : List PyData) (x : Hr) (Qd : PyData → Prop), hs[bef.length]? = some x → Qd (.bool (numB e (.int x.lo) (.int x.most))) → b [e, .tuple bef] Qd) : ∀ (r bef : List PyData), Right b (.int most) (useB hs) bef r
  | [], _ => trivial
  | e :: r, bef => fun ho => by
    have ho : ¬ most ≤ (bef.length : Int) := of_decide_eq_false ho
    have hlt : bef.length < hs.length := by omega
    refine ⟨fun Qd q => h e bef hs[bef.length] Qd (List.getElem?_eq_getElem hlt) ?_, fun _ => right_use hm h r _⟩
    unfold useB at q
    rw [List.getElem?_eq_getElem hlt] at q
    exact q
theorem use_go {hs : List Hr} {most : Int} : ∀ (r : List Int) (bef : List PyData) (xs : List Hr), hs.drop bef.length = xs → goodUs xs r → ((bef.length + r.length : Nat) : Int) ≤ most → wrongGo (.int most) (useB hs) bef (r.map PyData.int) = []
  | [], _, _, _, _, _ => rfl
  | p :: r, bef, xs, hx, g, hl => by
    cases xs with
    | nil => exact g.elim
    | cons x xs =>
      obtain ⟨g1, g2, g3⟩ := g
      simp only [List.length_cons] at hl
      have hlt : bef.length < hs.length := by
        by_cases c : bef.length < hs.length
        · exact c
        · rw [List.drop_of_length_le (by omega)] at hx; cases hx
      have e0 := List.drop_eq_getElem_cons hlt
      rw [hx] at e0
      have e1 : hs[bef.length]? = some x := by
        rw [List.getElem?_eq_getElem hlt, (List.cons.inj e0).1]
      have e : useB hs (.int p) bef = true := by
        unfold useB
        rw [e1]
        show (decide (x.lo ≤ p) && decide (p ≤ x.most)) = true
        rw [decide_eq_true g1, decide_eq_true g2]
        rfl
      show (if (decide (most ≤ (bef.length : Int)) || !useB hs (.int p) bef) = true then _ else wrongGo (.int most) (useB hs) (bef ++ [.int p]) (r.map PyData.int)) = _
      rw [e, decide_eq_false (by omega), if_neg (by decide)]
      exact use_go (most := most) r (bef ++ [.int p]) xs (by rw [List.length_append]; exact (List.cons.inj e0).2.symm) g3 (by
        have z : (bef ++ [PyData.int p]).length = bef.length + 1 := by simp
        rw [z]
        omega)
theorem comp_draws {t : Tg} {te : TEd} {env : En} {Q : AV → Prop} {E : XD → Prop} {F : Hr → Int → Prop} : ∀ (hs : List Hr) (acc : List Int), (∀ x ∈ hs, ∃ env', t.set (hrD x) env = some env' ∧ ∀ Q' : AV → Prop, (∀ u : Int, F x u → Q' (.dat (.int u))) → te env' Q' E) →
    (∀ us : List Int, us.length = hs.length → (∀ (j : Nat) (h : Hr) (u : Int), hs[j]? = some h → us[j]? = some u → F h u) → Q (.new ((acc ++ us).map PyData.int))) → compGo t tYesD te env Q E (hs.map hrD) (acc.map PyData.int)
  | [], acc, _, h => by
    have := h [] rfl (fun j h u e => by simp at e)
    rw [List.append_nil] at this
    exact this
  | x :: hs, acc, hx, h => by
    obtain ⟨env', e, q⟩ := hx x (List.mem_cons_self ..)
    show (match t.set (hrD x) env with | some env' => _ | none => False)
    rw [e]
    refine q _ fun u fu => ?_
    have z := comp_draws (t := t) (te := te) (env := env) (Q := Q) (E := E) (F := F) hs (acc ++ [u]) (fun y hy => hx y (List.mem_cons_of_mem _ hy)) fun us hl g => by
      have := h (u :: us) (by simp [hl]) fun j h' u' e1 e2 => by
        cases j with
        | zero =>
          simp at e1 e2
          subst e1 e2
          exact fu
        | succ j => exact g j h' u' (by simpa using e1) (by simpa using e2)
      rw [List.append_assoc]
      exact this
    rw [List.map_append] at z
    exact z
theorem goodPs_of : ∀ (hs : List Hr) (ps : List Int), ps.length = hs.length → (∀ (j : Nat) (h : Hr) (u : Int), hs[j]? = some h → ps[j]? = some u → 0 ≤ u ∧ u ≤ h.pump) → goodPs hs ps
  | [], [], _, _ => trivial
  | [], _ :: _, h, _ => by cases h
  | _ :: _, [], h, _ => by cases h
  | h :: hs, p :: ps, hl, g => by
    obtain ⟨a, b⟩ := g 0 h p rfl rfl
    exact ⟨a, b, goodPs_of hs ps (by simpa using hl) fun j h' u e1 e2 => g (j + 1) h' u (by simpa using e1) (by simpa using e2)⟩
theorem goodUs_of : ∀ (hs : List Hr) (us : List Int), us.length = hs.length → (∀ (j : Nat) (h : Hr) (u : Int), hs[j]? = some h → us[j]? = some u → h.lo ≤ u ∧ u ≤ h.most) → goodUs hs us
  | [], [], _, _ => trivial
  | [], _ :: _, h, _ => by cases h
  | _ :: _, [], h, _ => by cases h
  | h :: hs, p :: ps, hl, g => by
    obtain ⟨a, b⟩ := g 0 h p rfl rfl
    exact ⟨a, b, goodUs_of hs ps (by simpa using hl) fun j h' u e1 e2 => g (j + 1) h' u (by simpa using e1) (by simpa using e2)⟩

def N_wrong_from_one : List Str := ["value", "most", "is_right"]
def den_wrong_from_one : TSd := sSeq (sRet (eIf (tAndD (tTru (eIsi "tuple" (eVar 0))) (tB (eOp dEq (eVar 0) (eTup (aNil))))) (eLst (aCons (eC .none) (aNil))) (eCall S.wrong_at (aCons (eVar 0) (aCons (eVar 1) (aCons (eVar 2) (aNil))))))) (sNext)
def wrongFrom1 (v most : PyData) (p : PyData → List PyData → Bool) : List PyData := match v with
  | .tuple [] => [.none]
  | v => wrongAt v most p
def S.wrong_from_one : DSp := fun as Q _ => match as with
  | [.dat v, .dat most, .clo k b] => SeqAt.shaped v = true ∧ optI most = true ∧ k ≤ 20 ∧ ∃ p, (∀ l, v = .tuple l → Right b most p [] l) ∧ Q (.dat (.list (wrongFrom1 v most p)))
  | _ => False
theorem S.wrong_from_one_ok : ∀ as Q E, S.wrong_from_one as Q E → mkSp N_wrong_from_one 3 den_wrong_from_one as Q E := by
  intro as Q E h
  unfold S.wrong_from_one at h
  split at h
  · rename_i v most k b
    obtain ⟨hs, hm, hk, p, hr, h⟩ := h
    refine ⟨rfl, rfl, ?_⟩
    cases v with
    | tuple l =>
      refine ⟨by decide, ?_⟩
      have e : dEq (.tuple l) (.tuple []) = some (.dat (.bool (PyData.eqv (.tuple l) (.tuple [])))) := by
        show (if SeqAt.shaped (.tuple l) = true ∧ SeqAt.shaped (.tuple []) = true then _ else _) = _
        rw [if_pos ⟨hs, by decide⟩]
        rfl
      show ap2 dEq (.dat (.tuple l)) (.dat (.tuple [])) _
      unfold ap2
      show (match dEq (.tuple l) (.tuple []) with | some a => _ | none => False)
      rw [e]
      cases l with
      | nil => exact ⟨by decide, rfl, h⟩
      | cons x l => exact ⟨hm, hk, p, hr, rfl, h⟩
    | _ => exact ⟨hm, hk, p, hr, rfl, h⟩
  · exact h.elim

def N_is_hour_form : List Str := ["value", "each"]
def den_is_hour_form : TSd := sSeq (sIf (tOrD (tNotD (tTru (eCall S.is_tuple_of (aCons (eVar 0) (aCons (eC (.int 3)) (aNil)))))) (tNotD (tTru (eCB fAll (rCons (eLc (iSeq (eVar 0)) (.nm 1) (tYesD) (eCall S.is_number (aCons (eVar 1) (aCons (eC (.int 0)) (aCons (eC (.int 30)) (aNil))))) [1]) (aNil)))))) (sSeq (sRet (eC (.bool false))) (sNext)) (sNext)) (sSeq (sRet (eOp dLe (eOp dIx (eVar 0) (eC (.int 0))) (eOp dIx (eVar 0) (eC (.int 1))))) (sNext))
def leD : PyData → PyData → Bool
  | .int a, .int b => decide (a ≤ b)
  | _, _ => false
def hourB : PyData → Bool
  | .tuple [x, y, z] => (numB x (.int 0) (.int 30) && (numB y (.int 0) (.int 30) && (numB z (.int 0) (.int 30) && true))) && leD x y
  | _ => false
def S.is_hour_form : DSp := fun as Q _ => match as with
  | [.dat v] => Q (.dat (.bool (hourB v)))
  | _ => False
theorem numB_int {v lo hi : PyData} (h : numB v lo hi = true) : ∃ i, v = .int i := by
  cases v with
  | int i => exact ⟨i, rfl⟩
  | _ => cases h
theorem S.is_hour_form_ok : ∀ as Q E, S.is_hour_form as Q E → mkSp N_is_hour_form 1 den_is_hour_form as Q E := by
  intro as Q E h
  unfold S.is_hour_form at h
  split at h
  · rename_i v
    refine ⟨rfl, rfl, ?_⟩
    have other : ∀ l : List PyData, l.length ≠ 3 → hourB (.tuple l) = false → Q (.dat (.bool false)) → den_is_hour_form { nx := fun _ => Q (.dat .none), rt := fun a => a.plain = true ∧ Q a } (startE N_is_hour_form [.dat (.tuple l)]) E := fun l hl _ h => by
      show if (!decide ((l.length : Int) = 3)) = true then (if true = true then _ else _) else _
      rw [if_pos (by rw [decide_eq_false (by omega)]; rfl)]
      exact ⟨rfl, h⟩
    cases v with
    | tuple l =>
      match l, h with
      | [x, y, z], h =>
        refine ⟨rfl, ⟨rfl, ⟨rfl, ?_⟩⟩⟩
        show if (!(numB x (.int 0) (.int 30) && (numB y (.int 0) (.int 30) && (numB z (.int 0) (.int 30) && true)))) = true then (true = true ∧ Q (.dat (.bool false))) else _
        cases hx : (numB x (.int 0) (.int 30) && (numB y (.int 0) (.int 30) && (numB z (.int 0) (.int 30) && true))) with
        | false =>
          have h : Q (.dat (.bool ((numB x (.int 0) (.int 30) && (numB y (.int 0) (.int 30) && (numB z (.int 0) (.int 30) && true))) && leD x y))) := h
          rw [hx] at h
          exact ⟨rfl, h⟩
        | true =>
          have h : Q (.dat (.bool ((numB x (.int 0) (.int 30) && (numB y (.int 0) (.int 30) && (numB z (.int 0) (.int 30) && true))) && leD x y))) := h
          rw [hx] at h
          simp only [Bool.and_eq_true] at hx
          obtain ⟨a, rfl⟩ := numB_int hx.1
          obtain ⟨b, rfl⟩ := numB_int hx.2.1
          exact ⟨rfl, h⟩
      | [], h => exact ⟨rfl, h⟩
      | [_], h => exact ⟨rfl, h⟩
      | [_, _], h => exact ⟨rfl, h⟩
      | _ :: _ :: _ :: _ :: r, h => exact other _ (by simp) rfl h
    | _ => exact ⟨rfl, h⟩
  · exact h.elim

def N_is_tower_form : List Str := ["value"]
def den_is_tower_form : TSd := sSeq (sIf (tOrD (tNotD (tTru (eCall S.is_tuple_of (aCons (eVar 0) (aCons (eC (.int 2)) (aNil)))))) (tNotD (tTru (eCall S.is_number (aCons (eOp dIx (eVar 0) (eC (.int 0))) (aCons (eC (.int 1)) (aCons (eC (.int 60)) (aNil)))))))) (sSeq (sRet (eC (.bool false))) (sNext)) (sNext)) (sSeq (sRet (eOp dEq (eCallL S.wrong_from_one (mkLam ["each", "_"] 2 3 (eCall S.is_hour_form (aCons (eVar 0) (aNil))) []) (aCons (eOp dIx (eVar 0) (eC (.int 1))) (aCons (eC (.int 12)) (aNil)))) (eLst (aNil)))) (sNext))
def hoursB (v : PyData) : Bool := (wrongFrom1 v (.int 12) (fun e _ => hourB e)).isEmpty
def towerB : PyData → Bool
  | .tuple [a, b] => numB a (.int 1) (.int 60) && hoursB b
  | _ => false
def S.is_tower_form : DSp := fun as Q _ => match as with
  | [.dat v] => SeqAt.shaped v = true ∧ Q (.dat (.bool (towerB v)))
  | _ => False
theorem right_hours (b : Beh) (most : PyData) (h : ∀ e bef (Qd : PyData → Prop), Qd (.bool (hourB e)) → b [e, .tuple bef] Qd) : ∀ r bef, Right b most (fun e _ => hourB e) bef r
  | [], _ => trivial
  | e :: r, bef => fun _ => ⟨fun Qd q => h e bef Qd q, fun _ => right_hours b most h r (bef ++ [e])⟩
theorem shaped_snd {a b : PyData} (h : SeqAt.shaped (.tuple [a, b]) = true) : SeqAt.shaped b = true := by
  unfold SeqAt.shaped at h ⊢
  simp only [Bool.and_eq_true, decide_eq_true_eq, PyData.canLay0, PyData.canLayAll0, PyData.depth, PyData.depthAll] at h ⊢
  have h2 := of_decide_eq_true h.2

  exact ⟨h.1.2.1, by omega⟩
theorem wrongGo_shape (most : PyData) (p : PyData → List PyData → Bool) : ∀ r bef, wrongGo most p bef r = [] ∨ ∃ i : Int, wrongGo most p bef r = [.int i]
  | [], _ => .inl rfl
  | e :: r, bef => by
    unfold wrongGo
    split
    · exact .inr ⟨_, rfl⟩
    · exact wrongGo_shape most p r _
theorem wrongAt_shape (v most : PyData) (p : PyData → List PyData → Bool) : wrongAt v most p = [] ∨ wrongAt v most p = [.none] ∨ ∃ i : Int, wrongAt v most p = [.int i] := by
  cases v with
  | tuple l => exact (wrongGo_shape most p l []).elim .inl fun h => .inr (.inr h)
  | _ => exact .inr (.inl rfl)
theorem wrong1_shape (v most : PyData) (p : PyData → List PyData → Bool) : wrongFrom1 v most p = [] ∨ wrongFrom1 v most p = [.none] ∨ ∃ i : Int, wrongFrom1 v most p = [.int i] := by
  unfold wrongFrom1
  split
  · exact .inr (.inl rfl)
  · exact wrongAt_shape _ _ _
/-- == [] of such a list -/
theorem eq_empty {x : List PyData} (h : x = [] ∨ x = [.none] ∨ ∃ i : Int, x = [.int i]) : dEq (.list x) (.list []) = some (.dat (.bool x.isEmpty)) := by
  rcases h with rfl | rfl | ⟨i, rfl⟩ <;> rfl
theorem S.is_tower_form_ok : ∀ as Q E, S.is_tower_form as Q E → mkSp N_is_tower_form 1 den_is_tower_form as Q E := by
  intro as Q E h
  unfold S.is_tower_form at h
  split at h
  · rename_i v
    obtain ⟨hs, h⟩ := h
    refine ⟨rfl, rfl, ?_⟩
    have other : ∀ l : List PyData, l.length ≠ 2 → Q (.dat (.bool false)) → den_is_tower_form { nx := fun _ => Q (.dat .none), rt := fun a => a.plain = true ∧ Q a } (startE N_is_tower_form [.dat (.tuple l)]) E := fun l hl h => by
      show if (!decide ((l.length : Int) = 2)) = true then (if true = true then _ else _) else _
      rw [if_pos (by rw [decide_eq_false (by omega)]; rfl)]
      exact ⟨rfl, h⟩
    cases v with
    | tuple l =>
      match l, h, hs with
      | [a, b], h, hs =>
        refine ⟨rfl, ?_⟩
        show if (!(numB a (.int 1) (.int 60))) = true then (true = true ∧ Q (.dat (.bool false))) else _
        have h : Q (.dat (.bool (numB a (.int 1) (.int 60) && hoursB b))) := h
        cases ha : numB a (.int 1) (.int 60) with
        | false => rw [ha] at h; exact ⟨rfl, h⟩
        | true =>
          rw [ha] at h
          refine ⟨shaped_snd hs, rfl, by decide, fun e _ => hourB e, fun l _ => right_hours _ _ (fun e bef Qd q => ⟨rfl, q⟩) l [], by decide, ?_⟩
          show ap2 dEq (.dat (.list (wrongFrom1 b (.int 12) fun e _ => hourB e))) (.new []) _
          unfold ap2
          show (match dEq (.list (wrongFrom1 b (.int 12) fun e _ => hourB e)) (.list []) with | some a => _ | none => False)
          rw [eq_empty (wrong1_shape b (.int 12) fun e _ => hourB e)]
          exact ⟨rfl, h⟩
      | [], h, _ => exact ⟨rfl, h⟩
      | [_], h, _ => exact ⟨rfl, h⟩
      | _ :: _ :: _ :: r, h, _ => exact other _ (by simp) h
    | _ => exact ⟨rfl, h⟩
  · exact h.elim

def N_widths_of : List Str := ["tower", "least", "most", "_"]
def den_widths_of : TSd := sSeq (sRet (eLc (iSeq (eOp dIx (eVar 0) (eC (.int 1)))) (.tp [1, 2, 3]) (tYesD) (eOp dSub (eVar 2) (eVar 1)) [1, 2, 3])) (sNext)
def wd (h : Hr) : Int := h.most - h.lo
/-- the widths of the hours from a on, ahead of b -/
def wsum (hs : List Hr) (a b : Nat) : Int := (((hs.take b).drop a).map wd).sum
theorem drop_sum {xs : List Hr} (g : ∀ h ∈ xs, goodH h) : ∀ (d a : Nat), ((xs.drop (a + d)).map wd).sum ≤ ((xs.drop a).map wd).sum
  | 0, _ => Int.le_refl _
  | d + 1, a => by
    have z := drop_sum g d a
    have y : ((xs.drop (a + d + 1)).map wd).sum ≤ ((xs.drop (a + d)).map wd).sum := by
      by_cases h : a + d < xs.length
      · rw [List.drop_eq_getElem_cons h, List.map_cons, List.sum_cons]
        have gx := (g _ (List.getElem_mem h)).2.1
        unfold wd
        omega
      · rw [List.drop_of_length_le (by omega), List.drop_of_length_le (by omega)]
        exact Int.le_refl _
    rw [← Nat.add_assoc]
    omega
theorem wsum_anti {hs : List Hr} (g : ∀ h ∈ hs, goodH h) {a a' b : Nat} (h : a' ≤ a) : wsum hs a b ≤ wsum hs a' b := by
  obtain ⟨d, rfl⟩ : ∃ d, a = a' + d := ⟨a - a', by omega⟩
  exact drop_sum (fun h hh => g h (List.mem_of_mem_take hh)) d a'
def S.widths_of : DSp := fun as Q _ => ∃ holds hs, as = [.dat (twD holds hs)] ∧ Q (.dat (.list ((hs.map wd).map PyData.int)))
theorem S.widths_of_ok : ∀ as Q E, S.widths_of as Q E → mkSp N_widths_of 1 den_widths_of as Q E := by
  rintro as Q E ⟨holds, hs, rfl, h⟩
  refine ⟨rfl, rfl, ?_⟩
  rw [List.map_map] at h
  exact comp_hours (f := fun h => .int (wd h)) (fun x => ⟨_, rfl, fun Q' q => q⟩) hs [] ⟨rfl, h⟩

def N_tower_with : List Str := ["tower", "hour", "triple"]
def den_tower_with : TSd := sSeq (sRet (eTup (aCons (eOp dIx (eVar 0) (eC (.int 0))) (aCons (eOp dAdd (eOp dAdd (eSl (eOp dIx (eVar 0) (eC (.int 1))) (oNone) (oSome (eVar 1))) (eTup (aCons (eVar 2) (aNil)))) (eSl (eOp dIx (eVar 0) (eC (.int 1))) (oSome (eOp dAdd (eVar 1) (eC (.int 1)))) (oNone))) (aNil))))) (sNext)
/-- a tower with one hour changed -/
theorem cut_set {hs : List Hr} {k : Nat} (h : Hr) (hk : k < hs.length) : cutD (hs.map hrD) none (some (k : Int)) ++ [hrD h] ++ cutD (hs.map hrD) (some ((k : Int) + 1)) none = (hs.set k h).map hrD := by
  rw [cut_take, show ((k : Int) + 1) = ((k + 1 : Nat) : Int) by omega, cut_from, ← List.map_take, ← List.map_drop, List.set_eq_take_append_cons_drop, if_pos hk, List.map_append, List.map_cons, List.append_assoc]
  rfl
theorem cut_len {hs : List Hr} {a b : Option Int} : (cutD (hs.map hrD) a b).length ≤ hs.length := by
  unfold cutD
  simp
  omega
def S.tower_with : DSp := fun as Q _ => ∃ holds hs h, ∃ k : Nat, as = [.dat (twD holds hs), .dat (.int (k : Int)), .dat (hrD h)] ∧ k < hs.length ∧ hs.length ≤ 100 ∧ Q (.dat (twD holds (hs.set k h)))
theorem S.tower_with_ok : ∀ as Q E, S.tower_with as Q E → mkSp N_tower_with 3 den_tower_with as Q E := by
  rintro as Q E ⟨holds, hs, h, k, rfl, hk, hl, q⟩
  refine ⟨rfl, rfl, ?_⟩
  unfold den_tower_with N_tower_with
  have c1 := cut_len (hs := hs) (a := none) (b := some (k : Int))
  have c2 := cut_len (hs := hs) (a := some ((k : Int) + 1)) (b := none)
  simp? [tw_0, tw_1]
  refine ⟨by simp; omega, ?_⟩
  simp? [tw_1]
  refine ⟨by simp; omega, ?_⟩
  rw [cut_set h hk]
  simp?
  exact q

def N_check_number : List Str := ["value", "low", "high"]
def den_check_number : TSd := sSeq (sIf (tNotD (tTru (eCall S.is_number (aCons (eVar 0) (aCons (eVar 1) (aCons (eVar 2) (aNil))))))) (sSeq (sNever) (sNext)) (sNext)) (sNext)
def S.check_number : DSp := fun as Q _ => match as with
  | [.dat v, .dat lo, .dat hi] => (optI lo && optI hi) = true ∧ numB v lo hi = true ∧ Q (.dat .none)
  | _ => False
theorem S.check_number_ok : ∀ as Q E, S.check_number as Q E → mkSp N_check_number 3 den_check_number as Q E := by
  intro as Q E h
  unfold S.check_number at h
  split at h
  · rename_i v lo hi
    obtain ⟨h1, h2, h⟩ := h
    refine ⟨rfl, rfl, h1, ?_⟩
    show if (!numB v lo hi) = true then _ else _
    rw [h2]
    exact h
  · exact h.elim

def N_check_tower : List Str := ["value"]
def den_check_tower : TSd := sSeq (sIf (tNotD (tTru (eCall S.is_tower_form (aCons (eVar 0) (aNil))))) (sSeq (sNever) (sNext)) (sNext)) (sNext)
def S.check_tower : DSp := fun as Q _ => match as with
  | [.dat v] => SeqAt.shaped v = true ∧ towerB v = true ∧ Q (.dat .none)
  | _ => False
theorem S.check_tower_ok : ∀ as Q E, S.check_tower as Q E → mkSp N_check_tower 1 den_check_tower as Q E := by
  intro as Q E h
  unfold S.check_tower at h
  split at h
  · rename_i v
    obtain ⟨h1, h2, h⟩ := h
    refine ⟨rfl, rfl, h1, ?_⟩
    show if (!towerB v) = true then _ else _
    rw [h2]
    exact h
  · exact h.elim
/-- a tower within the bounds -/
def goodT (holds : Int) (hs : List Hr) : Prop := 1 ≤ holds ∧ holds ≤ 60 ∧ hs ≠ [] ∧ hs.length ≤ 12 ∧ ∀ h ∈ hs, 0 ≤ h.lo ∧ h.lo ≤ h.most ∧ h.most ≤ 30 ∧ 0 ≤ h.pump ∧ h.pump ≤ 30
theorem hour_good {h : Hr} (g : 0 ≤ h.lo ∧ h.lo ≤ h.most ∧ h.most ≤ 30 ∧ 0 ≤ h.pump ∧ h.pump ≤ 30) : hourB (hrD h) = true := by
  show (((decide (0 ≤ h.lo) && decide (h.lo ≤ 30)) && ((decide (0 ≤ h.most) && decide (h.most ≤ 30)) && ((decide (0 ≤ h.pump) && decide (h.pump ≤ 30)) && true))) && decide (h.lo ≤ h.most)) = true
  simp only [Bool.and_true, Bool.and_eq_true, decide_eq_true_eq]
  omega
theorem hours_good : ∀ (hs : List Hr) (bef : List PyData), bef.length + hs.length ≤ 12 → (∀ h ∈ hs, 0 ≤ h.lo ∧ h.lo ≤ h.most ∧ h.most ≤ 30 ∧ 0 ≤ h.pump ∧ h.pump ≤ 30) → wrongGo (.int 12) (fun e _ => hourB e) bef (hs.map hrD) = []
  | [], _, _, _ => rfl
  | x :: hs, bef, hl, hg => by
    simp only [List.length_cons] at hl
    show (if (overB bef.length (.int 12) || !hourB (hrD x)) = true then _ else _) = _
    rw [hour_good (hg x (List.mem_cons_self ..))]
    rw [if_neg (by
      show ¬ ((decide ((12 : Int) ≤ (bef.length : Int)) || false) = true)
      rw [decide_eq_false (by omega)]
      decide)]
    exact hours_good hs _ (by simp; omega) fun h hh => hg h (List.mem_cons_of_mem _ hh)
theorem lay_hours : ∀ hs : List Hr, PyData.canLayAll0 (hs.map hrD) = true ∧ PyData.depthAll (hs.map hrD) ≤ 1
  | [] => ⟨rfl, by decide⟩
  | x :: hs => by
    obtain ⟨a, b⟩ := lay_hours hs
    refine ⟨?_, ?_⟩
    · show (PyData.canLay0 (hrD x) && PyData.canLayAll0 (hs.map hrD)) = true
      rw [a]
      rfl
    · show max (PyData.depth (hrD x)) (PyData.depthAll (hs.map hrD)) ≤ 1
      have : PyData.depth (hrD x) = 1 := rfl
      omega
theorem goodT_ok {holds : Int} {hs : List Hr} (g : goodT holds hs) : SeqAt.shaped (twD holds hs) = true ∧ towerB (twD holds hs) = true := by
  obtain ⟨g1, g2, g3, g4, g5⟩ := g
  obtain ⟨l1, l2⟩ := lay_hours hs
  refine ⟨?_, ?_⟩
  · unfold SeqAt.shaped twD
    simp only [PyData.canLay0, PyData.canLayAll0, PyData.depth, PyData.depthAll, l1, Bool.and_eq_true, decide_eq_true_eq]
    refine ⟨⟨trivial, trivial, trivial⟩, ?_⟩
    exact decide_eq_true (show max 0 (max (PyData.depthAll (hs.map hrD) + 1) 0) + 1 ≤ 64 by omega)
  · show ((decide (1 ≤ holds) && decide (holds ≤ 60)) && hoursB (.tuple (hs.map hrD))) = true
    have e : hoursB (.tuple (hs.map hrD)) = true := by
      cases hs with
      | nil => exact (g3 rfl).elim
      | cons x hs =>
        show (wrongGo (.int 12) (fun e _ => hourB e) [] ((x :: hs).map hrD)).isEmpty = true
        rw [hours_good (x :: hs) [] (by simpa using g4) g5]
        rfl
    rw [e, decide_eq_true g1, decide_eq_true g2]
    rfl

def N_check_hour_of : List Str := ["tower", "value"]
def den_check_hour_of : TSd := sSeq (sDrop (eCall S.check_number (aCons (eVar 1) (aCons (eC (.int 0)) (aCons (eC .none) (aNil)))))) (sSeq (sIf (tB (eOp dGe (eVar 1) (eCB fLen (rCons (eOp dIx (eVar 0) (eC (.int 1))) (aNil))))) (sSeq (sNever) (sNext)) (sNext)) (sNext))
def S.check_hour_of : DSp := fun as Q _ => ∃ holds hs, ∃ j : Nat, as = [.dat (twD holds hs), .dat (.int (j : Int))] ∧ j < hs.length ∧ Q (.dat .none)
theorem S.check_hour_of_ok : ∀ as Q E, S.check_hour_of as Q E → mkSp N_check_hour_of 2 den_check_hour_of as Q E := by
  rintro as Q E ⟨holds, hs, j, rfl, hj, h⟩
  refine ⟨rfl, rfl, ?_⟩
  unfold den_check_hour_of N_check_hour_of
  simp?
  refine ⟨rfl, ?_, ?_⟩
  · show (decide (0 ≤ (j : Int)) && true) = true
    rw [decide_eq_true (by omega)]
    rfl
  · simp? [tw_1, List.length_map]
    refine br_dec (fun c => ?_) (fun _ => ?_)
    · omega
    · simp?
      exact h

def N_is_tower : List Str := ["value"]
def den_is_tower : TSd := sSeq (sRet (eCall S.is_tower_form (aCons (eVar 0) (aNil)))) (sNext)
def S.is_tower : DSp := fun as Q _ => ∃ v, as = [.dat v] ∧ SeqAt.shaped v = true ∧ Q (.dat (.bool (towerB v)))
theorem S.is_tower_ok : ∀ as Q E, S.is_tower as Q E → mkSp N_is_tower 1 den_is_tower as Q E := by
  rintro as Q E ⟨v, rfl, sv, h⟩
  exact ⟨rfl, rfl, sv, rfl, h⟩

def N_hours_number : List Str := ["tower"]
def den_hours_number : TSd := sSeq (sDrop (eCall S.check_tower (aCons (eVar 0) (aNil)))) (sSeq (sRet (eCB fLen (rCons (eOp dIx (eVar 0) (eC (.int 1))) (aNil)))) (sNext))
def S.hours_number : DSp := fun as Q _ => ∃ holds hs, as = [.dat (twD holds hs)] ∧ goodT holds hs ∧ Q (.dat (.int (hs.length : Int)))
theorem S.hours_number_ok : ∀ as Q E, S.hours_number as Q E → mkSp N_hours_number 1 den_hours_number as Q E := by
  rintro as Q E ⟨holds, hs, rfl, g, h⟩
  refine ⟨rfl, rfl, ?_⟩
  unfold den_hours_number N_hours_number
  simp?
  refine ⟨(goodT_ok g).1, (goodT_ok g).2, ?_⟩
  simp? [tw_1, List.length_map]
  exact h

def N_widths : List Str := ["tower"]
def den_widths : TSd := sSeq (sDrop (eCall S.check_tower (aCons (eVar 0) (aNil)))) (sSeq (sRet (eCB fTuple (rCons (eCall S.widths_of (aCons (eVar 0) (aNil))) (aNil)))) (sNext))
def S.widths : DSp := fun as Q _ => ∃ holds hs, as = [.dat (twD holds hs)] ∧ goodT holds hs ∧ Q (.dat (.tuple ((hs.map wd).map PyData.int)))
theorem S.widths_ok : ∀ as Q E, S.widths as Q E → mkSp N_widths 1 den_widths as Q E := by
  rintro as Q E ⟨holds, hs, rfl, g, h⟩
  refine ⟨rfl, rfl, ?_⟩
  unfold den_widths N_widths
  simp?
  refine ⟨(goodT_ok g).1, (goodT_ok g).2, ?_⟩
  simp?
  refine ⟨holds, hs, rfl, ?_⟩
  simp?
  exact h

def N_with_holds : List Str := ["tower", "holds"]
def den_with_holds : TSd := sSeq (sDrop (eCall S.check_tower (aCons (eVar 0) (aNil)))) (sSeq (sDrop (eCall S.check_number (aCons (eVar 1) (aCons (eC (.int 1)) (aCons (eC (.int 60)) (aNil)))))) (sSeq (sRet (eTup (aCons (eVar 1) (aCons (eOp dIx (eVar 0) (eC (.int 1))) (aNil))))) (sNext)))
def S.with_holds : DSp := fun as Q _ => ∃ (holds : Int) (hs : List Hr) (n : Int), as = [.dat (twD holds hs), .dat (.int n)] ∧ goodT holds hs ∧ 1 ≤ n ∧ n ≤ 60 ∧ Q (.dat (twD n hs))
theorem S.with_holds_ok : ∀ as Q E, S.with_holds as Q E → mkSp N_with_holds 2 den_with_holds as Q E := by
  rintro as Q E ⟨holds, hs, n, rfl, g, h0, h1, h⟩
  refine ⟨rfl, rfl, ?_⟩
  unfold den_with_holds N_with_holds
  simp?
  refine ⟨(goodT_ok g).1, (goodT_ok g).2, ?_⟩
  simp?
  refine ⟨rfl, ?_, ?_⟩
  · show (decide (1 ≤ n) && decide (n ≤ 60)) = true
    rw [decide_eq_true h0, decide_eq_true h1]
    rfl
  · simp? [tw_1]
    exact h

def N_with_hour : List Str := ["tower", "hour", "least", "most", "pump"]
def den_with_hour : TSd := sSeq (sDrop (eCall S.check_tower (aCons (eVar 0) (aNil)))) (sSeq (sDrop (eCall S.check_hour_of (aCons (eVar 0) (aCons (eVar 1) (aNil))))) (sSeq (sDrop (eCall S.check_number (aCons (eVar 2) (aCons (eC (.int 0)) (aCons (eC (.int 30)) (aNil)))))) (sSeq (sDrop (eCall S.check_number (aCons (eVar 3) (aCons (eVar 2) (aCons (eC (.int 30)) (aNil)))))) (sSeq (sDrop (eCall S.check_number (aCons (eVar 4) (aCons (eC (.int 0)) (aCons (eC (.int 30)) (aNil)))))) (sSeq (sRet (eCall S.tower_with (aCons (eVar 0) (aCons (eVar 1) (aCons (eTup (aCons (eVar 2) (aCons (eVar 3) (aCons (eVar 4) (aNil))))) (aNil)))))) (sNext))))))
theorem num_in {v a b : Int} (h0 : a ≤ v) (h1 : v ≤ b) : numB (.int v) (.int a) (.int b) = true := by
  show (decide (a ≤ v) && decide (v ≤ b)) = true
  rw [decide_eq_true h0, decide_eq_true h1]
  rfl
def S.with_hour : DSp := fun as Q _ => ∃ (holds : Int) (hs : List Hr) (k : Nat) (h : Hr), as = [.dat (twD holds hs), .dat (.int (k : Int)), .dat (.int h.lo), .dat (.int h.most), .dat (.int h.pump)] ∧ goodT holds hs ∧ k < hs.length ∧ goodH h ∧ Q (.dat (twD holds (hs.set k h)))
theorem S.with_hour_ok : ∀ as Q E, S.with_hour as Q E → mkSp N_with_hour 5 den_with_hour as Q E := by
  rintro as Q E ⟨holds, hs, k, x, rfl, g, hk, gx, h⟩
  obtain ⟨x1, x2, x3, x4, x5⟩ := gx
  refine ⟨rfl, rfl, ?_⟩
  unfold den_with_hour N_with_hour
  simp?
  refine ⟨(goodT_ok g).1, (goodT_ok g).2, ?_⟩
  simp?
  refine ⟨holds, hs, k, rfl, hk, ?_⟩
  simp?
  refine ⟨rfl, num_in x1 (by omega), ?_⟩
  simp?
  refine ⟨rfl, num_in x2 x3, ?_⟩
  simp?
  refine ⟨rfl, num_in x4 x5, ?_⟩
  simp?
  refine ⟨holds, hs, x, k, rfl, hk, by have := g.2.2.2.1; omega, ?_⟩
  simp?
  exact h

def N__law_well : List Str := ["script", "lap", "stirred", "cell", "own"]
def den__law_well : TSd := sSeq (sSetF 2 (eOp dAdd (eC (.int 2413183)) (eOp dMul (eC (.int 5231)) (eVar 1)))) (sSeq (sFor (iSeq (eSl (eVar 0) (oNone) (oSome (eC (.int 9))))) (.nm 3) (sSeq (sSetF 2 (eOp dMod (eCB fInt (rCons (eOp dAdd (eOp dAdd (eOp dMul (eVar 2) (eC (.int 47521))) (eOp dMod (eCB fInt (rCons (eVar 3) (aNil))) (eC (.int 2147483549)))) (eC (.int 41))) (aNil))) (eC (.int 2147483629)))) (sNext))) (sSeq (sSetF 4 (eIf (tB (eOp dLt (eVar 1) (eCB fLen (rCons (eVar 0) (aNil))))) (eCB fInt (rCons (eOp dIx (eVar 0) (eVar 1)) (aNil))) (eC (.int 0)))) (sSeq (sSetF 2 (eOp dMod (eCB fInt (rCons (eOp dAdd (eOp dAdd (eOp dMul (eVar 2) (eC (.int 61))) (eOp dMul (eOp dMod (eCB fInt (rCons (eVar 4) (aNil))) (eC (.int 2147483549))) (eC (.int 16007)))) (eC (.int 17))) (aNil))) (eC (.int 2147483629)))) (sSeq (sRetW (eLst (aCons (eIf (tOrD (tB (eOp dLt (eVar 4) (eC (.int 0)))) (tB (eOp dGe (eVar 4) (eOp dPow (eC (.int 10)) (eC (.int 15)))))) (eCB fAbs (rCons (eVar 4) (aNil))) (eC (.int 0))) (aCons (eVar 2) (aCons (eC (.int 0)) (aNil)))))) (sNext)))))
/-- the source is made of any script -/
def S._law_well : DSp := fun as Q _ => ∃ (ns : List Int) (t : Nat), as = [.dat (.list (ns.map PyData.int)), .dat (.int t)] ∧ ns.length ≤ 63 ∧ Q .well
theorem well_loop {D : EndsD} {E : XD → Prop} {a b e4 : Option SL} (hnx : ∀ (m : Int) (e3 : Option SL), D.nx [a, b, some (.av (.dat (.int m))), e3, e4]) :
    ∀ (l : List Int) (m : Int) (e3 : Option SL), forGo (.nm 3) (sSeq (sSetF 2 (eOp dMod (eCB fInt (rCons (eOp dAdd (eOp dAdd (eOp dMul (eVar 2) (eC (.int 47521))) (eOp dMod (eCB fInt (rCons (eVar 3) (aNil))) (eC (.int 2147483549)))) (eC (.int 41))) (aNil))) (eC (.int 2147483629)))) (sNext)) D E (l.map PyData.int) [a, b, some (.av (.dat (.int m))), e3, e4]
  | [], m, e3 => hnx m e3
  | x :: l, m, e3 => by
    have z := well_loop (E := E) hnx l ((m * 47521 + x % 2147483549 + 41) % 2147483629) (some (.av (.dat (.int x))))
    rw [List.map_cons, for_cons]
    simp?
    exact ⟨sm_r (by decide), by decide, by decide, z⟩
theorem S._law_well_ok : ∀ as Q E, S._law_well as Q E → mkSp N__law_well 2 den__law_well as Q E := by
  rintro as Q E ⟨ns, t, rfl, hl, h⟩
  refine ⟨rfl, rfl, ?_⟩
  unfold den__law_well N__law_well
  simp?
  refine ⟨sm_l (by decide), ?_⟩
  have e9 : cutD (ns.map PyData.int) none (some 9) = (ns.take 9).map PyData.int := by
    show cutD (ns.map PyData.int) none (some ((9 : Nat) : Int)) = _
    rw [cut_take, List.map_take]
  rw [e9]
  refine well_loop (fun m e3 => ?_) _ _ _
  simp only [↓w_seq]
  refine gen_nx (fun env => ∃ o : Int, env = [some (.av (.dat (.list (ns.map PyData.int)))), some (.av (.dat (.int t))), some (.av (.dat (.int m))), e3, some (.av (.dat (.int o)))]) ?_ (fun D' _ hn => ?_)
  rotate_left
  · simp?
    refine if_dec (fun ht => ?_) (fun ht => ?_)
    · rw [List.length_map] at ht
      have e : atI (ns.map PyData.int) (t : Int) = some (.int (ns[t]'(by omega))) := at_nat (by simp [show t < ns.length by omega])
      simp? [e]
      exact hn _ ⟨_, rfl⟩
    · simp?
      exact hn _ ⟨_, rfl⟩
  rintro env ⟨o, rfl⟩
  simp?
  refine ⟨sm_r (by decide), by decide, sm_r (by decide), by decide, ?_⟩
  refine or_dec (fun _ => ?_) fun _ => ?_
  · simp?; exact h
  · simp?
    refine ⟨by decide, ?_⟩
    refine if_dec (fun _ => ?_) fun _ => ?_
    · simp?; exact h
    · simp?; exact h

def N__law_draw : List Str := ["well", "limit", "figure", "mixed"]
def den__law_draw : TSd := sSeq (sIf (tB (eOp dGt (eWix 0) (eC (.int 0)))) (sSeq (sWdm 0 2 (aCons (eWix 0) (aCons (eVar 1) (aNil)))) (sSeq (sRet (eVar 2)) (sNext))) (sNext)) (sSeq (sWset 0 (eOp dAdd (eWix 0) (eC (.int 1)))) (sSeq (sSetF 3 (eOp dMod (eCB fInt (rCons (eOp dAdd (eOp dMul (eWix 0) (eC (.int 40009))) (eOp dMul (eC (.int 15013)) (eWix 0))) (aNil))) (eC (.int 2147483629)))) (sSeq (sWset 0 (eOp dMod (eCB fInt (rCons (eOp dAdd (eOp dMul (eVar 3) (eOp dAdd (eOp dMod (eCB fInt (rCons (eVar 3) (aNil))) (eC (.int 5003))) (eC (.int 20011)))) (eWix 0)) (aNil))) (eC (.int 2147483629)))) (sSeq (sRet (eOp dMod (eCB fInt (rCons (eOp dFdiv (eWix 0) (eC (.int 1031))) (aNil))) (eVar 1))) (sNext)))))
def S._law_draw : DSp := fun as Q _ => ∃ n : Int, as = [.well, .dat (.int n)] ∧ 0 < n ∧ n < 1000000 ∧ ∀ i : Int, 0 ≤ i → i < n → Q (.dat (.int i))
theorem S._law_draw_ok : ∀ as Q E, S._law_draw as Q E → mkSp N__law_draw 2 den__law_draw as Q E := by
  rintro as Q E ⟨n, rfl, h0, h1, h⟩
  refine ⟨rfl, rfl, ?_⟩
  have rem : ∀ x : Int, Q (.dat (.int (x % n))) := fun x => h _ (Int.emod_nonneg _ (by omega)) (Int.emod_lt_of_pos _ h0)
  have s1 : ∀ x : Int, smallB (x % 5003 + 20011) = true := fun x => sm_of (by have := Int.emod_nonneg x (by decide : (5003 : Int) ≠ 0); omega) (by have := Int.emod_lt_of_pos x (by decide : (0 : Int) < 5003); omega)
  have s2 : smallB 40009 = true := by decide
  have s3 : smallB 15013 = true := by decide
  have n1 : n < 1073741824 := by omega
  simp [den__law_draw, N__law_draw, sSeq, sIf, tB, tTru, truD, tAndD, tOrD, tNotD, eOp, ap2, eWix, eC, eVar, eNeg, eIf, eAnd, eOr, eNot, aCons, aNil, rCons, eCB, sWdm, sRet, sRetW, new3, sNext, sWset, sSet, sSetF, sPar2, sPar3, storeF, storeA, ints2, intV, setE, startE, wellAt, AV.rd, AV.st, AV.sd, AV.plain, dGt, dGe, dLt, dLe, dB, dAdd, dSub, dMul, dMod, dFdiv, fInt, fLen, fAbs, f1, eTup, eLst, dats, s1, s2, s3, h0, n1, rem]

def N__law_of : List Str := ["well", "some"]
def den__law_of : TSd := sSeq (sRet (eOp dIx (eVar 1) (eCall S._law_draw (aCons (eVar 0) (aCons (eCB fLen (rCons (eVar 1) (aNil))) (aNil)))))) (sNext)
def S._law_of : DSp := fun as Q _ => ∃ l : List PyData, (as = [.well, .dat (.tuple l)] ∨ as = [.well, .dat (.list l)]) ∧ l ≠ [] ∧ l.length < 100000 ∧ ∀ d ∈ l, Q (.dat d)
theorem S._law_of_ok : ∀ as Q E, S._law_of as Q E → mkSp N__law_of 2 den__law_of as Q E := by
  rintro as Q E ⟨l, ha, hn, hl, h⟩
  have hp : 0 < l.length := List.length_pos_iff.mpr hn
  have key : ∀ i : Int, 0 ≤ i → i < (l.length : Int) → ∃ d, atI l i = some d ∧ Q (.dat d) := fun i h0 h1 => by
    obtain ⟨j, rfl⟩ : ∃ j : Nat, i = (j : Int) := ⟨i.toNat, by omega⟩
    have hj : j < l.length := by omega
    exact ⟨l[j], at_nat (List.getElem?_eq_getElem hj), h _ (List.getElem_mem hj)⟩
  rcases ha with rfl | rfl
  · refine ⟨rfl, rfl, ?_⟩
    unfold den__law_of N__law_of
    simp?
    refine ⟨(l.length : Int), rfl, by omega, by omega, fun i h0 h1 => ?_⟩
    obtain ⟨d, e, q⟩ := key i h0 h1
    simp? [e]
    exact q
  · refine ⟨rfl, rfl, ?_⟩
    unfold den__law_of N__law_of
    simp?
    refine ⟨(l.length : Int), rfl, by omega, by omega, fun i h0 h1 => ?_⟩
    obtain ⟨d, e, q⟩ := key i h0 h1
    simp? [e]
    exact q
/-- any of some numbers -/
theorem of_ints {P : Int → Prop} {l : List PyData} (h : ∀ d ∈ l, ∃ v : Int, d = .int v ∧ P v) {Q : AV → Prop} (q : ∀ v, P v → Q (.dat (.int v))) : ∀ d ∈ l, Q (.dat d) := fun d hd => by
  obtain ⟨v, rfl, p⟩ := h d hd
  exact q v p

def N__law_is : List Str := ["told", "due"]
def den__law_is : TSd := sSeq (sRet (eOp dEq (eCB fRepr (rCons (eVar 0) (aNil))) (eCB fRepr (rCons (eVar 1) (aNil))))) (sNext)
def S._law_is : DSp := fun as Q _ => ∃ a b : PyData, as = [.dat a, .dat b] ∧ okShow a = true ∧ okShow b = true ∧ Q (.dat (.bool (decide (PyData.shown a = PyData.shown b))))
theorem S._law_is_ok : ∀ as Q E, S._law_is as Q E → mkSp N__law_is 2 den__law_is as Q E := by
  rintro as Q E ⟨a, b, rfl, ha, hb, h⟩
  refine ⟨rfl, rfl, ?_⟩
  unfold den__law_is N__law_is
  simp? [cb_repr ha, cb_repr hb]
  exact h
theorem is_same {a : PyData} {Q : AV → Prop} {E : XD → Prop} (h : okShow a = true) (q : Q (.dat (.bool true))) : S._law_is [.dat a, .dat a] Q E := ⟨a, a, rfl, h, h, by rw [decide_eq_true rfl]; exact q⟩

def N__law_tower : List Str := ["well", "most", "high", "hours", "lap", "least", "wide"]
def den__law_tower : TSd := sSeq (sSet 3 (eLst (aNil))) (sSeq (sFor (iRg1 (aCons (eOp dAdd (eC (.int 1)) (eCB fMax (rCons (eCall S._law_draw (aCons (eVar 0) (aCons (eVar 1) (aNil)))) (rCons (eCall S._law_draw (aCons (eVar 0) (aCons (eVar 1) (aNil)))) (aNil))))) (aNil))) (.nm 4) (sSeq (sSetF 5 (eCall S._law_draw (aCons (eVar 0) (aCons (eOp dAdd (eVar 2) (eC (.int 1))) (aNil))))) (sSeq (sSetF 6 (eCall S._law_of (aCons (eVar 0) (aCons (eTup (aCons (eC (.int 0)) (aCons (eC (.int 0)) (aCons (eC (.int 1)) (aCons (eC (.int 1)) (aCons (eC (.int 2)) (aNil))))))) (aNil))))) (sSeq (sApp 3 (eTup (aCons (eVar 5) (aCons (eCB fMin (rCons (eC (.int 30)) (rCons (eOp dAdd (eVar 5) (eVar 6)) (aNil)))) (aCons (eCB fMin (rCons (eC (.int 30)) (rCons (eCall S._law_draw (aCons (eVar 0) (aCons (eOp dAdd (eVar 2) (eC (.int 3))) (aNil)))) (aNil)))) (aNil)))))) (sNext))))) (sSeq (sRet (eTup (aCons (eOp dAdd (eC (.int 1)) (eCall S._law_draw (aCons (eVar 0) (aCons (eCall S._law_of (aCons (eVar 0) (aCons (eTup (aCons (eC (.int 3)) (aCons (eC (.int 8)) (aCons (eC (.int 20)) (aNil))))) (aNil)))) (aNil))))) (aCons (eCB fTuple (rCons (eVar 3) (aNil))) (aNil))))) (sNext)))
def S._law_tower : DSp := fun as Q _ => ∃ most high : Int, as = [.well, .dat (.int most), .dat (.int high)] ∧ 1 ≤ most ∧ most ≤ 12 ∧ 0 ≤ high ∧ high ≤ 30 ∧ ∀ holds hs, goodT holds hs → (hs.length : Int) ≤ most → holds ≤ 20 → Q (.dat (twD holds hs))
theorem S._law_tower_ok : ∀ as Q E, S._law_tower as Q E → mkSp N__law_tower 3 den__law_tower as Q E := by
  rintro as Q E ⟨most, high, rfl, m1, m2, h1, h2, h⟩
  refine ⟨rfl, rfl, ?_⟩
  unfold den__law_tower N__law_tower
  simp?
  refine ⟨most, rfl, by omega, by omega, fun n n0 n1 => ?_⟩
  refine ⟨most, rfl, by omega, by omega, fun m m0 m1 => ?_⟩
  simp?
  refine ⟨okRg (by omega) (by omega) (by omega) (by omega), ?_⟩
  rw [rngD_zero]
  refine for_idx (P := fun k env => ∃ (hs : List Hr) (e4 e5 e6 : Option SL), hs.length = k ∧ (∀ h ∈ hs, goodH h) ∧ env = [some (.av .well), some (.av (.dat (.int most))), some (.av (.dat (.int high))), some (.own (hs.map hrD)), e4, e5, e6]) _ 0 _ ⟨[], _, _, _, rfl, fun h hh => (by cases hh), rfl⟩ (fun env hP => ?_) fun j env _ hj hP => ?_
  · obtain ⟨hs, e4, e5, e6, hl, g, rfl⟩ := hP
    simp?
    refine ⟨_, .inl rfl, by simp, by simp, fun d hd => ?_⟩
    obtain ⟨x, rfl, x1, x2⟩ : ∃ v : Int, d = .int v ∧ 1 ≤ v ∧ v ≤ 20 := by
      simp only [List.mem_cons, List.not_mem_nil, or_false] at hd
      rcases hd with rfl | rfl | rfl <;> exact ⟨_, rfl, by omega, by omega⟩
    simp?
    refine ⟨x, rfl, by omega, by omega, fun y y0 y1 => ?_⟩
    simp?
    exact h (1 + y) hs ⟨by omega, by omega, by intro z; rw [z] at hl; simp at hl; omega, by omega, g⟩ (by omega) (by omega)
  · obtain ⟨hs, e4, e5, e6, hl, g, rfl⟩ := hP
    refine ⟨_, rfl, fun D' _ hnx' => ?_⟩
    simp?
    refine ⟨high + 1, rfl, by omega, by omega, fun lo l0 l1 => ?_⟩
    simp?
    refine ⟨_, .inl rfl, by simp, by simp, fun d hd => ?_⟩
    obtain ⟨wd, rfl, d0, d1⟩ : ∃ v : Int, d = .int v ∧ 0 ≤ v ∧ v ≤ 2 := by
      simp only [List.mem_cons, List.not_mem_nil, or_false] at hd
      rcases hd with rfl | rfl | rfl | rfl | rfl <;> exact ⟨_, rfl, by omega, by omega⟩
    simp?
    refine ⟨high + 3, rfl, by omega, by omega, fun p p0 p1 => ?_⟩
    simp?
    refine ⟨by simp; omega, hnx' _ ⟨hs ++ [⟨lo, min 30 (lo + wd), min 30 p⟩], _, _, _, by simp [hl], fun h hh => ?_, by rw [List.map_append]; rfl⟩⟩
    rcases List.mem_append.mp hh with hh | hh
    · exact g h hh
    · rw [List.mem_singleton.mp hh]
      exact ⟨l0, by show lo ≤ min 30 (lo + wd); omega, by show min 30 (lo + wd) ≤ 30; omega, by show 0 ≤ min 30 p; omega, by show min 30 p ≤ 30; omega⟩

def N__law_no_tower : List Str := ["well", "tower", "holds", "hours", "some", "least", "most", "pump", "odds", "odd"]
def den__law_no_tower : TSd := sSeq (sUnp (.tp [2, 3]) (eVar 1)) (sSeq (sSet 4 (eLst (aCons (eC .none) (aCons (eTup (aNil)) (aCons (eTup (aCons (eVar 2) (aNil))) (aCons (eOp dAdd (eVar 1) (eTup (aCons (eC (.int 0)) (aNil)))) (aCons (eCB fList (rCons (eVar 1) (aNil))) (aCons (eTup (aCons (eC (.int 0)) (aCons (eVar 3) (aNil)))) (aCons (eTup (aCons (eC (.int 61)) (aCons (eVar 3) (aNil)))) (aCons (eTup (aCons (eC (.bool true)) (aCons (eVar 3) (aNil)))) (aCons (eTup (aCons (eVar 2) (aCons (eTup (aNil)) (aNil)))) (aNil)))))))))))) (sSeq (sUnp (.tp [5, 6, 7]) (eOp dIx (eVar 3) (eC (.int 0)))) (sSeq (sSetF 8 (eLst (aCons (eTup (aCons (eVar 5) (aCons (eVar 6) (aCons (eC (.int 31)) (aNil))))) (aCons (eTup (aCons (eC (.int 31)) (aCons (eC (.int 31)) (aCons (eC (.int 0)) (aNil))))) (aCons (eTup (aCons (eOp dAdd (eVar 6) (eC (.int 1))) (aCons (eVar 6) (aCons (eC (.int 0)) (aNil))))) (aCons (eTup (aCons (eVar 5) (aCons (eVar 6) (aCons (eNeg (eC (.int 1))) (aNil))))) (aCons (eTup (aCons (eVar 5) (aCons (eVar 6) (aNil)))) (aCons (eTup (aCons (eC (.bool true)) (aCons (eC (.int 1)) (aCons (eC (.int 1)) (aNil))))) (aNil))))))))) (sSeq (sFor (iSeq (eOp dAdd (eVar 8) (eLst (aCons (eC .none) (aCons (eLst (aCons (eC (.int 0)) (aCons (eC (.int 1)) (aCons (eC (.int 1)) (aNil))))) (aCons (eTup (aCons (eVar 3) (aCons (eVar 2) (aCons (eC (.int 1)) (aNil))))) (aNil))))))) (.nm 9) (sSeq (sApp 4 (eTup (aCons (eVar 2) (aCons (eOp dAdd (eTup (aCons (eVar 9) (aNil))) (eSl (eVar 3) (oSome (eC (.int 1))) (oNone))) (aNil))))) (sNext))) (sSeq (sRet (eCall S._law_of (aCons (eVar 0) (aCons (eOp dAdd (eVar 4) (eLst (aCons (eTup (aCons (eVar 2) (aCons (eCB fList (rCons (eVar 3) (aNil))) (aNil)))) (aCons (eTup (aCons (eVar 2) (aCons (eOp dAdd (eVar 3) (eRep (eSl (eVar 3) (oNone) (oSome (eC (.int 1)))) (eC (.int 12)))) (aNil)))) (aCons (eC (.str "tower")) (aNil)))))) (aNil))))) (sNext))))))
/-- data that are no tower -/
def noTw (v : PyData) : Prop := fit 200 5 v ∧ towerB v = false
theorem fit_hour {h : Hr} (g : 0 ≤ h.lo ∧ h.lo ≤ h.most ∧ h.most ≤ 30 ∧ 0 ≤ h.pump ∧ h.pump ≤ 30) : fit 3 1 (hrD h) := by
  have := fit_ints (l := [h.lo, h.most, h.pump]) (m := 3) (fun x hx => by
    simp only [List.mem_cons, List.not_mem_nil, or_false] at hx
    rcases hx with rfl | rfl | rfl <;> omega) (Nat.le_refl 3)
  exact this
theorem fit_hours {hs : List Hr} {m : Nat} (g : ∀ h ∈ hs, 0 ≤ h.lo ∧ h.lo ≤ h.most ∧ h.most ≤ 30 ∧ 0 ≤ h.pump ∧ h.pump ≤ 30) (hl : hs.length ≤ m) : fit (4 * m) 2 (.tuple (hs.map hrD)) ∧ fit (4 * m) 2 (.list (hs.map hrD)) := by
  have e : ∀ x ∈ hs.map hrD, fit 3 1 x := fun x hx => by
    obtain ⟨y, hy, rfl⟩ := List.mem_map.mp hx
    exact fit_hour (g y hy)
  exact ⟨fit_tup e (by rw [List.length_map]; exact hl), fit_lst e (by rw [List.length_map]; exact hl)⟩
theorem fit_two {n d : Nat} {a b : PyData} (ha : fit n d a) (hb : fit n d b) : fit ((n + 1) * 2) (d + 1) (.tuple [a, b]) ∧ fit ((n + 1) * 2) (d + 1) (.list [a, b]) := by
  have e : ∀ x ∈ [a, b], fit n d x := fun x hx => by
    simp only [List.mem_cons, List.not_mem_nil, or_false] at hx
    rcases hx with rfl | rfl
    · exact ha
    · exact hb
  exact ⟨fit_tup e (Nat.le_refl 2), fit_lst e (Nat.le_refl 2)⟩
theorem fit_three {n d : Nat} {a b c : PyData} (ha : fit n d a) (hb : fit n d b) (hc : fit n d c) : fit ((n + 1) * 3) (d + 1) (.tuple [a, b, c]) ∧ fit ((n + 1) * 3) (d + 1) (.list [a, b, c]) := by
  have e : ∀ x ∈ [a, b, c], fit n d x := fun x hx => by
    simp only [List.mem_cons, List.not_mem_nil, or_false] at hx
    rcases hx with rfl | rfl | rfl
    · exact ha
    · exact hb
    · exact hc
  exact ⟨fit_tup e (Nat.le_refl 3), fit_lst e (Nat.le_refl 3)⟩
theorem go12 {q : PyData → Bool} : ∀ (r bef : List PyData), (wrongGo (.int 12) (fun e _ => q e) bef r).isEmpty = ((r.isEmpty || decide (bef.length + r.length ≤ 12)) && r.all q)
  | [], bef => rfl
  | e :: r, bef => by
    have ih := go12 (q := q) r (bef ++ [e])
    rw [List.length_append, List.length_singleton] at ih
    show (if (decide ((12 : Int) ≤ (bef.length : Int)) || !q e) = true then [PyData.int bef.length] else wrongGo (.int 12) (fun e _ => q e) (bef ++ [e]) r).isEmpty = (decide (bef.length + (r.length + 1) ≤ 12) && (q e && r.all q))
    by_cases c : (12 : Int) ≤ (bef.length : Int)
    · rw [decide_eq_true c, Bool.true_or, if_pos rfl, decide_eq_false (by omega)]
      rfl
    · rw [decide_eq_false c, Bool.false_or]
      cases hq : q e with
      | false => simp
      | true =>
        rw [if_neg (by decide), ih]
        cases r with
        | nil =>
          rw [show decide (bef.length + (([] : List PyData).length + 1) ≤ 12) = true from decide_eq_true (by simp; omega)]
          rfl
        | cons x r =>
          rw [show (bef.length + 1 + (x :: r).length) = bef.length + ((x :: r).length + 1) by omega]
          rfl
theorem hours_all {l : List PyData} : hoursB (.tuple l) = (decide (1 ≤ l.length) && decide (l.length ≤ 12) && l.all hourB) := by
  cases l with
  | nil => rfl
  | cons x l =>
    show (wrongGo (.int 12) (fun e _ => hourB e) [] (x :: l)).isEmpty = _
    rw [go12, decide_eq_true (by simp : 1 ≤ (x :: l).length)]
    simp
theorem no_hour {a o : PyData} {r : List PyData} (h : hourB o = false) : towerB (.tuple [a, .tuple (o :: r)]) = false := by
  show (numB a (.int 1) (.int 60) && hoursB (.tuple (o :: r))) = false
  rw [hours_all, List.all_cons, h]
  simp
theorem no_hours {a b : PyData} (h : hoursB b = false) : towerB (.tuple [a, b]) = false := by
  show (numB a (.int 1) (.int 60) && hoursB b) = false
  rw [h, Bool.and_false]
theorem no_holds {a b : PyData} (h : numB a (.int 1) (.int 60) = false) : towerB (.tuple [a, b]) = false := by
  show (numB a (.int 1) (.int 60) && hoursB b) = false
  rw [h, Bool.false_and]
theorem hourB_ints {a b c : Int} : hourB (.tuple [.int a, .int b, .int c]) = ((decide (0 ≤ a) && decide (a ≤ 30)) && ((decide (0 ≤ b) && decide (b ≤ 30)) && (decide (0 ≤ c) && decide (c ≤ 30))) && decide (a ≤ b)) := by
  show (((decide (0 ≤ a) && decide (a ≤ 30)) && ((decide (0 ≤ b) && decide (b ≤ 30)) && ((decide (0 ≤ c) && decide (c ≤ 30)) && true))) && decide (a ≤ b)) = _
  rw [Bool.and_true]
def S._law_no_tower : DSp := fun as Q _ => ∃ holds hs, as = [.well, .dat (twD holds hs)] ∧ goodT holds hs ∧ ∀ v, noTw v → Q (.dat v)
theorem S._law_no_tower_ok : ∀ as Q E, S._law_no_tower as Q E → mkSp N__law_no_tower 2 den__law_no_tower as Q E := by
  rintro as Q E ⟨holds, hs, rfl, g, h⟩
  obtain ⟨g1, g2, g3, g4, g5⟩ := g
  have fh := (fit_hours g5 (m := 12) g4).1
  have fl := (fit_hours g5 (m := 12) g4).2
  have fi : ∀ i : Int, -1000 ≤ i → i ≤ 1000 → fit 48 2 (.int i) := fun i a b => fit_up (fit_i (by omega) (by omega)) (by omega) (by omega)
  have ft : fit 98 3 (twD holds hs) := (fit_two (fi holds (by omega) (by omega)) fh).1
  obtain ⟨x0, hr, rfl⟩ : ∃ x0 hr, hs = x0 :: hr := by
    cases hs with
    | nil => exact absurd rfl g3
    | cons x r => exact ⟨x, r, rfl⟩
  have gx := g5 x0 (List.mem_cons_self ..)
  refine ⟨rfl, rfl, ?_⟩
  unfold den__law_no_tower N__law_no_tower
  have e1 : ∀ K : AV → Prop, ap2 dAdd (AV.dat (twD holds (x0 :: hr))) (AV.dat (PyData.tuple [PyData.int 0])) K = K (.dat (.tuple [.int holds, .tuple ((x0 :: hr).map hrD), .int 0])) := fun _ => rfl
  have e2 : ∀ K : AV → Prop, cbQ fList K [AV.dat (twD holds (x0 :: hr))] = K (.new [.int holds, .tuple ((x0 :: hr).map hrD)]) := fun _ => rfl
  simp? [tw_u, e1, e2]
  have fx := fit_hour gx
  have c1 : (cutD (hrD x0 :: hr.map hrD) (some 1) none) = hr.map hrD := by
    exact cut_from (l := hrD x0 :: hr.map hrD) (k := 1)
  have c2 : (cutD (hrD x0 :: hr.map hrD) none (some 1)) = [hrD x0] := rfl
  refine dt_map [.none, .tuple [], .tuple [.int holds], .tuple [.int holds, .tuple ((x0 :: hr).map hrD), .int 0], .list [.int holds, .tuple ((x0 :: hr).map hrD)], .tuple [.int 0, .tuple ((x0 :: hr).map hrD)], .tuple [.int 61, .tuple ((x0 :: hr).map hrD)], .tuple [.bool true, .tuple ((x0 :: hr).map hrD)], .tuple [.int holds, .tuple []]] rfl (by simp) ?_
  simp? [hr_u]
  have fi0 : ∀ i : Int, -1000 ≤ i → i ≤ 1000 → fit 0 0 (.int i) := fun i a b => fit_i (by omega) (by omega)
  have fo : ∀ o, fit 150 3 o → hourB o = false → noTw (.tuple [.int holds, .tuple (o :: hr.map hrD)]) := fun o h1 h2 => by
    have f1 : fit 44 2 (.tuple (hr.map hrD)) := (fit_hours (m := 11) (fun z hz => g5 z (List.mem_cons_of_mem _ hz)) (by simpa using g4)).1
    have f0 : fit 0 1 (.tuple []) := fit_tup (n := 0) (d := 0) (m := 0) (fun y hy => by cases hy) (Nat.le_refl 0)
    exact ⟨fit_up (fit_cons (d := 4) (fit_up (fi0 holds (by omega) (by omega)) (Nat.le_refl 0) (by omega)) (fit_cons (d := 4) (fit_cons h1 (fit_up f1 (Nat.le_refl _) (by omega))) (fit_up f0 (Nat.le_refl 0) (by omega)))) (by omega) (by omega), no_hour h2⟩
  refine ⟨by decide, ?_⟩
  refine for_preD (P := fun pre env => ∃ (l : List PyData) (e9 : Option SL), l.length = 9 + pre.length ∧ (∀ v ∈ l, noTw v) ∧ env = [some (.av .well), some (.av (.dat (twD holds (x0 :: hr)))), some (.av (.dat (.int holds))), some (.av (.dat (.tuple (hrD x0 :: hr.map hrD)))), some (.own l), some (.av (.dat (.int x0.lo))), some (.av (.dat (.int x0.most))), some (.av (.dat (.int x0.pump))), some (.av (.dat (.list [.tuple [.int x0.lo, .int x0.most, .int 31], .tuple [.int 31, .int 31, .int 0], .tuple [.int (x0.most + 1), .int x0.most, .int 0], .tuple [.int x0.lo, .int x0.most, .int (-1)], .tuple [.int x0.lo, .int x0.most], .tuple [.bool true, .int 1, .int 1]]))), e9]) _ _ ⟨_, _, rfl, ?_, rfl⟩ (fun env hP => ?_) fun pre x post env he hP => ?_
  · intro v hv
    simp only [List.mem_cons, List.not_mem_nil, or_false] at hv
    have fnil : fit 0 1 (.tuple []) := fit_tup (n := 0) (d := 0) (m := 0) (fun y hy => by cases hy) (Nat.le_refl 0)
    have te : ∀ x y z, towerB (.tuple [x, y, z]) = false := fun _ _ _ => rfl
    rcases hv with rfl | rfl | rfl | rfl | rfl | rfl | rfl | rfl | rfl
    · exact ⟨fit_up fit_none (by omega) (by omega), rfl⟩
    · exact ⟨fit_up (fit_tup (n := 0) (d := 0) (m := 0) (fun y hy => by cases hy) (Nat.le_refl 0)) (by omega) (by omega), rfl⟩
    · exact ⟨fit_up (fit_tup (n := 0) (d := 0) (m := 1) (fun y hy => by rw [List.mem_singleton.mp hy]; exact fi0 holds (by omega) (by omega)) (Nat.le_refl 1)) (by omega) (by omega), rfl⟩
    · exact ⟨fit_up (fit_three (fi holds (by omega) (by omega)) fh (fi 0 (by omega) (by omega))).1 (by omega) (by omega), rfl⟩
    · exact ⟨fit_up (fit_two (fi holds (by omega) (by omega)) fh).2 (by omega) (by omega), rfl⟩
    · exact ⟨fit_up (fit_two (fi 0 (by omega) (by omega)) fh).1 (by omega) (by omega), no_holds rfl⟩
    · exact ⟨fit_up (fit_two (fi 61 (by omega) (by omega)) fh).1 (by omega) (by omega), no_holds rfl⟩
    · exact ⟨fit_up (fit_two (fit_up fit_bool (by omega) (by omega)) fh).1 (by omega) (by omega), no_holds rfl⟩
    · exact ⟨fit_up (fit_two (fi holds (by omega) (by omega)) (fit_up fnil (by omega) (by omega) : fit 48 2 (.tuple []))).1 (by omega) (by omega), no_hours rfl⟩
  · obtain ⟨l, e9, hl, al, rfl⟩ := hP
    simp? [c2]
    have er : repL (Int.toNat 12) [hrD x0] = (List.replicate 12 x0).map hrD := rfl
    rw [er]
    have hl9 : l.length ≤ 30 := by rw [hl]; simp
    refine ⟨⟨by omega, by omega, by simp, by omega⟩, by simp at g4 ⊢; omega, by omega, _, .inr rfl, by simp, by simp; omega, fun v hv => ?_⟩
    rcases List.mem_append.mp hv with hv | hv
    · simp? [w_pld]
      exact h v (al v hv)
    simp only [List.mem_cons, List.not_mem_nil, or_false] at hv
    simp? [w_pld]
    have ev : (hrD x0 :: (hr.map hrD ++ (List.replicate 12 x0).map hrD)) = ((x0 :: hr) ++ List.replicate 12 x0).map hrD := by simp
    rw [ev] at hv
    rcases hv with rfl | rfl | rfl
    · exact h _ ⟨fit_up (fit_two (fi holds (by omega) (by omega)) fl).1 (by omega) (by omega), no_hours rfl⟩
    · refine h _ ⟨fit_up (fit_two (n := 96) (d := 2) (fit_up (fi holds (by omega) (by omega)) (by omega) (by omega)) (fit_hours (m := 24) (fun z hz => ?_) (by simp at g4 ⊢; omega)).1).1 (by omega) (by omega), no_hours ?_⟩
      · rcases List.mem_append.mp hz with hz | hz
        · exact g5 z hz
        · rw [(List.mem_replicate.mp hz).2]; exact gx
      · rw [hours_all]
        have : ¬ (((x0 :: hr) ++ List.replicate 12 x0).map hrD).length ≤ 12 := by simp
        rw [decide_eq_false this]
        simp
    · exact h _ ⟨⟨⟨by decide, by decide, by decide⟩, by show PyData.canLay0 _ = true; decide +kernel⟩, rfl⟩
  · obtain ⟨l, e9, hl, al, rfl⟩ := hP
    have hx : fit 150 3 x ∧ hourB x = false := by
      have hm : x ∈ pre ++ x :: post := List.mem_append.mpr (.inr (List.mem_cons_self ..))
      rw [← he] at hm
      simp only [List.mem_cons, List.not_mem_nil, or_false] at hm
      have f3 : ∀ a b c : Int, -1000 ≤ a → a ≤ 1000 → -1000 ≤ b → b ≤ 1000 → -1000 ≤ c → c ≤ 1000 → fit 150 3 (.tuple [.int a, .int b, .int c]) := fun a b c a0 a1 b0 b1 c0 c1 => fit_up (fit_three (fi0 a a0 a1) (fi0 b b0 b1) (fi0 c c0 c1)).1 (by omega) (by omega)
      rcases hm with rfl | rfl | rfl | rfl | rfl | rfl | rfl | rfl | rfl
      · exact ⟨f3 _ _ _ (by omega) (by omega) (by omega) (by omega) (by omega) (by omega), by rw [hourB_ints]; simp⟩
      · exact ⟨f3 _ _ _ (by omega) (by omega) (by omega) (by omega) (by omega) (by omega), by rw [hourB_ints]; simp⟩
      · exact ⟨f3 _ _ _ (by omega) (by omega) (by omega) (by omega) (by omega) (by omega), by rw [hourB_ints, decide_eq_false (show ¬ x0.most + 1 ≤ x0.most by omega), Bool.and_false]⟩
      · exact ⟨f3 _ _ _ (by omega) (by omega) (by omega) (by omega) (by omega) (by omega), by rw [hourB_ints]; simp⟩
      · exact ⟨fit_up (fit_two (fi0 x0.lo (by omega) (by omega)) (fi0 x0.most (by omega) (by omega))).1 (by omega) (by omega), rfl⟩
      · exact ⟨fit_up (fit_three fit_bool (fi0 1 (by omega) (by omega)) (fi0 1 (by omega) (by omega))).1 (by omega) (by omega), rfl⟩
      · exact ⟨fit_up fit_none (by omega) (by omega), rfl⟩
      · exact ⟨fit_up (fit_three (fi0 0 (by omega) (by omega)) (fi0 1 (by omega) (by omega)) (fi0 1 (by omega) (by omega))).2 (by omega) (by omega), rfl⟩
      · exact ⟨fit_up (fit_three fh (fi holds (by omega) (by omega)) (fi 1 (by omega) (by omega))).1 (by omega) (by omega), rfl⟩
    refine ⟨_, rfl, fun D' hrt hnx => ?_⟩
    have pl : pre.length < 9 := by
      have := congrArg List.length he
      simp at this
      omega
    simp? [setE, c1]
    refine ⟨by simp at g4 ⊢; omega, by omega, hnx _ ⟨_, _, by simp [hl]; omega, fun v hv => ?_, rfl⟩⟩
    rcases List.mem_append.mp hv with hv | hv
    · exact al v hv
    · rw [List.mem_singleton.mp hv]
      exact fo x hx.1 hx.2

def N__law_refused : List Str := ["act", "e"]
def den__law_refused : TSd := sSeq (sTry hSub 1 (eAppR 0 26) [("InvalidTower", suG "InvalidTower" "tower" "given"), ("InvalidNumber", suG "InvalidNumber" "number" "given"), ("OutOfRange", suG "OutOfRange" "range" "given")]) (sSeq (sRet (eLst (aCons (eC (.str "told")) (aNil)))) (sNext))
/-- what an error of the check tells, as the law words it -/
def refQ (t : List (Str × Str × Str)) (Q : AV → Prop) (x : XD) : Prop := ∃ c s f v, (c, s, f) ∈ t ∧ x = (c, .tuple [.str f, v]) ∧ Q (.dat (.list [.str s, v]))
def tabR : List (Str × Str × Str) := [("InvalidTower", "tower", "given"), ("InvalidNumber", "number", "given"), ("OutOfRange", "range", "given")]
def S._law_refused : DSp := fun as Q _ => ∃ k b, as = [.clr k b] ∧ k ≤ 26 ∧ ∀ E2 : XD → Prop, (∀ x, refQ tabR Q x → E2 x) → b [] (fun _ => Q (.dat (.list [.str "told"]))) E2
theorem S._law_refused_ok : ∀ as Q E, S._law_refused as Q E → mkSp N__law_refused 1 den__law_refused as Q E := by
  rintro as Q E ⟨k, b, rfl, hk, h⟩
  refine ⟨rfl, rfl, ?_⟩
  unfold den__law_refused N__law_refused
  simp?
  refine ⟨hk, h _ fun x hx => ?_⟩
  obtain ⟨c, s, f, v, hm, rfl, q⟩ := hx
  unfold tabR at hm
  simp only [List.mem_cons, List.not_mem_nil, or_false, Prod.mk.injEq] at hm
  have step : ∀ {c0 : Str} {ts : XD → TSd} {r : Cls} {a : Str} {d : PyData} {D : EndsD} {env : En} {E : XD → Prop}, hSub a c0 = some false → catchX hSub r (a, d) D env E → catchX hSub ((c0, ts) :: r) (a, d) D env E := fun e h => by
    show (match hSub _ _ with | some true => _ | some false => _ | none => False)
    rw [e]
    exact h
  have here : ∀ {c0 : Str} {ts : XD → TSd} {r : Cls} {a : Str} {d : PyData} {D : EndsD} {env : En} {E : XD → Prop}, hSub a c0 = some true → ts (a, d) D env E → catchX hSub ((c0, ts) :: r) (a, d) D env E := fun e h => by
    show (match hSub _ _ with | some true => _ | some false => _ | none => False)
    rw [e]
    exact h
  rcases hm with ⟨rfl, rfl, rfl⟩ | ⟨rfl, rfl, rfl⟩ | ⟨rfl, rfl, rfl⟩
  · exact here (by decide +kernel) ⟨rfl, rfl, rfl, q⟩
  · exact step (by decide +kernel) (here (by decide +kernel) ⟨rfl, rfl, rfl, q⟩)
  · exact step (by decide +kernel) (step (by decide +kernel) (here (by decide +kernel) ⟨rfl, rfl, rfl, q⟩))
def gvE (c f : Str) (v : PyData) : XD := (c, .tuple [.str f, v])
theorem ref_of {c s f : Str} {v : PyData} {Q : AV → Prop} (h : (c, s, f) ∈ tabR) (q : Q (.dat (.list [.str s, v]))) : refQ tabR Q (gvE c f v) := ⟨c, s, f, v, h, rfl, q⟩
theorem ref_lam {N : List Str} {k : Nat} {tb : TEd} {js : List Nat} {env : En} {Q : AV → Prop} {E : XD → Prop} (hk : k ≤ 25) (h : ∀ E2 : XD → Prop, (∀ x, refQ tabR Q x → E2 x) → tb (envL N [] (js.map (capAt env))) (fun a => match a.sd with
  | some _ => Q (.dat (.list [.str "told"]))
  | none => False) E2) : S._law_refused [mkLamR N 0 k tb js env] Q E := ⟨k + 1, _, rfl, by omega, fun E2 h2 => ⟨rfl, h E2 h2⟩⟩

def denR_check_tower : TSd := sSeq (sIf (tCalm (tNotD (tTru (eCall S.is_tower_form (aCons (eVar 0) (aNil)))))) (sSeq (sRaise1 "InvalidTower" "given" (eVar 0)) (sNext)) (sNext)) (sNext)
def R.check_tower : DSp := fun as Q E => ∃ v : PyData, as = [.dat v] ∧ SeqAt.shaped v = true ∧ (towerB v = true → Q (.dat .none)) ∧ (towerB v = false → E (gvE "InvalidTower" "given" v))
theorem R.check_tower_ok : ∀ as Q E, R.check_tower as Q E → mkSp N_check_tower 1 denR_check_tower as Q E := by
  rintro as Q E ⟨v, rfl, h1, h2, h3⟩
  refine ⟨rfl, rfl, ?_⟩
  unfold denR_check_tower N_check_tower
  simp?
  refine ⟨h1, ?_⟩
  simp?
  cases e : towerB v with
  | true =>
    simp?
    exact h2 e
  | false =>
    simp?
    exact h3 e

def denR_hours_number : TSd := sSeq (sDrop (eCallR R.check_tower (aCons (eVar 0) (aNil)))) (sSeq (sCalm (sRet (eCB fLen (rCons (eOp dIx (eVar 0) (eC (.int 1))) (aNil))))) (sNext))
def R.hours_number : DSp := fun as Q E => ∃ t : PyData, as = [.dat t] ∧ SeqAt.shaped t = true ∧ towerB t = false ∧ E (gvE "InvalidTower" "given" t)
theorem R.hours_number_ok : ∀ as Q E, R.hours_number as Q E → mkSp N_hours_number 1 denR_hours_number as Q E := by
  rintro as Q E ⟨t, rfl, h1, h2, h3⟩
  refine ⟨rfl, rfl, ?_⟩
  unfold denR_hours_number N_hours_number
  simp?
  exact ⟨t, rfl, h1, fun z => (by rw [h2] at z; cases z), fun _ => h3⟩

def denR_widths : TSd := sSeq (sDrop (eCallR R.check_tower (aCons (eVar 0) (aNil)))) (sSeq (sCalm (sRet (eCB fTuple (rCons (eCall S.widths_of (aCons (eVar 0) (aNil))) (aNil))))) (sNext))
def R.widths : DSp := fun as Q E => ∃ t : PyData, as = [.dat t] ∧ SeqAt.shaped t = true ∧ towerB t = false ∧ E (gvE "InvalidTower" "given" t)
theorem R.widths_ok : ∀ as Q E, R.widths as Q E → mkSp N_widths 1 denR_widths as Q E := by
  rintro as Q E ⟨t, rfl, h1, h2, h3⟩
  refine ⟨rfl, rfl, ?_⟩
  unfold denR_widths N_widths
  simp?
  exact ⟨t, rfl, h1, fun z => (by rw [h2] at z; cases z), fun _ => h3⟩

def denR_check_number : TSd := sSeq (sIf (tCalm (tNotD (tTru (eCall S.is_number (aCons (eVar 0) (aCons (eVar 1) (aCons (eVar 2) (aNil)))))))) (sSeq (sRaise1 "InvalidNumber" "given" (eVar 0)) (sNext)) (sNext)) (sNext)
def R.check_number : DSp := fun as Q E => ∃ v lo hi : PyData, as = [.dat v, .dat lo, .dat hi] ∧ (optI lo && optI hi) = true ∧ (numB v lo hi = true → Q (.dat .none)) ∧ (numB v lo hi = false → E (gvE "InvalidNumber" "given" v))
theorem R.check_number_ok : ∀ as Q E, R.check_number as Q E → mkSp N_check_number 3 denR_check_number as Q E := by
  rintro as Q E ⟨v, lo, hi, rfl, h1, h2, h3⟩
  refine ⟨rfl, rfl, ?_⟩
  unfold denR_check_number N_check_number
  simp?
  refine ⟨h1, ?_⟩
  simp?
  cases e : numB v lo hi with
  | true =>
    simp?
    exact h2 e
  | false =>
    simp?
    exact h3 e

def denR_with_holds : TSd := sSeq (sDrop (eCallR R.check_tower (aCons (eVar 0) (aNil)))) (sSeq (sDrop (eCallR R.check_number (aCons (eVar 1) (aCons (eC (.int 1)) (aCons (eC (.int 60)) (aNil)))))) (sSeq (sCalm (sRet (eTup (aCons (eVar 1) (aCons (eOp dIx (eVar 0) (eC (.int 1))) (aNil)))))) (sNext)))
/-- a tower's form first -/
def twQ (t : PyData) (q : Int → List Hr → Prop) (E : XD → Prop) : Prop := SeqAt.shaped t = true ∧ (towerB t = false → E (gvE "InvalidTower" "given" t)) ∧ (towerB t = true → ∃ (holds : Int) (hs : List Hr), t = twD holds hs ∧ q holds hs)
def numQ (v lo hi : PyData) (q : Prop) (E : XD → Prop) : Prop := (numB v lo hi = true → q) ∧ (numB v lo hi = false → E (gvE "InvalidNumber" "given" v))
def R.with_holds : DSp := fun as Q E => ∃ t v : PyData, as = [.dat t, .dat v] ∧ twQ t (fun _ _ => numQ v (.int 1) (.int 60) False E) E
theorem R.with_holds_ok : ∀ as Q E, R.with_holds as Q E → mkSp N_with_holds 2 denR_with_holds as Q E := by
  rintro as Q E ⟨t, v, rfl, h1, h2, h3⟩
  refine ⟨rfl, rfl, ?_⟩
  unfold denR_with_holds N_with_holds
  simp?
  refine ⟨t, rfl, h1, fun z => ?_, h2⟩
  obtain ⟨holds, hs, rfl, h4, h5⟩ := h3 z
  simp?
  exact ⟨v, _, _, rfl, rfl, fun y => (h4 y).elim, h5⟩

def denR_check_hour_of : TSd := sSeq (sDrop (eCallR R.check_number (aCons (eVar 1) (aCons (eC (.int 0)) (aCons (eC .none) (aNil)))))) (sSeq (sIf (tCalm (tB (eOp dGe (eVar 1) (eCB fLen (rCons (eOp dIx (eVar 0) (eC (.int 1))) (aNil)))))) (sSeq (sRaise1 "OutOfRange" "given" (eVar 1)) (sNext)) (sNext)) (sNext))
/-- an hour of a tower -/
def hourQ (hs : List Hr) (v : PyData) (q : Nat → Prop) (E : XD → Prop) : Prop := (numB v (.int 0) .none = false → E (gvE "InvalidNumber" "given" v)) ∧ ∀ i : Nat, v = .int (i : Int) → (i < hs.length → q i) ∧ (hs.length ≤ i → E (gvE "OutOfRange" "given" v))
def R.check_hour_of : DSp := fun as Q E => ∃ (holds : Int) (hs : List Hr) (v : PyData), as = [.dat (twD holds hs), .dat v] ∧ hourQ hs v (fun _ => Q (.dat .none)) E
theorem R.check_hour_of_ok : ∀ as Q E, R.check_hour_of as Q E → mkSp N_check_hour_of 2 denR_check_hour_of as Q E := by
  rintro as Q E ⟨holds, hs, v, rfl, h2, h3⟩
  refine ⟨rfl, rfl, ?_⟩
  unfold denR_check_hour_of N_check_hour_of
  simp?
  refine ⟨v, .int 0, .none, rfl, rfl, fun e => ?_, h2⟩
  obtain ⟨i, rfl⟩ := numB_int e
  have i0 : 0 ≤ i := by
    have e : (decide (0 ≤ i) && true) = true := e
    rw [Bool.and_true] at e
    exact of_decide_eq_true e
  obtain ⟨j, rfl⟩ : ∃ j : Nat, i = (j : Int) := ⟨i.toNat, by omega⟩
  obtain ⟨h4, h5⟩ := h3 j rfl
  simp? [tw_1, List.length_map]
  refine br_dec (fun c => ?_) (fun c => ?_)
  · simp?
    exact h5 (by omega)
  · simp?
    exact h4 (by omega)

def denR_with_hour : TSd := sSeq (sDrop (eCallR R.check_tower (aCons (eVar 0) (aNil)))) (sSeq (sDrop (eCallR R.check_hour_of (aCons (eVar 0) (aCons (eVar 1) (aNil))))) (sSeq (sDrop (eCallR R.check_number (aCons (eVar 2) (aCons (eC (.int 0)) (aCons (eC (.int 30)) (aNil)))))) (sSeq (sDrop (eCallR R.check_number (aCons (eVar 3) (aCons (eVar 2) (aCons (eC (.int 30)) (aNil)))))) (sSeq (sDrop (eCallR R.check_number (aCons (eVar 4) (aCons (eC (.int 0)) (aCons (eC (.int 30)) (aNil)))))) (sSeq (sCalm (sRet (eCall S.tower_with (aCons (eVar 0) (aCons (eVar 1) (aCons (eTup (aCons (eVar 2) (aCons (eVar 3) (aCons (eVar 4) (aNil))))) (aNil))))))) (sNext))))))
def R.with_hour : DSp := fun as Q E => ∃ t v a b c : PyData, as = [.dat t, .dat v, .dat a, .dat b, .dat c] ∧ twQ t (fun _ hs => hourQ hs v (fun _ => numQ a (.int 0) (.int 30) (numQ b a (.int 30) (numQ c (.int 0) (.int 30) False E) E) E) E) E
theorem R.with_hour_ok : ∀ as Q E, R.with_hour as Q E → mkSp N_with_hour 5 denR_with_hour as Q E := by
  rintro as Q E ⟨t, v, a, b, c, rfl, h1, h2, h3⟩
  refine ⟨rfl, rfl, ?_⟩
  unfold denR_with_hour N_with_hour
  simp?
  refine ⟨t, rfl, h1, fun z => ?_, h2⟩
  obtain ⟨holds, hs, rfl, h4, h5⟩ := h3 z
  simp?
  refine ⟨holds, hs, v, rfl, h4, fun i e => ⟨fun hi => ?_, (h5 i e).2⟩⟩
  obtain ⟨h6, h7⟩ := (h5 i e).1 hi
  simp?
  refine ⟨a, _, _, rfl, rfl, fun y => ?_, h7⟩
  obtain ⟨h8, h9⟩ := h6 y
  obtain ⟨ia, rfl⟩ := numB_int y
  simp?
  refine ⟨b, _, _, rfl, rfl, fun y => ?_, h9⟩
  obtain ⟨h10, h11⟩ := h8 y
  simp?
  exact ⟨c, _, _, rfl, rfl, fun y => (h10 y).elim, h11⟩

def N__law_right : List Str := ["well", "turn", "tower", "holds", "hours", "due", "had", "number", "at", "least", "pump", "most", "none", "bad", "odd", "high"]
def den__law_right : TSd := sSeq (sFor (iRg1 (aCons (eC (.int 8)) (aNil))) (.nm 1) (sSeq (sSetF 2 (eCall S._law_tower (aCons (eVar 0) (aCons (eC (.int 12)) (aCons (eCall S._law_of (aCons (eVar 0) (aCons (eTup (aCons (eC (.int 3)) (aCons (eC (.int 28)) (aNil)))) (aNil)))) (aNil)))))) (sSeq (sUnp (.tp [3, 4]) (eVar 2)) (sSeq (sSetF 5 (eCB fTuple (rCons (eLc (iSeq (eVar 4)) (.tp [9, 11, 10]) (tYesD) (eOp dSub (eVar 11) (eVar 9)) [9, 11, 10]) (aNil)))) (sSeq (sSet 6 (eLst (aCons (eCall S.hours_number (aCons (eVar 2) (aNil))) (aCons (eCallK S.hours_number ["tower"] ["tower"] (aCons (eVar 2) (aNil))) (aCons (eCall S.widths (aCons (eVar 2) (aNil))) (aCons (eCallK S.widths ["tower"] ["tower"] (aCons (eVar 2) (aNil))) (aNil))))))) (sSeq (sFrz [6] (sIf (tNotD (tTru (eCall S._law_is (aCons (eVar 6) (aCons (eOp dAdd (eRep (eLst (aCons (eCB fLen (rCons (eVar 4) (aNil))) (aNil))) (eC (.int 2))) (eRep (eLst (aCons (eVar 5) (aNil))) (eC (.int 2)))) (aNil)))))) (sSeq (sRet (eC (.bool false))) (sNext)) (sNext))) (sSeq (sSetF 7 (eCall S._law_of (aCons (eVar 0) (aCons (eTup (aCons (eC (.int 1)) (aCons (eC (.int 60)) (aCons (eOp dAdd (eC (.int 1)) (eCall S._law_draw (aCons (eVar 0) (aCons (eC (.int 60)) (aNil))))) (aNil))))) (aNil))))) (sSeq (sIf (tNotD (tTru (eCall S._law_is (aCons (eLst (aCons (eCall S.with_holds (aCons (eVar 2) (aCons (eVar 7) (aNil)))) (aCons (eCallK S.with_holds ["holds", "tower"] ["tower", "holds"] (aCons (eVar 7) (aCons (eVar 2) (aNil)))) (aNil)))) (aCons (eRep (eLst (aCons (eTup (aCons (eVar 7) (aCons (eVar 4) (aNil)))) (aNil))) (eC (.int 2))) (aNil)))))) (sSeq (sRet (eC (.bool false))) (sNext)) (sNext)) (sSeq (sUnp (.tp [8, 9, 10]) (eTup (aCons (eCall S._law_draw (aCons (eVar 0) (aCons (eCB fLen (rCons (eVar 4) (aNil))) (aNil)))) (aCons (eCall S._law_draw (aCons (eVar 0) (aCons (eC (.int 31)) (aNil)))) (aCons (eCall S._law_draw (aCons (eVar 0) (aCons (eC (.int 31)) (aNil)))) (aNil)))))) (sSeq (sSetF 11 (eOp dAdd (eVar 9) (eCall S._law_draw (aCons (eVar 0) (aCons (eOp dSub (eC (.int 31)) (eVar 9)) (aNil)))))) (sSeq (sSetF 5 (eTup (aCons (eVar 3) (aCons (eOp dAdd (eOp dAdd (eSl (eVar 4) (oNone) (oSome (eVar 8))) (eTup (aCons (eTup (aCons (eVar 9) (aCons (eVar 11) (aCons (eVar 10) (aNil))))) (aNil)))) (eSl (eVar 4) (oSome (eOp dAdd (eVar 8) (eC (.int 1)))) (oNone))) (aNil))))) (sSeq (sSet 6 (eLst (aCons (eCall S.with_hour (aCons (eVar 2) (aCons (eVar 8) (aCons (eVar 9) (aCons (eVar 11) (aCons (eVar 10) (aNil))))))) (aCons (eCall S.is_tower (aCons (eVar 5) (aNil))) (aNil))))) (sSeq (sApp 6 (eCallK S.with_hour ["pump", "most", "least", "hour", "tower"] ["tower", "hour", "least", "most", "pump"] (aCons (eVar 10) (aCons (eVar 11) (aCons (eVar 9) (aCons (eVar 8) (aCons (eVar 2) (aNil)))))))) (sSeq (sFrz [6] (sIf (tNotD (tTru (eCall S._law_is (aCons (eVar 6) (aCons (eLst (aCons (eVar 5) (aCons (eC (.bool true)) (aCons (eVar 5) (aNil))))) (aNil)))))) (sSeq (sRet (eC (.bool false))) (sNext)) (sNext))) (sSeq (sUnp (.tp [12, 13]) (eTup (aCons (eCall S._law_no_tower (aCons (eVar 0) (aCons (eVar 2) (aNil)))) (aCons (eCall S._law_of (aCons (eVar 0) (aCons (eTup (aCons (eNeg (eC (.int 1))) (aCons (eC (.int 31)) (aCons (eC (.bool true)) (aCons (eC .none) (aCons (eC (.str "1")) (aNil))))))) (aNil)))) (aNil))))) (sSeq (sUnp (.tp [14, 15]) (eTup (aCons (eCall S._law_of (aCons (eVar 0) (aCons (eTup (aCons (eC (.int 0)) (aCons (eC (.int 61)) (aCons (eNeg (eC (.int 1))) (aCons (eC (.bool true)) (aCons (eC .none) (aNil))))))) (aNil)))) (aCons (eCall S._law_of (aCons (eVar 0) (aCons (eTup (aCons (eNeg (eC (.int 1))) (aCons (eC (.bool true)) (aCons (eC .none) (aCons (eC (.str "0")) (aNil)))))) (aNil)))) (aNil))))) (sSeq (sSet 6 (eLst (aCons (eCallL S._law_refused (mkLamR ["none"] 0 25 (eCallR R.hours_number (aCons (eVar 0) (aNil))) [12]) aNil) (aNil)))) (sSeq (sApp 6 (eCallL S._law_refused (mkLamR ["none"] 0 25 (eCallR R.widths (aCons (eVar 0) (aNil))) [12]) aNil)) (sSeq (sApp 6 (eCallL S._law_refused (mkLamR ["none", "odd"] 0 25 (eCallR R.with_holds (aCons (eVar 0) (aCons (eVar 1) (aNil)))) [12, 14]) aNil)) (sSeq (sApp 6 (eCallL S._law_refused (mkLamR ["bad", "high", "none"] 0 25 (eCallKR R.with_hour ["pump", "most", "least", "hour", "tower"] ["tower", "hour", "least", "most", "pump"] (aCons (eVar 0) (aCons (eVar 0) (aCons (eVar 0) (aCons (eVar 1) (aCons (eVar 2) (aNil))))))) [13, 15, 12]) aNil)) (sSeq (sApp 6 (eCallL S._law_refused (mkLamR ["tower", "odd"] 0 25 (eCallR R.with_holds (aCons (eVar 0) (aCons (eVar 1) (aNil)))) [2, 14]) aNil)) (sSeq (sApp 6 (eCallL S._law_refused (mkLamR ["tower", "high", "bad"] 0 25 (eCallR R.with_hour (aCons (eVar 0) (aCons (eVar 1) (aCons (eVar 2) (aCons (eVar 2) (aCons (eVar 2) (aNil))))))) [2, 15, 13]) aNil)) (sSeq (sApp 6 (eCallL S._law_refused (mkLamR ["tower", "bad", "hours"] 0 25 (eCallR R.with_hour (aCons (eVar 0) (aCons (eCB fLen (rCons (eVar 2) (aNil))) (aCons (eVar 1) (aCons (eVar 1) (aCons (eVar 1) (aNil))))))) [2, 13, 4]) aNil)) (sSeq (sApp 6 (eCallL S._law_refused (mkLamR ["tower", "at", "bad"] 0 25 (eCallR R.with_hour (aCons (eVar 0) (aCons (eVar 1) (aCons (eVar 2) (aCons (eC (.int 5)) (aCons (eC (.int 5)) (aNil))))))) [2, 8, 13]) aNil)) (sSeq (sApp 6 (eCallL S._law_refused (mkLamR ["tower", "at", "bad"] 0 25 (eCallR R.with_hour (aCons (eVar 0) (aCons (eVar 1) (aCons (eC (.int 5)) (aCons (eVar 2) (aCons (eVar 2) (aNil))))))) [2, 8, 13]) aNil)) (sSeq (sApp 6 (eCallL S._law_refused (mkLamR ["tower", "at", "bad"] 0 25 (eCallR R.with_hour (aCons (eVar 0) (aCons (eVar 1) (aCons (eC (.int 5)) (aCons (eC (.int 4)) (aCons (eVar 2) (aNil))))))) [2, 8, 13]) aNil)) (sSeq (sApp 6 (eCallL S._law_refused (mkLamR ["bad", "at", "tower"] 0 25 (eCallKR R.with_hour ["pump", "most", "least", "hour", "tower"] ["tower", "hour", "least", "most", "pump"] (aCons (eVar 0) (aCons (eC (.int 5)) (aCons (eC (.int 5)) (aCons (eVar 1) (aCons (eVar 2) (aNil))))))) [13, 8, 2]) aNil)) (sSeq (sSetF 5 (eOp dAdd (eRep (eLst (aCons (eLst (aCons (eC (.str "tower")) (aCons (eVar 12) (aNil)))) (aNil))) (eC (.int 4))) (eLst (aCons (eLst (aCons (eC (.str "number")) (aCons (eVar 14) (aNil)))) (aCons (eLst (aCons (eC (.str "number")) (aCons (eVar 15) (aNil)))) (aCons (eLst (aCons (eC (.str "range")) (aCons (eCB fLen (rCons (eVar 4) (aNil))) (aNil)))) (aNil))))))) (sSeq (sFrz [6] (sIf (tNotD (tTru (eCall S._law_is (aCons (eVar 6) (aCons (eOp dAdd (eOp dAdd (eVar 5) (eRep (eLst (aCons (eLst (aCons (eC (.str "number")) (aCons (eVar 13) (aNil)))) (aNil))) (eC (.int 2)))) (eLst (aCons (eLst (aCons (eC (.str "number")) (aCons (eC (.int 4)) (aNil)))) (aCons (eLst (aCons (eC (.str "number")) (aCons (eVar 13) (aNil)))) (aNil))))) (aNil)))))) (sSeq (sRet (eC (.bool false))) (sNext)) (sNext))) (sNext)))))))))))))))))))))))))))))) (sSeq (sRet (eC (.bool true))) (sNext))
theorem kw_with_hour (v0 v1 v2 v3 v4 : AV) : kwPick ["pump", "most", "least", "hour", "tower"] ["tower", "hour", "least", "most", "pump"] [v4, v3, v2, v1, v0] = some [v0, v1, v2, v3, v4] := by rfl
theorem kw_with_holds (v0 v1 : AV) : kwPick ["holds", "tower"] ["tower", "holds"] [v1, v0] = some [v0, v1] := by rfl
theorem kw_widths (v0 : AV) : kwPick ["tower"] ["tower"] [v0] = some [v0] := by rfl
theorem kw_hours_number (v0 : AV) : kwPick ["tower"] ["tower"] [v0] = some [v0] := by rfl
theorem tw_no {t : PyData} {q : Int → List Hr → Prop} {E : XD → Prop} (h : noTw t) (e : E (gvE "InvalidTower" "given" t)) : twQ t q E := ⟨fit_shaped h.1 (by decide), fun _ => e, fun z => (by rw [h.2] at z; cases z)⟩
theorem tw_yes {holds : Int} {hs : List Hr} {q : Int → List Hr → Prop} {E : XD → Prop} (g : goodT holds hs) (h : q holds hs) : twQ (twD holds hs) q E := ⟨(goodT_ok g).1, fun z => (by rw [(goodT_ok g).2] at z; cases z), fun _ => ⟨holds, hs, rfl, h⟩⟩
theorem nu_no {v lo hi : PyData} {q : Prop} {E : XD → Prop} (h : numB v lo hi = false) (e : E (gvE "InvalidNumber" "given" v)) : numQ v lo hi q E := ⟨fun z => (by rw [h] at z; cases z), fun _ => e⟩
theorem nu_yes {v lo hi : PyData} {q : Prop} {E : XD → Prop} (h : numB v lo hi = true) (e : q) : numQ v lo hi q E := ⟨fun _ => e, fun z => (by rw [h] at z; cases z)⟩
theorem ho_no {hs : List Hr} {v : PyData} {q : Nat → Prop} {E : XD → Prop} (h : numB v (.int 0) .none = false) (e : E (gvE "InvalidNumber" "given" v)) : hourQ hs v q E := ⟨fun _ => e, fun i z => by
  subst z
  have : (decide (0 ≤ (i : Int)) && true) = false := h
  rw [decide_eq_true (by omega)] at this
  cases this⟩
theorem ho_at {hs : List Hr} {j : Nat} {q : Nat → Prop} {E : XD → Prop} (h : j < hs.length) (e : q j) : hourQ hs (.int (j : Int)) q E := ⟨fun z => (by
  have : (decide (0 ≤ (j : Int)) && true) = false := z
  rw [decide_eq_true (by omega)] at this
  cases this), fun i z => (by
  have z : (j : Int) = (i : Int) := by cases z; rfl
  obtain rfl : j = i := by omega
  exact ⟨fun _ => e, fun z => by omega⟩)⟩
theorem ho_out {hs : List Hr} {q : Nat → Prop} {E : XD → Prop} (e : E (gvE "OutOfRange" "given" (.int (hs.length : Int)))) : hourQ hs (.int (hs.length : Int)) q E := ⟨fun z => (by
  have : (decide (0 ≤ (hs.length : Int)) && true) = false := z
  rw [decide_eq_true (by omega)] at this
  cases this), fun i z => (by
  have z : (hs.length : Int) = (i : Int) := by cases z; rfl
  exact ⟨fun h => by omega, fun _ => e⟩)⟩
def S._law_right : DSp := fun as Q _ => as = [.well] ∧ Q (.dat (.bool true))
theorem S._law_right_ok : ∀ as Q E, S._law_right as Q E → mkSp N__law_right 1 den__law_right as Q E := by
  rintro as Q E ⟨rfl, h⟩
  refine ⟨rfl, rfl, ?_⟩
  unfold den__law_right N__law_right
  simp?
  refine ⟨by decide, ?_⟩
  refine for_inv (P := fun env => ∃ e1 e2 e3 e4 e5 e6 e7 e8 e9 e10 e11 e12 e13 e14 e15, env = [some (.av .well), e1, e2, e3, e4, e5, e6, e7, e8, e9, e10, e11, e12, e13, e14, e15]) (fun env hP => ?_) _ _ ⟨_, _, _, _, _, _, _, _, _, _, _, _, _, _, _, rfl⟩ (fun d hd env hP => ?_)
  · obtain ⟨e1, e2, e3, e4, e5, e6, e7, e8, e9, e10, e11, e12, e13, e14, e15, rfl⟩ := hP
    simp?
    exact h
  obtain ⟨e1, e2, e3, e4, e5, e6, e7, e8, e9, e10, e11, e12, e13, e14, e15, rfl⟩ := hP
  refine ⟨_, rfl, fun D' hrt hnx => ?_⟩
  simp? [setE]
  refine ⟨_, .inl rfl, by simp, by simp, fun d2 hd2 => ?_⟩
  obtain ⟨hi, rfl, hhi⟩ : ∃ v : Int, d2 = .int v ∧ (v = 3 ∨ v = 28) := by
    simp only [List.mem_cons, List.not_mem_nil, or_false] at hd2
    rcases hd2 with rfl | rfl <;> exact ⟨_, rfl, by omega⟩
  simp?
  refine ⟨12, hi, rfl, by omega, by omega, by omega, by omega, fun holds hs g hl _ => ?_⟩
  obtain ⟨g1, g2, g3, g4, g5⟩ := id g
  simp? [tw_u]
  refine comp_all hrD (fun x => .int (wd x)) _ (fun x hx => ⟨_, rfl, fun Q' q => ?_⟩) ?_
  · exact q
  simp?
  have mw : hs.map (fun x => PyData.int (wd x)) = (hs.map wd).map PyData.int := by rw [List.map_map]; rfl
  rw [mw]
  refine ⟨holds, hs, rfl, g, ?_⟩
  simp? [kw_hours_number]
  refine ⟨holds, hs, rfl, g, ?_⟩
  simp?
  refine ⟨holds, hs, rfl, g, ?_⟩
  simp? [kw_widths]
  refine ⟨holds, hs, rfl, g, ?_⟩
  simp? [List.length_map]
  have fi0 : ∀ i : Int, -1000 ≤ i → i ≤ 1000 → fit 0 0 (.int i) := fun i a b => fit_i (by omega) (by omega)
  have fwd : fit 12 1 (.tuple ((hs.map wd).map PyData.int)) := fit_ints (fun x hx => by
    obtain ⟨y, hy, rfl⟩ := List.mem_map.mp hx
    have := g5 y hy
    unfold wd
    omega) (by rw [List.length_map]; exact g4)
  refine ⟨⟨by omega, by omega, by decide⟩, ⟨by omega, by omega, by decide⟩, (show (4 : Nat) ≤ 16777216 by decide), ?_⟩
  refine is_same (a := .list [.int (hs.length : Int), .int (hs.length : Int), .tuple ((hs.map wd).map PyData.int), .tuple ((hs.map wd).map PyData.int)]) (fit_show (fit_lst (n := 12) (d := 1) (m := 4) (fun x hx => ?_) (Nat.le_refl 4)) (by omega) (by omega)) ?_
  · have f1 : fit 12 1 (.int (hs.length : Int)) := fit_up (fi0 _ (by omega) (by omega)) (by omega) (by omega)
    simp only [List.mem_cons, List.not_mem_nil, or_false] at hx
    rcases hx with rfl | rfl | rfl | rfl
    · exact f1
    · exact f1
    · exact fwd
    · exact fwd
  simp?
  refine ⟨60, rfl, by omega, by omega, fun u u0 u1 => ?_⟩
  simp?
  refine ⟨_, .inl rfl, by simp, by simp, fun d2 hd2 => ?_⟩
  obtain ⟨nu, rfl, nu0, nu1⟩ : ∃ v : Int, d2 = .int v ∧ 1 ≤ v ∧ v ≤ 60 := by
    simp only [List.mem_cons, List.not_mem_nil, or_false] at hd2
    rcases hd2 with rfl | rfl | rfl <;> exact ⟨_, rfl, by omega, by omega⟩
  simp?
  refine ⟨holds, hs, nu, rfl, g, nu0, nu1, ?_⟩
  simp? [kw_with_holds]
  refine ⟨holds, hs, nu, rfl, g, nu0, nu1, ?_⟩
  have fh := (fit_hours g5 (m := 12) g4).1
  have fi : ∀ i : Int, -1000 ≤ i → i ≤ 1000 → fit 48 2 (.int i) := fun i a b => fit_up (fit_i (by omega) (by omega)) (by omega) (by omega)
  have ft : ∀ n : Int, 0 ≤ n → n ≤ 100 → fit 98 3 (twD n hs) := fun n a b => (fit_two (fi n (by omega) (by omega)) fh).1
  simp?
  refine ⟨⟨by omega, by omega, by decide⟩, ?_⟩
  refine is_same (a := .list [twD nu hs, twD nu hs]) (fit_show (fit_two (ft nu (by omega) (by omega)) (ft nu (by omega) (by omega))).2 (by omega) (by omega)) ?_
  simp? [List.length_map]
  refine ⟨(hs.length : Int), rfl, by have := List.length_pos_iff.mpr g3; omega, by omega, fun iat a0 a1 => ?_⟩
  obtain ⟨k, rfl⟩ : ∃ j : Nat, iat = (j : Int) := ⟨iat.toNat, by omega⟩
  have hk : k < hs.length := by omega
  simp?
  refine ⟨31, rfl, by omega, by omega, fun lo l0 l1 => ?_⟩
  simp?
  refine ⟨31, rfl, by omega, by omega, fun pu p0 p1 => ?_⟩
  simp?
  refine ⟨31 - lo, rfl, by omega, by omega, fun mo m0 m1 => ?_⟩
  simp?
  obtain ⟨x, hx⟩ : ∃ x : Hr, x = ⟨lo, lo + mo, pu⟩ := ⟨_, rfl⟩
  have ex : PyData.tuple [.int lo, .int (lo + mo), .int pu] = hrD x := by rw [hx]; rfl
  have gx : 0 ≤ x.lo ∧ x.lo ≤ x.most ∧ x.most ≤ 30 ∧ 0 ≤ x.pump ∧ x.pump ≤ 30 := by
    rw [hx]
    dsimp only
    omega
  have gs : goodT holds (hs.set k x) := ⟨g1, g2, fun z => (by
    have := congrArg List.length z
    rw [List.length_set] at this
    exact g3 (List.length_eq_zero_iff.mp this)), by rw [List.length_set]; exact g4, fun h hh => by
    rcases List.mem_or_eq_of_mem_set hh with hh | rfl
    · exact g5 h hh
    · exact gx⟩
  have cl1 := cut_len (hs := hs) (a := none) (b := some (k : Int))
  have cl2 := cut_len (hs := hs) (a := some ((k : Int) + 1)) (b := none)
  refine ⟨by omega, by simp; omega, ?_⟩
  rw [ex, cut_set x hk]
  have wh : ∀ (Q : AV → Prop), Q (.dat (twD holds (hs.set k x))) → S.with_hour [.dat (twD holds hs), .dat (.int (k : Int)), .dat (.int lo), .dat (.int (lo + mo)), .dat (.int pu)] Q E := fun Q q => ⟨holds, hs, k, x, by rw [hx], g, hk, gx, q⟩
  refine wh _ ?_
  simp?
  refine ⟨_, rfl, (goodT_ok gs).1, ?_⟩
  have et : towerB (.tuple [.int holds, .tuple ((hs.set k x).map hrD)]) = true := (goodT_ok gs).2
  rw [et]
  simp? [kw_with_hour]
  refine wh _ ?_
  simp?
  refine ⟨by simp, ?_⟩
  refine is_same (a := .list [twD holds (hs.set k x), .bool true, twD holds (hs.set k x)]) (fit_show (fit_three (n := 98) (d := 3) (fit_two (fi holds (by omega) (by omega)) (fit_hours gs.2.2.2.2 (m := 12) gs.2.2.2.1).1).1 (fit_up fit_bool (by omega) (by omega)) (fit_two (fi holds (by omega) (by omega)) (fit_hours gs.2.2.2.2 (m := 12) gs.2.2.2.1).1).1).2 (by omega) (by omega)) ?_
  simp?
  refine ⟨holds, hs, rfl, g, fun nt hnt => ?_⟩
  have f10 : ∀ {x}, fit 0 0 x → fit 1 0 x := fun h => fit_up h (by omega) (by omega)
  have fs0 : fit 1 0 (.str "0") := ⟨⟨by decide, by decide, by decide⟩, by show PyData.canLay0 _ = true; decide +kernel⟩
  have fs1 : fit 1 0 (.str "1") := ⟨⟨by decide, by decide, by decide⟩, by show PyData.canLay0 _ = true; decide +kernel⟩
  simp?
  refine ⟨_, .inl rfl, by simp, by simp, fun bad hbad => ?_⟩
  have hb : fit 1 0 bad ∧ (∀ l : Int, 0 ≤ l → numB bad (.int l) (.int 30) = false) := by
    simp only [List.mem_cons, List.not_mem_nil, or_false] at hbad
    rcases hbad with rfl | rfl | rfl | rfl | rfl
    · refine ⟨f10 (fit_i (by omega) (by omega)), fun l hl => ?_⟩
      show (decide (l ≤ -1) && _) = false
      rw [decide_eq_false (by omega), Bool.false_and]
    · refine ⟨f10 (fit_i (by omega) (by omega)), fun l hl => ?_⟩
      show (decide (l ≤ 31) && decide ((31 : Int) ≤ 30)) = false
      rw [decide_eq_false (by omega : ¬ (31 : Int) ≤ 30), Bool.and_false]
    · exact ⟨f10 fit_bool, fun l hl => rfl⟩
    · exact ⟨f10 fit_none, fun l hl => rfl⟩
    · exact ⟨fs1, fun l hl => rfl⟩
  simp?
  refine ⟨_, .inl rfl, by simp, by simp, fun odd hodd => ?_⟩
  have ho : fit 1 0 odd ∧ numB odd (.int 1) (.int 60) = false := by
    simp only [List.mem_cons, List.not_mem_nil, or_false] at hodd
    rcases hodd with rfl | rfl | rfl | rfl | rfl
    · exact ⟨f10 (fit_i (by omega) (by omega)), rfl⟩
    · exact ⟨f10 (fit_i (by omega) (by omega)), rfl⟩
    · exact ⟨f10 (fit_i (by omega) (by omega)), rfl⟩
    · exact ⟨f10 fit_bool, rfl⟩
    · exact ⟨f10 fit_none, rfl⟩
  simp?
  refine ⟨_, .inl rfl, by simp, by simp, fun high hhigh => ?_⟩
  have hh : fit 1 0 high ∧ numB high (.int 0) .none = false := by
    simp only [List.mem_cons, List.not_mem_nil, or_false] at hhigh
    rcases hhigh with rfl | rfl | rfl | rfl
    · exact ⟨f10 (fit_i (by omega) (by omega)), rfl⟩
    · exact ⟨f10 fit_bool, rfl⟩
    · exact ⟨f10 fit_none, rfl⟩
    · exact ⟨fs0, rfl⟩
  simp?
  refine ref_lam (by decide) fun E2 h2 => ?_
  change R.hours_number [.dat nt] (fun _ => True) E2
  refine ⟨_, rfl, fit_shaped hnt.1 (by decide), hnt.2, (h2 _ (ref_of (s := "tower") (by simp [tabR]) ?_))⟩
  simp?
  refine ref_lam (by decide) fun E2 h2 => ?_
  change R.widths [.dat nt] (fun _ => True) E2
  refine ⟨_, rfl, fit_shaped hnt.1 (by decide), hnt.2, (h2 _ (ref_of (s := "tower") (by simp [tabR]) ?_))⟩
  simp?
  refine ⟨by simp, ?_⟩
  refine ref_lam (by decide) fun E2 h2 => ?_
  change R.with_holds [.dat nt, .dat odd] (fun _ => True) E2
  refine ⟨_, _, rfl, tw_no hnt (h2 _ (ref_of (s := "tower") (by simp [tabR]) ?_))⟩
  simp?
  refine ⟨by simp, ?_⟩
  refine ref_lam (by decide) fun E2 h2 => ?_
  change R.with_hour [.dat nt, .dat high, .dat bad, .dat bad, .dat bad] (fun _ => True) E2
  refine ⟨_, _, _, _, _, rfl, tw_no hnt (h2 _ (ref_of (s := "tower") (by simp [tabR]) ?_))⟩
  simp?
  refine ⟨by simp, ?_⟩
  refine ref_lam (by decide) fun E2 h2 => ?_
  change R.with_holds [.dat (twD holds hs), .dat odd] (fun _ => True) E2
  refine ⟨_, _, rfl, tw_yes g (nu_no ho.2 (h2 _ (ref_of (s := "number") (by simp [tabR]) ?_)))⟩
  simp?
  refine ⟨by simp, ?_⟩
  refine ref_lam (by decide) fun E2 h2 => ?_
  change R.with_hour [.dat (twD holds hs), .dat high, .dat bad, .dat bad, .dat bad] (fun _ => True) E2
  refine ⟨_, _, _, _, _, rfl, tw_yes g (ho_no hh.2 (h2 _ (ref_of (s := "number") (by simp [tabR]) ?_)))⟩
  simp?
  refine ⟨by simp, ?_⟩
  refine ref_lam (by decide) fun E2 h2 => ?_
  change R.with_hour [.dat (twD holds hs), .dat (.int ((hs.map hrD).length : Int)), .dat bad, .dat bad, .dat bad] (fun _ => True) E2
  rw [List.length_map]
  refine ⟨_, _, _, _, _, rfl, tw_yes g (ho_out (h2 _ (ref_of (s := "range") (by simp [tabR]) ?_)))⟩
  simp?
  refine ⟨by simp, ?_⟩
  refine ref_lam (by decide) fun E2 h2 => ?_
  change R.with_hour [.dat (twD holds hs), .dat (.int (k : Int)), .dat bad, .dat (.int 5), .dat (.int 5)] (fun _ => True) E2
  refine ⟨_, _, _, _, _, rfl, tw_yes g (ho_at hk (nu_no (hb.2 0 (by omega)) (h2 _ (ref_of (s := "number") (by simp [tabR]) ?_))))⟩
  simp?
  refine ⟨by simp, ?_⟩
  refine ref_lam (by decide) fun E2 h2 => ?_
  change R.with_hour [.dat (twD holds hs), .dat (.int (k : Int)), .dat (.int 5), .dat bad, .dat bad] (fun _ => True) E2
  refine ⟨_, _, _, _, _, rfl, tw_yes g (ho_at hk (nu_yes rfl (nu_no (hb.2 5 (by omega)) (h2 _ (ref_of (s := "number") (by simp [tabR]) ?_)))))⟩
  simp?
  refine ⟨by simp, ?_⟩
  refine ref_lam (by decide) fun E2 h2 => ?_
  change R.with_hour [.dat (twD holds hs), .dat (.int (k : Int)), .dat (.int 5), .dat (.int 4), .dat bad] (fun _ => True) E2
  refine ⟨_, _, _, _, _, rfl, tw_yes g (ho_at hk (nu_yes rfl (nu_no rfl (h2 _ (ref_of (s := "number") (by simp [tabR]) ?_)))))⟩
  simp?
  refine ⟨by simp, ?_⟩
  refine ref_lam (by decide) fun E2 h2 => ?_
  change R.with_hour [.dat (twD holds hs), .dat (.int (k : Int)), .dat (.int 5), .dat (.int 5), .dat bad] (fun _ => True) E2
  refine ⟨_, _, _, _, _, rfl, tw_yes g (ho_at hk (nu_yes rfl (nu_yes rfl (nu_no (hb.2 0 (by omega)) (h2 _ (ref_of (s := "number") (by simp [tabR]) ?_))))))⟩
  simp?
  rw [List.length_map]
  have fN : ∀ v, fit 1 0 v → fit 402 6 (.list [.str "number", v]) := fun v fv => fit_up (fit_two (n := 10) (d := 0) ⟨⟨by decide, by decide, by decide⟩, by show PyData.canLay0 _ = true; decide +kernel⟩ (fit_up fv (by omega) (Nat.le_refl _))).2 (by omega) (by omega)
  have fR : fit 402 6 (.list [.str "range", .int (hs.length : Int)]) := fit_up (fit_two (n := 10) (d := 0) ⟨⟨by decide, by decide, by decide⟩, by show PyData.canLay0 _ = true; decide +kernel⟩ (fit_up (fi0 _ (by omega) (by omega)) (by omega) (Nat.le_refl _))).2 (by omega) (by omega)
  have fT : fit 402 6 (.list [.str "tower", nt]) := fit_up (fit_two (n := 200) (d := 5) (fit_up (n := 10) (d := 0) ⟨⟨by decide, by decide, by decide⟩, by show PyData.canLay0 _ = true; decide +kernel⟩ (by omega) (by omega)) hnt.1).2 (by omega) (by omega)
  refine ⟨by decide, ⟨by omega, by omega, by decide⟩, (show (7 : Nat) ≤ 16777216 by decide), ⟨by omega, by omega, by decide⟩, (show (9 : Nat) ≤ 16777216 by decide), (show (11 : Nat) ≤ 16777216 by decide), ?_⟩
  refine is_same (a := .list [.list [.str "tower", nt], .list [.str "tower", nt], .list [.str "tower", nt], .list [.str "tower", nt], .list [.str "number", odd], .list [.str "number", high], .list [.str "range", .int (hs.length : Int)], .list [.str "number", bad], .list [.str "number", bad], .list [.str "number", .int 4], .list [.str "number", bad]]) (fit_show (fit_lst (n := 402) (d := 6) (m := 11) (fun x hx => ?_) (by simp)) (by omega) (by omega)) ?_
  · simp only [List.mem_cons, List.not_mem_nil, or_false] at hx
    rcases hx with rfl | rfl | rfl | rfl | rfl | rfl | rfl | rfl | rfl | rfl | rfl
    · exact fT
    · exact fT
    · exact fT
    · exact fT
    · exact fN _ ho.1
    · exact fN _ hh.1
    · exact fR
    · exact fN _ hb.1
    · exact fN _ hb.1
    · exact fN _ (f10 (fi0 _ (by omega) (by omega)))
    · exact fN _ hb.1
  simp?
  exact hnx _ ⟨_, _, _, _, _, _, _, _, _, _, _, _, _, _, _, rfl⟩

def N_law : List Str := ["script", "lap"]
def den_law : TSd := sSeq (sRet (eCB fAll (rCons (eLc (iRg1 (aCons (eCB fMax (rCons (eC (.int 1)) (rCons (eCB fMin (rCons (eCB fLen (rCons (eVar 0) (aNil))) (rCons (eC (.int 3)) (aNil)))) (aNil)))) (aNil))) (.nm 1) (tYesD) (eCall S._law_right (aCons (eCall S._law_well (aCons (eVar 0) (aCons (eVar 1) (aNil)))) (aNil))) [1]) (aNil)))) (sNext)
def S.law : DSp := fun as Q _ => ∃ ns : List Int, as = [.dat (.list (ns.map PyData.int))] ∧ ns.length ≤ 63 ∧ Q (.dat (.bool true))
theorem all_true : ∀ n : Nat, boolsD ((List.range n).map fun (_ : Nat) => PyData.bool true) = some (List.replicate n true) := by
  intro n
  rw [List.map_const', List.length_range]
  induction n with
  | zero => rfl
  | succ n ih =>
    show (boolsD (List.replicate n (PyData.bool true))).map (true :: ·) = _
    rw [ih]
    rfl
theorem S.law_ok : ∀ as Q E, S.law as Q E → mkSp N_law 1 den_law as Q E := by
  rintro as Q E ⟨ns, rfl, hl, h⟩
  refine ⟨rfl, rfl, ?_⟩
  unfold den_law N_law
  simp?
  refine ⟨okRg (by omega) (by omega) (by omega) (by omega), ?_⟩
  rw [rngD_nat]
  refine comp_all (fun (j : Nat) => .int (j : Int)) (fun _ => .bool true) _ (fun j _ => ⟨_, rfl, fun Q' q => ⟨ns, j, rfl, hl, rfl, q⟩⟩) ?_
  refine cb_of (o := .dat (.bool true)) ?_ ⟨rfl, h⟩
  show (boolsD ((List.range _).map fun (_ : Nat) => PyData.bool true)).map _ = _
  rw [all_true]
  simp

/-- what the head tells -/
structure HF (C : CC) : Prop where
  f_is_whole : HD C (topSt 6) "is_whole"
  f_is_number : HD C (topSt 7) "is_number"
  f_is_tuple_of : HD C (topSt 8) "is_tuple_of"
  f_wrong_at : HD C (topSt 9) "wrong_at"
  f_wrong_from_one : HD C (topSt 10) "wrong_from_one"
  f_is_hour_form : HD C (topSt 15) "is_hour_form"
  f_is_tower_form : HT C (topSt 16) "is_tower_form"
  f_widths_of : HD C (topSt 17) "widths_of"
  f_tower_with : HD C (topSt 18) "tower_with"
  f_check_number : HD C (topSt 20) "check_number"
  f_check_tower : HD C (topSt 21) "check_tower"
  f_check_hour_of : HD C (topSt 22) "check_hour_of"
  f_is_tower : HD C (topSt 24) "is_tower"
  f_hours_number : HD C (topSt 25) "hours_number"
  f_widths : HD C (topSt 26) "widths"
  f_with_holds : HD C (topSt 27) "with_holds"
  f_with_hour : HD C (topSt 28) "with_hour"
  f__law_well : HD C (topSt 30) "_law_well"
  f__law_draw : HD C (topSt 31) "_law_draw"
  f__law_of : HD C (topSt 32) "_law_of"
  f__law_is : HD C (topSt 33) "_law_is"
  f__law_tower : HD C (topSt 34) "_law_tower"
  f__law_no_tower : HD C (topSt 35) "_law_no_tower"
  f__law_refused : HD C (topSt 36) "_law_refused"
  f__law_right : HT C (topSt 37) "_law_right"
  f_law : HD C (topSt 38) "law"
  n_45_48 : C.nm 45 48 = "is_tower_form.<locals>.<lambda>"
  n_156_32 : C.nm 156 32 = "_law_right.<locals>.<lambda>"
  n_155_32 : C.nm 155 32 = "_law_right.<locals>.<lambda>"
  n_154_32 : C.nm 154 32 = "_law_right.<locals>.<lambda>"
  n_153_32 : C.nm 153 32 = "_law_right.<locals>.<lambda>"
  n_152_32 : C.nm 152 32 = "_law_right.<locals>.<lambda>"
  n_151_32 : C.nm 151 32 = "_law_right.<locals>.<lambda>"
  n_150_32 : C.nm 150 32 = "_law_right.<locals>.<lambda>"
  n_149_32 : C.nm 149 32 = "_law_right.<locals>.<lambda>"
  n_148_32 : C.nm 148 32 = "_law_right.<locals>.<lambda>"
  n_147_32 : C.nm 147 32 = "_law_right.<locals>.<lambda>"
  n_146_28 : C.nm 146 28 = "_law_right.<locals>.<lambda>"
  c_MOST_HOLDS : ∃ t, C.mg "MOST_HOLDS" = some (.int (60) t)
  c_MOST_HOURS : ∃ t, C.mg "MOST_HOURS" = some (.int (12) t)
  c_MOST_IN_HOUR : ∃ t, C.mg "MOST_IN_HOUR" = some (.int (30) t)
  x_InvalidTower : PySem.ErrX.Txt C.K C.mg "InvalidTower" "InvalidTower.__init__" "given" (He.ga C.K "InvalidTower") (He.ma C.K (He.ga C.K "InvalidTower") "__init__")
  x_InvalidNumber : PySem.ErrX.Txt C.K C.mg "InvalidNumber" "InvalidNumber.__init__" "given" (He.ga C.K "InvalidNumber") (He.ma C.K (He.ga C.K "InvalidNumber") "__init__")
  x_OutOfRange : PySem.ErrX.Txt C.K C.mg "OutOfRange" "OutOfRange.__init__" "given" (He.ga C.K "OutOfRange") (He.ma C.K (He.ga C.K "OutOfRange") "__init__")
  so : SubOk C hSub
  b_abs : C.mg "abs" = none
  b_all : C.mg "all" = none
  b_bool : C.mg "bool" = none
  b_divmod : C.mg "divmod" = none
  b_enumerate : C.mg "enumerate" = none
  b_int : C.mg "int" = none
  b_isinstance : C.mg "isinstance" = none
  b_len : C.mg "len" = none
  b_list : C.mg "list" = none
  b_max : C.mg "max" = none
  b_min : C.mg "min" = none
  b_range : C.mg "range" = none
  b_repr : C.mg "repr" = none
  b_tuple : C.mg "tuple" = none
theorem d_is_whole {C : CC} (h : HF C) : DefX C (topSt 6) 1 "is_whole" ["value"] S.is_whole := by
  refine def_of (N := N_is_whole) (den := den_is_whole) h.f_is_whole (by decide +kernel) S.is_whole_ok fun X B F => ?_
  have v0_F := F.v (i := 0) (x := "value") (by decide +kernel)
  have g_isinstance_F := F.g (x := "isinstance") (by decide +kernel)
  have g_int_F := F.g (x := "int") (by decide +kernel)
  have g_bool_F := F.g (x := "bool") (by decide +kernel)
  exact dss_cons (ds_ret (de_and (F.isInt g_isinstance_F h.b_isinstance g_int_F h.b_int (v0_F.e) rfl) (de_one (de_not (F.isBool g_isinstance_F h.b_isinstance g_bool_F h.b_bool (v0_F.e) rfl))))) (dss_nil)
theorem d_is_number {C : CC} (h : HF C) : DefX C (topSt 7) 2 "is_number" ["value", "low", "high"] S.is_number := by
  have D_is_whole := (d_is_whole h).dd (fun _ _ _ _ _ _ us hl => match us, hl with | [_], _ => rfl)
  refine def_of (N := N_is_number) (den := den_is_number) h.f_is_number (by decide +kernel) S.is_number_ok fun X B F => ?_
  have v2_F := F.v (i := 2) (x := "high") (by decide +kernel)
  have v0_F := F.v (i := 0) (x := "value") (by decide +kernel)
  have g_is_whole_F := F.g (x := "is_whole") (by decide +kernel)
  have v1_F := F.v (i := 1) (x := "low") (by decide +kernel)
  exact dss_cons (ds_if ((dw_or (dt_not (F.tru (F.call D_is_whole (by decide) g_is_whole_F (da_cons (v0_F.e) (da_nil) rfl) rfl rfl) (fun _ => rfl))) (dw_or1 ((dw_and ((F.isn).tst (v1_F.e) (de_non) rfl) (dw_and1 ((F.lt).tst (v0_F.e) (v1_F.e) rfl))).pt))).pt) (dss_cons (ds_ret (de_bl)) (dss_nil)) (dss_nil)) (dss_cons (ds_ret (de_or ((F.is).val (v2_F.e) (de_non) rfl) (de_one ((F.le).val (v0_F.e) (v2_F.e) rfl)))) (dss_nil))
theorem d_is_tuple_of {C : CC} (h : HF C) : DefX C (topSt 8) 1 "is_tuple_of" ["value", "many"] S.is_tuple_of := by
  refine def_of (N := N_is_tuple_of) (den := den_is_tuple_of) h.f_is_tuple_of (by decide +kernel) S.is_tuple_of_ok fun X B F => ?_
  have v0_F := F.v (i := 0) (x := "value") (by decide +kernel)
  have g_isinstance_F := F.g (x := "isinstance") (by decide +kernel)
  have g_tuple_F := F.g (x := "tuple") (by decide +kernel)
  have g_len_F := F.g (x := "len") (by decide +kernel)
  have v1_F := F.v (i := 1) (x := "many") (by decide +kernel)
  exact dss_cons (ds_ret (de_and (F.isTup g_isinstance_F h.b_isinstance g_tuple_F h.b_tuple (v0_F.e) rfl) (de_one ((F.eq).val (F.len g_len_F h.b_len (dr_cons (v0_F.e) (da_nil) rfl) rfl) (v1_F.e) rfl)))) (dss_nil)
theorem d_wrong_at {C : CC} (h : HF C) : DefX C (topSt 9) 21 "wrong_at" ["value", "most", "is_right"] S.wrong_at := by
  refine def_of (N := N_wrong_at) (den := den_wrong_at) h.f_wrong_at (by decide +kernel) S.wrong_at_ok fun X B F => ?_
  have v0_F := F.v (i := 0) (x := "value") (by decide +kernel)
  have g_enumerate_F := F.g (x := "enumerate") (by decide +kernel)
  have l4_F := F.l (i := 4) (x := "each") (by decide +kernel)
  have l3_F := F.l (i := 3) (x := "at") (by decide +kernel)
  have v1_F := F.v (i := 1) (x := "most") (by decide +kernel)
  have v3_F := F.v (i := 3) (x := "at") (by decide +kernel)
  have v4_F := F.v (i := 4) (x := "each") (by decide +kernel)
  have v2_F := F.v (i := 2) (x := "is_right") (by decide +kernel)
  have g_isinstance_F := F.g (x := "isinstance") (by decide +kernel)
  have g_tuple_F := F.g (x := "tuple") (by decide +kernel)
  exact dss_cons (ds_if (dt_not (F.tru (F.isTup g_isinstance_F h.b_isinstance g_tuple_F h.b_tuple (v0_F.e) rfl) (fun _ => rfl))) (dss_cons (ds_ret (de_lst (da_cons (de_non) (da_nil) rfl))) (dss_nil)) (dss_nil)) (dss_cons (F.for_ (F.enum g_enumerate_F h.b_enumerate (da_cons (v0_F.e) (da_nil) rfl) rfl) (F.tg_tp (F.tgs_cons l3_F (F.tgs_cons l4_F (tgs_nil))) rfl rfl) (dss_cons (ds_if ((dw_or ((dw_and ((F.isn).tst (v1_F.e) (de_non) rfl) (dw_and1 ((F.ge).tst (v3_F.e) (v1_F.e) rfl))).pt) (dw_or1 (dt_not (F.tru (F.app v2_F (da_cons (v4_F.e) (da_cons (F.sl (v0_F.e) (do_none) (do_some (v3_F.e))) (da_nil) rfl) rfl) rfl rfl) (fun _ => rfl))))).pt) (dss_cons (ds_ret (de_lst (da_cons (v3_F.e) (da_nil) rfl))) (dss_nil)) (dss_nil)) (dss_nil)) (fun _ => rfl)) (dss_cons (ds_ret (de_lst (da_nil))) (dss_nil)))
theorem d_wrong_from_one {C : CC} (h : HF C) : DefX C (topSt 10) 22 "wrong_from_one" ["value", "most", "is_right"] S.wrong_from_one := by
  have D_wrong_at := (d_wrong_at h).dd (fun _ _ _ _ _ _ us hl => match us, hl with | [_, _, _], _ => rfl)
  refine def_of (N := N_wrong_from_one) (den := den_wrong_from_one) h.f_wrong_from_one (by decide +kernel) S.wrong_from_one_ok fun X B F => ?_
  have v0_F := F.v (i := 0) (x := "value") (by decide +kernel)
  have g_isinstance_F := F.g (x := "isinstance") (by decide +kernel)
  have g_tuple_F := F.g (x := "tuple") (by decide +kernel)
  have g_wrong_at_F := F.g (x := "wrong_at") (by decide +kernel)
  have v2_F := F.v (i := 2) (x := "is_right") (by decide +kernel)
  have v1_F := F.v (i := 1) (x := "most") (by decide +kernel)
  exact dss_cons (ds_ret (de_if ((dw_and (F.tru (F.isTup g_isinstance_F h.b_isinstance g_tuple_F h.b_tuple (v0_F.e) rfl) (fun _ => rfl)) (dw_and1 ((F.eq).tst (v0_F.e) (de_tup (da_nil)) rfl))).pt) (de_lst (da_cons (de_non) (da_nil) rfl)) (F.call D_wrong_at (by decide) g_wrong_at_F (da_cons (v0_F.e) (da_cons (v1_F.e) (da_cons (v2_F.e) (da_nil) rfl) rfl) rfl) rfl rfl))) (dss_nil)
theorem d_is_hour_form {C : CC} (h : HF C) : DefX C (topSt 15) 3 "is_hour_form" ["value"] S.is_hour_form := by
  have D_is_number := (d_is_number h).dd (fun _ _ _ _ _ _ us hl => match us, hl with | [_, _, _], _ => rfl)
  have D_is_tuple_of := (d_is_tuple_of h).dd (fun _ _ _ _ _ _ us hl => match us, hl with | [_, _], _ => rfl)
  refine def_of (N := N_is_hour_form) (den := den_is_hour_form) h.f_is_hour_form (by decide +kernel) S.is_hour_form_ok fun X B F => ?_
  have v0_F := F.v (i := 0) (x := "value") (by decide +kernel)
  have g_is_tuple_of_F := F.g (x := "is_tuple_of") (by decide +kernel)
  have g_all_F := F.g (x := "all") (by decide +kernel)
  exact dss_cons (ds_if ((dw_or (dt_not (F.tru (F.call D_is_tuple_of (by decide) g_is_tuple_of_F (da_cons (v0_F.e) (da_cons (de_int) (da_nil) rfl) rfl) rfl rfl) (fun _ => rfl))) (dw_or1 (dt_not (F.tru (F.all g_all_F h.b_all (dr_cons (F.lc (own := [("each", 1)]) (F.seq (v0_F.e)) (by decide +kernel) (fun X1 F1 => by
      have l1_F1 := F1.l (i := 1) (x := "each") (by decide +kernel)
      exact F1.tg_nm l1_F1) (fun X1 F2 => by
      exact dts_nil) (fun X1 F3 => by
      have g_is_number_F3 := F3.g (x := "is_number") (by decide +kernel)
      have g_MOST_IN_HOUR_F3 := F3.g (x := "MOST_IN_HOUR") (by decide +kernel)
      have v1_F3 := F3.v (i := 1) (x := "each") (by decide +kernel)
      exact F3.call D_is_number (by decide) g_is_number_F3 (da_cons (v1_F3.e) (da_cons (de_int) (da_cons (F3.gint g_MOST_IN_HOUR_F3 h.c_MOST_IN_HOUR) (da_nil) rfl) rfl) rfl) rfl rfl) (fun _ => rfl)) (da_nil) rfl) rfl) (fun _ => rfl))))).pt) (dss_cons (ds_ret (de_bl)) (dss_nil)) (dss_nil)) (dss_cons (ds_ret ((F.le).val (F.ix (v0_F.e) (de_int) rfl) (F.ix (v0_F.e) (de_int) rfl) rfl)) (dss_nil))
theorem d_is_tower_form {C : CC} (h : HF C) : DefX C (topSt 16) 23 "is_tower_form" ["value"] S.is_tower_form := by
  have D_is_hour_form := (d_is_hour_form h).dd (fun _ _ _ _ _ _ us hl => match us, hl with | [_], _ => rfl)
  have D_is_number := (d_is_number h).dd (fun _ _ _ _ _ _ us hl => match us, hl with | [_, _, _], _ => rfl)
  have D_is_tuple_of := (d_is_tuple_of h).dd (fun _ _ _ _ _ _ us hl => match us, hl with | [_, _], _ => rfl)
  have D_wrong_from_one := (d_wrong_from_one h).dd (fun _ _ _ _ _ _ us hl => match us, hl with | [_, _, _], _ => rfl)
  refine def_ofT (N := N_is_tower_form) (den := den_is_tower_form) h.f_is_tower_form (by decide +kernel) S.is_tower_form_ok fun X B F tab => ?_
  have g_wrong_from_one_F := F.g (x := "wrong_from_one") (by decide +kernel)
  have g_MOST_HOURS_F := F.g (x := "MOST_HOURS") (by decide +kernel)
  have v0_F := F.v (i := 0) (x := "value") (by decide +kernel)
  have g_is_tuple_of_F := F.g (x := "is_tuple_of") (by decide +kernel)
  have g_is_number_F := F.g (x := "is_number") (by decide +kernel)
  have g_MOST_HOLDS_F := F.g (x := "MOST_HOLDS") (by decide +kernel)
  exact dss_cons (ds_if ((dw_or (dt_not (F.tru (F.call D_is_tuple_of (by decide) g_is_tuple_of_F (da_cons (v0_F.e) (da_cons (de_int) (da_nil) rfl) rfl) rfl rfl) (fun _ => rfl))) (dw_or1 (dt_not (F.tru (F.call D_is_number (by decide) g_is_number_F (da_cons (F.ix (v0_F.e) (de_int) rfl) (da_cons (de_int) (da_cons (F.gint g_MOST_HOLDS_F h.c_MOST_HOLDS) (da_nil) rfl) rfl) rfl) rfl rfl) (fun _ => rfl))))).pt) (dss_cons (ds_ret (de_bl)) (dss_nil)) (dss_nil)) (dss_cons (ds_ret ((F.eq).val (F.callL D_wrong_from_one (by decide) g_wrong_from_one_F (F.lam tab (N' := ["each", "_"]) (ps := ["each", "_"]) (fr := []) (js := []) (h.n_45_48) rfl (by decide +kernel) (by decide +kernel) (fun _ _ _ _ _ _ us hl => match us, hl with | [_, _], _ => rfl)) (fun z => dl_cons (F.ix (v0_F.e) (de_int) rfl) (dl_cons (F.gint g_MOST_HOURS_F h.c_MOST_HOURS) (z) rfl) rfl) (fun X1 B1 G1 => by
      have g_is_hour_form_G1 := G1.g (x := "is_hour_form") (by decide +kernel)
      have v0_G1 := G1.v (i := 0) (x := "each") (by decide +kernel)
      exact G1.call D_is_hour_form (by decide) g_is_hour_form_G1 (da_cons (v0_G1.e) (da_nil) rfl) rfl rfl) rfl rfl) (de_lst (da_nil)) rfl)) (dss_nil))
theorem d_widths_of {C : CC} (h : HF C) : DefX C (topSt 17) 1 "widths_of" ["tower"] S.widths_of := by
  refine def_of (N := N_widths_of) (den := den_widths_of) h.f_widths_of (by decide +kernel) S.widths_of_ok fun X B F => ?_
  have v0_F := F.v (i := 0) (x := "tower") (by decide +kernel)
  exact dss_cons (ds_ret (F.lc (own := [("least", 1), ("most", 2), ("_", 3)]) (F.seq (F.ix (v0_F.e) (de_int) rfl)) (by decide +kernel) (fun X1 F1 => by
      have l3_F1 := F1.l (i := 3) (x := "_") (by decide +kernel)
      have l2_F1 := F1.l (i := 2) (x := "most") (by decide +kernel)
      have l1_F1 := F1.l (i := 1) (x := "least") (by decide +kernel)
      exact F1.tg_tp (F1.tgs_cons l1_F1 (F1.tgs_cons l2_F1 (F1.tgs_cons l3_F1 (tgs_nil)))) rfl rfl) (fun X1 F2 => by
      exact dts_nil) (fun X1 F3 => by
      have v2_F3 := F3.v (i := 2) (x := "most") (by decide +kernel)
      have v1_F3 := F3.v (i := 1) (x := "least") (by decide +kernel)
      exact F3.sub (v2_F3.e) (v1_F3.e)) (fun _ => rfl))) (dss_nil)
theorem d_tower_with {C : CC} (h : HF C) : DefX C (topSt 18) 1 "tower_with" ["tower", "hour", "triple"] S.tower_with := by
  refine def_of (N := N_tower_with) (den := den_tower_with) h.f_tower_with (by decide +kernel) S.tower_with_ok fun X B F => ?_
  have v0_F := F.v (i := 0) (x := "tower") (by decide +kernel)
  have v1_F := F.v (i := 1) (x := "hour") (by decide +kernel)
  have v2_F := F.v (i := 2) (x := "triple") (by decide +kernel)
  exact dss_cons (ds_ret (de_tup (da_cons (F.ix (v0_F.e) (de_int) rfl) (da_cons (F.add (F.add (F.sl (F.ix (v0_F.e) (de_int) rfl) (do_none) (do_some (v1_F.e))) (de_tup (da_cons (v2_F.e) (da_nil) rfl))) (F.sl (F.ix (v0_F.e) (de_int) rfl) (do_some (F.add (v1_F.e) (de_int))) (do_none))) (da_nil) rfl) rfl))) (dss_nil)
theorem d_check_number {C : CC} (h : HF C) : DefX C (topSt 20) 3 "check_number" ["value", "low", "high"] S.check_number := by
  have D_is_number := (d_is_number h).dd (fun _ _ _ _ _ _ us hl => match us, hl with | [_, _, _], _ => rfl)
  refine def_of (N := N_check_number) (den := den_check_number) h.f_check_number (by decide +kernel) S.check_number_ok fun X B F => ?_
  have g_is_number_F := F.g (x := "is_number") (by decide +kernel)
  have v2_F := F.v (i := 2) (x := "high") (by decide +kernel)
  have v1_F := F.v (i := 1) (x := "low") (by decide +kernel)
  have v0_F := F.v (i := 0) (x := "value") (by decide +kernel)
  exact dss_cons (ds_if (dt_not (F.tru (F.call D_is_number (by decide) g_is_number_F (da_cons (v0_F.e) (da_cons (v1_F.e) (da_cons (v2_F.e) (da_nil) rfl) rfl) rfl) rfl rfl) (fun _ => rfl))) (dss_cons (ds_never) (dss_nil)) (dss_nil)) (dss_nil)
theorem d_check_tower {C : CC} (h : HF C) : DefX C (topSt 21) 24 "check_tower" ["value"] S.check_tower := by
  have D_is_tower_form := (d_is_tower_form h).dd (fun _ _ _ _ _ _ us hl => match us, hl with | [_], _ => rfl)
  refine def_of (N := N_check_tower) (den := den_check_tower) h.f_check_tower (by decide +kernel) S.check_tower_ok fun X B F => ?_
  have g_is_tower_form_F := F.g (x := "is_tower_form") (by decide +kernel)
  have v0_F := F.v (i := 0) (x := "value") (by decide +kernel)
  exact dss_cons (ds_if (dt_not (F.tru (F.call D_is_tower_form (by decide) g_is_tower_form_F (da_cons (v0_F.e) (da_nil) rfl) rfl rfl) (fun _ => rfl))) (dss_cons (ds_never) (dss_nil)) (dss_nil)) (dss_nil)
theorem d_check_hour_of {C : CC} (h : HF C) : DefX C (topSt 22) 4 "check_hour_of" ["tower", "value"] S.check_hour_of := by
  have D_check_number := (d_check_number h).dd (fun _ _ _ _ _ _ us hl => match us, hl with | [_, _, _], _ => rfl)
  refine def_of (N := N_check_hour_of) (den := den_check_hour_of) h.f_check_hour_of (by decide +kernel) S.check_hour_of_ok fun X B F => ?_
  have v1_F := F.v (i := 1) (x := "value") (by decide +kernel)
  have v0_F := F.v (i := 0) (x := "tower") (by decide +kernel)
  have g_len_F := F.g (x := "len") (by decide +kernel)
  have g_check_number_F := F.g (x := "check_number") (by decide +kernel)
  exact dss_cons (ds_expr (F.call D_check_number (by decide) g_check_number_F (da_cons (v1_F.e) (da_cons (de_int) (da_cons (de_non) (da_nil) rfl) rfl) rfl) rfl rfl) rfl) (dss_cons (ds_if ((F.ge).tst (v1_F.e) (F.len g_len_F h.b_len (dr_cons (F.ix (v0_F.e) (de_int) rfl) (da_nil) rfl) rfl) rfl) (dss_cons (ds_never) (dss_nil)) (dss_nil)) (dss_nil))
theorem d_is_tower {C : CC} (h : HF C) : DefX C (topSt 24) 24 "is_tower" ["value"] S.is_tower := by
  have D_is_tower_form := (d_is_tower_form h).dd (fun _ _ _ _ _ _ us hl => match us, hl with | [_], _ => rfl)
  refine def_of (N := N_is_tower) (den := den_is_tower) h.f_is_tower (by decide +kernel) S.is_tower_ok fun X B F => ?_
  have g_is_tower_form_F := F.g (x := "is_tower_form") (by decide +kernel)
  have v0_F := F.v (i := 0) (x := "value") (by decide +kernel)
  exact dss_cons (ds_ret (F.call D_is_tower_form (by decide) g_is_tower_form_F (da_cons (v0_F.e) (da_nil) rfl) rfl rfl)) (dss_nil)
theorem d_hours_number {C : CC} (h : HF C) : DefX C (topSt 25) 25 "hours_number" ["tower"] S.hours_number := by
  have D_check_tower := (d_check_tower h).dd (fun _ _ _ _ _ _ us hl => match us, hl with | [_], _ => rfl)
  refine def_of (N := N_hours_number) (den := den_hours_number) h.f_hours_number (by decide +kernel) S.hours_number_ok fun X B F => ?_
  have v0_F := F.v (i := 0) (x := "tower") (by decide +kernel)
  have g_len_F := F.g (x := "len") (by decide +kernel)
  have g_check_tower_F := F.g (x := "check_tower") (by decide +kernel)
  exact dss_cons (ds_expr (F.call D_check_tower (by decide) g_check_tower_F (da_cons (v0_F.e) (da_nil) rfl) rfl rfl) rfl) (dss_cons (ds_ret (F.len g_len_F h.b_len (dr_cons (F.ix (v0_F.e) (de_int) rfl) (da_nil) rfl) rfl)) (dss_nil))
theorem d_widths {C : CC} (h : HF C) : DefX C (topSt 26) 25 "widths" ["tower"] S.widths := by
  have D_check_tower := (d_check_tower h).dd (fun _ _ _ _ _ _ us hl => match us, hl with | [_], _ => rfl)
  have D_widths_of := (d_widths_of h).dd (fun _ _ _ _ _ _ us hl => match us, hl with | [_], _ => rfl)
  refine def_of (N := N_widths) (den := den_widths) h.f_widths (by decide +kernel) S.widths_ok fun X B F => ?_
  have g_widths_of_F := F.g (x := "widths_of") (by decide +kernel)
  have v0_F := F.v (i := 0) (x := "tower") (by decide +kernel)
  have g_tuple_F := F.g (x := "tuple") (by decide +kernel)
  have g_check_tower_F := F.g (x := "check_tower") (by decide +kernel)
  exact dss_cons (ds_expr (F.call D_check_tower (by decide) g_check_tower_F (da_cons (v0_F.e) (da_nil) rfl) rfl rfl) rfl) (dss_cons (ds_ret (F.tuple g_tuple_F h.b_tuple (dr_cons (F.call D_widths_of (by decide) g_widths_of_F (da_cons (v0_F.e) (da_nil) rfl) rfl rfl) (da_nil) rfl) rfl)) (dss_nil))
theorem d_with_holds {C : CC} (h : HF C) : DefX C (topSt 27) 25 "with_holds" ["tower", "holds"] S.with_holds := by
  have D_check_number := (d_check_number h).dd (fun _ _ _ _ _ _ us hl => match us, hl with | [_, _, _], _ => rfl)
  have D_check_tower := (d_check_tower h).dd (fun _ _ _ _ _ _ us hl => match us, hl with | [_], _ => rfl)
  refine def_of (N := N_with_holds) (den := den_with_holds) h.f_with_holds (by decide +kernel) S.with_holds_ok fun X B F => ?_
  have v0_F := F.v (i := 0) (x := "tower") (by decide +kernel)
  have v1_F := F.v (i := 1) (x := "holds") (by decide +kernel)
  have g_check_number_F := F.g (x := "check_number") (by decide +kernel)
  have g_MOST_HOLDS_F := F.g (x := "MOST_HOLDS") (by decide +kernel)
  have g_check_tower_F := F.g (x := "check_tower") (by decide +kernel)
  exact dss_cons (ds_expr (F.call D_check_tower (by decide) g_check_tower_F (da_cons (v0_F.e) (da_nil) rfl) rfl rfl) rfl) (dss_cons (ds_expr (F.call D_check_number (by decide) g_check_number_F (da_cons (v1_F.e) (da_cons (de_int) (da_cons (F.gint g_MOST_HOLDS_F h.c_MOST_HOLDS) (da_nil) rfl) rfl) rfl) rfl rfl) rfl) (dss_cons (ds_ret (de_tup (da_cons (v1_F.e) (da_cons (F.ix (v0_F.e) (de_int) rfl) (da_nil) rfl) rfl))) (dss_nil)))
theorem d_with_hour {C : CC} (h : HF C) : DefX C (topSt 28) 25 "with_hour" ["tower", "hour", "least", "most", "pump"] S.with_hour := by
  have D_check_hour_of := (d_check_hour_of h).dd (fun _ _ _ _ _ _ us hl => match us, hl with | [_, _], _ => rfl)
  have D_check_number := (d_check_number h).dd (fun _ _ _ _ _ _ us hl => match us, hl with | [_, _, _], _ => rfl)
  have D_check_tower := (d_check_tower h).dd (fun _ _ _ _ _ _ us hl => match us, hl with | [_], _ => rfl)
  have D_tower_with := (d_tower_with h).dd (fun _ _ _ _ _ _ us hl => match us, hl with | [_, _, _], _ => rfl)
  refine def_of (N := N_with_hour) (den := den_with_hour) h.f_with_hour (by decide +kernel) S.with_hour_ok fun X B F => ?_
  have g_tower_with_F := F.g (x := "tower_with") (by decide +kernel)
  have v4_F := F.v (i := 4) (x := "pump") (by decide +kernel)
  have v3_F := F.v (i := 3) (x := "most") (by decide +kernel)
  have v2_F := F.v (i := 2) (x := "least") (by decide +kernel)
  have v1_F := F.v (i := 1) (x := "hour") (by decide +kernel)
  have v0_F := F.v (i := 0) (x := "tower") (by decide +kernel)
  have g_check_number_F := F.g (x := "check_number") (by decide +kernel)
  have g_MOST_IN_HOUR_F := F.g (x := "MOST_IN_HOUR") (by decide +kernel)
  have g_check_hour_of_F := F.g (x := "check_hour_of") (by decide +kernel)
  have g_check_tower_F := F.g (x := "check_tower") (by decide +kernel)
  exact dss_cons (ds_expr (F.call D_check_tower (by decide) g_check_tower_F (da_cons (v0_F.e) (da_nil) rfl) rfl rfl) rfl) (dss_cons (ds_expr (F.call D_check_hour_of (by decide) g_check_hour_of_F (da_cons (v0_F.e) (da_cons (v1_F.e) (da_nil) rfl) rfl) rfl rfl) rfl) (dss_cons (ds_expr (F.call D_check_number (by decide) g_check_number_F (da_cons (v2_F.e) (da_cons (de_int) (da_cons (F.gint g_MOST_IN_HOUR_F h.c_MOST_IN_HOUR) (da_nil) rfl) rfl) rfl) rfl rfl) rfl) (dss_cons (ds_expr (F.call D_check_number (by decide) g_check_number_F (da_cons (v3_F.e) (da_cons (v2_F.e) (da_cons (F.gint g_MOST_IN_HOUR_F h.c_MOST_IN_HOUR) (da_nil) rfl) rfl) rfl) rfl rfl) rfl) (dss_cons (ds_expr (F.call D_check_number (by decide) g_check_number_F (da_cons (v4_F.e) (da_cons (de_int) (da_cons (F.gint g_MOST_IN_HOUR_F h.c_MOST_IN_HOUR) (da_nil) rfl) rfl) rfl) rfl rfl) rfl) (dss_cons (ds_ret (F.call D_tower_with (by decide) g_tower_with_F (da_cons (v0_F.e) (da_cons (v1_F.e) (da_cons (de_tup (da_cons (v2_F.e) (da_cons (v3_F.e) (da_cons (v4_F.e) (da_nil) rfl) rfl) rfl)) (da_nil) rfl) rfl) rfl) rfl rfl)) (dss_nil))))))
theorem d__law_well {C : CC} (h : HF C) : DefX C (topSt 30) 1 "_law_well" ["script", "lap"] S._law_well := by
  refine def_of (N := N__law_well) (den := den__law_well) h.f__law_well (by decide +kernel) S._law_well_ok fun X B F => ?_
  have v2_F := F.v (i := 2) (x := "stirred") (by decide +kernel)
  have v4_F := F.v (i := 4) (x := "own") (by decide +kernel)
  have g_abs_F := F.g (x := "abs") (by decide +kernel)
  have g_int_F := F.g (x := "int") (by decide +kernel)
  have l2_F := F.l (i := 2) (x := "stirred") (by decide +kernel)
  have v1_F := F.v (i := 1) (x := "lap") (by decide +kernel)
  have v0_F := F.v (i := 0) (x := "script") (by decide +kernel)
  have g_len_F := F.g (x := "len") (by decide +kernel)
  have l4_F := F.l (i := 4) (x := "own") (by decide +kernel)
  have l3_F := F.l (i := 3) (x := "cell") (by decide +kernel)
  have v3_F := F.v (i := 3) (x := "cell") (by decide +kernel)
  exact dss_cons (F.setF l2_F (F.add (de_int) (F.mul (de_int) (v1_F.e))) rfl) (dss_cons (F.for_ (F.seq (F.sl (v0_F.e) (do_none) (do_some (de_int)))) (F.tg_nm l3_F) (dss_cons (F.setF l2_F (F.mod (F.int g_int_F h.b_int (dr_cons (F.add (F.add (F.mul (v2_F.e) (de_int)) (F.mod (F.int g_int_F h.b_int (dr_cons (v3_F.e) (da_nil) rfl) rfl) (de_int))) (de_int)) (da_nil) rfl) rfl) (de_int)) rfl) (dss_nil)) (fun _ => rfl)) (dss_cons (F.setF l4_F (de_if ((F.lt).tst (v1_F.e) (F.len g_len_F h.b_len (dr_cons (v0_F.e) (da_nil) rfl) rfl) rfl) (F.int g_int_F h.b_int (dr_cons (F.ix (v0_F.e) (v1_F.e) rfl) (da_nil) rfl) rfl) (de_int)) rfl) (dss_cons (F.setF l2_F (F.mod (F.int g_int_F h.b_int (dr_cons (F.add (F.add (F.mul (v2_F.e) (de_int)) (F.mul (F.mod (F.int g_int_F h.b_int (dr_cons (v4_F.e) (da_nil) rfl) rfl) (de_int)) (de_int))) (de_int)) (da_nil) rfl) rfl) (de_int)) rfl) (dss_cons (ds_retW (de_lst (da_cons (de_if ((dw_or ((F.lt).tst (v4_F.e) (de_int) rfl) (dw_or1 ((F.ge).tst (v4_F.e) (F.pow (de_int) (de_int)) rfl))).pt) (F.abs g_abs_F h.b_abs (dr_cons (v4_F.e) (da_nil) rfl) rfl) (de_int)) (da_cons (v2_F.e) (da_cons (de_int) (da_nil) rfl) rfl) rfl))) (dss_nil)))))
theorem d__law_draw {C : CC} (h : HF C) : DefX C (topSt 31) 1 "_law_draw" ["well", "limit"] S._law_draw := by
  refine def_of (N := N__law_draw) (den := den__law_draw) h.f__law_draw (by decide +kernel) S._law_draw_ok fun X B F => ?_
  have v0_F := F.v (i := 0) (x := "well") (by decide +kernel)
  have g_int_F := F.g (x := "int") (by decide +kernel)
  have v1_F := F.v (i := 1) (x := "limit") (by decide +kernel)
  have v3_F := F.v (i := 3) (x := "mixed") (by decide +kernel)
  have l3_F := F.l (i := 3) (x := "mixed") (by decide +kernel)
  have v2_F := F.v (i := 2) (x := "figure") (by decide +kernel)
  have l2_F := F.l (i := 2) (x := "figure") (by decide +kernel)
  have g_divmod_F := F.g (x := "divmod") (by decide +kernel)
  exact dss_cons (ds_if ((F.gt).tst (F.wix (k0 := 0) v0_F (by decide)) (de_int) rfl) (dss_cons (F.wdm v0_F l2_F (by decide) g_divmod_F h.b_divmod (da_cons (F.wix (k0 := 0) v0_F (by decide)) (da_cons (v1_F.e) (da_nil) rfl) rfl) rfl rfl) (dss_cons (ds_ret (v2_F.e)) (dss_nil))) (dss_nil)) (dss_cons (F.wset (k0 := 2) v0_F (F.add (F.wix (k0 := 2) v0_F (by decide)) (de_int)) (by decide) rfl rfl) (dss_cons (F.setF l3_F (F.mod (F.int g_int_F h.b_int (dr_cons (F.add (F.mul (F.wix (k0 := 1) v0_F (by decide)) (de_int)) (F.mul (de_int) (F.wix (k0 := 2) v0_F (by decide)))) (da_nil) rfl) rfl) (de_int)) rfl) (dss_cons (F.wset (k0 := 1) v0_F (F.mod (F.int g_int_F h.b_int (dr_cons (F.add (F.mul (v3_F.e) (F.add (F.mod (F.int g_int_F h.b_int (dr_cons (v3_F.e) (da_nil) rfl) rfl) (de_int)) (de_int))) (F.wix (k0 := 2) v0_F (by decide))) (da_nil) rfl) rfl) (de_int)) (by decide) rfl rfl) (dss_cons (ds_ret (F.mod (F.int g_int_F h.b_int (dr_cons (F.fdiv (F.wix (k0 := 1) v0_F (by decide)) (de_int)) (da_nil) rfl) rfl) (v1_F.e))) (dss_nil)))))
theorem d__law_of {C : CC} (h : HF C) : DefX C (topSt 32) 2 "_law_of" ["well", "some"] S._law_of := by
  have D__law_draw := (d__law_draw h).dd (fun _ _ _ _ _ _ us hl => match us, hl with | [_, _], _ => rfl)
  refine def_of (N := N__law_of) (den := den__law_of) h.f__law_of (by decide +kernel) S._law_of_ok fun X B F => ?_
  have v1_F := F.v (i := 1) (x := "some") (by decide +kernel)
  have g__law_draw_F := F.g (x := "_law_draw") (by decide +kernel)
  have g_len_F := F.g (x := "len") (by decide +kernel)
  have v0_F := F.v (i := 0) (x := "well") (by decide +kernel)
  exact dss_cons (ds_ret (F.ix (v1_F.e) (F.call D__law_draw (by decide) g__law_draw_F (da_cons (v0_F.e) (da_cons (F.len g_len_F h.b_len (dr_cons (v1_F.e) (da_nil) rfl) rfl) (da_nil) rfl) rfl) rfl rfl) rfl)) (dss_nil)
theorem d__law_is {C : CC} (h : HF C) : DefX C (topSt 33) 1 "_law_is" ["told", "due"] S._law_is := by
  refine def_of (N := N__law_is) (den := den__law_is) h.f__law_is (by decide +kernel) S._law_is_ok fun X B F => ?_
  have v0_F := F.v (i := 0) (x := "told") (by decide +kernel)
  have g_repr_F := F.g (x := "repr") (by decide +kernel)
  have v1_F := F.v (i := 1) (x := "due") (by decide +kernel)
  exact dss_cons (ds_ret ((F.eq).val (F.repr g_repr_F h.b_repr (dr_cons (v0_F.e) (da_nil) rfl) rfl) (F.repr g_repr_F h.b_repr (dr_cons (v1_F.e) (da_nil) rfl) rfl) rfl)) (dss_nil)
theorem d__law_tower {C : CC} (h : HF C) : DefX C (topSt 34) 3 "_law_tower" ["well", "most", "high"] S._law_tower := by
  have D__law_draw := (d__law_draw h).dd (fun _ _ _ _ _ _ us hl => match us, hl with | [_, _], _ => rfl)
  have D__law_of := (d__law_of h).dd (fun _ _ _ _ _ _ us hl => match us, hl with | [_, _], _ => rfl)
  refine def_of (N := N__law_tower) (den := den__law_tower) h.f__law_tower (by decide +kernel) S._law_tower_ok fun X B F => ?_
  have v3_F := F.v (i := 3) (x := "hours") (by decide +kernel)
  have g_tuple_F := F.g (x := "tuple") (by decide +kernel)
  have g__law_draw_F := F.g (x := "_law_draw") (by decide +kernel)
  have g__law_of_F := F.g (x := "_law_of") (by decide +kernel)
  have v0_F := F.v (i := 0) (x := "well") (by decide +kernel)
  have v1_F := F.v (i := 1) (x := "most") (by decide +kernel)
  have g_max_F := F.g (x := "max") (by decide +kernel)
  have g_range_F := F.g (x := "range") (by decide +kernel)
  have l4_F := F.l (i := 4) (x := "lap") (by decide +kernel)
  have v2_F := F.v (i := 2) (x := "high") (by decide +kernel)
  have g_min_F := F.g (x := "min") (by decide +kernel)
  have v5_F := F.v (i := 5) (x := "least") (by decide +kernel)
  have v6_F := F.v (i := 6) (x := "wide") (by decide +kernel)
  have l6_F := F.l (i := 6) (x := "wide") (by decide +kernel)
  have l5_F := F.l (i := 5) (x := "least") (by decide +kernel)
  have l3_F := F.l (i := 3) (x := "hours") (by decide +kernel)
  exact dss_cons (F.set l3_F (de_lst (da_nil)) rfl) (dss_cons (F.for_ (F.rg1 g_range_F h.b_range (da_cons (F.add (de_int) (F.max g_max_F h.b_max (dr_cons (F.call D__law_draw (by decide) g__law_draw_F (da_cons (v0_F.e) (da_cons (v1_F.e) (da_nil) rfl) rfl) rfl rfl) (dr_cons (F.call D__law_draw (by decide) g__law_draw_F (da_cons (v0_F.e) (da_cons (v1_F.e) (da_nil) rfl) rfl) rfl rfl) (da_nil) rfl) rfl) rfl rfl)) (da_nil) rfl) rfl) (F.tg_nm l4_F) (dss_cons (F.setF l5_F (F.call D__law_draw (by decide) g__law_draw_F (da_cons (v0_F.e) (da_cons (F.add (v2_F.e) (de_int)) (da_nil) rfl) rfl) rfl rfl) rfl) (dss_cons (F.setF l6_F (F.call D__law_of (by decide) g__law_of_F (da_cons (v0_F.e) (da_cons (de_tup (da_cons (de_int) (da_cons (de_int) (da_cons (de_int) (da_cons (de_int) (da_cons (de_int) (da_nil) rfl) rfl) rfl) rfl) rfl)) (da_nil) rfl) rfl) rfl rfl) rfl) (dss_cons (F.app_ v3_F (de_tup (da_cons (v5_F.e) (da_cons (F.min g_min_F h.b_min (dr_cons (de_int) (dr_cons (F.add (v5_F.e) (v6_F.e)) (da_nil) rfl) rfl) rfl rfl) (da_cons (F.min g_min_F h.b_min (dr_cons (de_int) (dr_cons (F.call D__law_draw (by decide) g__law_draw_F (da_cons (v0_F.e) (da_cons (F.add (v2_F.e) (de_int)) (da_nil) rfl) rfl) rfl rfl) (da_nil) rfl) rfl) rfl rfl) (da_nil) rfl) rfl) rfl)) rfl rfl) (dss_nil)))) (fun _ => rfl)) (dss_cons (ds_ret (de_tup (da_cons (F.add (de_int) (F.call D__law_draw (by decide) g__law_draw_F (da_cons (v0_F.e) (da_cons (F.call D__law_of (by decide) g__law_of_F (da_cons (v0_F.e) (da_cons (de_tup (da_cons (de_int) (da_cons (de_int) (da_cons (de_int) (da_nil) rfl) rfl) rfl)) (da_nil) rfl) rfl) rfl rfl) (da_nil) rfl) rfl) rfl rfl)) (da_cons (F.tuple g_tuple_F h.b_tuple (dr_cons (v3_F.e) (da_nil) rfl) rfl) (da_nil) rfl) rfl))) (dss_nil)))
theorem d__law_no_tower {C : CC} (h : HF C) : DefX C (topSt 35) 3 "_law_no_tower" ["well", "tower"] S._law_no_tower := by
  have D__law_of := (d__law_of h).dd (fun _ _ _ _ _ _ us hl => match us, hl with | [_, _], _ => rfl)
  refine def_of (N := N__law_no_tower) (den := den__law_no_tower) h.f__law_no_tower (by decide +kernel) S._law_no_tower_ok fun X B F => ?_
  have g__law_of_F := F.g (x := "_law_of") (by decide +kernel)
  have v4_F := F.v (i := 4) (x := "some") (by decide +kernel)
  have v3_F := F.v (i := 3) (x := "hours") (by decide +kernel)
  have v2_F := F.v (i := 2) (x := "holds") (by decide +kernel)
  have g_list_F := F.g (x := "list") (by decide +kernel)
  have v0_F := F.v (i := 0) (x := "well") (by decide +kernel)
  have v8_F := F.v (i := 8) (x := "odds") (by decide +kernel)
  have l9_F := F.l (i := 9) (x := "odd") (by decide +kernel)
  have v9_F := F.v (i := 9) (x := "odd") (by decide +kernel)
  have v6_F := F.v (i := 6) (x := "most") (by decide +kernel)
  have v5_F := F.v (i := 5) (x := "least") (by decide +kernel)
  have l8_F := F.l (i := 8) (x := "odds") (by decide +kernel)
  have l7_F := F.l (i := 7) (x := "pump") (by decide +kernel)
  have l6_F := F.l (i := 6) (x := "most") (by decide +kernel)
  have l5_F := F.l (i := 5) (x := "least") (by decide +kernel)
  have v1_F := F.v (i := 1) (x := "tower") (by decide +kernel)
  have l4_F := F.l (i := 4) (x := "some") (by decide +kernel)
  have l3_F := F.l (i := 3) (x := "hours") (by decide +kernel)
  have l2_F := F.l (i := 2) (x := "holds") (by decide +kernel)
  exact dss_cons (F.unp (v1_F.e) (F.tg_tp (F.tgs_cons l2_F (F.tgs_cons l3_F (tgs_nil))) rfl rfl) rfl (rfl) rfl) (dss_cons (F.set l4_F (de_lst (da_cons (de_non) (da_cons (de_tup (da_nil)) (da_cons (de_tup (da_cons (v2_F.e) (da_nil) rfl)) (da_cons (F.add (v1_F.e) (de_tup (da_cons (de_int) (da_nil) rfl))) (da_cons (F.list g_list_F h.b_list (dr_cons (v1_F.e) (da_nil) rfl) rfl) (da_cons (de_tup (da_cons (de_int) (da_cons (v3_F.e) (da_nil) rfl) rfl)) (da_cons (de_tup (da_cons (de_int) (da_cons (v3_F.e) (da_nil) rfl) rfl)) (da_cons (de_tup (da_cons (de_bl) (da_cons (v3_F.e) (da_nil) rfl) rfl)) (da_cons (de_tup (da_cons (v2_F.e) (da_cons (de_tup (da_nil)) (da_nil) rfl) rfl)) (da_nil) rfl) rfl) rfl) rfl) rfl) rfl) rfl) rfl) rfl)) rfl) (dss_cons (F.unp (F.ix (v3_F.e) (de_int) rfl) (F.tg_tp (F.tgs_cons l5_F (F.tgs_cons l6_F (F.tgs_cons l7_F (tgs_nil)))) rfl rfl) rfl (rfl) rfl) (dss_cons (F.setF l8_F (de_lst (da_cons (de_tup (da_cons (v5_F.e) (da_cons (v6_F.e) (da_cons (de_int) (da_nil) rfl) rfl) rfl)) (da_cons (de_tup (da_cons (de_int) (da_cons (de_int) (da_cons (de_int) (da_nil) rfl) rfl) rfl)) (da_cons (de_tup (da_cons (F.add (v6_F.e) (de_int)) (da_cons (v6_F.e) (da_cons (de_int) (da_nil) rfl) rfl) rfl)) (da_cons (de_tup (da_cons (v5_F.e) (da_cons (v6_F.e) (da_cons (de_neg (de_int)) (da_nil) rfl) rfl) rfl)) (da_cons (de_tup (da_cons (v5_F.e) (da_cons (v6_F.e) (da_nil) rfl) rfl)) (da_cons (de_tup (da_cons (de_bl) (da_cons (de_int) (da_cons (de_int) (da_nil) rfl) rfl) rfl)) (da_nil) rfl) rfl) rfl) rfl) rfl) rfl)) rfl) (dss_cons (F.for_ (F.seq (F.add (v8_F.e) (de_lst (da_cons (de_non) (da_cons (de_lst (da_cons (de_int) (da_cons (de_int) (da_cons (de_int) (da_nil) rfl) rfl) rfl)) (da_cons (de_tup (da_cons (v3_F.e) (da_cons (v2_F.e) (da_cons (de_int) (da_nil) rfl) rfl) rfl)) (da_nil) rfl) rfl) rfl)))) (F.tg_nm l9_F) (dss_cons (F.app_ v4_F (de_tup (da_cons (v2_F.e) (da_cons (F.add (de_tup (da_cons (v9_F.e) (da_nil) rfl)) (F.sl (v3_F.e) (do_some (de_int)) (do_none))) (da_nil) rfl) rfl)) rfl rfl) (dss_nil)) (fun _ => rfl)) (dss_cons (ds_ret (F.call D__law_of (by decide) g__law_of_F (da_cons (v0_F.e) (da_cons (F.add (v4_F.e) (de_lst (da_cons (de_tup (da_cons (v2_F.e) (da_cons (F.list g_list_F h.b_list (dr_cons (v3_F.e) (da_nil) rfl) rfl) (da_nil) rfl) rfl)) (da_cons (de_tup (da_cons (v2_F.e) (da_cons (F.add (v3_F.e) (F.rep (F.sl (v3_F.e) (do_none) (do_some (de_int))) (de_int))) (da_nil) rfl) rfl)) (da_cons (de_str) (da_nil) rfl) rfl) rfl))) (da_nil) rfl) rfl) rfl rfl)) (dss_nil))))))
theorem d__law_refused {C : CC} (h : HF C) : DefX C (topSt 36) 27 "_law_refused" ["act"] S._law_refused := by
  refine def_ofS (N := N__law_refused) (den := den__law_refused) h.f__law_refused (by decide +kernel) S._law_refused_ok fun X B F => ?_
  have g_OutOfRange_F := F.g (x := "OutOfRange") (by decide +kernel)
  have v1_F := F.v (i := 1) (x := "e") (by decide +kernel)
  have g_InvalidNumber_F := F.g (x := "InvalidNumber") (by decide +kernel)
  have g_InvalidTower_F := F.g (x := "InvalidTower") (by decide +kernel)
  have l1_F := F.l (i := 1) (x := "e") (by decide +kernel)
  exact dss_cons (F.try_ h.so l1_F (fun pn xe => (F.toFX.tr pn xe).v (i := 0) (x := "act") (by decide +kernel)) (by decide +kernel) rfl (.cons (F.names g_InvalidTower_F h.x_InvalidTower.gC) h.x_InvalidTower.gC (F.suG h.x_InvalidTower v1_F rfl) (.cons (F.names g_InvalidNumber_F h.x_InvalidNumber.gC) h.x_InvalidNumber.gC (F.suG h.x_InvalidNumber v1_F rfl) (.cons (F.names g_OutOfRange_F h.x_OutOfRange.gC) h.x_OutOfRange.gC (F.suG h.x_OutOfRange v1_F rfl) (.nil))))) (dss_cons (ds_ret (de_lst (da_cons (de_str) (da_nil) rfl))) (dss_nil))
theorem r_check_tower {C : CC} (h : HF C) : DefY C (topSt 21) 24 "check_tower" ["value"] R.check_tower := by
  have D_is_tower_form := (d_is_tower_form h).dd (fun _ _ _ _ _ _ us hl => match us, hl with | [_], _ => rfl)
  refine def_ofR (N := N_check_tower) (den := denR_check_tower) h.f_check_tower (by decide +kernel) R.check_tower_ok fun X B Ed F tk => ?_
  have g_is_tower_form_F := F.g (x := "is_tower_form") (by decide +kernel)
  have v0_F := F.v (i := 0) (x := "value") (by decide +kernel)
  have g_InvalidTower_F := F.g (x := "InvalidTower") (by decide +kernel)
  exact dssx_cons (dsx_if (dt_not (F.tru (F.call D_is_tower_form (by decide) g_is_tower_form_F (da_cons (v0_F.e) (da_nil) rfl) rfl rfl) (fun _ => rfl))) (dssx_cons (F.raise1 tk h.x_InvalidTower (.inl rfl) g_InvalidTower_F (v0_F.e) rfl) (dssx_nil)) (dssx_nil)) (dssx_nil)
theorem r_hours_number {C : CC} (h : HF C) : DefY C (topSt 25) 25 "hours_number" ["tower"] R.hours_number := by
  have DR_check_tower := (r_check_tower h).dd (fun _ _ _ _ _ _ us hl => match us, hl with | [_], _ => rfl)
  refine def_ofR (N := N_hours_number) (den := denR_hours_number) h.f_hours_number (by decide +kernel) R.hours_number_ok fun X B Ed F tk => ?_
  have v0_F := F.v (i := 0) (x := "tower") (by decide +kernel)
  have g_len_F := F.g (x := "len") (by decide +kernel)
  have g_check_tower_F := F.g (x := "check_tower") (by decide +kernel)
  exact dssx_cons (dsx_expr (F.callR tk DR_check_tower (by decide) g_check_tower_F (da_cons (v0_F.e) (da_nil) rfl) rfl rfl) rfl) (dssx_cons (dsx_calm (ds_ret (F.len g_len_F h.b_len (dr_cons (F.ix (v0_F.e) (de_int) rfl) (da_nil) rfl) rfl))) (dssx_nil))
theorem r_widths {C : CC} (h : HF C) : DefY C (topSt 26) 25 "widths" ["tower"] R.widths := by
  have D_widths_of := (d_widths_of h).dd (fun _ _ _ _ _ _ us hl => match us, hl with | [_], _ => rfl)
  have DR_check_tower := (r_check_tower h).dd (fun _ _ _ _ _ _ us hl => match us, hl with | [_], _ => rfl)
  refine def_ofR (N := N_widths) (den := denR_widths) h.f_widths (by decide +kernel) R.widths_ok fun X B Ed F tk => ?_
  have g_widths_of_F := F.g (x := "widths_of") (by decide +kernel)
  have v0_F := F.v (i := 0) (x := "tower") (by decide +kernel)
  have g_tuple_F := F.g (x := "tuple") (by decide +kernel)
  have g_check_tower_F := F.g (x := "check_tower") (by decide +kernel)
  exact dssx_cons (dsx_expr (F.callR tk DR_check_tower (by decide) g_check_tower_F (da_cons (v0_F.e) (da_nil) rfl) rfl rfl) rfl) (dssx_cons (dsx_calm (ds_ret (F.tuple g_tuple_F h.b_tuple (dr_cons (F.call D_widths_of (by decide) g_widths_of_F (da_cons (v0_F.e) (da_nil) rfl) rfl rfl) (da_nil) rfl) rfl))) (dssx_nil))
theorem r_check_number {C : CC} (h : HF C) : DefY C (topSt 20) 3 "check_number" ["value", "low", "high"] R.check_number := by
  have D_is_number := (d_is_number h).dd (fun _ _ _ _ _ _ us hl => match us, hl with | [_, _, _], _ => rfl)
  refine def_ofR (N := N_check_number) (den := denR_check_number) h.f_check_number (by decide +kernel) R.check_number_ok fun X B Ed F tk => ?_
  have g_is_number_F := F.g (x := "is_number") (by decide +kernel)
  have v2_F := F.v (i := 2) (x := "high") (by decide +kernel)
  have v1_F := F.v (i := 1) (x := "low") (by decide +kernel)
  have v0_F := F.v (i := 0) (x := "value") (by decide +kernel)
  have g_InvalidNumber_F := F.g (x := "InvalidNumber") (by decide +kernel)
  exact dssx_cons (dsx_if (dt_not (F.tru (F.call D_is_number (by decide) g_is_number_F (da_cons (v0_F.e) (da_cons (v1_F.e) (da_cons (v2_F.e) (da_nil) rfl) rfl) rfl) rfl rfl) (fun _ => rfl))) (dssx_cons (F.raise1 tk h.x_InvalidNumber (.inl rfl) g_InvalidNumber_F (v0_F.e) rfl) (dssx_nil)) (dssx_nil)) (dssx_nil)
theorem r_with_holds {C : CC} (h : HF C) : DefY C (topSt 27) 25 "with_holds" ["tower", "holds"] R.with_holds := by
  have DR_check_number := (r_check_number h).dd (fun _ _ _ _ _ _ us hl => match us, hl with | [_, _, _], _ => rfl)
  have DR_check_tower := (r_check_tower h).dd (fun _ _ _ _ _ _ us hl => match us, hl with | [_], _ => rfl)
  refine def_ofR (N := N_with_holds) (den := denR_with_holds) h.f_with_holds (by decide +kernel) R.with_holds_ok fun X B Ed F tk => ?_
  have v0_F := F.v (i := 0) (x := "tower") (by decide +kernel)
  have v1_F := F.v (i := 1) (x := "holds") (by decide +kernel)
  have g_check_number_F := F.g (x := "check_number") (by decide +kernel)
  have g_MOST_HOLDS_F := F.g (x := "MOST_HOLDS") (by decide +kernel)
  have g_check_tower_F := F.g (x := "check_tower") (by decide +kernel)
  exact dssx_cons (dsx_expr (F.callR tk DR_check_tower (by decide) g_check_tower_F (da_cons (v0_F.e) (da_nil) rfl) rfl rfl) rfl) (dssx_cons (dsx_expr (F.callR tk DR_check_number (by decide) g_check_number_F (da_cons (v1_F.e) (da_cons (de_int) (da_cons (F.gint g_MOST_HOLDS_F h.c_MOST_HOLDS) (da_nil) rfl) rfl) rfl) rfl rfl) rfl) (dssx_cons (dsx_calm (ds_ret (de_tup (da_cons (v1_F.e) (da_cons (F.ix (v0_F.e) (de_int) rfl) (da_nil) rfl) rfl)))) (dssx_nil)))
theorem r_check_hour_of {C : CC} (h : HF C) : DefY C (topSt 22) 4 "check_hour_of" ["tower", "value"] R.check_hour_of := by
  have DR_check_number := (r_check_number h).dd (fun _ _ _ _ _ _ us hl => match us, hl with | [_, _, _], _ => rfl)
  refine def_ofR (N := N_check_hour_of) (den := denR_check_hour_of) h.f_check_hour_of (by decide +kernel) R.check_hour_of_ok fun X B Ed F tk => ?_
  have v1_F := F.v (i := 1) (x := "value") (by decide +kernel)
  have v0_F := F.v (i := 0) (x := "tower") (by decide +kernel)
  have g_len_F := F.g (x := "len") (by decide +kernel)
  have g_OutOfRange_F := F.g (x := "OutOfRange") (by decide +kernel)
  have g_check_number_F := F.g (x := "check_number") (by decide +kernel)
  exact dssx_cons (dsx_expr (F.callR tk DR_check_number (by decide) g_check_number_F (da_cons (v1_F.e) (da_cons (de_int) (da_cons (de_non) (da_nil) rfl) rfl) rfl) rfl rfl) rfl) (dssx_cons (dsx_if ((F.ge).tst (v1_F.e) (F.len g_len_F h.b_len (dr_cons (F.ix (v0_F.e) (de_int) rfl) (da_nil) rfl) rfl) rfl) (dssx_cons (F.raise1 tk h.x_OutOfRange (.inl rfl) g_OutOfRange_F (v1_F.e) rfl) (dssx_nil)) (dssx_nil)) (dssx_nil))
theorem r_with_hour {C : CC} (h : HF C) : DefY C (topSt 28) 25 "with_hour" ["tower", "hour", "least", "most", "pump"] R.with_hour := by
  have D_tower_with := (d_tower_with h).dd (fun _ _ _ _ _ _ us hl => match us, hl with | [_, _, _], _ => rfl)
  have DR_check_hour_of := (r_check_hour_of h).dd (fun _ _ _ _ _ _ us hl => match us, hl with | [_, _], _ => rfl)
  have DR_check_number := (r_check_number h).dd (fun _ _ _ _ _ _ us hl => match us, hl with | [_, _, _], _ => rfl)
  have DR_check_tower := (r_check_tower h).dd (fun _ _ _ _ _ _ us hl => match us, hl with | [_], _ => rfl)
  refine def_ofR (N := N_with_hour) (den := denR_with_hour) h.f_with_hour (by decide +kernel) R.with_hour_ok fun X B Ed F tk => ?_
  have g_tower_with_F := F.g (x := "tower_with") (by decide +kernel)
  have v4_F := F.v (i := 4) (x := "pump") (by decide +kernel)
  have v3_F := F.v (i := 3) (x := "most") (by decide +kernel)
  have v2_F := F.v (i := 2) (x := "least") (by decide +kernel)
  have v1_F := F.v (i := 1) (x := "hour") (by decide +kernel)
  have v0_F := F.v (i := 0) (x := "tower") (by decide +kernel)
  have g_check_number_F := F.g (x := "check_number") (by decide +kernel)
  have g_MOST_IN_HOUR_F := F.g (x := "MOST_IN_HOUR") (by decide +kernel)
  have g_check_hour_of_F := F.g (x := "check_hour_of") (by decide +kernel)
  have g_check_tower_F := F.g (x := "check_tower") (by decide +kernel)
  exact dssx_cons (dsx_expr (F.callR tk DR_check_tower (by decide) g_check_tower_F (da_cons (v0_F.e) (da_nil) rfl) rfl rfl) rfl) (dssx_cons (dsx_expr (F.callR tk DR_check_hour_of (by decide) g_check_hour_of_F (da_cons (v0_F.e) (da_cons (v1_F.e) (da_nil) rfl) rfl) rfl rfl) rfl) (dssx_cons (dsx_expr (F.callR tk DR_check_number (by decide) g_check_number_F (da_cons (v2_F.e) (da_cons (de_int) (da_cons (F.gint g_MOST_IN_HOUR_F h.c_MOST_IN_HOUR) (da_nil) rfl) rfl) rfl) rfl rfl) rfl) (dssx_cons (dsx_expr (F.callR tk DR_check_number (by decide) g_check_number_F (da_cons (v3_F.e) (da_cons (v2_F.e) (da_cons (F.gint g_MOST_IN_HOUR_F h.c_MOST_IN_HOUR) (da_nil) rfl) rfl) rfl) rfl rfl) rfl) (dssx_cons (dsx_expr (F.callR tk DR_check_number (by decide) g_check_number_F (da_cons (v4_F.e) (da_cons (de_int) (da_cons (F.gint g_MOST_IN_HOUR_F h.c_MOST_IN_HOUR) (da_nil) rfl) rfl) rfl) rfl rfl) rfl) (dssx_cons (dsx_calm (ds_ret (F.call D_tower_with (by decide) g_tower_with_F (da_cons (v0_F.e) (da_cons (v1_F.e) (da_cons (de_tup (da_cons (v2_F.e) (da_cons (v3_F.e) (da_cons (v4_F.e) (da_nil) rfl) rfl) rfl)) (da_nil) rfl) rfl) rfl) rfl rfl))) (dssx_nil))))))
theorem d__law_right {C : CC} (h : HF C) : DefX C (topSt 37) 28 "_law_right" ["well"] S._law_right := by
  have D__law_draw := (d__law_draw h).dd (fun _ _ _ _ _ _ us hl => match us, hl with | [_, _], _ => rfl)
  have D__law_is := (d__law_is h).dd (fun _ _ _ _ _ _ us hl => match us, hl with | [_, _], _ => rfl)
  have D__law_no_tower := (d__law_no_tower h).dd (fun _ _ _ _ _ _ us hl => match us, hl with | [_, _], _ => rfl)
  have D__law_of := (d__law_of h).dd (fun _ _ _ _ _ _ us hl => match us, hl with | [_, _], _ => rfl)
  have D__law_refused := (d__law_refused h).dd (fun _ _ _ _ _ _ us hl => match us, hl with | [_], _ => rfl)
  have D__law_tower := (d__law_tower h).dd (fun _ _ _ _ _ _ us hl => match us, hl with | [_, _, _], _ => rfl)
  have D_hours_number := (d_hours_number h).dd (fun _ _ _ _ _ _ us hl => match us, hl with | [_], _ => rfl)
  have D_is_tower := (d_is_tower h).dd (fun _ _ _ _ _ _ us hl => match us, hl with | [_], _ => rfl)
  have D_widths := (d_widths h).dd (fun _ _ _ _ _ _ us hl => match us, hl with | [_], _ => rfl)
  have D_with_holds := (d_with_holds h).dd (fun _ _ _ _ _ _ us hl => match us, hl with | [_, _], _ => rfl)
  have D_with_hour := (d_with_hour h).dd (fun _ _ _ _ _ _ us hl => match us, hl with | [_, _, _, _, _], _ => rfl)
  have DR_hours_number := (r_hours_number h).dd (fun _ _ _ _ _ _ us hl => match us, hl with | [_], _ => rfl)
  have DR_widths := (r_widths h).dd (fun _ _ _ _ _ _ us hl => match us, hl with | [_], _ => rfl)
  have DR_with_holds := (r_with_holds h).dd (fun _ _ _ _ _ _ us hl => match us, hl with | [_, _], _ => rfl)
  have DR_with_hour := (r_with_hour h).dd (fun _ _ _ _ _ _ us hl => match us, hl with | [_, _, _, _, _], _ => rfl)
  have KR_with_hour_pump_most_least_hour_tower := (r_with_hour h).kw (ks := ["pump", "most", "least", "hour", "tower"]) (fun _ _ _ _ _ _ us ws hl hw => match us, hl with | [_, _, _, _, _], _ => by cases hw; rfl)
  have k_with_hour_pump_most_least_hour_tower := (d_with_hour h).kw (ks := ["pump", "most", "least", "hour", "tower"]) (fun _ _ _ _ _ _ us ws hl hw => match us, hl with | [_, _, _, _, _], _ => by cases hw; rfl)
  have k_with_holds_holds_tower := (d_with_holds h).kw (ks := ["holds", "tower"]) (fun _ _ _ _ _ _ us ws hl hw => match us, hl with | [_, _], _ => by cases hw; rfl)
  have k_widths_tower := (d_widths h).kw (ks := ["tower"]) (fun _ _ _ _ _ _ us ws hl hw => match us, hl with | [_], _ => by cases hw; rfl)
  have k_hours_number_tower := (d_hours_number h).kw (ks := ["tower"]) (fun _ _ _ _ _ _ us ws hl hw => match us, hl with | [_], _ => by cases hw; rfl)
  refine def_ofT (N := N__law_right) (den := den__law_right) h.f__law_right (by decide +kernel) S._law_right_ok fun X B F tab => ?_
  have g_range_F := F.g (x := "range") (by decide +kernel)
  have l1_F := F.l (i := 1) (x := "turn") (by decide +kernel)
  have g__law_is_F := F.g (x := "_law_is") (by decide +kernel)
  have v5_F := F.v (i := 5) (x := "due") (by decide +kernel)
  have v13_F := F.v (i := 13) (x := "bad") (by decide +kernel)
  have v6_F := F.v (i := 6) (x := "had") (by decide +kernel)
  have v12_F := F.v (i := 12) (x := "none") (by decide +kernel)
  have v4_F := F.v (i := 4) (x := "hours") (by decide +kernel)
  have g_len_F := F.g (x := "len") (by decide +kernel)
  have v15_F := F.v (i := 15) (x := "high") (by decide +kernel)
  have v14_F := F.v (i := 14) (x := "odd") (by decide +kernel)
  have l5_F := F.l (i := 5) (x := "due") (by decide +kernel)
  have g__law_refused_F := F.g (x := "_law_refused") (by decide +kernel)
  have l6_F := F.l (i := 6) (x := "had") (by decide +kernel)
  have l15_F := F.l (i := 15) (x := "high") (by decide +kernel)
  have l14_F := F.l (i := 14) (x := "odd") (by decide +kernel)
  have g__law_of_F := F.g (x := "_law_of") (by decide +kernel)
  have v0_F := F.v (i := 0) (x := "well") (by decide +kernel)
  have l13_F := F.l (i := 13) (x := "bad") (by decide +kernel)
  have l12_F := F.l (i := 12) (x := "none") (by decide +kernel)
  have g__law_no_tower_F := F.g (x := "_law_no_tower") (by decide +kernel)
  have v2_F := F.v (i := 2) (x := "tower") (by decide +kernel)
  have g_with_hour_F := F.g (x := "with_hour") (by decide +kernel)
  have v8_F := F.v (i := 8) (x := "at") (by decide +kernel)
  have v9_F := F.v (i := 9) (x := "least") (by decide +kernel)
  have v11_F := F.v (i := 11) (x := "most") (by decide +kernel)
  have v10_F := F.v (i := 10) (x := "pump") (by decide +kernel)
  have g_is_tower_F := F.g (x := "is_tower") (by decide +kernel)
  have v3_F := F.v (i := 3) (x := "holds") (by decide +kernel)
  have g__law_draw_F := F.g (x := "_law_draw") (by decide +kernel)
  have l11_F := F.l (i := 11) (x := "most") (by decide +kernel)
  have l10_F := F.l (i := 10) (x := "pump") (by decide +kernel)
  have l9_F := F.l (i := 9) (x := "least") (by decide +kernel)
  have l8_F := F.l (i := 8) (x := "at") (by decide +kernel)
  have v7_F := F.v (i := 7) (x := "number") (by decide +kernel)
  have g_with_holds_F := F.g (x := "with_holds") (by decide +kernel)
  have l7_F := F.l (i := 7) (x := "number") (by decide +kernel)
  have g_widths_F := F.g (x := "widths") (by decide +kernel)
  have g_hours_number_F := F.g (x := "hours_number") (by decide +kernel)
  have g_tuple_F := F.g (x := "tuple") (by decide +kernel)
  have l4_F := F.l (i := 4) (x := "hours") (by decide +kernel)
  have l3_F := F.l (i := 3) (x := "holds") (by decide +kernel)
  have g__law_tower_F := F.g (x := "_law_tower") (by decide +kernel)
  have l2_F := F.l (i := 2) (x := "tower") (by decide +kernel)
  exact dss_cons (F.for_ (F.rg1 g_range_F h.b_range (da_cons (de_int) (da_nil) rfl) rfl) (F.tg_nm l1_F) (dss_cons (F.setF l2_F (F.call D__law_tower (by decide) g__law_tower_F (da_cons (v0_F.e) (da_cons (de_int) (da_cons (F.call D__law_of (by decide) g__law_of_F (da_cons (v0_F.e) (da_cons (de_tup (da_cons (de_int) (da_cons (de_int) (da_nil) rfl) rfl)) (da_nil) rfl) rfl) rfl rfl) (da_nil) rfl) rfl) rfl) rfl rfl) rfl) (dss_cons (F.unp (v2_F.e) (F.tg_tp (F.tgs_cons l3_F (F.tgs_cons l4_F (tgs_nil))) rfl rfl) rfl (rfl) rfl) (dss_cons (F.setF l5_F (F.tuple g_tuple_F h.b_tuple (dr_cons (F.lc (own := [("least", 9), ("most", 11), ("pump", 10)]) (F.seq (v4_F.e)) (by decide +kernel) (fun X1 F12 => by
      have l10_F12 := F12.l (i := 10) (x := "pump") (by decide +kernel)
      have l11_F12 := F12.l (i := 11) (x := "most") (by decide +kernel)
      have l9_F12 := F12.l (i := 9) (x := "least") (by decide +kernel)
      exact F12.tg_tp (F12.tgs_cons l9_F12 (F12.tgs_cons l11_F12 (F12.tgs_cons l10_F12 (tgs_nil)))) rfl rfl) (fun X1 F13 => by
      exact dts_nil) (fun X1 F14 => by
      have v11_F14 := F14.v (i := 11) (x := "most") (by decide +kernel)
      have v9_F14 := F14.v (i := 9) (x := "least") (by decide +kernel)
      exact F14.sub (v11_F14.e) (v9_F14.e)) (fun _ => rfl)) (da_nil) rfl) rfl) rfl) (dss_cons (F.set l6_F (de_lst (da_cons (F.call D_hours_number (by decide) g_hours_number_F (da_cons (v2_F.e) (da_nil) rfl) rfl rfl) (da_cons (F.callK (ps := ["tower"]) k_hours_number_tower (by decide) g_hours_number_F (dk_cons (v2_F.e) (dk_nil)) rfl) (da_cons (F.call D_widths (by decide) g_widths_F (da_cons (v2_F.e) (da_nil) rfl) rfl rfl) (da_cons (F.callK (ps := ["tower"]) k_widths_tower (by decide) g_widths_F (dk_cons (v2_F.e) (dk_nil)) rfl) (da_nil) rfl) rfl) rfl) rfl)) rfl) (dss_cons (ds_frz [6] (ds_if (dt_not (F.tru (F.call D__law_is (by decide) g__law_is_F (da_cons (v6_F.e) (da_cons (F.add (F.rep (de_lst (da_cons (F.len g_len_F h.b_len (dr_cons (v4_F.e) (da_nil) rfl) rfl) (da_nil) rfl)) (de_int)) (F.rep (de_lst (da_cons (v5_F.e) (da_nil) rfl)) (de_int))) (da_nil) rfl) rfl) rfl rfl) (fun _ => rfl))) (dss_cons (ds_ret (de_bl)) (dss_nil)) (dss_nil))) (dss_cons (F.setF l7_F (F.call D__law_of (by decide) g__law_of_F (da_cons (v0_F.e) (da_cons (de_tup (da_cons (de_int) (da_cons (de_int) (da_cons (F.add (de_int) (F.call D__law_draw (by decide) g__law_draw_F (da_cons (v0_F.e) (da_cons (de_int) (da_nil) rfl) rfl) rfl rfl)) (da_nil) rfl) rfl) rfl)) (da_nil) rfl) rfl) rfl rfl) rfl) (dss_cons (ds_if (dt_not (F.tru (F.call D__law_is (by decide) g__law_is_F (da_cons (de_lst (da_cons (F.call D_with_holds (by decide) g_with_holds_F (da_cons (v2_F.e) (da_cons (v7_F.e) (da_nil) rfl) rfl) rfl rfl) (da_cons (F.callK (ps := ["tower", "holds"]) k_with_holds_holds_tower (by decide) g_with_holds_F (dk_cons (v7_F.e) (dk_cons (v2_F.e) (dk_nil))) rfl) (da_nil) rfl) rfl)) (da_cons (F.rep (de_lst (da_cons (de_tup (da_cons (v7_F.e) (da_cons (v4_F.e) (da_nil) rfl) rfl)) (da_nil) rfl)) (de_int)) (da_nil) rfl) rfl) rfl rfl) (fun _ => rfl))) (dss_cons (ds_ret (de_bl)) (dss_nil)) (dss_nil)) (dss_cons (F.unp (de_tup (da_cons (F.call D__law_draw (by decide) g__law_draw_F (da_cons (v0_F.e) (da_cons (F.len g_len_F h.b_len (dr_cons (v4_F.e) (da_nil) rfl) rfl) (da_nil) rfl) rfl) rfl rfl) (da_cons (F.call D__law_draw (by decide) g__law_draw_F (da_cons (v0_F.e) (da_cons (de_int) (da_nil) rfl) rfl) rfl rfl) (da_cons (F.call D__law_draw (by decide) g__law_draw_F (da_cons (v0_F.e) (da_cons (de_int) (da_nil) rfl) rfl) rfl rfl) (da_nil) rfl) rfl) rfl)) (F.tg_tp (F.tgs_cons l8_F (F.tgs_cons l9_F (F.tgs_cons l10_F (tgs_nil)))) rfl rfl) rfl (F.sws rfl) rfl) (dss_cons (F.setF l11_F (F.add (v9_F.e) (F.call D__law_draw (by decide) g__law_draw_F (da_cons (v0_F.e) (da_cons (F.sub (de_int) (v9_F.e)) (da_nil) rfl) rfl) rfl rfl)) rfl) (dss_cons (F.setF l5_F (de_tup (da_cons (v3_F.e) (da_cons (F.add (F.add (F.sl (v4_F.e) (do_none) (do_some (v8_F.e))) (de_tup (da_cons (de_tup (da_cons (v9_F.e) (da_cons (v11_F.e) (da_cons (v10_F.e) (da_nil) rfl) rfl) rfl)) (da_nil) rfl))) (F.sl (v4_F.e) (do_some (F.add (v8_F.e) (de_int))) (do_none))) (da_nil) rfl) rfl)) rfl) (dss_cons (F.set l6_F (de_lst (da_cons (F.call D_with_hour (by decide) g_with_hour_F (da_cons (v2_F.e) (da_cons (v8_F.e) (da_cons (v9_F.e) (da_cons (v11_F.e) (da_cons (v10_F.e) (da_nil) rfl) rfl) rfl) rfl) rfl) rfl rfl) (da_cons (F.call D_is_tower (by decide) g_is_tower_F (da_cons (v5_F.e) (da_nil) rfl) rfl rfl) (da_nil) rfl) rfl)) rfl) (dss_cons (F.app_ v6_F (F.callK (ps := ["tower", "hour", "least", "most", "pump"]) k_with_hour_pump_most_least_hour_tower (by decide) g_with_hour_F (dk_cons (v10_F.e) (dk_cons (v11_F.e) (dk_cons (v9_F.e) (dk_cons (v8_F.e) (dk_cons (v2_F.e) (dk_nil)))))) rfl) rfl rfl) (dss_cons (ds_frz [6] (ds_if (dt_not (F.tru (F.call D__law_is (by decide) g__law_is_F (da_cons (v6_F.e) (da_cons (de_lst (da_cons (v5_F.e) (da_cons (de_bl) (da_cons (v5_F.e) (da_nil) rfl) rfl) rfl)) (da_nil) rfl) rfl) rfl rfl) (fun _ => rfl))) (dss_cons (ds_ret (de_bl)) (dss_nil)) (dss_nil))) (dss_cons (F.unp (de_tup (da_cons (F.call D__law_no_tower (by decide) g__law_no_tower_F (da_cons (v0_F.e) (da_cons (v2_F.e) (da_nil) rfl) rfl) rfl rfl) (da_cons (F.call D__law_of (by decide) g__law_of_F (da_cons (v0_F.e) (da_cons (de_tup (da_cons (de_neg (de_int)) (da_cons (de_int) (da_cons (de_bl) (da_cons (de_non) (da_cons (de_str) (da_nil) rfl) rfl) rfl) rfl) rfl)) (da_nil) rfl) rfl) rfl rfl) (da_nil) rfl) rfl)) (F.tg_tp (F.tgs_cons l12_F (F.tgs_cons l13_F (tgs_nil))) rfl rfl) rfl (F.sws rfl) rfl) (dss_cons (F.unp (de_tup (da_cons (F.call D__law_of (by decide) g__law_of_F (da_cons (v0_F.e) (da_cons (de_tup (da_cons (de_int) (da_cons (de_int) (da_cons (de_neg (de_int)) (da_cons (de_bl) (da_cons (de_non) (da_nil) rfl) rfl) rfl) rfl) rfl)) (da_nil) rfl) rfl) rfl rfl) (da_cons (F.call D__law_of (by decide) g__law_of_F (da_cons (v0_F.e) (da_cons (de_tup (da_cons (de_neg (de_int)) (da_cons (de_bl) (da_cons (de_non) (da_cons (de_str) (da_nil) rfl) rfl) rfl) rfl)) (da_nil) rfl) rfl) rfl rfl) (da_nil) rfl) rfl)) (F.tg_tp (F.tgs_cons l14_F (F.tgs_cons l15_F (tgs_nil))) rfl rfl) rfl (F.sws rfl) rfl) (dss_cons (F.set l6_F (de_lst (da_cons (F.callLR D__law_refused (by decide) g__law_refused_F (F.lam tab (N' := ["none"]) (ps := []) (fr := ["none"]) (js := [12]) (h.n_146_28) rfl (by decide +kernel) (by decide +kernel) (fun _ _ _ _ _ _ us hl => match us, hl with | [], _ => rfl)) (fun X1 B1 Ed1 G11 tk1 => by
      have g_hours_number_G11 := G11.g (x := "hours_number") (by decide +kernel)
      have v0_G11 := G11.v (i := 0) (x := "none") (by decide +kernel)
      exact G11.callR tk1 DR_hours_number (by decide) g_hours_number_G11 (da_cons (v0_G11.e) (da_nil) rfl) rfl rfl)) (da_nil) rfl)) rfl) (dss_cons (F.app_ v6_F (F.callLR D__law_refused (by decide) g__law_refused_F (F.lam tab (N' := ["none"]) (ps := []) (fr := ["none"]) (js := [12]) (h.n_147_32) rfl (by decide +kernel) (by decide +kernel) (fun _ _ _ _ _ _ us hl => match us, hl with | [], _ => rfl)) (fun X1 B1 Ed1 G10 tk1 => by
      have g_widths_G10 := G10.g (x := "widths") (by decide +kernel)
      have v0_G10 := G10.v (i := 0) (x := "none") (by decide +kernel)
      exact G10.callR tk1 DR_widths (by decide) g_widths_G10 (da_cons (v0_G10.e) (da_nil) rfl) rfl rfl)) rfl rfl) (dss_cons (F.app_ v6_F (F.callLR D__law_refused (by decide) g__law_refused_F (F.lam tab (N' := ["none", "odd"]) (ps := []) (fr := ["none", "odd"]) (js := [12, 14]) (h.n_148_32) rfl (by decide +kernel) (by decide +kernel) (fun _ _ _ _ _ _ us hl => match us, hl with | [], _ => rfl)) (fun X1 B1 Ed1 G9 tk1 => by
      have g_with_holds_G9 := G9.g (x := "with_holds") (by decide +kernel)
      have v1_G9 := G9.v (i := 1) (x := "odd") (by decide +kernel)
      have v0_G9 := G9.v (i := 0) (x := "none") (by decide +kernel)
      exact G9.callR tk1 DR_with_holds (by decide) g_with_holds_G9 (da_cons (v0_G9.e) (da_cons (v1_G9.e) (da_nil) rfl) rfl) rfl rfl)) rfl rfl) (dss_cons (F.app_ v6_F (F.callLR D__law_refused (by decide) g__law_refused_F (F.lam tab (N' := ["bad", "high", "none"]) (ps := []) (fr := ["bad", "high", "none"]) (js := [13, 15, 12]) (h.n_149_32) rfl (by decide +kernel) (by decide +kernel) (fun _ _ _ _ _ _ us hl => match us, hl with | [], _ => rfl)) (fun X1 B1 Ed1 G8 tk1 => by
      have g_with_hour_G8 := G8.g (x := "with_hour") (by decide +kernel)
      have v2_G8 := G8.v (i := 2) (x := "none") (by decide +kernel)
      have v1_G8 := G8.v (i := 1) (x := "high") (by decide +kernel)
      have v0_G8 := G8.v (i := 0) (x := "bad") (by decide +kernel)
      exact G8.callKR tk1 (ps := ["tower", "hour", "least", "most", "pump"]) KR_with_hour_pump_most_least_hour_tower (by decide) g_with_hour_G8 (dk_cons (v0_G8.e) (dk_cons (v0_G8.e) (dk_cons (v0_G8.e) (dk_cons (v1_G8.e) (dk_cons (v2_G8.e) (dk_nil)))))) rfl)) rfl rfl) (dss_cons (F.app_ v6_F (F.callLR D__law_refused (by decide) g__law_refused_F (F.lam tab (N' := ["tower", "odd"]) (ps := []) (fr := ["tower", "odd"]) (js := [2, 14]) (h.n_150_32) rfl (by decide +kernel) (by decide +kernel) (fun _ _ _ _ _ _ us hl => match us, hl with | [], _ => rfl)) (fun X1 B1 Ed1 G7 tk1 => by
      have g_with_holds_G7 := G7.g (x := "with_holds") (by decide +kernel)
      have v1_G7 := G7.v (i := 1) (x := "odd") (by decide +kernel)
      have v0_G7 := G7.v (i := 0) (x := "tower") (by decide +kernel)
      exact G7.callR tk1 DR_with_holds (by decide) g_with_holds_G7 (da_cons (v0_G7.e) (da_cons (v1_G7.e) (da_nil) rfl) rfl) rfl rfl)) rfl rfl) (dss_cons (F.app_ v6_F (F.callLR D__law_refused (by decide) g__law_refused_F (F.lam tab (N' := ["tower", "high", "bad"]) (ps := []) (fr := ["tower", "high", "bad"]) (js := [2, 15, 13]) (h.n_151_32) rfl (by decide +kernel) (by decide +kernel) (fun _ _ _ _ _ _ us hl => match us, hl with | [], _ => rfl)) (fun X1 B1 Ed1 G6 tk1 => by
      have g_with_hour_G6 := G6.g (x := "with_hour") (by decide +kernel)
      have v2_G6 := G6.v (i := 2) (x := "bad") (by decide +kernel)
      have v1_G6 := G6.v (i := 1) (x := "high") (by decide +kernel)
      have v0_G6 := G6.v (i := 0) (x := "tower") (by decide +kernel)
      exact G6.callR tk1 DR_with_hour (by decide) g_with_hour_G6 (da_cons (v0_G6.e) (da_cons (v1_G6.e) (da_cons (v2_G6.e) (da_cons (v2_G6.e) (da_cons (v2_G6.e) (da_nil) rfl) rfl) rfl) rfl) rfl) rfl rfl)) rfl rfl) (dss_cons (F.app_ v6_F (F.callLR D__law_refused (by decide) g__law_refused_F (F.lam tab (N' := ["tower", "bad", "hours"]) (ps := []) (fr := ["tower", "bad", "hours"]) (js := [2, 13, 4]) (h.n_152_32) rfl (by decide +kernel) (by decide +kernel) (fun _ _ _ _ _ _ us hl => match us, hl with | [], _ => rfl)) (fun X1 B1 Ed1 G5 tk1 => by
      have g_with_hour_G5 := G5.g (x := "with_hour") (by decide +kernel)
      have v1_G5 := G5.v (i := 1) (x := "bad") (by decide +kernel)
      have v2_G5 := G5.v (i := 2) (x := "hours") (by decide +kernel)
      have g_len_G5 := G5.g (x := "len") (by decide +kernel)
      have v0_G5 := G5.v (i := 0) (x := "tower") (by decide +kernel)
      exact G5.callR tk1 DR_with_hour (by decide) g_with_hour_G5 (da_cons (v0_G5.e) (da_cons (G5.len g_len_G5 h.b_len (dr_cons (v2_G5.e) (da_nil) rfl) rfl) (da_cons (v1_G5.e) (da_cons (v1_G5.e) (da_cons (v1_G5.e) (da_nil) rfl) rfl) rfl) rfl) rfl) rfl rfl)) rfl rfl) (dss_cons (F.app_ v6_F (F.callLR D__law_refused (by decide) g__law_refused_F (F.lam tab (N' := ["tower", "at", "bad"]) (ps := []) (fr := ["tower", "at", "bad"]) (js := [2, 8, 13]) (h.n_153_32) rfl (by decide +kernel) (by decide +kernel) (fun _ _ _ _ _ _ us hl => match us, hl with | [], _ => rfl)) (fun X1 B1 Ed1 G4 tk1 => by
      have g_with_hour_G4 := G4.g (x := "with_hour") (by decide +kernel)
      have v2_G4 := G4.v (i := 2) (x := "bad") (by decide +kernel)
      have v1_G4 := G4.v (i := 1) (x := "at") (by decide +kernel)
      have v0_G4 := G4.v (i := 0) (x := "tower") (by decide +kernel)
      exact G4.callR tk1 DR_with_hour (by decide) g_with_hour_G4 (da_cons (v0_G4.e) (da_cons (v1_G4.e) (da_cons (v2_G4.e) (da_cons (de_int) (da_cons (de_int) (da_nil) rfl) rfl) rfl) rfl) rfl) rfl rfl)) rfl rfl) (dss_cons (F.app_ v6_F (F.callLR D__law_refused (by decide) g__law_refused_F (F.lam tab (N' := ["tower", "at", "bad"]) (ps := []) (fr := ["tower", "at", "bad"]) (js := [2, 8, 13]) (h.n_154_32) rfl (by decide +kernel) (by decide +kernel) (fun _ _ _ _ _ _ us hl => match us, hl with | [], _ => rfl)) (fun X1 B1 Ed1 G3 tk1 => by
      have g_with_hour_G3 := G3.g (x := "with_hour") (by decide +kernel)
      have v2_G3 := G3.v (i := 2) (x := "bad") (by decide +kernel)
      have v1_G3 := G3.v (i := 1) (x := "at") (by decide +kernel)
      have v0_G3 := G3.v (i := 0) (x := "tower") (by decide +kernel)
      exact G3.callR tk1 DR_with_hour (by decide) g_with_hour_G3 (da_cons (v0_G3.e) (da_cons (v1_G3.e) (da_cons (de_int) (da_cons (v2_G3.e) (da_cons (v2_G3.e) (da_nil) rfl) rfl) rfl) rfl) rfl) rfl rfl)) rfl rfl) (dss_cons (F.app_ v6_F (F.callLR D__law_refused (by decide) g__law_refused_F (F.lam tab (N' := ["tower", "at", "bad"]) (ps := []) (fr := ["tower", "at", "bad"]) (js := [2, 8, 13]) (h.n_155_32) rfl (by decide +kernel) (by decide +kernel) (fun _ _ _ _ _ _ us hl => match us, hl with | [], _ => rfl)) (fun X1 B1 Ed1 G2 tk1 => by
      have g_with_hour_G2 := G2.g (x := "with_hour") (by decide +kernel)
      have v2_G2 := G2.v (i := 2) (x := "bad") (by decide +kernel)
      have v1_G2 := G2.v (i := 1) (x := "at") (by decide +kernel)
      have v0_G2 := G2.v (i := 0) (x := "tower") (by decide +kernel)
      exact G2.callR tk1 DR_with_hour (by decide) g_with_hour_G2 (da_cons (v0_G2.e) (da_cons (v1_G2.e) (da_cons (de_int) (da_cons (de_int) (da_cons (v2_G2.e) (da_nil) rfl) rfl) rfl) rfl) rfl) rfl rfl)) rfl rfl) (dss_cons (F.app_ v6_F (F.callLR D__law_refused (by decide) g__law_refused_F (F.lam tab (N' := ["bad", "at", "tower"]) (ps := []) (fr := ["bad", "at", "tower"]) (js := [13, 8, 2]) (h.n_156_32) rfl (by decide +kernel) (by decide +kernel) (fun _ _ _ _ _ _ us hl => match us, hl with | [], _ => rfl)) (fun X1 B1 Ed1 G1 tk1 => by
      have g_with_hour_G1 := G1.g (x := "with_hour") (by decide +kernel)
      have v2_G1 := G1.v (i := 2) (x := "tower") (by decide +kernel)
      have v1_G1 := G1.v (i := 1) (x := "at") (by decide +kernel)
      have v0_G1 := G1.v (i := 0) (x := "bad") (by decide +kernel)
      exact G1.callKR tk1 (ps := ["tower", "hour", "least", "most", "pump"]) KR_with_hour_pump_most_least_hour_tower (by decide) g_with_hour_G1 (dk_cons (v0_G1.e) (dk_cons (de_int) (dk_cons (de_int) (dk_cons (v1_G1.e) (dk_cons (v2_G1.e) (dk_nil)))))) rfl)) rfl rfl) (dss_cons (F.setF l5_F (F.add (F.rep (de_lst (da_cons (de_lst (da_cons (de_str) (da_cons (v12_F.e) (da_nil) rfl) rfl)) (da_nil) rfl)) (de_int)) (de_lst (da_cons (de_lst (da_cons (de_str) (da_cons (v14_F.e) (da_nil) rfl) rfl)) (da_cons (de_lst (da_cons (de_str) (da_cons (v15_F.e) (da_nil) rfl) rfl)) (da_cons (de_lst (da_cons (de_str) (da_cons (F.len g_len_F h.b_len (dr_cons (v4_F.e) (da_nil) rfl) rfl) (da_nil) rfl) rfl)) (da_nil) rfl) rfl) rfl))) rfl) (dss_cons (ds_frz [6] (ds_if (dt_not (F.tru (F.call D__law_is (by decide) g__law_is_F (da_cons (v6_F.e) (da_cons (F.add (F.add (v5_F.e) (F.rep (de_lst (da_cons (de_lst (da_cons (de_str) (da_cons (v13_F.e) (da_nil) rfl) rfl)) (da_nil) rfl)) (de_int))) (de_lst (da_cons (de_lst (da_cons (de_str) (da_cons (de_int) (da_nil) rfl) rfl)) (da_cons (de_lst (da_cons (de_str) (da_cons (v13_F.e) (da_nil) rfl) rfl)) (da_nil) rfl) rfl))) (da_nil) rfl) rfl) rfl rfl) (fun _ => rfl))) (dss_cons (ds_ret (de_bl)) (dss_nil)) (dss_nil))) (dss_nil))))))))))))))))))))))))))))) (fun _ => rfl)) (dss_cons (ds_ret (de_bl)) (dss_nil))
theorem d_law {C : CC} (h : HF C) : DefX C (topSt 38) 29 "law" ["script"] S.law := by
  have D__law_right := (d__law_right h).dd (fun _ _ _ _ _ _ us hl => match us, hl with | [_], _ => rfl)
  have D__law_well := (d__law_well h).dd (fun _ _ _ _ _ _ us hl => match us, hl with | [_, _], _ => rfl)
  refine def_of (N := N_law) (den := den_law) h.f_law (by decide +kernel) S.law_ok fun X B F => ?_
  have v0_F := F.v (i := 0) (x := "script") (by decide +kernel)
  have g_len_F := F.g (x := "len") (by decide +kernel)
  have g_min_F := F.g (x := "min") (by decide +kernel)
  have g_max_F := F.g (x := "max") (by decide +kernel)
  have g_range_F := F.g (x := "range") (by decide +kernel)
  have g_all_F := F.g (x := "all") (by decide +kernel)
  exact dss_cons (ds_ret (F.all g_all_F h.b_all (dr_cons (F.lc (own := [("lap", 1)]) (F.rg1 g_range_F h.b_range (da_cons (F.max g_max_F h.b_max (dr_cons (de_int) (dr_cons (F.min g_min_F h.b_min (dr_cons (F.len g_len_F h.b_len (dr_cons (v0_F.e) (da_nil) rfl) rfl) (dr_cons (de_int) (da_nil) rfl) rfl) rfl rfl) (da_nil) rfl) rfl) rfl rfl) (da_nil) rfl) rfl) (by decide +kernel) (fun X1 F1 => by
      have l1_F1 := F1.l (i := 1) (x := "lap") (by decide +kernel)
      exact F1.tg_nm l1_F1) (fun X1 F2 => by
      exact dts_nil) (fun X1 F3 => by
      have g__law_right_F3 := F3.g (x := "_law_right") (by decide +kernel)
      have g__law_well_F3 := F3.g (x := "_law_well") (by decide +kernel)
      have v1_F3 := F3.v (i := 1) (x := "lap") (by decide +kernel)
      have v0_F3 := F3.v (i := 0) (x := "script") (by decide +kernel)
      exact F3.call D__law_right (by decide) g__law_right_F3 (da_cons (F3.call D__law_well (by decide) g__law_well_F3 (da_cons (v0_F3.e) (da_cons (v1_F3.e) (da_nil) rfl) rfl) rfl rfl) (da_nil) rfl) rfl rfl) (fun _ => rfl)) (da_nil) rfl) rfl)) (dss_nil)
def hNm : List (Nat × Nat × Str) := [(45, 48, "is_tower_form.<locals>.<lambda>"), (156, 32, "_law_right.<locals>.<lambda>"), (155, 32, "_law_right.<locals>.<lambda>"), (154, 32, "_law_right.<locals>.<lambda>"), (153, 32, "_law_right.<locals>.<lambda>"), (152, 32, "_law_right.<locals>.<lambda>"), (151, 32, "_law_right.<locals>.<lambda>"), (150, 32, "_law_right.<locals>.<lambda>"), (149, 32, "_law_right.<locals>.<lambda>"), (148, 32, "_law_right.<locals>.<lambda>"), (147, 32, "_law_right.<locals>.<lambda>"), (146, 28, "_law_right.<locals>.<lambda>")]
theorem errB0_eq : errB0 = errB := rfl
structure HX (K : PySem.W.Frag) : Prop where
  InvalidTower : errB K "InvalidTower" "given" = true
  InvalidNumber : errB K "InvalidNumber" "given" = true
  OutOfRange : errB K "OutOfRange" "given" = true
theorem hx_of {K : PySem.W.Frag} (h : hEx K = true) : HX K := by
  unfold hEx at h
  rw [errB0_eq] at h
  simp only [Bool.and_eq_true] at h
  obtain ⟨h0, h1, h2⟩ := h
  exact ⟨h0, h1, h2⟩
theorem hf_of {h : Heap} {C : CC} (k : HK hFa hFn hTf h C) (hn : C.nm = nmOf hNm) (hx : HX C.K) : HF C :=
  ⟨k.hd 0 0 rfl rfl,
   k.hd 1 1 rfl rfl,
   k.hd 2 2 rfl rfl,
   k.hd 3 3 rfl rfl,
   k.hd 4 4 rfl rfl,
   k.hd 5 5 rfl rfl,
   k.ht 6 6 rfl rfl (by decide +kernel),
   k.hd 7 7 rfl rfl,
   k.hd 8 8 rfl rfl,
   k.hd 9 9 rfl rfl,
   k.hd 10 10 rfl rfl,
   k.hd 11 11 rfl rfl,
   k.hd 12 12 rfl rfl,
   k.hd 13 13 rfl rfl,
   k.hd 14 14 rfl rfl,
   k.hd 15 15 rfl rfl,
   k.hd 16 16 rfl rfl,
   k.hd 17 17 rfl rfl,
   k.hd 18 18 rfl rfl,
   k.hd 19 19 rfl rfl,
   k.hd 20 20 rfl rfl,
   k.hd 21 21 rfl rfl,
   k.hd 22 22 rfl rfl,
   k.hd 23 23 rfl rfl,
   k.ht 24 24 rfl rfl (by decide +kernel),
   k.hd 25 25 rfl rfl,
   by rw [hn]; decide +kernel,
   by rw [hn]; decide +kernel,
   by rw [hn]; decide +kernel,
   by rw [hn]; decide +kernel,
   by rw [hn]; decide +kernel,
   by rw [hn]; decide +kernel,
   by rw [hn]; decide +kernel,
   by rw [hn]; decide +kernel,
   by rw [hn]; decide +kernel,
   by rw [hn]; decide +kernel,
   by rw [hn]; decide +kernel,
   by rw [hn]; decide +kernel,
   k.it 26 rfl,
   k.it 27 rfl,
   k.it 28 rfl,
   HK.txt (st := clsMeth0 (topSt 2) 0) k (show errB C.K "InvalidTower" "given" = true from hx.InvalidTower) 26 43 rfl rfl rfl rfl rfl,
   HK.txt (st := clsMeth0 (topSt 3) 0) k (show errB C.K "InvalidNumber" "given" = true from hx.InvalidNumber) 27 44 rfl rfl rfl rfl rfl,
   HK.txt (st := clsMeth0 (topSt 4) 0) k (show errB C.K "OutOfRange" "given" = true from hx.OutOfRange) 28 45 rfl rfl rfl rfl rfl,
   (subT_ok fun t ht => by
    simp only [List.mem_cons, List.not_mem_nil, or_false] at ht
    rcases ht with rfl | rfl | rfl | rfl | rfl | rfl
    · exact HK.exm k 46 rfl 43 43 rfl rfl
    · exact HK.exm k 47 rfl 44 43 rfl rfl
    · exact HK.exm k 48 rfl 44 44 rfl rfl
    · exact HK.exm k 49 rfl 45 43 rfl rfl
    · exact HK.exm k 50 rfl 45 44 rfl rfl
    · exact HK.exm k 51 rfl 45 45 rfl rfl),
   k.fr 29 rfl,
   k.fr 30 rfl,
   k.fr 31 rfl,
   k.fr 32 rfl,
   k.fr 33 rfl,
   k.fr 34 rfl,
   k.fr 35 rfl,
   k.fr 36 rfl,
   k.fr 37 rfl,
   k.fr 38 rfl,
   k.fr 39 rfl,
   k.fr 40 rfl,
   k.fr 41 rfl,
   k.fr 42 rfl⟩
theorem bnd1 (kV doc pm : Value) (an : Option Addr) (cdv ct : Value) (us : List Value) (hl : us.length = (["script"] : List Str).length) : bindArgs (PySem.W.fnOf "law" "law" (defArgs (topSt 38)) (defBody (topSt 38)) (defScope (topSt 38)) .none kV doc pm an cdv ct) ⟨us, []⟩ = pure ((["script"] : List Str).zip us) := match us, hl with | [_], _ => rfl
end TL
open PySem PySem.W PySem.Calls PyProof.Rows
theorem PySem.Challenge.cw_towerlooks_k03_whole_towers_changed_holds : PySem.Challenge.rw_towerlooks_k03_whole_towers_changed.Holds := by
  w_on; o_law
  refine HandSHeadRun.head_any (r := TL.hRow) (q := TL.hQ) (H := TL.hHk) (ob := TL.hOb) (M := 6000) (loose := TL.hLo) (d := HandSHeadRun.topDef TL.hRow.prog 38) (kwd := []) TL.hOb_eq (by kernel_rfl) (fun s => by kernel_rfl) TL.hRun (by kernel_rfl) (by kernel_rfl) (by kernel_rfl) (by rfl) (by first | assumption | decide +kernel) (by decide +kernel) ⟨rfl, rfl, rfl, rfl, rfl, by decide +kernel⟩ ?hw ?hc
  case hw => w_witness2
  case hc =>
    exact TL.walk_endX (sp := TL.S.law) (st := TL.topSt 38) (k := 29) (TL.nmOf TL.hNm) TL.hEx rfl (by kernel_rfl) (by kernel_rfl) ⟨rfl, by decide, by decide⟩ (fun h C _ hn k hx => TL.d_law (TL.hf_of k hn (TL.hx_of hx))) TL.bnd1 fun ns hs => ⟨ns, rfl, hs.1, rfl⟩
