import PyProof.Rows.All
import Wide.All
import OpenK.AllK
import Wide.FinOn
import KE.KStateDown
import KE.SortKeyHeap
import KE.SortData
import HandS.ForMost
import HandS.Exc
import HandS.Defaults
import HandS.MakeKw
import HandS.MakeKwOnly
import HandS.IsInst
import HandS.TupAny
import HandS.TupMul
import HandS.Zip
import HandS.Deep
import HandS.Conv
import HandS.Nested
import HandS.NestedK
import HandS.Lambda
import HandS.SortKw
import HandS.Small
import HandS.Walk
import HandS.Style
import HandS.Codes
import HandS.Strs
import HandS.SetKeys
import HandS.More
import HandS.Flow
import PyProof.ListMulRoad
import PyProof.FactsAll.tuple_2
import KE.DataMinMax
import KE.GoesZip
import KE.GoesEnum
import HandS.Words
import HandS.EndBits
import HandS.EndTab
import HandS.Head0
import HandS.Head1
import HandS.Head2
import HandS.HeadEnd
import HandS.HeadHook1
import HandS.HeadHook2
import HandS.HeadHook3
import HandS.HeadHook4
import HandS.HeadWalk
import PyProof.NeKinds
import KE.KEqSeq
import KE.KDictPairs
import HandS.CallLocal
import HandS.Set
import HandS.SetFor
import KE.KSortKey
import PySem.Challenge.RW_crewlags_k65_whole_starts_that_are_close
/-! DlA -/
set_option Elab.async false
set_option linter.all false
set_option maxRecDepth 100000
set_option maxHeartbeats 4000000
namespace DL
open PySem PySem.Spec PyProof.Rows L2

/-! ### data -/
/-- who may change an object: nobody, the law's draws (a well), the running def alone -/
inductive Md where
  | imm | well | own
  deriving DecidableEq
/-- a value with all that it reaches -/
inductive Dat where
  | non | bl (b : Bool) | int (i : Int) | str (x : Str)
  | tup (ds : List Dat) | lst (ds : List Dat) | dct (kvs : List (Key × Dat)) | ins (C : Addr) (fs : List (Str × Dat))
  | well | fn (n : Nat) (ds : List Dat) | gl (a : Addr) | ty (n : String)
/-- a lambda of the text -/
structure LT where
  qual : Str
  params : Arguments
  body : Expr
  scope : Scope
def LamO (f : Addr) (L : LT) (cl : List (Str × Addr)) (c : Addr) : HO := .ext fun h => ∃ pm ctv : Value, h.get? f = some (PySem.W.kla_obj "<lambda>" L.qual L.params L.body L.scope cl pm c ctv)
/-- the well's three numbers -/
def WellAt (H : Hp) (a : Addr) : Prop := ∃ x y z : Int, H a = some (.lst [.int x, .int y, .int z]) ∧ 0 ≤ x ∧ 0 ≤ y ∧ y < 2147483647 ∧ 0 ≤ z
/-- a written tuple -/
def KT (K : PySem.W.Frag) (a : Addr) (xs : List V) : Prop := SqT K (fun _ => none) a xs
/-- a captured cell, locked while a callee runs -/
def CellH (md : Addr → Md) (H : Hp) (a : Addr) (v : V) : Prop := md a = .imm ∧ ∃ (o : Obj) (u : Value), H a = some (.frz o (.own a)) ∧ o.data = .cell (some u) ∧ RelV v u
def NT (o : HO) : Prop := ∀ ps, o ≠ .tbl ps

mutual
inductive D (K : PySem.W.Frag) (lt : Nat → LT) (md : Addr → Md) (H : Hp) : V → Dat → Prop
  | non : D K lt md H .non .non
  | bl (b : Bool) : D K lt md H (.bl b) (.bl b)
  | int (i : Int) : D K lt md H (.int i) (.int i)
  | str (x : Str) : D K lt md H (.str x) (.str x)
  | ty (n : String) : D K lt md H (.ty n) (.ty n)
  | gl (a : Addr) : D K lt md H (.ref a) (.gl a)
  | tup {a : Addr} {xs : List V} {ds : List Dat} : md a = .imm → H a = some (.tup xs) → DA K lt md H xs ds → D K lt md H (.ref a) (.tup ds)
  | tupK {a : Addr} {xs : List V} {ds : List Dat} : KT K a xs → DA K lt md H xs ds → D K lt md H (.ref a) (.tup ds)
  | tupF {a : Addr} {xs : List V} {ds : List Dat} {o : Obj} : md a = .imm → H a = some (.frz o (.tup xs)) → DA K lt md H xs ds → D K lt md H (.ref a) (.tup ds)
  | ptp {a : Addr} {xs : List V} {ds : List Dat} {o : Obj} : md a = .imm → H a = some (.frz o (.tup xs)) → o.dict = none → DA K lt md H xs ds → D K lt md H (.ref a) (.fn 777 ds)
  | lst {a : Addr} {xs : List V} {ds : List Dat} : md a = .imm → H a = some (.lst xs) → DA K lt md H xs ds → D K lt md H (.ref a) (.lst ds)
  | dct {a : Addr} {xs : List (Key × V)} {ds : List (Key × Dat)} : md a = .imm → H a = some (.dK xs) → DK K lt md H xs ds → D K lt md H (.ref a) (.dct ds)
  | ins {a C dx : Addr} {xs : List (Str × V)} {ds : List (Str × Dat)} : md a = .imm → H a = some (.ins C dx xs) → DF K lt md H xs ds → D K lt md H (.ref a) (.ins C ds)
  | well {a : Addr} : md a = .well → WellAt H a → D K lt md H (.ref a) .well
  | fn {f c : Addr} {n : Nat} {cl : List (Str × Addr)} {vs : List V} {ds : List Dat} : n < 700 → md f = .imm → H f = some (LamO f (lt n) cl c) → md c = .imm → H c = some (LamX.CodeO c (lt n).qual) →
      Paired (fun (q : Str × Addr) v => CellH md H q.2 v) cl vs → DA K lt md H vs ds → D K lt md H (.ref f) (.fn n ds)
inductive DA (K : PySem.W.Frag) (lt : Nat → LT) (md : Addr → Md) (H : Hp) : List V → List Dat → Prop
  | nil : DA K lt md H [] []
  | cons {v : V} {vs : List V} {d : Dat} {ds : List Dat} : D K lt md H v d → DA K lt md H vs ds → DA K lt md H (v :: vs) (d :: ds)
inductive DK (K : PySem.W.Frag) (lt : Nat → LT) (md : Addr → Md) (H : Hp) : List (Key × V) → List (Key × Dat) → Prop
  | nil : DK K lt md H [] []
  | cons {k : Key} {v : V} {vs : List (Key × V)} {d : Dat} {ds : List (Key × Dat)} : D K lt md H v d → DK K lt md H vs ds → DK K lt md H ((k, v) :: vs) ((k, d) :: ds)
inductive DF (K : PySem.W.Frag) (lt : Nat → LT) (md : Addr → Md) (H : Hp) : List (Str × V) → List (Str × Dat) → Prop
  | nil : DF K lt md H [] []
  | cons {k : Str} {v : V} {vs : List (Str × V)} {d : Dat} {ds : List (Str × Dat)} : D K lt md H v d → DF K lt md H vs ds → DF K lt md H ((k, v) :: vs) ((k, d) :: ds)
end

/-- what data lean on stays -/
structure XD (md : Addr → Md) (H : Hp) (md' : Addr → Md) (H' : Hp) : Prop where
  imm : ∀ a o, md a = .imm → H a = some o → NT o → md' a = .imm ∧ H' a = some o
  wel : ∀ a, md a = .well → WellAt H a → md' a = .well ∧ WellAt H' a
theorem XD.refl (md : Addr → Md) (H : Hp) : XD md H md H := ⟨fun _ _ h e _ => ⟨h, e⟩, fun _ h e => ⟨h, e⟩⟩
theorem XD.trans {md md1 md2 : Addr → Md} {H H1 H2 : Hp} (a : XD md H md1 H1) (b : XD md1 H1 md2 H2) : XD md H md2 H2 :=
  ⟨fun c o h e n => let ⟨h1, e1⟩ := a.imm c o h e n; b.imm c o h1 e1 n, fun c h e => let ⟨h1, e1⟩ := a.wel c h e; b.wel c h1 e1⟩

section
variable {K : PySem.W.Frag} {lt : Nat → LT} {md md' : Addr → Md} {H H' : Hp}
theorem nt_tup {xs : List V} : NT (.tup xs) := fun _ z => by cases z
theorem nt_lst {xs : List V} : NT (.lst xs) := fun _ z => by cases z
theorem nt_dK {xs : List (Key × V)} : NT (.dK xs) := fun _ z => by cases z
theorem nt_ins {C dx : Addr} {xs : List (Str × V)} : NT (.ins C dx xs) := fun _ z => by cases z
theorem nt_own {x : Addr} : NT (.own x) := fun _ z => by cases z
theorem nt_lam {f c : Addr} {L : LT} {cl : List (Str × Addr)} : NT (LamO f L cl c) := fun _ z => by unfold LamO at z; cases z
theorem nt_code {c : Addr} {q : Str} : NT (LamX.CodeO c q) := LamX.codeO_ne
theorem nt_frz {o : Obj} {u : HO} : NT (.frz o u) := fun _ z => by cases z
theorem CellH.monoX {a : Addr} {v : V} (x : XD md H md' H') (c : CellH md H a v) : CellH md' H' a v := by
  obtain ⟨h, o, u, e, r⟩ := c
  obtain ⟨h1, e1⟩ := x.imm a _ h e nt_frz
  exact ⟨h1, o, u, e1, r⟩
mutual
theorem D.monoX (x : XD md H md' H') : ∀ {v : V} {d : Dat}, D K lt md H v d → D K lt md' H' v d
  | _, _, .non => .non
  | _, _, .bl b => .bl b
  | _, _, .int i => .int i
  | _, _, .str y => .str y
  | _, _, .ty n => .ty n
  | _, _, .gl a => .gl a
  | _, _, .tup h e r => .tup (x.imm _ _ h e nt_tup).1 (x.imm _ _ h e nt_tup).2 (DA.monoX x r)
  | _, _, .tupK e r => .tupK e (DA.monoX x r)
  | _, _, .tupF h e r => .tupF (x.imm _ _ h e nt_frz).1 (x.imm _ _ h e nt_frz).2 (DA.monoX x r)
  | _, _, .ptp h e z r => .ptp (x.imm _ _ h e nt_frz).1 (x.imm _ _ h e nt_frz).2 z (DA.monoX x r)
  | _, _, .lst h e r => .lst (x.imm _ _ h e nt_lst).1 (x.imm _ _ h e nt_lst).2 (DA.monoX x r)
  | _, _, .dct h e r => .dct (x.imm _ _ h e nt_dK).1 (x.imm _ _ h e nt_dK).2 (DK.monoX x r)
  | _, _, .ins h e r => .ins (x.imm _ _ h e nt_ins).1 (x.imm _ _ h e nt_ins).2 (DF.monoX x r)
  | _, _, .well h e => .well (x.wel _ h e).1 (x.wel _ h e).2
  | _, _, .fn hn h e h2 e2 c r => .fn hn (x.imm _ _ h e nt_lam).1 (x.imm _ _ h e nt_lam).2 (x.imm _ _ h2 e2 nt_code).1 (x.imm _ _ h2 e2 nt_code).2 (Paired.mapP c fun _ _ q => q.monoX x) (DA.monoX x r)
theorem DA.monoX (x : XD md H md' H') : ∀ {v : List V} {d : List Dat}, DA K lt md H v d → DA K lt md' H' v d
  | _, _, .nil => .nil
  | _, _, .cons h r => .cons (D.monoX x h) (DA.monoX x r)
theorem DK.monoX (x : XD md H md' H') : ∀ {v : List (Key × V)} {d : List (Key × Dat)}, DK K lt md H v d → DK K lt md' H' v d
  | _, _, .nil => .nil
  | _, _, .cons h r => .cons (D.monoX x h) (DK.monoX x r)
theorem DF.monoX (x : XD md H md' H') : ∀ {v : List (Str × V)} {d : List (Str × Dat)}, DF K lt md H v d → DF K lt md' H' v d
  | _, _, .nil => .nil
  | _, _, .cons h r => .cons (D.monoX x h) (DF.monoX x r)
end
theorem DA.len : ∀ {v : List V} {d : List Dat}, DA K lt md H v d → v.length = d.length
  | _, _, .nil => rfl
  | _, _, .cons _ r => congrArg Nat.succ r.len
theorem DA.get : ∀ {v : List V} {d : List Dat} {i : Nat} {x : Dat}, DA K lt md H v d → d[i]? = some x → ∃ y, v[i]? = some y ∧ D K lt md H y x
  | _, _, _, _, .nil, e => by simp at e
  | _, _, 0, _, .cons h _, e => by simp at e; subst e; exact ⟨_, rfl, h⟩
  | _, _, i + 1, _, .cons _ r, e => by
    obtain ⟨y, h1, h2⟩ := DA.get (i := i) r (by simpa using e)
    exact ⟨y, by simpa using h1, h2⟩
theorem DA.app : ∀ {v v' : List V} {d d' : List Dat}, DA K lt md H v d → DA K lt md H v' d' → DA K lt md H (v ++ v') (d ++ d')
  | _, _, _, _, .nil, s => s
  | _, _, _, _, .cons h r, s => .cons h (DA.app r s)
theorem DA.take : ∀ {v : List V} {d : List Dat} (n : Nat), DA K lt md H v d → DA K lt md H (v.take n) (d.take n)
  | _, _, 0, _ => by simp only [List.take_zero]; exact .nil
  | _, _, _ + 1, .nil => .nil
  | _, _, n + 1, .cons h r => .cons h (DA.take n r)
theorem DA.drop : ∀ {v : List V} {d : List Dat} (n : Nat), DA K lt md H v d → DA K lt md H (v.drop n) (d.drop n)
  | _, _, 0, r => r
  | _, _, _ + 1, .nil => .nil
  | _, _, n + 1, .cons _ r => DA.drop n r
theorem DA.set {y : V} {x : Dat} (h : D K lt md H y x) : ∀ {v : List V} {d : List Dat} (i : Nat), DA K lt md H v d → DA K lt md H (v.set i y) (d.set i x)
  | _, _, _, .nil => .nil
  | _, _, 0, .cons _ r => .cons h r
  | _, _, i + 1, .cons q r => .cons q (DA.set h i r)
theorem DF.look : ∀ {v : List (Str × V)} {d : List (Str × Dat)} {f : Str} {x : Dat}, DF K lt md H v d → d.lookup f = some x → ∃ y, v.lookup f = some y ∧ D K lt md H y x
  | _, _, _, _, .nil, e => by simp at e
  | _, _, f, x, .cons (k := k) h r, e => by
    rw [List.lookup_cons] at e ⊢
    cases q : f == k with
    | true => rw [q] at e; simp at e; subst e; exact ⟨_, rfl, h⟩
    | false => rw [q] at e; simp only at e ⊢; exact DF.look r e
theorem DF.none_ : ∀ {v : List (Str × V)} {d : List (Str × Dat)} {f : Str}, DF K lt md H v d → d.lookup f = none → v.lookup f = none
  | _, _, _, .nil, _ => rfl
  | _, _, f, .cons (k := k) h r, e => by
    rw [List.lookup_cons] at e ⊢
    cases q : f == k with
    | true => rw [q] at e; simp at e
    | false => rw [q] at e; simp only at e ⊢; exact DF.none_ r e
theorem DF.len : ∀ {v : List (Str × V)} {d : List (Str × Dat)}, DF K lt md H v d → v.length = d.length
  | _, _, .nil => rfl
  | _, _, .cons _ r => congrArg Nat.succ r.len
theorem DK.len : ∀ {v : List (Key × V)} {d : List (Key × Dat)}, DK K lt md H v d → v.length = d.length
  | _, _, .nil => rfl
  | _, _, .cons _ r => congrArg Nat.succ r.len
end
end DL

/-! DlB -/
set_option Elab.async false
set_option linter.all false
set_option maxRecDepth 100000
set_option maxHeartbeats 4000000
namespace DL
open PySem PySem.Spec PyProof.Rows L2
open NdefX (NTab TabsN)

/-! ### the running def's state by data -/
inductive Sl where
  | no | d (x : Dat) | own (p : Addr) (x : Dat)
/-- what a def enters with: the lambdas' texts, the tables, who may change what, the heap -/
structure Bx where
  lt : Nat → LT
  T : List NTab
  md0 : Addr → Md
  H0 : Hp
/-- what a callee may do to its caller's heap -/
structure Ex (md : Addr → Md) (H H' : Hp) : Prop where
  keep : ∀ a o, md a ≠ .well → H a = some o → NT o → H' a = some o
  well : ∀ a, md a = .well → WellAt H a → WellAt H' a
  dom : ∀ a, H' a = none → H a = none
theorem Ex.refl (md : Addr → Md) (H : Hp) : Ex md H H := ⟨fun _ _ _ e _ => e, fun _ _ e => e, fun _ e => e⟩
theorem Ex.trans {md : Addr → Md} {H H1 H2 : Hp} (a : Ex md H H1) (b : Ex md H1 H2) : Ex md H H2 := ⟨fun c o h e n => b.keep c o h (a.keep c o h e n) n, fun c h e => b.well c h (a.well c h e), fun c e => a.dom c (b.dom c e)⟩
theorem Ex.xd {md : Addr → Md} {H H' : Hp} (e : Ex md H H') : XD md H md H' := ⟨fun a o h q n => ⟨h, e.keep a o (by rw [h]; exact fun z => by cases z) q n⟩, fun a h q => ⟨h, e.well a h q⟩⟩
section
variable {K : PySem.W.Frag} {lt : Nat → LT} {md : Addr → Md} {H H' : Hp}
theorem D.mono (x : Ex md H H') {v : V} {d : Dat} (h : D K lt md H v d) : D K lt md H' v d := D.monoX x.xd h
theorem DA.mono (x : Ex md H H') {v : List V} {d : List Dat} (h : DA K lt md H v d) : DA K lt md H' v d := DA.monoX x.xd h
theorem DK.mono (x : Ex md H H') {v : List (Key × V)} {d : List (Key × Dat)} (h : DK K lt md H v d) : DK K lt md H' v d := DK.monoX x.xd h
theorem DF.mono (x : Ex md H H') {v : List (Str × V)} {d : List (Str × Dat)} (h : DF K lt md H v d) : DF K lt md H' v d := DF.monoX x.xd h
end
def OwnAt (K : PySem.W.Frag) (lt : Nat → LT) (md : Addr → Md) (H : Hp) (p : Addr) : Dat → Prop
  | .lst ds => ∃ xs, H p = some (.lst xs) ∧ DA K lt md H xs ds
  | .dct ds => ∃ xs, H p = some (.dK xs) ∧ DK K lt md H xs ds
  | .ins C fs => ∃ dx xs, H p = some (.ins C dx xs) ∧ DF K lt md H xs fs
  | _ => False
def SlAt (K : PySem.W.Frag) (B : Bx) (md : Addr → Md) (H : Hp) : Sl → Option V → Prop
  | .no, _ => True
  | .d x, o => ∃ v, o = some v ∧ D K B.lt md H v x
  | .own p x, o => o = some (.ref p) ∧ md p = .own ∧ B.H0 p = none ∧ OwnAt K B.lt md H p x
/-- what stands at the addresses that are not everybody's -/
def Live (md : Addr → Md) (H : Hp) : Prop := ∀ a, (md a = .own → ∃ o, H a = some o ∧ NT o) ∧ (md a = .well → WellAt H a)
theorem Live.imm {md : Addr → Md} {H : Hp} (l : Live md H) {a : Addr} (h : H a = none) : md a = .imm := by
  cases hm : md a with
  | imm => rfl
  | own => obtain ⟨o, e, _⟩ := (l a).1 hm; rw [h] at e; cases e
  | well => obtain ⟨x, y, z, e, _⟩ := (l a).2 hm; rw [h] at e; cases e
theorem Live.grow {md : Addr → Md} {H H' : Hp} (l : Live md H) (e : Ex md H H') : Live md H' := fun a =>
  ⟨fun h => let ⟨o, q, n⟩ := (l a).1 h; ⟨o, e.keep a o (by rw [h]; exact fun z => by cases z) q n, n⟩, fun h => e.well a h ((l a).2 h)⟩
structure Rep (K : PySem.W.Frag) (B : Bx) (md : Addr → Md) (δ : List Sl) (σ : L2.St) (H : Hp) : Prop where
  tabs : TabsN B.T H
  live0 : Live B.md0 B.H0
  live : Live md H
  ext : Ex B.md0 B.H0 H
  sub : ∀ a o, B.H0 a = some o → md a = B.md0 a
  nw : ∀ a, md a = .well → B.md0 a = .well
  sl : ∀ (i : Nat) s, δ[i]? = some s → ∃ o, σ[i]? = some o ∧ SlAt K B md H s o
  len : δ.length = σ.length
  inj : ∀ (i j : Nat) p x y, δ[i]? = some (.own p x) → δ[j]? = some (.own p y) → i = j

section
variable {K : PySem.W.Frag} {B : Bx} {lt : Nat → LT} {md md' : Addr → Md} {H H' : Hp} {δ : List Sl} {σ : L2.St} {p : Addr} {x y : Dat}
theorem OwnAt.mono (a : XD md H md' H') (k : ∀ o, H p = some o → NT o → H' p = some o) : ∀ {x : Dat}, OwnAt K lt md H p x → OwnAt K lt md' H' p x
  | .lst _, ⟨xs, e, r⟩ => ⟨xs, k _ e nt_lst, r.monoX a⟩
  | .dct _, ⟨xs, e, r⟩ => ⟨xs, k _ e nt_dK, r.monoX a⟩
  | .ins _ _, ⟨dx, xs, e, r⟩ => ⟨dx, xs, k _ e nt_ins, r.monoX a⟩
theorem OwnAt.is (h : OwnAt K lt md H p x) : ∃ o, H p = some o ∧ NT o := by
  cases x <;> first | exact h.elim | skip
  · obtain ⟨xs, e, _⟩ := h; exact ⟨_, e, nt_lst⟩
  · obtain ⟨xs, e, _⟩ := h; exact ⟨_, e, nt_dK⟩
  · obtain ⟨dx, xs, e, _⟩ := h; exact ⟨_, e, nt_ins⟩
theorem SlAt.mono {s : Sl} {o : Option V} (a : XD md H md' H') (k : ∀ p o, md p = .own → H p = some o → NT o → md' p = .own ∧ H' p = some o) (h : SlAt K B md H s o) : SlAt K B md' H' s o := by
  cases s with
  | no => trivial
  | d x => obtain ⟨v, e, r⟩ := h; exact ⟨v, e, r.monoX a⟩
  | own p x =>
    obtain ⟨e, h1, h2, h3⟩ := h
    obtain ⟨o1, q1, n1⟩ := h3.is
    exact ⟨e, (k p o1 h1 q1 n1).1, h2, h3.mono a fun o q n => (k p o h1 q n).2⟩
theorem Ex.sub {md0 : Addr → Md} {H0 : Hp} (l0 : Live md0 H0) (hs : ∀ a o, H0 a = some o → md a = md0 a) (e0 : Ex md0 H0 H) (e : Ex md H H') : Ex md0 H0 H' where
  keep := fun a o h q n => e.keep a o (by rw [hs a o q]; exact h) (e0.keep a o h q n) n
  well := fun a h q => e.well a (by obtain ⟨x, y, z, q', _⟩ := q; rw [hs a _ q']; exact h) (e0.well a h q)
  dom := fun a h => e0.dom a (e.dom a h)
/-- the heap grows as a callee lets it -/
theorem Rep.grow (R : Rep K B md δ σ H) (e : Ex md H H') (t : TabsN B.T H') : Rep K B md δ σ H' where
  tabs := t
  live0 := R.live0
  live := R.live.grow e
  ext := Ex.sub R.live0 R.sub R.ext e
  sub := R.sub
  nw := R.nw
  sl := fun i s h => by
    obtain ⟨o, q, r⟩ := R.sl i s h
    exact ⟨o, q, r.mono e.xd fun p o h q n => ⟨h, e.keep p o (by rw [h]; exact fun z => by cases z) q n⟩⟩
  len := R.len
  inj := R.inj
/-- a new object -/
theorem ex_new {o : HO} (hp : H p = none) : Ex md H (upd H p o) := ⟨fun a u _ e _ => by rw [upd_ne (ne_of_none e hp)]; exact e, fun a _ ⟨x, y, z, e, r⟩ => ⟨x, y, z, by rw [upd_ne (ne_of_none e hp)]; exact e, r⟩,
  fun a e => by
    by_cases q : a = p
    · rw [q]; exact hp
    · rw [upd_ne q] at e; exact e⟩
theorem tabs_new {T : List NTab} {o : HO} (t : TabsN T H) (hp : H p = none) : TabsN T (upd H p o) := t.ext fun b u e => by rw [upd_ne (ne_of_none e hp)]; exact e
theorem Rep.new {o : HO} (R : Rep K B md δ σ H) (hp : H p = none) : Rep K B md δ σ (upd H p o) := R.grow (ex_new hp) (tabs_new R.tabs hp)
theorem xd_new {o : HO} (hp : H p = none) : XD md H md (upd H p o) := (ex_new hp).xd

/-! ### what data say of the heap -/
theorem D.sqT {v : V} {ds : List Dat} (h : D K lt md H v (.tup ds)) : ∃ a xs, v = .ref a ∧ SqT K H a xs ∧ DA K lt md H xs ds := by
  cases h with
  | tup hm e r => exact ⟨_, _, rfl, SqT.of e, r⟩
  | tupK e r => exact ⟨_, _, rfl, e.elim (fun z => z.elim (fun z => by cases z) fun ⟨_, z⟩ => by cases z) .inr, r⟩
  | tupF hm e r => exact ⟨_, _, rfl, .inl (.inr ⟨_, e⟩), r⟩
theorem D.atL {v : V} {ds : List Dat} (h : D K lt md H v (.lst ds)) : ∃ a xs, v = .ref a ∧ H a = some (.lst xs) ∧ md a = .imm ∧ DA K lt md H xs ds := by
  cases h with
  | lst hm e r => exact ⟨_, _, rfl, e, hm, r⟩
theorem D.atD {v : V} {ds : List (Key × Dat)} (h : D K lt md H v (.dct ds)) : ∃ a xs, v = .ref a ∧ H a = some (.dK xs) ∧ md a = .imm ∧ DK K lt md H xs ds := by
  cases h with
  | dct hm e r => exact ⟨_, _, rfl, e, hm, r⟩
theorem D.atI {v : V} {C : Addr} {ds : List (Str × Dat)} (h : D K lt md H v (.ins C ds)) : ∃ a dx xs, v = .ref a ∧ H a = some (.ins C dx xs) ∧ md a = .imm ∧ DF K lt md H xs ds := by
  cases h with
  | ins hm e r => exact ⟨_, _, _, rfl, e, hm, r⟩
theorem D.intE {v : V} {i : Int} (h : D K lt md H v (.int i)) : v = .int i := by cases h; rfl
theorem D.blE {v : V} {b : Bool} (h : D K lt md H v (.bl b)) : v = .bl b := by cases h; rfl
theorem D.strE {v : V} {z : Str} (h : D K lt md H v (.str z)) : v = .str z := by cases h; rfl
theorem D.nonE {v : V} (h : D K lt md H v .non) : v = .non := by cases h; rfl
theorem D.tyE {v : V} {n : String} (h : D K lt md H v (.ty n)) : v = .ty n := by cases h; rfl
theorem D.glE {v : V} {a : Addr} (h : D K lt md H v (.gl a)) : v = .ref a := by cases h; rfl
theorem DA.ints : ∀ {v : List V} {ns : List Int}, DA K lt md H v (ns.map Dat.int) → v = ns.map V.int
  | _, [], .nil => rfl
  | _, _ :: _, .cons h r => by rw [h.intE, DA.ints r]; rfl
theorem DA.bools : ∀ {v : List V} {ns : List Bool}, DA K lt md H v (ns.map Dat.bl) → v = ns.map V.bl
  | _, [], .nil => rfl
  | _, _ :: _, .cons h r => by rw [h.blE, DA.bools r]; rfl
theorem DA.strs : ∀ {v : List V} {ns : List Str}, DA K lt md H v (ns.map Dat.str) → v = ns.map V.str
  | _, [], .nil => rfl
  | _, _ :: _, .cons h r => by rw [h.strE, DA.strs r]; rfl
theorem DA.of_ints : ∀ {ns : List Int}, DA K lt md H (ns.map V.int) (ns.map Dat.int)
  | [] => .nil
  | _ :: _ => .cons (.int _) DA.of_ints
theorem DA.of_strs : ∀ {ns : List Str}, DA K lt md H (ns.map V.str) (ns.map Dat.str)
  | [] => .nil
  | _ :: _ => .cons (.str _) DA.of_strs
end

/-! ### expressions by their own readings -/
section
variable {X : Cx} {B : Bx} {δ : List Sl} {Q Q' : Dat → Prop} {e a b c : Expr} {es : List Expr} {pos p : Pos}
def tCan (X : Cx) (e : Expr) : TE := fun σ H Q => ∀ (pins : List (Addr × Obj)) (s : Shared), Inv X pins σ H s → wpAny (model X.prog X.w) X.A (eval e X.env) (EP X pins σ Q) X.xe s
def tCanT (X : Cx) (e : Expr) : TT := fun σ H Q => ∀ (pins : List (Addr × Obj)) (s : Shared), Inv X pins σ H s → wpAny (model X.prog X.w) X.A (isTrue e X.env (eval e X.env)) (TP X pins σ Q) X.xe s
def tCanA (X : Cx) (es : List Expr) : TA := fun σ H Q => ∀ (pos : Pos) (pins : List (Addr × Obj)) (s : Shared), Inv X pins σ H s → wpAny (model X.prog X.w) X.A (spliced (backTo pos (starEach es X.env))) (AP X pins σ Q) X.xe s
def tCanK (X : Cx) (ks : List Keyword) : TA := fun σ H Q => ∀ (pos : Pos) (pins : List (Addr × Obj)) (s : Shared), Inv X pins σ H s → wpAny (model X.prog X.w) X.A (evalAll ((backToKw pos (keywordEach ks X.env)).map (·.2))) (AP X pins σ Q) X.xe s
theorem pe_can : PE X e (tCan X e) := ⟨fun pins s _ _ _ I h => h pins s I⟩
theorem pt_can : PT X e (tCanT X e) := ⟨fun pins s _ _ _ I h => h pins s I⟩
theorem pa_can : PA X es (tCanA X es) := ⟨fun pos pins s _ _ _ I h => h pos pins s I⟩
theorem pk_can {ks : List Keyword} : PK X ks (tCanK X ks) := ⟨fun pos pins s _ _ _ I h => h pos pins s I⟩

/-- from the data δ the expression comes to data of which Q holds -/
def WE (X : Cx) (B : Bx) (e : Expr) (δ : List Sl) (Q : Dat → Prop) : Prop :=
  ∀ md σ H (Qc : VK), Rep X.K B md δ σ H → (∀ v H' d, Ex md H H' → Rep X.K B md δ σ H' → D X.K B.lt md H' v d → Q d → Qc v H') → tCan X e σ H Qc
def WT (X : Cx) (B : Bx) (e : Expr) (δ : List Sl) (Q : Bool → Prop) : Prop :=
  ∀ md σ H (Qc : Bool → Hp → Prop), Rep X.K B md δ σ H → (∀ k H', Ex md H H' → Rep X.K B md δ σ H' → Q k → Qc k H') → tCanT X e σ H Qc
def WA (X : Cx) (B : Bx) (es : List Expr) (δ : List Sl) (Q : List Dat → Prop) : Prop :=
  ∀ md σ H (Qc : List V → Hp → Prop), Rep X.K B md δ σ H → (∀ vs H' ds, Ex md H H' → Rep X.K B md δ σ H' → DA X.K B.lt md H' vs ds → Q ds → Qc vs H') → tCanA X es σ H Qc
def WK (X : Cx) (B : Bx) (ks : List Keyword) (δ : List Sl) (Q : List Dat → Prop) : Prop :=
  ∀ md σ H (Qc : List V → Hp → Prop), Rep X.K B md δ σ H → (∀ vs H' ds, Ex md H H' → Rep X.K B md δ σ H' → DA X.K B.lt md H' vs ds → Q ds → Qc vs H') → tCanK X ks σ H Qc
theorem WE.mono (h : WE X B e δ Q) (q : ∀ d, Q d → Q' d) : WE X B e δ Q' := fun md σ H Qc R k => h md σ H Qc R fun v H' d x R' r z => k v H' d x R' r (q d z)
theorem WT.mono {Q Q' : Bool → Prop} (h : WT X B e δ Q) (q : ∀ d, Q d → Q' d) : WT X B e δ Q' := fun md σ H Qc R k => h md σ H Qc R fun v H' x R' z => k v H' x R' (q v z)
theorem PE.can {t : TE} (h : PE X e t) {σ : L2.St} {H : Hp} {Q : VK} (q : t σ H Q) : tCan X e σ H Q := fun pins s I => h.run pins s σ H Q I q
theorem PT.can {t : TT} (h : PT X e t) {σ : L2.St} {H : Hp} {Q : Bool → Hp → Prop} (q : t σ H Q) : tCanT X e σ H Q := fun pins s I => h.run pins s σ H Q I q
theorem PA.can {t : TA} (h : PA X es t) {σ : L2.St} {H : Hp} {Q : List V → Hp → Prop} (q : t σ H Q) : tCanA X es σ H Q := fun pos pins s I => h.run pos pins s σ H Q I q
theorem PK.can {ks : List Keyword} {t : TA} (h : PK X ks t) {σ : L2.St} {H : Hp} {Q : List V → Hp → Prop} (q : t σ H Q) : tCanK X ks σ H Q := fun pos pins s I => h.run pos pins s σ H Q I q

/-! ### names, constants -/
theorem d_name (i : Nat) {x : Str} {d : Dat} (hδ : δ[i]? = some (.d d)) (q : Q d) (hN : X.N[i]? = some x := by rfl) (hv : Vis X.env.scope x := by first | exact Or.inl rfl | exact Or.inr (Or.inl rfl) | exact Or.inr (Or.inr rfl))
    (hd : (x == ("__debug__" : Str)) = false := by decide) (hcd : (x == ("__classdict__" : Str)) = false := by decide) : WE X B (.Name x pos) δ Q := fun md σ H Qc R k => by
  obtain ⟨o, e, v, e2, r⟩ := R.sl i _ hδ
  subst e2
  exact PE.can (pe_var hN hv hd hcd) ⟨v, e, k v H d (Ex.refl md H) R r q⟩
theorem d_int {i : Int} {j} (q : Q (.int i)) : WE X B (.Constant (.int i) j pos) δ Q := fun md σ H Qc R k => PE.can pe_int (k _ H _ (Ex.refl md H) R (.int i) q)
theorem d_bl {b : Bool} {j} (q : Q (.bl b)) : WE X B (.Constant (.bool b) j pos) δ Q := fun md σ H Qc R k => PE.can pe_bl (k _ H _ (Ex.refl md H) R (.bl b) q)
theorem d_non {j} (q : Q .non) : WE X B (.Constant .none j pos) δ Q := fun md σ H Qc R k => PE.can pe_non (k _ H _ (Ex.refl md H) R .non q)
theorem d_str {z : Str} {j} (q : Q (.str z)) : WE X B (.Constant (.str z) j pos) δ Q := fun md σ H Qc R k => PE.can pe_str (k _ H _ (Ex.refl md H) R (.str z) q)
theorem d_glob {x : Str} {d : Dat} {v : V} {u : Value} (hm : X.mg x = some u) (r : RelV v u) (hd : ∀ md H, D X.K B.lt md H v d) (q : Q d) (hg : Gl X x := by rfl) (hdb : (x == ("__debug__" : Str)) = false := by decide) : WE X B (.Name x pos) δ Q := fun md σ H Qc R k =>
  PE.can (pe_glob hg hm r hdb) (k _ H _ (Ex.refl md H) R (hd md H) q)
theorem d_gint {x : Str} {i : Int} (hm : ∃ t, X.mg x = some (.int i t)) (q : Q (.int i)) (hg : Gl X x := by rfl) (hdb : (x == ("__debug__" : Str)) = false := by decide) : WE X B (.Name x pos) δ Q := by
  obtain ⟨t, hm⟩ := hm
  exact d_glob (v := .int i) hm ⟨t, rfl⟩ (fun _ _ => .int i) q hg hdb
theorem d_gstr {x : Str} {i : Str} (hm : ∃ t, X.mg x = some (.str i t)) (q : Q (.str i)) (hg : Gl X x := by rfl) (hdb : (x == ("__debug__" : Str)) = false := by decide) : WE X B (.Name x pos) δ Q := by
  obtain ⟨t, hm⟩ := hm
  exact d_glob (v := .str i) hm ⟨t, rfl⟩ (fun _ _ => .str i) q hg hdb
theorem d_gref {x : Str} {f : Addr} (hm : X.mg x = some (.ref f)) (q : Q (.gl f)) (hg : Gl X x := by rfl) (hdb : (x == ("__debug__" : Str)) = false := by decide) : WE X B (.Name x pos) δ Q :=
  d_glob (v := .ref f) hm rfl (fun _ _ => .gl f) q hg hdb
theorem d_blt {x : Str} {n : String} (hm : X.mg x = none) (hv : bootBuiltins x = some (.type n)) (q : Q (.ty n)) (hg : Gl X x := by rfl) (hn : x ≠ "__name__" := by decide) (hdb : (x == ("__debug__" : Str)) = false := by decide) : WE X B (.Name x pos) δ Q := fun md σ H Qc R k =>
  PE.can (pe_bltn (v := .ty n) hg hm hv rfl hn hdb) (k _ H _ (Ex.refl md H) R (.ty n) q)

/-! ### arguments, displays -/
theorem a_nil {Qa : List Dat → Prop} (q : Qa []) : WA X B [] δ Qa := fun md σ H Qc R k => PA.can pa_nil (k [] H [] (Ex.refl md H) R .nil q)
theorem a_cons {Qa : List Dat → Prop} (h : WE X B e δ fun x => WA X B es δ fun xs => Qa (x :: xs)) (hs : starEach (e :: es) X.env = (false, eval e X.env) :: starEach es X.env := by rfl) : WA X B (e :: es) δ Qa := fun md σ H Qc R k =>
  PA.can (pa_cons pe_can pa_can hs) (h md σ H _ R fun v H1 d x1 R1 r1 h2 => h2 md σ H1 _ R1 fun vs H2 ds x2 R2 r2 q => k _ H2 _ (x1.trans x2) R2 (.cons (r1.mono x2) r2) q)
theorem k_nil {Qa : List Dat → Prop} (q : Qa []) : WK X B [] δ Qa := fun md σ H Qc R k => PK.can pk_nil (k [] H [] (Ex.refl md H) R .nil q)
theorem k_cons {Qa : List Dat → Prop} {nm : Option Str} {ks : List Keyword} {kpos : Pos} (h : WE X B e δ fun x => WK X B ks δ fun xs => Qa (x :: xs)) : WK X B (⟨nm, e, kpos⟩ :: ks) δ Qa := fun md σ H Qc R k =>
  PK.can (pk_cons pe_can pk_can) (h md σ H _ R fun v H1 d x1 R1 r1 h2 => h2 md σ H1 _ R1 fun vs H2 ds x2 R2 r2 q => k _ H2 _ (x1.trans x2) R2 (.cons (r1.mono x2) r2) q)
theorem sz_of {n : Nat} (h : n ≤ 100000) : n ≤ sizeLine := Nat.le_trans h (by decide)
theorem sz_lt {n : Nat} (h : n < 100000) : n < sizeLine := Nat.lt_of_lt_of_le h (by decide)
/-- a new tuple | list, known -/
theorem fin_tup {K : PySem.W.Frag} {md : Addr → Md} {σ : L2.St} {H : Hp} {xs : List V} {ds : List Dat} {p : Addr} (R : Rep K B md δ σ H) (r : DA K B.lt md H xs ds) (hp : H p = none) :
    Ex md H (upd H p (.tup xs)) ∧ Rep K B md δ σ (upd H p (.tup xs)) ∧ D K B.lt md (upd H p (.tup xs)) (.ref p) (.tup ds) :=
  ⟨ex_new hp, R.new hp, .tup (R.live.imm hp) upd_same (r.mono (ex_new hp))⟩
theorem fin_lst {K : PySem.W.Frag} {md : Addr → Md} {σ : L2.St} {H : Hp} {xs : List V} {ds : List Dat} {p : Addr} (R : Rep K B md δ σ H) (r : DA K B.lt md H xs ds) (hp : H p = none) :
    Ex md H (upd H p (.lst xs)) ∧ Rep K B md δ σ (upd H p (.lst xs)) ∧ D K B.lt md (upd H p (.lst xs)) (.ref p) (.lst ds) :=
  ⟨ex_new hp, R.new hp, .lst (R.live.imm hp) upd_same (r.mono (ex_new hp))⟩
theorem d_tup {k : Nat} (h : WA X B es δ fun ds => ds.length ≤ 1000 ∧ Q (.tup ds)) : WE X B (.Tuple es k pos) δ Q := fun md σ H Qc R k =>
  PE.can (pe_tup pa_can) (h md σ H _ R fun vs H1 ds x1 R1 r1 ⟨hl, q⟩ => ⟨by rw [r1.len]; exact sz_of (by omega), fun p hp => let ⟨x2, R2, r2⟩ := fin_tup R1 r1 hp; k _ _ _ (x1.trans x2) R2 r2 q⟩)
theorem d_lst (h : WA X B es δ fun ds => ds.length ≤ 1000 ∧ Q (.lst ds)) : WE X B (.List es pos) δ Q := fun md σ H Qc R k =>
  PE.can (pe_lst pa_can) (h md σ H _ R fun vs H1 ds x1 R1 r1 ⟨hl, q⟩ => ⟨by rw [r1.len]; exact sz_of (by omega), fun p hp => let ⟨x2, R2, r2⟩ := fin_lst R1 r1 hp; k _ _ _ (x1.trans x2) R2 r2 q⟩)

/-! ### two-place operators by data -/
def RD (K : PySem.W.Frag) (B : Bx) (δ : List Sl) (r : R2) (x y : Dat) (Q : Dat → Prop) : Prop :=
  ∀ md σ H vx vy (Qc : VK), Rep K B md δ σ H → D K B.lt md H vx x → D K B.lt md H vy y → (∀ v H' d, Ex md H H' → Rep K B md δ σ H' → D K B.lt md H' v d → Q d → Qc v H') → r vx vy H Qc
theorem d_bin {op : Operator} {r : R2} (ho : OpR X (binaryOp op) r) (h : WE X B a δ fun x => WE X B b δ fun y => RD X.K B δ r x y Q) : WE X B (.BinOp a op b pos) δ Q := fun md σ H Qc R k =>
  PE.can (pe_op ho pe_can pe_can) (h md σ H _ R fun vx H1 dx x1 R1 r1 hb => hb md σ H1 _ R1 fun vy H2 dy x2 R2 r2 hr => hr md σ H2 vx vy Qc R2 (r1.mono x2) r2 fun v H' d x3 R3 r3 q => k v H' d (x1.trans (x2.trans x3)) R3 r3 q)
theorem d_cmp {op : CmpOp} {r : R2} (ho : OpR X (compareOp op) r) (h : WE X B a δ fun x => WE X B b δ fun y => RD X.K B δ r x y Q) (hm : behindInMarks op b = false) : WE X B (.Compare a [op] [b] pos) δ Q := fun md σ H Qc R k =>
  PE.can (pe_cmpR ho pe_can pe_can hm) (h md σ H _ R fun vx H1 dx x1 R1 r1 hb => hb md σ H1 _ R1 fun vy H2 dy x2 R2 r2 hr => hr md σ H2 vx vy Qc R2 (r1.mono x2) r2 fun v H' d x3 R3 r3 q => k v H' d (x1.trans (x2.trans x3)) R3 r3 q)
/-- told by a truth -/
def QB (Q : Bool → Prop) : Dat → Prop := fun d => match d with | .bl k => Q k | _ => False
theorem t_cmp {op : CmpOp} {r : R2} {Q : Bool → Prop} (ho : OpR X (compareOp op) r) (h : WE X B a δ fun x => WE X B b δ fun y => RD X.K B δ r x y (QB Q)) (hm : behindInMarks op b = false) : WT X B (.Compare a [op] [b] pos) δ Q := fun md σ H Qc R k =>
  PT.can (pt_cmpR ho pe_can pe_can hm) (h md σ H _ R fun vx H1 dx x1 R1 r1 hb => hb md σ H1 _ R1 fun vy H2 dy x2 R2 r2 hr => hr md σ H2 vx vy _ R2 (r1.mono x2) r2 fun v H' d x3 R3 r3 q => by
    cases d <;> first | exact q.elim | skip
    exact ⟨_, r3.blE, k _ H' (x1.trans (x2.trans x3)) R3 q⟩)
/-- a test whose value is asked for its truth (a name, a call, ..) -/
theorem t_val {Q : Bool → Prop} (h : WE X B e δ (QB Q)) (he : ∀ whole, isTrue e X.env whole = (do let v ← whole; standAt e.pos; holding [v] (truthy v)) := by intro _; rfl) : WT X B e δ Q := fun md σ H Qc R k =>
  PT.can (pt_val pe_can he) (h md σ H _ R fun v H' d x3 R3 r3 q => by
    cases d <;> first | exact q.elim | skip
    exact ⟨_, r3.blE, k _ H' x3 R3 q⟩)
theorem t_not {Q : Bool → Prop} (h : WT X B a δ fun k => Q (!k)) : WT X B (.UnaryOp .Not a pos) δ Q := fun md σ H Qc R k =>
  PT.can (pt_not pt_can) (h md σ H _ R fun b H' x R' q => k _ H' x R' q)
def tCanW (X : Cx) (e : Expr) : TT := fun σ H Q => ∀ (whole : Sem Value) (pins : List (Addr × Obj)) (s : Shared), Inv X pins σ H s → wpAny (model X.prog X.w) X.A (isTrue e X.env whole) (TP X pins σ Q) X.xe s
theorem pw_can : PW X e (tCanW X e) := ⟨fun whole pins s _ _ _ I h => h whole pins s I⟩
theorem PW.can {t : TT} (h : PW X e t) {σ : L2.St} {H : Hp} {Q : Bool → Hp → Prop} (q : t σ H Q) : tCanW X e σ H Q := fun whole pins s I => h.run whole pins s σ H Q I q
def WW (X : Cx) (B : Bx) (e : Expr) (δ : List Sl) (Q : Bool → Prop) : Prop :=
  ∀ md σ H (Qc : Bool → Hp → Prop), Rep X.K B md δ σ H → (∀ k H', Ex md H H' → Rep X.K B md δ σ H' → Q k → Qc k H') → tCanW X e σ H Qc
theorem t_bool {Q : Bool → Prop} (h : WW X B e δ Q) : WT X B e δ Q := fun md σ H Qc R k => PT.can pw_can.pt (h md σ H Qc R k)
theorem w_and1 {Q : Bool → Prop} (h : WT X B a δ Q) : WW X B (.BoolOp .And [a] pos) δ Q := fun md σ H Qc R k => PW.can (pw_and1 pt_can) (h md σ H Qc R k)
theorem w_or1 {Q : Bool → Prop} (h : WT X B a δ Q) : WW X B (.BoolOp .Or [a] pos) δ Q := fun md σ H Qc R k => PW.can (pw_or1 pt_can) (h md σ H Qc R k)
theorem w_and {Q : Bool → Prop} (h : WT X B a δ fun k => if k = true then WW X B (.BoolOp .And (b :: es) pos) δ Q else Q false) : WW X B (.BoolOp .And (a :: b :: es) pos) δ Q := fun md σ H Qc R k =>
  PW.can (pw_and pt_can pw_can) (h md σ H _ R fun c H1 x1 R1 q => by
    cases c with
    | true => rw [if_pos rfl] at q ⊢; exact q md σ H1 Qc R1 fun c2 H2 x2 R2 q2 => k c2 H2 (x1.trans x2) R2 q2
    | false => rw [if_neg Bool.false_ne_true] at q ⊢; exact k _ H1 x1 R1 q)
theorem w_or {Q : Bool → Prop} (h : WT X B a δ fun k => if k = true then Q true else WW X B (.BoolOp .Or (b :: es) pos) δ Q) : WW X B (.BoolOp .Or (a :: b :: es) pos) δ Q := fun md σ H Qc R k =>
  PW.can (pw_or pt_can pw_can) (h md σ H _ R fun c H1 x1 R1 q => by
    cases c with
    | false => rw [if_neg Bool.false_ne_true] at q ⊢; exact q md σ H1 Qc R1 fun c2 H2 x2 R2 q2 => k c2 H2 (x1.trans x2) R2 q2
    | true => rw [if_pos rfl] at q ⊢; exact k _ H1 x1 R1 q)
/-- as values -/
theorem d_one {op : BoolOp} (h : WE X B a δ Q) : WE X B (.BoolOp op [a] pos) δ Q := fun md σ H Qc R k => PE.can (pe_one pe_can) (h md σ H Qc R k)
theorem d_and (h : WE X B a δ (QB fun k => if k = true then WE X B (.BoolOp .And (b :: es) pos) δ Q else Q (.bl false))) : WE X B (.BoolOp .And (a :: b :: es) pos) δ Q := fun md σ H Qc R k =>
  PE.can (pe_and pe_can pe_can) (h md σ H _ R fun v H1 d x1 R1 r1 q => by
    cases d <;> first | exact q.elim | skip
    rename_i c
    refine ⟨c, r1.blE, ?_⟩
    cases c with
    | true => rw [if_pos rfl]; exact (show WE X B _ δ Q from by simpa [QB] using q) md σ H1 Qc R1 fun c2 H2 d2 x2 R2 r2 q2 => k c2 H2 d2 (x1.trans x2) R2 r2 q2
    | false => rw [if_neg Bool.false_ne_true]; exact k _ H1 _ x1 R1 (.bl false) (by simpa [QB] using q))
theorem d_or (h : WE X B a δ (QB fun k => if k = true then Q (.bl true) else WE X B (.BoolOp .Or (b :: es) pos) δ Q)) : WE X B (.BoolOp .Or (a :: b :: es) pos) δ Q := fun md σ H Qc R k =>
  PE.can (pe_or pe_can pe_can) (h md σ H _ R fun v H1 d x1 R1 r1 q => by
    cases d <;> first | exact q.elim | skip
    rename_i c
    refine ⟨c, r1.blE, ?_⟩
    cases c with
    | false => rw [if_neg Bool.false_ne_true]; exact (show WE X B _ δ Q from by simpa [QB] using q) md σ H1 Qc R1 fun c2 H2 d2 x2 R2 r2 q2 => k c2 H2 d2 (x1.trans x2) R2 r2 q2
    | true => rw [if_pos rfl]; exact k _ H1 _ x1 R1 (.bl true) (by simpa [QB] using q))
theorem d_not (h : WE X B a δ (QB fun k => Q (.bl (!k)))) : WE X B (.UnaryOp .Not a pos) δ Q := fun md σ H Qc R k =>
  PE.can (pe_not pe_can) (h md σ H _ R fun v H1 d x1 R1 r1 q => by
    cases d <;> first | exact q.elim | skip
    exact ⟨_, r1.blE, k _ H1 _ x1 R1 (.bl _) q⟩)
theorem d_ifE (h : WT X B c δ fun k => if k = true then WE X B a δ Q else WE X B b δ Q) : WE X B (.IfExp c a b pos) δ Q := fun md σ H Qc R k =>
  PE.can (pe_ifExp pt_can pe_can pe_can) (h md σ H _ R fun c H1 x1 R1 q => by
    cases c with
    | true => rw [if_pos rfl] at q ⊢; exact q md σ H1 Qc R1 fun c2 H2 d2 x2 R2 r2 q2 => k c2 H2 d2 (x1.trans x2) R2 r2 q2
    | false => rw [if_neg Bool.false_ne_true] at q ⊢; exact q md σ H1 Qc R1 fun c2 H2 d2 x2 R2 r2 q2 => k c2 H2 d2 (x1.trans x2) R2 r2 q2)
theorem d_neg {i : Int} {j} {p : Pos} (q : Q (.int (-i))) : WE X B (.UnaryOp .USub (.Constant (.int i) j p) pos) δ Q := fun md σ H Qc R k =>
  PE.can (pe_un un_neg pe_int) ⟨i, rfl, k _ H _ (Ex.refl md H) R (.int _) q⟩
/-- a < b < c -/
theorem d_chain {op op' : CmpOp} {r r' : R2} (ho : OpR X (compareOp op) r) (ho' : OpR X (compareOp op') r')
    (h : WE X B a δ fun x => WE X B b δ fun y => RD X.K B δ r x y (QB fun k => if k = true then WE X B c δ fun z => RD X.K B δ r' y z Q else Q (.bl false))) (hm : lastMarks [op, op'] [b, c] = false := by with_unfolding_all rfl) : WE X B (.Compare a [op, op'] [b, c] pos) δ Q := fun md σ H Qc R k =>
  PE.can (pe_chain ho ho' pe_can pe_can pe_can hm) (h md σ H _ R fun vx H1 dx x1 R1 r1 hb => hb md σ H1 _ R1 fun vy H2 dy x2 R2 r2 hr => hr md σ H2 vx vy _ R2 (r1.mono x2) r2 fun v H3 d x3 R3 r3 q => by
    cases d <;> first | exact q.elim | skip
    rename_i t
    refine ⟨t, r3.blE, ?_⟩
    cases t with
    | true =>
      rw [if_pos rfl]
      exact (show WE X B c δ fun z => RD X.K B δ r' dy z Q from by simpa [QB] using q) md σ H3 _ R3 fun vz H4 dz x4 R4 r4 hr' => hr' md σ H4 vy vz Qc R4 (r2.mono (x3.trans x4)) r4 fun v H' d x5 R5 r5 q => k v H' d (x1.trans (x2.trans (x3.trans (x4.trans x5)))) R5 r5 q
    | false => rw [if_neg Bool.false_ne_true]; exact k _ H3 _ (x1.trans (x2.trans x3)) R3 (.bl false) (by simpa [QB] using q))
theorem t_chain {op op' : CmpOp} {r r' : R2} {Q : Bool → Prop} (ho : OpR X (compareOp op) r) (ho' : OpR X (compareOp op') r')
    (h : WE X B a δ fun x => WE X B b δ fun y => RD X.K B δ r x y (QB fun k => if k = true then WE X B c δ fun z => RD X.K B δ r' y z (QB Q) else Q false)) (hm : lastMarks [op, op'] [b, c] = false := by with_unfolding_all rfl) : WT X B (.Compare a [op, op'] [b, c] pos) δ Q := fun md σ H Qc R k =>
  PT.can (pt_chain ho ho' pe_can pe_can pe_can hm) (h md σ H _ R fun vx H1 dx x1 R1 r1 hb => hb md σ H1 _ R1 fun vy H2 dy x2 R2 r2 hr => hr md σ H2 vx vy _ R2 (r1.mono x2) r2 fun v H3 d x3 R3 r3 q => by
    cases d <;> first | exact q.elim | skip
    rename_i t
    refine ⟨t, r3.blE, ?_⟩
    cases t with
    | true =>
      rw [if_pos rfl]
      exact (show WE X B c δ fun z => RD X.K B δ r' dy z (QB Q) from by simpa [QB] using q) md σ H3 _ R3 fun vz H4 dz x4 R4 r4 hr' => hr' md σ H4 vy vz _ R4 (r2.mono (x3.trans x4)) r4 fun v H' d x5 R5 r5 q => by
        cases d <;> first | exact q.elim | skip
        exact ⟨_, r5.blE, k _ H' (x1.trans (x2.trans (x3.trans (x4.trans x5)))) R5 q⟩
    | false => rw [if_neg Bool.false_ne_true]; exact ⟨false, rfl, k _ H3 (x1.trans (x2.trans x3)) R3 (by simpa [QB] using q)⟩)
end
end DL

/-! DlC -/
set_option Elab.async false
set_option linter.all false
set_option maxRecDepth 100000
set_option maxHeartbeats 4000000
namespace DL
open PySem PySem.Spec PyProof.Rows L2
open NdefX (NTab TabsN)

section
variable {X : Cx} {B : Bx} {K : PySem.W.Frag} {δ : List Sl} {Q Q' : Dat → Prop} {e a b c o i : Expr} {es : List Expr} {pos p : Pos}
/-! ### what the operators make of data -/
def addQ : Dat → Dat → (Dat → Prop) → Prop
  | .int i, .int j, Q => Q (.int (i + j))
  | .tup x, .tup y, Q => x.length + y.length ≤ 1000 ∧ Q (.tup (x ++ y))
  | .lst x, .lst y, Q => x.length + y.length ≤ 1000 ∧ Q (.lst (x ++ y))
  | _, _, _ => False
theorem rd_of {r : R2} {x y : Dat} (h : ∀ md σ H vx vy (Qc : VK), Rep K B md δ σ H → D K B.lt md H vx x → D K B.lt md H vy y → (∀ v H' d, Ex md H H' → Rep K B md δ σ H' → D K B.lt md H' v d → Q d → Qc v H') → r vx vy H Qc) : RD K B δ r x y Q := h
theorem d_add (h : WE X B a δ fun x => WE X B b δ fun y => addQ x y Q) : WE X B (.BinOp a .Add b pos) δ Q := by
  refine d_bin (OpR.or op_add (OpR.or op_catA op_cat)) (h.mono fun x hx => hx.mono fun y hy => ?_)
  intro md σ H vx vy Qc R r1 r2 k
  cases x <;> cases y <;> first | exact hy.elim | skip
  · exact .inl ⟨_, _, r1.intE, r2.intE, k _ _ _ (Ex.refl md H) R (.int _) hy⟩
  · obtain ⟨a1, xs, e1, s1, g1⟩ := r1.sqT
    obtain ⟨a2, ys, e2, s2, g2⟩ := r2.sqT
    obtain ⟨hl, q⟩ := hy
    subst e1 e2
    refine .inr (.inl ⟨a1, a2, xs, ys, rfl, rfl, s1, s2, by rw [g1.len, g2.len]; exact sz_of (by omega), fun z => ?_, fun _ z => ?_, fun _ _ p hp => ?_⟩)
    · subst z
      cases g1
      exact k _ _ _ (Ex.refl md H) R r2 q
    · subst z
      cases g2
      rw [List.append_nil] at q
      exact k _ _ _ (Ex.refl md H) R r1 q
    · obtain ⟨x2, R2, r⟩ := fin_tup R (g1.app g2) hp
      exact k _ _ _ x2 R2 r q
  · obtain ⟨a1, xs, e1, s1, _, g1⟩ := r1.atL
    obtain ⟨a2, ys, e2, s2, _, g2⟩ := r2.atL
    obtain ⟨hl, q⟩ := hy
    subst e1 e2
    refine .inr (.inr ⟨a1, a2, xs, ys, rfl, rfl, s1, s2, by rw [g1.len, g2.len]; exact sz_of (by omega), fun p hp => ?_⟩)
    obtain ⟨x2, R2, r⟩ := fin_lst R (g1.app g2) hp
    exact k _ _ _ x2 R2 r q
def i2Q (C : Int → Int → Prop) (g : Int → Int → Dat) : Dat → Dat → (Dat → Prop) → Prop
  | .int i, .int j, Q => C i j ∧ Q (g i j)
  | _, _, _ => False
theorem rd_I {C : Int → Int → Prop} {g : Int → Int → V} {gd : Int → Int → Dat} (hg : ∀ md H i j, D K B.lt md H (g i j) (gd i j)) {x y : Dat} (h : i2Q C gd x y Q) : RD K B δ (rI C g) x y Q := by
  intro md σ H vx vy Qc R r1 r2 k
  cases x <;> cases y <;> first | exact h.elim | skip
  exact ⟨_, _, r1.intE, r2.intE, h.1, k _ _ _ (Ex.refl md H) R (hg _ _ _ _) h.2⟩
theorem rd_I0 {g : Int → Int → V} {gd : Int → Int → Dat} (hg : ∀ md H i j, D K B.lt md H (g i j) (gd i j)) {x y : Dat} (h : i2Q (fun _ _ => True) gd x y Q) : RD K B δ (rI0 g) x y Q := by
  intro md σ H vx vy Qc R r1 r2 k
  cases x <;> cases y <;> first | exact h.elim | skip
  exact ⟨_, _, r1.intE, r2.intE, k _ _ _ (Ex.refl md H) R (hg _ _ _ _) h.2⟩
abbrev subQ := i2Q (fun _ _ => True) fun i j => .int (i - j)
theorem d_sub2 (h : WE X B a δ fun x => WE X B b δ fun y => subQ x y Q) : WE X B (.BinOp a .Sub b pos) δ Q := d_bin op_sub (h.mono fun _ hx => hx.mono fun _ hy => rd_I0 (fun _ _ _ _ => .int _) hy)
abbrev divQ := i2Q CDivN fun i j => .int (i.fdiv j)
theorem d_fdiv (h : WE X B a δ fun x => WE X B b δ fun y => divQ x y Q) : WE X B (.BinOp a .FloorDiv b pos) δ Q := d_bin op_fdivN (h.mono fun _ hx => hx.mono fun _ hy => rd_I (fun _ _ _ _ => .int _) hy)
abbrev modQ := i2Q (fun _ j => 0 < j) fun i j => .int (i % j)
theorem d_mod (h : WE X B a δ fun x => WE X B b δ fun y => modQ x y Q) : WE X B (.BinOp a .Mod b pos) δ Q := d_bin op_mod (h.mono fun _ hx => hx.mono fun _ hy => rd_I (fun _ _ _ _ => .int _) hy)
abbrev powQ := i2Q CPow fun i j => .int (i ^ j.toNat)
theorem d_pow (h : WE X B a δ fun x => WE X B b δ fun y => powQ x y Q) : WE X B (.BinOp a .Pow b pos) δ Q := d_bin op_pow (h.mono fun _ hx => hx.mono fun _ hy => rd_I (fun _ _ _ _ => .int _) hy)
/-! ### order of whole numbers -/
abbrev ltQ := i2Q (fun _ _ => True) fun i j => .bl (decide (i < j))
abbrev leQ := i2Q (fun _ _ => True) fun i j => .bl (decide (i ≤ j))
abbrev gtQ := i2Q (fun _ _ => True) fun i j => .bl (decide (j < i))
abbrev geQ := i2Q (fun _ _ => True) fun i j => .bl (decide (j ≤ i))
theorem rd_lt {x y : Dat} (h : ltQ x y Q) : RD K B δ (rI0 fun i j => .bl (decide (i < j))) x y Q := rd_I0 (fun _ _ _ _ => .bl _) h
theorem rd_le {x y : Dat} (h : leQ x y Q) : RD K B δ (rI0 fun i j => .bl (decide (i ≤ j))) x y Q := rd_I0 (fun _ _ _ _ => .bl _) h
theorem rd_gt {x y : Dat} (h : gtQ x y Q) : RD K B δ (rI0 fun i j => .bl (decide (j < i))) x y Q := rd_I0 (fun _ _ _ _ => .bl _) h
theorem rd_ge {x y : Dat} (h : geQ x y Q) : RD K B δ (rI0 fun i j => .bl (decide (j ≤ i))) x y Q := rd_I0 (fun _ _ _ _ => .bl _) h
theorem d_lt (h : WE X B a δ fun x => WE X B b δ fun y => ltQ x y Q) : WE X B (.Compare a [.Lt] [b] pos) δ Q := d_cmp op_lt (h.mono fun _ hx => hx.mono fun _ hy => rd_lt hy) (nomark _)
theorem d_le (h : WE X B a δ fun x => WE X B b δ fun y => leQ x y Q) : WE X B (.Compare a [.LtE] [b] pos) δ Q := d_cmp op_le (h.mono fun _ hx => hx.mono fun _ hy => rd_le hy) (nomark _)
theorem d_gt (h : WE X B a δ fun x => WE X B b δ fun y => gtQ x y Q) : WE X B (.Compare a [.Gt] [b] pos) δ Q := d_cmp op_gt (h.mono fun _ hx => hx.mono fun _ hy => rd_gt hy) (nomark _)
theorem d_ge (h : WE X B a δ fun x => WE X B b δ fun y => geQ x y Q) : WE X B (.Compare a [.GtE] [b] pos) δ Q := d_cmp op_ge (h.mono fun _ hx => hx.mono fun _ hy => rd_ge hy) (nomark _)
theorem t_lt {Q : Bool → Prop} (h : WE X B a δ fun x => WE X B b δ fun y => ltQ x y (QB Q)) : WT X B (.Compare a [.Lt] [b] pos) δ Q := t_cmp op_lt (h.mono fun _ hx => hx.mono fun _ hy => rd_lt hy) (nomark _)
theorem t_le {Q : Bool → Prop} (h : WE X B a δ fun x => WE X B b δ fun y => leQ x y (QB Q)) : WT X B (.Compare a [.LtE] [b] pos) δ Q := t_cmp op_le (h.mono fun _ hx => hx.mono fun _ hy => rd_le hy) (nomark _)
theorem t_gt {Q : Bool → Prop} (h : WE X B a δ fun x => WE X B b δ fun y => gtQ x y (QB Q)) : WT X B (.Compare a [.Gt] [b] pos) δ Q := t_cmp op_gt (h.mono fun _ hx => hx.mono fun _ hy => rd_gt hy) (nomark _)
theorem t_ge {Q : Bool → Prop} (h : WE X B a δ fun x => WE X B b δ fun y => geQ x y (QB Q)) : WT X B (.Compare a [.GtE] [b] pos) δ Q := t_cmp op_ge (h.mono fun _ hx => hx.mono fun _ hy => rd_ge hy) (nomark _)
theorem d_chLL (h : WE X B a δ fun x => WE X B b δ fun y => leQ x y (QB fun k => if k = true then WE X B c δ fun z => leQ y z Q else Q (.bl false))) (hm : lastMarks [.LtE, .LtE] [b, c] = false := by with_unfolding_all rfl) : WE X B (.Compare a [.LtE, .LtE] [b, c] pos) δ Q :=
  d_chain op_le op_le (h.mono fun x hx => hx.mono fun y hy => rd_le (by
    cases x <;> cases y <;> first | exact hy.elim | skip
    refine ⟨trivial, ?_⟩
    have q := hy.2
    simp only [QB] at q ⊢
    split <;> rename_i z
    · rw [if_pos z] at q; exact q.mono fun _ h => rd_le h
    · rw [if_neg z] at q; exact q)) hm
theorem d_chLT (h : WE X B a δ fun x => WE X B b δ fun y => leQ x y (QB fun k => if k = true then WE X B c δ fun z => ltQ y z Q else Q (.bl false))) (hm : lastMarks [.LtE, .Lt] [b, c] = false := by with_unfolding_all rfl) : WE X B (.Compare a [.LtE, .Lt] [b, c] pos) δ Q :=
  d_chain op_le op_lt (h.mono fun x hx => hx.mono fun y hy => rd_le (by
    cases x <;> cases y <;> first | exact hy.elim | skip
    refine ⟨trivial, ?_⟩
    have q := hy.2
    simp only [QB] at q ⊢
    split <;> rename_i z
    · rw [if_pos z] at q; exact q.mono fun _ h => rd_lt h
    · rw [if_neg z] at q; exact q)) hm
theorem t_chLL {Q : Bool → Prop} (h : WE X B a δ fun x => WE X B b δ fun y => leQ x y (QB fun k => if k = true then WE X B c δ fun z => leQ y z (QB Q) else Q false)) (hm : lastMarks [.LtE, .LtE] [b, c] = false := by with_unfolding_all rfl) : WT X B (.Compare a [.LtE, .LtE] [b, c] pos) δ Q :=
  t_chain op_le op_le (h.mono fun x hx => hx.mono fun y hy => rd_le (by
    cases x <;> cases y <;> first | exact hy.elim | skip
    refine ⟨trivial, ?_⟩
    have q := hy.2
    simp only [QB] at q ⊢
    split <;> rename_i z
    · rw [if_pos z] at q; exact q.mono fun _ h => rd_le h
    · rw [if_neg z] at q; exact q)) hm
/-! ### equal -/
/-- of two plain values: is it the same one? -/
def seq? : Dat → Dat → Option Bool
  | .non, .non => some true
  | .non, .int _ => some false | .int _, .non => some false
  | .non, .bl _ => some false | .bl _, .non => some false
  | .non, .str _ => some false | .str _, .non => some false
  | .int i, .int j => some (decide (i = j))
  | .str i, .str j => some (decide (i = j))
  | .bl i, .bl j => some (decide (i = j))
  | _, _ => none
def ofDat : Dat → V
  | .non => .non | .bl b => .bl b | .int i => .int i | .str x => .str x | _ => .non
theorem D.of {lt : Nat → LT} {md : Addr → Md} {H : Hp} {v : V} {x : Dat} (h : D K lt md H v x) (f : (∃ i, x = .int i) ∨ (∃ i, x = .str i) ∨ (∃ i, x = .bl i) ∨ x = .non) : v = ofDat x := by
  rcases f with ⟨i, e⟩ | ⟨i, e⟩ | ⟨i, e⟩ | e <;> subst e
  · exact h.intE
  · exact h.strE
  · exact h.blE
  · exact h.nonE
theorem seq_scal {x y : Dat} {k : Bool} (h : seq? x y = some k) : scal (ofDat x) (ofDat y) = true ∧ decide (ofDat x = ofDat y) = k ∧ ((∃ i, x = .int i) ∨ (∃ i, x = .str i) ∨ (∃ i, x = .bl i) ∨ x = .non) ∧ ((∃ i, y = .int i) ∨ (∃ i, y = .str i) ∨ (∃ i, y = .bl i) ∨ y = .non) := by
  cases x <;> cases y <;> (try cases h) <;> simp [ofDat, scal]
mutual
def toPy : Dat → Option PyData
  | .non => some .none | .bl b => some (.bool b) | .int i => some (.int i) | .str x => some (.str x)
  | .tup ds => (toPys ds).map .tuple
  | .lst ds => (toPys ds).map .list
  | .dct _ => none | .ins _ _ => none | .well => none | .fn _ _ => none | .gl _ => none | .ty _ => none
def toPys : List Dat → Option (List PyData)
  | [] => some []
  | d :: ds => match toPy d, toPys ds with
    | some p, some ps => some (p :: ps)
    | _, _ => none
end
mutual
theorem D.dp {lt : Nat → LT} {md : Addr → Md} {H : Hp} : ∀ {v : V} {d : Dat} {q : PyData}, D K lt md H v d → toPy d = some q → Dp K H v q
  | _, .non, _, h, e => by cases h; cases e; exact .non
  | _, .bl b, _, h, e => by cases h; cases e; exact .bl b
  | _, .int i, _, h, e => by cases h; cases e; exact .int i
  | _, .str x, _, h, e => by cases h; cases e; exact .str x
  | _, .tup ds, _, h, e => by
    rw [toPy] at e
    cases q : toPys ds with
    | none => rw [q] at e; cases e
    | some ps =>
      rw [q] at e
      cases e
      obtain ⟨a, xs, ev, s, g⟩ := h.sqT
      subst ev
      exact .tup s (DA.dps g q)
  | _, .lst ds, _, h, e => by
    rw [toPy] at e
    cases q : toPys ds with
    | none => rw [q] at e; cases e
    | some ps =>
      rw [q] at e
      cases e
      obtain ⟨a, xs, ev, s, _, g⟩ := h.atL
      subst ev
      exact .lst (SqL.of s) (DA.dps g q)
  | _, .dct _, _, h, e => by simp [toPy] at e
  | _, .ins _ _, _, h, e => by simp [toPy] at e
  | _, .well, _, h, e => by simp [toPy] at e
  | _, .fn _ _, _, h, e => by simp [toPy] at e
  | _, .gl _, _, h, e => by simp [toPy] at e
  | _, .ty _, _, h, e => by simp [toPy] at e
theorem DA.dps {lt : Nat → LT} {md : Addr → Md} {H : Hp} : ∀ {v : List V} {d : List Dat} {q : List PyData}, DA K lt md H v d → toPys d = some q → DpAll K H v q
  | _, [], _, h, e => by cases h; rw [toPys] at e; cases e; exact .nil
  | _, d :: ds, _, h, e => by
    cases h with
    | cons h1 h2 =>
      rw [toPys] at e
      split at e
      · rename_i p ps e1 e2
        cases e
        exact .cons (D.dp h1 e1) (DA.dps h2 e2)
      · cases e
end
/-- == : of plain values, or of data -/
def eqQ (x y : Dat) (Q : Bool → Prop) : Prop := (∃ k, seq? x y = some k ∧ Q k) ∨ ∃ p q, toPy x = some p ∧ toPy y = some q ∧ SeqAt.shaped p = true ∧ SeqAt.shaped q = true ∧ Q (PyData.eqv p q)
theorem rd_eq (hu : X.A.units + 64 < cLine) {x y : Dat} (h : eqQ x y fun k => Q (.bl k)) : RD X.K B δ (fun x y H Q => rEq x y H Q ∨ rEqD X.K x y H Q) x y Q := by
  intro md σ H vx vy Qc R r1 r2 k
  rcases h with ⟨t, e, q⟩ | ⟨p, q, e1, e2, s1, s2, q'⟩
  · obtain ⟨h1, h2, h3, h4⟩ := seq_scal e
    rw [r1.of h3, r2.of h4]
    exact .inl ⟨h1, by rw [h2]; exact k _ _ _ (Ex.refl md H) R (.bl _) q⟩
  · exact .inr ⟨p, q, r1.dp e1, r2.dp e2, s1, s2, k _ _ _ (Ex.refl md H) R (.bl _) q'⟩
theorem rd_ne (hu : X.A.units + 64 < cLine) {x y : Dat} (h : eqQ x y fun k => Q (.bl (!k))) : RD X.K B δ (fun x y H Q => rNe x y H Q ∨ rNeD X.K x y H Q) x y Q := by
  intro md σ H vx vy Qc R r1 r2 k
  rcases h with ⟨t, e, q⟩ | ⟨p, q, e1, e2, s1, s2, q'⟩
  · obtain ⟨h1, h2, h3, h4⟩ := seq_scal e
    rw [r1.of h3, r2.of h4]
    exact .inl ⟨h1, by rw [h2]; exact k _ _ _ (Ex.refl md H) R (.bl _) q⟩
  · exact .inr ⟨p, q, r1.dp e1, r2.dp e2, s1, s2, k _ _ _ (Ex.refl md H) R (.bl _) q'⟩
theorem d_eq (hu : X.A.units + 64 < cLine) (h : WE X B a δ fun x => WE X B b δ fun y => eqQ x y fun k => Q (.bl k)) : WE X B (.Compare a [.Eq] [b] pos) δ Q := d_cmp (OpR.or op_eq (op_eqD hu)) (h.mono fun _ hx => hx.mono fun _ hy => rd_eq hu hy) (nomark _)
theorem d_ne (hu : X.A.units + 64 < cLine) (h : WE X B a δ fun x => WE X B b δ fun y => eqQ x y fun k => Q (.bl (!k))) : WE X B (.Compare a [.NotEq] [b] pos) δ Q := d_cmp (OpR.or op_ne (op_neD hu)) (h.mono fun _ hx => hx.mono fun _ hy => rd_ne hu hy) (nomark _)
theorem t_eq {Q : Bool → Prop} (hu : X.A.units + 64 < cLine) (h : WE X B a δ fun x => WE X B b δ fun y => eqQ x y Q) : WT X B (.Compare a [.Eq] [b] pos) δ Q := t_cmp (OpR.or op_eq (op_eqD hu)) (h.mono fun _ hx => hx.mono fun _ hy => rd_eq hu hy) (nomark _)
theorem t_ne {Q : Bool → Prop} (hu : X.A.units + 64 < cLine) (h : WE X B a δ fun x => WE X B b δ fun y => eqQ x y fun k => Q (!k)) : WT X B (.Compare a [.NotEq] [b] pos) δ Q := t_cmp (OpR.or op_ne (op_neD hu)) (h.mono fun _ hx => hx.mono fun _ hy => rd_ne hu hy) (nomark _)
theorem d_chEE (hu : X.A.units + 64 < cLine) (h : WE X B a δ fun x => WE X B b δ fun y => eqQ x y fun k => if k = true then WE X B c δ fun z => eqQ y z fun k => Q (.bl k) else Q (.bl false)) (hm : lastMarks [.Eq, .Eq] [b, c] = false := by with_unfolding_all rfl) : WE X B (.Compare a [.Eq, .Eq] [b, c] pos) δ Q :=
  d_chain (OpR.or op_eq (op_eqD hu)) (OpR.or op_eq (op_eqD hu)) (h.mono fun x hx => hx.mono fun y hy => rd_eq hu (by
    have go : ∀ k : Bool, (if k = true then WE X B c δ fun z => eqQ y z fun k => Q (.bl k) else Q (.bl false)) → QB (fun k => if k = true then WE X B c δ fun z => RD X.K B δ (fun x y H Q => rEq x y H Q ∨ rEqD X.K x y H Q) y z Q else Q (.bl false)) (.bl k) := fun k q => by
      simp only [QB]
      split <;> rename_i z
      · rw [if_pos z] at q; exact q.mono fun _ h => rd_eq hu h
      · rw [if_neg z] at q; exact q
    rcases hy with ⟨k, e, q⟩ | ⟨p, q, e1, e2, s1, s2, q'⟩
    · exact .inl ⟨k, e, go k q⟩
    · exact .inr ⟨p, q, e1, e2, s1, s2, go _ q'⟩)) hm
theorem t_chEE {Q : Bool → Prop} (hu : X.A.units + 64 < cLine) (h : WE X B a δ fun x => WE X B b δ fun y => eqQ x y fun k => if k = true then WE X B c δ fun z => eqQ y z Q else Q false) (hm : lastMarks [.Eq, .Eq] [b, c] = false := by with_unfolding_all rfl) : WT X B (.Compare a [.Eq, .Eq] [b, c] pos) δ Q :=
  t_chain (OpR.or op_eq (op_eqD hu)) (OpR.or op_eq (op_eqD hu)) (h.mono fun x hx => hx.mono fun y hy => rd_eq hu (by
    have go : ∀ k : Bool, (if k = true then WE X B c δ fun z => eqQ y z Q else Q false) → QB (fun k => if k = true then WE X B c δ fun z => RD X.K B δ (fun x y H Q => rEq x y H Q ∨ rEqD X.K x y H Q) y z (QB Q) else Q false) (.bl k) := fun k q => by
      simp only [QB]
      split <;> rename_i z
      · rw [if_pos z] at q; exact q.mono fun _ h => rd_eq hu h
      · rw [if_neg z] at q; exact q
    rcases hy with ⟨k, e, q⟩ | ⟨p, q, e1, e2, s1, s2, q'⟩
    · exact .inl ⟨k, e, go k q⟩
    · exact .inr ⟨p, q, e1, e2, s1, s2, go _ q'⟩)) hm
/-! ### is None -/
def isNon : Dat → Bool | .non => true | _ => false
theorem D.isNon {lt : Nat → LT} {md : Addr → Md} {H : Hp} {v : V} {x : Dat} (h : D K lt md H v x) : decide (v = .non) = isNon x := by
  cases h <;> simp [DL.isNon]
theorem rd_isN {x : Dat} (h : Q (.bl (isNon x))) : RD K B δ (fun x y H Q => y = .non ∧ Q (.bl (decide (x = .non))) H) x .non Q := by
  intro md σ H vx vy Qc R r1 r2 k
  exact ⟨r2.nonE, by rw [r1.isNon]; exact k _ _ _ (Ex.refl md H) R (.bl _) h⟩
theorem rd_notN {x : Dat} (h : Q (.bl (!isNon x))) : RD K B δ (fun x y H Q => y = .non ∧ Q (.bl (!decide (x = .non))) H) x .non Q := by
  intro md σ H vx vy Qc R r1 r2 k
  exact ⟨r2.nonE, by rw [r1.isNon]; exact k _ _ _ (Ex.refl md H) R (.bl _) h⟩
theorem d_isN {j p} (h : WE X B a δ fun x => Q (.bl (isNon x))) : WE X B (.Compare a [.Is] [.Constant .none j p] pos) δ Q := d_cmp op_isN (h.mono fun _ hx => d_non (rd_isN hx)) (nomark _)
theorem d_notN {j p} (h : WE X B a δ fun x => Q (.bl (!isNon x))) : WE X B (.Compare a [.IsNot] [.Constant .none j p] pos) δ Q := d_cmp op_notN (h.mono fun _ hx => d_non (rd_notN hx)) (nomark _)
theorem t_isN {j p} {Q : Bool → Prop} (h : WE X B a δ fun x => Q (isNon x)) : WT X B (.Compare a [.Is] [.Constant .none j p] pos) δ Q := t_cmp op_isN (h.mono fun _ hx => d_non (rd_isN hx)) (nomark _)
theorem t_notN {j p} {Q : Bool → Prop} (h : WE X B a δ fun x => Q (!isNon x)) : WT X B (.Compare a [.IsNot] [.Constant .none j p] pos) δ Q := t_cmp op_notN (h.mono fun _ hx => d_non (rd_notN hx)) (nomark _)
end
end DL

/-! DlD -/
set_option Elab.async false
set_option linter.all false
set_option maxRecDepth 100000
set_option maxHeartbeats 4000000
namespace DL
open PySem PySem.Spec PyProof.Rows L2
open NdefX (NTab TabsN)

/-! ### tuple * 0, tuple * 1 -/
theorem tuple_mul0 (l : Addr) (items : Array Value) (n : Nat) (dd : Option Addr) (sl : Array (Option Value)) (u : Tok) (c1 : items.isEmpty = false) :
    Meets (Builtin.«tuple.__mul__» ⟨[.ref l, .int 0 u], []⟩) (fun _ R s => s.heap.get? l = some { cls := .type "tuple", dict := dd, data := .seq items n, slots := sl } ∧
      R (.ok (.ret (Value.ref s.heap.objs.size))) { s with heap := s.heap.push { cls := Value.type "tuple", data := Data.seq #[] }, toks := s.toks }) :=
  .of_wp fun prog w A R s h => by
    obtain ⟨hp, g, d, tk, os⟩ := s
    obtain ⟨hl, h⟩ := h
    have f1 := AutoSeq1.idx_int
    have c2 : (items.isEmpty || (0 : Int) == 1) = false := by rw [c1]; rfl
    wp_walk using wpAny_loadPart' hl
    repeat (first
      | (refine wpAny_ite_false (decide_eq_false (by decide)) ?_; wp_walk using wpAny_loadPart' hl)
      | (refine wpAny_ite_false (decide_eq_false (by rw [c2]; exact Bool.false_ne_true)) ?_; wp_walk using wpAny_loadPart' hl)
      | (refine wpAny_ite_true (decide_eq_true (by simp)) ?_; wp_walk using wpAny_loadPart' hl))
    exact ⟨_, rfl, h⟩
theorem tuple_mul1 (l : Addr) (items : Array Value) (n : Nat) (dd : Option Addr) (sl : Array (Option Value)) (u : Tok) :
    Meets (Builtin.«tuple.__mul__» ⟨[.ref l, .int 1 u], []⟩) (fun _ R s => s.heap.get? l = some { cls := .type "tuple", dict := dd, data := .seq items n, slots := sl } ∧
      R (.ok (.ret (Value.ref l))) s) :=
  .of_wp fun prog w A R s h => by
    obtain ⟨hp, g, d, tk, os⟩ := s
    obtain ⟨hl, h⟩ := h
    have f1 := AutoSeq1.idx_int
    wp_walk using wpAny_loadPart' hl
    repeat (first
      | (refine wpAny_ite_false (decide_eq_false (by decide)) ?_; wp_walk using wpAny_loadPart' hl)
      | (refine wpAny_ite_true (decide_eq_true (by simp)) ?_; wp_walk using wpAny_loadPart' hl))
    exact ⟨_, rfl, h⟩
def rRepS (K : PySem.W.Frag) : R2 := fun x y H Q => ∃ l k xs, x = .ref l ∧ y = .int k ∧ SqT K H l xs ∧ xs ≠ [] ∧ ((k = 0 ∧ ∀ p, H p = none → Q (.ref p) (upd H p (.tup []))) ∨ (k = 1 ∧ Q (.ref l) H))
theorem op_repS {X : Cx} : OpR X (binaryOp .Mult) (rRepS X.K) := by
  intro pins s σ H x y v u Q I rx ry h
  obtain ⟨l, k, xs, rfl, rfl, hT, hne, hk⟩ := h
  cases rx
  obtain ⟨t, rfl⟩ := ry
  obtain ⟨its, r, ⟨⟨cls, dd, data, sl⟩, ho, hc, n, hd⟩, hs⟩ := I.tuple hT
  simp only at hc hd
  subst hc hd
  have hi : its.toArray.isEmpty = false := by
    cases its with
    | nil => cases r; exact absurd rfl hne
    | cons a b => rfl
  refine wpAny_binaryOp_repeat_ref (T := "tuple") (U := "int") (by decide) ⟨_, ho, rfl⟩ (fun s' => typeIs_int s' k t) noFill_tuple_mul F.fills_int_mul F.slot_int_rmul repeat_tuple F.slot_int_index.lookup
    (call_meets F.slot_int_rmul (typeIs_int s k t) F.entry_int_rmul (F.args_int_rmul_2 _ _) (int_rmul_tuple k t l its.toArray n dd sl) ⟨ho, rfl, ⟨_, ho, rfl⟩, ?_⟩)
  rcases hk with ⟨rfl, q⟩ | ⟨rfl, q⟩
  · refine call_meets F.slot_tuple_mul ⟨_, ho, rfl⟩ F.entry_tuple_mul (F.args_tuple_mul_2 _ _) (tuple_mul0 l its.toArray n dd sl t hi) ⟨ho, ?_⟩
    refine ⟨.ref s.heap.objs.size, _, I.laid (t' := s.toks) (o := .tup []) (fun b ob q => Heap.get?_push_of_some _ q) (Nat.le_refl _) ?_, rfl, q _ (I.hok.fresh (Nat.le_refl _))⟩
    exact ⟨Nat.zero_le _, [], .nil, IsTup.new _ _⟩
  · exact call_meets F.slot_tuple_mul ⟨_, ho, rfl⟩ F.entry_tuple_mul (F.args_tuple_mul_2 _ _) (tuple_mul1 l its.toArray n dd sl t) ⟨ho, .ref l, H, I, rfl, q⟩
end DL

/-! DlE -/
set_option Elab.async false
set_option linter.all false
set_option maxRecDepth 100000
set_option maxHeartbeats 4000000
namespace DL
open PySem PySem.Spec PyProof.Rows L2
open NdefX (NTab TabsN)

section
variable {X : Cx} {B : Bx} {K : PySem.W.Frag} {δ : List Sl} {Q Q' : Dat → Prop} {e a b c o i : Expr} {es : List Expr} {pos p p2 : Pos}
/-! ### mul -/
theorem DA.rep {lt : Nat → LT} {md : Addr → Md} {H : Hp} {v : List V} {d : List Dat} (h : DA K lt md H v d) : ∀ n : Nat, DA K lt md H (List.replicate n v).flatten (List.replicate n d).flatten
  | 0 => .nil
  | n + 1 => by rw [List.replicate_succ, List.replicate_succ, List.flatten_cons, List.flatten_cons]; exact h.app (DA.rep h n)
def mulQ : Dat → Dat → (Dat → Prop) → Prop
  | .int i, .int j, Q => CMul i j ∧ Q (.int (i * j))
  | .lst x, .int k, Q => k ≤ 1000 ∧ -1000 ≤ k ∧ x.length ≤ 1000 ∧ Q (.lst (List.replicate k.toNat x).flatten)
  | .tup x, .int k, Q => x ≠ [] ∧ 0 ≤ k ∧ k ≤ 1000 ∧ x.length ≤ 1000 ∧ Q (.tup (List.replicate k.toNat x).flatten)
  | _, _, _ => False
theorem len_rep {α : Type} (n : Nat) (x : List α) : (List.replicate n x).flatten.length = n * x.length := by
  rw [List.length_flatten, List.map_replicate, List.sum_replicate_nat]
theorem d_mul (h : WE X B a δ fun x => WE X B b δ fun y => mulQ x y Q) : WE X B (.BinOp a .Mult b pos) δ Q := by
  refine d_bin (OpR.or op_mul (OpR.or op_rep (OpR.or op_repT op_repS))) (h.mono fun x hx => hx.mono fun y hy => ?_)
  intro md σ H vx vy Qc R r1 r2 k
  cases x <;> cases y <;> first | exact hy.elim | skip
  · exact .inl ⟨_, _, r1.intE, r2.intE, hy.1, k _ _ _ (Ex.refl md H) R (.int _) hy.2⟩
  · rename_i ds j
    obtain ⟨a1, xs, e1, s1, g1⟩ := r1.sqT
    obtain ⟨h0, h1, h2, h3, q⟩ := hy
    have hne : xs ≠ [] := fun z => by subst z; cases g1; exact h0 rfl
    by_cases hj0 : j = 0
    · subst hj0
      refine .inr (.inr (.inr ⟨a1, 0, xs, e1, r2.intE, s1, hne, .inl ⟨rfl, fun p hp => ?_⟩⟩))
      obtain ⟨x2, R2, r⟩ := fin_tup R (xs := []) (ds := []) .nil hp
      exact k _ _ _ x2 R2 r (by simpa using q)
    · by_cases hj1 : j = 1
      · subst hj1
        subst e1
        exact .inr (.inr (.inr ⟨a1, 1, xs, rfl, r2.intE, s1, hne, .inr ⟨rfl, k _ _ _ (Ex.refl md H) R r1 (by simpa using q)⟩⟩))
      · refine .inr (.inr (.inl ⟨a1, j, xs, e1, r2.intE, s1, hne, by omega, h2, by rw [g1.len]; exact h3, fun p hp => ?_⟩))
        obtain ⟨x2, R2, r⟩ := fin_tup R (g1.rep j.toNat) hp
        exact k _ _ _ x2 R2 r q
  · rename_i ds j
    obtain ⟨a1, xs, e1, s1, _, g1⟩ := r1.atL
    obtain ⟨h1, h2, h3, q⟩ := hy
    refine .inr (.inl ⟨a1, j, xs, e1, r2.intE, s1, by omega, by omega, ?_, fun p hp => ?_⟩)
    · rw [g1.len, sizeLine_eq]
      have : ds.length * j.toNat ≤ 1000 * 1000 := Nat.mul_le_mul h3 (by omega)
      omega
    · obtain ⟨x2, R2, r⟩ := fin_lst R (g1.rep j.toNat) hp
      exact k _ _ _ x2 R2 r q
/-! ### in -/
def fl? : Dat → Bool
  | .non => true | .bl _ => true | .int _ => true | .str _ => true | _ => false
def eqS : Dat → Dat → Bool
  | .non, .non => true | .bl i, .bl j => i == j | .bl b, .int i => (if b then 1 else 0) == i | .int i, .bl b => i == (if b then 1 else 0) | .int i, .int j => i == j | .str i, .str j => i == j | _, _ => false
theorem fl_flat {lt : Nat → LT} {md : Addr → Md} {H : Hp} {v : V} {x : Dat} (h : D K lt md H v x) (f : fl? x = true) : flatV v = true := by
  cases h <;> first | rfl | (cases f)
theorem eqS_eqV {lt : Nat → LT} {md : Addr → Md} {H : Hp} {v w : V} {x y : Dat} (h : D K lt md H v x) (f : fl? x = true) (h' : D K lt md H w y) (f' : fl? y = true) : eqV v w = eqS x y := by
  cases h <;> first | (cases f; done) | skip
  all_goals (cases h' <;> first | (cases f'; done) | rfl)
theorem fl_all {lt : Nat → LT} {md : Addr → Md} {H : Hp} : ∀ {v : List V} {x : List Dat}, DA K lt md H v x → x.all fl? = true → v.all flatV = true
  | _, _, .nil, _ => rfl
  | _, _, .cons h r, f => by
    rw [List.all_cons, Bool.and_eq_true] at f ⊢
    exact ⟨fl_flat h f.1, fl_all r f.2⟩
theorem inS {lt : Nat → LT} {md : Addr → Md} {H : Hp} {w : V} {y : Dat} (h' : D K lt md H w y) (f' : fl? y = true) : ∀ {v : List V} {x : List Dat}, DA K lt md H v x → x.all fl? = true → inV w v = x.any fun z => eqS z y
  | _, _, .nil, _ => rfl
  | _, _, .cons h r, f => by
    rw [List.all_cons, Bool.and_eq_true] at f
    have ih := inS h' f' r f.2
    unfold inV at ih ⊢
    rw [List.any_cons, List.any_cons, ih, eqS_eqV h f.1 h' f']
/-- x in xs : flat things in a list | tuple of flat things; one sign in a str; data of any depth in a list -/
def inQ (x y : Dat) (Q : Bool → Prop) : Prop :=
  (∃ ys, (y = .lst ys ∨ y = .tup ys) ∧ fl? x = true ∧ ys.all fl? = true ∧ Q (ys.any fun z => eqS z x)) ∨
  (∃ (c : Nat) (z : Str), x = .str ⟨#[c]⟩ ∧ y = .str z ∧ Q (decide (c ∈ z.cps.toList))) ∨
  ∃ p ys q, y = .lst ys ∧ toPy x = some p ∧ toPys ys = some q ∧ SeqAt.shaped p = true ∧ SeqAt.shaped (.list q) = true ∧ Q (q.any fun z => PyData.eqv z p)
abbrev rInA (K : PySem.W.Frag) : R2 := fun x y H Q => rIn K false x y H Q ∨ (∃ (c : Nat) (z : Str), x = .str ⟨#[c]⟩ ∧ y = .str z ∧ Q (.bl (decide (c ∈ z.cps.toList))) H) ∨ rInD K x y H Q
abbrev rNotInA (K : PySem.W.Frag) : R2 := fun x y H Q => rIn K true x y H Q ∨ (∃ (c : Nat) (z : Str), x = .str ⟨#[c]⟩ ∧ y = .str z ∧ Q (.bl (!decide (c ∈ z.cps.toList))) H) ∨ rNotInD K x y H Q
theorem rd_in {x y : Dat} (h : inQ x y fun k => Q (.bl k)) : RD K B δ (rInA K) x y Q := by
  intro md σ H vx vy Qc R r1 r2 k
  rcases h with ⟨ys, ey, f1, f2, q⟩ | ⟨c, z, e1, e2, q⟩ | ⟨p, ys, q', ey, e1, e2, s1, s2, q⟩
  · rcases ey with rfl | rfl
    · obtain ⟨a2, xs, e2, s2, _, g2⟩ := r2.atL
      exact .inl ⟨a2, xs, e2, .inl (SqL.of s2), fl_flat r1 f1, fl_all g2 f2, by rw [if_neg Bool.false_ne_true, inS r1 f1 g2 f2]; exact k _ _ _ (Ex.refl md H) R (.bl _) q⟩
    · obtain ⟨a2, xs, e2, s2, g2⟩ := r2.sqT
      exact .inl ⟨a2, xs, e2, .inr s2, fl_flat r1 f1, fl_all g2 f2, by rw [if_neg Bool.false_ne_true, inS r1 f1 g2 f2]; exact k _ _ _ (Ex.refl md H) R (.bl _) q⟩
  · subst e1 e2
    exact .inr (.inl ⟨c, z, r1.strE, r2.strE, k _ _ _ (Ex.refl md H) R (.bl _) q⟩)
  · subst ey
    exact .inr (.inr ⟨p, q', r1.dp e1, r2.dp (by rw [toPy, e2]; rfl), s1, s2, k _ _ _ (Ex.refl md H) R (.bl _) q⟩)
theorem rd_notin {x y : Dat} (h : inQ x y fun k => Q (.bl (!k))) : RD K B δ (rNotInA K) x y Q := by
  intro md σ H vx vy Qc R r1 r2 k
  rcases h with ⟨ys, ey, f1, f2, q⟩ | ⟨c, z, e1, e2, q⟩ | ⟨p, ys, q', ey, e1, e2, s1, s2, q⟩
  · rcases ey with rfl | rfl
    · obtain ⟨a2, xs, e2, s2, _, g2⟩ := r2.atL
      exact .inl ⟨a2, xs, e2, .inl (SqL.of s2), fl_flat r1 f1, fl_all g2 f2, by rw [if_pos rfl, inS r1 f1 g2 f2]; exact k _ _ _ (Ex.refl md H) R (.bl _) q⟩
    · obtain ⟨a2, xs, e2, s2, g2⟩ := r2.sqT
      exact .inl ⟨a2, xs, e2, .inr s2, fl_flat r1 f1, fl_all g2 f2, by rw [if_pos rfl, inS r1 f1 g2 f2]; exact k _ _ _ (Ex.refl md H) R (.bl _) q⟩
  · subst e1 e2
    exact .inr (.inl ⟨c, z, r1.strE, r2.strE, k _ _ _ (Ex.refl md H) R (.bl _) q⟩)
  · subst ey
    exact .inr (.inr ⟨p, q', r1.dp e1, r2.dp (by rw [toPy, e2]; rfl), s1, s2, k _ _ _ (Ex.refl md H) R (.bl _) q⟩)
theorem or_in (hu : X.A.units + 65 < cLine) : OpR X (compareOp .In) (rInA X.K) := OpR.or op_in_seq (OpR.or op_in_sign (op_inD hu))
theorem or_notin (hu : X.A.units + 65 < cLine) : OpR X (compareOp .NotIn) (rNotInA X.K) := OpR.or op_notIn_seq (OpR.or op_notIn_sign (op_notInD hu))
/-- the right side is not a list | tuple of constants in the text -/
theorem d_in (hu : X.A.units + 65 < cLine) (h : WE X B a δ fun x => WE X B b δ fun y => inQ x y fun k => Q (.bl k)) (hm : behindInMarks .In b = false := by rfl) : WE X B (.Compare a [.In] [b] pos) δ Q := d_cmp (or_in hu) (h.mono fun _ hx => hx.mono fun _ hy => rd_in hy) hm
theorem d_notin (hu : X.A.units + 65 < cLine) (h : WE X B a δ fun x => WE X B b δ fun y => inQ x y fun k => Q (.bl (!k))) (hm : behindInMarks .NotIn b = false := by rfl) : WE X B (.Compare a [.NotIn] [b] pos) δ Q := d_cmp (or_notin hu) (h.mono fun _ hx => hx.mono fun _ hy => rd_notin hy) hm
theorem t_in {Q : Bool → Prop} (hu : X.A.units + 65 < cLine) (h : WE X B a δ fun x => WE X B b δ fun y => inQ x y Q) (hm : behindInMarks .In b = false := by rfl) : WT X B (.Compare a [.In] [b] pos) δ Q := t_cmp (or_in hu) (h.mono fun _ hx => hx.mono fun _ hy => rd_in hy) hm
theorem t_notin {Q : Bool → Prop} (hu : X.A.units + 65 < cLine) (h : WE X B a δ fun x => WE X B b δ fun y => inQ x y fun k => Q (!k)) (hm : behindInMarks .NotIn b = false := by rfl) : WT X B (.Compare a [.NotIn] [b] pos) δ Q := t_cmp (or_notin hu) (h.mono fun _ hx => hx.mono fun _ hy => rd_notin hy) hm
/-! ### x[i], x[lo:hi] -/
/-- a name at an own object: the address alone -/
theorem d_own (i : Nat) {x : Str} {pp : Addr} {d : Dat} (hδ : δ[i]? = some (.own pp d)) (q : Q (.gl pp)) (hN : X.N[i]? = some x := by rfl) (hv : Vis X.env.scope x := by first | exact Or.inl rfl | exact Or.inr (Or.inl rfl) | exact Or.inr (Or.inr rfl))
    (hd : (x == ("__debug__" : Str)) = false := by decide) (hcd : (x == ("__classdict__" : Str)) = false := by decide) : WE X B (.Name x pos) δ Q := fun md σ H Qc R k => by
  obtain ⟨o, e, e2, r⟩ := R.sl i _ hδ
  subst e2
  exact PE.can (pe_var hN hv hd hcd) ⟨_, e, k _ H _ (Ex.refl md H) R (.gl pp) q⟩
theorem DA.atI_ {lt : Nat → LT} {md : Addr → Md} {H : Hp} {v : List V} {d : List Dat} {i : Int} {x : Dat} (h : DA K lt md H v d) (e : atI d i = some x) : ∃ y, atI v i = some y ∧ D K lt md H y x := by
  unfold atI at e ⊢
  rw [h.len]
  cases q : ixN d.length i with
  | none => rw [q] at e; cases e
  | some j => rw [q] at e; exact h.get e
def ixQ (δ : List Sl) (x y : Dat) (Q : Dat → Prop) : Prop := match x, y with
  | .tup ds, .int i => ∃ v, atI ds i = some v ∧ Q v
  | .lst ds, .int i => ∃ v, atI ds i = some v ∧ Q v
  | .gl p, .int i => ∃ (j : Nat) (ds : List Dat) (v : Dat), δ[j]? = some (.own p (.lst ds)) ∧ atI ds i = some v ∧ Q v
  | .str z, .int i => z.length ≤ 100000 ∧ ∃ c, atI z.cps.toList i = some c ∧ Q (.str ⟨#[c]⟩)
  | .well, .int i => (i = 0 ∧ ∀ x, 0 ≤ x → Q (.int x)) ∨ (i = 1 ∧ ∀ x, 0 ≤ x → x < 2147483647 → Q (.int x)) ∨ (i = 2 ∧ ∀ x, 0 ≤ x → Q (.int x))
  | _, _ => False
theorem d_sub (h : WE X B a δ fun x => WE X B b δ fun y => ixQ δ x y Q) (hs : PlainIx b := by exact fun _ _ => rfl) : WE X B (.Subscript a b pos) δ Q := fun md σ H Qc R k =>
  PE.can (pe_ix ix_seq pe_can pe_can hs) (h md σ H _ R fun vx H1 dx x1 R1 r1 hb => hb md σ H1 _ R1 fun vy H2 dy x2 R2 r2 hr => by
    have r1' := r1.mono x2
    cases dx <;> cases dy <;> first | exact hr.elim | skip
    · obtain ⟨hz, c, e, q⟩ := hr
      exact .inr (.inr ⟨_, _, c, r1'.strE, r2.intE, sz_of hz, e, k _ _ _ (x1.trans x2) R2 (.str _) q⟩)
    · obtain ⟨a1, xs, e1, s1, g1⟩ := r1'.sqT
      obtain ⟨v, e, q⟩ := hr
      obtain ⟨y, e3, ry⟩ := g1.atI_ e
      exact .inr (.inl ⟨a1, xs, _, y, e1, r2.intE, s1, e3, k _ _ _ (x1.trans x2) R2 ry q⟩)
    · obtain ⟨a1, xs, e1, s1, _, g1⟩ := r1'.atL
      obtain ⟨v, e, q⟩ := hr
      obtain ⟨y, e3, ry⟩ := g1.atI_ e
      exact .inl ⟨a1, xs, _, y, e1, r2.intE, SqL.of s1, e3, k _ _ _ (x1.trans x2) R2 ry q⟩
    · cases r1' with
      | well hm w =>
        obtain ⟨x, y, z, e, h1, h2, h3, h4⟩ := w
        rcases hr with ⟨ei, q⟩ | ⟨ei, q⟩ | ⟨ei, q⟩ <;> subst ei
        · exact .inl ⟨_, _, 0, _, rfl, r2.intE, SqL.of e, rfl, k _ _ _ (x1.trans x2) R2 (.int x) (q x h1)⟩
        · exact .inl ⟨_, _, 1, _, rfl, r2.intE, SqL.of e, rfl, k _ _ _ (x1.trans x2) R2 (.int y) (q y h2 h3)⟩
        · exact .inl ⟨_, _, 2, _, rfl, r2.intE, SqL.of e, rfl, k _ _ _ (x1.trans x2) R2 (.int z) (q z h4)⟩
    · obtain ⟨j, ds, v, eδ, e, q⟩ := hr
      obtain ⟨o, _, _, _, _, xs, e4, g1⟩ := R2.sl j _ eδ
      obtain ⟨y, e3, ry⟩ := g1.atI_ e
      exact .inl ⟨_, xs, _, y, r1.glE, r2.intE, SqL.of e4, e3, k _ _ _ (x1.trans x2) R2 ry q⟩)
/-- the value behind a key -/
def dval (kvs : List (Key × Dat)) (k : Key) : Option Dat := (kvs.find? fun kv => decide (kv.1 = k)).map (·.2)
theorem DK.val {lt : Nat → LT} {md : Addr → Md} {H : Hp} : ∀ {v : List (Key × V)} {d : List (Key × Dat)} {k : Key}, DK K lt md H v d → (∀ x, dval d k = some x → ∃ y, valV v k = some y ∧ D K lt md H y x) ∧ (dval d k = none → valV v k = none)
  | _, _, _, .nil => ⟨fun x e => (by cases e), fun _ => rfl⟩
  | _, _, k, .cons (k := k') h r => by
    unfold dval valV
    rw [List.find?_cons, List.find?_cons]
    by_cases z : k' = k
    · rw [decide_eq_true z]
      exact ⟨fun x e => by cases e; exact ⟨_, rfl, h⟩, fun e => by cases e⟩
    · rw [decide_eq_false z]
      exact DK.val r
/-- a key as data -/
def kD : Dat → Option Key
  | .int i => some (.inl i) | .str x => some (.inr x) | _ => none
theorem kD_kV {lt : Nat → LT} {md : Addr → Md} {H : Hp} {v : V} {d : Dat} {k : Key} (r : D K lt md H v d) (e : kD d = some k) : v = kV k := by
  cases d <;> cases e
  · exact r.intE
  · exact r.strE
def dsubQ (δ : List Sl) (x y : Dat) (Q : Dat → Prop) : Prop := ∃ k, kD y = some k ∧ match x with
  | .dct ds => ∃ v, dval ds k = some v ∧ Q v
  | .gl p => ∃ (j : Nat) (ds : List (Key × Dat)) (v : Dat), δ[j]? = some (.own p (.dct ds)) ∧ dval ds k = some v ∧ Q v
  | _ => False
theorem d_dsub (hu : X.A.units + 1 < cLine) (h : WE X B a δ fun x => WE X B b δ fun y => dsubQ δ x y Q) (hs : NoSl b := by exact fun _ => rfl) : WE X B (.Subscript a b pos) δ Q := fun md σ H Qc R k =>
  PE.can (pe_dget hu pe_can pe_can hs) (h md σ H _ R fun vx H1 dx x1 R1 r1 hb => hb md σ H1 _ R1 fun vy H2 dy x2 R2 r2 ⟨key, ek, hr⟩ => by
    have r1' := r1.mono x2
    have ey := kD_kV r2 ek
    subst ey
    cases dx <;> first | exact hr.elim | skip
    · obtain ⟨a1, xs, e1, s1, _, g1⟩ := r1'.atD
      obtain ⟨v, e, q⟩ := hr
      obtain ⟨y, e3, ry⟩ := g1.val.1 _ e
      exact ⟨a1, y, e1, by rw [← e3]; exact DGet.k s1, k _ _ _ (x1.trans x2) R2 ry q⟩
    · obtain ⟨j, ds, v, eδ, e, q⟩ := hr
      obtain ⟨o, _, _, _, _, xs, e4, g1⟩ := R2.sl j _ eδ
      obtain ⟨y, e3, ry⟩ := g1.val.1 _ e
      exact ⟨_, y, r1.glE, by rw [← e3]; exact DGet.k e4, k _ _ _ (x1.trans x2) R2 ry q⟩)
def dgetQ (x y z : Dat) (Q : Dat → Prop) : Prop := match x with
  | .dct ds => ∃ k, kD y = some k ∧ Q ((dval ds k).getD z)
  | _ => False
/-- d.get(k, z) -/
theorem d_dget2 {apos cpos : Pos} (hu : X.A.units + 1 < cLine) (m : M2 X o "get" apos a b cpos) (h : WE X B o δ fun x => (∃ ds, x = .dct ds) ∧ WE X B a δ fun y => WE X B b δ fun z => dgetQ x y z Q) : WE X B (.Call (.Attribute o "get" apos) [a, b] [] cpos) δ Q := fun md σ H Qc R k =>
  PE.can (pe_dget2 hu pe_can pe_can pe_can m) (h md σ H _ R fun vx H1 dx x1 R1 r1 ⟨⟨ds, ed⟩, ha⟩ => by
    subst ed
    obtain ⟨a1, xs, e1, s1, m1, g1⟩ := r1.atD
    refine ⟨a1, e1, .inl ⟨xs, .inl s1⟩, ha md σ H1 _ R1 fun vy H2 dy x2 R2 r2 hb => hb md σ H2 _ R2 fun vz H3 dz x3 R3 r3 hr => ?_⟩
    obtain ⟨key, ek, q⟩ := hr
    have ey := kD_kV r2 ek
    subst ey
    have x23 := x2.trans x3
    have s3 := (x23.xd.imm _ _ m1 s1 nt_dK).2
    have g3 := DK.mono x23 g1
    refine ⟨_, DGet.k s3, ?_⟩
    cases e : dval ds key with
    | none =>
      rw [e] at q
      rw [g3.val.2 e]
      exact k _ _ _ (x1.trans x23) R3 r3 q
    | some v =>
      rw [e] at q
      obtain ⟨y, e3, ry⟩ := g3.val.1 _ e
      rw [e3]
      exact k _ _ _ (x1.trans x23) R3 ry q)
/-! ### slices -/
/-- a part of a slice -/
def WO (X : Cx) (B : Bx) (e : Option Expr) (δ : List Sl) (Q : Option Int → Prop) : Prop := match e with
  | none => Q none
  | some e => WE X B e δ fun d => ∃ i, d = .int i ∧ Q (some i)
def tCanO (X : Cx) (e : Option Expr) : TO := match e with
  | none => tNoPart
  | some e => tPart (tCan X e)
theorem po_can : ∀ {e : Option Expr}, PO X e (tCanO X e)
  | none => po_none
  | some _ => po_some pe_can
theorem WO.run {oe : Option Expr} {Qo : Option Int → Prop} (h : WO X B oe δ Qo) {md : Addr → Md} {σ : L2.St} {H : Hp} {Qc : Option Int → Hp → Prop} (R : Rep X.K B md δ σ H) (k : ∀ v H', Ex md H H' → Rep X.K B md δ σ H' → Qo v → Qc v H') : tCanO X oe σ H Qc := by
  cases oe with
  | none => exact k none H (Ex.refl md H) R h
  | some e => exact h md σ H _ R fun v H' d x R' r ⟨i, ed, q⟩ => by subst ed; exact ⟨i, r.intE, k _ H' x R' q⟩
def cutD {α : Type} (xs : List α) (lo hi : Option Int) : List α := (xs.drop (HT.sIx xs.length 0 lo)).take (HT.sIx xs.length xs.length hi - HT.sIx xs.length 0 lo)
theorem DA.cut {lt : Nat → LT} {md : Addr → Md} {H : Hp} {v : List V} {d : List Dat} (h : DA K lt md H v d) (lo hi : Option Int) : DA K lt md H (cutV v lo hi) (cutD d lo hi) := by
  unfold cutV cutD
  rw [h.len]
  exact (h.drop _).take _
def slQ (x : Dat) (lo hi : Option Int) (Q : Dat → Prop) : Prop := match x with
  | .tup ds => Q (.tup (cutD ds lo hi))
  | .lst ds => Q (.lst (cutD ds lo hi))
  | _ => False
theorem cut_whole {α : Type} {xs : List α} {lo hi : Option Int} (h : HT.sIx xs.length 0 lo = 0 ∧ HT.sIx xs.length xs.length hi = xs.length) : cutD xs lo hi = xs := by
  unfold cutD
  rw [h.1, h.2]
  simp
theorem d_slice {lo hi : Option Expr} (h : WE X B a δ fun x => WO X B lo δ fun l => WO X B hi δ fun u => slQ x l u Q) : WE X B (.Subscript a (.Slice lo hi none p2) pos) δ Q := fun md σ H Qc R k =>
  PE.can (pe_slice (sl_tupA.or sl_list) pe_can po_can po_can) (h md σ H _ R fun vx H1 dx x1 R1 r1 hb => hb.run R1 fun l H2 x2 R2 hc => hc.run R2 fun u H3 x3 R3 hr => by
    have r1' := r1.mono (x2.trans x3)
    have x13 := x1.trans (x2.trans x3)
    cases dx <;> first | exact hr.elim | skip
    · obtain ⟨a1, xs, e1, s1, g1⟩ := r1'.sqT
      refine .inl ⟨a1, xs, e1, s1, fun hw => ?_, fun hw p hp => ?_⟩
      · subst e1
        rw [g1.len] at hw
        exact k _ _ _ x13 R3 r1' (by rw [← cut_whole hw]; exact hr)
      · obtain ⟨x4, R4, r⟩ := fin_tup R3 (g1.cut l u) hp
        exact k _ _ _ (x13.trans x4) R4 r hr
    · obtain ⟨a1, xs, e1, s1, _, g1⟩ := r1'.atL
      refine .inr ⟨a1, xs, e1, SqL.of s1, fun p hp => ?_⟩
      obtain ⟨x4, R4, r⟩ := fin_lst R3 (g1.cut l u) hp
      exact k _ _ _ (x13.trans x4) R4 r hr)
/-! ### o.f -/
def fldQ (K : PySem.W.Frag) (δ : List Sl) (f : Str) (x : Dat) (Q : Dat → Prop) : Prop := match x with
  | .ins C fs => Cls K C ∧ NoAttr K C f ∧ ∃ v, fs.lookup f = some v ∧ Q v
  | .gl p => ∃ (j : Nat) (C : Addr) (fs : List (Str × Dat)) (v : Dat), δ[j]? = some (.own p (.ins C fs)) ∧ Cls K C ∧ NoAttr K C f ∧ fs.lookup f = some v ∧ Q v
  | _ => False
theorem d_fld {f : Str} (h : WE X B a δ fun x => fldQ X.K δ f x Q) (hb : attributeBase a f X.env (eval a X.env) = eval a X.env := by rfl) : WE X B (.Attribute a f pos) δ Q := fun md σ H Qc R k =>
  PE.can (pe_fld pe_can hb) (h md σ H _ R fun vx H1 dx x1 R1 r1 hr => by
    cases dx <;> first | exact hr.elim | skip
    · obtain ⟨a1, dx, xs, e1, s1, _, g1⟩ := r1.atI
      obtain ⟨c, n, v, e, q⟩ := hr
      obtain ⟨y, e3, ry⟩ := g1.look e
      exact ⟨a1, _, dx, xs, y, e1, s1, c, n, e3, k _ _ _ x1 R1 ry q⟩
    · obtain ⟨j, C, fs, v, eδ, c, n, e, q⟩ := hr
      obtain ⟨o, _, _, _, _, dx, xs, e4, g1⟩ := R1.sl j _ eδ
      obtain ⟨y, e3, ry⟩ := g1.look e
      exact ⟨_, _, dx, xs, y, r1.glE, e4, c, n, e3, k _ _ _ x1 R1 ry q⟩)
end
end DL

/-! DlF -/
set_option Elab.async false
set_option linter.all false
set_option maxRecDepth 100000
set_option maxHeartbeats 4000000
namespace DL
open PySem PySem.Spec PyProof.Rows L2
open NdefX (NTab TabsN)

section
variable {X : Cx} {B : Bx} {K : PySem.W.Frag} {δ : List Sl} {Q Q' : Dat → Prop} {e a b c o i : Expr} {es : List Expr} {pos p p2 : Pos} {x : Str} {id T : String}
/-! ### built-in calls -/
def CRD (K : PySem.W.Frag) (B : Bx) (δ : List Sl) (r : List V → Hp → VK → Prop) (ds : List Dat) (Q : Dat → Prop) : Prop :=
  ∀ md σ H vs (Qc : VK), Rep K B md δ σ H → DA K B.lt md H vs ds → (∀ v H' d, Ex md H H' → Rep K B md δ σ H' → D K B.lt md H' v d → Q d → Qc v H') → r vs H Qc
theorem d_callB {r : List V → Hp → VK → Prop} (hc : CallR X (.builtin id) r) (hm : X.mg x = none) (hv : bootBuiltins x = some (.builtin id)) (h : WA X B (e :: es) δ fun ds => CRD X.K B δ r ds Q) (hg : Gl X x := by rfl) (hn : x ≠ "__name__" := by decide) (hdb : (x == ("__debug__" : Str)) = false := by decide)
    (he : starEach (e :: es) X.env = (false, eval e X.env) :: starEach es X.env := by rfl) (hpl : (backTo pos (starEach es X.env)).any (·.1) = false := by rfl) : WE X B (.Call (.Name x p) (e :: es) [] pos) δ Q := fun md σ H Qc R k =>
  PE.can (pe_callB hc hg hm hv pa_can hn hdb he hpl) (h md σ H _ R fun vs H1 ds x1 R1 r1 hr => hr md σ H1 vs Qc R1 r1 fun v H' d x2 R2 r2 q => k v H' d (x1.trans x2) R2 r2 q)
theorem d_callTy {r : List V → Hp → VK → Prop} (hc : CallR X (.type T) r) (hm : X.mg x = none) (hv : bootBuiltins x = some (.type T)) (h : WA X B (e :: es) δ fun ds => CRD X.K B δ r ds Q) (hg : Gl X x := by rfl) (hn : x ≠ "__name__" := by decide) (hdb : (x == ("__debug__" : Str)) = false := by decide)
    (he : starEach (e :: es) X.env = (false, eval e X.env) :: starEach es X.env := by rfl) (hpl : (backTo pos (starEach es X.env)).any (·.1) = false := by rfl) : WE X B (.Call (.Name x p) (e :: es) [] pos) δ Q := fun md σ H Qc R k =>
  PE.can (pe_callTy hc hg hm hv pa_can hn hdb he hpl) (h md σ H _ R fun vs H1 ds x1 R1 r1 hr => hr md σ H1 vs Qc R1 r1 fun v H' d x2 R2 r2 q => k v H' d (x1.trans x2) R2 r2 q)
theorem DA.one {lt : Nat → LT} {md : Addr → Md} {H : Hp} {vs : List V} {d : Dat} (h : DA K lt md H vs [d]) : ∃ v, vs = [v] ∧ D K lt md H v d := by
  cases h with
  | cons h r => cases r; exact ⟨_, rfl, h⟩
theorem DA.two {lt : Nat → LT} {md : Addr → Md} {H : Hp} {vs : List V} {d d' : Dat} (h : DA K lt md H vs [d, d']) : ∃ v w, vs = [v, w] ∧ D K lt md H v d ∧ D K lt md H w d' := by
  cases h with
  | cons h r => cases r with
    | cons h2 r => cases r; exact ⟨_, _, rfl, h, h2⟩
abbrev rLen (K : PySem.W.Frag) : List V → Hp → VK → Prop := fun xs H Q => (∃ p ys, xs = [.ref p] ∧ (SqL K H p ys ∨ SqT K H p ys) ∧ Q (.int ys.length) H) ∨ (∃ z, xs = [.str z] ∧ z.length ≤ sizeLine ∧ Q (.int z.length) H)
theorem CallR.or_ {f : Value} {r r' : List V → Hp → VK → Prop} (h : CallR X f r) (h' : CallR X f r') : CallR X f (fun xs H Q => r xs H Q ∨ r' xs H Q) := by
  intro pins s σ H xs us Q I rx q
  rcases q with q | q
  · exact h pins s σ H xs us Q I rx q
  · exact h' pins s σ H xs us Q I rx q
def lenQ : List Dat → (Dat → Prop) → Prop
  | [.tup ds], Q => Q (.int ds.length)
  | [.lst ds], Q => Q (.int ds.length)
  | [.str z], Q => z.length ≤ 100000 ∧ Q (.int z.length)
  | _, _ => False
theorem one_only {ds : List Dat} {f : Dat → Prop} {g : List Dat → Prop} (h : g ds) (h0 : ¬ g []) (h2 : ∀ a b r, ¬ g (a :: b :: r)) : ∃ d, ds = [d] ∧ g [d] := by
  match ds, h with
  | [], h => exact absurd h h0
  | [d], h => exact ⟨d, rfl, h⟩
  | a :: b :: r, h => exact absurd h (h2 a b r)
theorem d_len (hm : X.mg "len" = none) (h : WE X B a δ fun d => lenQ [d] Q) (he : starEach [a] X.env = (false, eval a X.env) :: starEach [] X.env := by rfl) (hg : Gl X "len" := by rfl) : WE X B (.Call (.Name "len" p) [a] [] pos) δ Q := by
  refine d_callB (CallR.or_ call_len_seq call_len_str) hm boot_len (a_cons (h.mono fun d hd => a_nil ?_) he) hg (he := he)
  intro md σ H vs Qc R r k
  obtain ⟨v, ev, r1⟩ := r.one
  subst ev
  cases d <;> first | exact hd.elim | skip
  · exact .inr ⟨_, by rw [r1.strE], sz_of hd.1, k _ _ _ (Ex.refl md H) R (.int _) hd.2⟩
  · obtain ⟨a1, xs, e1, s1, g1⟩ := r1.sqT
    exact .inl ⟨a1, xs, by rw [e1], .inr s1, by rw [g1.len]; exact k _ _ _ (Ex.refl md H) R (.int _) hd⟩
  · obtain ⟨a1, xs, e1, s1, _, g1⟩ := r1.atL
    exact .inl ⟨a1, xs, by rw [e1], .inl (SqL.of s1), by rw [g1.len]; exact k _ _ _ (Ex.refl md H) R (.int _) hd⟩
def intQ : Dat → (Dat → Prop) → Prop
  | .int i, Q => Q (.int i)
  | .bl b, Q => Q (.int (if b then 1 else 0))
  | _, _ => False
theorem d_int1 (hm : X.mg "int" = none) (h : WE X B a δ fun d => intQ d Q) (he : starEach [a] X.env = (false, eval a X.env) :: starEach [] X.env := by rfl) (hg : Gl X "int" := by rfl) : WE X B (.Call (.Name "int" p) [a] [] pos) δ Q := by
  refine d_callTy call_int1 hm boot_int (a_cons (h.mono fun d hd => a_nil ?_) he) hg (he := he)
  intro md σ H vs Qc R r k
  obtain ⟨v, ev, r1⟩ := r.one
  subst ev
  cases d <;> first | exact hd.elim | skip
  · exact .inr ⟨_, by rw [r1.blE], k _ _ _ (Ex.refl md H) R (.int _) hd⟩
  · exact .inl ⟨_, by rw [r1.intE], k _ _ _ (Ex.refl md H) R (.int _) hd⟩
def seqQ (f : List Dat → Dat) : Dat → (Dat → Prop) → Prop
  | .tup ds, Q => Q (f ds)
  | .lst ds, Q => Q (f ds)
  | _, _ => False
theorem d_tuple (hm : X.mg "tuple" = none) (h : WE X B a δ fun d => seqQ .tup d Q) (he : starEach [a] X.env = (false, eval a X.env) :: starEach [] X.env := by rfl) (hg : Gl X "tuple" := by rfl) : WE X B (.Call (.Name "tuple" p) [a] [] pos) δ Q := by
  refine d_callTy call_tuple_of hm boot_tuple (a_cons (h.mono fun d hd => a_nil ?_) he) hg (he := he)
  intro md σ H vs Qc R r k
  obtain ⟨v, ev, r1⟩ := r.one
  subst ev
  cases d <;> first | exact hd.elim | skip
  · obtain ⟨a1, xs, e1, s1, g1⟩ := r1.sqT
    subst e1
    exact ⟨a1, xs, rfl, .inr ⟨s1, k _ _ _ (Ex.refl md H) R r1 hd⟩⟩
  · obtain ⟨a1, xs, e1, s1, _, g1⟩ := r1.atL
    refine ⟨a1, xs, by rw [e1], .inl ⟨SqL.of s1, fun p hp => ?_⟩⟩
    obtain ⟨x4, R4, r⟩ := fin_tup R g1 hp
    exact k _ _ _ x4 R4 r hd
theorem d_list (hm : X.mg "list" = none) (h : WE X B a δ fun d => seqQ .lst d Q) (he : starEach [a] X.env = (false, eval a X.env) :: starEach [] X.env := by rfl) (hg : Gl X "list" := by rfl) : WE X B (.Call (.Name "list" p) [a] [] pos) δ Q := by
  refine d_callTy call_list_of hm boot_list (a_cons (h.mono fun d hd => a_nil ?_) he) hg (he := he)
  intro md σ H vs Qc R r k
  obtain ⟨v, ev, r1⟩ := r.one
  subst ev
  cases d <;> first | exact hd.elim | skip
  · obtain ⟨a1, xs, e1, s1, g1⟩ := r1.sqT
    refine ⟨a1, xs, by rw [e1], .inr s1, fun p hp => ?_⟩
    obtain ⟨x4, R4, r⟩ := fin_lst R g1 hp
    exact k _ _ _ x4 R4 r hd
  · obtain ⟨a1, xs, e1, s1, _, g1⟩ := r1.atL
    refine ⟨a1, xs, by rw [e1], .inl (SqL.of s1), fun p hp => ?_⟩
    obtain ⟨x4, R4, r⟩ := fin_lst R g1 hp
    exact k _ _ _ x4 R4 r hd
theorem d_sum (hc : X.calm = true) (hm : X.mg "sum" = none) (h : WE X B a δ fun d => ∃ ns : List Int, d = .lst (ns.map Dat.int) ∧ Q (.int ns.sum)) (he : starEach [a] X.env = (false, eval a X.env) :: starEach [] X.env := by rfl) (hg : Gl X "sum" := by rfl) : WE X B (.Call (.Name "sum" p) [a] [] pos) δ Q := by
  refine d_callB (cr_sum hc) hm boot_sum (a_cons (h.mono fun d hd => a_nil ?_) he) hg (he := he)
  intro md σ H vs Qc R r k
  obtain ⟨v, ev, r1⟩ := r.one
  obtain ⟨ns, ed, q⟩ := hd
  subst ev ed
  obtain ⟨a1, xs, e1, s1, _, g1⟩ := r1.atL
  rw [g1.ints] at s1
  exact ⟨a1, ns, by rw [e1], SqL.of s1, k _ _ _ (Ex.refl md H) R (.int _) q⟩
theorem d_max1 (hc : X.calm = true) (hm : X.mg "max" = none) (h : WE X B a δ fun d => ∃ ns : List Int, d = .lst (ns.map Dat.int) ∧ 0 < ns.length ∧ ∀ m, m ∈ ns → (∀ y, y ∈ ns → y ≤ m) → Q (.int m)) (he : starEach [a] X.env = (false, eval a X.env) :: starEach [] X.env := by rfl) (hg : Gl X "max" := by rfl) : WE X B (.Call (.Name "max" p) [a] [] pos) δ Q := by
  refine d_callB (cr_max hc) hm boot_max (a_cons (h.mono fun d hd => a_nil ?_) he) hg (he := he)
  intro md σ H vs Qc R r k
  obtain ⟨v, ev, r1⟩ := r.one
  obtain ⟨ns, ed, hl, q⟩ := hd
  subst ev ed
  obtain ⟨a1, xs, e1, s1, _, g1⟩ := r1.atL
  rw [g1.ints] at s1
  exact ⟨a1, ns, by rw [e1], SqL.of s1, hl, fun m h1 h2 => k _ _ _ (Ex.refl md H) R (.int _) (q m h1 h2)⟩
theorem d_min1 (hc : X.calm = true) (hm : X.mg "min" = none) (h : WE X B a δ fun d => ∃ ns : List Int, d = .lst (ns.map Dat.int) ∧ 0 < ns.length ∧ ∀ m, m ∈ ns → (∀ y, y ∈ ns → m ≤ y) → Q (.int m)) (he : starEach [a] X.env = (false, eval a X.env) :: starEach [] X.env := by rfl) (hg : Gl X "min" := by rfl) : WE X B (.Call (.Name "min" p) [a] [] pos) δ Q := by
  refine d_callB (cr_min hc) hm boot_min (a_cons (h.mono fun d hd => a_nil ?_) he) hg (he := he)
  intro md σ H vs Qc R r k
  obtain ⟨v, ev, r1⟩ := r.one
  obtain ⟨ns, ed, hl, q⟩ := hd
  subst ev ed
  obtain ⟨a1, xs, e1, s1, _, g1⟩ := r1.atL
  rw [g1.ints] at s1
  exact ⟨a1, ns, by rw [e1], SqL.of s1, hl, fun m h1 h2 => k _ _ _ (Ex.refl md H) R (.int _) (q m h1 h2)⟩
theorem d_max2 (hc : X.calm = true) (hm : X.mg "max" = none) (h : WE X B a δ fun d => WE X B b δ fun d' => ∃ i j, d = .int i ∧ d' = .int j ∧ Q (.int (max i j))) (he : starEach [a, b] X.env = (false, eval a X.env) :: starEach [b] X.env := by rfl) (he2 : starEach [b] X.env = (false, eval b X.env) :: starEach [] X.env := by rfl) (hg : Gl X "max" := by rfl)
    (hpl : (backTo pos (starEach [b] X.env)).any (·.1) = false := by rfl) : WE X B (.Call (.Name "max" p) [a, b] [] pos) δ Q := by
  refine d_callB (call_max2 hc) hm boot_max (a_cons (h.mono fun d hd => a_cons (hd.mono fun d' hd => a_nil ?_) he2) he) hg (he := he) (hpl := hpl)
  intro md σ H vs Qc R r k
  obtain ⟨v, w, ev, r1, r2⟩ := r.two
  obtain ⟨i, j, ed, ed', q⟩ := hd
  subst ev ed ed'
  refine ⟨i, j, by rw [r1.intE, r2.intE], ?_⟩
  have z : (if j > i then j else i) = max i j := by split <;> omega
  rw [z]
  exact k _ _ _ (Ex.refl md H) R (.int _) q
theorem d_min2 (hc : X.calm = true) (hm : X.mg "min" = none) (h : WE X B a δ fun d => WE X B b δ fun d' => ∃ i j, d = .int i ∧ d' = .int j ∧ Q (.int (min i j))) (he : starEach [a, b] X.env = (false, eval a X.env) :: starEach [b] X.env := by rfl) (he2 : starEach [b] X.env = (false, eval b X.env) :: starEach [] X.env := by rfl) (hg : Gl X "min" := by rfl)
    (hpl : (backTo pos (starEach [b] X.env)).any (·.1) = false := by rfl) : WE X B (.Call (.Name "min" p) [a, b] [] pos) δ Q := by
  refine d_callB (call_min2 hc) hm boot_min (a_cons (h.mono fun d hd => a_cons (hd.mono fun d' hd => a_nil ?_) he2) he) hg (he := he) (hpl := hpl)
  intro md σ H vs Qc R r k
  obtain ⟨v, w, ev, r1, r2⟩ := r.two
  obtain ⟨i, j, ed, ed', q⟩ := hd
  subst ev ed ed'
  refine ⟨i, j, by rw [r1.intE, r2.intE], ?_⟩
  have z : (if j < i then j else i) = min i j := by split <;> omega
  rw [z]
  exact k _ _ _ (Ex.refl md H) R (.int _) q
theorem d_all (hc : X.calm = true) (hm : X.mg "all" = none) (h : WE X B a δ fun d => ∃ ns : List Bool, d = .lst (ns.map Dat.bl) ∧ Q (.bl (ns.all fun x => x))) (he : starEach [a] X.env = (false, eval a X.env) :: starEach [] X.env := by rfl) (hb : bootBuiltins "all" = some (.builtin "all") := by decide +kernel) (hg : Gl X "all" := by rfl) : WE X B (.Call (.Name "all" p) [a] [] pos) δ Q := by
  refine d_callB (cr_all hc) hm hb (a_cons (h.mono fun d hd => a_nil ?_) he) hg (he := he)
  intro md σ H vs Qc R r k
  obtain ⟨v, ev, r1⟩ := r.one
  obtain ⟨ns, ed, q⟩ := hd
  subst ev ed
  obtain ⟨a1, xs, e1, s1, _, g1⟩ := r1.atL
  rw [g1.bools] at s1
  exact ⟨a1, ns, by rw [e1], SqL.of s1, k _ _ _ (Ex.refl md H) R (.bl _) q⟩
theorem d_any (hc : X.calm = true) (hm : X.mg "any" = none) (h : WE X B a δ fun d => ∃ ns : List Bool, d = .lst (ns.map Dat.bl) ∧ Q (.bl (ns.any fun x => x))) (he : starEach [a] X.env = (false, eval a X.env) :: starEach [] X.env := by rfl) (hb : bootBuiltins "any" = some (.builtin "any") := by decide +kernel) (hg : Gl X "any" := by rfl) : WE X B (.Call (.Name "any" p) [a] [] pos) δ Q := by
  refine d_callB (cr_any hc) hm hb (a_cons (h.mono fun d hd => a_nil ?_) he) hg (he := he)
  intro md σ H vs Qc R r k
  obtain ⟨v, ev, r1⟩ := r.one
  obtain ⟨ns, ed, q⟩ := hd
  subst ev ed
  obtain ⟨a1, xs, e1, s1, _, g1⟩ := r1.atL
  rw [g1.bools] at s1
  exact ⟨a1, ns, by rw [e1], SqL.of s1, k _ _ _ (Ex.refl md H) R (.bl _) q⟩
theorem d_divmod (hm : X.mg "divmod" = none) (h : WE X B a δ fun d => WE X B b δ fun d' => ∃ i j, d = .int i ∧ d' = .int j ∧ CDiv i j ∧ Q (.tup [.int (i / j), .int (i % j)])) (he : starEach [a, b] X.env = (false, eval a X.env) :: starEach [b] X.env := by rfl) (he2 : starEach [b] X.env = (false, eval b X.env) :: starEach [] X.env := by rfl) (hb : bootBuiltins "divmod" = some (.builtin "divmod") := by decide +kernel) (hg : Gl X "divmod" := by rfl)
    (hpl : (backTo pos (starEach [b] X.env)).any (·.1) = false := by rfl) : WE X B (.Call (.Name "divmod" p) [a, b] [] pos) δ Q := by
  refine d_callB call_divmod hm hb (a_cons (h.mono fun d hd => a_cons (hd.mono fun d' hd => a_nil ?_) he2) he) hg (he := he) (hpl := hpl)
  intro md σ H vs Qc R r k
  obtain ⟨v, w, ev, r1, r2⟩ := r.two
  obtain ⟨i, j, ed, ed', hj, q⟩ := hd
  subst ev ed ed'
  refine ⟨i, j, by rw [r1.intE, r2.intE], hj, fun p hp => ?_⟩
  obtain ⟨x4, R4, r⟩ := fin_tup R (ds := [.int (i / j), .int (i % j)]) (.cons (.int _) (.cons (.int _) .nil)) hp
  exact k _ _ _ x4 R4 r q
/-! ### isinstance -/
def tyD : Dat → Option String
  | .non => some "NoneType" | .bl _ => some "bool" | .int _ => some "int" | .str _ => some "str" | .tup _ => some "tuple" | .lst _ => some "list" | .dct _ => some "dict" | _ => none
theorem D.tyX {lt : Nat → LT} {md : Addr → Md} {H : Hp} {v : V} {d : Dat} {t : String} (r : D K lt md H v d) (e : tyD d = some t) : TyX K H v (.type t) := by
  cases r <;> cases e
  · exact .base .non
  · exact .base (.bl _)
  · exact .base (.int _)
  · exact .base (.str _)
  · rename_i h _; exact .base (.tup h)
  · rename_i h _
    rcases h with z | ⟨o, its, n, e1, e2, _⟩
    · rcases z with z | ⟨_, z⟩ <;> cases z
    · exact .kTuple e1 e2
  · rename_i h _; exact .fTuple h
  · rename_i h _; exact .base (.lst h)
  · rename_i h _; exact .base (.dK h)
/-- what isinstance(x, C) of an own class asks of the written part -/
structure ClsI (K : PySem.W.Frag) (C : Addr) : Prop where
  cl : Cls K C
  ha : PySem.W.findIn K (.ref C) "__class__" = some (some (.builtin "object.__class__"))
  hn : PySem.W.specialIn K (.builtin "object.__class__") "__get__" = some (some (.builtin "getset_descriptor.__get__"))
  htk : PySem.W.takesIn K (.builtin "object.__class__") = some true
  hm : PySem.W.mroIn K C (.type "object") = some true
def isiQ (K : PySem.W.Frag) : Dat → Dat → (Dat → Prop) → Prop
  | .ins C _, .gl C', Q => C' = C ∧ ClsI K C ∧ Q (.bl true)
  | x, .ty n, Q => ∃ t b, tyD x = some t ∧ kitB t n = some b ∧ Q (.bl b)
  | x, .tup [.ty n, .ty m], Q => ∃ t b b', tyD x = some t ∧ kitB t n = some b ∧ kitB t m = some b' ∧ Q (.bl (b || b'))
  | _, _, _ => False
theorem kit_self {C : Addr} : PySem.W.kitOne K (.ref C) (.ref C) = some true := by
  unfold PySem.W.kitOne
  rw [if_pos (by first | exact beq_self_eq_true _ | simp)]
theorem kitAny_two {t n m : String} {b b' : Bool} (h : kitB t n = some b) (h' : kitB t m = some b') : PySem.W.kitAny K (.type t) [.type n, .type m] = some (b || b') := by
  unfold PySem.W.kitAny
  rw [kit_ty h]
  cases b with
  | true => rfl
  | false =>
    show PySem.W.kitAny K (.type t) [.type m] = _
    unfold PySem.W.kitAny
    rw [kit_ty h']
    cases b' <;> rfl
theorem call_isiF {X : Cx} : CallR X (.builtin "isinstance") (fun xs H Q => ∃ (x : V) (tp : Addr) (ob : Obj) (cs : List V) (t : Value) (ws : List Value) (b : Bool), xs = [x, .ref tp] ∧ H tp = some (.frz ob (.tup cs)) ∧ Paired ClsV cs ws ∧
    TyX X.K H x t ∧ PySem.W.kitAny X.K t ws = some b ∧ Q (.bl b) H) := by
  intro pins s σ H xs us Q I r h
  obtain ⟨x, tp, ob, cs, t, ws, b, rfl, hT, k, ty, e, q⟩ := h
  obtain ⟨u1, u2, rfl, r1, r2⟩ := vals2 r
  cases (show u2 = Value.ref tp from r2)
  obtain ⟨P, Z, p, hx⟩ := kit_of I r1 ty
  obtain ⟨_, _, its, rv, o, h1, h2, n, h3⟩ := (show s.heap.get? tp = some ob ∧ ObjOk X.prog X.w H s.heap tp (.tup cs) from I.hok tp _ hT)
  have e3 := ClsV.all k rv
  subst e3
  obtain ⟨oc, od, dt, sl⟩ := o
  simp only at h2 h3
  subst h2 h3
  exact PySem.W.kia_tup Z I.kIn p h1 e hx fun tk => ⟨.bl b, H, I.tok tk, rfl, q⟩
theorem d_isi (hm : X.mg "isinstance" = none) (h : WE X B a δ fun d => WE X B b δ fun d' => isiQ X.K d d' Q) (he : starEach [a, b] X.env = (false, eval a X.env) :: starEach [b] X.env := by rfl) (he2 : starEach [b] X.env = (false, eval b X.env) :: starEach [] X.env := by rfl) (hg : Gl X "isinstance" := by rfl)
    (hpl : (backTo pos (starEach [b] X.env)).any (·.1) = false := by rfl) : WE X B (.Call (.Name "isinstance" p) [a, b] [] pos) δ Q := by
  refine d_callB (CallR.or_ call_isi (CallR.or_ call_isiT (CallR.or_ call_isiK call_isiF))) hm boot_isinstance (a_cons (h.mono fun d hd => a_cons (hd.mono fun d' hd => a_nil ?_) he2) he) hg (he := he) (hpl := hpl)
  intro md σ H vs Qc R r k
  obtain ⟨v, w, ev, r1, r2⟩ := r.two
  subst ev
  unfold isiQ at hd
  split at hd
  · obtain ⟨rfl, ci, q⟩ := hd
    obtain ⟨a1, dx, xs, e1, s1, _, g1⟩ := r1.atI
    have e2 := r2.glE
    subst e1 e2
    exact .inl ⟨_, _, _, _, true, rfl, .own _, .base (.ins s1 ci.cl ci.ha ci.hn ci.htk ci.hm), kit_self, k _ _ _ (Ex.refl md H) R (.bl _) q⟩
  · obtain ⟨t, b, e1, e2, q⟩ := hd
    rw [r2.tyE]
    exact .inl ⟨_, _, _, _, b, rfl, .ty _, r1.tyX e1, kit_ty e2, k _ _ _ (Ex.refl md H) R (.bl _) q⟩
  · obtain ⟨t, b, b', e1, e2, e3, q⟩ := hd
    cases r2 with
    | tup hm hH g =>
      obtain ⟨v1, w1, ev, g1, g2⟩ := g.two
      subst ev
      rw [g1.tyE, g2.tyE] at hH
      exact .inr <| .inl ⟨_, _, _, _, [.type _, .type _], _, rfl, hH, .cons (.ty _) (.cons (.ty _) .nil), r1.tyX e1, kitAny_two e2 e3, k _ _ _ (Ex.refl md H) R (.bl _) q⟩
    | tupK hk g =>
      obtain ⟨v1, w1, ev, g1, g2⟩ := g.two
      subst ev
      rw [g1.tyE, g2.tyE] at hk
      rcases hk with z | ⟨⟨oc, od, dt, sl⟩, its, n, h1, h2, h3, _, h4⟩
      · rcases z with z | ⟨_, z⟩ <;> cases z
      · simp only at h2 h3
        subst h2 h3
        have e4 := ClsV.all (.cons (.ty _) (.cons (.ty _) .nil)) h4
        refine .inr <| .inr <| .inl ⟨_, _, od, [.type _, .type _], n, sl, _, _, rfl, ?_, r1.tyX e1, kitAny_two e2 e3, k _ _ _ (Ex.refl md H) R (.bl _) q⟩
        rw [h1, ← e4]
    | tupF hm hH g =>
      obtain ⟨v1, w1, ev, g1, g2⟩ := g.two
      subst ev
      rw [g1.tyE, g2.tyE] at hH
      exact .inr <| .inr <| .inr ⟨_, _, _, _, _, [.type _, .type _], _, rfl, hH, .cons (.ty _) (.cons (.ty _) .nil), r1.tyX e1, kitAny_two e2 e3, k _ _ _ (Ex.refl md H) R (.bl _) q⟩
  · exact hd.elim
end
end DL

/-! DlG -/
set_option Elab.async false
set_option linter.all false
set_option maxRecDepth 100000
set_option maxHeartbeats 4000000
namespace DL
open PySem PySem.Spec PyProof.Rows L2
open NdefX (NTab TabsN TabN)

/-! ### the state's changes -/
def mdSet (md : Addr → Md) (p : Addr) (m : Md) : Addr → Md := fun a => if a = p then m else md a
theorem mdSet_same {md : Addr → Md} {p : Addr} {m : Md} : mdSet md p m p = m := if_pos rfl
theorem mdSet_ne {md : Addr → Md} {p a : Addr} {m : Md} (h : a ≠ p) : mdSet md p m a = md a := if_neg h
section
variable {K : PySem.W.Frag} {B : Bx} {lt : Nat → LT} {md md' : Addr → Md} {H H' : Hp} {δ : List Sl} {σ : L2.St} {p : Addr} {x y d : Dat} {v : V} {i : Nat} {o o' : HO}
theorem get_set {α : Type} {l : List α} {i j : Nat} {a b : α} (h : (l.set i a)[j]? = some b) : (i = j ∧ b = a ∧ i < l.length) ∨ (i ≠ j ∧ l[j]? = some b) := by
  by_cases q : i = j
  · subst q
    by_cases hl : i < l.length
    · rw [List.getElem?_set_self hl] at h
      exact .inl ⟨rfl, (Option.some.inj h).symm, hl⟩
    · rw [List.getElem?_eq_none (by rw [List.length_set]; omega)] at h; cases h
  · rw [List.getElem?_set_ne q] at h
    exact .inr ⟨q, h⟩
theorem set_self {α : Type} {l : List α} {i : Nat} {a : α} (h : l[i]? = some a) : l.set i a = l := by
  apply List.ext_getElem?
  intro j
  by_cases q : i = j
  · subst q
    rw [List.getElem?_set_self (List.getElem?_eq_some_iff.mp h).1, h]
  · rw [List.getElem?_set_ne q]
/-- a slot gets data -/
theorem Rep.set (R : Rep K B md δ σ H) (i : Nat) (r : D K B.lt md H v d) : Rep K B md (δ.set i (.d d)) (σ.set i (some v)) H where
  tabs := R.tabs
  live0 := R.live0
  live := R.live
  ext := R.ext
  sub := R.sub
  nw := R.nw
  sl := fun j s h => by
    rcases get_set h with ⟨rfl, rfl, hl⟩ | ⟨q, h⟩
    · exact ⟨some v, by rw [List.getElem?_set_self (by rw [← R.len]; exact hl)], v, rfl, r⟩
    · obtain ⟨u, e, z⟩ := R.sl j s h
      exact ⟨u, by rw [List.getElem?_set_ne q]; exact e, z⟩
  len := by rw [List.length_set, List.length_set, R.len]
  inj := fun a b q x y h1 h2 => by
    rcases get_set h1 with ⟨_, z, _⟩ | ⟨_, h1⟩
    · cases z
    · rcases get_set h2 with ⟨_, z, _⟩ | ⟨_, h2⟩
      · cases z
      · exact R.inj a b q x y h1 h2
theorem Rep.fresh0 (R : Rep K B md δ σ H) (h : H p = none) : B.H0 p = none := R.ext.dom p h
theorem Rep.notIn (R : Rep K B md δ σ H) (h : H p = none) : ∀ (j : Nat) q y, δ[j]? = some (.own q y) → q ≠ p := fun j q y e z => by
  obtain ⟨u, _, _, _, _, h3⟩ := R.sl j _ e
  obtain ⟨o, e2, _⟩ := h3.is
  rw [z, h] at e2; cases e2
theorem xd_set (h : H p = none) : XD md H (mdSet md p .own) (upd H p o) :=
  ⟨fun a u q e n => ⟨by rw [mdSet_ne (ne_of_none e h)]; exact q, by rw [upd_ne (ne_of_none e h)]; exact e⟩, fun a q ⟨x, y, z, e, r⟩ => ⟨by rw [mdSet_ne (ne_of_none e h)]; exact q, x, y, z, by rw [upd_ne (ne_of_none e h)]; exact e, r⟩⟩
/-- a new object of the def's own -/
theorem Rep.mkOwn (R : Rep K B md δ σ H) (h : H p = none) (n : NT o) : Rep K B (mdSet md p .own) δ σ (upd H p o) where
  tabs := tabs_new R.tabs h
  live0 := R.live0
  live := fun a => by
    by_cases q : a = p
    · subst q
      exact ⟨fun _ => ⟨o, upd_same, n⟩, fun z => by rw [mdSet_same] at z; cases z⟩
    · rw [mdSet_ne q, upd_ne q]
      exact ⟨(R.live a).1, fun z => by obtain ⟨x, y, w, e, r⟩ := (R.live a).2 z; exact ⟨x, y, w, by rw [upd_ne q]; exact e, r⟩⟩
  ext := Ex.sub R.live0 R.sub R.ext (ex_new h)
  sub := fun a u e => by
    have q : a ≠ p := ne_of_none e (R.fresh0 h)
    rw [mdSet_ne q]; exact R.sub a u e
  nw := fun a e => by
    by_cases q : a = p
    · subst q; rw [mdSet_same] at e; cases e
    · rw [mdSet_ne q] at e; exact R.nw a e
  sl := fun j s e => by
    obtain ⟨u, e1, z⟩ := R.sl j s e
    refine ⟨u, e1, z.mono (xd_set h) fun q oo h1 h2 _ => ?_⟩
    have hq := ne_of_none h2 h
    exact ⟨by rw [mdSet_ne hq]; exact h1, by rw [upd_ne hq]; exact h2⟩
  len := R.len
  inj := R.inj
/-- an own object gets a slot -/
theorem Rep.setOwn (R : Rep K B md δ σ H) (i : Nat) (hm : md p = .own) (h0 : B.H0 p = none) (hx : OwnAt K B.lt md H p x) (hn : ∀ (j : Nat) q y, δ[j]? = some (.own q y) → q ≠ p) : Rep K B md (δ.set i (.own p x)) (σ.set i (some (.ref p))) H where
  tabs := R.tabs
  live0 := R.live0
  live := R.live
  ext := R.ext
  sub := R.sub
  nw := R.nw
  sl := fun j s h => by
    rcases get_set h with ⟨rfl, rfl, hl⟩ | ⟨q, h⟩
    · exact ⟨_, by rw [List.getElem?_set_self (by rw [← R.len]; exact hl)], rfl, hm, h0, hx⟩
    · obtain ⟨u, e, z⟩ := R.sl j s h
      exact ⟨u, by rw [List.getElem?_set_ne q]; exact e, z⟩
  len := by rw [List.length_set, List.length_set, R.len]
  inj := fun a b q x y h1 h2 => by
    rcases get_set h1 with ⟨q1, z, _⟩ | ⟨q1, h1⟩
    · cases z
      rcases get_set h2 with ⟨q2, z, _⟩ | ⟨q2, h2⟩
      · omega
      · exact absurd rfl (hn b p y h2)
    · rcases get_set h2 with ⟨q2, z, _⟩ | ⟨q2, h2⟩
      · cases z
        exact absurd rfl (hn a p x h1)
      · exact R.inj a b q x y h1 h2
/-- a slot's knowledge dropped -/
theorem Rep.forget (R : Rep K B md δ σ H) (i : Nat) : Rep K B md (δ.set i .no) σ H where
  tabs := R.tabs
  live0 := R.live0
  live := R.live
  ext := R.ext
  sub := R.sub
  nw := R.nw
  sl := fun j s h => by
    rcases get_set h with ⟨rfl, rfl, hl⟩ | ⟨q, h⟩
    · exact ⟨σ[i]'(by rw [← R.len]; exact hl), List.getElem?_eq_getElem _, trivial⟩
    · exact R.sl j s h
  len := by rw [List.length_set, R.len]
  inj := fun a b q x y h1 h2 => by
    rcases get_set h1 with ⟨_, z, _⟩ | ⟨_, h1⟩
    · cases z
    · rcases get_set h2 with ⟨_, z, _⟩ | ⟨_, h2⟩
      · cases z
      · exact R.inj a b q x y h1 h2
/-- .. of all of vs -/
def wipeD (δ : List Sl) : List Nat → List Sl
  | [] => δ
  | v :: vs => (wipeD δ vs).set v .no
theorem Rep.wiped (R : Rep K B md δ σ H) : ∀ vs : List Nat, Rep K B md (wipeD δ vs) (wipe σ vs) H
  | [] => R
  | v :: vs => by
    have R1 := (Rep.wiped R vs).forget v
    exact {
      tabs := R.tabs, live0 := R.live0, live := R.live, ext := R.ext, sub := R.sub, nw := R.nw,
      sl := fun j s h => by
        rcases get_set h with ⟨rfl, rfl, hl⟩ | ⟨q, h⟩
        · exact ⟨none, by show ((wipe σ vs).set v none)[v]? = _; rw [List.getElem?_set_self (by rw [← (Rep.wiped R vs).len]; exact hl)], trivial⟩
        · obtain ⟨u, e, z⟩ := (Rep.wiped R vs).sl j s h
          exact ⟨u, by show ((wipe σ vs).set v none)[j]? = _; rw [List.getElem?_set_ne q]; exact e, z⟩
      len := by show ((wipeD δ vs).set v .no).length = ((wipe σ vs).set v none).length; rw [List.length_set, List.length_set, (Rep.wiped R vs).len]
      inj := R1.inj }
/-- an object that may change: a list, a dict, an instance -/
def MutO : HO → Prop
  | .lst _ => True | .dK _ => True | .ins _ _ _ => True | _ => False
theorem MutO.nt (h : MutO o) : NT o := fun _ z => by subst z; exact h.elim
theorem OwnAt.mut (h : OwnAt K lt md H p x) : ∃ o, H p = some o ∧ MutO o := by
  cases x <;> first | exact h.elim | skip
  · obtain ⟨xs, e, _⟩ := h; exact ⟨_, e, trivial⟩
  · obtain ⟨xs, e, _⟩ := h; exact ⟨_, e, trivial⟩
  · obtain ⟨dx, xs, e, _⟩ := h; exact ⟨_, e, trivial⟩
theorem tabs_mut {T : List NTab} (t : TabsN T H) (e : H p = some o) (m : MutO o) : TabsN T (upd H p o') := fun q hq => by
  obtain ⟨ps, h1, h2, h3⟩ := t q hq
  refine ⟨ps, ?_, h2, fun pos cv hc => ?_⟩
  · rw [upd_ne (fun z => by rw [z, e] at h1; cases h1; exact m.elim)]; exact h1
  · obtain ⟨c, e1, e2⟩ := h3 pos cv hc
    refine ⟨c, e1, ?_⟩
    rw [upd_ne (fun z => by
      rw [z, e] at e2
      have : o = LamX.CodeO c (q.2 pos.line pos.col) := Option.some.inj (by rw [← z] at e2; exact e2)
      subst this
      unfold LamX.CodeO at m
      exact m.elim)]
    exact e2
theorem xd_mut (hm : md p = .own) : XD md H md (upd H p o') :=
  ⟨fun a u q e n => ⟨q, by rw [upd_ne (fun z => by rw [z, hm] at q; cases q)]; exact e⟩, fun a q ⟨x, y, z, e, r⟩ => ⟨q, x, y, z, by rw [upd_ne (fun z => by rw [z, hm] at q; cases q)]; exact e, r⟩⟩
/-- an own object changes; no slot tells of it -/
theorem Rep.mutate (R : Rep K B md δ σ H) (hm : md p = .own) (h0 : B.H0 p = none) (e : H p = some o) (m : MutO o) (n : NT o') (hn : ∀ (j : Nat) q y, δ[j]? = some (.own q y) → q ≠ p) : Rep K B md δ σ (upd H p o') where
  tabs := tabs_mut R.tabs e m
  live0 := R.live0
  live := fun a => by
    by_cases q : a = p
    · subst q
      exact ⟨fun _ => ⟨o', upd_same, n⟩, fun z => by rw [hm] at z; cases z⟩
    · rw [upd_ne q]
      exact ⟨(R.live a).1, fun z => by obtain ⟨x, y, w, e, r⟩ := (R.live a).2 z; exact ⟨x, y, w, by rw [upd_ne q]; exact e, r⟩⟩
  ext := ⟨fun a u q e1 n => by rw [upd_ne (ne_of_none e1 h0)]; exact R.ext.keep a u q e1 n,
    fun a q w => by
      obtain ⟨x, y, z, e2, r⟩ := R.ext.well a q w
      obtain ⟨_, _, _, e3, _⟩ := w
      exact ⟨x, y, z, by rw [upd_ne (ne_of_none e3 h0)]; exact e2, r⟩,
    fun a q => by
      by_cases z : a = p
      · rw [z]; exact h0
      · rw [upd_ne z] at q; exact R.ext.dom a q⟩
  sub := R.sub
  nw := R.nw
  sl := fun j s h => by
    obtain ⟨u, e1, z⟩ := R.sl j s h
    refine ⟨u, e1, ?_⟩
    cases s with
    | no => trivial
    | d x => obtain ⟨v, e2, r⟩ := z; exact ⟨v, e2, r.monoX (xd_mut hm)⟩
    | own q x =>
      obtain ⟨e2, h1, h2, h3⟩ := z
      exact ⟨e2, h1, h2, h3.mono (xd_mut hm) fun o q' _ => by rw [upd_ne (hn j q x h)]; exact q'⟩
  len := R.len
  inj := R.inj
/-- .. the one that slot i tells of -/
theorem Rep.mutSl (R : Rep K B md δ σ H) (hi : δ[i]? = some (.own p x)) (n : NT o') (hy : OwnAt K B.lt md (upd H p o') p y) : XD md H md (upd H p o') ∧ Rep K B md (δ.set i (.own p y)) σ (upd H p o') := by
  obtain ⟨u, e1, e2, hm, h0, hx⟩ := R.sl i _ hi
  obtain ⟨o, e, m⟩ := hx.mut
  refine ⟨xd_mut hm, ?_⟩
  have hl : i < δ.length := (List.getElem?_eq_some_iff.mp hi).1
  have hn : ∀ (j : Nat) q y, (δ.set i .no)[j]? = some (.own q y) → q ≠ p := fun j q y h z => by
    rcases get_set h with ⟨_, z, _⟩ | ⟨q1, h⟩
    · cases z
    · subst z; exact q1 (R.inj i j q x y hi h)
  have R1 := (R.forget i).mutate (o' := o') hm h0 e m n hn
  have R2 := R1.setOwn i hm h0 hy hn
  have es : σ.set i (some (.ref p)) = σ := by
    subst e2
    exact set_self e1
  rw [es, List.set_set] at R2
  exact R2
/-- an own object, no slot tells of it: from now on nobody changes it -/
theorem Rep.toImm (R : Rep K B md δ σ H) (hm : md p = .own) (h0 : B.H0 p = none) (hn : ∀ (j : Nat) q y, δ[j]? = some (.own q y) → q ≠ p) : XD md H (mdSet md p .imm) H ∧ Rep K B (mdSet md p .imm) δ σ H := by
  have x : XD md H (mdSet md p .imm) H := ⟨fun a u q e n => ⟨by rw [mdSet_ne (fun z => by rw [z, hm] at q; cases q)]; exact q, e⟩, fun a q w => ⟨by rw [mdSet_ne (fun z => by rw [z, hm] at q; cases q)]; exact q, w⟩⟩
  exact ⟨x, {
    tabs := R.tabs, live0 := R.live0, ext := R.ext, len := R.len, inj := R.inj,
    live := fun a => by
      by_cases q : a = p
      · subst q; exact ⟨fun z => (by rw [mdSet_same] at z; cases z), fun z => (by rw [mdSet_same] at z; cases z)⟩
      · rw [mdSet_ne q]; exact R.live a
    sub := fun a u e => by rw [mdSet_ne (ne_of_none e h0)]; exact R.sub a u e
    nw := fun a e => by
      by_cases q : a = p
      · subst q; rw [mdSet_same] at e; cases e
      · rw [mdSet_ne q] at e; exact R.nw a e
    sl := fun j s h => by
      obtain ⟨u, e1, z⟩ := R.sl j s h
      refine ⟨u, e1, ?_⟩
      cases s with
      | no => trivial
      | d y => obtain ⟨v, e2, r⟩ := z; exact ⟨v, e2, r.monoX x⟩
      | own q y =>
        obtain ⟨e2, h1, h2, h3⟩ := z
        exact ⟨e2, by rw [mdSet_ne (hn j q y h)]; exact h1, h2, h3.mono x fun o q' _ => q'⟩ }⟩
theorem OwnAt.frozen (h : OwnAt K lt md H p x) (hm : md p = .imm) : D K lt md H (.ref p) x := by
  cases x <;> first | exact h.elim | skip
  · obtain ⟨xs, e, r⟩ := h; exact .lst hm e r
  · obtain ⟨xs, e, r⟩ := h; exact .dct hm e r
  · obtain ⟨dx, xs, e, r⟩ := h; exact .ins hm e r
theorem Rep.freeze (R : Rep K B md δ σ H) (hi : δ[i]? = some (.own p x)) : XD md H (mdSet md p .imm) H ∧ Rep K B (mdSet md p .imm) (δ.set i (.d x)) σ H := by
  obtain ⟨u, e1, e2, hm, h0, hx⟩ := R.sl i _ hi
  have hn : ∀ (j : Nat) q y, (δ.set i .no)[j]? = some (.own q y) → q ≠ p := fun j q y h z => by
    rcases get_set h with ⟨_, z, _⟩ | ⟨q1, h⟩
    · cases z
    · subst z; exact q1 (R.inj i j q x y hi h)
  obtain ⟨x1, R1⟩ := (R.forget i).toImm hm h0 hn
  refine ⟨x1, ?_⟩
  have r : D K B.lt (mdSet md p .imm) H (.ref p) x := (hx.mono x1 fun o q _ => q).frozen mdSet_same
  have R2 := R1.set i r
  subst e2
  rw [set_self e1, List.set_set] at R2
  exact R2
end
end DL

/-! DlH -/
set_option Elab.async false
set_option linter.all false
set_option maxRecDepth 100000
set_option maxHeartbeats 4000000
namespace DL
open PySem PySem.Spec PyProof.Rows L2
open NdefX (NTab TabsN TabN)

/-! ### statements by data -/
structure DE where
  nx : List Sl → Prop
  rt : Dat → Prop
  bk : List Sl → Prop := fun _ => False
  ct : List Sl → Prop := fun _ => False
structure Fin (K : PySem.W.Frag) (B : Bx) (md : Addr → Md) (H : Hp) (E : DE) (D : Ends) : Prop where
  nx : ∀ md' δ' σ' H', XD md H md' H' → Rep K B md' δ' σ' H' → E.nx δ' → D.nx σ' H'
  bk : ∀ md' δ' σ' H', XD md H md' H' → Rep K B md' δ' σ' H' → E.bk δ' → D.bk σ' H'
  ct : ∀ md' δ' σ' H', XD md H md' H' → Rep K B md' δ' σ' H' → E.ct δ' → D.ct σ' H'
  rt : ∀ md' δ' σ' H' v d, XD md H md' H' → Rep K B md' δ' σ' H' → DL.D K B.lt md' H' v d → E.rt d → D.rt v H'
def tCanS (X : Cx) (st : Stmt) : TS := fun D σ H => ∀ (pins : List (Addr × Obj)) (s : Shared), Inv X pins σ H s → wpAny (model X.prog X.w) X.A (exec st X.env) (SP X pins D) X.xe s
def tCanSs (X : Cx) (st : List Stmt) : TS := fun D σ H => ∀ (pins : List (Addr × Obj)) (s : Shared), Inv X pins σ H s → wpAny (model X.prog X.w) X.A (execs st X.env) (SP X pins D) X.xe s
def tCanG (X : Cx) (tg : Expr) : TG := fun v σ H Q => ∀ (pins : List (Addr × Obj)) (s : Shared) (u : Value), Inv X pins σ H s → RelV v u → wpAny (model X.prog X.w) X.A (assign tg X.env u) (fun _ s' => ∃ σ' H', Inv X pins σ' H' s' ∧ Q σ' H') X.xe s
def tCanGs (X : Cx) (ts : List Expr) : TGs := fun vs σ H Q => ∀ (pins : List (Addr × Obj)) (s : Shared) (us : List Value), Inv X pins σ H s → Vals vs us →
  wpAny (model X.prog X.w) X.A (assignInOrder ((assignEach ts X.env).map (·.2)) us) (fun _ s' => ∃ σ' H', Inv X pins σ' H' s' ∧ Q σ' H') X.xe s
section
variable {X : Cx} {B : Bx} {K : PySem.W.Frag} {δ : List Sl} {σ : L2.St} {md md' : Addr → Md} {H H' : Hp} {E : DE} {e a b c o : Expr} {es : List Expr} {st : Stmt} {sts : List Stmt} {pos p pt : Pos} {x y z : Str}
theorem ps_can : PS X st (tCanS X st) := ⟨fun pins s _ _ _ I h => h pins s I⟩
theorem pss_can : PSs X sts (tCanSs X sts) := ⟨fun pins s _ _ _ I h => h pins s I⟩
theorem pg_can : PG X e (tCanG X e) := ⟨fun pins s _ _ _ u _ I r h => h pins s u I r⟩
theorem pgs_can : PGs X es (tCanGs X es) := ⟨fun pins s _ _ _ us _ I r h => h pins s us I r⟩
theorem PS.can {t : TS} (h : PS X st t) {D : Ends} (q : t D σ H) : tCanS X st D σ H := fun pins s I => h.run pins s σ H D I q
theorem PSs.can {t : TS} (h : PSs X sts t) {D : Ends} (q : t D σ H) : tCanSs X sts D σ H := fun pins s I => h.run pins s σ H D I q
theorem PG.can {t : TG} (h : PG X e t) {v : V} {Q : L2.St → Hp → Prop} (q : t v σ H Q) : tCanG X e v σ H Q := fun pins s u I r => h.run pins s σ H v u Q I r q
theorem PGs.can {t : TGs} (h : PGs X es t) {v : List V} {Q : L2.St → Hp → Prop} (q : t v σ H Q) : tCanGs X es v σ H Q := fun pins s u I r => h.run pins s σ H v u Q I r q
theorem Fin.on {D : Ends} (F : Fin K B md H E D) (x : XD md H md' H') : Fin K B md' H' E D :=
  ⟨fun m d s h x' => F.nx m d s h (x.trans x'), fun m d s h x' => F.bk m d s h (x.trans x'), fun m d s h x' => F.ct m d s h (x.trans x'), fun m d s h v w x' => F.rt m d s h v w (x.trans x')⟩
def WS (X : Cx) (B : Bx) (st : Stmt) (δ : List Sl) (E : DE) : Prop := ∀ md σ H (D : Ends), Rep X.K B md δ σ H → Fin X.K B md H E D → tCanS X st D σ H
def WSs (X : Cx) (B : Bx) (sts : List Stmt) (δ : List Sl) (E : DE) : Prop := ∀ md σ H (D : Ends), Rep X.K B md δ σ H → Fin X.K B md H E D → tCanSs X sts D σ H
def WG (X : Cx) (B : Bx) (tg : Expr) (d : Dat) (δ : List Sl) (P : List Sl → Prop) : Prop :=
  ∀ md σ H v (Q : L2.St → Hp → Prop), Rep X.K B md δ σ H → D X.K B.lt md H v d → (∀ δ' σ' H', XD md H md H' → Rep X.K B md δ' σ' H' → P δ' → Q σ' H') → tCanG X tg v σ H Q
def WGs (X : Cx) (B : Bx) (tg : List Expr) (d : List Dat) (δ : List Sl) (P : List Sl → Prop) : Prop :=
  ∀ md σ H v (Q : L2.St → Hp → Prop), Rep X.K B md δ σ H → DA X.K B.lt md H v d → (∀ δ' σ' H', XD md H md H' → Rep X.K B md δ' σ' H' → P δ' → Q σ' H') → tCanGs X tg v σ H Q
/-- names alone: the heap stays; the slots is are set -/
def WN (X : Cx) (B : Bx) (tg : Expr) (d : Dat) (δ : List Sl) (is : List Nat) (P : List Sl → Prop) : Prop :=
  ∀ md σ H v (Q : L2.St → Hp → Prop), Rep X.K B md δ σ H → D X.K B.lt md H v d → (∀ δ' σ', (∀ vs : List Nat, (∀ i ∈ is, i ∈ vs) → wipe σ' vs = wipe σ vs) → Rep X.K B md δ' σ' H → P δ' → Q σ' H) → tCanG X tg v σ H Q
def WNs (X : Cx) (B : Bx) (tg : List Expr) (d : List Dat) (δ : List Sl) (is : List Nat) (P : List Sl → Prop) : Prop :=
  ∀ md σ H v (Q : L2.St → Hp → Prop), Rep X.K B md δ σ H → DA X.K B.lt md H v d → (∀ δ' σ', (∀ vs : List Nat, (∀ i ∈ is, i ∈ vs) → wipe σ' vs = wipe σ vs) → Rep X.K B md δ' σ' H → P δ' → Q σ' H) → tCanGs X tg v σ H Q
theorem WN.wg {d : Dat} {is : List Nat} {P : List Sl → Prop} (h : WN X B e d δ is P) : WG X B e d δ P := fun md σ H v Q R r k => h md σ H v Q R r fun δ' σ' _ R' q => k δ' σ' H (XD.refl md H) R' q
theorem WNs.wgs {d : List Dat} {is : List Nat} {P : List Sl → Prop} (h : WNs X B es d δ is P) : WGs X B es d δ P := fun md σ H v Q R r k => h md σ H v Q R r fun δ' σ' _ R' q => k δ' σ' H (XD.refl md H) R' q
theorem wipe_set {i : Nat} {v : Option V} : ∀ {vs : List Nat} {σ : L2.St}, i ∈ vs → wipe (σ.set i v) vs = wipe σ vs
  | [], _, h => by cases h
  | w :: vs, σ, h => by
    unfold wipe
    by_cases q : i ∈ vs
    · rw [wipe_set q]
    · have e : i = w := by
        rcases List.mem_cons.mp h with z | z
        · exact z
        · exact absurd z q
      subst e
      have go : ∀ {us : List Nat} {σ : L2.St}, i ∉ us → wipe (σ.set i v) us = (wipe σ us).set i v := fun {us} => by
        induction us with
        | nil => intro σ _; rfl
        | cons u us ih =>
          intro σ hu
          have hu' : i ≠ u ∧ i ∉ us := by simpa using hu
          unfold wipe
          rw [ih hu'.2, List.set_comm _ _ hu'.1]
      rw [go q, List.set_set]
theorem n_name (i : Nat) {d : Dat} {P : List Sl → Prop} (hq : P (δ.set i (.d d))) (hN : X.N.Nodup) (hi : X.N[i]? = some x := by rfl) (hx : Loc X.env.scope x := by first | exact .inl rfl | exact .inr rfl) (hf : X.fn x = true ∨ X.env.scope.names.lookup x = some .local := by first | exact .inl rfl | exact .inr rfl) : WN X B (.Name x pos) d δ [i] P := fun md σ H v Q R r k =>
  PG.can (pg_name hN hi hx hf) (k _ _ (fun vs h => wipe_set (h i (by simp))) (R.set i r) hq)
theorem n_nil {P : List Sl → Prop} (hq : P δ) : WNs X B [] [] δ [] P := fun md σ H v Q R r k => PGs.can pgs_nil (by cases r; exact ⟨rfl, k _ _ (fun _ _ => rfl) R hq⟩)
theorem n_cons {d : Dat} {ds : List Dat} {is js : List Nat} {P : List Sl → Prop} (h : WN X B e d δ is fun δ' => WNs X B es ds δ' js P)
    (hs : (assignEach (e :: es) X.env).map (·.2) = assign e X.env :: (assignEach es X.env).map (·.2) := by rfl) : WNs X B (e :: es) (d :: ds) δ (is ++ js) P := fun md σ H v Q R r k =>
  PGs.can (pgs_cons pg_can pgs_can hs) (by
    cases r with
    | cons r1 r2 =>
      exact ⟨_, _, rfl, h md σ H _ _ R r1 fun δ' σ' w1 R' q => q md σ' H _ _ R' r2 fun δ'' σ'' w2 R'' q'' => k δ'' σ'' (fun vs hv => (w2 vs fun i hi => hv i (List.mem_append_right _ hi)).trans (w1 vs fun i hi => hv i (List.mem_append_left _ hi))) R'' q''⟩)
def tupQ (d : Dat) (Q : List Dat → Prop) : Prop := match d with | .tup ds => Q ds | _ => False
theorem n_tup {n k : Nat} {d : Dat} {is : List Nat} {P : List Sl → Prop} (hc : X.calm = true) (h : tupQ d fun ds => ds.length = n ∧ WNs X B es ds δ is P) (hn : (assignEach es X.env).length = n := by rfl) (hst : (assignEach es X.env).findIdx? (·.1) = none := by rfl) : WN X B (.Tuple es k pos) d δ is P := fun md σ H v Q R r kk =>
  PG.can (pg_tup hc pgs_can hn hst) (by
    cases d <;> first | exact h.elim | skip
    obtain ⟨a1, xs, e1, s1, g1⟩ := r.sqT
    exact ⟨a1, xs, e1, s1, by rw [g1.len]; exact h.1, h.2 md σ H xs Q R g1 kk⟩)
theorem g_nil {P : List Sl → Prop} (hq : P δ) : WGs X B [] [] δ P := (n_nil hq).wgs
theorem g_cons {d : Dat} {ds : List Dat} {P : List Sl → Prop} (h : WG X B e d δ fun δ' => WGs X B es ds δ' P)
    (hs : (assignEach (e :: es) X.env).map (·.2) = assign e X.env :: (assignEach es X.env).map (·.2) := by rfl) : WGs X B (e :: es) (d :: ds) δ P := fun md σ H v Q R r k =>
  PGs.can (pgs_cons pg_can pgs_can hs) (by
    cases r with
    | cons r1 r2 => exact ⟨_, _, rfl, h md σ H _ _ R r1 fun δ' σ' H' x1 R' q => q md σ' H' _ _ R' (DA.monoX x1 r2) fun δ'' σ'' H'' x2 R'' q'' => k δ'' σ'' H'' (x1.trans x2) R'' q''⟩)
theorem g_tup {n k : Nat} {d : Dat} {P : List Sl → Prop} (hc : X.calm = true) (h : tupQ d fun ds => ds.length = n ∧ WGs X B es ds δ P) (hn : (assignEach es X.env).length = n := by rfl) (hst : (assignEach es X.env).findIdx? (·.1) = none := by rfl) : WG X B (.Tuple es k pos) d δ P := fun md σ H v Q R r kk =>
  PG.can (pg_tup hc pgs_can hn hst) (by
    cases d <;> first | exact h.elim | skip
    obtain ⟨a1, xs, e1, s1, g1⟩ := r.sqT
    exact ⟨a1, xs, e1, s1, by rw [g1.len]; exact h.1, h.2 md σ H xs Q R g1 kk⟩)
theorem g_name (i : Nat) {d : Dat} {P : List Sl → Prop} (hq : P (δ.set i (.d d))) (hN : X.N.Nodup) (hi : X.N[i]? = some x := by rfl) (hx : Loc X.env.scope x := by first | exact .inl rfl | exact .inr rfl) (hf : X.fn x = true ∨ X.env.scope.names.lookup x = some .local := by first | exact .inl rfl | exact .inr rfl) : WG X B (.Name x pos) d δ P := (n_name i hq hN hi hx hf).wg
/-! ### own[i] = d -/
def putD (kvs : List (Key × Dat)) (k : Key) (v : Dat) : List (Key × Dat) :=
  if (kvs.any fun kv => decide (kv.1 = k)) = true then kvs.map (fun kv => if kv.1 = k then (kv.1, v) else kv) else kvs ++ [(k, v)]
theorem DK.any {lt : Nat → LT} {k : Key} : ∀ {v : List (Key × V)} {d : List (Key × Dat)}, DK K lt md H v d → (v.any fun kv => decide (kv.1 = k)) = d.any fun kv => decide (kv.1 = k)
  | _, _, .nil => rfl
  | _, _, .cons h r => by rw [List.any_cons, List.any_cons, DK.any r]
theorem DK.map {lt : Nat → LT} {k : Key} {w : V} {x : Dat} (hw : D K lt md H w x) : ∀ {v : List (Key × V)} {d : List (Key × Dat)}, DK K lt md H v d → DK K lt md H (v.map fun kv => if kv.1 = k then (kv.1, w) else kv) (d.map fun kv => if kv.1 = k then (kv.1, x) else kv)
  | _, _, .nil => .nil
  | _, _, .cons (k := k') h r => by
    rw [List.map_cons, List.map_cons]
    by_cases q : k' = k
    · rw [if_pos q, if_pos q]; exact .cons hw (DK.map hw r)
    · rw [if_neg q, if_neg q]; exact .cons h (DK.map hw r)
theorem DK.app {lt : Nat → LT} : ∀ {v v' : List (Key × V)} {d d' : List (Key × Dat)}, DK K lt md H v d → DK K lt md H v' d' → DK K lt md H (v ++ v') (d ++ d')
  | _, _, _, _, .nil, s => s
  | _, _, _, _, .cons h r, s => .cons h (DK.app r s)
theorem DK.put {lt : Nat → LT} {k : Key} {w : V} {x : Dat} (hw : D K lt md H w x) {v : List (Key × V)} {d : List (Key × Dat)} (h : DK K lt md H v d) : DK K lt md H (putK v k w) (putD d k x) := by
  unfold putK putD
  rw [h.any]
  split
  · exact h.map hw
  · exact h.app (.cons hw .nil)
theorem xd_wel {n : List V} (l : WellAt (upd H o' (.lst n)) o') (hm : md o' = .well) : XD md H md (upd H o' (.lst n)) :=
  ⟨fun a u q e nt => ⟨q, by rw [upd_ne (fun z => by rw [z, hm] at q; cases q)]; exact e⟩, fun a q w => ⟨q, by
    by_cases z : a = o'
    · rw [z]; exact l
    · obtain ⟨x, y, z2, e, r⟩ := w; exact ⟨x, y, z2, by rw [upd_ne z]; exact e, r⟩⟩⟩
theorem Rep.setWell {a : Addr} {xs : List V} (R : Rep K B md δ σ H) (hm : md a = .well) (w : WellAt (upd H a (.lst xs)) a) : Rep K B md δ σ (upd H a (.lst xs)) := by
  have w0 := (R.live a).2 hm
  refine R.grow ⟨fun b o h e n => by rw [upd_ne (fun z => by rw [z] at h; exact h hm)]; exact e, fun b h q => ?_, fun b e => ?_⟩ ?_
  · by_cases z : b = a
    · rw [z]; exact w
    · obtain ⟨x, y, z2, e, r⟩ := q; exact ⟨x, y, z2, by rw [upd_ne z]; exact e, r⟩
  · by_cases z : b = a
    · rw [z, upd_same] at e; cases e
    · rw [upd_ne z] at e; exact e
  · obtain ⟨x, y, z, e, _⟩ := w0
    exact tabs_mut R.tabs e trivial
/-- what o[i] = d makes of the slots -/
def setQ (δ : List Sl) (x y d : Dat) (P : List Sl → Prop) : Prop := match x with
  | .gl p => (∃ (j : Nat) (ds : List Dat) (k : Int) (n : Nat), δ[j]? = some (.own p (.lst ds)) ∧ y = .int k ∧ ixN ds.length k = some n ∧ P (δ.set j (.own p (.lst (ds.set n d))))) ∨
      (∃ (j : Nat) (ds : List (Key × Dat)) (k : Key), δ[j]? = some (.own p (.dct ds)) ∧ kD y = some k ∧ ds.length ≤ 1000 ∧ P (δ.set j (.own p (.dct (putD ds k d)))))
  | .well => (y = .int 0 ∧ (∃ a, d = .int a ∧ 0 ≤ a) ∧ P δ) ∨ (y = .int 2 ∧ (∃ a, d = .int a ∧ 0 ≤ a) ∧ P δ)
  | _ => False
theorem PSet.or {t u : TSet} (h : PSet X t) (h' : PSet X u) : PSet X (fun o i v H Q => t o i v H Q ∨ u o i v H Q) := by
  intro pins s σ H o i v ov iv w Q I r1 r2 r3 q
  rcases q with q | q
  · exact h pins s σ H o i v ov iv w Q I r1 r2 r3 q
  · exact h' pins s σ H o i v ov iv w Q I r1 r2 r3 q
theorem g_sub {d : Dat} {i : Expr} {P : List Sl → Prop} (hu : X.A.units + 1 < cLine) (h : WE X B o δ fun x => WE X B i δ fun y => setQ δ x y d P)
    (ha : ∀ v, assign (.Subscript o i pos) X.env v = (do
      let ov ← holding [v] (eval o X.env)
      let iv ← holding [v, ov] (eval i X.env)
      standAt pos
      holding [v, ov, iv] (setItem ov iv v)
      release [v, ov, iv] []) := by intro _; rfl) : WG X B (.Subscript o i pos) d δ P := fun md σ H v Q R r k =>
  PG.can (pg_sub pe_can pe_can (PSet.or set_list (set_dict hu)) ha) (h md σ H _ R fun vx H1 dx x1 R1 r1 hb => hb md σ H1 _ R1 fun vy H2 dy x2 R2 r2 hr => by
    have r1' := r1.mono x2
    have r3 := r.mono (x1.trans x2)
    have x12 := (x1.trans x2).xd
    cases dx <;> first | exact hr.elim | skip
    · rcases hr with ⟨ey, ⟨a, ed, hpos⟩, q⟩ | ⟨ey, ⟨a, ed, hpos⟩, q⟩
      · subst ey ed
        cases r1' with
        | well hm w =>
          have w0 := w
          obtain ⟨x, y, z, e, h1, h2, h3, h4⟩ := w0
          rename_i aw
          have w' : WellAt (upd H2 aw (.lst [.int a, .int y, .int z])) aw := ⟨a, y, z, upd_same, hpos, h2, h3, h4⟩
          refine .inl ⟨aw, _, 0, 0, rfl, r2.intE, e, rfl, ?_⟩
          rw [r3.intE]
          exact k _ _ _ (x12.trans (xd_wel w' hm)) (R2.setWell hm w') q
      · subst ey ed
        cases r1' with
        | well hm w =>
          have w0 := w
          obtain ⟨x, y, z, e, h1, h2, h3, h4⟩ := w0
          rename_i aw
          have w' : WellAt (upd H2 aw (.lst [.int x, .int y, .int a])) aw := ⟨x, y, a, upd_same, h1, h2, h3, hpos⟩
          refine .inl ⟨aw, _, 2, 2, rfl, r2.intE, e, rfl, ?_⟩
          rw [r3.intE]
          exact k _ _ _ (x12.trans (xd_wel w' hm)) (R2.setWell hm w') q
    · have ex := r1'.glE
      subst ex
      rcases hr with ⟨j, ds, ki, n, eδ, ey, en, q⟩ | ⟨j, ds, key, eδ, ek, hl, q⟩
      · subst ey
        obtain ⟨u, e1, e2, hm, h0, xs, e4, g1⟩ := R2.sl j _ eδ
        have go := R2.mutSl (o' := .lst (xs.set n v)) (y := .lst (ds.set n d)) eδ nt_lst ⟨_, upd_same, DA.monoX (xd_mut hm) (g1.set r3 n)⟩
        exact .inl ⟨_, xs, ki, n, rfl, r2.intE, e4, by rw [g1.len]; exact en, k _ _ _ (x12.trans go.1) go.2 q⟩
      · obtain ⟨u, e1, e2, hm, h0, xs, e4, g1⟩ := R2.sl j _ eδ
        have ey := kD_kV r2 ek
        subst ey
        have go := R2.mutSl (o' := .dK (putK xs key v)) (y := .dct (putD ds key d)) eδ nt_dK ⟨_, upd_same, DK.monoX (xd_mut hm) (g1.put r3)⟩
        exact .inr ⟨_, _, rfl, DPut.k e4 (sz_lt (by rw [g1.len]; omega)), k _ _ _ (x12.trans go.1) go.2 q⟩)
end
end DL

/-! DlI -/
set_option Elab.async false
set_option linter.all false
set_option maxRecDepth 100000
set_option maxHeartbeats 4000000
namespace DL
open PySem PySem.Spec PyProof.Rows L2
open NdefX (NTab TabsN TabN)
section
variable {X : Cx} {B : Bx} {K : PySem.W.Frag} {δ : List Sl} {σ : L2.St} {md md' : Addr → Md} {H H' : Hp} {E : DE} {e a b c o : Expr} {es : List Expr} {st : Stmt} {sts us : List Stmt} {pos p pt : Pos} {x y z : Str}
/-! ### blocks -/
theorem s_nil (h : E.nx δ) : WSs X B [] δ E := fun md σ H D R F => PSs.can pss_nil (F.nx md δ σ H (XD.refl md H) R h)
theorem s_cons (h : WS X B st δ { E with nx := fun δ' => WSs X B sts δ' E }) : WSs X B (st :: sts) δ E := fun md σ H D R F =>
  PSs.can (pss_cons ps_can pss_can) (h md σ H _ R ⟨fun md' δ' σ' H' x R' q => q md' σ' H' D R' (F.on x), F.bk, F.ct, F.rt⟩)
theorem s_one (h : WS X B st δ E) : WSs X B [st] δ E := fun md σ H D R F => PSs.can (pss_one ps_can) (h md σ H D R F)
/-- an own object is done -/
theorem s_freeze (i : Nat) {p : Addr} {x : Dat} (hi : δ[i]? = some (.own p x)) (h : WSs X B sts (δ.set i (.d x)) E) : WSs X B sts δ E := fun md σ H D R F =>
  let ⟨x1, R1⟩ := R.freeze hi
  h _ σ H D R1 (F.on x1)
theorem s_mono {E' : DE} (h : WSs X B sts δ E) (h1 : ∀ δ, E.nx δ → E'.nx δ) (h2 : ∀ d, E.rt d → E'.rt d) (h3 : ∀ δ, E.bk δ → E'.bk δ) (h4 : ∀ δ, E.ct δ → E'.ct δ) : WSs X B sts δ E' := fun md σ H D R F =>
  h md σ H D R ⟨fun m d s h x' R q => F.nx m d s h x' R (h1 d q), fun m d s h x' R q => F.bk m d s h x' R (h3 d q), fun m d s h x' R q => F.ct m d s h x' R (h4 d q), fun m d s h v w x' R r q => F.rt m d s h v w x' R r (h2 w q)⟩
theorem s_ret (h : WE X B e δ E.rt) : WS X B (.Return (some e) pos) δ E := fun md σ H D R F =>
  PS.can (ps_ret pe_can) (h md σ H D.rt R fun v H' d x R' r q => F.rt md δ σ H' v d x.xd R' r q)
theorem s_if (h : WT X B c δ fun k => if k = true then WSs X B sts δ E else WSs X B us δ E) : WS X B (.If c sts us pos) δ E := fun md σ H D R F =>
  PS.can (ps_if pt_can pss_can pss_can) (h md σ H _ R fun k H1 x1 R1 q => by
    cases k with
    | true => rw [if_pos rfl] at q ⊢; exact q md σ H1 D R1 (F.on x1.xd)
    | false => rw [if_neg Bool.false_ne_true] at q ⊢; exact q md σ H1 D R1 (F.on x1.xd))
theorem s_expr (h : WE X B e δ fun _ => E.nx δ) (hs : swapsWith e none pos.line X.env = pure false := by rfl) : WS X B (.Expr e pos) δ E := fun md σ H D R F =>
  PS.can (ps_expr pe_can hs) (h md σ H _ R fun v H1 d x1 R1 r1 q => F.nx md δ σ H1 x1.xd R1 q)
theorem s_set (i : Nat) {pos' : Pos} (h : WE X B e δ fun d => E.nx (δ.set i (.d d))) (hN : X.N.Nodup) (hi : X.N[i]? = some x := by rfl) (hx : Loc X.env.scope x := by first | exact .inl rfl | exact .inr rfl) (hs : swapsWith e (some (.Name x pos')) pos.line X.env = pure false := by rfl)
    (hf : X.fn x = true ∨ X.env.scope.names.lookup x = some .local := by first | exact .inl rfl | exact .inr rfl) : WS X B (.Assign [.Name x pos'] e pos) δ E := fun md σ H D R F =>
  PS.can (ps_set hN hi hx pe_can hs hf) (h md σ H _ R fun v H1 d x1 R1 r1 q => F.nx md _ _ H1 x1.xd (R1.set i r1) q)
theorem s_asg {tg : Expr} (h : WE X B e δ fun d => WG X B tg d δ E.nx) (hs : swapsWithSole [tg] e pos.line X.env = pure false := by rfl) (hw : swappedStores [tg] e X.env = pure none := by rfl)
    (h1 : (assignEach [tg] X.env).map (·.2) = [assign tg X.env] := by rfl) : WS X B (.Assign [tg] e pos) δ E := fun md σ H D R F =>
  PS.can (ps_asg pe_can pg_can hs hw h1) (h md σ H _ R fun v H1 d x1 R1 r1 q => q md σ H1 v _ R1 r1 fun δ' σ' H' x2 R' q' => F.nx md δ' σ' H' (x1.xd.trans x2) R' q')
theorem s_aug (i : Nat) {pos' : Pos} {m : Int} (hδ : δ[i]? = some (.d (.int m))) (h : WE X B e δ fun d => ∃ n, d = .int n ∧ E.nx (δ.set i (.d (.int (m + n))))) (hN : X.N.Nodup) (hi : X.N[i]? = some x := by rfl) (hx : Loc X.env.scope x := by first | exact .inl rfl | exact .inr rfl)
    (hf : X.fn x = true ∨ X.env.scope.names.lookup x = some .local := by first | exact .inl rfl | exact .inr rfl) : WS X B (.AugAssign (.Name x pos') .Add e pos) δ E := fun md σ H D R F =>
  PS.can (ps_aug hN hi hx pe_can ip_add hf) (by
    obtain ⟨o, e1, v, e2, r⟩ := R.sl i _ hδ
    subst e2
    refine ⟨v, e1, h md σ H _ R fun w H1 d x1 R1 r1 ⟨n, ed, q⟩ => ?_⟩
    subst ed
    exact ⟨m, n, r.intE, r1.intE, F.nx md _ _ H1 x1.xd (R1.set i (.int _)) q⟩)
/-- a, b = x, y with plain local names -/
theorem s_par (i j : Nat) {kt k2 : Nat} {px py pt2 : Pos} (hc : X.calm = true) (hN : X.N.Nodup) (h : WE X B a δ fun d => WE X B b δ fun d' => E.nx ((δ.set i (.d d)).set j (.d d'))) (hij : i ≠ j := by decide) (hi : X.N[i]? = some x := by rfl) (hj : X.N[j]? = some y := by rfl)
    (hx : X.env.scope.names.lookup x = some .local := by rfl) (hy : X.env.scope.names.lookup y = some .local := by rfl) (hw : swappedStores [.Tuple [.Name x px, .Name y py] kt pt] (.Tuple [a, b] k2 pt2) X.env = pure (some [x, y]) := by rfl)
    (hs : swapsWithSole [.Tuple [.Name x px, .Name y py] kt pt] (.Tuple [a, b] k2 pt2) pos.line X.env = pure false := by rfl) (hs1 : starEach [a, b] X.env = (false, eval a X.env) :: starEach [b] X.env := by rfl) (hs2 : starEach [b] X.env = (false, eval b X.env) :: starEach [] X.env := by rfl) :
    WS X B (.Assign [.Tuple [.Name x px, .Name y py] kt pt] (.Tuple [a, b] k2 pt2) pos) δ E := fun md σ H D R F =>
  PS.can (ps_par hc hN hi hj hij hx hy (pa_cons pe_can (pa_cons pe_can pa_nil hs2) hs1) hw hs)
    (h md σ H _ R fun v H1 d x1 R1 r1 hb => hb md σ H1 _ R1 fun w H2 d' x2 R2 r2 q => ⟨v, w, rfl, F.nx md _ _ H2 (x1.trans x2).xd ((R2.set i (r1.mono x2)).set j r2) q⟩)
theorem s_par3 (i j l : Nat) {kt k2 : Nat} {px py pz pt2 : Pos} (hc : X.calm = true) (hN : X.N.Nodup) (h : WE X B a δ fun d => WE X B b δ fun d' => WE X B c δ fun d'' => E.nx (((δ.set i (.d d)).set j (.d d')).set l (.d d''))) (hij : i ≠ j := by decide) (hil : i ≠ l := by decide) (hjl : j ≠ l := by decide) (hi : X.N[i]? = some x := by rfl) (hj : X.N[j]? = some y := by rfl) (hl : X.N[l]? = some z := by rfl)
    (hx : X.env.scope.names.lookup x = some .local := by rfl) (hy : X.env.scope.names.lookup y = some .local := by rfl) (hz : X.env.scope.names.lookup z = some .local := by rfl) (hw : swappedStores [.Tuple [.Name x px, .Name y py, .Name z pz] kt pt] (.Tuple [a, b, c] k2 pt2) X.env = pure (some [x, y, z]) := by rfl)
    (hs : swapsWithSole [.Tuple [.Name x px, .Name y py, .Name z pz] kt pt] (.Tuple [a, b, c] k2 pt2) pos.line X.env = pure false := by rfl) (hs1 : starEach [a, b, c] X.env = (false, eval a X.env) :: starEach [b, c] X.env := by rfl) (hs2 : starEach [b, c] X.env = (false, eval b X.env) :: starEach [c] X.env := by rfl) (hs3 : starEach [c] X.env = (false, eval c X.env) :: starEach [] X.env := by rfl) :
    WS X B (.Assign [.Tuple [.Name x px, .Name y py, .Name z pz] kt pt] (.Tuple [a, b, c] k2 pt2) pos) δ E := fun md σ H D R F =>
  PS.can (ps_par3 hc hN hi hj hl hij hil hjl hx hy hz (pa_cons pe_can (pa_cons pe_can (pa_cons pe_can pa_nil hs3) hs2) hs1) hw hs)
    (h md σ H _ R fun v H1 d x1 R1 r1 hb => hb md σ H1 _ R1 fun w H2 d' x2 R2 r2 hb2 => hb2 md σ H2 _ R2 fun u H3 d'' x3 R3 r3 q => ⟨v, w, u, rfl, F.nx md _ _ H3 (x1.trans (x2.trans x3)).xd (((R3.set i (r1.mono (x2.trans x3))).set j (r2.mono x3)).set l r3) q⟩)
/-! ### self.f = d -/
def putFD (f : Str) (v : Dat) : List (Str × Dat) → List (Str × Dat)
  | [] => [(f, v)]
  | (g, x) :: r => if g = f then (g, v) :: r else (g, x) :: putFD f v r
theorem DF.put {lt : Nat → LT} {f : Str} {w : V} {x : Dat} (hw : D K lt md H w x) : ∀ {v : List (Str × V)} {d : List (Str × Dat)}, DF K lt md H v d → DF K lt md H (putF f w v) (putFD f x d)
  | _, _, .nil => .cons hw .nil
  | _, _, .cons (k := k) h r => by
    unfold putF putFD
    by_cases q : k = f
    · rw [if_pos q, if_pos q]; exact .cons hw r
    · rw [if_neg q, if_neg q]; exact .cons h (DF.put hw r)
theorem s_fld (j : Nat) {f : Str} {pos' : Pos} {pp C : Addr} {fs : List (Str × Dat)} (hj : δ[j]? = some (.own pp (.ins C fs))) (hcl : Cls X.K C) (hna : NoAttr X.K C f) (hlen : fs.length < 1000)
    (h : WE X B e δ fun d => WE X B o δ fun x => x = .gl pp ∧ E.nx (δ.set j (.own pp (.ins C (putFD f d fs))))) (hs : swapsWith e (some (.Attribute o f pos')) pos.line X.env = pure false := by rfl) : WS X B (.Assign [.Attribute o f pos'] e pos) δ E := fun md σ H D R F =>
  PS.can (ps_fld pe_can pe_can hs) (h md σ H _ R fun v H1 d x1 R1 r1 hb => hb md σ H1 _ R1 fun w H2 d' x2 R2 r2 ⟨ed, q⟩ => by
    subst ed
    have ex := r2.glE
    subst ex
    obtain ⟨u, e1, e2, hm, h0, dx, xs, e4, g1⟩ := R2.sl j _ hj
    have go := R2.mutSl (o' := .ins C dx (putF f v xs)) (y := .ins C (putFD f d fs)) hj nt_ins ⟨dx, _, upd_same, DF.monoX (xd_mut hm) (g1.put (r1.mono x2))⟩
    exact ⟨_, C, dx, xs, rfl, e4, hcl, hna, by rw [g1.len]; exact hlen, F.nx md _ _ _ ((x1.trans x2).xd.trans go.1) go.2 q⟩)
/-! ### own.append(d) -/
theorem s_append (j : Nat) {apos cpos : Pos} {pp : Addr} {ds : List Dat} (hj : δ[j]? = some (.own pp (.lst ds))) (hlen : ds.length ≤ 10000) (ho : WE X B o δ fun x => x = .gl pp ∧ WE X B e δ fun d => E.nx (δ.set j (.own pp (.lst (ds ++ [d])))))
    (hbase : attributeBase o "append" X.env (eval o X.env) = eval o X.env := by rfl)
    (hfew : ((backTo cpos (starEach [e] X.env)).all (fun x => !x.1) && (backToKw cpos (keywordEach [] X.env)).all (fun x => x.1.isSome)
      && decide ([e].length + ([] : List Keyword).length + (if ([] : List Keyword).isEmpty then 0 else 1) < 30)) = true := by rfl)
    (hline : (apos.endLine == cpos.line) = true := by rfl) (hs : starEach [e] X.env = (false, eval e X.env) :: starEach [] X.env := by rfl) (hplain : (backTo cpos (starEach [] X.env)).any (·.1) = false := by rfl)
    (hsw : swapsWith (.Call (.Attribute o "append" apos) [e] [] cpos) none pos.line X.env = pure false := by rfl) : WS X B (.Expr (.Call (.Attribute o "append" apos) [e] [] cpos) pos) δ E := fun md σ H D R F =>
  PS.can (ps_expr (pe_bm PySem.F.plainAttrs_list PySem.F.slot_list_append PySem.F.type_list_append mt_append pe_can (pa_cons pe_can pa_nil hs) hbase hfew hline hs hplain) hsw) (ho md σ H _ R fun v H1 d x1 R1 r1 ⟨ed, hb⟩ => by
    subst ed
    have ex := r1.glE
    subst ex
    obtain ⟨_, _, _, _, _, xs0, e0, _⟩ := R1.sl j _ hj
    refine ⟨.inl ⟨rfl, xs0, SqL.of e0⟩, hb md σ H1 _ R1 fun w H2 d' x2 R2 r2 q => ?_⟩
    obtain ⟨u, e1, e2, hm, h0, xs, e4, g1⟩ := R2.sl j _ hj
    have go := R2.mutSl (o' := .lst (xs ++ [w])) (y := .lst (ds ++ [d'])) hj nt_lst ⟨_, upd_same, DA.monoX (xd_mut hm) (g1.app (.cons r2 .nil))⟩
    exact ⟨_, xs, w, rfl, rfl, e4, sz_lt (by rw [g1.len]; omega), F.nx md _ _ _ ((x1.trans x2).xd.trans go.1) go.2 q⟩)
/-! ### fresh objects -/
/-- the expression makes a new object, which is the def's own -/
def WF (X : Cx) (B : Bx) (e : Expr) (δ : List Sl) (Q : Dat → Prop) : Prop :=
  ∀ md σ H (Qc : VK), Rep X.K B md δ σ H → (∀ p H' d, H p = none → Ex md H H' → Rep X.K B (mdSet md p .own) δ σ H' → OwnAt X.K B.lt (mdSet md p .own) H' p d → Q d → Qc (.ref p) H') → tCan X e σ H Qc
theorem f_nil {Q : Dat → Prop} (q : Q (.lst [])) : WF X B (.List [] pos) δ Q := fun md σ H Qc R k =>
  PE.can (pe_lst pa_nil) ⟨Nat.zero_le _, fun p hp => k p _ (.lst []) hp (ex_new hp) (R.mkOwn hp nt_lst) ⟨[], upd_same, .nil⟩ q⟩
theorem f_dict {Q : Dat → Prop} (q : Q (.dct [])) : WF X B (.Dict [] [] pos) δ Q := fun md σ H Qc R k =>
  PE.can pe_dnewK (fun p hp => k p _ (.dct []) hp (ex_new hp) (R.mkOwn hp nt_dK) ⟨[], upd_same, .nil⟩ q)
theorem xd_fresh {p : Addr} (h : H p = none) (e : Ex md H H') : XD md H (mdSet md p .own) H' := by
  refine ⟨fun a u q e1 n => ⟨by rw [mdSet_ne (ne_of_none e1 h)]; exact q, e.keep a u (by rw [q]; exact fun z => by cases z) e1 n⟩, fun a q w => ⟨?_, e.well a q w⟩⟩
  obtain ⟨_, _, _, e1, _⟩ := w
  rw [mdSet_ne (ne_of_none e1 h)]; exact q
theorem s_setF (i : Nat) {pos' : Pos} (h : WF X B e δ fun d => ∀ p, E.nx (δ.set i (.own p d))) (hN : X.N.Nodup) (hi : X.N[i]? = some x := by rfl) (hx : Loc X.env.scope x := by first | exact .inl rfl | exact .inr rfl) (hs : swapsWith e (some (.Name x pos')) pos.line X.env = pure false := by rfl)
    (hf : X.fn x = true ∨ X.env.scope.names.lookup x = some .local := by first | exact .inl rfl | exact .inr rfl) : WS X B (.Assign [.Name x pos'] e pos) δ E := fun md σ H D R F =>
  PS.can (ps_set hN hi hx pe_can hs hf) (h md σ H _ R fun p H1 d hp x1 R1 ow q => F.nx _ _ _ H1 (xd_fresh hp x1) (R1.setOwn i mdSet_same (R.fresh0 hp) ow (R.notIn hp)) (q p))
theorem OwnAt.later {lt : Nat → LT} {pp q : Addr} {d : Dat} (ow : OwnAt K lt md H pp d) (hm : md pp = .own) (hq : H q = none) (e : Ex md H H') : OwnAt K lt (mdSet md q .own) H' pp d :=
  ow.mono (xd_fresh hq e) fun o h n => e.keep pp o (by rw [hm]; exact fun z => by cases z) h n
theorem OwnAt.later0 {lt : Nat → LT} {pp : Addr} {d : Dat} (ow : OwnAt K lt md H pp d) (hm : md pp = .own) (e : Ex md H H') : OwnAt K lt md H' pp d :=
  ow.mono e.xd fun o h n => e.keep pp o (by rw [hm]; exact fun z => by cases z) h n
/-- a, b = fresh, fresh with plain local names -/
theorem s_parFF (i j : Nat) {kt k2 : Nat} {px py pt2 : Pos} (hc : X.calm = true) (hN : X.N.Nodup) (h : WF X B a δ fun d => WF X B b δ fun d' => ∀ p p', E.nx ((δ.set i (.own p d)).set j (.own p' d'))) (hij : i ≠ j := by decide) (hi : X.N[i]? = some x := by rfl) (hj : X.N[j]? = some y := by rfl)
    (hx : X.env.scope.names.lookup x = some .local := by rfl) (hy : X.env.scope.names.lookup y = some .local := by rfl) (hw : swappedStores [.Tuple [.Name x px, .Name y py] kt pt] (.Tuple [a, b] k2 pt2) X.env = pure (some [x, y]) := by rfl)
    (hs : swapsWithSole [.Tuple [.Name x px, .Name y py] kt pt] (.Tuple [a, b] k2 pt2) pos.line X.env = pure false := by rfl) (hs1 : starEach [a, b] X.env = (false, eval a X.env) :: starEach [b] X.env := by rfl) (hs2 : starEach [b] X.env = (false, eval b X.env) :: starEach [] X.env := by rfl) :
    WS X B (.Assign [.Tuple [.Name x px, .Name y py] kt pt] (.Tuple [a, b] k2 pt2) pos) δ E := fun md σ H D R F =>
  PS.can (ps_par hc hN hi hj hij hx hy (pa_cons pe_can (pa_cons pe_can pa_nil hs2) hs1) hw hs)
    (h md σ H _ R fun p1 H1 d hp x1 R1 ow hb => hb _ σ H1 _ R1 fun p2 H2 d' hp2 x2 R2 ow2 q => ⟨_, _, rfl, by
      have n12 : p1 ≠ p2 := fun z => by
        obtain ⟨o, e, _⟩ := ow.is
        rw [z, hp2] at e; cases e
      have m1 : mdSet (mdSet md p1 .own) p2 .own p1 = .own := by rw [mdSet_ne n12, mdSet_same]
      have A1 := R2.setOwn i m1 (R.fresh0 hp) (ow.later mdSet_same hp2 x2) (R.notIn hp)
      have A2 := A1.setOwn j mdSet_same (R1.fresh0 hp2) ow2 (fun k q y e => by
        rcases get_set e with ⟨_, z, _⟩ | ⟨_, e⟩
        · cases z; exact n12
        · exact R1.notIn hp2 k q y e)
      exact F.nx _ _ _ H2 ((xd_fresh hp x1).trans (xd_fresh hp2 x2)) A2 (q p1 p2)⟩)
/-- a, b = data, fresh, the names not both plain -/
theorem s_tupDF (i j : Nat) {kt k2 : Nat} {px py pt2 : Pos} (hc : X.calm = true) (hN : X.N.Nodup) (h : WE X B a δ fun d => WF X B b δ fun d' => ∀ p', E.nx ((δ.set i (.d d)).set j (.own p' d'))) (hij : i ≠ j := by decide) (hi : X.N[i]? = some x := by rfl) (hj : X.N[j]? = some y := by rfl)
    (hx : Loc X.env.scope x := by first | exact .inl rfl | exact .inr rfl) (hy : Loc X.env.scope y := by first | exact .inl rfl | exact .inr rfl) (hfx : X.fn x = true ∨ X.env.scope.names.lookup x = some .local := by first | exact .inl rfl | exact .inr rfl) (hfy : X.fn y = true ∨ X.env.scope.names.lookup y = some .local := by first | exact .inl rfl | exact .inr rfl)
    (hw : swappedStores [.Tuple [.Name x px, .Name y py] kt pt] (.Tuple [a, b] k2 pt2) X.env = pure none := by rfl) (hn : (assignEach [.Name x px, .Name y py] X.env).length = 2 := by rfl) (hst : (assignEach [.Name x px, .Name y py] X.env).findIdx? (·.1) = none := by rfl)
    (hs : swapsWithSole [.Tuple [.Name x px, .Name y py] kt pt] (.Tuple [a, b] k2 pt2) pos.line X.env = pure false := by rfl) (hs1 : starEach [a, b] X.env = (false, eval a X.env) :: starEach [b] X.env := by rfl) (hs2 : starEach [b] X.env = (false, eval b X.env) :: starEach [] X.env := by rfl)
    (hg1 : (assignEach [.Name x px, .Name y py] X.env).map (·.2) = assign (.Name x px) X.env :: (assignEach [.Name y py] X.env).map (·.2) := by rfl) (hg2 : (assignEach [.Name y py] X.env).map (·.2) = assign (.Name y py) X.env :: (assignEach [] X.env).map (·.2) := by rfl)
    (h1 : (assignEach [.Tuple [.Name x px, .Name y py] kt pt] X.env).map (·.2) = [assign (.Tuple [.Name x px, .Name y py] kt pt) X.env] := by rfl) :
    WS X B (.Assign [.Tuple [.Name x px, .Name y py] kt pt] (.Tuple [a, b] k2 pt2) pos) δ E := fun md σ H D R F =>
  PS.can (ps_asg (pe_tup (pa_cons pe_can (pa_cons pe_can pa_nil hs2) hs1)) (pg_tup hc (pgs_cons (pg_name hN hi hx hfx) (pgs_cons (pg_name hN hj hy hfy) pgs_nil hg2) hg1) hn hst) hs hw h1)
    (h md σ H _ R fun v H1 d x1 R1 r1 hb => hb _ σ H1 _ R1 fun p2 H2 d' hp2 x2 R2 ow2 q => ⟨sz_of (by simp), fun T hT => by
      refine ⟨T, _, rfl, SqT.of upd_same, rfl, _, _, rfl, _, _, rfl, rfl, ?_⟩
      have x3 : Ex (mdSet md p2 .own) H2 (upd H2 T (.tup [v, .ref p2])) := ex_new hT
      have R3 := R2.new (o := .tup [v, .ref p2]) hT
      have xx := (x1.xd.trans (xd_fresh hp2 x2)).trans x3.xd
      have A1 := R3.set i (DL.D.mono x3 (DL.D.monoX (xd_fresh hp2 x2) r1))
      have A2 := A1.setOwn j mdSet_same (R1.fresh0 hp2) (ow2.later0 mdSet_same x3) (fun k q y e => by
        rcases get_set e with ⟨_, z, _⟩ | ⟨_, e⟩
        · cases z
        · exact R1.notIn hp2 k q y e)
      exact F.nx _ _ _ _ xx A2 (q p2)⟩)
end
end DL

/-! DlJ -/
set_option Elab.async false
set_option linter.all false
set_option maxRecDepth 100000
set_option maxHeartbeats 4000000
namespace DL
open PySem PySem.Spec PyProof.Rows L2
open NdefX (NTab TabsN TabN)
/-! ### walks by data -/
structure WalkD (K : PySem.W.Frag) (B : Bx) (md : Addr → Md) (H : Hp) (kp : List Sl → Prop) (J : It) (ds : List Dat) : Prop where
  goes : ∀ i md' δ σ H', i < ds.length → XD md H md' H' → Rep K B md' δ σ H' → kp δ → J.go i H'
  stops : ∀ md' δ σ H', XD md H md' H' → Rep K B md' δ σ H' → kp δ → J.stop ds.length H'
  yld : ∀ i md' δ σ H' x H'', i < ds.length → XD md H md' H' → Rep K B md' δ σ H' → kp δ → J.yld i H' x H'' → ∃ d, ds[i]? = some d ∧ Ex md' H' H'' ∧ TabsN B.T H'' ∧ D K B.lt md' H'' x d
def tCanI (X : Cx) (tg it : Expr) : TI := fun σ H R => ∀ (pins : List (Addr × Obj)) (s : Shared), Inv X pins σ H s → wpAny (model X.prog X.w) X.A (eval it X.env) (fun v s1 => wpAny (model X.prog X.w) X.A (pyIter v) (PIE X pins σ tg R) X.xe s1) X.xe s
def kpT : List Sl → Prop := fun _ => True
section
variable {X : Cx} {B : Bx} {K : PySem.W.Frag} {δ : List Sl} {σ : L2.St} {md md' : Addr → Md} {H H' : Hp} {E : DE} {e a b c o tg it : Expr} {es : List Expr} {st : Stmt} {sts us : List Stmt} {pos p pt : Pos} {x y z : Str}
theorem pi_can : PI X tg it (tCanI X tg it) := ⟨fun pins s _ _ _ I h => h pins s I⟩
theorem PI.can {t : TI} (h : PI X tg it t) {R : It → Hp → Prop} (q : t σ H R) : tCanI X tg it σ H R := fun pins s I => h.run pins s σ H R I q
def WI (X : Cx) (B : Bx) (tg it : Expr) (δ : List Sl) (Q : List Dat → (List Sl → Prop) → Prop) : Prop :=
  ∀ md σ H (Rc : It → Hp → Prop), Rep X.K B md δ σ H → (∀ J H' ds kp, Ex md H H' → Rep X.K B md δ σ H' → WalkD X.K B md H' kp J ds → Q ds kp → Rc J H') → tCanI X tg it σ H Rc
/-! what is walked -/
theorem SqL.monoX {xs : List V} {a : Addr} (hm : md a = .imm) (h : H a = some (.lst xs)) (x : XD md H md' H') : SqL K H' a xs := SqL.of (x.imm _ _ hm h nt_lst).2
theorem walk_lst {xs : List V} {ds : List Dat} {a : Addr} (hm : md a = .imm) (h : H a = some (.lst xs)) (g : DA K B.lt md H xs ds) : WalkD K B md H kpT (Itl K a) ds where
  goes := fun i md' δ σ H' hi x R _ => by
    obtain ⟨d, ed⟩ : ∃ d, ds[i]? = some d := ⟨ds[i], by simp [hi]⟩
    obtain ⟨y, ey, _⟩ := g.get ed
    exact ⟨xs, y, SqL.monoX hm h x, ey⟩
  stops := fun md' δ σ H' x R _ => ⟨xs, SqL.monoX hm h x, by rw [g.len]; exact Nat.le_refl _⟩
  yld := fun i md' δ σ H' v H'' hi x R _ y => by
    obtain ⟨e, y⟩ := y
    subst e
    obtain ⟨d, ed⟩ : ∃ d, ds[i]? = some d := ⟨ds[i], by simp [hi]⟩
    obtain ⟨w, ey, r⟩ := g.get ed
    have := (y xs (SqL.monoX hm h x)).symm.trans ey
    cases this
    exact ⟨d, ed, Ex.refl _ _, R.tabs, r.monoX x⟩
/-- a tuple at a -/
def TupAt (K : PySem.W.Frag) (md : Addr → Md) (H : Hp) (a : Addr) (xs : List V) : Prop := (md a = .imm ∧ H a = some (.tup xs)) ∨ KT K a xs ∨ (md a = .imm ∧ ∃ o, H a = some (.frz o (.tup xs)))
theorem TupAt.sq {xs : List V} {a : Addr} (h : TupAt K md H a xs) : SqT K H a xs := by
  rcases h with ⟨_, h⟩ | h | ⟨_, o, h⟩
  · exact SqT.of h
  · exact h.elim (fun z => z.elim (fun z => by cases z) fun ⟨_, z⟩ => by cases z) .inr
  · exact .inl (.inr ⟨o, h⟩)
theorem TupAt.mono {xs : List V} {a : Addr} (h : TupAt K md H a xs) (x : XD md H md' H') : TupAt K md' H' a xs := by
  rcases h with ⟨hm, h⟩ | h | ⟨hm, o, h⟩
  · exact .inl (x.imm _ _ hm h nt_tup)
  · exact .inr (.inl h)
  · exact .inr (.inr ⟨(x.imm _ _ hm h nt_frz).1, o, (x.imm _ _ hm h nt_frz).2⟩)
theorem D.tupA {lt : Nat → LT} {v : V} {ds : List Dat} (h : D K lt md H v (.tup ds)) : ∃ a xs, v = .ref a ∧ TupAt K md H a xs ∧ DA K lt md H xs ds := by
  cases h with
  | tup hm e r => exact ⟨_, _, rfl, .inl ⟨hm, e⟩, r⟩
  | tupK e r => exact ⟨_, _, rfl, .inr (.inl e), r⟩
  | tupF hm e r => exact ⟨_, _, rfl, .inr (.inr ⟨hm, _, e⟩), r⟩
theorem walk_tupD {xs : List V} {ds : List Dat} {a : Addr} (h : TupAt K md H a xs) (g : DA K B.lt md H xs ds) : WalkD K B md H kpT (Itt K a) ds where
  goes := fun i md' δ σ H' hi x R _ => by
    obtain ⟨d, ed⟩ : ∃ d, ds[i]? = some d := ⟨ds[i], by simp [hi]⟩
    obtain ⟨y, ey, _⟩ := g.get ed
    exact ⟨xs, y, (h.mono x).sq, ey⟩
  stops := fun md' δ σ H' x R _ => ⟨xs, (h.mono x).sq, by rw [g.len]; exact Nat.le_refl _⟩
  yld := fun i md' δ σ H' v H'' hi x R _ y => by
    obtain ⟨e, y⟩ := y
    subst e
    obtain ⟨d, ed⟩ : ∃ d, ds[i]? = some d := ⟨ds[i], by simp [hi]⟩
    obtain ⟨w, ey, r⟩ := g.get ed
    have := (y xs (h.mono x).sq).symm.trans ey
    cases this
    exact ⟨d, ed, Ex.refl _ _, R.tabs, r.monoX x⟩
theorem walk_ownD {ds : List Dat} {a : Addr} {j : Nat} : WalkD K B md H (fun δ => δ[j]? = some (.own a (.lst ds))) (Itl K a) ds where
  goes := fun i md' δ σ H' hi x R k => by
    obtain ⟨_, _, _, _, _, xs, e, g⟩ := R.sl j _ k
    obtain ⟨d, ed⟩ : ∃ d, ds[i]? = some d := ⟨ds[i], by simp [hi]⟩
    obtain ⟨y, ey, _⟩ := g.get ed
    exact ⟨xs, y, SqL.of e, ey⟩
  stops := fun md' δ σ H' x R k => by
    obtain ⟨_, _, _, _, _, xs, e, g⟩ := R.sl j _ k
    exact ⟨xs, SqL.of e, by rw [g.len]; exact Nat.le_refl _⟩
  yld := fun i md' δ σ H' v H'' hi x R k y => by
    obtain ⟨e, y⟩ := y
    subst e
    obtain ⟨_, _, _, _, _, xs, e, g⟩ := R.sl j _ k
    obtain ⟨d, ed⟩ : ∃ d, ds[i]? = some d := ⟨ds[i], by simp [hi]⟩
    obtain ⟨w, ey, r⟩ := g.get ed
    have := (y xs (SqL.of e)).symm.trans ey
    cases this
    exact ⟨d, ed, Ex.refl _ _, R.tabs, r⟩
def rangeD (a : Int) (n : Nat) : List Dat := (List.range n).map fun i => .int (a + (i : Nat))
theorem walk_rangeD {lo : Int} {n : Nat} : WalkD K B md H kpT (Itr lo n) (rangeD lo n) where
  goes := fun i md' δ σ H' hi x R _ => by unfold rangeD at hi; show i < n; simpa using hi
  stops := fun md' δ σ H' x R _ => by unfold rangeD; show n ≤ _; simp
  yld := fun i md' δ σ H' v H'' hi x R _ y => by
    obtain ⟨e, ev⟩ := y
    subst e ev
    unfold rangeD at hi ⊢
    have hi : i < n := by simpa using hi
    exact ⟨_, by rw [List.getElem?_map, List.getElem?_range hi]; rfl, Ex.refl _ _, R.tabs, .int _⟩
def signsD (z : Str) : List Dat := z.cps.toList.map fun c => .str ⟨#[c]⟩
theorem walk_strD {z : Str} : WalkD K B md H kpT (Its z) (signsD z) where
  goes := fun i md' δ σ H' hi x R _ => by unfold signsD at hi; show i < z.cps.size; simpa using hi
  stops := fun md' δ σ H' x R _ => by unfold signsD; show z.cps.size ≤ _; simp
  yld := fun i md' δ σ H' v H'' hi x R _ y => by
    obtain ⟨e, c, ec, ev⟩ := y
    subst e ev
    unfold signsD
    exact ⟨_, by rw [List.getElem?_map, Array.getElem?_toList, ec]; rfl, Ex.refl _ _, R.tabs, .str _⟩
/-- list, tuple, str or an own list -/
def seqI (δ : List Sl) (d : Dat) (Q : List Dat → (List Sl → Prop) → Prop) : Prop := match d with
  | .tup ds => Q ds kpT
  | .lst ds => Q ds kpT
  | .str z => Q (signsD z) kpT
  | .gl p => ∃ (j : Nat) (ds : List Dat), δ[j]? = some (.own p (.lst ds)) ∧ Q ds fun δ' => δ'[j]? = some (.own p (.lst ds))
  | _ => False
def iSeq (K : PySem.W.Frag) (te : TE) : TI := fun σ H R => te σ H fun x H1 => (∃ a, x = .ref a ∧ (∃ xs, SqL K H1 a xs) ∧ R (Itl K a) H1) ∨ (∃ a, x = .ref a ∧ (∃ xs, SqT K H1 a xs) ∧ R (Itt K a) H1) ∨ ∃ z, x = .str z ∧ R (Its z) H1
theorem pi_seq {te : TE} (he : PE X e te) : PI X tg e (iSeq X.K te) := by
  refine ⟨fun pins s σ H R I h => ?_⟩
  refine thn (he.run pins s σ H _ I h) fun v s1 ⟨x, H1, I1, r1, q1⟩ => ?_
  rcases q1 with ⟨a, e, ⟨xs, hq⟩, q⟩ | ⟨a, e, ⟨xs, hq⟩, q⟩ | ⟨z, e, q⟩
  · subst e
    cases r1
    obtain ⟨its, rv, p, hz⟩ := I1.list hq
    refine wpAny_pyIter_list p.isList ?_
    refine ⟨s1.heap.objs.size, [s1.heap.objs.size], _, _, H1, rfl, I1.kept (t' := s1.toks) fun b o e => Heap.get?_push_of_some _ e, turn_list a _, ⟨_, Heap.get?_push_size _ rfl, rfl, rfl⟩, fun b hb => ?_, q⟩
    have e : b = s1.heap.objs.size := by simpa using hb
    subst e
    exact I1.fpOk (Nat.le_refl _) (I1.hok.fresh (Nat.le_refl _))
  · subst e
    cases r1
    obtain ⟨its, rv, p, hz⟩ := I1.tuple hq
    refine wpAny_pyIter_tuple (show s1.heap.IsTuple a its.toArray from p) ?_
    refine ⟨s1.heap.objs.size, [s1.heap.objs.size], _, _, H1, rfl, I1.kept (t' := s1.toks) fun b o e => Heap.get?_push_of_some _ e, turn_tuple a _, ⟨_, Heap.get?_push_size _ rfl, rfl, rfl⟩, fun b hb => ?_, q⟩
    have e : b = s1.heap.objs.size := by simpa using hb
    subst e
    exact I1.fpOk (Nat.le_refl _) (I1.hok.fresh (Nat.le_refl _))
  · subst e
    obtain ⟨t, rfl⟩ := r1
    cases ha : z.cps.all (· < 128)
    · exact wpAny_pyIter_wide ha (pi_one (tk := s1.toks) I1 _ (turn_str _ z t "str_iterator" (.inr rfl)) ⟨_, Heap.get?_push_size _ rfl, rfl, rfl⟩ q)
    · exact wpAny_pyIter_ascii ha (pi_one (tk := s1.toks) I1 _ (turn_str _ z t "str_ascii_iterator" (.inl rfl)) ⟨_, Heap.get?_push_size _ rfl, rfl, rfl⟩ q)
theorem i_seq {Q : List Dat → (List Sl → Prop) → Prop} (h : WE X B e δ fun d => seqI δ d Q) : WI X B tg e δ Q := fun md σ H Rc R k =>
  PI.can (pi_seq pe_can) (h md σ H _ R fun v H1 d x1 R1 r1 q => by
    cases d <;> first | exact q.elim | skip
    · have ev := r1.strE
      exact .inr (.inr ⟨_, ev, k _ H1 _ _ x1 R1 walk_strD q⟩)
    · obtain ⟨a1, xs, e1, s1, g1⟩ := r1.tupA
      exact .inr (.inl ⟨a1, e1, ⟨xs, s1.sq⟩, k _ H1 _ _ x1 R1 (walk_tupD s1 g1) q⟩)
    · obtain ⟨a1, xs, e1, s1, m1, g1⟩ := r1.atL
      exact .inl ⟨a1, e1, ⟨xs, SqL.of s1⟩, k _ H1 _ _ x1 R1 (walk_lst m1 s1 g1) q⟩
    · obtain ⟨j, ds, eδ, q⟩ := q
      obtain ⟨_, _, _, _, _, xs, e4, g1⟩ := R1.sl j _ eδ
      exact .inl ⟨_, r1.glE, ⟨xs, SqL.of e4⟩, k _ H1 _ _ x1 R1 walk_ownD q⟩)
theorem i_range1 {Q : List Dat → (List Sl → Prop) → Prop} (hm : X.mg "range" = none) (h : WE X B a δ fun d => ∃ j : Int, d = .int j ∧ j ≤ 100000 ∧ -100000 ≤ j ∧ Q (rangeD 0 j.toNat) kpT) (hg : Gl X "range" := by rfl) (hs : starEach [a] X.env = (false, eval a X.env) :: starEach [] X.env := by rfl) : WI X B tg (.Call (.Name "range" p) [a] [] pos) δ Q := fun md σ H Rc R k =>
  PI.can (pi_range1 hg hm (pa_cons pe_can pa_nil hs) hs) (h md σ H _ R fun v H1 d x1 R1 r1 ⟨j, ed, l1, l2, q⟩ => by
    subst ed
    exact ⟨j, by rw [r1.intE], by omega, by omega, k _ H1 _ _ x1 R1 walk_rangeD q⟩)
theorem i_range2 {Q : List Dat → (List Sl → Prop) → Prop} (hm : X.mg "range" = none) (h : WE X B a δ fun d => WE X B b δ fun d' => ∃ i j : Int, d = .int i ∧ d' = .int j ∧ (j ≤ 100000 ∧ -100000 ≤ j ∧ i ≤ 100000 ∧ -100000 ≤ i) ∧ Q (rangeD i (j - i).toNat) kpT) (hg : Gl X "range" := by rfl) (hs : starEach [a, b] X.env = (false, eval a X.env) :: starEach [b] X.env := by rfl) (hs2 : starEach [b] X.env = (false, eval b X.env) :: starEach [] X.env := by rfl) : WI X B tg (.Call (.Name "range" p) [a, b] [] pos) δ Q := fun md σ H Rc R k =>
  PI.can (pi_range2 hg hm (pa_cons pe_can (pa_cons pe_can pa_nil hs2) hs) (by rw [hs, hs2]; rfl) hs2) (h md σ H _ R fun v H1 d x1 R1 r1 hb => hb md σ H1 _ R1 fun w H2 d' x2 R2 r2 ⟨i, j, ed, ed', ⟨l1, l2, l3, l4⟩, q⟩ => by
    subst ed ed'
    exact ⟨i, j, by rw [r1.intE, r2.intE], ⟨by omega, by omega, by omega, by omega⟩, k _ H2 _ _ (x1.trans x2) R2 walk_rangeD q⟩)
/-! ### for -/
theorem s_for {body : List Stmt} (hc : X.calm = true) (h : WI X B tg it δ fun ds kp => ∃ In : Nat → List Sl → Prop, In 0 δ ∧ (∀ i δ', i ≤ ds.length → In i δ' → kp δ') ∧
    (∀ i d δ', ds[i]? = some d → In i δ' → WG X B tg d δ' fun δ'' => WSs X B body δ'' { E with nx := In (i + 1), ct := In (i + 1), bk := E.nx }) ∧ ∀ δ', In ds.length δ' → E.nx δ')
    (hp : PassesOwn (model X.prog X.w) X.A X.env X.xe := by exact PassesOwn.never) (hs : ∀ x, foldedSetIterable it X.env x = pure x := by intro _; rfl) : WS X B (.For tg it body [] pos) δ E := fun md σ H D R F =>
  PS.can (ps_for hp hc pi_can pg_can pss_can hs) (h md σ H _ R fun J H1 ds kp x1 R1 w ⟨In, i0, ikp, step, done⟩ => by
    have F1 := F.on x1.xd
    refine for_it (n := ds.length) (G := fun H' => ∃ md' δ' σ', XD md H1 md' H' ∧ Rep X.K B md' δ' σ' H' ∧ kp δ') (Y := J.yld)
      ⟨fun i H' hi ⟨md', δ', σ', x, R', k⟩ => w.goes i md' δ' σ' H' hi x R' k, fun H' ⟨md', δ', σ', x, R', k⟩ => w.stops md' δ' σ' H' x R' k, fun i H' v H'' hi _ y => y⟩
      (fun i σ' H' => ∃ md' δ', XD md H1 md' H' ∧ Rep X.K B md' δ' σ' H' ∧ In i δ') ⟨md, δ, XD.refl md H1, R1, i0⟩ (fun i σ' H' hi ⟨md', δ', x, R', q⟩ => ⟨md', δ', σ', x, R', ikp i δ' hi q⟩) ?_ ?_
    · rintro i v σ' H' H'' hi ⟨md', δ', x, R', q⟩ y
      obtain ⟨d, ed, xe, tb, r⟩ := w.yld i md' δ' σ' H' v H'' hi x R' (ikp i δ' (by omega) q) y
      have R'' := R'.grow xe tb
      refine step i d δ' ed q md' σ' H'' v _ R'' r fun δ2 σ2 H2 x2 R2 q2 => q2 md' σ2 H2 _ R2 ?_
      have xx := x.trans (xe.xd.trans x2)
      refine ⟨fun m3 d3 s3 h3 x3 R3 q3 => ⟨m3, d3, xx.trans x3, R3, q3⟩, fun m3 d3 s3 h3 x3 R3 q3 => F1.nx m3 d3 s3 h3 (xx.trans x3) R3 q3, fun m3 d3 s3 h3 x3 R3 q3 => ⟨m3, d3, xx.trans x3, R3, q3⟩, fun m3 d3 s3 h3 v3 w3 x3 R3 r3 q3 => F1.rt m3 d3 s3 h3 v3 w3 (xx.trans x3) R3 r3 q3⟩
    · rintro σ' H' ⟨md', δ', x, R', q⟩
      exact F1.nx md' δ' σ' H' x R' (done δ' q))
/-! ### while -/
theorem s_while {body : List Stmt} (In : Nat → List Sl → Prop) {m0 : Nat} (h0 : In m0 δ) (step : ∀ m δ', In m δ' → WT X B c δ' fun k => if k = true then WSs X B body δ' { E with nx := fun δ'' => ∃ m', m' < m ∧ In m' δ'', ct := fun δ'' => ∃ m', m' < m ∧ In m' δ'', bk := E.nx } else E.nx δ')
    (hp : PassesOwn (model X.prog X.w) X.A X.env X.xe := by exact PassesOwn.never) : WS X B (.While c body [] pos) δ E := fun md σ H D R F =>
  PS.can (ps_while hp pt_can pss_can) ⟨fun m σ' H' => ∃ md' δ', XD md H md' H' ∧ Rep X.K B md' δ' σ' H' ∧ In m δ', ⟨m0, md, δ, XD.refl md H, R, h0⟩, by
    rintro m σ' H' ⟨md', δ', x, R', q⟩
    refine step m δ' q md' σ' H' _ R' fun k H1 x1 R1 q1 => ?_
    have xx := x.trans x1.xd
    cases k with
    | true =>
      rw [if_pos rfl] at q1 ⊢
      refine ⟨fun σ2 H2 => ∃ m', m' < m ∧ ∃ md2 δ2, XD md H md2 H2 ∧ Rep X.K B md2 δ2 σ2 H2 ∧ In m' δ2, fun σ2 H2 ⟨m', l, z⟩ => ⟨m', l, z⟩, q1 md' σ' H1 _ R1 ?_⟩
      refine ⟨fun m3 d3 s3 h3 x3 R3 ⟨m', l, q3⟩ => ⟨m', l, m3, d3, xx.trans x3, R3, q3⟩, fun m3 d3 s3 h3 x3 R3 q3 => F.nx m3 d3 s3 h3 (xx.trans x3) R3 q3, fun m3 d3 s3 h3 x3 R3 ⟨m', l, q3⟩ => ⟨m', l, m3, d3, xx.trans x3, R3, q3⟩, fun m3 d3 s3 h3 v3 w3 x3 R3 r3 q3 => F.rt m3 d3 s3 h3 v3 w3 (xx.trans x3) R3 r3 q3⟩
    | false =>
      rw [if_neg Bool.false_ne_true] at q1 ⊢
      exact F.nx md' δ' σ' H1 xx R1 q1⟩
end
end DL

/-! DlK -/
set_option Elab.async false
set_option linter.all false
set_option maxRecDepth 100000
set_option maxHeartbeats 4000000
namespace DL
open PySem PySem.Spec PyProof.Rows L2
open NdefX (NTab TabsN TabN)
/-! ### enumerate(tuple) -/
def IteT (K : PySem.W.Frag) (a : Addr) : It :=
  ⟨fun i H => ∃ (xs : List V) (x : V), SqT K H a xs ∧ xs[i]? = some x, fun i H v H' => ∃ T x, v = .ref T ∧ H T = none ∧ H' = upd H T (.tup [.int (i : Nat), x]) ∧ ∀ xs, SqT K H a xs → xs[i]? = some x, fun i H => ∃ xs : List V, SqT K H a xs ∧ xs.length = i⟩
theorem turn_enumT {P : Program} {w : World} {K : PySem.W.Frag} {elts : List Expr} {kk : Nat} {tpos : Pos} (a e it : Addr) (hai : a ≠ it) (hae : a ≠ e) :
    Turn P w K (.Tuple elts kk tpos) (IteT K a) [e, it] e (fun i h => (∃ old, IsEnum h e it ((i : Nat) : Int) old) ∧ h.IsTupleIter it a i ∧ e ≠ it) where
  mem := by simp
  obj := fun i h st b hb => by
    obtain ⟨⟨old, he⟩, ⟨o, ho, hc, hd⟩, _⟩ := st
    have e' : b = e ∨ b = it := by simpa using hb
    rcases e' with z | z
    · rw [z]; exact ⟨_, he, fun v q => nomatch q⟩
    · rw [z]; exact ⟨o, ho, fun v q => by rw [hd] at q; cases q⟩
  keep := fun i h h' st k => let ⟨⟨old, he⟩, hi, hne⟩ := st; ⟨⟨old, k e (by simp) _ he⟩, hi.at fun o q => k it (by simp) o q, hne⟩
  item := by
    intro X hP hw hK hc i pins s σ H E I hf st hg
    subst hP hw hK
    obtain ⟨⟨old, he⟩, hit, hne⟩ := st
    obtain ⟨xs, x, hq, hx⟩ := hg
    obtain ⟨its, rv, p, hz⟩ := I.tuple hq
    obtain ⟨u, hu, ru⟩ := rv.get hx
    have hel : e < s.heap.objs.size := Heap.lt_size he
    have hil : it < s.heap.objs.size := by obtain ⟨_, q, _⟩ := hit; exact Heap.lt_size q
    have hlt : i < its.toArray.size := by
      have := (List.getElem?_eq_some_iff.mp hu).1
      simpa using this
    refine wpAny_pyNext_enum_itemD (Draws.tuple (A := X.A.in1) (I.ok.hd hc) it a hai its.toArray) he ⟨hit, p⟩ hlt hne (by simp; exact ⟨hne, Ne.symm hae⟩) fun y h' tk hy ho hst' hT hsz hk => ?_
    obtain ⟨hit', _⟩ := hst'
    have ey : y = u := by
      have z : its[i]? = some y := by simpa using hy
      rw [hu] at z; exact (Option.some.inj z).symm
    subst ey
    refine ⟨_, rfl, wpAny_letOwnedTupleGo_enum (s := { s with heap := h', toks := tk + 1 }) ho fun h'' he' sb => ?_⟩
    have hT2 : h''.get? s.heap.objs.size = some { cls := .type "tuple", data := .seq #[.int i tk, y] } := (sb.2 _ (Nat.ne_of_gt hel)).trans hT
    have new : ObjOk X.prog X.w (upd H s.heap.objs.size (.tup [.int (i : Nat), x])) h'' s.heap.objs.size (.tup [.int (i : Nat), x]) :=
      ⟨by show 2 ≤ sizeLine; decide, [.int i tk, y], .cons ⟨_, rfl⟩ (.cons ru .nil), ⟨_, hT2, rfl, _, rfl⟩⟩
    have I1 : Inv X pins σ (upd H s.heap.objs.size (.tup [.int (i : Nat), x])) { s with heap := h'', toks := tk + 1 } :=
      I.turnedNew (ch := [e, it]) (fun b ob hb q => (sb.2 b (fun z => hb (by simp [z]))).trans (hk b ob (fun z => hb (by simp [z])) (fun z => hb (by simp [z])) q)) hf (Nat.le_refl _) new
    refine ⟨.ref s.heap.objs.size, _, I1, rfl, ⟨_, x, rfl, I.hok.fresh (Nat.le_refl _), rfl, fun ys hy => by rw [I.tuple_inj hy hq]; exact hx⟩, ⟨⟨y, ?_⟩, hit'.at fun o q => (sb.2 it (Ne.symm hne)).trans q, hne⟩, fun b hb => ?_⟩
    · have e1 : ((i + 1 : Nat) : Int) = (i : Int) + 1 := by omega
      rw [e1]; exact he'
    · have hb' : b < s.heap.objs.size := by
        have e' : b = e ∨ b = it := by simpa using hb
        rcases e' with z | z
        · rw [z]; exact hel
        · rw [z]; exact hil
      rw [upd_ne (Nat.ne_of_lt hb')]
      exact (hf b hb).1
  done := by
    intro X hP hw hK hc i pins s σ H E I hf st hg
    subst hP hw hK
    obtain ⟨⟨old, he⟩, hit, hne⟩ := st
    obtain ⟨xs, hq, hx⟩ := hg
    obtain ⟨its, rv, p, hz⟩ := I.tuple hq
    obtain ⟨f0, f1, f2, f3, f4, f5⟩ := hf it (by simp)
    have hl := rv.length
    have ei : i = its.toArray.size := by simp; omega
    subst ei
    exact wpAny_pyNext_enum_endD (Draws.tuple (A := X.A.in1) (I.ok.hd hc) it a hai its.toArray) he ⟨hit, p⟩ fun h' eb => ⟨rfl, I.turned (t' := s.toks) (fun b o hb q => eb b o hb q) f0 f1 f3 f4 f5⟩
  self := fun A i s Q E st h => let ⟨⟨_, he⟩, _⟩ := st; wpAny_pyIter_enum he h
theorem meets_enumerate_newT (l : Addr) (items : Array Value) (n : Nat) (dct : Option Addr) (sl : Array (Option Value)) :
    Meets (Builtin.«enumerate.__new__» ⟨[.type "enumerate", .ref l], []⟩) (fun _ R s => s.heap.get? l = some { cls := .type "tuple", dict := dct, data := .seq items n, slots := sl } ∧
      R (.ok (.ret (.ref (s.heap.push { cls := .type "tuple_iterator", data := .fields #[.ref l, .int 0 0] }).objs.size)))
        { s with heap := (s.heap.push { cls := .type "tuple_iterator", data := .fields #[.ref l, .int 0 0] }).push { cls := .type "enumerate", data := .fields #[.none, .bool false, .ref s.heap.objs.size, rawInt 0, .none, .none] } }) :=
  .of_wp fun prog w A R s h => by
    obtain ⟨hp, g, d, tk, os⟩ := s; obtain ⟨hl, h⟩ := h
    have hsub := sub_enumerate
    have hL : Heap.IsTuple (Shared.heap ⟨hp, g, d, tk, os⟩) l items := ⟨_, hl, rfl, n, rfl⟩
    wp_walk using AutoSeq1.wpAny_loadPart' hl
    refine wpAny_stack_any fun st => wpAny_pure ?_
    split
    · rename_i c _ _ _ _ _
      cases (c == Value.type "enumerate")
      · wp_walk using AutoSeq1.wpAny_loadPart' hl, wpAny_pyIter_tuple hL
        exact ⟨_, rfl, h⟩
      · wp_walk using AutoSeq1.wpAny_loadPart' hl, wpAny_pyIter_tuple hL
        exact ⟨_, rfl, h⟩
    · wp_walk using AutoSeq1.wpAny_loadPart' hl, wpAny_pyIter_tuple hL
      exact ⟨_, rfl, h⟩
theorem call_enumerate_tup {prog : Program} {w : World} {A : Around} {E : Value → Shared → Prop} {s : Shared} {l : Addr} {items : Array Value} {Q : Value → Shared → Prop} (hL : s.heap.IsTuple l items)
    (h : ∀ h', IsEnum h' (s.heap.objs.size + 1) s.heap.objs.size 0 .none → h'.IsTupleIter s.heap.objs.size l 0 → h'.objs.size = s.heap.objs.size + 2 →
      (∀ b o, s.heap.get? b = some o → h'.get? b = some o) → Q (.ref (s.heap.objs.size + 1)) { s with heap := h' }) :
    wpAny (model prog w) A (call (.type "enumerate") [.ref l]) Q E s := by
  obtain ⟨⟨c, dct, dt, sl⟩, hl, hc, n, hd⟩ := hL
  replace hc : c = .type "tuple" := hc
  replace hd : dt = .seq items n := hd
  subst hc hd
  refine callType_new F.called_enumerate (by decide) (F.typeCall_enumerate_1 _) (F.newCall_enumerate_1 _) (fun obj => F.args_object_init_2 obj _) F.entry_enumerate_new
    (meets_enumerate_newT l items n dct sl) ⟨hl, ?_⟩
  have hz : (s.heap.push { cls := .type "tuple_iterator", data := .fields #[.ref l, .int 0 0] }).objs.size = s.heap.objs.size + 1 := Heap.size_push ..
  show _ ∧ _
  rw [hz]
  have he : IsEnum ((s.heap.push { cls := .type "tuple_iterator", data := .fields #[.ref l, .int 0 0] }).push
      { cls := .type "enumerate", data := .fields #[.none, .bool false, .ref s.heap.objs.size, rawInt 0, .none, .none] }) (s.heap.objs.size + 1) s.heap.objs.size 0 .none := by
    have := Heap.get?_push_size (s.heap.push { cls := .type "tuple_iterator", data := .fields #[.ref l, .int 0 0] })
      (o := { cls := .type "enumerate", data := .fields #[.none, .bool false, .ref s.heap.objs.size, rawInt 0, .none, .none] }) rfl
    rw [hz] at this; exact this
  refine ⟨⟨_, he, rfl⟩, h _ he ⟨_, Heap.get?_push_of_some _ (Heap.get?_push_size _ rfl), rfl, rfl⟩ (by rw [Heap.size_push, hz]) fun b o x => Heap.get?_push_of_some _ (Heap.get?_push_of_some _ x)⟩
/-- enumerate of a list or a tuple -/
def iEnumA (K : PySem.W.Frag) (ta : TA) : TI := fun σ H R => ta σ H fun vs H1 => ∃ a xs, vs = [.ref a] ∧ ((SqL K H1 a xs ∧ R (Ite K a) H1) ∨ (SqT K H1 a xs ∧ R (IteT K a) H1))
theorem pi_enumA {X : Cx} {e : Expr} {ta : TA} {p pos tpos : Pos} {elts : List Expr} {kk : Nat} (hg : Gl X "enumerate") (hm : X.mg "enumerate" = none) (ha : PA X [e] ta) (hs : starEach [e] X.env = [(false, eval e X.env)] := by rfl) :
    PI X (.Tuple elts kk tpos) (.Call (.Name "enumerate" p) [e] [] pos) (iEnumA X.K ta) := by
  refine ⟨fun pins s σ H R I h => ?_⟩
  refine Call_ (ld_blt I hg hm boot_enumerate (PyProof.Rows.callWith_type1 (thn (ha.run pos pins s σ H _ I h) fun us s1 ⟨vs, H1, I1, r1, q1⟩ => ?_) hs rfl))
  obtain ⟨a, xs, ex, q1⟩ := q1
  subst ex
  cases r1 with
  | cons r rr =>
    cases rr
    cases r
    have fresh2 : ∀ b, b ∈ [s1.heap.objs.size + 1, s1.heap.objs.size] → FpOk X pins H1 b := fun b hb => by
      have e' : b = s1.heap.objs.size + 1 ∨ b = s1.heap.objs.size := by simpa using hb
      have hle : s1.heap.objs.size ≤ b := by
        rcases e' with z | z
        · rw [z]; exact Nat.le_add_right _ _
        · rw [z]; exact Nat.le_refl _
      exact I1.fpOk hle (I1.hok.fresh hle)
    rcases q1 with ⟨hq, q⟩ | ⟨hq, q⟩
    · obtain ⟨its, rv, p', hz⟩ := I1.list hq
      refine call_enumerate_list p'.isList fun h' he hit hsz hk => wpAny_pyIter_enum he ?_
      have I2 : Inv X pins σ H1 { s1 with heap := h' } := I1.kept (t' := s1.toks) hk
      exact ⟨s1.heap.objs.size + 1, [s1.heap.objs.size + 1, s1.heap.objs.size], _, _, H1, rfl, I2, turn_enum a (s1.heap.objs.size + 1) s1.heap.objs.size, ⟨⟨.none, he⟩, hit, Nat.succ_ne_self _⟩, fresh2, q⟩
    · obtain ⟨its, rv, p', hz⟩ := I1.tuple hq
      obtain ⟨o1, ho1, _⟩ := id p'
      have hal : a < s1.heap.objs.size := Heap.lt_size ho1
      refine call_enumerate_tup (show s1.heap.IsTuple a its.toArray from p') fun h' he hit hsz hk => wpAny_pyIter_enum he ?_
      have I2 : Inv X pins σ H1 { s1 with heap := h' } := I1.kept (t' := s1.toks) hk
      exact ⟨s1.heap.objs.size + 1, [s1.heap.objs.size + 1, s1.heap.objs.size], _, _, H1, rfl, I2, turn_enumT a (s1.heap.objs.size + 1) s1.heap.objs.size (Nat.ne_of_lt hal) (Nat.ne_of_lt (Nat.lt_succ_of_lt hal)), ⟨⟨.none, he⟩, hit, Nat.succ_ne_self _⟩, fresh2, q⟩
/-! ### zip of sequences: each a list or a tuple -/
def SqK (K : PySem.W.Frag) (t : Bool) (H : Hp) (a : Addr) (xs : List V) : Prop := if t = true then SqT K H a xs else SqL K H a xs
def ItK (t : Bool) (h : Heap) (it a : Addr) (i : Nat) : Prop := if t = true then h.IsTupleIter it a i else h.IsListIter it a i
theorem ItK.obj {t : Bool} {h : Heap} {it a : Addr} {i : Nat} (z : ItK t h it a i) : ∃ o, h.get? it = some o ∧ ∀ v, o.data ≠ .cell v := by
  unfold ItK at z
  split at z <;> obtain ⟨o, e, _, d⟩ := z <;> exact ⟨o, e, fun v q => by rw [d] at q; cases q⟩
theorem ItK.keep {t : Bool} {h h' : Heap} {it a : Addr} {i : Nat} (z : ItK t h it a i) (k : ∀ o, h.get? it = some o → h'.get? it = some o) : ItK t h' it a i := by
  unfold ItK at z ⊢
  split at z <;> rename_i q
  · rw [if_pos q]; exact z.at k
  · rw [if_neg q]; exact z.at k
section
variable {X : Cx} {pins : List (Addr × Obj)} {σ : L2.St} {H : Hp} {s : Shared}
theorem sq_draws {t : Bool} {a it : Addr} {xs : List V} (I : Inv X pins σ H s) (hc : X.calm = true) (q : SqK X.K t H a xs) (hne : a ≠ it) :
    ∃ its St, Vals xs its ∧ Draws X.prog X.w X.A.in1 it [it, a] its.length (fun i v => its[i]? = some v) St ∧ (∀ i, ItK t s.heap it a i → St i s.heap) ∧ ∀ i h, St i h → ItK t h it a i := by
  unfold SqK at q
  split at q <;> rename_i ht
  · obtain ⟨its, rv, p, hz⟩ := I.tuple q
    have D := Draws.tuple (prog := X.prog) (w := X.w) (A := X.A.in1) (I.ok.hd hc) it a hne its.toArray
    refine ⟨its, (fun i h => h.IsTupleIter it a i ∧ h.IsTuple a its.toArray), rv, ?_, fun i z => ⟨by unfold ItK at z; rw [if_pos ht] at z; exact z, p⟩, fun i h z => by unfold ItK; rw [if_pos ht]; exact z.1⟩
    simpa using D
  · obtain ⟨its, rv, p, hz⟩ := I.list q
    have D := Draws.list (prog := X.prog) (w := X.w) (A := X.A.in1) (I.ok.hd hc) it a hne its.toArray
    refine ⟨its, (fun i h => h.IsListIter it a i ∧ h.IsList a its.toArray), rv, ?_, fun i z => ⟨by unfold ItK at z; rw [if_neg ht] at z; exact z, p.isList⟩, fun i h z => by unfold ItK; rw [if_neg ht]; exact z.1⟩
    simpa using D
theorem sq_inj {t : Bool} {a : Addr} {xs ys : List V} (I : Inv X pins σ H s) (h : SqK X.K t H a xs) (h' : SqK X.K t H a ys) : xs = ys := by
  unfold SqK at h h'
  split at h <;> rename_i q
  · rw [if_pos q] at h'; exact I.tuple_inj h h'
  · rw [if_neg q] at h'; exact I.list_inj h h'
end
def ItzK (K : PySem.W.Frag) (t1 t2 : Bool) (a b : Addr) : It :=
  ⟨fun i H => ∃ (xs ys : List V) (x y : V), SqK K t1 H a xs ∧ SqK K t2 H b ys ∧ xs[i]? = some x ∧ ys[i]? = some y,
    fun i H v H' => ∃ T x y, v = .ref T ∧ H T = none ∧ H' = upd H T (.tup [x, y]) ∧ (∀ xs, SqK K t1 H a xs → xs[i]? = some x) ∧ ∀ ys, SqK K t2 H b ys → ys[i]? = some y,
    fun i H => ∃ xs ys : List V, SqK K t1 H a xs ∧ SqK K t2 H b ys ∧ i ≤ xs.length ∧ i ≤ ys.length ∧ (xs.length = i ∨ ys.length = i)⟩
theorem turn_zipK {P : Program} {w : World} {K : PySem.W.Frag} {elts : List Expr} {kk : Nat} {tpos : Pos} {t1 t2 : Bool} {a b z TI TO i1 i2 : Nat} (ha : a < i1) (hb : b < i1) (o1 : i1 < i2) (o2 : i2 < TI) (o3 : TI < TO) (o4 : TO < z) :
    Turn P w K (.Tuple elts kk tpos) (ItzK K t1 t2 a b) [z, TI, TO, i1, i2] z (fun i h => IsZip h z TI TO .none ∧ IsTupOf2 h TI (.ref i1) (.ref i2) ∧ (∃ x y, IsTupOf2 h TO x y) ∧ ItK t1 h i1 a i ∧ ItK t2 h i2 b i) := by
  have S : ZipSep2 z TI TO i1 i2 [i1, a] [i2, b] := by
    have nm : ∀ {x p q : Nat}, x ≠ p → x ≠ q → x ∉ [p, q] := fun h1 h2 => by simp; exact ⟨h1, h2⟩
    have g1 : TI ≠ z := by omega
    have g2 : TO ≠ z := by omega
    have g3 : TI ≠ TO := by omega
    have g4 : TI ≠ i1 := by omega
    have g5 : TI ≠ i2 := by omega
    have g6 : z ≠ i1 := by omega
    have g7 : z ≠ i2 := by omega
    have g8 : z ≠ a := by omega
    have g9 : z ≠ b := by omega
    have h1 : TO ≠ i1 := by omega
    have h2 : TO ≠ i2 := by omega
    have h3 : TO ≠ a := by omega
    have h4 : TO ≠ b := by omega
    have h5 : i1 ≠ i2 := by omega
    have h6 : i1 ≠ b := by omega
    have h7 : i2 ≠ a := by omega
    exact ⟨g1, g2, g3, g4, by simp, nm g6 g8, nm h1 h3, g5, by simp, nm g7 g9, nm h2 h4, nm h5 h6, nm (Ne.symm h5) h7⟩
  have hai : a ≠ i1 := Nat.ne_of_lt ha
  have hbi : b ≠ i2 := Nat.ne_of_lt (Nat.lt_trans hb o1)
  refine ⟨by simp, fun i h st c hc => ?_, fun i h h' st k => ?_, ?_, ?_, fun A i s Q E st h => wpAny_pyIter_zip st.1 h⟩
  · obtain ⟨hz, hTI, ⟨x, y, hTO⟩, h1, h2⟩ := st
    have e' : c = z ∨ c = TI ∨ c = TO ∨ c = i1 ∨ c = i2 := by simpa using hc
    rcases e' with q | q | q | q | q
    · rw [q]; exact ⟨_, hz, fun v q => nomatch q⟩
    · rw [q]; exact ⟨_, hTI, fun v q => nomatch q⟩
    · rw [q]; exact ⟨_, hTO, fun v q => nomatch q⟩
    · rw [q]; exact h1.obj
    · rw [q]; exact h2.obj
  · obtain ⟨hz, hTI, ⟨x, y, hTO⟩, h1, h2⟩ := st
    exact ⟨k z (by simp) _ hz, k TI (by simp) _ hTI, ⟨x, y, k TO (by simp) _ hTO⟩, h1.keep fun o q => k i1 (by simp) o q, h2.keep fun o q => k i2 (by simp) o q⟩
  · intro X hP hw hK hc i pins s σ H E I hf st hg
    subst hP hw hK
    obtain ⟨hz, hTI, ⟨x0, y0, hTO⟩, h1, h2⟩ := st
    obtain ⟨xs, ys, x, y, hqx, hqy, hx, hy⟩ := hg
    obtain ⟨its, St1, rv, D1, a1, b1⟩ := sq_draws I hc hqx hai
    obtain ⟨its2, St2, rv2, D2, a2, b2⟩ := sq_draws I hc hqy hbi
    obtain ⟨u, hu, ru⟩ := rv.get hx
    obtain ⟨u2, hu2, ru2⟩ := rv2.get hy
    have hzl : z < s.heap.objs.size := Heap.lt_size hz
    refine wpAny_pyNext_zipD2_item S D1 D2 hz hTI hTO (a1 i h1) (a2 i h2) (List.getElem?_eq_some_iff.mp hu).1 (List.getElem?_eq_some_iff.mp hu2).1 fun w1 w2 h' tk e1 e2 z' TO' s1' s2' hT hsz hk => ?_
    have q1 : w1 = u := by rw [hu] at e1; exact (Option.some.inj e1).symm
    have q2 : w2 = u2 := by rw [hu2] at e2; exact (Option.some.inj e2).symm
    subst q1 q2
    have hTlt : TI < s.heap.objs.size := Heap.lt_size hTI
    refine ⟨_, rfl, wpAny_letOwnedTupleGo_zip (s := { s with heap := h', toks := tk }) z' fun h'' z'' sb => ?_⟩
    have hT2 : h''.get? s.heap.objs.size = some { cls := .type "tuple", data := .seq #[w1, w2] } := (sb.2 _ (Nat.ne_of_gt hzl)).trans hT
    have new : ObjOk X.prog X.w (upd H s.heap.objs.size (.tup [x, y])) h'' s.heap.objs.size (.tup [x, y]) :=
      ⟨by show 2 ≤ sizeLine; decide, [w1, w2], .cons ru (.cons ru2 .nil), ⟨_, hT2, rfl, _, rfl⟩⟩
    have I1 : Inv X pins σ (upd H s.heap.objs.size (.tup [x, y])) { s with heap := h'', toks := tk } :=
      I.turnedNew (ch := [z, TI, TO, i1, i2]) (fun c o hb q => (sb.2 c (fun q' => hb (by simp [q']))).trans (hk c o (fun q' => hb (by simp [q'])) (fun q' => hb (by simp [q'])) (fun q' => hb (by simp [q'])) (fun q' => hb (by simp [q'])) q)) hf (Nat.le_refl _) new
    refine ⟨.ref s.heap.objs.size, _, I1, rfl, ⟨_, x, y, rfl, I.hok.fresh (Nat.le_refl _), rfl, fun l hl => by rw [sq_inj I hl hqx]; exact hx, fun l hl => by rw [sq_inj I hl hqy]; exact hy⟩, ⟨z'', ?_, ⟨w1, w2, ?_⟩, ?_, ?_⟩, fun c hcm => ?_⟩
    · exact (sb.2 _ S.TIz).trans (hk _ _ S.TIz S.TITO S.TIi1 S.TIi2 hTI)
    · exact (sb.2 _ S.TOz).trans TO'
    · exact (b1 _ _ s1').keep fun o q => (sb.2 i1 (by show i1 ≠ z; omega)).trans q
    · exact (b2 _ _ s2').keep fun o q => (sb.2 i2 (by show i2 ≠ z; omega)).trans q
    · have hlt : c < s.heap.objs.size := by
        have e' : c = z ∨ c = TI ∨ c = TO ∨ c = i1 ∨ c = i2 := by simpa using hcm
        rcases e' with q | q | q | q | q
        · rw [q]; exact hzl
        · rw [q]; exact Heap.lt_size hTI
        · rw [q]; exact Heap.lt_size hTO
        · rw [q]; exact Nat.lt_trans (Nat.lt_trans o1 o2) hTlt
        · rw [q]; exact Nat.lt_trans o2 hTlt
      rw [upd_ne (Nat.ne_of_lt hlt)]
      exact (hf c hcm).1
  · intro X hP hw hK hc i pins s σ H E I hf st hg
    subst hP hw hK
    obtain ⟨hz, hTI, ⟨x0, y0, hTO⟩, h1, h2⟩ := st
    obtain ⟨xs, ys, hqx, hqy, l1, l2, hend⟩ := hg
    obtain ⟨its, St1, rv, D1, a1, b1⟩ := sq_draws I hc hqx hai
    obtain ⟨its2, St2, rv2, D2, a2, b2⟩ := sq_draws I hc hqy hbi
    have m1 := rv.length
    have m2 := rv2.length
    exact wpAny_pyNext_zipD2_end S D1 D2 hz hTI hTO (a1 i h1) (a2 i h2) (by omega) (by omega) (by omega) fun h' tk hk => ⟨rfl, I.turnedL (t' := tk) (ch := [z, TI, TO, i1, i2]) (fun c o hb q =>
      hk c o (fun q' => hb (by simp [q'])) (fun q' => hb (by simp [q'])) (fun q' => hb (by simp [q'])) (fun q' => hb (by simp [q'])) q) hf⟩
end DL

/-! DlL -/
set_option Elab.async false
set_option linter.all false
set_option maxRecDepth 100000
set_option maxHeartbeats 4000000
namespace DL
open PySem PySem.Spec PyProof.Rows L2
open NdefX (NTab TabsN TabN)
def iZipK (K : PySem.W.Frag) (ta : TA) : TI := fun σ H R => ta σ H fun vs H1 => ∃ (a b : Addr) (t1 t2 : Bool) (xs ys : List V), vs = [.ref a, .ref b] ∧ SqK K t1 H1 a xs ∧ SqK K t2 H1 b ys ∧ R (ItzK K t1 t2 a b) H1
theorem pi_zipK {X : Cx} {e e2 : Expr} {ta : TA} {p pos tpos : Pos} {elts : List Expr} {kk : Nat} (hg : Gl X "zip") (hm : X.mg "zip" = none) (ha : PA X [e, e2] ta)
    (hs : starEach [e, e2] X.env = (false, eval e X.env) :: starEach [e2] X.env := by rfl) (hpl : (backTo pos (starEach [e2] X.env)).any (·.1) = false := by rfl) :
    PI X (.Tuple elts kk tpos) (.Call (.Name "zip" p) [e, e2] [] pos) (iZipK X.K ta) := by
  refine ⟨fun pins s σ H R I h => ?_⟩
  refine Call_ (ld_blt I hg hm PyProof.Rows.boot_zip (PyProof.Rows.callWith_type1 (thn (ha.run pos pins s σ H _ I h) fun us s1 ⟨vs, H1, I1, r1, q1⟩ => ?_) hs hpl))
  obtain ⟨a, b, t1, t2, xs, ys, ex, hqx, hqy, q⟩ := q1
  subst ex
  cases r1 with
  | cons r rr =>
    cases rr with
    | cons r' rr =>
      cases rr
      cases r
      cases r'
      have fresh5 : ∀ c, c ∈ [s1.heap.objs.size + 4, s1.heap.objs.size + 2, s1.heap.objs.size + 3, s1.heap.objs.size, s1.heap.objs.size + 1] → FpOk X pins H1 c := fun c hcm => by
        have e' : c = s1.heap.objs.size + 4 ∨ c = s1.heap.objs.size + 2 ∨ c = s1.heap.objs.size + 3 ∨ c = s1.heap.objs.size ∨ c = s1.heap.objs.size + 1 := by simpa using hcm
        have hle : s1.heap.objs.size ≤ c := by
          rcases e' with z | z | z | z | z
          · rw [z]; exact Nat.le_add_right _ _
          · rw [z]; exact Nat.le_add_right _ _
          · rw [z]; exact Nat.le_add_right _ _
          · rw [z]; exact Nat.le_refl _
          · rw [z]; exact Nat.le_add_right _ _
        exact I1.fpOk hle (I1.hok.fresh hle)
      have go : ∀ (t : Bool) (c : Addr) (zs : List V), SqK X.K t H1 c zs → c < s1.heap.objs.size ∧ ∃ (o : Obj) (HH : Heap → Prop), Begins (.ref c) o HH ∧ HH s1.heap ∧ ∀ (h' : Heap) (it : Addr), h'.get? it = some o → ItK t h' it c 0 := fun t c zs hq => by
        unfold SqK at hq
        split at hq <;> rename_i ht
        · obtain ⟨its, rv, p1, _⟩ := I1.tuple hq
          obtain ⟨o1, ho1, _⟩ := id p1
          refine ⟨Heap.lt_size ho1, _, _, begins_tuple c its.toArray, p1, fun h' it e => ?_⟩
          unfold ItK; rw [if_pos ht]; exact ⟨_, e, rfl, rfl⟩
        · obtain ⟨its, rv, p1, _⟩ := I1.list hq
          refine ⟨p1.lt, _, _, begins_list c its.toArray, p1.isList, fun h' it e => ?_⟩
          unfold ItK; rw [if_neg ht]; exact ⟨_, e, rfl, rfl⟩
      obtain ⟨la, oa, Ha, Ba, ha1, ka⟩ := go t1 a xs hqx
      obtain ⟨lb, ob, Hb, Bb, hb1, kb⟩ := go t2 b ys hqy
      refine zip_begins2 Ba Bb ha1 hb1 fun h' hz hTI hTO h1 h2 hsz hk => wpAny_pyIter_zip hz ?_
      have I2 : Inv X pins σ H1 { s1 with heap := h' } := I1.kept (t' := s1.toks) hk
      exact ⟨s1.heap.objs.size + 4, [s1.heap.objs.size + 4, s1.heap.objs.size + 2, s1.heap.objs.size + 3, s1.heap.objs.size, s1.heap.objs.size + 1], _, _, H1, rfl, I2,
        turn_zipK la lb (Nat.lt_succ_self _) (Nat.lt_succ_self _) (Nat.lt_succ_self _) (Nat.lt_succ_self _), ⟨hz, hTI, ⟨_, _, hTO⟩, ka _ _ h1, kb _ _ h2⟩, fresh5, q⟩
section
variable {X : Cx} {B : Bx} {K : PySem.W.Frag} {δ : List Sl} {σ : L2.St} {md md' : Addr → Md} {H H' : Hp} {E : DE} {e a b c o tg it : Expr} {es : List Expr} {st : Stmt} {sts us : List Stmt} {pos p pt tpos : Pos} {x y z : Str} {elts : List Expr} {kk : Nat}
/-! ### enumerate, zip by data -/
def enumD (ds : List Dat) : List Dat := ds.mapIdx fun i d => .tup [.int (i : Nat), d]
theorem enumD_get {ds : List Dat} {i : Nat} : (enumD ds)[i]? = ds[i]?.map fun d => Dat.tup [.int (i : Nat), d] := by
  unfold enumD; rw [List.getElem?_mapIdx]
theorem enumD_len {ds : List Dat} : (enumD ds).length = ds.length := by unfold enumD; rw [List.length_mapIdx]
theorem Rep.pair {T : Addr} {v w : V} {d d' : Dat} (R : Rep K B md δ σ H) (hT : H T = none) (r : D K B.lt md H v d) (r' : D K B.lt md H w d') :
    Ex md H (upd H T (.tup [v, w])) ∧ TabsN B.T (upd H T (.tup [v, w])) ∧ D K B.lt md (upd H T (.tup [v, w])) (.ref T) (.tup [d, d']) :=
  ⟨ex_new hT, tabs_new R.tabs hT, .tup (R.live.imm hT) upd_same (.cons (r.mono (ex_new hT)) (.cons (r'.mono (ex_new hT)) .nil))⟩
/-- a sequence, however it lies: what stays of it -/
structure SeqD (K : PySem.W.Frag) (B : Bx) (md : Addr → Md) (H : Hp) (kp : List Sl → Prop) (t : Bool) (a : Addr) (ds : List Dat) : Prop where
  at_ : ∀ md' δ σ H', XD md H md' H' → Rep K B md' δ σ H' → kp δ → ∃ xs, SqK K t H' a xs ∧ DA K B.lt md' H' xs ds
theorem seqD_lst {xs : List V} {ds : List Dat} {a : Addr} (hm : md a = .imm) (h : H a = some (.lst xs)) (g : DA K B.lt md H xs ds) : SeqD K B md H kpT false a ds :=
  ⟨fun md' δ σ H' x R _ => ⟨xs, by unfold SqK; rw [if_neg Bool.false_ne_true]; exact SqL.monoX hm h x, DA.monoX x g⟩⟩
theorem seqD_tup {xs : List V} {ds : List Dat} {a : Addr} (h : TupAt K md H a xs) (g : DA K B.lt md H xs ds) : SeqD K B md H kpT true a ds :=
  ⟨fun md' δ σ H' x R _ => ⟨xs, by unfold SqK; rw [if_pos rfl]; exact (h.mono x).sq, DA.monoX x g⟩⟩
theorem seqD_own {ds : List Dat} {a : Addr} {j : Nat} : SeqD K B md H (fun δ => δ[j]? = some (.own a (.lst ds))) false a ds :=
  ⟨fun md' δ σ H' x R k => by
    obtain ⟨_, _, _, _, _, xs, e, g⟩ := R.sl j _ k
    exact ⟨xs, by unfold SqK; rw [if_neg Bool.false_ne_true]; exact SqL.of e, g⟩⟩
/-- list, tuple or an own list -/
def seqL (δ : List Sl) (d : Dat) (Q : List Dat → (List Sl → Prop) → Prop) : Prop := match d with
  | .tup ds => Q ds kpT
  | .lst ds => Q ds kpT
  | .gl p => ∃ (j : Nat) (ds : List Dat), δ[j]? = some (.own p (.lst ds)) ∧ Q ds fun δ' => δ'[j]? = some (.own p (.lst ds))
  | _ => False
theorem seqL.at {d : Dat} {v : V} {Q : List Dat → (List Sl → Prop) → Prop} (h : seqL δ d Q) (R : Rep K B md δ σ H) (r : D K B.lt md H v d) : ∃ (t : Bool) (a : Addr) (ds : List Dat) (kp : List Sl → Prop), v = .ref a ∧ SeqD K B md H kp t a ds ∧ kp δ ∧ Q ds kp := by
  cases d <;> first | exact h.elim | skip
  · obtain ⟨a1, xs, e1, s1, g1⟩ := r.tupA
    exact ⟨_, a1, _, _, e1, seqD_tup s1 g1, trivial, h⟩
  · obtain ⟨a1, xs, e1, s1, m1, g1⟩ := r.atL
    exact ⟨_, a1, _, _, e1, seqD_lst m1 s1 g1, trivial, h⟩
  · obtain ⟨j, ds, eδ, q⟩ := h
    exact ⟨_, _, ds, _, r.glE, seqD_own, eδ, q⟩
theorem SeqD.on {kp : List Sl → Prop} {t : Bool} {a : Addr} {ds : List Dat} (s : SeqD K B md H kp t a ds) (x : XD md H md' H') : SeqD K B md' H' kp t a ds := ⟨fun m d s' h x' R k => s.at_ m d s' h (x.trans x') R k⟩
def Ite2 (K : PySem.W.Frag) (t : Bool) (a : Addr) : It := if t = true then IteT K a else Ite K a
theorem walk_enumD {kp : List Sl → Prop} {t : Bool} {a : Addr} {ds : List Dat} (s : SeqD K B md H kp t a ds) : WalkD K B md H kp (Ite2 K t a) (enumD ds) := by
  cases t with
  | true =>
    have up : ∀ {md' δ σ H'}, XD md H md' H' → Rep K B md' δ σ H' → kp δ → ∃ xs, SqT K H' a xs ∧ DA K B.lt md' H' xs ds := fun {md' δ σ H'} x R k => by
      obtain ⟨xs, q, g⟩ := s.at_ md' δ σ H' x R k
      unfold SqK at q; rw [if_pos rfl] at q
      exact ⟨xs, q, g⟩
    refine ⟨fun i md' δ σ H' hi x R k => ?_, fun md' δ σ H' x R k => ?_, fun i md' δ σ H' v H'' hi x R k y => ?_⟩
    · obtain ⟨xs, q, g⟩ := up x R k
      rw [enumD_len] at hi
      obtain ⟨y, ey, _⟩ := g.get (i := i) (by rw [List.getElem?_eq_getElem hi])
      exact ⟨xs, y, q, ey⟩
    · obtain ⟨xs, q, g⟩ := up x R k
      exact ⟨xs, q, by rw [g.len, enumD_len]⟩
    · obtain ⟨xs, q, g⟩ := up x R k
      obtain ⟨T, w, ev, hT, eH, hx⟩ := y
      subst ev eH
      rw [enumD_len] at hi
      obtain ⟨w2, ey, r⟩ := g.get (i := i) (by rw [List.getElem?_eq_getElem hi])
      have := (hx xs q).symm.trans ey
      cases this
      have z := R.pair hT (.int (i : Nat)) r
      exact ⟨_, by rw [enumD_get, List.getElem?_eq_getElem hi]; rfl, z.1, z.2.1, z.2.2⟩
  | false =>
    have up : ∀ {md' δ σ H'}, XD md H md' H' → Rep K B md' δ σ H' → kp δ → ∃ xs, SqL K H' a xs ∧ DA K B.lt md' H' xs ds := fun {md' δ σ H'} x R k => by
      obtain ⟨xs, q, g⟩ := s.at_ md' δ σ H' x R k
      unfold SqK at q; rw [if_neg Bool.false_ne_true] at q
      exact ⟨xs, q, g⟩
    refine ⟨fun i md' δ σ H' hi x R k => ?_, fun md' δ σ H' x R k => ?_, fun i md' δ σ H' v H'' hi x R k y => ?_⟩
    · obtain ⟨xs, q, g⟩ := up x R k
      rw [enumD_len] at hi
      obtain ⟨y, ey, _⟩ := g.get (i := i) (by rw [List.getElem?_eq_getElem hi])
      exact ⟨xs, y, q, ey⟩
    · obtain ⟨xs, q, g⟩ := up x R k
      exact ⟨xs, q, by rw [g.len, enumD_len]; exact Nat.le_refl _⟩
    · obtain ⟨xs, q, g⟩ := up x R k
      obtain ⟨T, w, ev, hT, eH, hx⟩ := y
      subst ev eH
      rw [enumD_len] at hi
      obtain ⟨w2, ey, r⟩ := g.get (i := i) (by rw [List.getElem?_eq_getElem hi])
      have := (hx xs q).symm.trans ey
      cases this
      have z := R.pair hT (.int (i : Nat)) r
      exact ⟨_, by rw [enumD_get, List.getElem?_eq_getElem hi]; rfl, z.1, z.2.1, z.2.2⟩
theorem i_enum {Q : List Dat → (List Sl → Prop) → Prop} (hm : X.mg "enumerate" = none) (h : WE X B e δ fun d => seqL δ d fun ds kp => Q (enumD ds) kp) (hg : Gl X "enumerate" := by rfl) (hs : starEach [e] X.env = (false, eval e X.env) :: starEach [] X.env := by rfl) : WI X B (.Tuple elts kk tpos) (.Call (.Name "enumerate" p) [e] [] pos) δ Q := fun md σ H Rc R k =>
  PI.can (pi_enumA hg hm (pa_cons pe_can pa_nil hs) hs) (h md σ H _ R fun v H1 d x1 R1 r1 q => by
    obtain ⟨t, a1, ds, kp, ev, s1, hk, q⟩ := q.at R1 r1
    subst ev
    obtain ⟨xs, hq, g⟩ := s1.at_ md δ σ H1 (XD.refl _ _) R1 hk
    have w := walk_enumD s1
    cases t with
    | true =>
      unfold SqK at hq; rw [if_pos rfl] at hq
      exact ⟨a1, xs, rfl, .inr ⟨hq, k (Ite2 X.K true a1) H1 _ _ x1 R1 w q⟩⟩
    | false =>
      unfold SqK at hq; rw [if_neg Bool.false_ne_true] at hq
      exact ⟨a1, xs, rfl, .inl ⟨hq, k (Ite2 X.K false a1) H1 _ _ x1 R1 w q⟩⟩)
def zipD (xs ys : List Dat) : List Dat := List.zipWith (fun a b => Dat.tup [a, b]) xs ys
theorem zipD_get {xs ys : List Dat} {i : Nat} {a b : Dat} (h1 : xs[i]? = some a) (h2 : ys[i]? = some b) : (zipD xs ys)[i]? = some (.tup [a, b]) := by
  unfold zipD; rw [List.getElem?_zipWith, h1, h2]
theorem zipD_len {xs ys : List Dat} : (zipD xs ys).length = min xs.length ys.length := by unfold zipD; rw [List.length_zipWith]
theorem walk_zipD {kp kp' : List Sl → Prop} {t t' : Bool} {a b : Addr} {ds ds' : List Dat} (s : SeqD K B md H kp t a ds) (s' : SeqD K B md H kp' t' b ds') : WalkD K B md H (fun δ => kp δ ∧ kp' δ) (ItzK K t t' a b) (zipD ds ds') := by
  refine ⟨fun i md' δ σ H' hi x R k => ?_, fun md' δ σ H' x R k => ?_, fun i md' δ σ H' v H'' hi x R k y => ?_⟩
  · obtain ⟨xs, q, g⟩ := s.at_ md' δ σ H' x R k.1
    obtain ⟨ys, q', g'⟩ := s'.at_ md' δ σ H' x R k.2
    rw [zipD_len] at hi
    obtain ⟨y1, ey1, _⟩ := g.get (i := i) (by rw [List.getElem?_eq_getElem (by omega)])
    obtain ⟨y2, ey2, _⟩ := g'.get (i := i) (by rw [List.getElem?_eq_getElem (by omega)])
    exact ⟨xs, ys, y1, y2, q, q', ey1, ey2⟩
  · obtain ⟨xs, q, g⟩ := s.at_ md' δ σ H' x R k.1
    obtain ⟨ys, q', g'⟩ := s'.at_ md' δ σ H' x R k.2
    have l1 := g.len
    have l2 := g'.len
    refine ⟨xs, ys, q, q', ?_⟩
    rw [zipD_len]
    omega
  · obtain ⟨xs, q, g⟩ := s.at_ md' δ σ H' x R k.1
    obtain ⟨ys, q', g'⟩ := s'.at_ md' δ σ H' x R k.2
    obtain ⟨T, w1, w2, ev, hT, eH, hx, hy⟩ := y
    subst ev eH
    rw [zipD_len] at hi
    obtain ⟨y1, ey1, r1⟩ := g.get (i := i) (by rw [List.getElem?_eq_getElem (by omega)])
    obtain ⟨y2, ey2, r2⟩ := g'.get (i := i) (by rw [List.getElem?_eq_getElem (by omega)])
    have := (hx xs q).symm.trans ey1
    cases this
    have := (hy ys q').symm.trans ey2
    cases this
    have z := R.pair hT r1 r2
    exact ⟨_, zipD_get (by rw [List.getElem?_eq_getElem (by omega)]) (by rw [List.getElem?_eq_getElem (by omega)]), z.1, z.2.1, z.2.2⟩
theorem i_zip {Q : List Dat → (List Sl → Prop) → Prop} (hm : X.mg "zip" = none) (h : WE X B a δ fun d => WE X B b δ fun d' => seqL δ d fun ds kp => seqL δ d' fun ds' kp' => Q (zipD ds ds') fun δ => kp δ ∧ kp' δ) (hg : Gl X "zip" := by rfl) (hs : starEach [a, b] X.env = (false, eval a X.env) :: starEach [b] X.env := by rfl) (hs2 : starEach [b] X.env = (false, eval b X.env) :: starEach [] X.env := by rfl) (hpl : (backTo pos (starEach [b] X.env)).any (·.1) = false := by rfl) :
    WI X B (.Tuple elts kk tpos) (.Call (.Name "zip" p) [a, b] [] pos) δ Q := fun md σ H Rc R k =>
  PI.can (pi_zipK hg hm (pa_cons pe_can (pa_cons pe_can pa_nil hs2) hs) hs hpl) (h md σ H _ R fun v H1 d x1 R1 r1 hb => hb md σ H1 _ R1 fun w H2 d' x2 R2 r2 q => by
    obtain ⟨t, a1, ds, kp, ev, s1, hk, q⟩ := q.at R2 (r1.mono x2)
    obtain ⟨t', a2, ds', kp', ev', s2, hk', q⟩ := q.at R2 r2
    subst ev ev'
    obtain ⟨xs, hq, g⟩ := s1.at_ md δ σ H2 (XD.refl _ _) R2 hk
    obtain ⟨ys, hq', g'⟩ := s2.at_ md δ σ H2 (XD.refl _ _) R2 hk'
    exact ⟨a1, a2, t, t', xs, ys, rfl, hq, hq', k _ H2 _ _ (x1.trans x2) R2 (walk_zipD s1 s2) q⟩)
end
end DL

/-! DlM -/
set_option Elab.async false
set_option linter.all false
set_option maxRecDepth 100000
set_option maxHeartbeats 4000000
namespace DL
open PySem PySem.Spec PyProof.Rows L2
open NdefX (NTab TabsN TabN)
/-! ### list comprehensions by data -/
def tCanP (X : Cx) (ifs : List Expr) : TT := fun σ H Q => ∀ (pins : List (Addr × Obj)) (s : Shared), Inv X pins σ H s →
  wpAny (model X.prog X.w) X.A (forIn ifs true fun c r => if r = true then do let ok ← isTrue c X.env (eval c X.env); pure (ForInStep.yield ok) else pure (ForInStep.yield r)) (TP X pins σ Q) X.xe s
/-- in every block of that scope -/
def InBlk (X : Cx) (sc : Scope) (P : Cx → Prop) : Prop := ∀ (s : Shared) (H : Hp) (C : Addr) (cl : List (Str × Addr)) (fp : List Addr), P (X.blk s H sc (compEnvC sc cl C X.env) fp)
section
variable {X : Cx} {B : Bx} {K : PySem.W.Frag} {δ : List Sl} {σ : L2.St} {md md' : Addr → Md} {H H' : Hp} {E : DE} {Q : Dat → Prop} {e a b c o tg it elt : Expr} {es ifs : List Expr} {st : Stmt} {sts us : List Stmt} {pos p pt tpos spos : Pos} {x y z : Str} {sc : Scope} {own : List (Str × Nat)}
theorem pts_can : PTs X ifs (tCanP X ifs) := ⟨fun pins s _ _ _ I h => h pins s I⟩
theorem PTs.can {t : TT} (h : PTs X ifs t) {Q : Bool → Hp → Prop} (q : t σ H Q) : tCanP X ifs σ H Q := fun pins s I => h.run pins s σ H Q I q
def WTs (X : Cx) (B : Bx) (ifs : List Expr) (δ : List Sl) (Q : Bool → Prop) : Prop :=
  ∀ md σ H (Qc : Bool → Hp → Prop), Rep X.K B md δ σ H → (∀ k H', Ex md H H' → Rep X.K B md δ σ H' → Q k → Qc k H') → tCanP X ifs σ H Qc
theorem ts_nil {Q : Bool → Prop} (h : Q true) : WTs X B [] δ Q := fun md σ H Qc R k => PTs.can pts_nil (k true H (Ex.refl md H) R h)
theorem ts_one {Q : Bool → Prop} (h : WT X B c δ Q) : WTs X B [c] δ Q := fun md σ H Qc R k => PTs.can (pts_one pt_can) (h md σ H Qc R k)
theorem wipe_idem {vs : List Nat} : ∀ {ws : List Nat}, (∀ i ∈ ws, i ∈ vs) → wipe (wipe σ ws) vs = wipe σ vs
  | [], _ => rfl
  | w :: ws, h => by
    show wipe ((wipe σ ws).set w none) vs = _
    rw [wipe_set (h w (by simp))]
    exact wipe_idem fun i hi => h i (List.mem_cons_of_mem _ hi)
theorem wipeD_own {j : Nat} {q : Addr} {y : Dat} : ∀ {vs : List Nat}, (wipeD δ vs)[j]? = some (.own q y) → δ[j]? = some (.own q y)
  | [], h => h
  | v :: vs, h => by
    rcases get_set h with ⟨_, z, _⟩ | ⟨_, h⟩
    · cases z
    · exact wipeD_own h
/-- the step of a comprehension -/
def LcStep (X : Cx) (B : Bx) (sc : Scope) (own : List (Str × Nat)) (tg elt : Expr) (ifs : List Expr) (is : List Nat) (δ : List Sl) (d : Dat) (Y : Dat → Prop) (N : Prop) : Prop :=
  InBlk X sc fun Z => WN Z B tg d (wipeD δ (own.map (·.2))) is fun δ2 => InBlk X sc fun Z => WTs Z B ifs δ2 fun b => if b = true then InBlk X sc fun Z => WE Z B elt δ2 Y else N
def LcQ (X : Cx) (B : Bx) (sc : Scope) (own : List (Str × Nat)) (tg elt : Expr) (ifs : List Expr) (is : List Nat) (δ : List Sl) (Q : List Dat → Prop) : List Dat → (List Sl → Prop) → Prop := fun ds kp =>
  ds.length ≤ 100000 ∧ kp (wipeD δ (own.map (·.2))) ∧ ∃ Rl : Nat → List Dat → Prop, Rl 0 [] ∧ (∀ i d acc, ds[i]? = some d → Rl i acc → LcStep X B sc own tg elt ifs is δ d (fun y => Rl (i + 1) (acc ++ [y])) (Rl (i + 1) acc)) ∧ ∀ acc, Rl ds.length acc → Q acc
def gBlk (X : Cx) (sc : Scope) (tg : Expr) : TG := fun v σ H Q => ∀ (s : Shared) (H0 : Hp) (C : Addr) (cl : List (Str × Addr)) (fp : List Addr), tCanG (X.blk s H0 sc (compEnvC sc cl C X.env) fp) tg v σ H Q
def pBlk (X : Cx) (sc : Scope) (ifs : List Expr) : TT := fun σ H Q => ∀ (s : Shared) (H0 : Hp) (C : Addr) (cl : List (Str × Addr)) (fp : List Addr), tCanP (X.blk s H0 sc (compEnvC sc cl C X.env) fp) ifs σ H Q
def eBlk (X : Cx) (sc : Scope) (e : Expr) : TE := fun σ H Q => ∀ (s : Shared) (H0 : Hp) (C : Addr) (cl : List (Str × Addr)) (fp : List Addr), tCan (X.blk s H0 sc (compEnvC sc cl C X.env) fp) e σ H Q
theorem pg_blk (s : Shared) (H0 : Hp) (C : Addr) (cl : List (Str × Addr)) (fp : List Addr) : PG (X.blk s H0 sc (compEnvC sc cl C X.env) fp) tg (gBlk X sc tg) := ⟨fun pins s' _ _ _ u _ I r h => h s H0 C cl fp pins s' u I r⟩
theorem pts_blk (s : Shared) (H0 : Hp) (C : Addr) (cl : List (Str × Addr)) (fp : List Addr) : PTs (X.blk s H0 sc (compEnvC sc cl C X.env) fp) ifs (pBlk X sc ifs) := ⟨fun pins s' _ _ _ I h => h s H0 C cl fp pins s' I⟩
theorem pe_blk (s : Shared) (H0 : Hp) (C : Addr) (cl : List (Str × Addr)) (fp : List Addr) : PE (X.blk s H0 sc (compEnvC sc cl C X.env) fp) e (eBlk X sc e) := ⟨fun pins s' _ _ _ I h => h s H0 C cl fp pins s' I⟩
theorem ex_acc {D : Addr} {H1 H4 : Hp} {o : HO} (hD : H1 D = none) (x : Ex md H1 H) (x2 : Ex (mdSet md D .own) H H4) : Ex md H1 (upd H4 D o) := by
  refine ⟨fun a u q e n => ?_, fun a q w => ?_, fun a e => ?_⟩
  · have ne := ne_of_none e hD
    rw [upd_ne ne]
    exact x2.keep a u (by rw [mdSet_ne ne]; exact q) (x.keep a u q e n) n
  · obtain ⟨_, _, _, e, _⟩ := id w
    have ne := ne_of_none e hD
    obtain ⟨x', y', z', e', r'⟩ := x2.well a (by rw [mdSet_ne ne]; exact q) (x.well a q w)
    exact ⟨x', y', z', by rw [upd_ne ne]; exact e', r'⟩
  · by_cases q : a = D
    · rw [q]; exact hD
    · rw [upd_ne q] at e; exact x.dom a (x2.dom a e)
theorem xd_back {D : Addr} {H1 : Hp} (hi : md D = .imm) : XD (mdSet md D .own) H1 md H1 :=
  ⟨fun a u q e n => ⟨by
    by_cases z : a = D
    · rw [z, mdSet_same] at q; cases q
    · rw [mdSet_ne z] at q; exact q, e⟩, fun a q w => ⟨by
    by_cases z : a = D
    · rw [z, mdSet_same] at q; cases q
    · rw [mdSet_ne z] at q; exact q, w⟩⟩
/-- the reading of a comprehension: Qc at the new list -/
theorem lc_read {is : List Nat} (his : ∀ i ∈ is, i ∈ own.map (·.2)) {Ql : List Dat → Prop} (h : WI X B tg it δ (LcQ X B sc own tg elt ifs is δ Ql)) {Qc : VK} (R : Rep X.K B md δ σ H)
    (k : ∀ D H' acc accV, H D = none → Ex md H H' → Rep X.K B (mdSet md D .own) δ σ H' → TabsN B.T H' → H' D = some (.lst accV) → DA X.K B.lt (mdSet md D .own) H' accV acc → Ql acc → Qc (.ref D) H') :
    tLc (tCanI X tg it) (gBlk X sc tg) (pBlk X sc ifs) (eBlk X sc elt) (own.map (·.2)) σ H Qc := by
  refine h md σ H _ R fun J H1 ds kp x1 R1 w ⟨hlen, hkp, Rl, r0, step, done⟩ D hD => ?_
  have hmi := R1.live.imm hD
  refine lc_it (n := ds.length) (G := fun H' => Rep X.K B (mdSet md D .own) δ σ H' ∧ XD md H1 (mdSet md D .own) H') (Y := J.yld)
    ⟨fun i H' hi ⟨R', x'⟩ => w.goes i _ _ _ H' hi x' (R'.wiped (own.map (·.2))) hkp, fun H' ⟨R', x'⟩ => w.stops _ _ _ H' x' (R'.wiped (own.map (·.2))) hkp, fun i H' v H'' hi _ y => y⟩
    (fun i H' => Rep X.K B (mdSet md D .own) δ σ H' ∧ Ex md H1 H' ∧ ∃ accV acc, H' D = some (.lst accV) ∧ DA X.K B.lt (mdSet md D .own) H' accV acc ∧ acc.length ≤ i ∧ Rl i acc)
    ⟨R1.mkOwn hD nt_lst, ex_new hD, [], [], upd_same, .nil, Nat.le_refl _, r0⟩ (fun i H' hi ⟨R', x', _⟩ => ⟨R', xd_fresh hD x'⟩) ?_ ?_
  · rintro i v H2 H3 hi ⟨R2, x2, accV, acc, eD, g, hl, rl⟩ y
    obtain ⟨d, ed, xe, tb, r⟩ := w.yld i _ _ _ H2 v H3 hi (xd_fresh hD x2) (R2.wiped (own.map (·.2))) hkp y
    have R3 := R2.grow xe tb
    intro s5 H5 C5 cl5 fp5
    refine step i d acc ed rl s5 H5 C5 cl5 fp5 _ _ H3 v _ (R3.wiped (own.map (·.2))) r fun δ2 σ2 hw R4 q => ⟨?_, ?_⟩
    · rw [hw _ his]; exact wipe_idem fun i hi => hi
    · intro s6 H6 C6 cl6 fp6
      refine q s6 H6 C6 cl6 fp6 _ σ2 H3 _ R4 fun b H4 x4 R5 q2 => ?_
      cases b with
      | true =>
        rw [if_pos rfl] at q2 ⊢
        intro s7 H7 C7 cl7 fp7
        refine q2 s7 H7 C7 cl7 fp7 _ σ2 H4 _ R5 fun u H8 d8 x8 R8 r8 q8 => ?_
        have xx := xe.trans (x4.trans x8)
        have eD8 : H8 D = some (.lst accV) := xx.keep D _ (by rw [mdSet_same]; exact fun z => by cases z) eD nt_lst
        refine ⟨accV, eD8, ?_, ?_, ex_acc hD x2 xx, accV ++ [u], acc ++ [d8], upd_same, ?_, by rw [List.length_append, List.length_singleton]; omega, q8⟩
        · rw [g.len]; exact sz_lt (by omega)
        · exact (R2.grow xx R8.tabs).mutate mdSet_same (R1.fresh0 hD) eD8 trivial nt_lst (R1.notIn hD)
        · exact DA.monoX (xd_mut mdSet_same) ((DA.mono xx g).app (.cons r8 .nil))
      | false =>
        rw [if_neg Bool.false_ne_true] at q2 ⊢
        have xx := xe.trans x4
        have eD8 : H4 D = some (.lst accV) := xx.keep D _ (by rw [mdSet_same]; exact fun z => by cases z) eD nt_lst
        have xm : Ex md H1 H4 := by
          have z := ex_acc (o := .lst accV) hD x2 xx
          have e : upd H4 D (.lst accV) = H4 := by
            funext a
            by_cases q : a = D
            · rw [q, upd_same, eD8]
            · rw [upd_ne q]
          rw [e] at z; exact z
        exact ⟨R2.grow xx R5.tabs, xm, accV, acc, eD8, DA.mono xx g, by omega, q2⟩
  · rintro H2 ⟨R2, x2, accV, acc, eD, g, hl, rl⟩
    exact k D H2 acc accV (x1.dom D hD) (x1.trans x2) R2 R2.tabs eD g (done acc rl)
theorem lc_data {D : Addr} {acc : List Dat} {accV : List V} (R : Rep K B md δ σ H) (hD : H D = none) (x : Ex md H H') (R' : Rep K B (mdSet md D .own) δ σ H') (eD : H' D = some (.lst accV)) (g : DA K B.lt (mdSet md D .own) H' accV acc) :
    Rep K B md δ σ H' ∧ DL.D K B.lt md H' (.ref D) (.lst acc) :=
  ⟨R.grow x R'.tabs, .lst (R.live.imm hD) eD (DA.monoX (xd_back (R.live.imm hD)) g)⟩
theorem d_lc {is : List Nat} (hc : X.calm = true) (hN : X.N.Nodup) (ok : blkC X.N X.env.scope sc own = true) (h : WI X B tg it δ (LcQ X B sc own tg elt ifs is δ fun l => Q (.lst l)))
    (his : ∀ i ∈ is, i ∈ own.map (·.2) := by decide) (hs : ∀ x, foldedSetIterable it X.env x = pure x := by intro _; rfl) : WE X B (.ListComp elt [⟨tg, it, ifs, 0⟩] sc pos) δ Q := fun md σ H Qc R k =>
  PE.can (pe_lc hc hN pi_can (blkOk_by ok) pg_blk pts_blk pe_blk hs) (lc_read his h R fun D H' acc accV hD x R' tb eD g q => let z := lc_data R hD x R' eD g; k _ H' _ x z.1 z.2 q)
theorem f_lc {is : List Nat} (hc : X.calm = true) (hN : X.N.Nodup) (ok : blkC X.N X.env.scope sc own = true) (h : WI X B tg it δ (LcQ X B sc own tg elt ifs is δ fun l => Q (.lst l)))
    (his : ∀ i ∈ is, i ∈ own.map (·.2) := by decide) (hs : ∀ x, foldedSetIterable it X.env x = pure x := by intro _; rfl) : WF X B (.ListComp elt [⟨tg, it, ifs, 0⟩] sc pos) δ Q := fun md σ H Qc R k =>
  PE.can (pe_lc hc hN pi_can (blkOk_by ok) pg_blk pts_blk pe_blk hs) (lc_read his h R fun D H' acc accV hD x R' tb eD g q => k D H' (.lst acc) hD x R' ⟨accV, eD, g⟩ q)
/-- name = [..] on one line -/
theorem s_setLc (i : Nat) {py : Pos} {is : List Nat} (hc : X.calm = true) (hN : X.N.Nodup) (ok : blkC X.N X.env.scope sc own = true) (h : WI X B tg it δ (LcQ X B sc own tg elt ifs is δ fun l => E.nx (δ.set i (.d (.lst l)))))
    (hy : X.N[i]? = some y := by rfl) (hyl : X.env.scope.names.lookup y = some .local := by rfl) (hsw : swapsWith (.ListComp elt [⟨tg, it, ifs, 0⟩] sc pos) (some (.Name y py)) spos.line X.env = pure true := by rfl)
    (his : ∀ i ∈ is, i ∈ own.map (·.2) := by decide) (hs : ∀ x, foldedSetIterable it X.env x = pure x := by intro _; rfl) : WS X B (.Assign [.Name y py] (.ListComp elt [⟨tg, it, ifs, 0⟩] sc pos) spos) δ E := fun md σ H D R F =>
  PS.can (ps_setLc hc hN hy hyl hsw pi_can (blkOk_by ok) pg_blk pts_blk pe_blk hs) (lc_read his h R fun L H' acc accV hD x R' tb eD g q => let z := lc_data R hD x R' eD g; F.nx md _ _ H' x.xd (z.1.set i z.2) q)
theorem s_setLcF (i : Nat) {py : Pos} {is : List Nat} (hc : X.calm = true) (hN : X.N.Nodup) (ok : blkC X.N X.env.scope sc own = true) (h : WI X B tg it δ (LcQ X B sc own tg elt ifs is δ fun l => ∀ p, E.nx (δ.set i (.own p (.lst l)))))
    (hy : X.N[i]? = some y := by rfl) (hyl : X.env.scope.names.lookup y = some .local := by rfl) (hsw : swapsWith (.ListComp elt [⟨tg, it, ifs, 0⟩] sc pos) (some (.Name y py)) spos.line X.env = pure true := by rfl)
    (his : ∀ i ∈ is, i ∈ own.map (·.2) := by decide) (hs : ∀ x, foldedSetIterable it X.env x = pure x := by intro _; rfl) : WS X B (.Assign [.Name y py] (.ListComp elt [⟨tg, it, ifs, 0⟩] sc pos) spos) δ E := fun md σ H D R F =>
  PS.can (ps_setLc hc hN hy hyl hsw pi_can (blkOk_by ok) pg_blk pts_blk pe_blk hs) (lc_read his h R fun L H' acc accV hD x R' tb eD g q => F.nx _ _ _ H' (xd_fresh hD x) (R'.setOwn (x := .lst acc) i mdSet_same (R.fresh0 hD) ⟨accV, eD, g⟩ (R.notIn hD)) (q L))
end
end DL

/-! DlN -/
set_option Elab.async false
set_option linter.all false
set_option maxRecDepth 100000
set_option maxHeartbeats 4000000
namespace DL
open PySem PySem.Spec PyProof.Rows L2
open NdefX (NTab TabsN TabN)
/-! ### what a def keeps, by data -/
structure Wd where
  P : Program
  w : World
  K : PySem.W.Frag
  mg : Str → Option Value
  base : Heap
  lt : Nat → LT
  T : List NTab
/-- of these arguments the result is such -/
abbrev Sc := List Dat → (Dat → Prop) → Prop
def Sc.sp (S : Sc) (K : PySem.W.Frag) (lt : Nat → LT) (T : List NTab) : Sp := fun vs H Q _ => ∃ md ds Qd, TabsN T H ∧ Live md H ∧ DA K lt md H vs ds ∧ S ds Qd ∧ ∀ v H' d, TabsN T H' → Ex md H H' → D K lt md H' v d → Qd d → Q v H'
abbrev cxD (W : Wd) (N : List Str) (qual : Str) (sc : Scope) (f : Addr) (cdv : Value) (A : Around) (outer : List Env) (s : Shared) (H : Hp) (E : XK) : Cx := (cxOf C8.CX0 W.P W.w W.K W.mg W.base N qual sc f cdv A outer s H E).nox
def enterD (n : Nat) (ds : List Dat) : List Sl := ds.map .d ++ List.replicate (n - ds.length) .no
abbrev bxD (W : Wd) (md0 : Addr → Md) (H0 : Hp) : Bx := ⟨W.lt, W.T, md0, H0⟩
section
variable {K : PySem.W.Frag} {B : Bx} {md : Addr → Md} {H : Hp}
theorem Rep.enter {N : List Str} {vs : List V} {ds : List Dat} (t : TabsN B.T B.H0) (l : Live B.md0 B.H0) (g : DA K B.lt B.md0 B.H0 vs ds) : Rep K B B.md0 (enterD N.length ds) (L2.start N vs) B.H0 where
  tabs := t
  live0 := l
  live := l
  ext := Ex.refl _ _
  sub := fun _ _ _ => rfl
  nw := fun _ h => h
  len := by unfold enterD L2.start; simp [g.len]
  sl := fun i s h => by
    unfold enterD at h
    unfold L2.start
    by_cases hi : i < ds.length
    · rw [List.getElem?_append_left (by simpa using hi), List.getElem?_map] at h
      rw [List.getElem?_append_left (by rw [List.length_map, g.len]; exact hi), List.getElem?_map]
      cases e : ds[i]? with
      | none => rw [e] at h; cases h
      | some d =>
        rw [e] at h
        cases h
        obtain ⟨y, ey, r⟩ := g.get e
        rw [ey]
        exact ⟨_, rfl, y, rfl, r⟩
    · rw [List.getElem?_append_right (by simpa using hi)] at h
      rw [List.getElem?_append_right (by rw [List.length_map, g.len]; omega), List.length_map, g.len]
      rw [List.length_map] at h
      obtain ⟨e1, e2⟩ := List.getElem?_eq_some_iff.mp h
      rw [List.getElem_replicate] at e2
      subst e2
      rw [List.length_replicate] at e1
      exact ⟨none, by rw [List.getElem?_replicate, if_pos e1], trivial⟩
  inj := fun i j p x y h1 _ => by
    exfalso
    unfold enterD at h1
    have := List.mem_of_getElem? h1
    simp at this
theorem Rep.back {δ : List Sl} {σ : L2.St} (R : Rep K B md δ σ H) : XD md H B.md0 H :=
  ⟨fun a o q e n => ⟨by
    cases h : B.H0 a with
    | none => exact R.live0.imm h
    | some o' => rw [← R.sub a o' h]; exact q, e⟩, fun a q w => ⟨R.nw a q, w⟩⟩
end
theorem def_ok {W : Wd} {x qual : Str} {params : Arguments} {body : List Stmt} {sc : Scope} {dvs : List V} {kws : List (Str × V)} {f : Addr} {fd : FuncData} {N ps : List Str} {k : Nat} {S : Sc}
    (F : FunD W.K x qual params body sc dvs kws f fd) (C : C8.scC N ps sc = true) (hl : ∀ ds Q, S ds Q → ds.length = ps.length)
    (hb : ∀ (cdv : Value) (A : Around) (outer : List Env) (s : Shared) (H : Hp) (E : XK) (md0 : Addr → Md) (ds : List Dat) (Q : Dat → Prop), Room k (cxD W N qual sc f cdv A outer s H E).A → S ds Q →
      WSs (cxD W N qual sc f cdv A outer s H E) (bxD W md0 H) body (enterD N.length ds) { nx := fun _ => Q .non, rt := Q }) : FnOk W.P W.w W.K W.mg W.base C8.CX0 (k + 1) f fd ps (S.sp W.K W.lt W.T) := by
  refine F.ok (C8.fnScope_by C) (fun vs H Q E ⟨md, ds, Qd, _, _, g, s, _⟩ => by rw [g.len]; exact hl ds Qd s) fun cdv A outer s H vs Q E hr ⟨md, ds, Qd, t, l, g, hs, kk⟩ => ?_
  refine ⟨_, pss_can.nox, hb cdv A outer s H E md ds Qd hr hs md (L2.start N vs) H _ (Rep.enter (K := W.K) (B := bxD W md H) t l g) ?_⟩
  refine ⟨fun md' δ' σ' H' x R q => kk .non H' .non R.tabs R.ext .non q, fun _ _ _ _ _ _ z => z.elim, fun _ _ _ _ _ _ z => z.elim, fun md' δ' σ' H' v d x R r q => kk v H' d R.tabs R.ext (DL.D.monoX R.back r) q⟩
/-- a def that may be called by its name, with these defaults behind -/
structure CalD (W : Wd) (k : Nat) (x : Str) (S : Sc) (dd : List Dat) : Prop where
  ex : ∃ (f : Addr) (fd : FuncData) (ps : List Str) (ds : List Value) (dvs : List V), FnOk W.P W.w W.K W.mg W.base C8.CX0 k f fd ps (S.sp W.K W.lt W.T) ∧ W.mg x = some (.ref f) ∧ PySem.W.keepIn W.K (.ref f) = true ∧ Binds W.K fd ps ds ∧ Vals dvs ds ∧ ∀ md H, DA W.K W.lt md H dvs dd
/-- .. with keywords ks behind n values -/
structure CalK (W : Wd) (k : Nat) (x : Str) (S : Sc) (n : Nat) (ks : List Str) (gD : List Dat → List Dat → List Dat) : Prop where
  ex : ∃ (f : Addr) (fd : FuncData) (ps : List Str) (g : List Value → List Value → List Value) (gV : List V → List V → List V), FnOk W.P W.w W.K W.mg W.base C8.CX0 k f fd ps (S.sp W.K W.lt W.T) ∧ W.mg x = some (.ref f) ∧ PySem.W.keepIn W.K (.ref f) = true ∧ KBn W.K fd ps n ks g gV ∧
    ∀ md H vs zs ds es, DA W.K W.lt md H vs ds → DA W.K W.lt md H zs es → DA W.K W.lt md H (gV vs zs) (gD ds es)
/-- a method -/
structure MetD (W : Wd) (k : Nat) (C : Addr) (m : Str) (S : Sc) : Prop where
  ex : ∃ (f : Addr) (fd : FuncData) (ps : List Str), Cls W.K C ∧ Meth W.K C m f ∧ FnOk W.P W.w W.K W.mg W.base C8.CX0 k f fd ps (S.sp W.K W.lt W.T) ∧ Binds W.K fd ps []
/-- an __init__: of these arguments the new instance's fields are such -/
abbrev Si := List Dat → (List (Str × Dat) → Prop) → Prop
def Si.sp (S : Si) (K : PySem.W.Frag) (lt : Nat → LT) (T : List NTab) (C : Addr) : Sp := fun vs H' Q _ => ∃ md H p dx vs' ds Qf, vs = .ref p :: vs' ∧ H' = upd (upd H dx (.own p)) p (.ins C dx []) ∧ H p = none ∧ H dx = none ∧ dx ≠ p ∧ TabsN T H ∧ Live md H ∧ DA K lt md H vs' ds ∧ S ds Qf ∧
  ∀ H2 fs, TabsN T H2 → Ex md H H2 → D K lt md H2 (.ref p) (.ins C fs) → Qf fs → Q .non H2
theorem init_ok {W : Wd} {x qual : Str} {params : Arguments} {body : List Stmt} {sc : Scope} {dvs : List V} {kws : List (Str × V)} {f C : Addr} {fd : FuncData} {N ps : List Str} {k : Nat} {S : Si}
    (F : FunD W.K x qual params body sc dvs kws f fd) (hsc : C8.scC N ps sc = true) (hl : ∀ ds Q, S ds Q → ds.length + 1 = ps.length) (hN : 0 < N.length)
    (hb : ∀ (cdv : Value) (A : Around) (outer : List Env) (s : Shared) (H H' : Hp) (E : XK) (md0 : Addr → Md) (p : Addr) (ds : List Dat) (Q : List (Str × Dat) → Prop), Room k (cxD W N qual sc f cdv A outer s H' E).A → S ds Q →
      WSs (cxD W N qual sc f cdv A outer s H' E) (bxD W md0 H) body ((enterD N.length (.gl p :: ds)).set 0 (.own p (.ins C []))) { nx := fun δ => ∃ fs, δ[0]? = some (.own p (.ins C fs)) ∧ Q fs, rt := fun _ => False }) : FnOk W.P W.w W.K W.mg W.base C8.CX0 (k + 1) f fd ps (S.sp W.K W.lt W.T C) := by
  refine F.ok (C8.fnScope_by hsc) (fun vs H Q E ⟨md, H0, p, dx, vs', ds, Qf, ev, _, _, _, _, _, _, g, s, _⟩ => by rw [ev, List.length_cons, g.len]; exact hl ds Qf s) fun cdv A outer s H' vs Q E hr ⟨md, H, p, dx, vs', ds, Qf, ev, eH, hp, hdx, hne, t, l, g, hs, kk⟩ => ?_
  subst ev
  have R0 : Rep W.K (bxD W md H) md (enterD N.length (.gl p :: ds)) (L2.start N (.ref p :: vs')) H := Rep.enter (K := W.K) (B := bxD W md H) t l (.cons (.gl p) g)
  have R1 := R0.new (o := .own p) hdx
  have hp1 : (upd H dx (.own p)) p = none := by rw [upd_ne (Ne.symm hne)]; exact hp
  have R2 := R1.mkOwn (o := .ins C dx []) hp1 nt_ins
  have R3 := R2.setOwn (x := .ins C []) 0 mdSet_same hp ⟨dx, [], upd_same, .nil⟩ (R1.notIn hp1)
  have es : (L2.start N (.ref p :: vs')).set 0 (some (.ref p)) = L2.start N (.ref p :: vs') := set_self (by unfold L2.start; rfl)
  rw [es, ← eH] at R3
  refine ⟨_, pss_can.nox, hb cdv A outer s H H' E md p ds Qf hr hs _ (L2.start N (.ref p :: vs')) H' _ R3 ?_⟩
  refine ⟨fun md' δ' σ' H2 x R ⟨fs, e, q⟩ => ?_, fun _ _ _ _ _ _ z => z.elim, fun _ _ _ _ _ _ z => z.elim, fun md' δ' σ' H' v d x R r q => q.elim⟩
  obtain ⟨x1, R4⟩ := R.freeze e
  obtain ⟨o, e1, v, e2, r⟩ := R4.sl 0 (.d (.ins C fs)) (List.getElem?_set_self (List.getElem?_eq_some_iff.mp e).1)
  obtain ⟨o', e1', e2', _⟩ := R.sl 0 _ e
  rw [e1'] at e1
  cases e1
  rw [e2] at e2'
  cases e2'
  exact kk H2 fs R4.tabs R4.ext (DL.D.monoX R4.back r) q
/-- a class that may be made by its name -/
structure MakD (W : Wd) (k : Nat) (x : Str) (C : Addr) (S : Si) : Prop where
  ex : ∃ (f : Addr) (fd : FuncData) (ps : List Str), Mk W.K C f ∧ FnOk W.P W.w W.K W.mg W.base C8.CX0 k f fd ps (S.sp W.K W.lt W.T C) ∧ W.mg x = some (.ref C) ∧ Binds W.K fd ps []
structure MakK (W : Wd) (k : Nat) (x : Str) (C : Addr) (S : Si) (n : Nat) (ks : List Str) (gD : List Dat → List Dat → List Dat) : Prop where
  ex : ∃ (f : Addr) (fd : FuncData) (ps : List Str) (g : List Value → List Value → List Value) (gV : List V → List V → List V), Mk W.K C f ∧ FnOk W.P W.w W.K W.mg W.base C8.CX0 k f fd ps (S.sp W.K W.lt W.T C) ∧ W.mg x = some (.ref C) ∧ KBn W.K fd ps (n + 1) ks g gV ∧
    ∀ md H v vs zs ds es, DA W.K W.lt md H vs ds → DA W.K W.lt md H zs es → ∃ ws, gV (v :: vs) zs = v :: ws ∧ DA W.K W.lt md H ws (gD ds es)
section
variable {X : Cx} {B : Bx} {δ : List Sl} {Q : Dat → Prop} {e o : Expr} {es : List Expr} {kws : List Keyword} {pos p apos : Pos} {x m : Str} {S : Sc} {Si_ : Si} {k j n : Nat} {dd : List Dat} {ks : List Str} {gD : List Dat → List Dat → List Dat} {C : Addr}
abbrev wdOf (X : Cx) (B : Bx) : Wd := ⟨X.prog, X.w, X.K, X.mg, X.base, B.lt, B.T⟩
theorem d_call (c : CalD (wdOf X B) k x S dd) (hr : Room j X.A) (h : WA X B (e :: es) δ fun ds => S (ds ++ dd) Q) (hk : k ≤ j := by decide) (hg : Gl X x := by rfl) (hdb : (x == ("__debug__" : Str)) = false := by decide)
    (he : starEach (e :: es) X.env = (false, eval e X.env) :: starEach es X.env := by rfl) (hpl : (backTo pos (starEach es X.env)).any (·.1) = false := by rfl) : WE X B (.Call (.Name x p) (e :: es) [] pos) δ Q := by
  obtain ⟨f, fd, ps, vsd, dvs, F, hm, kp, b, d, gd⟩ := c.ex
  exact fun md σ H Qc R kk => PE.can (pe_call F (hr.mono hk) hg hm kp b d (C8.pass0 (E := C8.E0)) pa_can hdb he hpl) (h md σ H _ R fun vs H1 ds x1 R1 r1 q =>
    ⟨md, _, Q, R1.tabs, R1.live, r1.app (gd md H1), q, fun v H' d t x r qd => kk v H' d (x1.trans x) (R1.grow x t) r qd⟩)
theorem d_callK (c : CalK (wdOf X B) k x S n ks gD) (hr : Room j X.A) (h : WA X B (e :: es) δ fun ds => WK X B kws δ fun zs => ds.length = n ∧ zs.length = ks.length ∧ S (gD ds zs) Q) (hk : k ≤ j := by decide) (hg : Gl X x := by rfl)
    (hall : (backToKw pos (keywordEach kws X.env)).all (·.1.isSome) = true := by rfl) (hks : (backToKw pos (keywordEach kws X.env)).filterMap (·.1) = ks := by rfl)
    (hdb : (x == ("__debug__" : Str)) = false := by decide) (he : starEach (e :: es) X.env = (false, eval e X.env) :: starEach es X.env := by rfl)
    (hpl : ((backTo pos (starEach (e :: es) X.env)).any (·.1) || (backToKw pos (keywordEach kws X.env)).any (·.1.isNone)) = false := by rfl) : WE X B (.Call (.Name x p) (e :: es) kws pos) δ Q := by
  obtain ⟨f, fd, ps, g, gV, F, hm, kp, b, gd⟩ := c.ex
  exact fun md σ H Qc R kk => PE.can (pe_callN F (hr.mono hk) hg hm kp b (C8.pass0 (E := C8.E0)) pa_can pk_can hall hks hdb he hpl) (h md σ H _ R fun vs H1 ds x1 R1 r1 hb => hb md σ H1 _ R1 fun zs H2 es x2 R2 r2 ⟨l1, l2, q⟩ =>
    ⟨by rw [r1.len]; exact l1, by rw [r2.len]; exact l2, md, _, Q, R2.tabs, R2.live, gd md H2 vs zs ds es (DA.mono x2 r1) r2, q, fun v H' d t x r qd => kk v H' d (x1.trans (x2.trans x)) (R2.grow x t) r qd⟩)
theorem d_meth {pl : Sem Bool} (c : MetD (wdOf X B) k C m S) (hr : Room j X.A) (h : WE X B o δ fun x => ∃ fs, x = .ins C fs ∧ fs.lookup m = none ∧ WA X B (e :: es) δ fun ds => S (x :: ds) Q) (hk : k ≤ j := by decide)
    (hst : starEach (e :: es) X.env = (false, eval e X.env) :: starEach es X.env := by rfl) (hpl : (backTo pos (starEach es X.env)).any (·.1) = false := by rfl)
    (ht : eval (.Call (.Attribute o m apos) (e :: es) [] pos) X.env = (do
      let ov ← eval o X.env
      standAt apos.atName
      let (f, first) ← holding [ov] (getMethod ov m pl)
      callWith pos f first (backTo pos (starEach (e :: es) X.env)) (backToKw pos (keywordEach [] X.env))) := by rfl) : WE X B (.Call (.Attribute o m apos) (e :: es) [] pos) δ Q := by
  obtain ⟨f, fd, ps, hc, hm, F, b⟩ := c.ex
  exact fun md σ H Qc R kk => PE.can (pe_meth (pl := pl) pe_can hc hm F (hr.mono hk) b .nil (C8.pass0 (E := C8.E0)) pa_can hst hpl ht) (h md σ H _ R fun v H1 d x1 R1 r1 ⟨fs, ed, hn, hb⟩ => by
    subst ed
    have r1' := r1
    obtain ⟨a1, dx, xs, e1, s1, _, g1⟩ := r1.atI
    exact ⟨a1, dx, xs, e1, s1, g1.none_ hn, hb md σ H1 _ R1 fun vs H2 ds x2 R2 r2 q => ⟨md, _, Q, R2.tabs, R2.live, by rw [List.append_nil]; exact .cons (DL.D.mono x2 r1') r2, q, fun v H' d t x r qd => kk v H' d (x1.trans (x2.trans x)) (R2.grow x t) r qd⟩⟩)
theorem d_make (c : MakD (wdOf X B) k x C Si_) (hr : Room j X.A) (h : WA X B (e :: es) δ fun ds => Si_ ds fun fs => Q (.ins C fs)) (hk : k + 1 ≤ j := by decide) (hg : Gl X x := by rfl) (hdb : (x == ("__debug__" : Str)) = false := by decide)
    (he : starEach (e :: es) X.env = (false, eval e X.env) :: starEach es X.env := by rfl) (hpl : (backTo pos (starEach es X.env)).any (·.1) = false := by rfl) : WE X B (.Call (.Name x p) (e :: es) [] pos) δ Q := by
  obtain ⟨f, fd, ps, M, F, hm, b⟩ := c.ex
  exact fun md σ H Qc R kk => PE.can (pe_make M F (hr.mono hk) hg hm b .nil (C8.pass0 (E := C8.E0)) pa_can hdb he hpl) (h md σ H _ R fun vs H1 ds x1 R1 r1 q a dx ha hdx hne =>
    ⟨md, H1, a, dx, _, ds, _, rfl, rfl, ha, hdx, hne, R1.tabs, R1.live, by rw [List.append_nil]; exact r1, q, fun H2 fs t x r qf => ⟨rfl, kk _ H2 _ (x1.trans x) (R1.grow x t) r qf⟩⟩)
theorem d_makeK (c : MakK (wdOf X B) k x C Si_ n ks gD) (hr : Room j X.A) (h : WA X B (e :: es) δ fun ds => WK X B kws δ fun zs => ds.length = n ∧ zs.length = ks.length ∧ Si_ (gD ds zs) fun fs => Q (.ins C fs)) (hk : k + 1 ≤ j := by decide) (hg : Gl X x := by rfl)
    (hall : (backToKw pos (keywordEach kws X.env)).all (·.1.isSome) = true := by rfl) (hks : (backToKw pos (keywordEach kws X.env)).filterMap (·.1) = ks := by rfl) (hdb : (x == ("__debug__" : Str)) = false := by decide)
    (he : starEach (e :: es) X.env = (false, eval e X.env) :: starEach es X.env := by rfl) (hpl : ((backTo pos (starEach (e :: es) X.env)).any (·.1) || (backToKw pos (keywordEach kws X.env)).any (·.1.isNone)) = false := by rfl) : WE X B (.Call (.Name x p) (e :: es) kws pos) δ Q := by
  obtain ⟨f, fd, ps, g, gV, M, F, hm, b, gd⟩ := c.ex
  exact fun md σ H Qc R kk => PE.can (pe_makeK M F (hr.mono hk) hg hm b (C8.pass0 (E := C8.E0)) pa_can pk_can hall hks hdb he hpl) (h md σ H _ R fun vs H1 ds x1 R1 r1 hb => hb md σ H1 _ R1 fun zs H2 es x2 R2 r2 ⟨l1, l2, q⟩ => ⟨by rw [r1.len]; exact l1, by rw [r2.len]; exact l2, fun a dx ha hdx hne => by
    obtain ⟨ws, ew, gw⟩ := gd md H2 (.ref a) vs zs ds es (DA.mono x2 r1) r2
    exact ⟨md, H2, a, dx, ws, _, _, ew, rfl, ha, hdx, hne, R2.tabs, R2.live, gw, q, fun H3 fs t x r qf => ⟨rfl, kk _ H3 _ (x1.trans (x2.trans x)) (R2.grow x t) r qf⟩⟩⟩)
end
end DL

/-! DfA -/
set_option Elab.async false
set_option linter.all false
set_option maxRecDepth 100000
set_option maxHeartbeats 4000000
namespace DL
open PySem PySem.Spec PyProof.Rows L2
open NdefX (NTab TabsN TabN)
/-! ### small steps -/
theorem q_b {F : Bool → Prop} {b : Bool} (h : F b) : QB F (.bl b) := h
theorem if_t {c : Prop} [Decidable c] {P Q : Prop} (h : c) (p : P) : if c then P else Q := by rw [if_pos h]; exact p
theorem if_f {c : Prop} [Decidable c] {P Q : Prop} (h : ¬ c) (p : Q) : if c then P else Q := by rw [if_neg h]; exact p
theorem if_x {c : Prop} [Decidable c] {P Q : Prop} (p : c → P) (q : ¬ c → Q) : if c then P else Q := by
  by_cases h : c
  · rw [if_pos h]; exact p h
  · rw [if_neg h]; exact q h
theorem q_tt {Q : Dat → Prop} {b : Bool} (h : b = true) (q : Q (.bl true)) : Q (.bl b) := h ▸ q
theorem q_to {Q : Dat → Prop} {x y : Dat} (h : x = y) (q : Q y) : Q x := h ▸ q
theorem isiQ_ty {K : PySem.W.Frag} {d : Dat} {n t : String} {b : Bool} {Q : Dat → Prop} (h : tyD d = some t) (k : kitB t n = some b) (q : Q (.bl b)) : isiQ K d (.ty n) Q := by
  cases d <;> first | (cases h; done) | exact ⟨t, b, h, k, q⟩
theorem isiQ_lt {K : PySem.W.Frag} {d : Dat} {t : String} {Q : Dat → Prop} (h : tyD d = some t) (ht : t = "tuple" ∨ t = "list") (q : Q (.bl true)) : isiQ K d (.tup [.ty "list", .ty "tuple"]) Q := by
  have k : ∃ b b', kitB t "list" = some b ∧ kitB t "tuple" = some b' ∧ (b || b') = true := by
    rcases ht with rfl | rfl
    · exact ⟨false, true, by decide +kernel, by decide +kernel, rfl⟩
    · exact ⟨true, false, by decide +kernel, by decide +kernel, rfl⟩
  obtain ⟨b, b', k1, k2, k3⟩ := k
  cases d <;> first | (cases h; done) | exact ⟨t, b, b', h, k1, k2, by rw [k3]; exact q⟩
theorem kb_int_int : kitB "int" "int" = some true := by decide +kernel
theorem kb_int_bool : kitB "int" "bool" = some false := by decide +kernel
theorem kb_bool_bool : kitB "bool" "bool" = some true := by decide +kernel
theorem kb_tup_tup : kitB "tuple" "tuple" = some true := by decide +kernel
theorem kb_str_str : kitB "str" "str" = some true := by decide +kernel
theorem boot_bool : bootBuiltins "bool" = some (.type "bool") := by decide +kernel
theorem boot_str : bootBuiltins "str" = some (.type "str") := by decide +kernel
section
variable {X : Cx} {B : Bx} {δ : List Sl} {Q : Dat → Prop} {a : Expr} {pos p : Pos}
theorem d_negE (h : WE X B a δ fun d => ∃ i, d = .int i ∧ Q (.int (-i))) : WE X B (.UnaryOp .USub a pos) δ Q := fun md σ H Qc R k =>
  PE.can (pe_un un_neg pe_can) (h md σ H _ R fun v H1 d x1 R1 r1 ⟨i, ed, q⟩ => by
    subst ed
    exact ⟨i, r1.intE, k _ _ _ x1 R1 (.int _) q⟩)
theorem d_listRg (hc : X.calm = true) (hm : X.mg "list" = none) (hr : X.mg "range" = none) {b : Expr} {p2 pos2 : Pos} (h : WE X B a δ fun d => WE X B b δ fun d' => ∃ i j : Int, d = .int i ∧ d' = .int j ∧ (0 ≤ i ∧ j ≤ 1000 ∧ i ≤ 1000 ∧ 0 ≤ j) ∧ Q (.lst (rangeD i (j - i).toNat)))
    (hg : Gl X "list" := by rfl) (hg2 : Gl X "range" := by rfl) (na : starEach [a, b] X.env = (false, eval a X.env) :: starEach [b] X.env := by rfl) (nb : starEach [b] X.env = (false, eval b X.env) :: starEach [] X.env := by rfl) (hp : (backTo pos2 (starEach [b] X.env)).any (·.1) = false := by rfl)
    (nn : starEach [.Call (.Name "range" p2) [a, b] [] pos2] X.env = (false, eval (.Call (.Name "range" p2) [a, b] [] pos2) X.env) :: starEach [] X.env := by rfl) :
    WE X B (.Call (.Name "list" p) [.Call (.Name "range" p2) [a, b] [] pos2] [] pos) δ Q := fun md σ H Qc R k =>
  PE.can (pe_listRg hc hg hm (prg_2 hg2 hr pe_can pe_can na nb hp) nn) (h md σ H _ R fun v H1 d x1 R1 r1 hb => hb md σ H1 _ R1 fun w H2 d' x2 R2 r2 ⟨i, j, ed, ed', l, q⟩ => by
    subst ed ed'
    refine ⟨i, j, r1.intE, r2.intE, RgOk.of_le l.1 (by omega) (by omega) l.2.2.2, fun pp hp => ?_⟩
    have g : DA X.K B.lt md H2 (rgV i j) (rangeD i (j - i).toNat) := by
      unfold rgV rangeD
      have : ∀ n : List Nat, DA X.K B.lt md H2 (n.map fun k => V.int (i + (k : Nat))) (n.map fun k => Dat.int (i + (k : Nat))) := fun n => by
        induction n with
        | nil => exact .nil
        | cons a r ih => exact .cons (.int _) ih
      exact this _
    obtain ⟨x4, R4, r⟩ := fin_lst R2 g hp
    exact k _ _ _ ((x1.trans x2).trans x4) R4 r q)
theorem d_listRg1 (hc : X.calm = true) (hm : X.mg "list" = none) (hr : X.mg "range" = none) {p2 pos2 : Pos} (h : WE X B a δ fun d => ∃ j : Int, d = .int j ∧ (j ≤ 1000 ∧ 0 ≤ j) ∧ Q (.lst (rangeD 0 j.toNat)))
    (hg : Gl X "list" := by rfl) (hg2 : Gl X "range" := by rfl) (na : starEach [a] X.env = (false, eval a X.env) :: starEach [] X.env := by rfl)
    (nn : starEach [.Call (.Name "range" p2) [a] [] pos2] X.env = (false, eval (.Call (.Name "range" p2) [a] [] pos2) X.env) :: starEach [] X.env := by rfl) :
    WE X B (.Call (.Name "list" p) [.Call (.Name "range" p2) [a] [] pos2] [] pos) δ Q := fun md σ H Qc R k =>
  PE.can (pe_listRg hc hg hm (prg_1 hg2 hr pe_can na) nn) (h md σ H _ R fun w H2 d' x2 R2 r2 ⟨j, ed', l, q⟩ => by
    subst ed'
    refine ⟨j, r2.intE, RgOk.of_le (by omega) (by omega) (by omega) l.2, fun pp hp => ?_⟩
    have g : DA X.K B.lt md H2 (rgV 0 j) (rangeD 0 j.toNat) := by
      unfold rgV rangeD
      rw [Int.sub_zero]
      have : ∀ n : List Nat, DA X.K B.lt md H2 (n.map fun k => V.int (0 + (k : Nat))) (n.map fun k => Dat.int (0 + (k : Nat))) := fun n => by
        induction n with
        | nil => exact .nil
        | cons a r ih => exact .cons (.int _) ih
      exact this _
    obtain ⟨x4, R4, r⟩ := fin_lst R2 g hp
    exact k _ _ _ (x2.trans x4) R4 r q)
end
theorem _root_.L2.Room.u1 {k : Nat} {A : Around} (h : Room k A) : A.units + 1 < cLine := by have := h.un; omega
theorem _root_.L2.Room.u64 {k : Nat} {A : Around} (h : Room k A) : A.units + 64 < cLine := by have := h.un; omega
theorem _root_.L2.Room.u65 {k : Nat} {A : Around} (h : Room k A) : A.units + 65 < cLine := by have := h.un; omega
/-! ### the text's defs -/
def top (i : Nat) : Stmt := PySem.Challenge.pw_crewlags_k65_whole_starts_that_are_close.main.body.getD i (.Pass ⟨0, 0, 0, 0⟩)
def clsTop (i j : Nat) : Stmt := (C8.clsBody (top i)).getD j (.Pass ⟨0, 0, 0, 0⟩)
/-- a def of the module, under its name -/
structure DefF (W : Wd) (x : Str) (st : Stmt) : Prop where
  ex : ∃ f fd, FunD W.K x x (defArgs st) (defBody st) (defScope st) [] [] f fd ∧ W.mg x = some (.ref f)
theorem cal_of {W : Wd} {x : Str} {st : Stmt} {N ps : List Str} {k : Nat} {S : Sc} (D : DefF W x st) (C : C8.scC N ps (defScope st) = true)
    (hbind : ∀ (kV doc pm : Value) (an : Option Addr) (cdv ct : Value) (us : List Value), us.length = ps.length → bindArgs (PySem.W.fnOf x x (defArgs st) (defBody st) (defScope st) .none kV doc pm an cdv ct) ⟨us, []⟩ = pure (ps.zip us))
    (hl : ∀ ds Q, S ds Q → ds.length = ps.length)
    (hb : ∀ (f : Addr) (cdv : Value) (A : Around) (outer : List Env) (s : Shared) (H : Hp) (E : XK) (md0 : Addr → Md) (ds : List Dat) (Q : Dat → Prop), Room k (cxD W N x (defScope st) f cdv A outer s H E).A → S ds Q →
      WSs (cxD W N x (defScope st) f cdv A outer s H E) (bxD W md0 H) (defBody st) (enterD N.length ds) { nx := fun _ => Q .non, rt := Q }) : CalD W (k + 1) x S [] := by
  obtain ⟨f, fd, F, hm⟩ := D.ex
  exact ⟨f, fd, ps, [], [], def_ok F C hl fun cdv A outer s H E md0 ds Q hr hs => hb f cdv A outer s H E md0 ds Q hr hs, hm, F.kp, F.bindsN hbind, .nil, fun _ _ => .nil⟩
structure Ads where
  calendar : Addr
  project : Addr
  rule : Addr
structure Gl0 (W : Wd) (ad : Ads) : Prop where
  b_len : W.mg "len" = none
  b_int : W.mg "int" = none
  b_tuple : W.mg "tuple" = none
  b_list : W.mg "list" = none
  b_sum : W.mg "sum" = none
  b_max : W.mg "max" = none
  b_min : W.mg "min" = none
  b_all : W.mg "all" = none
  b_any : W.mg "any" = none
  b_divmod : W.mg "divmod" = none
  b_isinstance : W.mg "isinstance" = none
  b_range : W.mg "range" = none
  b_enumerate : W.mg "enumerate" = none
  b_zip : W.mg "zip" = none
  b_sorted : W.mg "sorted" = none
  b_set : W.mg "set" = none
  b_dict : W.mg "dict" = none
  b_bool : W.mg "bool" = none
  b_str : W.mg "str" = none
  i_MAX_CYCLE : ∃ t, W.mg "MAX_CYCLE" = some (.int 14 t)
  i_MAX_CHANGES : ∃ t, W.mg "MAX_CHANGES" = some (.int 10 t)
  i_MAX_MANY_shapes : ∃ t, W.mg "MAX_MANY_shapes" = some (.int 7 t)
  i_MAX_WORKERS : ∃ t, W.mg "MAX_WORKERS" = some (.int 8 t)
  i_MAX_SKILLS : ∃ t, W.mg "MAX_SKILLS" = some (.int 5 t)
  i_MAX_ASKS : ∃ t, W.mg "MAX_ASKS" = some (.int 3 t)
  i_MAX_NAME : ∃ t, W.mg "MAX_NAME" = some (.int 12 t)
  i_MAX_MANY_projects : ∃ t, W.mg "MAX_MANY_projects" = some (.int 5 t)
  i_MAX_TIME : ∃ t, W.mg "MAX_TIME" = some (.int 60 t)
  i_MAX_AMOUNT : ∃ t, W.mg "MAX_AMOUNT" = some (.int 1000 t)
  i_MAX_MACHINES : ∃ t, W.mg "MAX_MACHINES" = some (.int 3 t)
  i_MAX_STOCKS : ∃ t, W.mg "MAX_STOCKS" = some (.int 2 t)
  i_MAX_MODES : ∃ t, W.mg "MAX_MODES" = some (.int 3 t)
  i_MAX_LAGS : ∃ t, W.mg "MAX_LAGS" = some (.int 12 t)
  i_MAX_SINGLES : ∃ t, W.mg "MAX_SINGLES" = some (.int 2 t)
  i_MAX_FAMILY : ∃ t, W.mg "MAX_FAMILY" = some (.int 3 t)
  i_MAX_AHEAD : ∃ t, W.mg "MAX_AHEAD" = some (.int 20 t)
  s_LETTERS : ∃ t, W.mg "LETTERS" = some (.str "abcdefghijklmnopqrstuvwxyz" t)
  s_SIGNS : ∃ t, W.mg "SIGNS" = some (.str "abcdefghijklmnopqrstuvwxyz0123456789-" t)
  r_Calendar : W.mg "Calendar" = some (.ref ad.calendar)
  ci_calendar : ClsI W.K ad.calendar
  mk_calendar : ∃ f fd kws, Mk W.K ad.calendar f ∧ FunD W.K "__init__" "Calendar.__init__" (defArgs (clsTop 18 0)) (defBody (clsTop 18 0)) (defScope (clsTop 18 0)) [] kws f fd ∧ kws ≠ []
  r_Project : W.mg "Project" = some (.ref ad.project)
  ci_project : ClsI W.K ad.project
  mk_project : ∃ f fd kws, Mk W.K ad.project f ∧ FunD W.K "__init__" "Project.__init__" (defArgs (clsTop 68 0)) (defBody (clsTop 68 0)) (defScope (clsTop 68 0)) [] kws f fd ∧ kws ≠ []
  r_Rule : W.mg "Rule" = some (.ref ad.rule)
  ci_rule : ClsI W.K ad.rule
  mk_rule : ∃ f fd kws, Mk W.K ad.rule f ∧ FunD W.K "__init__" "Rule.__init__" (defArgs (clsTop 80 0)) (defBody (clsTop 80 0)) (defScope (clsTop 80 0)) [] kws f fd ∧ kws = []
  me_is_met : ∃ f fd, Meth W.K ad.rule "is_met" f ∧ FunD W.K "is_met" "Rule.is_met" (defArgs (clsTop 80 1)) (defBody (clsTop 80 1)) (defScope (clsTop 80 1)) [] [] f fd
  na_calendar_cycle : NoAttr W.K ad.calendar "cycle"
  na_calendar_changes : NoAttr W.K ad.calendar "changes"
  na_project_names : NoAttr W.K ad.project "names"
  na_project_horizon : NoAttr W.K ad.project "horizon"
  na_project_machines : NoAttr W.K ad.project "machines"
  na_project_stocks : NoAttr W.K ad.project "stocks"
  na_project_modes : NoAttr W.K ad.project "modes"
  na_project_calendars : NoAttr W.K ad.project "calendars"
  na_project_windows : NoAttr W.K ad.project "windows"
  na_project_families : NoAttr W.K ad.project "families"
  na_project_lags : NoAttr W.K ad.project "lags"
  na_project_singles : NoAttr W.K ad.project "singles"
  na_project_crew : NoAttr W.K ad.project "crew"
  na_project_asks : NoAttr W.K ad.project "asks"
  na_project_overhead : NoAttr W.K ad.project "overhead"
  na_project_late : NoAttr W.K ad.project "late"
  na_rule_source : NoAttr W.K ad.rule "source"
  na_rule_target : NoAttr W.K ad.rule "target"
  na_rule_gap : NoAttr W.K ad.rule "gap"
  na_rule_words : NoAttr W.K ad.rule "words"
  na_rule_reason : NoAttr W.K ad.rule "reason"
  ev : ∃ a, W.mg "EVENTS" = some (.ref a) ∧ KT W.K a [.str "start", .str "end"]
  d_is_int : DefF W "is_int" (top 10)
  d_is_slot : DefF W "is_slot" (top 14)
  d_check_cycle : DefF W "check_cycle" (top 15)
  d_is_change : DefF W "is_change" (top 16)
  d_check_changes : DefF W "check_changes" (top 17)
  d_planned : DefF W "planned" (top 19)
  d_works : DefF W "works" (top 20)
  d_counted : DefF W "counted" (top 21)
  d_reached : DefF W "reached" (top 22)
  d_end_in : DefF W "end_in" (top 23)
  d_is_name : DefF W "is_name" (top 32)
  d_is_index : DefF W "is_index" (top 33)
  d_is_pair : DefF W "is_pair" (top 34)
  d_is_row : DefF W "is_row" (top 35)
  d_are_skills : DefF W "are_skills" (top 36)
  d_are_asks : DefF W "are_asks" (top 37)
  d_skills_among : DefF W "skills_among" (top 38)
  d_sets_of : DefF W "sets_of" (top 39)
  d_lacking_skills : DefF W "lacking_skills" (top 40)
  d_check_crew : DefF W "check_crew" (top 41)
  d_is_set : DefF W "is_set" (top 42)
  d_is_between : DefF W "is_between" (top 54)
  d_are_between : DefF W "are_between" (top 55)
  d_is_mode : DefF W "is_mode" (top 56)
  d_are_modes : DefF W "are_modes" (top 57)
  d_is_window : DefF W "is_window" (top 58)
  d_is_lag : DefF W "is_lag" (top 59)
  d_is_single : DefF W "is_single" (top 60)
  d_is_late : DefF W "is_late" (top 61)
  d_check_row : DefF W "check_row" (top 62)
  d_check_names : DefF W "check_names" (top 63)
  d_check_frame : DefF W "check_frame" (top 64)
  d_check_rest : DefF W "check_rest" (top 65)
  d_check_singles : DefF W "check_singles" (top 66)
  d_check_people : DefF W "check_people" (top 67)
  d_check_project : DefF W "check_project" (top 69)
  d_check_choice : DefF W "check_choice" (top 70)
  d_mode_of : DefF W "mode_of" (top 71)
  d_window_of : DefF W "window_of" (top 72)
  d_setup_of : DefF W "setup_of" (top 73)
  d_end_at : DefF W "end_at" (top 76)
  d_event_at : DefF W "event_at" (top 77)
  d_is_kept : DefF W "is_kept" (top 78)
  d_starts_in : DefF W "starts_in" (top 79)
  d_rules_of : DefF W "rules_of" (top 81)
  d_check_times : DefF W "check_times" (top 82)
  d_check_most : DefF W "check_most" (top 83)
  d_all_starts : DefF W "all_starts" (top 85)
  d_led : DefF W "led" (top 86)
  d_greatest_in : DefF W "greatest_in" (top 87)
  d_times_in : DefF W "times_in" (top 88)
  d__law_well : DefF W "_law_well" (top 91)
  d__law_draw : DefF W "_law_draw" (top 92)
  d__law_one : DefF W "_law_one" (top 93)
  d__law_calendar : DefF W "_law_calendar" (top 94)
  d__law_modes : DefF W "_law_modes" (top 95)
  d__law_lags : DefF W "_law_lags" (top 96)
  d__law_single : DefF W "_law_single" (top 97)
  d__law_drawn : DefF W "_law_drawn" (top 98)
  d__law_calendars_of : DefF W "_law_calendars_of" (top 99)
  d__law_project : DefF W "_law_project" (top 100)
  d__law_choice : DefF W "_law_choice" (top 101)
  d__law_end : DefF W "_law_end" (top 102)
  d__law_event : DefF W "_law_event" (top 103)
  d__law_lag_kept : DefF W "_law_lag_kept" (top 104)
  d__law_possible : DefF W "_law_possible" (top 105)
  d__law_setup : DefF W "_law_setup" (top 106)
  d__law_pairs : DefF W "_law_pairs" (top 107)
  d__law_is_kept : DefF W "_law_is_kept" (top 108)
  d__law_all : DefF W "_law_all" (top 109)
  d__law_longer : DefF W "_law_longer" (top 110)
  d__law_closed : DefF W "_law_closed" (top 111)
  d__law_is_within : DefF W "_law_is_within" (top 112)
  d__law_bound_right : DefF W "_law_bound_right" (top 113)
  d__law_right : DefF W "_law_right" (top 114)
  d_law : DefF W "law" (top 115)
  d_times : ∃ f fd a, FunD W.K "times" "times" (defArgs (top 89)) (defBody (top 89)) (defScope (top 89)) [] [("ahead", .ref a), ("most", .non)] f fd ∧ W.mg "times" = some (.ref f) ∧ KT W.K a []
  d_possible_starts : ∃ f fd, FunD W.K "possible_starts" "possible_starts" (defArgs (top 84)) (defBody (top 84)) (defScope (top 84)) [] [("most", .non)] f fd ∧ W.mg "possible_starts" = some (.ref f)
section
variable {W : Wd} {ad : Ads}
/-! ### numbers -/
def S_is_int : Sc := fun ds Q => ∃ i : Int, ds = [.int i] ∧ Q (.bl true)
theorem c_is_int (G : Gl0 W ad) : CalD W 1 "is_int" S_is_int [] := by
  refine cal_of (N := ["value"]) (ps := ["value"]) G.d_is_int (by decide +kernel) (fun _ _ _ _ _ _ us hl => match us, hl with | [_], _ => rfl) (fun ds Q ⟨i, e, _⟩ => by rw [e]; rfl) fun f cdv A outer s H E md0 ds Q hr hS => ?_
  obtain ⟨i, rfl, q⟩ := hS
  refine s_one (s_ret (d_and (d_isi G.b_isinstance (d_name 0 rfl (d_blt G.b_int boot_int (isiQ_ty rfl kb_int_int ?_))))))
  refine q_b (if_t rfl ?_)
  refine d_one (d_not (d_isi G.b_isinstance (d_name 0 rfl (d_blt G.b_bool boot_bool (isiQ_ty rfl kb_int_bool ?_)))))
  exact q
end
end DL

/-! HdA -/
set_option Elab.async false
set_option linter.all false
set_option maxRecDepth 100000
set_option maxHeartbeats 0
set_option pp.maxSteps 300
set_option pp.deepTerms false
namespace DL
open PySem PySem.Spec PyProof.Rows L2
open NdefX (NTab TabsN TabN)
/-- a keyword's default, where it is an object -/
def kwdAt (p : Str × Option Str) (x : Str) (K : PySem.W.Frag) : Addr := match K.lookup (He.fAd K p) with
  | some o => (match o.data with
    | .func fd => (match fd.kwdefaults with
      | .ref D => (match PySem.W.nsIn K D x with
        | some (some (.ref a)) => a
        | _ => 0)
      | _ => 0)
    | _ => 0)
  | none => 0
/-- an empty written tuple -/
def tupA (K : PySem.W.Frag) (a : Addr) : Bool := match K.lookup a with
  | some o => decide (o.cls = .type "tuple") && (match o.data with
    | .seq its _ => its.isEmpty
    | _ => false)
  | none => false
theorem tupA_ok {K : PySem.W.Frag} {a : Addr} (h : tupA K a = true) : KT K a [] := by
  unfold tupA at h
  cases q : K.lookup a with
  | none => rw [q] at h; cases h
  | some o =>
    rw [q] at h
    obtain ⟨h1, h2⟩ := Bool.and_eq_true_iff.mp h
    cases d : o.data with
    | seq its n =>
      rw [d] at h2
      have e : its = #[] := Array.isEmpty_iff.mp h2
      subst e
      exact .inr ⟨o, #[], n, q, of_decide_eq_true h1, d, Nat.zero_le _, .nil⟩
    | _ => rw [d] at h2; cases h2
def clsIB (K : PySem.W.Frag) (C : Addr) : Bool := decide (PySem.W.findIn K (.ref C) "__class__" = some (some (.builtin "object.__class__"))) && (decide (PySem.W.specialIn K (.builtin "object.__class__") "__get__" = some (some (.builtin "getset_descriptor.__get__"))) &&
  (decide (PySem.W.takesIn K (.builtin "object.__class__") = some true) && decide (PySem.W.mroIn K C (.type "object") = some true)))
theorem clsI_ok {K : PySem.W.Frag} {C : Addr} (c : Cls K C) (h : clsIB K C = true) : ClsI K C := by
  unfold clsIB at h
  obtain ⟨h1, h⟩ := Bool.and_eq_true_iff.mp h
  obtain ⟨h2, h⟩ := Bool.and_eq_true_iff.mp h
  obtain ⟨h3, h4⟩ := Bool.and_eq_true_iff.mp h
  exact ⟨c, of_decide_eq_true h1, of_decide_eq_true h2, of_decide_eq_true h3, of_decide_eq_true h4⟩
def dOf (x : Str) (i : Nat) : He.DefD := ⟨(x, none), x, x, defArgs (top i), defBody (top i), defScope (top i), [], []⟩
def hfa0 : List He.Fa := [.free "len", .free "int", .free "tuple", .free "list", .free "sum", .free "max", .free "min", .free "all", .free "any", .free "divmod", .free "isinstance", .free "range", .free "enumerate", .free "zip", .free "sorted", .free "set", .free "dict", .free "bool", .free "str", .int "MAX_CYCLE" 14, .int "MAX_CHANGES" 10, .int "MAX_MANY_shapes" 7, .int "MAX_WORKERS" 8, .int "MAX_SKILLS" 5, .int "MAX_ASKS" 3, .int "MAX_NAME" 12, .int "MAX_MANY_projects" 5, .int "MAX_TIME" 60, .int "MAX_AMOUNT" 1000, .int "MAX_MACHINES" 3]
def hfa1 : List He.Fa := [.int "MAX_STOCKS" 2, .int "MAX_MODES" 3, .int "MAX_LAGS" 12, .int "MAX_SINGLES" 2, .int "MAX_FAMILY" 3, .int "MAX_AHEAD" 20, .str "LETTERS" "abcdefghijklmnopqrstuvwxyz", .str "SIGNS" "abcdefghijklmnopqrstuvwxyz0123456789-", .glo "Calendar", .cls "Calendar", .mkr "Calendar", .glo "Project", .cls "Project", .mkr "Project", .glo "Rule", .cls "Rule", .mkr "Rule", .meth "Rule" "is_met", .noat "Calendar" "cycle", .noat "Calendar" "changes", .noat "Project" "names", .noat "Project" "horizon", .noat "Project" "machines", .noat "Project" "stocks", .noat "Project" "modes", .noat "Project" "calendars", .noat "Project" "windows", .noat "Project" "families", .noat "Project" "lags", .noat "Project" "singles"]
def hfa2 : List He.Fa := [.noat "Project" "crew", .noat "Project" "asks", .noat "Project" "overhead", .noat "Project" "late", .noat "Rule" "source", .noat "Rule" "target", .noat "Rule" "gap", .noat "Rule" "words", .noat "Rule" "reason", .glo "EVENTS", .glo "is_int", .glo "is_slot", .glo "check_cycle", .glo "is_change", .glo "check_changes", .glo "planned", .glo "works", .glo "counted", .glo "reached", .glo "end_in", .glo "is_name", .glo "is_index", .glo "is_pair", .glo "is_row", .glo "are_skills", .glo "are_asks", .glo "skills_among", .glo "sets_of", .glo "lacking_skills", .glo "check_crew"]
def hfa3 : List He.Fa := [.glo "is_set", .glo "is_between", .glo "are_between", .glo "is_mode", .glo "are_modes", .glo "is_window", .glo "is_lag", .glo "is_single", .glo "is_late", .glo "check_row", .glo "check_names", .glo "check_frame", .glo "check_rest", .glo "check_singles", .glo "check_people", .glo "check_project", .glo "check_choice", .glo "mode_of", .glo "window_of", .glo "setup_of", .glo "end_at", .glo "event_at", .glo "is_kept", .glo "starts_in", .glo "rules_of", .glo "check_times", .glo "check_most", .glo "possible_starts", .glo "all_starts", .glo "led"]
def hfa4 : List He.Fa := [.glo "greatest_in", .glo "times_in", .glo "times", .glo "_law_well", .glo "_law_draw", .glo "_law_one", .glo "_law_calendar", .glo "_law_modes", .glo "_law_lags", .glo "_law_single", .glo "_law_drawn", .glo "_law_calendars_of", .glo "_law_project", .glo "_law_choice", .glo "_law_end", .glo "_law_event", .glo "_law_lag_kept", .glo "_law_possible", .glo "_law_setup", .glo "_law_pairs", .glo "_law_is_kept", .glo "_law_all", .glo "_law_longer", .glo "_law_closed", .glo "_law_is_within", .glo "_law_bound_right", .glo "_law_right", .glo "law"]
def hfa : List He.Fa := hfa0 ++ (hfa1 ++ (hfa2 ++ (hfa3 ++ (hfa4))))
def hfn0 : List He.DefD := [⟨("Calendar", some "__init__"), "__init__", "Calendar.__init__", defArgs (clsTop 18 0), defBody (clsTop 18 0), defScope (clsTop 18 0), [], [("changes", .adr (kwdAt ("Calendar", some "__init__") "changes"))]⟩, ⟨("Project", some "__init__"), "__init__", "Project.__init__", defArgs (clsTop 68 0), defBody (clsTop 68 0), defScope (clsTop 68 0), [], [("overhead", .int 0)]⟩, ⟨("Rule", some "__init__"), "__init__", "Rule.__init__", defArgs (clsTop 80 0), defBody (clsTop 80 0), defScope (clsTop 80 0), [], []⟩, ⟨("Rule", some "is_met"), "is_met", "Rule.is_met", defArgs (clsTop 80 1), defBody (clsTop 80 1), defScope (clsTop 80 1), [], []⟩, dOf "is_int" 10, dOf "is_slot" 14, dOf "check_cycle" 15, dOf "is_change" 16, dOf "check_changes" 17, dOf "planned" 19, dOf "works" 20, dOf "counted" 21, dOf "reached" 22, dOf "end_in" 23, dOf "is_name" 32, dOf "is_index" 33, dOf "is_pair" 34, dOf "is_row" 35, dOf "are_skills" 36, dOf "are_asks" 37, dOf "skills_among" 38, dOf "sets_of" 39, dOf "lacking_skills" 40, dOf "check_crew" 41, dOf "is_set" 42, dOf "is_between" 54, dOf "are_between" 55, dOf "is_mode" 56, dOf "are_modes" 57, dOf "is_window" 58]
def hfn1 : List He.DefD := [dOf "is_lag" 59, dOf "is_single" 60, dOf "is_late" 61, dOf "check_row" 62, dOf "check_names" 63, dOf "check_frame" 64, dOf "check_rest" 65, dOf "check_singles" 66, dOf "check_people" 67, dOf "check_project" 69, dOf "check_choice" 70, dOf "mode_of" 71, dOf "window_of" 72, dOf "setup_of" 73, dOf "end_at" 76, dOf "event_at" 77, dOf "is_kept" 78, dOf "starts_in" 79, dOf "rules_of" 81, dOf "check_times" 82, dOf "check_most" 83, ⟨("possible_starts", none), "possible_starts", "possible_starts", defArgs (top 84), defBody (top 84), defScope (top 84), [], [("most", .non)]⟩, dOf "all_starts" 85, dOf "led" 86, dOf "greatest_in" 87, dOf "times_in" 88, ⟨("times", none), "times", "times", defArgs (top 89), defBody (top 89), defScope (top 89), [], [("ahead", .adr (kwdAt ("times", none) "ahead")), ("most", .non)]⟩, dOf "_law_well" 91, dOf "_law_draw" 92, dOf "_law_one" 93]
def hfn2 : List He.DefD := [dOf "_law_calendar" 94, dOf "_law_modes" 95, dOf "_law_lags" 96, dOf "_law_single" 97, dOf "_law_drawn" 98, dOf "_law_calendars_of" 99, dOf "_law_project" 100, dOf "_law_choice" 101, dOf "_law_end" 102, dOf "_law_event" 103, dOf "_law_lag_kept" 104, dOf "_law_possible" 105, dOf "_law_setup" 106, dOf "_law_pairs" 107, dOf "_law_is_kept" 108, dOf "_law_all" 109, dOf "_law_longer" 110, dOf "_law_closed" 111, dOf "_law_is_within" 112, dOf "_law_bound_right" 113, dOf "_law_right" 114, dOf "law" 115]
def hfn : List He.DefD := hfn0 ++ (hfn1 ++ (hfn2))
def dfn (i : Nat) : He.DefD := hfn.getD i (dOf "law" 115)
def hnames0 : List PySem.Str := ["CrewError", "NoNumber", "NoShape", "NoActivity", "NoCalendar", "NoProject", "NoChoice", "NoAhead", "is_int", "MAX_CYCLE", "MAX_CHANGES", "is_slot", "check_cycle", "is_change", "check_changes", "Calendar", "planned", "works", "counted", "reached", "end_in", "MAX_MANY_shapes", "MAX_WORKERS", "MAX_SKILLS", "MAX_ASKS", "MAX_NAME", "LETTERS", "SIGNS", "is_name", "is_index"]
def hnames1 : List PySem.Str := ["is_pair", "is_row", "are_skills", "are_asks", "skills_among", "sets_of", "lacking_skills", "check_crew", "is_set", "MAX_MANY_projects", "MAX_TIME", "MAX_AMOUNT", "MAX_MACHINES", "MAX_STOCKS", "MAX_MODES", "MAX_LAGS", "MAX_SINGLES", "MAX_FAMILY", "EVENTS", "is_between", "are_between", "is_mode", "are_modes", "is_window", "is_lag", "is_single", "is_late", "check_row", "check_names", "check_frame"]
def hnames2 : List PySem.Str := ["check_rest", "check_singles", "check_people", "Project", "check_project", "check_choice", "mode_of", "window_of", "setup_of", "MAX_AHEAD", "end_at", "event_at", "is_kept", "starts_in", "Rule", "rules_of", "check_times", "check_most", "possible_starts", "all_starts", "led", "greatest_in", "times_in", "times", "_law_well", "_law_draw", "_law_one", "_law_calendar", "_law_modes", "_law_lags"]
def hnames3 : List PySem.Str := ["_law_single", "_law_drawn", "_law_calendars_of", "_law_project", "_law_choice", "_law_end", "_law_event", "_law_lag_kept", "_law_possible", "_law_setup", "_law_pairs", "_law_is_kept", "_law_all", "_law_longer", "_law_closed", "_law_is_within", "_law_bound_right", "_law_right"]
def hnames : List PySem.Str := hnames0 ++ (hnames1 ++ (hnames2 ++ (hnames3)))
def htf : List He.Defn := [("check_names", none), ("check_frame", none), ("check_rest", none), ("check_singles", none), ("sets_of", none)]
def hex (K : PySem.W.Frag) : Bool := clsIB K (He.ga K "Calendar") && (clsIB K (He.ga K "Project") && (clsIB K (He.ga K "Rule") && (He.tupB K "EVENTS" [.str "start", .str "end"] && (tupA K (kwdAt ("times", none) "ahead" K) && decide ((htf.map fun p => (He.cT K p).2).Nodup)))))
abbrev adOf (K : PySem.W.Frag) : Ads := ⟨He.ga K "Calendar", He.ga K "Project", He.ga K "Rule"⟩
abbrev tabsW (K : PySem.W.Frag) : List NTab := [((He.cT K ("check_names", none)).2, fun _ _ => "check_names.<locals>.<lambda>"), ((He.cT K ("check_frame", none)).2, fun _ _ => "check_frame.<locals>.<lambda>"), ((He.cT K ("check_rest", none)).2, fun _ _ => "check_rest.<locals>.<lambda>"), ((He.cT K ("check_singles", none)).2, fun _ _ => "check_singles.<locals>.<lambda>"), ((He.cT K ("sets_of", none)).2, fun _ _ => "sets_of.<locals>.<lambda>")]
abbrev wdW (P : Program) (w : World) (K : PySem.W.Frag) (mg : Str → Option Value) (base : Heap) : Wd := ⟨P, w, K, mg, base, fun _ => ⟨"", ⟨[], [], none, [], [], none, []⟩, .Constant .none 0 ⟨0, 0, 0, 0⟩, ⟨.function, [], false, false, []⟩⟩, tabsW K⟩
abbrev R0 : PySem.W.OpenRow := PySem.W.OpenLaw.row PySem.Challenge.rw_crewlags_k65_whole_starts_that_are_close
/-- all addresses behind the top -/
def asL : List Addr := List.range 747
abbrev kL (g : Addr → Option Obj) : PySem.W.Frag := He.frT g asL
abbrev AlL : Type := (Bool × Bool) × List He.FnW × Bool
def obsL (g : Addr → Option Obj) : AlL := ((hfa.all fun f => f.ok (kL g), hfn.all fun d => d.ok (kL g)), hfn.map fun d => He.fnW (kL g) d.at_, hex (kL g) && He.tabsB g htf (kL g))
abbrev valL : AlL := ((true, true), hfn.map He.DefD.val, true)
theorem saysL_of {w : World} {h : Heap} (e : obsL h.get? = valL) : He.SaysX hfa hfn [] htf hex w h (kL h.get?) := by
  have e1 : (hfa.all fun f => f.ok (kL h.get?)) = true := congrArg (fun z : AlL => z.1.1) e
  have e2 : (hfn.all fun d => d.ok (kL h.get?)) = true := congrArg (fun z : AlL => z.1.2) e
  have e3 : (hfn.map fun d => He.fnW (kL h.get?) d.at_) = hfn.map He.DefD.val := congrArg (fun z : AlL => z.2.1) e
  have e4 : (hex (kL h.get?) && He.tabsB h.get? htf (kL h.get?)) = true := congrArg (fun z : AlL => z.2.2) e
  obtain ⟨e5, e6⟩ := Bool.and_eq_true_iff.mp e4
  have tab : ∀ p ∈ htf, PySem.W.codeHdIn (kL h.get?) (He.cT (kL h.get?) p).1 (He.cT (kL h.get?) p).2 = true ∧ ∃ o, h.get? (He.cT (kL h.get?) p).2 = some o ∧ He.emptyTab o = true := fun p hp => by
    obtain ⟨h1, h2⟩ := Bool.and_eq_true_iff.mp (List.all_eq_true.mp e6 p hp)
    refine ⟨h1, ?_⟩
    cases q : h.get? (He.cT (kL h.get?) p).2 with
    | none => rw [q] at h2; cases h2
    | some o => rw [q] at h2; exact ⟨o, rfl, h2⟩
  refine ⟨?_, e5, fun p hp => (tab p hp).1, fun p hp => ?_, fun p hp => ?_⟩
  · show ((((hfa.all fun f => f.ok (kL h.get?)) && hfn.all fun d => d.ok (kL h.get?)), hfn.map fun d => He.fnW (kL h.get?) d.at_), ([] : List _)) = _
    rw [e1, e2, e3]
    rfl
  · obtain ⟨_, o, q, z⟩ := tab p hp
    exact He.frT_none q z
  · obtain ⟨_, o, q, z⟩ := tab p hp
    rw [q, He.emptyTab_eq z]
def hkL : PySem.W.Hook where
  α := AlL
  obs := fun s => obsL s.heap.get?
  val := fun _ => valL
  says := fun w h => ∃ K : PySem.W.Frag, K.In h ∧ He.SaysX hfa hfn [] htf hex w h K
  of := fun _ _ e => ⟨_, He.frT_in, saysL_of e⟩
  keeps := fun _ _ _ ⟨K, hK, c⟩ k => ⟨K, PySem.W.Frag.In.keeps hK k, ⟨c.t, c.more, c.hd, c.out, fun p hp => k _ _ (c.empty p hp)⟩⟩
abbrev obL (s : PySem.W.SharedT) : AlL := obsL (HandSHeadRun.getT s)
theorem obL_eq (s : PySem.W.SharedT) : obL s = hkL.obs s.abs := by
  have e : HandSHeadRun.getT s = s.abs.heap.get? := funext (HandSHeadRun.getT_eq s)
  show obsL (HandSHeadRun.getT s) = obsL s.abs.heap.get?
  rw [e]
noncomputable abbrev endL (w : World) (os : OsState) : Option PySem.W.SharedT := HandSHeadRun.endF (HandSHeadRun.stepQ (HandSHeadRun.denQ HandSHeadRun.tabQ) R0.prog w) 6000 R0.prog w os
theorem runA (w : World) (os : OsState) : (endL w os).map (fun s => (HandSHeadRun.looksF R0.prog (PySem.W.boot_heap w.params) s.abs, HandSHeadRun.seenQ (PySem.W.view R0.prog [115]) hnames (importedModules R0.prog.main.body) (fun s => PySem.W.xlAt (PySem.W.view R0.prog [115]) [] s && PySem.W.recOk R0.toRowW.records s) s.abs)) = some (true, PySem.W.openGood (PySem.W.view R0.prog [115]) hnames) := by
  kernel_rfl
theorem runB (w : World) (os : OsState) : (endL w os).map (fun s => (hfa.all fun f => f.ok (kL (HandSHeadRun.getT s)), hex (kL (HandSHeadRun.getT s)) && He.tabsB (HandSHeadRun.getT s) htf (kL (HandSHeadRun.getT s)))) = some (true, true) := by
  kernel_rfl
theorem runC (w : World) (os : OsState) : (endL w os).map (fun s => hfn.map fun d => He.fnW (kL (HandSHeadRun.getT s)) d.at_) = some (hfn.map He.DefD.val) := by
  kernel_rfl
theorem runD (w : World) (os : OsState) : (endL w os).map (fun s => hfn.all fun d => d.ok (kL (HandSHeadRun.getT s))) = some true := by
  kernel_rfl
end DL

/-! DlO -/
set_option Elab.async false
set_option linter.all false
set_option maxRecDepth 100000
set_option maxHeartbeats 4000000
namespace DL
open PySem PySem.Spec PyProof.Rows L2
open NdefX (NTab TabsN TabN)
/-! ### comprehensions: the usual forms -/
theorem map_get {α β : Type} {l : List α} {f : α → β} {i : Nat} {y : β} (h : (l.map f)[i]? = some y) : ∃ x, l[i]? = some x ∧ y = f x := by
  rw [List.getElem?_map] at h
  cases e : l[i]? with
  | none => rw [e] at h; cases h
  | some x => rw [e] at h; cases h; exact ⟨x, rfl, rfl⟩
theorem enum_get {l : List Dat} {i : Nat} {y : Dat} (h : (enumD l)[i]? = some y) : ∃ x, l[i]? = some x ∧ y = .tup [.int (i : Nat), x] := by
  rw [enumD_get] at h
  cases e : l[i]? with
  | none => rw [e] at h; cases h
  | some x => rw [e] at h; cases h; exact ⟨x, rfl, rfl⟩
inductive F2 {α β : Type} (R : α → β → Prop) : List α → List β → Prop
  | nil : F2 R [] []
  | cons {a b as bs} : R a b → F2 R as bs → F2 R (a :: as) (b :: bs)
theorem F2.len {α β : Type} {R : α → β → Prop} : ∀ {l : List α} {m : List β}, F2 R l m → l.length = m.length
  | _, _, .nil => rfl
  | _, _, .cons _ r => congrArg Nat.succ r.len
theorem F2.snoc {α β : Type} {R : α → β → Prop} {a : α} {b : β} (h : R a b) : ∀ {l : List α} {m : List β}, F2 R l m → F2 R (l ++ [a]) (m ++ [b])
  | _, _, .nil => .cons h .nil
  | _, _, .cons q r => .cons q (F2.snoc h r)
theorem F2.get {α β : Type} {R : α → β → Prop} : ∀ {l : List α} {m : List β} {i : Nat} {b : β}, F2 R l m → m[i]? = some b → ∃ a, l[i]? = some a ∧ R a b
  | _, _, _, _, .nil, e => by simp at e
  | _, _, 0, _, .cons h _, e => by simp at e; subst e; exact ⟨_, rfl, h⟩
  | _, _, i + 1, _, .cons _ r, e => by
    obtain ⟨a, h1, h2⟩ := F2.get (i := i) r (by simpa using e)
    exact ⟨a, by simpa using h1, h2⟩
theorem F2.mem {α β : Type} {R : α → β → Prop} : ∀ {l : List α} {m : List β} {b : β}, F2 R l m → b ∈ m → ∃ a, a ∈ l ∧ R a b
  | _, _, _, .nil, e => by cases e
  | _, _, _, .cons h r, e => by
    rcases List.mem_cons.mp e with rfl | e
    · exact ⟨_, by simp, h⟩
    · obtain ⟨a, h1, h2⟩ := F2.mem r e
      exact ⟨a, by simp [h1], h2⟩
theorem take_snoc {α : Type} {l : List α} {i : Nat} {x : α} (h : l[i]? = some x) : l.take (i + 1) = l.take i ++ [x] := by
  rw [List.take_succ, h]; rfl
section
variable {X : Cx} {B : Bx} {δ : List Sl} {tg elt : Expr} {ifs : List Expr} {sc : Scope} {own : List (Str × Nat)} {is : List Nat} {α β : Type} {l : List α} {g : α → Dat} {kp : List Sl → Prop} {Q : List Dat → Prop}
theorem lcq_map {h : α → Dat} (hl : l.length ≤ 100000) (hk : kp (wipeD δ (own.map (·.2)))) (st : ∀ (i : Nat) (x : α), l[i]? = some x → ∀ (Y : Dat → Prop) (N : Prop), Y (h x) → LcStep X B sc own tg elt ifs is δ (g x) Y N) (q : Q (l.map h)) : LcQ X B sc own tg elt ifs is δ Q (l.map g) kp := by
  refine ⟨by rw [List.length_map]; exact hl, hk, fun i acc => acc = (l.take i).map h, by simp, fun i d acc ed rl => ?_, fun acc rl => ?_⟩
  · obtain ⟨x, ex, rfl⟩ := map_get ed
    refine st i x ex _ _ ?_
    subst rl
    show _ = _
    rw [take_snoc ex, List.map_append]; rfl
  · rw [rl, List.length_map, List.take_length]; exact q
theorem lcq_filter {h : α → Dat} {p : α → Bool} (hl : l.length ≤ 100000) (hk : kp (wipeD δ (own.map (·.2)))) (st : ∀ (i : Nat) (x : α), l[i]? = some x → ∀ (Y : Dat → Prop) (N : Prop), (p x = true → Y (h x)) → (p x = false → N) → LcStep X B sc own tg elt ifs is δ (g x) Y N) (q : Q ((l.filter p).map h)) : LcQ X B sc own tg elt ifs is δ Q (l.map g) kp := by
  refine ⟨by rw [List.length_map]; exact hl, hk, fun i acc => acc = ((l.take i).filter p).map h, by simp, fun i d acc ed rl => ?_, fun acc rl => ?_⟩
  · obtain ⟨x, ex, rfl⟩ := map_get ed
    refine st i x ex _ _ (fun hp => ?_) (fun hp => ?_)
    · subst rl
      show _ = _
      rw [take_snoc ex, List.filter_append, List.map_append]; simp [hp]
    · subst rl
      show _ = _
      rw [take_snoc ex, List.filter_append]; simp [hp]
  · rw [rl, List.length_map, List.take_length]; exact q
/-- what is left is the things themselves -/
theorem lcq_same {ds : List Dat} {p : Dat → Bool} (hl : ds.length ≤ 100000) (hk : kp (wipeD δ (own.map (·.2)))) (st : ∀ (i : Nat) (x : Dat), ds[i]? = some x → ∀ (Y : Dat → Prop) (N : Prop), (p x = true → Y x) → (p x = false → N) → LcStep X B sc own tg elt ifs is δ x Y N) (q : Q (ds.filter p)) : LcQ X B sc own tg elt ifs is δ Q ds kp := by
  have e : ds = ds.map fun x => x := by simp
  rw [e]
  refine lcq_filter (h := fun x => x) (p := p) hl hk st ?_
  simpa using q
theorem lcq_rel {h : β → Dat} {R : α → β → Prop} (hl : l.length ≤ 100000) (hk : kp (wipeD δ (own.map (·.2)))) (st : ∀ (i : Nat) (x : α), l[i]? = some x → ∀ (Y : Dat → Prop) (N : Prop), (∀ y, R x y → Y (h y)) → LcStep X B sc own tg elt ifs is δ (g x) Y N) (q : ∀ ys, F2 R l ys → Q (ys.map h)) : LcQ X B sc own tg elt ifs is δ Q (l.map g) kp := by
  refine ⟨by rw [List.length_map]; exact hl, hk, fun i acc => ∃ ys, acc = ys.map h ∧ F2 R (l.take i) ys, ⟨[], rfl, by simp; exact .nil⟩, fun i d acc ed rl => ?_, fun acc rl => ?_⟩
  · obtain ⟨x, ex, rfl⟩ := map_get ed
    obtain ⟨ys, ea, f⟩ := rl
    refine st i x ex _ _ fun y hy => ⟨ys ++ [y], by rw [ea, List.map_append]; rfl, ?_⟩
    rw [take_snoc ex]; exact f.snoc hy
  · obtain ⟨ys, ea, f⟩ := rl
    rw [List.length_map, List.take_length] at f
    rw [ea]; exact q ys f
end
/-! ### readings of lists -/
theorem atI_nat' {α : Type} {l : List α} {i : Nat} {x : α} (h : l[i]? = some x) : atI l (i : Int) = some x := atI_nat h
theorem atI_mapN {α β : Type} {l : List α} {f : α → β} {i : Int} {x : α} (h0 : 0 ≤ i) (h : l[i.toNat]? = some x) : atI (l.map f) i = some (f x) := by
  have : i = (i.toNat : Int) := by omega
  rw [this]
  exact atI_nat (by rw [List.getElem?_map, h]; rfl)
theorem getD_get {α : Type} {l : List α} {i : Nat} {d : α} (h : i < l.length) : l[i]? = some (l.getD i d) := by
  rw [List.getElem?_eq_getElem h, List.getD, List.getElem?_eq_getElem h]; rfl
end DL

/-! MthA -/
set_option Elab.async false
set_option linter.all false
namespace Mth
/-! a calendar: its cycle, its changes -/
structure CalM where
  cyc : List Bool
  chg : List (Int × Bool)
def ascC : Int → List (Int × Bool) → Prop
  | _, [] => True
  | m, p :: r => m < p.1 ∧ ascC p.1 r
structure OkC (c : CalM) : Prop where
  l1 : 1 ≤ c.cyc.length
  l4 : c.cyc.length ≤ 4
  tr : true ∈ c.cyc
  m : c.chg.length ≤ 8
  asc : ascC (-1) c.chg
  lt : ∀ p ∈ c.chg, p.1 < 8
def pl (c : CalM) (t : Nat) : Bool := c.cyc.getD (t % c.cyc.length) false
def look : List (Int × Bool) → Nat → Option Bool
  | [], _ => none
  | p :: r, t => if p.1 = (t : Int) then some p.2 else look r t
def wk (c : CalM) (t : Nat) : Bool := (look c.chg t).getD (pl c t)
def bint (b : Bool) : Int := if b then 1 else 0
theorem b2i_ge (b : Bool) : 0 ≤ bint b := by cases b <;> decide
theorem b2i_le (b : Bool) : bint b ≤ 1 := by cases b <;> decide
def cnt (c : CalM) : Nat → Int
  | 0 => 0
  | t + 1 => cnt c t + bint (wk c t)
theorem cnt_mono {c : CalM} {s t : Nat} (h : s ≤ t) : cnt c s ≤ cnt c t := by
  induction t with
  | zero => have : s = 0 := by omega
            subst this; exact Int.le_refl _
  | succ t ih =>
    by_cases e : s = t + 1
    · subst e; exact Int.le_refl _
    · have := ih (by omega)
      have := b2i_ge (wk c t)
      show cnt c s ≤ cnt c t + bint (wk c t)
      omega
/-! the count by the formula -/
def sumB (l : List Bool) : Int := (l.map bint).sum
def gP (c : CalM) (t : Nat) : Int := ((t / c.cyc.length : Nat) : Int) * sumB c.cyc + sumB (c.cyc.take (t % c.cyc.length))
def chgS (c : CalM) (t : Nat) : List (Int × Bool) → Int
  | [] => 0
  | p :: r => (if p.1 < (t : Int) then bint p.2 - bint (pl c p.1.toNat) else 0) + chgS c t r
theorem sumB_take_succ {l : List Bool} {i : Nat} (h : i < l.length) : sumB (l.take (i + 1)) = sumB (l.take i) + bint (l.getD i false) := by
  unfold sumB
  rw [List.take_succ, List.getElem?_eq_getElem h, List.map_append, List.sum_append]
  simp [List.getD, List.getElem?_eq_getElem h]
theorem gP_zero (c : CalM) : gP c 0 = 0 := by
  unfold gP sumB; simp
theorem gP_succ {c : CalM} (h : 1 ≤ c.cyc.length) (t : Nat) : gP c (t + 1) = gP c t + bint (pl c t) := by
  unfold gP pl
  have hm : t % c.cyc.length < c.cyc.length := Nat.mod_lt _ h
  have hd := Nat.div_add_mod t c.cyc.length
  by_cases e : t % c.cyc.length + 1 = c.cyc.length
  · have q : (t + 1) / c.cyc.length = t / c.cyc.length + 1 ∧ (t + 1) % c.cyc.length = 0 := by
      have z : t + 1 = c.cyc.length * (t / c.cyc.length + 1) := by rw [Nat.mul_add, Nat.mul_one]; omega
      constructor
      · rw [z, Nat.mul_div_cancel_left _ (by omega)]
      · rw [z]; exact Nat.mul_mod_right _ _
    rw [q.1, q.2]
    have s := sumB_take_succ hm
    rw [e, List.take_length] at s
    rw [List.take_zero]
    have z : sumB ([] : List Bool) = 0 := rfl
    rw [z]
    have w : (((t / c.cyc.length + 1 : Nat)) : Int) * sumB c.cyc = ((t / c.cyc.length : Nat) : Int) * sumB c.cyc + sumB c.cyc := by
      rw [Int.natCast_add, Int.add_mul]; simp
    rw [w]
    omega
  · have q : (t + 1) / c.cyc.length = t / c.cyc.length ∧ (t + 1) % c.cyc.length = t % c.cyc.length + 1 := by
      have z : t + 1 = c.cyc.length * (t / c.cyc.length) + (t % c.cyc.length + 1) := by omega
      have lt : t % c.cyc.length + 1 < c.cyc.length := by omega
      constructor
      · rw [z, Nat.mul_add_div (by omega), Nat.div_eq_of_lt lt]; rfl
      · rw [z, Nat.mul_add_mod, Nat.mod_eq_of_lt lt]
    rw [q.1, q.2, sumB_take_succ hm]
    omega
theorem chgS_zero {c : CalM} : ∀ {l : List (Int × Bool)}, (∀ p ∈ l, 0 ≤ p.1) → chgS c 0 l = 0
  | [], _ => rfl
  | p :: r, h => by
    unfold chgS
    have := h p (by simp)
    rw [if_neg (by omega), chgS_zero fun q hq => h q (by simp [hq])]
    rfl
theorem asc_gt {m : Int} : ∀ {l : List (Int × Bool)}, ascC m l → ∀ p ∈ l, m < p.1
  | [], _, p, hp => by cases hp
  | q :: r, h, p, hp => by
    rcases List.mem_cons.mp hp with rfl | hp
    · exact h.1
    · exact Int.lt_trans h.1 (asc_gt h.2 p hp)
theorem chgS_succ {c : CalM} {t : Nat} : ∀ {l : List (Int × Bool)} {m : Int}, ascC m l → -1 ≤ m → chgS c (t + 1) l = chgS c t l + ((look l t).map fun b => bint b - bint (pl c t)).getD 0
  | [], _, _, _ => rfl
  | p :: r, m, h, hm => by
    unfold chgS look
    have hp : m < p.1 := h.1
    by_cases e : p.1 = (t : Int)
    · rw [if_pos e, if_pos (by omega), if_neg (by omega)]
      have z : chgS c (t + 1) r = chgS c t r := by
        have hr := chgS_succ (c := c) (t := t) h.2 (by omega)
        have nl : ∀ {l : List (Int × Bool)}, (∀ q ∈ l, (t : Int) < q.1) → look l t = none := by
          intro l
          induction l with
          | nil => intro _; rfl
          | cons q r ih =>
            intro hl
            unfold look
            have := hl q (by simp)
            rw [if_neg (by omega)]
            exact ih fun q hq => hl q (by simp [hq])
        rw [hr, nl fun q hq => by have := asc_gt h.2 q hq; omega]
        simp
      rw [z, e]
      simp
      omega
    · rw [if_neg e, chgS_succ (c := c) (t := t) h.2 (by omega)]
      by_cases e2 : p.1 < (t : Int)
      · rw [if_pos (by omega), if_pos e2]; omega
      · rw [if_neg (by omega), if_neg e2]; omega
theorem cnt_form {c : CalM} (h : OkC c) (t : Nat) : gP c t + chgS c t c.chg = cnt c t := by
  induction t with
  | zero => rw [gP_zero, chgS_zero fun p hp => by have := asc_gt h.asc p hp; omega]; rfl
  | succ t ih =>
    rw [gP_succ h.l1, chgS_succ h.asc (by omega)]
    show _ = cnt c t + bint (wk c t)
    rw [← ih]
    unfold wk
    cases look c.chg t with
    | none => simp; omega
    | some b => simp; omega
/-! bounds of the count -/
theorem chgS_le {c : CalM} {t : Nat} : ∀ {l : List (Int × Bool)}, chgS c t l ≤ l.length ∧ -(l.length : Int) ≤ chgS c t l
  | [] => ⟨Int.le_refl _, Int.le_refl _⟩
  | p :: r => by
    obtain ⟨h1, h2⟩ := chgS_le (c := c) (t := t) (l := r)
    have a1 := b2i_ge p.2
    have a2 := b2i_le p.2
    have a3 := b2i_ge (pl c p.1.toNat)
    have a4 := b2i_le (pl c p.1.toNat)
    unfold chgS
    rw [List.length_cons]
    split <;> omega
theorem gP_mul {c : CalM} (h : 1 ≤ c.cyc.length) (k : Nat) : gP c (c.cyc.length * k) = k * sumB c.cyc := by
  unfold gP
  rw [Nat.mul_div_cancel_left _ (by omega), Nat.mul_mod_right, List.take_zero]
  have z : sumB ([] : List Bool) = 0 := rfl
  rw [z]; omega
theorem sumB_pos : ∀ {l : List Bool}, true ∈ l → 1 ≤ sumB l
  | [], h => by cases h
  | b :: r, h => by
    have nn : ∀ l : List Bool, 0 ≤ sumB l := fun l => by
      induction l with
      | nil => exact Int.le_refl _
      | cons a r ih => have := b2i_ge a; show 0 ≤ ((a :: r).map bint).sum; rw [List.map_cons, List.sum_cons]; unfold sumB at ih; omega
    have e : sumB (b :: r) = bint b + sumB r := by unfold sumB; rw [List.map_cons, List.sum_cons]
    rw [e]
    rcases List.mem_cons.mp h with rfl | h
    · have := nn r; show 1 ≤ 1 + sumB r; omega
    · have := sumB_pos h; have := b2i_ge b; omega
/-! the least t with m of them -/
def Least (c : CalM) (m : Int) (e : Nat) : Prop := m ≤ cnt c e ∧ ∀ t, t < e → cnt c t < m
theorem Least.uniq {c : CalM} {m : Int} {e f : Nat} (h : Least c m e) (h' : Least c m f) : e = f := by
  rcases Nat.lt_trichotomy e f with z | z | z
  · have := h'.2 e z; have := h.1; omega
  · exact z
  · have := h.2 f z; have := h'.1; omega
/-! the law's scan -/
def scan (c : CalM) : Nat → Nat → Nat → Nat
  | 0, _, _ => 999
  | f + 1, t, left => if wk c t = true then (if left = 1 then t + 1 else scan c f (t + 1) (left - 1)) else scan c f (t + 1) left
/-- enough of them come -/
theorem wk_soon {c : CalM} (h : OkC c) (t : Nat) (ht : 8 ≤ t) : ∃ d, d < 4 ∧ wk c (t + d) = true := by
  obtain ⟨i, hi, e⟩ := List.mem_iff_getElem.mp h.tr
  have l1 := h.l1
  have l4 := h.l4
  have nl : ∀ s, 8 ≤ s → wk c s = pl c s := fun s hs => by
    have : look c.chg s = none := by
      have go : ∀ {l : List (Int × Bool)}, (∀ q ∈ l, q.1 < 8) → look l s = none := by
        intro l
        induction l with
        | nil => intro _; rfl
        | cons q r ih =>
          intro hl
          unfold look
          have := hl q (by simp)
          rw [if_neg (by omega)]
          exact ih fun q hq => hl q (by simp [hq])
      exact go h.lt
    unfold wk; rw [this]; rfl
  -- a place of the cycle is met within its length
  have hm : t % c.cyc.length < c.cyc.length := Nat.mod_lt _ (by omega)
  refine ⟨(i + c.cyc.length - t % c.cyc.length) % c.cyc.length, ?_, ?_⟩
  · have := Nat.mod_lt (i + c.cyc.length - t % c.cyc.length) (show 0 < c.cyc.length by omega)
    omega
  · rw [nl _ (by omega)]
    unfold pl
    have z : (t + (i + c.cyc.length - t % c.cyc.length) % c.cyc.length) % c.cyc.length = i := by
      rw [Nat.add_mod_mod, Nat.add_mod]
      have hd := Nat.div_add_mod t c.cyc.length
      by_cases q : t % c.cyc.length ≤ i
      · have e2 : (i + c.cyc.length - t % c.cyc.length) % c.cyc.length = i - t % c.cyc.length := by
          have : i + c.cyc.length - t % c.cyc.length = (i - t % c.cyc.length) + c.cyc.length := by omega
          rw [this, Nat.add_mod_right, Nat.mod_eq_of_lt (by omega)]
        rw [e2, Nat.mod_eq_of_lt (by omega)]
        omega
      · have e2 : (i + c.cyc.length - t % c.cyc.length) % c.cyc.length = i + c.cyc.length - t % c.cyc.length := Nat.mod_eq_of_lt (by omega)
        rw [e2]
        have : t % c.cyc.length + (i + c.cyc.length - t % c.cyc.length) = i + c.cyc.length := by omega
        rw [this, Nat.add_mod_right, Nat.mod_eq_of_lt hi]
    rw [z, List.getD, List.getElem?_eq_getElem hi, e]
    rfl
theorem cnt_soon {c : CalM} (h : OkC c) (b : Nat) : ∀ w : Nat, cnt c b + w ≤ cnt c (b + 8 + 4 * w)
  | 0 => by have := cnt_mono (c := c) (s := b) (t := b + 8 + 4 * 0) (by omega); omega
  | w + 1 => by
    have ih := cnt_soon h b w
    obtain ⟨d, hd, e⟩ := wk_soon h (b + 8 + 4 * w) (by omega)
    have m1 := cnt_mono (c := c) (s := b + 8 + 4 * w) (t := b + 8 + 4 * w + d) (by omega)
    have m2 : cnt c (b + 8 + 4 * w + d + 1) = cnt c (b + 8 + 4 * w + d) + bint (wk c (b + 8 + 4 * w + d)) := rfl
    have m3 := cnt_mono (c := c) (s := b + 8 + 4 * w + d + 1) (t := b + 8 + 4 * (w + 1)) (by omega)
    rw [e] at m2
    have : bint true = 1 := rfl
    omega
theorem scan_least {c : CalM} : ∀ (f t w : Nat), 1 ≤ w → cnt c t + w ≤ cnt c (t + f) → Least c (cnt c t + w) (scan c f t w)
  | 0, t, w, h1, h => by simp at h; omega
  | f + 1, t, w, h1, h => by
    unfold scan
    have m2 : cnt c (t + 1) = cnt c t + bint (wk c t) := rfl
    by_cases e : wk c t = true
    · rw [if_pos e]
      rw [e] at m2
      have b1 : bint true = 1 := rfl
      by_cases e2 : w = 1
      · rw [if_pos e2]
        refine ⟨by omega, fun s hs => ?_⟩
        have := cnt_mono (c := c) (s := s) (t := t) (by omega)
        omega
      · rw [if_neg e2]
        have ih := scan_least (c := c) f (t + 1) (w - 1) (by omega) (by
          have : t + 1 + f = t + (f + 1) := by omega
          rw [this]; omega)
        have z : cnt c (t + 1) + ((w - 1 : Nat) : Int) = cnt c t + w := by omega
        rw [z] at ih; exact ih
    · rw [if_neg e]
      have : bint (wk c t) = 0 := by unfold bint; rw [if_neg e]
      have ih := scan_least (c := c) f (t + 1) w h1 (by
        have : t + 1 + f = t + (f + 1) := by omega
        rw [this]; omega)
      have z : cnt c (t + 1) + (w : Int) = cnt c t + w := by omega
      rw [z] at ih; exact ih
/-- when the work of w slots that begins at b ends -/
def endC (c : CalM) (b w : Nat) : Option Nat := if w = 0 then some b else if wk c b = true then some (scan c 60 b w) else none
theorem endC_least {c : CalM} (h : OkC c) {b w : Nat} (hw : 1 ≤ w) (h3 : w ≤ 3) : Least c (cnt c b + w) (scan c 60 b w) :=
  scan_least 60 b w hw (by
    have z := cnt_soon h b w
    have m3 := cnt_mono (c := c) (s := b + 8 + 4 * w) (t := b + 60) (by omega)
    omega)
end Mth

/-! MthB -/
set_option Elab.async false
set_option linter.all false
namespace Mth
theorem exists_least {c : CalM} {m : Int} : ∀ {t : Nat}, m ≤ cnt c t → ∃ e, Least c m e ∧ e ≤ t
  | 0, h => ⟨0, ⟨h, fun t ht => by omega⟩, Nat.le_refl _⟩
  | t + 1, h => by
    by_cases e : m ≤ cnt c t
    · obtain ⟨e, l, le⟩ := exists_least e
      exact ⟨e, l, by omega⟩
    · refine ⟨t + 1, ⟨h, fun s hs => ?_⟩, Nat.le_refl _⟩
      have := cnt_mono (c := c) (s := s) (t := t) (by omega)
      omega
theorem fdiv_bounds {a b : Int} (hb : 0 < b) : b * (a.fdiv b) ≤ a ∧ a < b * (a.fdiv b) + b := by
  rw [Int.fdiv_eq_ediv_of_nonneg a (by omega)]
  have h1 := Int.emod_add_mul_ediv a b
  have h2 := Int.emod_nonneg a (show b ≠ 0 by omega)
  have h3 := Int.emod_lt_of_pos a hb
  constructor <;> omega
theorem reach_bounds {c : CalM} (h : OkC c) {m : Int} (hm : 0 ≤ m) : ∃ e, Least c m e ∧
    (c.cyc.length : Int) * max 0 ((m - c.chg.length).fdiv (sumB c.cyc) - 1) ≤ e ∧ (e : Int) ≤ (c.cyc.length : Int) * ((m + c.chg.length).fdiv (sumB c.cyc) + 1) := by
  have hs := sumB_pos h.tr
  obtain ⟨u1, u2⟩ := fdiv_bounds (a := m + c.chg.length) (b := sumB c.cyc) (by omega)
  obtain ⟨v1, v2⟩ := fdiv_bounds (a := m - c.chg.length) (b := sumB c.cyc) (by omega)
  generalize hU : (m + c.chg.length).fdiv (sumB c.cyc) = U at *
  generalize hV : (m - c.chg.length).fdiv (sumB c.cyc) = V at *
  have hU0 : 0 ≤ U := by
    rw [← hU, Int.fdiv_eq_ediv_of_nonneg _ (by omega)]
    exact Int.ediv_nonneg (by omega) (by omega)
  have cn : ∀ k : Nat, cnt c (c.cyc.length * k) ≤ k * sumB c.cyc + c.chg.length ∧ k * sumB c.cyc - c.chg.length ≤ cnt c (c.cyc.length * k) := fun k => by
    have f := cnt_form h (c.cyc.length * k)
    rw [gP_mul h.l1] at f
    obtain ⟨a1, a2⟩ := chgS_le (c := c) (t := c.cyc.length * k) (l := c.chg)
    constructor <;> omega
  obtain ⟨kU, eU⟩ : ∃ k : Nat, (k : Int) = U + 1 := ⟨(U + 1).toNat, by omega⟩
  have top := (cn kU).2
  have hk : (kU : Int) * sumB c.cyc = sumB c.cyc * U + sumB c.cyc := by rw [eU, Int.add_mul, Int.mul_comm U]; omega
  obtain ⟨e, le, lt⟩ := exists_least (c := c) (m := m) (t := c.cyc.length * kU) (by omega)
  refine ⟨e, le, ?_, ?_⟩
  · by_cases hV1 : V - 1 ≤ 0
    · rw [Int.max_eq_left hV1, Int.mul_zero]; omega
    · rw [Int.max_eq_right (by omega)]
      obtain ⟨kV, eV⟩ : ∃ k : Nat, (k : Int) = V - 1 := ⟨(V - 1).toNat, by omega⟩
      have bot := (cn kV).1
      have hk2 : (kV : Int) * sumB c.cyc = sumB c.cyc * V - sumB c.cyc := by rw [eV, Int.sub_mul, Int.mul_comm V]; omega
      rw [← eV]
      have cast : (c.cyc.length : Int) * (kV : Int) = ((c.cyc.length * kV : Nat) : Int) := by rw [Int.natCast_mul]
      rw [cast]
      by_cases q : c.cyc.length * kV ≤ e
      · omega
      · have m1 := cnt_mono (c := c) (s := e) (t := c.cyc.length * kV) (by omega)
        have := le.1
        omega
  · rw [← eU]
    have cast : (c.cyc.length : Int) * (kU : Int) = ((c.cyc.length * kU : Nat) : Int) := by rw [Int.natCast_mul]
    rw [cast]
    omega
end Mth

/-! DfB -/
set_option Elab.async false
set_option linter.all false
set_option maxRecDepth 100000
set_option maxHeartbeats 4000000
namespace DL
open PySem PySem.Spec PyProof.Rows L2
open NdefX (NTab TabsN TabN)
open Mth
section
variable {W : Wd} {ad : Ads}
def S_is_slot : Sc := fun ds Q => ∃ i : Int, ds = [.int i] ∧ 0 ≤ i ∧ Q (.bl true)
theorem c_is_slot (G : Gl0 W ad) : CalD W 2 "is_slot" S_is_slot [] := by
  refine cal_of (N := ["value"]) (ps := ["value"]) G.d_is_slot (by decide +kernel) (fun _ _ _ _ _ _ us hl => match us, hl with | [_], _ => rfl) (fun ds Q ⟨i, e, _⟩ => by rw [e]; rfl) fun f cdv A outer s H E md0 ds Q hr hS => ?_
  obtain ⟨i, rfl, h0, q⟩ := hS
  refine s_one (s_ret (d_and (d_call (c_is_int G) hr (a_cons (d_name 0 rfl (a_nil ⟨i, rfl, ?_⟩))))))
  refine q_b (if_t rfl (d_one (d_ge (d_name 0 rfl (d_int ⟨trivial, ?_⟩)))))
  exact q_tt (decide_eq_true h0) q
def S_is_index : Sc := fun ds Q => ∃ i n : Int, ds = [.int i, .int n] ∧ 0 ≤ i ∧ i < n ∧ Q (.bl true)
theorem c_is_index (G : Gl0 W ad) : CalD W 2 "is_index" S_is_index [] := by
  refine cal_of (N := ["value", "many"]) (ps := ["value", "many"]) G.d_is_index (by decide +kernel) (fun _ _ _ _ _ _ us hl => match us, hl with | [_, _], _ => rfl) (fun ds Q ⟨i, n, e, _⟩ => by rw [e]; rfl) fun f cdv A outer s H E md0 ds Q hr hS => ?_
  obtain ⟨i, n, rfl, h0, h1, q⟩ := hS
  refine s_one (s_ret (d_and (d_call (c_is_int G) hr (a_cons (d_name 0 rfl (a_nil ⟨i, rfl, ?_⟩))))))
  refine q_b (if_t rfl (d_one (d_chLT (d_int (d_name 0 rfl ⟨trivial, q_b (if_t (decide_eq_true h0) (d_name 1 rfl ⟨trivial, ?_⟩))⟩)))))
  exact q_tt (decide_eq_true h1) q
def S_is_between : Sc := fun ds Q => ∃ i a b : Int, ds = [.int i, .int a, .int b] ∧ a ≤ i ∧ i ≤ b ∧ Q (.bl true)
theorem c_is_between (G : Gl0 W ad) : CalD W 2 "is_between" S_is_between [] := by
  refine cal_of (N := ["value", "low", "high"]) (ps := ["value", "low", "high"]) G.d_is_between (by decide +kernel) (fun _ _ _ _ _ _ us hl => match us, hl with | [_, _, _], _ => rfl) (fun ds Q ⟨i, a, b, e, _⟩ => by rw [e]; rfl) fun f cdv A outer s H E md0 ds Q hr hS => ?_
  obtain ⟨i, a, b, rfl, h0, h1, q⟩ := hS
  refine s_one (s_ret (d_and (d_call (c_is_int G) hr (a_cons (d_name 0 rfl (a_nil ⟨i, rfl, ?_⟩))))))
  refine q_b (if_t rfl (d_one (d_chLL (d_name 1 rfl (d_name 0 rfl ⟨trivial, q_b (if_t (decide_eq_true h0) (d_name 2 rfl ⟨trivial, ?_⟩))⟩)))))
  exact q_tt (decide_eq_true h1) q
/-- a list | tuple, not too long -/
def S_is_row : Sc := fun ds Q => ∃ (xs : List Dat) (n : Int) (d : Dat), ds = [d, .int n] ∧ (d = .tup xs ∨ d = .lst xs) ∧ (xs.length : Int) ≤ n ∧ Q (.bl true)
theorem c_is_row (G : Gl0 W ad) : CalD W 1 "is_row" S_is_row [] := by
  refine cal_of (N := ["value", "most"]) (ps := ["value", "most"]) G.d_is_row (by decide +kernel) (fun _ _ _ _ _ _ us hl => match us, hl with | [_, _], _ => rfl) (fun ds Q ⟨xs, n, d, e, _⟩ => by rw [e]; rfl) fun f cdv A outer s H E md0 ds Q hr hS => ?_
  obtain ⟨xs, n, d, rfl, hd, h1, q⟩ := hS
  refine s_one (s_ret (d_and (d_isi G.b_isinstance (d_name 0 rfl (d_tup (a_cons (d_blt G.b_list boot_list (a_cons (d_blt G.b_tuple boot_tuple (a_nil ⟨by simp, ?_⟩)))))))))) 
  rcases hd with rfl | rfl
  · refine isiQ_lt rfl (.inl rfl) (q_b (if_t rfl (d_one (d_le (d_len G.b_len (d_name 0 rfl (d_name 1 rfl ⟨trivial, ?_⟩)))))))
    exact q_tt (decide_eq_true h1) q
  · refine isiQ_lt rfl (.inr rfl) (q_b (if_t rfl (d_one (d_le (d_len G.b_len (d_name 0 rfl (d_name 1 rfl ⟨trivial, ?_⟩)))))))
    exact q_tt (decide_eq_true h1) q
/-! ### calendars -/
abbrev dChg (p : Int × Bool) : Dat := .tup [.int p.1, .bl p.2]
def S_is_change : Sc := fun ds Q => ∃ p : Int × Bool, ds = [dChg p] ∧ 0 ≤ p.1 ∧ Q (.bl true)
theorem c_is_change (G : Gl0 W ad) : CalD W 3 "is_change" S_is_change [] := by
  refine cal_of (N := ["value"]) (ps := ["value"]) G.d_is_change (by decide +kernel) (fun _ _ _ _ _ _ us hl => match us, hl with | [_], _ => rfl) (fun ds Q ⟨i, e, _⟩ => by rw [e]; rfl) fun f cdv A outer s H E md0 ds Q hr hS => ?_
  obtain ⟨p, rfl, h0, q⟩ := hS
  refine s_one (s_ret (d_and (d_isi G.b_isinstance (d_name 0 rfl (d_blt (n := "tuple") G.b_tuple boot_tuple (isiQ_ty rfl kb_tup_tup ?_))))))
  refine q_b (if_t rfl (d_and (d_eq hr.u64 (d_len G.b_len (d_name 0 rfl (d_int (.inl ⟨_, rfl, ?_⟩)))))))
  refine q_b (if_t rfl (d_and (d_call (c_is_slot G) hr (a_cons (d_sub (d_name 0 rfl (d_int ⟨_, rfl, a_nil ⟨p.1, rfl, h0, ?_⟩⟩)))))))
  refine q_b (if_t rfl (d_one (d_isi G.b_isinstance (d_sub (d_name 0 rfl (d_int ⟨_, rfl, d_blt (n := "bool") G.b_bool boot_bool (isiQ_ty rfl kb_bool_bool q)⟩))))))
theorem ascC_get {m : Int} : ∀ {l : List (Int × Bool)} {i : Nat} {p : Int × Bool}, ascC m l → l[i]? = some p → m < p.1 ∧ ∀ {q : Int × Bool}, l[i + 1]? = some q → p.1 < q.1 := by
  intro l
  induction l generalizing m with
  | nil => intro i p _ e; simp at e
  | cons a r ih =>
    intro i p h e
    cases i with
    | zero =>
      simp at e
      subst e
      refine ⟨h.1, fun {q} e2 => ?_⟩
      exact (ih h.2 (i := 0) (by simpa using e2)).1
    | succ i =>
      obtain ⟨h1, h2⟩ := ih h.2 (i := i) (by simpa using e)
      exact ⟨Int.lt_trans h.1 h1, fun {q} e2 => h2 (by simpa using e2)⟩
def S_check_changes : Sc := fun ds Q => ∃ l : List (Int × Bool), ds = [.tup (l.map dChg)] ∧ l.length ≤ 10 ∧ ascC (-1) l ∧ Q .non
theorem c_check_changes (G : Gl0 W ad) : CalD W 4 "check_changes" S_check_changes [] := by
  refine cal_of (N := ["changes", "last", "index", "one"]) (ps := ["changes"]) G.d_check_changes (by decide +kernel) (fun _ _ _ _ _ _ us hl => match us, hl with | [_], _ => rfl) (fun ds Q ⟨i, e, _⟩ => by rw [e]; rfl) fun f cdv A outer s H E md0 ds Q hr hS => ?_
  obtain ⟨l, rfl, hl, ha, q⟩ := hS
  have HN : (["changes", "last", "index", "one"] : List Str).Nodup := by decide
  refine s_cons (s_if (t_bool (w_or (t_not (t_val (d_isi G.b_isinstance (d_name 0 rfl (d_tup (a_cons (d_blt G.b_list boot_list (a_cons (d_blt G.b_tuple boot_tuple (a_nil ⟨by simp, ?_⟩)))))))))))))
  refine isiQ_lt rfl (.inl rfl) (q_b (if_f (by decide) (w_or1 (t_gt (d_len G.b_len (d_name 0 rfl (d_gint G.i_MAX_CHANGES ⟨trivial, q_b (if_f ?_ (s_nil ?_))⟩)))))))
  · simp; omega
  refine s_cons (s_set 1 (d_neg ?_) HN)
  refine s_one (s_for rfl (i_enum G.b_enumerate (d_name 0 rfl ?_)))
  refine ⟨fun i δ => ∃ m s2 s3, δ = [.d (.tup (l.map dChg)), .d (.int m), s2, s3] ∧ (∀ p, l[i]? = some p → m < p.1), ⟨-1, _, _, rfl, fun p e => (ascC_get ha e).1⟩, fun i δ _ _ => trivial, fun i d δ ed hI => ?_, fun δ hI => q⟩
  obtain ⟨m, s2, s3, rfl, hm⟩ := hI
  obtain ⟨x, ex, rfl⟩ := enum_get ed
  obtain ⟨p, ep, rfl⟩ := map_get ex
  refine g_tup (n := 2) rfl ⟨rfl, g_cons (g_name 2 (g_cons (g_name 3 (g_nil ?_) HN)) HN)⟩
  have hg := ascC_get ha ep
  refine s_cons (s_if (t_bool (w_or (t_not (t_val (d_call (c_is_change G) hr (a_cons (d_name 3 rfl (a_nil ⟨p, rfl, by omega, q_b (if_f (by decide) (w_or1 ?_))⟩)))))))))
  refine t_le (d_sub (d_name 3 rfl (d_int ⟨_, rfl, d_name 1 rfl ⟨trivial, q_b (if_f ?_ (s_nil ?_))⟩⟩)))
  · have := hm p ep
    simp; omega
  refine s_one (s_set 1 (d_sub (d_name 3 rfl (d_int ⟨_, rfl, ?_⟩))) HN)
  exact ⟨p.1, _, _, rfl, fun q e => hg.2 e⟩
def S_check_cycle : Sc := fun ds Q => ∃ l : List Bool, ds = [.tup (l.map .bl)] ∧ 1 ≤ l.length ∧ l.length ≤ 14 ∧ true ∈ l ∧ Q .non
theorem c_check_cycle (G : Gl0 W ad) : CalD W 1 "check_cycle" S_check_cycle [] := by
  refine cal_of (N := ["cycle", "index", "one"]) (ps := ["cycle"]) G.d_check_cycle (by decide +kernel) (fun _ _ _ _ _ _ us hl => match us, hl with | [_], _ => rfl) (fun ds Q ⟨i, e, _⟩ => by rw [e]; rfl) fun f cdv A outer s H E md0 ds Q hr hS => ?_
  obtain ⟨l, rfl, h1, h2, ht, q⟩ := hS
  have HN : (["cycle", "index", "one"] : List Str).Nodup := by decide
  refine s_cons (s_if (t_bool (w_or (t_not (t_val (d_isi G.b_isinstance (d_name 0 rfl (d_tup (a_cons (d_blt G.b_list boot_list (a_cons (d_blt G.b_tuple boot_tuple (a_nil ⟨by simp, ?_⟩)))))))))))))
  refine isiQ_lt rfl (.inl rfl) (q_b (if_f (by decide) ?_))
  refine w_or1 (t_not (t_chLL (d_int (d_len G.b_len (d_name 0 rfl ⟨trivial, ?_⟩)))))
  refine q_b (if_t ?_ (d_gint G.i_MAX_CYCLE ⟨trivial, q_b (if_f ?_ (s_nil ?_))⟩))
  · simp; omega
  · simp; omega
  refine s_cons (s_for rfl (i_enum G.b_enumerate (d_name 0 rfl ?_)))
  refine ⟨fun i δ => ∃ s2 s3, δ = [.d (.tup (l.map .bl)), s2, s3], ⟨_, _, rfl⟩, fun i δ _ _ => trivial, fun i d δ ed hI => ?_, fun δ hI => ?_⟩
  · obtain ⟨s2, s3, rfl⟩ := hI
    obtain ⟨x, ex, rfl⟩ := enum_get ed
    obtain ⟨p, ep, rfl⟩ := map_get ex
    refine g_tup (n := 2) rfl ⟨rfl, g_cons (g_name 1 (g_cons (g_name 2 (g_nil ?_) HN)) HN)⟩
    refine s_one (s_if (t_not (t_val (d_isi G.b_isinstance (d_name 2 rfl (d_blt (n := "bool") G.b_bool boot_bool (isiQ_ty rfl kb_bool_bool (q_b (if_f (by decide) (s_nil ?_))))))))))
    exact ⟨_, _, rfl⟩
  · obtain ⟨s2, s3, rfl⟩ := hI
    refine s_one (s_if (t_notin hr.u65 (d_bl (d_name 0 rfl (.inl ⟨_, .inr rfl, rfl, ?_, if_f ?_ (s_nil q)⟩)))))
    · simp [fl?]
    · simp [eqS]
      exact ht
end
end DL

/-! DfC -/
set_option Elab.async false
set_option linter.all false
set_option maxRecDepth 100000
set_option maxHeartbeats 4000000
namespace DL
open PySem PySem.Spec PyProof.Rows L2
open NdefX (NTab TabsN TabN)
open Mth
section
variable {W : Wd} {ad : Ads}
abbrev dCyc (c : CalM) : Dat := .tup (c.cyc.map .bl)
abbrev dChs (c : CalM) : Dat := .tup (c.chg.map dChg)
abbrev dCal (ad : Ads) (c : CalM) : Dat := .ins ad.calendar [("cycle", dCyc c), ("changes", dChs c)]
def S_planned (ad : Ads) : Sc := fun ds Q => ∃ (c : CalM) (t : Int), ds = [dCal ad c, .int t] ∧ OkC c ∧ 0 ≤ t ∧ Q (.bl (pl c t.toNat))
theorem mod_toNat {t : Int} {n : Nat} (h : 0 ≤ t) : (t % (n : Int)).toNat = t.toNat % n := by
  obtain ⟨k, rfl⟩ := Int.eq_ofNat_of_zero_le h
  rw [← Int.natCast_emod]; rfl
theorem c_planned (G : Gl0 W ad) : CalD W 1 "planned" (S_planned ad) [] := by
  refine cal_of (N := ["calendar", "slot"]) (ps := ["calendar", "slot"]) G.d_planned (by decide +kernel) (fun _ _ _ _ _ _ us hl => match us, hl with | [_, _], _ => rfl) (fun ds Q ⟨c, i, e, _⟩ => by rw [e]; rfl) fun f cdv A outer s H E md0 ds Q hr hS => ?_
  obtain ⟨c, t, rfl, ok, h0, q⟩ := hS
  refine s_one (s_ret ?_)
  refine d_sub ?_
  refine d_fld ?_
  refine d_name 0 rfl ?_
  refine ⟨G.ci_calendar.cl, G.na_calendar_cycle, _, rfl, ?_⟩
  refine d_mod ?_
  refine d_name 1 rfl ?_
  refine d_len G.b_len ?_
  refine d_fld ?_
  refine d_name 0 rfl ?_
  refine ⟨G.ci_calendar.cl, G.na_calendar_cycle, _, rfl, ?_⟩
  have l1 := ok.l1
  have hlen : (c.cyc.map Dat.bl).length = c.cyc.length := List.length_map ..
  refine ⟨by omega, ?_⟩
  refine ⟨.bl (pl c t.toNat), ?_, q⟩
  have hm : (t % ((c.cyc.map Dat.bl).length : Int)).toNat = t.toNat % c.cyc.length := by rw [hlen, mod_toNat h0]
  refine atI_mapN (Int.emod_nonneg _ (by omega)) ?_
  rw [hm]
  exact getD_get (Nat.mod_lt _ (by omega))
def S_works (ad : Ads) : Sc := fun ds Q => ∃ (c : CalM) (t : Int), ds = [dCal ad c, .int t] ∧ OkC c ∧ 0 ≤ t ∧ Q (.bl (wk c t.toNat))
theorem look_drop {c : CalM} {t : Nat} {l : List (Int × Bool)} {i : Nat} {p : Int × Bool} (h : l[i]? = some p) : look (l.drop i) t = if p.1 = (t : Int) then some p.2 else look (l.drop (i + 1)) t := by
  obtain ⟨hl, e⟩ := List.getElem?_eq_some_iff.mp h
  rw [List.drop_eq_getElem_cons hl, e]
  rfl
theorem c_works (G : Gl0 W ad) : CalD W 2 "works" (S_works ad) [] := by
  refine cal_of (N := ["calendar", "slot", "one", "is_on"]) (ps := ["calendar", "slot"]) G.d_works (by decide +kernel) (fun _ _ _ _ _ _ us hl => match us, hl with | [_, _], _ => rfl) (fun ds Q ⟨c, i, e, _⟩ => by rw [e]; rfl) fun f cdv A outer s H E md0 ds Q hr hS => ?_
  obtain ⟨c, t, rfl, ok, h0, q⟩ := hS
  have HN : (["calendar", "slot", "one", "is_on"] : List Str).Nodup := by decide
  obtain ⟨tn, rfl⟩ := Int.eq_ofNat_of_zero_le h0
  refine s_cons (s_for rfl ?_)
  refine i_seq ?_
  refine d_fld ?_
  refine d_name 0 rfl ?_
  refine ⟨G.ci_calendar.cl, G.na_calendar_changes, _, rfl, ?_⟩
  refine ⟨fun i δ => ∃ s2 s3, δ = [.d (dCal ad c), .d (.int (tn : Int)), s2, s3] ∧ look c.chg tn = look (c.chg.drop i) tn, ⟨_, _, rfl, rfl⟩, fun i δ _ _ => trivial, fun i d δ ed hI => ?_, fun δ hI => ?_⟩
  · obtain ⟨s2, s3, rfl, hd⟩ := hI
    obtain ⟨p, ep, rfl⟩ := map_get ed
    refine g_tup (n := 2) rfl ⟨rfl, ?_⟩
    refine g_cons ?_
    refine g_name 2 ?_ HN
    refine g_cons ?_
    refine g_name 3 ?_ HN
    refine g_nil ?_
    refine s_one (s_if ?_)
    refine t_eq hr.u64 ?_
    refine d_name 2 rfl ?_
    refine d_name 1 rfl ?_
    refine .inl ⟨_, rfl, ?_⟩
    rw [look_drop (c := c) ep] at hd
    refine if_x (fun h => ?_) (fun h => ?_)
    · rw [if_pos (of_decide_eq_true h)] at hd
      refine s_one (s_ret (d_name 3 rfl ?_))
      have : wk c (Int.toNat tn) = p.2 := by unfold wk; rw [Int.toNat_natCast, hd]; rfl
      rw [this] at q; exact q
    · have h' : ¬ p.1 = (tn : Int) := fun z => h (decide_eq_true z)
      rw [if_neg h'] at hd
      exact s_nil ⟨_, _, rfl, hd⟩
  · obtain ⟨s2, s3, rfl, hd⟩ := hI
    rw [List.length_map, List.drop_length] at hd
    refine s_one (s_ret ?_)
    refine d_call (c_planned G) hr ?_
    refine a_cons ?_
    refine d_name 0 rfl ?_
    refine a_cons ?_
    refine d_name 1 rfl ?_
    refine a_nil ⟨c, tn, rfl, ok, h0, ?_⟩
    have : wk c (Int.toNat tn) = pl c (Int.toNat tn) := by unfold wk; rw [Int.toNat_natCast, hd]; rfl
    rw [this] at q; exact q
theorem sum_b2i (l : List Bool) : (l.map fun b => if b = true then (1 : Int) else 0) = l.map bint := rfl
theorem cut_take {α : Type} {l : List α} {r : Int} (h0 : 0 ≤ r) : cutD l none (some r) = l.take r.toNat := by
  obtain ⟨k, rfl⟩ := Int.eq_ofNat_of_zero_le h0
  unfold cutD
  rw [HT.sIx_none, show (some ((k : Nat) : Int)) = some (k : Int) from rfl, HT.sIx_nat]
  simp
def S_counted (ad : Ads) : Sc := fun ds Q => ∃ (c : CalM) (t : Int), ds = [dCal ad c, .int t] ∧ OkC c ∧ 0 ≤ t ∧ Q (.int (cnt c t.toNat))
theorem chgS_snoc {c : CalM} {t : Nat} {p : Int × Bool} : ∀ {l : List (Int × Bool)}, chgS c t (l ++ [p]) = chgS c t l + (if p.1 < (t : Int) then bint p.2 - bint (pl c p.1.toNat) else 0)
  | [] => by simp [chgS]
  | a :: r => by
    show chgS c t (a :: (r ++ [p])) = _
    unfold chgS
    rw [chgS_snoc, Int.add_assoc]
theorem c_counted (G : Gl0 W ad) : CalD W 2 "counted" (S_counted ad) [] := by
  refine cal_of (N := ["calendar", "end", "found", "whole", "rest", "slot", "is_on", "one"]) (ps := ["calendar", "end"]) G.d_counted (by decide +kernel) (fun _ _ _ _ _ _ us hl => match us, hl with | [_, _], _ => rfl) (fun ds Q ⟨c, i, e, _⟩ => by rw [e]; rfl) fun f cdv A outer s H E md0 ds Q hr hS => ?_
  obtain ⟨c, t, rfl, ok, h0, q⟩ := hS
  have HN : (["calendar", "end", "found", "whole", "rest", "slot", "is_on", "one"] : List Str).Nodup := by decide
  obtain ⟨tn, rfl⟩ := Int.eq_ofNat_of_zero_le h0
  have l1 := ok.l1
  have l4 := ok.l4
  have hlen : (c.cyc.map Dat.bl).length = c.cyc.length := List.length_map ..
  refine s_cons (s_asg ?_)
  refine d_divmod G.b_divmod ?_
  refine d_name 1 rfl ?_
  refine d_len G.b_len ?_
  refine d_fld ?_
  refine d_name 0 rfl ?_
  refine ⟨G.ci_calendar.cl, G.na_calendar_cycle, _, rfl, ?_⟩
  refine ⟨_, _, rfl, rfl, ⟨by omega, by omega⟩, ?_⟩
  refine g_tup (n := 2) rfl ⟨rfl, ?_⟩
  refine g_cons ?_
  refine g_name 3 ?_ HN
  refine g_cons ?_
  refine g_name 4 ?_ HN
  refine g_nil ?_
  refine s_cons (s_set 2 ?_ HN)
  refine d_add ?_
  refine d_mul ?_
  refine d_name 3 rfl ?_
  refine d_sum rfl G.b_sum ?_
  refine d_lc (own := [("one", 7)]) (is := [7]) rfl HN (by kernel_rfl) ?_
  refine i_seq ?_
  refine d_fld ?_
  refine d_name 0 rfl ?_
  refine ⟨G.ci_calendar.cl, G.na_calendar_cycle, _, rfl, ?_⟩
  refine lcq_map (h := fun b => .int (bint b)) (by omega) trivial (fun i x ex Y N y => ?_) ?_
  · intro s5 H5 C5 cl5 fp5
    refine n_name 7 ?_ HN
    intro s6 H6 C6 cl6 fp6
    refine ts_nil (if_t rfl ?_)
    intro s7 H7 C7 cl7 fp7
    refine d_int1 G.b_int ?_
    refine d_name 7 rfl ?_
    exact y
  refine ⟨c.cyc.map bint, by rw [List.map_map]; rfl, ?_⟩
  refine ⟨.inr ⟨?_, ?_⟩, ?_⟩
  · have := sumB_pos ok.tr
    unfold sumB at this
    omega
  · have : ∀ l : List Bool, l.length ≤ 4 → (l.map bint).sum ≤ 4 := fun l hl => by
      have : ∀ l : List Bool, (l.map bint).sum ≤ l.length := fun l => by
        induction l with
        | nil => exact Int.le_refl _
        | cons a r ih => rw [List.map_cons, List.sum_cons, List.length_cons]; have := b2i_le a; omega
      have := this l
      omega
    have := this c.cyc l4
    omega
  refine d_sum rfl G.b_sum ?_
  refine d_lc (own := [("one", 7)]) (is := [7]) rfl HN (by kernel_rfl) ?_
  refine i_seq ?_
  refine d_slice ?_
  refine d_fld ?_
  refine d_name 0 rfl ?_
  refine ⟨G.ci_calendar.cl, G.na_calendar_cycle, _, rfl, ?_⟩
  refine id ?_
  refine d_name 4 rfl ?_
  refine ⟨_, rfl, ?_⟩
  have hm0 : 0 ≤ (tn : Int) % ((c.cyc.map Dat.bl).length : Int) := Int.emod_nonneg _ (by omega)
  have hc : cutD (c.cyc.map Dat.bl) none (some ((tn : Int) % ((c.cyc.map Dat.bl).length : Int))) = (c.cyc.take (tn % c.cyc.length)).map Dat.bl := by
    rw [cut_take hm0, hlen, mod_toNat h0, List.map_take]; rfl
  show LcQ _ _ _ _ _ _ _ _ _ _ (cutD (c.cyc.map Dat.bl) none (some ((tn : Int) % ((c.cyc.map Dat.bl).length : Int)))) kpT
  rw [hc]
  refine lcq_map (h := fun b => .int (bint b)) (by rw [List.length_take]; omega) trivial (fun i x ex Y N y => ?_) ?_
  · intro s5 H5 C5 cl5 fp5
    refine n_name 7 ?_ HN
    intro s6 H6 C6 cl6 fp6
    refine ts_nil (if_t rfl ?_)
    intro s7 H7 C7 cl7 fp7
    refine d_int1 G.b_int ?_
    refine d_name 7 rfl ?_
    exact y
  refine ⟨(c.cyc.take (tn % c.cyc.length)).map bint, by rw [List.map_map]; rfl, ?_⟩
  refine s_cons (s_for rfl ?_)
  refine i_seq ?_
  refine d_fld ?_
  refine d_name 0 rfl ?_
  refine ⟨G.ci_calendar.cl, G.na_calendar_changes, _, rfl, ?_⟩
  have hg : (tn : Int) / ((c.cyc.map Dat.bl).length : Int) * (c.cyc.map bint).sum + ((c.cyc.take (tn % c.cyc.length)).map bint).sum = gP c tn := by
    rw [hlen]; unfold gP sumB; rw [Int.natCast_ediv]
  refine ⟨fun i δ => ∃ x s3 s4 s5 s6 s7, δ = [.d (dCal ad c), .d (.int (tn : Int)), .d (.int x), s3, s4, s5, s6, s7] ∧ x = gP c tn + chgS c tn (c.chg.take i), ⟨_, _, _, _, _, _, rfl, ?_⟩, fun i δ _ _ => trivial, fun i d δ ed hI => ?_, fun δ hI => ?_⟩
  · rw [← hg]
    have z : chgS c tn (c.chg.take 0) = 0 := rfl
    rw [z, Int.add_zero]
  · obtain ⟨x, s3, s4, s5, s6, s7, rfl, hx⟩ := hI
    obtain ⟨p, ep, rfl⟩ := map_get ed
    have hp : 0 ≤ p.1 := by have := asc_gt ok.asc p (List.mem_of_getElem? ep); omega
    refine g_tup (n := 2) rfl ⟨rfl, ?_⟩
    refine g_cons ?_
    refine g_name 5 ?_ HN
    refine g_cons ?_
    refine g_name 6 ?_ HN
    refine g_nil ?_
    refine s_one (s_if ?_)
    refine t_lt ?_
    refine d_name 5 rfl ?_
    refine d_name 1 rfl ?_
    refine ⟨trivial, ?_⟩
    refine q_b ?_
    have hs := chgS_snoc (c := c) (t := tn) (p := p) (l := c.chg.take i)
    rw [← take_snoc ep] at hs
    refine if_x (fun h => ?_) (fun h => ?_)
    · rw [if_pos (of_decide_eq_true h)] at hs
      refine s_one (s_aug 2 rfl ?_ HN)
      refine d_sub2 ?_
      refine d_int1 G.b_int ?_
      refine d_name 6 rfl ?_
      refine d_int1 G.b_int ?_
      refine d_call (c_planned G) hr ?_
      refine a_cons ?_
      refine d_name 0 rfl ?_
      refine a_cons ?_
      refine d_name 5 rfl ?_
      refine a_nil ⟨c, p.1, rfl, ok, hp, ?_⟩
      refine ⟨trivial, ?_⟩
      refine ⟨_, rfl, ?_⟩
      refine ⟨_, _, _, _, _, _, rfl, ?_⟩
      rw [hs, hx, Int.add_assoc]
      rfl
    · have h' : ¬ p.1 < (tn : Int) := fun z => h (decide_eq_true z)
      rw [if_neg h', Int.add_zero] at hs
      exact s_nil ⟨_, _, _, _, _, _, rfl, by rw [hs]; exact hx⟩
  · obtain ⟨x, s3, s4, s5, s6, s7, rfl, hx⟩ := hI
    refine s_one (s_ret ?_)
    refine d_name 2 rfl ?_
    rw [hx, List.length_map, List.take_length, cnt_form ok]
    exact q
def S_reached (ad : Ads) : Sc := fun ds Q => ∃ (c : CalM) (m : Int) (e : Nat), ds = [dCal ad c, .int m] ∧ OkC c ∧ 0 ≤ m ∧ Least c m e ∧ Q (.int e)
theorem fdiv2 {a : Int} (h : 0 ≤ a) : a.fdiv 2 = a / 2 := Int.fdiv_eq_ediv_of_nonneg _ (by omega)
theorem c_reached (G : Gl0 W ad) : CalD W 3 "reached" (S_reached ad) [] := by
  refine cal_of (N := ["calendar", "many", "size", "each", "more", "low", "high", "middle", "one"]) (ps := ["calendar", "many"]) G.d_reached (by decide +kernel) (fun _ _ _ _ _ _ us hl => match us, hl with | [_, _], _ => rfl) (fun ds Q ⟨c, i, e, h, _⟩ => by rw [h]; rfl) fun f cdv A outer s H E md0 ds Q hr hS => ?_
  obtain ⟨c, m, e, rfl, ok, h0, le, q⟩ := hS
  have HN : (["calendar", "many", "size", "each", "more", "low", "high", "middle", "one"] : List Str).Nodup := by decide
  have l1 := ok.l1
  have l4 := ok.l4
  have hlen : (c.cyc.map Dat.bl).length = c.cyc.length := List.length_map ..
  have hlen2 : (c.chg.map dChg).length = c.chg.length := List.length_map ..
  have hs1 := sumB_pos ok.tr
  have hs4 : sumB c.cyc ≤ 4 := by
    have : ∀ l : List Bool, (l.map bint).sum ≤ l.length := fun l => by
      induction l with
      | nil => exact Int.le_refl _
      | cons a r ih => rw [List.map_cons, List.sum_cons, List.length_cons]; have := Mth.b2i_le a; omega
    have := this c.cyc
    unfold sumB
    omega
  refine s_cons (s_par3 2 3 4 rfl HN ?_)
  refine d_len G.b_len ?_
  refine d_fld ?_
  refine d_name 0 rfl ?_
  refine ⟨G.ci_calendar.cl, G.na_calendar_cycle, _, rfl, ?_⟩
  refine d_sum rfl G.b_sum ?_
  refine d_lc (own := [("one", 8)]) (is := [8]) rfl HN (by kernel_rfl) ?_
  refine i_seq ?_
  refine d_fld ?_
  refine d_name 0 rfl ?_
  refine ⟨G.ci_calendar.cl, G.na_calendar_cycle, _, rfl, ?_⟩
  refine lcq_map (h := fun b => .int (bint b)) (by omega) trivial (fun i x ex Y N y => ?_) ?_
  · intro s5 H5 C5 cl5 fp5
    refine n_name 8 ?_ HN
    intro s6 H6 C6 cl6 fp6
    refine ts_nil (if_t rfl ?_)
    intro s7 H7 C7 cl7 fp7
    refine d_int1 G.b_int ?_
    refine d_name 8 rfl ?_
    exact y
  refine ⟨c.cyc.map bint, by rw [List.map_map]; rfl, ?_⟩
  refine d_len G.b_len ?_
  refine d_fld ?_
  refine d_name 0 rfl ?_
  refine ⟨G.ci_calendar.cl, G.na_calendar_changes, _, rfl, ?_⟩
  refine s_cons (s_par 5 6 rfl HN ?_)
  refine d_mul ?_
  refine d_name 2 rfl ?_
  refine d_max2 rfl G.b_max ?_
  refine d_int ?_
  refine d_sub2 ?_
  refine d_fdiv ?_
  refine d_sub2 ?_
  refine d_name 1 rfl ?_
  refine d_name 4 rfl ?_
  refine ⟨trivial, ?_⟩
  refine d_name 3 rfl ?_
  refine ⟨⟨by unfold sumB at hs1; omega, by unfold sumB at hs1 hs4; omega⟩, ?_⟩
  refine d_int ?_
  refine ⟨trivial, ?_⟩
  refine ⟨_, _, rfl, rfl, ?_⟩
  refine ⟨.inl ⟨by omega, by omega⟩, ?_⟩
  refine d_mul ?_
  refine d_name 2 rfl ?_
  refine d_add ?_
  refine d_fdiv ?_
  refine d_add ?_
  refine d_name 1 rfl ?_
  refine d_name 4 rfl ?_
  refine d_name 3 rfl ?_
  refine ⟨⟨by unfold sumB at hs1; omega, by unfold sumB at hs1 hs4; omega⟩, ?_⟩
  refine d_int ?_
  refine ⟨.inl ⟨by omega, by omega⟩, ?_⟩
  obtain ⟨e', le', b1, b2⟩ := reach_bounds ok h0
  have ee := le.uniq le'
  subst ee
  rw [hlen, hlen2]
  refine s_cons (s_while (fun k δ => ∃ low high s7 s8, δ = [.d (dCal ad c), .d (.int m), .d (.int (c.cyc.length : Int)), .d (.int (c.cyc.map bint).sum), .d (.int (c.chg.length : Int)), .d (.int low), .d (.int high), s7, s8] ∧ 0 ≤ low ∧ low ≤ e ∧ (e : Int) ≤ high ∧ k = (high - low).toNat) ⟨_, _, _, _, rfl, ?_, b1, b2, rfl⟩ fun k δ hI => ?_)
  · exact Int.mul_nonneg (by omega) (by omega)
  · obtain ⟨low, high, s7, s8, rfl, g1, g2, g3, rfl⟩ := hI
    refine t_lt ?_
    refine d_name 5 rfl ?_
    refine d_name 6 rfl ?_
    refine ⟨trivial, ?_⟩
    refine q_b (if_x (fun h => ?_) (fun h => ?_))
    · have h := of_decide_eq_true h
      refine s_cons (s_set 7 ?_ HN)
      refine d_fdiv ?_
      refine d_add ?_
      refine d_name 5 rfl ?_
      refine d_name 6 rfl ?_
      refine d_int ?_
      refine ⟨⟨by decide, by decide⟩, ?_⟩
      dsimp only
      rw [fdiv2 (a := low + high) (by omega)]
      refine s_one (s_if ?_)
      refine t_lt ?_
      refine d_call (c_counted G) hr ?_
      refine a_cons ?_
      refine d_name 0 rfl ?_
      refine a_cons ?_
      refine d_name 7 rfl ?_
      refine a_nil ⟨c, (low + high) / 2, rfl, ok, by omega, ?_⟩
      refine d_name 1 rfl ?_
      refine ⟨trivial, ?_⟩
      refine q_b (if_x (fun z => ?_) (fun z => ?_))
      · have z := of_decide_eq_true z
        refine s_one (s_set 5 ?_ HN)
        refine d_add ?_
        refine d_name 7 rfl ?_
        refine d_int ?_
        refine ⟨_, ?_, _, _, _, _, rfl, by omega, ?_, g3, rfl⟩
        · omega
        · have := le.1
          by_cases q : (low + high) / 2 + 1 ≤ (e : Int)
          · exact q
          · have := cnt_mono (c := c) (s := e) (t := ((low + high) / 2).toNat) (by omega)
            omega
      · have z : m ≤ cnt c ((low + high) / 2).toNat := by
          have : ¬ cnt c ((low + high) / 2).toNat < m := fun w => z (decide_eq_true w)
          omega
        refine s_one (s_set 6 ?_ HN)
        refine d_name 7 rfl ?_
        refine ⟨_, ?_, _, _, _, _, rfl, g1, g2, ?_, rfl⟩
        · omega
        · by_cases q : (e : Int) ≤ (low + high) / 2
          · exact q
          · have := le.2 ((low + high) / 2).toNat (by omega)
            omega
    · have h : ¬ low < high := fun z => h (decide_eq_true z)
      refine s_one (s_ret ?_)
      refine d_name 6 rfl ?_
      have : high = (e : Int) := by omega
      rw [this]
      exact q
/-- when it ends: a number or None -/
abbrev dOpt : Option Nat → Dat
  | none => .non
  | some n => .int n
def S_end_in (ad : Ads) : Sc := fun ds Q => ∃ (c : CalM) (b w : Nat), ds = [dCal ad c, .int b, .int w] ∧ OkC c ∧ w ≤ 3 ∧ Q (dOpt (endC c b w))
theorem cnt_nn {c : CalM} (t : Nat) : 0 ≤ cnt c t := cnt_mono (s := 0) (by omega)
theorem c_end_in (G : Gl0 W ad) : CalD W 4 "end_in" (S_end_in ad) [] := by
  refine cal_of (N := ["calendar", "start", "work"]) (ps := ["calendar", "start", "work"]) G.d_end_in (by decide +kernel) (fun _ _ _ _ _ _ us hl => match us, hl with | [_, _, _], _ => rfl) (fun ds Q ⟨c, b, w, h, _⟩ => by rw [h]; rfl) fun f cdv A outer s H E md0 ds Q hr hS => ?_
  obtain ⟨c, b, w, rfl, ok, h3, q⟩ := hS
  have HN : (["calendar", "start", "work"] : List Str).Nodup := by decide
  refine s_cons (s_if ?_)
  refine t_eq hr.u64 ?_
  refine d_name 2 rfl ?_
  refine d_int ?_
  refine .inl ⟨_, rfl, ?_⟩
  refine if_x (fun h => ?_) (fun h => ?_)
  · have h : (w : Int) = 0 := of_decide_eq_true h
    have hw : w = 0 := by omega
    refine s_one (s_ret (d_name 1 rfl ?_))
    subst hw
    exact q
  have hw : 1 ≤ w := by
    have : ¬ (w : Int) = 0 := fun z => h (decide_eq_true z)
    omega
  refine s_nil ?_
  refine s_cons (s_if ?_)
  refine t_not ?_
  refine t_val ?_
  refine d_call (c_works G) hr ?_
  refine a_cons ?_
  refine d_name 0 rfl ?_
  refine a_cons ?_
  refine d_name 1 rfl ?_
  refine a_nil ⟨c, b, rfl, ok, by omega, ?_⟩
  rw [Int.toNat_natCast]
  refine q_b (if_x (fun h => ?_) (fun h => ?_))
  · have hk : wk c b = false := by simpa using h
    refine s_one (s_ret (d_non ?_))
    unfold endC at q
    rw [if_neg (by omega), if_neg (by rw [hk]; exact Bool.false_ne_true)] at q
    exact q
  have hk : wk c b = true := by simpa using h
  refine s_nil ?_
  refine s_one (s_ret ?_)
  refine d_call (c_reached G) hr ?_
  refine a_cons ?_
  refine d_name 0 rfl ?_
  refine a_cons ?_
  refine d_add ?_
  refine d_call (c_counted G) hr ?_
  refine a_cons ?_
  refine d_name 0 rfl ?_
  refine a_cons ?_
  refine d_name 1 rfl ?_
  refine a_nil ⟨c, b, rfl, ok, by omega, ?_⟩
  refine d_name 2 rfl ?_
  rw [Int.toNat_natCast]
  have := cnt_nn (c := c) b
  refine a_nil ⟨c, cnt c b + w, scan c 60 b w, rfl, ok, by omega, endC_least ok hw h3, ?_⟩
  unfold endC at q
  rw [if_neg (by omega), if_pos hk] at q
  exact q
end
end DL

/-! DlP -/
set_option Elab.async false
set_option linter.all false
set_option maxRecDepth 100000
set_option maxHeartbeats 4000000
namespace DL
open PySem PySem.Spec PyProof.Rows L2
open NdefX (NTab TabsN TabN)
/-! ### compared with nothing: xs == [], t != () -/
def rEq0 (K : PySem.W.Frag) : R2 := fun x y H Q => ∃ a b xs, x = .ref a ∧ y = .ref b ∧ ((SqT K H a xs ∧ SqT K H b []) ∨ (SqL K H a xs ∧ SqL K H b [])) ∧ Q (.bl xs.isEmpty) H
def rNe0 (K : PySem.W.Frag) : R2 := fun x y H Q => ∃ a b xs, x = .ref a ∧ y = .ref b ∧ ((SqT K H a xs ∧ SqT K H b []) ∨ (SqL K H a xs ∧ SqL K H b [])) ∧ Q (.bl (!xs.isEmpty)) H
theorem vals_nil {its : List Value} (r : Vals [] its) : its = [] := by cases r; rfl
theorem empty_same {xs : List V} {its : List Value} (r : Vals xs its) : xs.isEmpty = its.isEmpty := by cases r <;> rfl
theorem op_eq0 {X : Cx} (hu : X.A.units < cLine) : OpR X (compareOp .Eq) (rEq0 X.K) := by
  intro pins s σ H x y v u Q I rx ry h
  obtain ⟨a, b, xs, rfl, rfl, hq, q⟩ := h
  cases rx
  cases ry
  rcases hq with ⟨h1, h2⟩ | ⟨h1, h2⟩
  · obtain ⟨its, r, p1, _⟩ := I.tuple h1
    obtain ⟨its2, r2, p2, _⟩ := I.tuple h2
    have e2 := vals_nil r2
    subst e2
    refine SeqAt.eq_tupleAt (e := fun _ => true) (items := its.toArray) (items2 := [].toArray) p1 p2 hu (fun j _ h2 => absurd h2 (by simp)) ⟨.bl _, H, I, rfl, ?_⟩
    rw [empty_same r] at q
    have : ((List.range (min its.toArray.size ([] : List Value).toArray.size)).all (fun _ => true) && its.toArray.size == ([] : List Value).toArray.size) = its.isEmpty := by
      cases its <;> simp
    rw [this]; exact q
  · obtain ⟨its, r, p1, _⟩ := I.list h1
    obtain ⟨its2, r2, p2, _⟩ := I.list h2
    have e2 := vals_nil r2
    subst e2
    rw [empty_same r] at q
    cases its with
    | nil => exact SeqAt.eq_listAt (e := fun _ => true) p1.isList p2.isList rfl hu (fun j h1 _ => absurd h1 (by simp)) ⟨.bl _, H, I, rfl, q⟩
    | cons z zs => exact SeqAt.eq_list_lengthsAt p1.isList p2.isList (by simp) hu ⟨.bl _, H, I, rfl, q⟩
theorem op_ne0 {X : Cx} (hu : X.A.units < cLine) : OpR X (compareOp .NotEq) (rNe0 X.K) := by
  intro pins s σ H x y v u Q I rx ry h
  obtain ⟨a, b, xs, rfl, rfl, hq, q⟩ := h
  cases rx
  cases ry
  rcases hq with ⟨h1, h2⟩ | ⟨h1, h2⟩
  · obtain ⟨its, r, p1, _⟩ := I.tuple h1
    obtain ⟨its2, r2, p2, _⟩ := I.tuple h2
    have e2 := vals_nil r2
    subst e2
    refine SeqAt.RcNeAt.tuples (e := fun _ => true) (items := its.toArray) (items2 := [].toArray) p1 p2 hu (fun j _ h2 => absurd h2 (by simp)) _ _ _ _ ⟨.bl _, H, I, rfl, ?_⟩
    rw [empty_same r] at q
    have : (!((List.range (min its.toArray.size ([] : List Value).toArray.size)).all (fun _ => true) && its.toArray.size == ([] : List Value).toArray.size)) = !its.isEmpty := by
      cases its <;> simp
    rw [this]; exact q
  · obtain ⟨its, r, p1, _⟩ := I.list h1
    obtain ⟨its2, r2, p2, _⟩ := I.list h2
    have e2 := vals_nil r2
    subst e2
    rw [empty_same r] at q
    cases its with
    | nil => exact SeqAt.RcNeAt.lists (e := fun _ => true) p1.isList p2.isList rfl hu (fun j h1 _ => absurd h1 (by simp)) _ _ _ _ ⟨.bl _, H, I, rfl, q⟩
    | cons z zs => exact SeqAt.RcNeAt.lists_lengths p1.isList p2.isList (by simp) hu _ _ _ _ ⟨.bl _, H, I, rfl, q⟩
section
variable {X : Cx} {B : Bx} {K : PySem.W.Frag} {δ : List Sl} {Q : Dat → Prop} {a b : Expr} {pos : Pos}
def nilQ (x y : Dat) (Q : Bool → Prop) : Prop := ∃ ds, ((x = .tup ds ∧ y = .tup []) ∨ (x = .lst ds ∧ y = .lst [])) ∧ Q ds.isEmpty
theorem DA.empty {lt : Nat → LT} {md : Addr → Md} {H : Hp} {xs : List V} {ds : List Dat} (g : DA K lt md H xs ds) : xs.isEmpty = ds.isEmpty := by cases g <;> rfl
theorem rd_nil {x y : Dat} {Q : Bool → Prop} (h : nilQ x y Q) {md : Addr → Md} {σ : L2.St} {H : Hp} {vx vy : V} (R : Rep K B md δ σ H) (r1 : D K B.lt md H vx x) (r2 : D K B.lt md H vy y) :
    ∃ a b xs, vx = .ref a ∧ vy = .ref b ∧ ((SqT K H a xs ∧ SqT K H b []) ∨ (SqL K H a xs ∧ SqL K H b [])) ∧ Q xs.isEmpty := by
  obtain ⟨ds, ⟨rfl, rfl⟩ | ⟨rfl, rfl⟩, q⟩ := h
  · obtain ⟨a1, xs, e1, s1, g1⟩ := r1.sqT
    obtain ⟨a2, ys, e2, s2, g2⟩ := r2.sqT
    cases g2
    exact ⟨a1, a2, xs, e1, e2, .inl ⟨s1, s2⟩, by rw [g1.empty]; exact q⟩
  · obtain ⟨a1, xs, e1, s1, _, g1⟩ := r1.atL
    obtain ⟨a2, ys, e2, s2, _, g2⟩ := r2.atL
    cases g2
    exact ⟨a1, a2, xs, e1, e2, .inr ⟨SqL.of s1, SqL.of s2⟩, by rw [g1.empty]; exact q⟩
theorem rd_eq0 {x y : Dat} (h : nilQ x y fun k => Q (.bl k)) : RD K B δ (rEq0 K) x y Q := fun md σ H vx vy Qc R r1 r2 k => by
  obtain ⟨a, b, xs, e1, e2, s, q⟩ := rd_nil h R r1 r2
  exact ⟨a, b, xs, e1, e2, s, k _ _ _ (Ex.refl md H) R (.bl _) q⟩
theorem rd_ne0 {x y : Dat} (h : nilQ x y fun k => Q (.bl (!k))) : RD K B δ (rNe0 K) x y Q := fun md σ H vx vy Qc R r1 r2 k => by
  obtain ⟨a, b, xs, e1, e2, s, q⟩ := rd_nil h R r1 r2
  exact ⟨a, b, xs, e1, e2, s, k _ _ _ (Ex.refl md H) R (.bl _) q⟩
theorem d_eq0 (hu : X.A.units < cLine) (h : WE X B a δ fun x => WE X B b δ fun y => nilQ x y fun k => Q (.bl k)) : WE X B (.Compare a [.Eq] [b] pos) δ Q := d_cmp (op_eq0 hu) (h.mono fun _ hx => hx.mono fun _ hy => rd_eq0 hy) (nomark _)
theorem d_ne0 (hu : X.A.units < cLine) (h : WE X B a δ fun x => WE X B b δ fun y => nilQ x y fun k => Q (.bl (!k))) : WE X B (.Compare a [.NotEq] [b] pos) δ Q := d_cmp (op_ne0 hu) (h.mono fun _ hx => hx.mono fun _ hy => rd_ne0 hy) (nomark _)
theorem t_eq0 {Q : Bool → Prop} (hu : X.A.units < cLine) (h : WE X B a δ fun x => WE X B b δ fun y => nilQ x y Q) : WT X B (.Compare a [.Eq] [b] pos) δ Q := t_cmp (op_eq0 hu) (h.mono fun _ hx => hx.mono fun _ hy => rd_eq0 hy) (nomark _)
theorem t_ne0 {Q : Bool → Prop} (hu : X.A.units < cLine) (h : WE X B a δ fun x => WE X B b δ fun y => nilQ x y fun k => Q (!k)) : WT X B (.Compare a [.NotEq] [b] pos) δ Q := t_cmp (op_ne0 hu) (h.mono fun _ hx => hx.mono fun _ hy => rd_ne0 hy) (nomark _)
end
theorem _root_.L2.Room.u0 {k : Nat} {A : Around} (h : Room k A) : A.units < cLine := by have := h.un; omega
/-! ### max of a tuple of whole numbers -/
theorem toPys_ints : ∀ ns : List Int, toPys (ns.map Dat.int) = some (ns.map PyData.int)
  | [] => rfl
  | n :: r => by rw [List.map_cons, toPys, toPys_ints r]; rfl
end DL

/-! MthC -/
set_option Elab.async false
set_option linter.all false
namespace Mth
/-! a project, by data -/
structure ModeM where
  work : Nat
  dem : List Nat
  uses : List Nat
  cost : Nat
structure LagM where
  one : Bool
  first : Nat
  oth : Bool
  second : Nat
  low : Int
  high : Option Int
structure PrjM where
  n : Nat
  hor : Nat
  mach : List Nat
  stock : List Nat
  modes : List (List ModeM)
  cals : Option (List (Option CalM))
  wins : Option (List (Nat × Option Nat))
  fams : Option (List Nat)
  lags : List LagM
  singles : List (List Nat × List (List Nat))
  crew : Bool
  overhead : Nat
  late : Option (List (Option (Nat × Nat)))
def mode0 : ModeM := ⟨0, [], [], 0⟩
def wrk (p : PrjM) (ch : List Nat) (a : Nat) : Nat := ((p.modes.getD a []).getD (ch.getD a 0) mode0).work
def calOf (p : PrjM) (a : Nat) : Option CalM := match p.cals with
  | none => none
  | some l => l.getD a none
def winOf (p : PrjM) (a : Nat) : Nat × Option Nat := match p.wins with
  | none => (0, none)
  | some l => l.getD a (0, none)
def famOf (p : PrjM) (a : Nat) : Nat := match p.fams with
  | none => 0
  | some l => l.getD a 0
/-- when a, begun at b, ends -/
def eA (p : PrjM) (ch : List Nat) (a b : Nat) : Option Nat := match calOf p a with
  | none => some (b + wrk p ch a)
  | some c => endC c b (wrk p ch a)
/-- the event's time: true is the start -/
def evA (p : PrjM) (ch : List Nat) (a : Nat) (w : Bool) (b : Nat) : Option Nat := if w = true then some b else eA p ch a b
def setup (p : PrjM) (i j : Nat) : List (List Nat × List (List Nat)) → Nat
  | [] => 0
  | s :: r => if i ∈ s.1 ∧ j ∈ s.1 then (s.2.getD (famOf p i) []).getD (famOf p j) 0 else setup p i j r
def hiOk (h : Option Int) (gap : Int) : Bool := match h with
  | none => true
  | some h => decide (gap ≤ h)
/-- the gap of a lag lies right -/
def lagOk (l : LagM) (x y : Nat) : Bool := decide (l.low ≤ (y : Int) - x) && hiOk l.high ((y : Int) - x)
def lagKept (p : PrjM) (ch : List Nat) (l : LagM) (s t : Nat) : Bool := match evA p ch l.first l.one s, evA p ch l.second l.oth t with
  | some x, some y => lagOk l x y
  | _, _ => false
def limN (p : PrjM) (a : Nat) (most : Option Nat) : Nat :=
  let d := match (winOf p a).2 with
    | none => p.hor
    | some d => min p.hor d
  match most with
  | none => d
  | some m => min d m
def ownLags (p : PrjM) (a : Nat) : List LagM := p.lags.filter fun l => decide (l.first = l.second) && decide (l.second = a)
def okStart (p : PrjM) (ch : List Nat) (a : Nat) (most : Option Nat) (s : Nat) : Bool := match eA p ch a s with
  | none => false
  | some e => decide (e ≤ limN p a most) && (ownLags p a).all fun l => lagKept p ch l s s
def rangeN (a n : Nat) : List Nat := (List.range n).map fun i => a + i
def poss (p : PrjM) (ch : List Nat) (a : Nat) (most : Option Nat) : List Nat := (rangeN (winOf p a).1 (limN p a most + 1 - (winOf p a).1)).filter (okStart p ch a most)
structure OkM (p : PrjM) (m : ModeM) : Prop where
  work : m.work ≤ 3
  dl : m.dem.length = p.mach.length
  dm : ∀ (i d c : Nat), m.dem[i]? = some d → p.mach[i]? = some c → d ≤ c
  ul : m.uses.length = p.stock.length
  um : ∀ u ∈ m.uses, u ≤ 3
  cost : m.cost ≤ 8
structure OkL (n : Nat) (l : LagM) : Prop where
  first : l.first < n
  second : l.second < n
  lo : -3 ≤ l.low
  lo2 : l.low ≤ 2
  hi : ∀ h, l.high = some h → l.low ≤ h ∧ h ≤ 5
def ascN : List Nat → Prop
  | [] => True
  | [_] => True
  | a :: b :: r => a < b ∧ ascN (b :: r)
def maxF (p : PrjM) : Nat := match p.fams with
  | none => 0
  | some l => l.foldl max 0
structure OkS (p : PrjM) (s : List Nat × List (List Nat)) : Prop where
  two : 2 ≤ s.1.length
  asc : ascN s.1
  lt : ∀ a ∈ s.1, a < p.n
  sq : s.2.length = maxF p + 1
  row : ∀ r ∈ s.2, r.length = maxF p + 1 ∧ ∀ x ∈ r, x ≤ 2
structure OkP (p : PrjM) : Prop where
  n1 : 1 ≤ p.n
  n3 : p.n ≤ 3
  h3 : 3 ≤ p.hor
  h6 : p.hor ≤ 6
  mach : p.mach.length ≤ 3 ∧ ∀ x ∈ p.mach, x ≤ 2
  stock : p.stock.length ≤ 2 ∧ ∀ x ∈ p.stock, x ≤ 8
  modes : p.modes.length = p.n ∧ ∀ l ∈ p.modes, (1 ≤ l.length ∧ l.length ≤ 3) ∧ ∀ m ∈ l, OkM p m
  cals : ∀ l, p.cals = some l → l.length = p.n ∧ ∀ c, some c ∈ l → OkC c
  wins : ∀ l, p.wins = some l → l.length = p.n ∧ ∀ x ∈ l, x.1 ≤ 3 ∧ ∀ d, x.2 = some d → d ≤ 8
  fams : ∀ l, p.fams = some l → l.length = p.n ∧ ∀ x ∈ l, x ≤ 3
  lags : p.lags.length ≤ 4 ∧ ∀ l ∈ p.lags, OkL p.n l
  sl : p.singles.length ≤ 2
  singles : ∀ s ∈ p.singles, OkS p s
  apart : ∀ (i j : Nat) s t, i < j → p.singles[i]? = some s → p.singles[j]? = some t → (t.1.filter fun a => decide (a ∈ s.1)).length ≤ 1
  overhead : p.overhead ≤ 3
  late : ∀ l, p.late = some l → l.length = p.n ∧ ∀ x y, some (x, y) ∈ l → x ≤ 2 ∧ y ≤ 3
/-- a choice of modes -/
structure OkCh (p : PrjM) (ch : List Nat) : Prop where
  len : ch.length = p.n
  lt : ∀ (a x : Nat), ch[a]? = some x → x < (p.modes.getD a []).length
/-! rules -/
structure RuleM where
  src : Nat
  tgt : Nat
  gap : Int
  w1 : Bool
  w2 : Bool
  tag : Bool
  ix : Nat
def met (p : PrjM) (ch : List Nat) (r : RuleM) (s t : Nat) : Bool := match evA p ch r.tgt r.w2 t, evA p ch r.src r.w1 s with
  | some y, some x => decide (r.gap ≤ (y : Int) - x)
  | _, _ => false
def lagRules (i : Nat) (l : LagM) : List RuleM :=
  if l.first = l.second then [] else
    ⟨l.first, l.second, l.low, l.one, l.oth, true, i⟩ :: (match l.high with
      | none => []
      | some h => [⟨l.second, l.first, -h, l.oth, l.one, true, i⟩])
def lagsR : Nat → List LagM → List RuleM
  | _, [] => []
  | i, l :: r => lagRules i l ++ lagsR (i + 1) r
def pairsR (p : PrjM) : Nat → List (Nat × Nat) → List RuleM
  | _, [] => []
  | i, q :: r => ⟨q.1, q.2, setup p q.1 q.2 p.singles, false, true, false, i⟩ :: pairsR p (i + 1) r
def rulesOf (p : PrjM) (ahead : List (Nat × Nat)) : List RuleM := lagsR 0 p.lags ++ pairsR p 0 ahead
/-- a row of starts that the rules let stand -/
structure Sol (p : PrjM) (ch : List Nat) (rs : List RuleM) (most : Option Nat) (row : List Nat) : Prop where
  len : row.length = p.n
  mem : ∀ a, a < p.n → row.getD a 0 ∈ poss p ch a most
  met : ∀ r ∈ rs, met p ch r (row.getD r.src 0) (row.getD r.tgt 0) = true
/-- what times tells -/
def TimesIs (p : PrjM) (ch : List Nat) (rs : List RuleM) (most : Option Nat) : Option (List Nat × List Nat) → Prop
  | none => ∀ row, ¬ Sol p ch rs most row
  | some (l, g) => Sol p ch rs most l ∧ Sol p ch rs most g ∧ ∀ row, Sol p ch rs most row → ∀ a, a < p.n → l.getD a 0 ≤ row.getD a 0 ∧ row.getD a 0 ≤ g.getD a 0
/-! ends keep the order -/
theorem wrk_le {p : PrjM} (h : OkP p) {ch : List Nat} (a : Nat) : wrk p ch a ≤ 3 := by
  unfold wrk
  rw [List.getD, List.getD]
  cases e : p.modes[a]? with
  | none => simp [mode0]
  | some l =>
    show (l[ch.getD a 0]?.getD mode0).work ≤ 3
    cases e2 : l[ch.getD a 0]? with
    | none => simp [mode0]
    | some m => exact ((h.modes.2 l (List.mem_of_getElem? e)).2 m (List.mem_of_getElem? e2)).work
theorem calOf_ok {p : PrjM} (h : OkP p) {a : Nat} {c : CalM} (e : calOf p a = some c) : OkC c := by
  unfold calOf at e
  split at e
  · cases e
  · rename_i l hl
    rw [List.getD] at e
    cases q : l[a]? with
    | none => rw [q] at e; cases e
    | some o =>
      rw [q] at e
      have e : o = some c := e
      subst e
      exact (h.cals l hl).2 c (List.mem_of_getElem? q)
theorem Least.mono {c : CalM} {m m' : Int} {e e' : Nat} (h : Least c m e) (h' : Least c m' e') (hm : m ≤ m') : e ≤ e' := by
  rcases Nat.lt_or_ge e' e with z | z
  · have := h.2 e' z; have := h'.1; omega
  · exact z
theorem eA_mono {p : PrjM} (h : OkP p) {ch : List Nat} {a x y ex ey : Nat} (hx : eA p ch a x = some ex) (hy : eA p ch a y = some ey) (hxy : x ≤ y) : ex ≤ ey := by
  unfold eA at hx hy
  have h3 := wrk_le h (ch := ch) a
  cases e : calOf p a with
  | none => rw [e] at hx hy; cases hx; cases hy; omega
  | some c =>
    rw [e] at hx hy
    have ok := calOf_ok h e
    unfold endC at hx hy
    by_cases hw : wrk p ch a = 0
    · simp only [hw, if_true] at hx hy
      cases hx; cases hy; exact hxy
    · simp only [if_neg hw] at hx hy
      split at hx
      · split at hy
        · cases hx; cases hy
          have := cnt_mono (c := c) hxy
          exact (endC_least ok (by omega) h3).mono (endC_least ok (by omega) h3) (by omega)
        · cases hy
      · cases hx
theorem eA_ge {p : PrjM} (h : OkP p) {ch : List Nat} {a x ex : Nat} (hx : eA p ch a x = some ex) : x ≤ ex := by
  unfold eA at hx
  have h3 := wrk_le h (ch := ch) a
  cases e : calOf p a with
  | none => rw [e] at hx; cases hx; omega
  | some c =>
    rw [e] at hx
    have ok := calOf_ok h e
    unfold endC at hx
    by_cases hw : wrk p ch a = 0
    · simp only [hw, if_true] at hx
      cases hx; omega
    · simp only [if_neg hw] at hx
      split at hx
      · cases hx
        have l := endC_least (b := x) ok (show 1 ≤ wrk p ch a by omega) h3
        rcases Nat.lt_or_ge (scan c 60 x (wrk p ch a)) x with z | z
        · have := cnt_mono (c := c) (s := scan c 60 x (wrk p ch a)) (t := x) (by omega)
          have := l.1
          omega
        · exact z
      · cases hx
theorem evA_mono {p : PrjM} (h : OkP p) {ch : List Nat} {a x y ex ey : Nat} {w : Bool} (hx : evA p ch a w x = some ex) (hy : evA p ch a w y = some ey) (hxy : x ≤ y) : ex ≤ ey := by
  unfold evA at hx hy
  split at hx
  · rename_i q; rw [if_pos q] at hy; cases hx; cases hy; exact hxy
  · rename_i q; rw [if_neg q] at hy; exact eA_mono h hx hy hxy
/-! members of poss -/
theorem mem_rangeN {a n x : Nat} : x ∈ rangeN a n ↔ a ≤ x ∧ x < a + n := by
  unfold rangeN
  rw [List.mem_map]
  constructor
  · rintro ⟨i, hi, rfl⟩
    have := List.mem_range.mp hi
    omega
  · rintro ⟨h1, h2⟩
    exact ⟨x - a, List.mem_range.mpr (by omega), by omega⟩
theorem mem_poss {p : PrjM} {ch : List Nat} {a x : Nat} {most : Option Nat} : x ∈ poss p ch a most ↔ (winOf p a).1 ≤ x ∧ x ≤ limN p a most ∧ ∃ e, eA p ch a x = some e ∧ e ≤ limN p a most ∧ ∀ l ∈ ownLags p a, lagKept p ch l x x = true := by
  unfold poss
  rw [List.mem_filter, mem_rangeN]
  unfold okStart
  constructor
  · rintro ⟨⟨h1, h2⟩, h3⟩
    refine ⟨h1, by omega, ?_⟩
    cases e : eA p ch a x with
    | none => rw [e] at h3; cases h3
    | some e' =>
      rw [e] at h3
      simp only [Bool.and_eq_true, decide_eq_true_eq, List.all_eq_true] at h3
      exact ⟨e', rfl, h3.1, h3.2⟩
  · rintro ⟨h1, h2, e, he, h3, h4⟩
    refine ⟨⟨h1, by omega⟩, ?_⟩
    rw [he]
    simp only [Bool.and_eq_true, decide_eq_true_eq, List.all_eq_true]
    exact ⟨h3, h4⟩
theorem poss_ev {p : PrjM} {ch : List Nat} {a x : Nat} {most : Option Nat} (h : x ∈ poss p ch a most) (w : Bool) : ∃ e, evA p ch a w x = some e := by
  obtain ⟨_, _, e, he, _⟩ := mem_poss.mp h
  unfold evA
  split
  · exact ⟨_, rfl⟩
  · exact ⟨e, he⟩
theorem poss_asc {p : PrjM} {ch : List Nat} {a : Nat} {most : Option Nat} : (poss p ch a most).Pairwise (· < ·) := by
  unfold poss rangeN
  refine List.Pairwise.filter _ ?_
  rw [List.pairwise_map]
  exact List.pairwise_lt_range.imp (by intro a b h; omega)
/-- with a lesser bound fewer -/
theorem limN_le {p : PrjM} {a : Nat} {most : Option Nat} : limN p a most ≤ limN p a none := by
  unfold limN
  cases most with
  | none => exact Nat.le_refl _
  | some m => simp only; split <;> omega
theorem poss_sub {p : PrjM} {ch : List Nat} {a x : Nat} {most : Option Nat} (h : x ∈ poss p ch a most) : x ∈ poss p ch a none := by
  obtain ⟨h1, h2, e, he, h3, h4⟩ := mem_poss.mp h
  have := limN_le (p := p) (a := a) (most := most)
  exact mem_poss.mpr ⟨h1, by omega, e, he, by omega, h4⟩
end Mth

/-! MthD -/
set_option Elab.async false
set_option linter.all false
namespace Mth
/-! the two ways to the least and the greatest row -/
structure LInv (p : PrjM) (ch : List Nat) (rs : List RuleM) (most : Option Nat) (left : List (List Nat)) : Prop where
  len : left.length = p.n
  asc : ∀ a, (left.getD a []).Pairwise (· < ·)
  mem : ∀ a, a < p.n → ∀ x ∈ left.getD a [], x ∈ poss p ch a most
  sol : ∀ row, Sol p ch rs most row → ∀ a, a < p.n → row.getD a 0 ∈ left.getD a []
def hd (left : List (List Nat)) (a : Nat) : Nat := (left.getD a []).headD 0
def la (left : List (List Nat)) (a : Nat) : Nat := (left.getD a []).getLastD 0
theorem hd_mem {l : List Nat} (h : l ≠ []) : l.headD 0 ∈ l := by
  cases l with
  | nil => exact absurd rfl h
  | cons a r => simp
theorem hd_le {l : List Nat} (h : l.Pairwise (· < ·)) {x : Nat} (hx : x ∈ l) : l.headD 0 ≤ x := by
  cases l with
  | nil => cases hx
  | cons a r =>
    rcases List.mem_cons.mp hx with rfl | hx
    · exact Nat.le_refl _
    · exact Nat.le_of_lt (List.rel_of_pairwise_cons h hx)
theorem la_mem {l : List Nat} (h : l ≠ []) : l.getLastD 0 ∈ l := by
  rw [List.getLastD_eq_getLast?, List.getLast?_eq_some_getLast h]
  exact List.getLast_mem h
theorem la_ge : ∀ {l : List Nat}, l.Pairwise (· < ·) → ∀ {x : Nat}, x ∈ l → x ≤ l.getLastD 0
  | [], _, _, hx => by cases hx
  | [a], _, x, hx => by simp at hx; subst hx; simp
  | a :: b :: r, h, x, hx => by
    have h' := List.pairwise_cons.mp h
    have e : (a :: b :: r).getLastD 0 = (b :: r).getLastD 0 := by simp [List.getLastD]
    rw [e]
    rcases List.mem_cons.mp hx with rfl | hx
    · have := h'.1 b (by simp)
      have := la_ge h'.2 (x := b) (by simp)
      omega
    · exact la_ge h'.2 hx
theorem getD_set {α : Type} {l : List α} {i a : Nat} {x d : α} (h : i < l.length) : (l.set i x).getD a d = if i = a then x else l.getD a d := by
  rw [List.getD, List.getD, List.getElem?_set]
  split
  · subst_vars; simp [h]
  · rfl
theorem met_src {p : PrjM} (ok : OkP p) {ch : List Nat} {r : RuleM} {s s' t : Nat} (h : met p ch r s t = true) (hs : s' ≤ s) (e : ∃ x, evA p ch r.src r.w1 s' = some x) : met p ch r s' t = true := by
  obtain ⟨x', ex'⟩ := e
  unfold met at h ⊢
  cases ey : evA p ch r.tgt r.w2 t with
  | none => rw [ey] at h; cases h
  | some y =>
    rw [ey] at h
    cases ex : evA p ch r.src r.w1 s with
    | none => rw [ex] at h; cases h
    | some x =>
      rw [ex] at h
      rw [ex']
      have := evA_mono ok ex' ex hs
      simp only [decide_eq_true_eq] at h ⊢
      omega
theorem met_tgt {p : PrjM} (ok : OkP p) {ch : List Nat} {r : RuleM} {s t t' : Nat} (h : met p ch r s t = true) (ht : t ≤ t') (e : ∃ x, evA p ch r.tgt r.w2 t' = some x) : met p ch r s t' = true := by
  obtain ⟨y', ey'⟩ := e
  unfold met at h ⊢
  cases ey : evA p ch r.tgt r.w2 t with
  | none => rw [ey] at h; cases h
  | some y =>
    rw [ey] at h
    cases ex : evA p ch r.src r.w1 s with
    | none => rw [ex] at h; cases h
    | some x =>
      rw [ex] at h
      rw [ey']
      have := evA_mono ok ey ey' ht
      simp only [decide_eq_true_eq] at h ⊢
      omega
section
variable {p : PrjM} {ch : List Nat} {rs : List RuleM} {most : Option Nat} {left : List (List Nat)} {r : RuleM}
theorem LInv.ne (I : LInv p ch rs most left) {row : List Nat} (s : Sol p ch rs most row) {a : Nat} (ha : a < p.n) : left.getD a [] ≠ [] := fun e => by
  have := I.sol row s a ha
  rw [e] at this; cases this
/-- a list that keeps what every solution takes -/
theorem LInv.cut (I : LInv p ch rs most left) (ht : r.tgt < p.n) (a0 : Nat) (ha0 : a0 < p.n) (f : Nat → Bool) (hs : ∀ row, Sol p ch rs most row → f (row.getD a0 0) = true) : LInv p ch rs most (left.set a0 ((left.getD a0 []).filter f)) := by
  have hl : a0 < left.length := by rw [I.len]; exact ha0
  refine ⟨by rw [List.length_set]; exact I.len, fun a => ?_, fun a ha x hx => ?_, fun row s a ha => ?_⟩
  · rw [getD_set hl]
    split
    · exact (I.asc a0).filter _
    · exact I.asc a
  · rw [getD_set hl] at hx
    split at hx
    · rename_i e; subst e; exact I.mem a0 ha x (List.mem_filter.mp hx).1
    · exact I.mem a ha x hx
  · rw [getD_set hl]
    split
    · rename_i e; subst e; exact List.mem_filter.mpr ⟨I.sol row s a0 ha, hs row s⟩
    · exact I.sol row s a ha
theorem LInv.low (ok : OkP p) (I : LInv p ch rs most left) (hr : r ∈ rs) (h1 : r.src < p.n) (h2 : r.tgt < p.n) (ne : left.getD r.src [] ≠ []) (row : List Nat) (s : Sol p ch rs most row) : met p ch r (hd left r.src) (row.getD r.tgt 0) = true :=
  met_src ok (s.met r hr) (hd_le (I.asc r.src) (I.sol row s r.src h1)) (poss_ev (I.mem r.src h1 _ (hd_mem ne)) _)
theorem LInv.high (ok : OkP p) (I : LInv p ch rs most left) (hr : r ∈ rs) (h1 : r.src < p.n) (h2 : r.tgt < p.n) (ne : left.getD r.tgt [] ≠ []) (row : List Nat) (s : Sol p ch rs most row) : met p ch r (row.getD r.src 0) (la left r.tgt) = true :=
  met_tgt ok (s.met r hr) (la_ge (I.asc r.tgt) (I.sol row s r.tgt h2)) (poss_ev (I.mem r.tgt h2 _ (la_mem ne)) _)
/-- nothing is left: there is no solution -/
theorem LInv.none_ (ok : OkP p) (I : LInv p ch rs most left) (hr : r ∈ rs) (h1 : r.src < p.n) (h2 : r.tgt < p.n) (ne : left.getD r.src [] ≠ []) (e : (left.getD r.tgt []).filter (fun t => met p ch r (hd left r.src) t) = []) (row : List Nat) : ¬ Sol p ch rs most row := fun s => by
  have m := I.sol row s r.tgt h2
  have : row.getD r.tgt 0 ∈ (left.getD r.tgt []).filter (fun t => met p ch r (hd left r.src) t) := List.mem_filter.mpr ⟨m, I.low ok hr h1 h2 ne row s⟩
  rw [e] at this; cases this
theorem LInv.empty (I : LInv p ch rs most left) {a : Nat} (ha : a < p.n) (e : left.getD a [] = []) (row : List Nat) : ¬ Sol p ch rs most row := fun s => by
  have := I.sol row s a ha
  rw [e] at this; cases this
theorem getD_map_hd {a : Nat} (ha : a < left.length) : (left.map fun l => l.headD 0).getD a 0 = hd left a := by
  unfold hd
  rw [List.getD, List.getElem?_map, List.getD, List.getElem?_eq_getElem ha]; rfl
theorem getD_map_la {a : Nat} (ha : a < left.length) : (left.map fun l => l.getLastD 0).getD a 0 = la left a := by
  unfold la
  rw [List.getD, List.getElem?_map, List.getD, List.getElem?_eq_getElem ha]; rfl
theorem led_done (I : LInv p ch rs most left) (hrs : ∀ r ∈ rs, r.src < p.n ∧ r.tgt < p.n) (ne : ∀ a, a < p.n → left.getD a [] ≠ []) (st : ∀ r ∈ rs, (left.getD r.tgt []).filter (fun t => met p ch r (hd left r.src) t) = left.getD r.tgt []) :
    Sol p ch rs most (left.map fun l => l.headD 0) ∧ ∀ row, Sol p ch rs most row → ∀ a, a < p.n → (left.map fun l => l.headD 0).getD a 0 ≤ row.getD a 0 := by
  refine ⟨⟨by rw [List.length_map]; exact I.len, fun a ha => ?_, fun r hr => ?_⟩, fun row s a ha => ?_⟩
  · rw [getD_map_hd (by rw [I.len]; exact ha)]
    exact I.mem a ha _ (hd_mem (ne a ha))
  · obtain ⟨h1, h2⟩ := hrs r hr
    rw [getD_map_hd (by rw [I.len]; exact h1), getD_map_hd (by rw [I.len]; exact h2)]
    have m : hd left r.tgt ∈ (left.getD r.tgt []).filter (fun t => met p ch r (hd left r.src) t) := by rw [st r hr]; exact hd_mem (ne _ h2)
    exact (List.mem_filter.mp m).2
  · rw [getD_map_hd (by rw [I.len]; exact ha)]
    exact hd_le (I.asc a) (I.sol row s a ha)
theorem greatest_done (I : LInv p ch rs most left) (hrs : ∀ r ∈ rs, r.src < p.n ∧ r.tgt < p.n) (ne : ∀ a, a < p.n → left.getD a [] ≠ []) (st : ∀ r ∈ rs, (left.getD r.src []).filter (fun s => met p ch r s (la left r.tgt)) = left.getD r.src []) :
    Sol p ch rs most (left.map fun l => l.getLastD 0) ∧ ∀ row, Sol p ch rs most row → ∀ a, a < p.n → row.getD a 0 ≤ (left.map fun l => l.getLastD 0).getD a 0 := by
  refine ⟨⟨by rw [List.length_map]; exact I.len, fun a ha => ?_, fun r hr => ?_⟩, fun row s a ha => ?_⟩
  · rw [getD_map_la (by rw [I.len]; exact ha)]
    exact I.mem a ha _ (la_mem (ne a ha))
  · obtain ⟨h1, h2⟩ := hrs r hr
    rw [getD_map_la (by rw [I.len]; exact h1), getD_map_la (by rw [I.len]; exact h2)]
    have m : la left r.src ∈ (left.getD r.src []).filter (fun s => met p ch r s (la left r.tgt)) := by rw [st r hr]; exact la_mem (ne _ h1)
    exact (List.mem_filter.mp m).2
  · rw [getD_map_la (by rw [I.len]; exact ha)]
    exact la_ge (I.asc a) (I.sol row s a ha)
/-- the lists at the start -/
theorem LInv.start : LInv p ch rs most ((List.range p.n).map fun a => poss p ch a most) := by
  have g : ∀ a, a < p.n → ((List.range p.n).map fun a => poss p ch a most).getD a [] = poss p ch a most := fun a ha => by
    rw [List.getD, List.getElem?_map, List.getElem?_range ha]; rfl
  refine ⟨by simp, fun a => ?_, fun a ha x hx => by rw [g a ha] at hx; exact hx, fun row s a ha => by rw [g a ha]; exact s.mem a ha⟩
  by_cases ha : a < p.n
  · rw [g a ha]; exact poss_asc
  · rw [List.getD, List.getElem?_eq_none (by simpa using ha)]; exact .nil
/-- how many are left in all -/
def tot (left : List (List Nat)) : Nat := (left.map List.length).sum
theorem tot_set {left : List (List Nat)} {x : List Nat} : ∀ {a : Nat}, a < left.length → x.length < (left.getD a []).length → tot (left.set a x) < tot left := by
  induction left with
  | nil => intro a ha; simp at ha
  | cons l r ih =>
    intro a ha hx
    cases a with
    | zero =>
      simp [tot] at hx ⊢
      omega
    | succ a =>
      have := ih (a := a) (by simpa using ha) (by simpa using hx)
      simp [tot] at this ⊢
      exact this
theorem filter_lt {l : List Nat} {f : Nat → Bool} (h : l.filter f ≠ l) : (l.filter f).length < l.length := by
  rcases Nat.lt_or_ge (l.filter f).length l.length with z | z
  · exact z
  · exact absurd (List.filter_sublist.eq_of_length_le z) h
end
end Mth

/-! MthE -/
set_option Elab.async false
set_option linter.all false
namespace Mth
def keptL (p : PrjM) (ch : List Nat) (row : List Nat) : Bool := p.lags.all fun l => lagKept p ch l (row.getD l.first 0) (row.getD l.second 0)
def pairOk (p : PrjM) (ch : List Nat) (q : Nat × Nat) (s t : Nat) : Bool := match eA p ch q.1 s with
  | some e => decide (e + setup p q.1 q.2 p.singles ≤ t)
  | none => false
def keptP (p : PrjM) (ch : List Nat) (pairs : List (Nat × Nat)) (row : List Nat) : Bool := pairs.all fun q => pairOk p ch q (row.getD q.1 0) (row.getD q.2 0)
def kept (p : PrjM) (ch : List Nat) (pairs : List (Nat × Nat)) (row : List Nat) : Bool := keptL p ch row && keptP p ch pairs row
structure Row (p : PrjM) (ch : List Nat) (most : Option Nat) (row : List Nat) : Prop where
  len : row.length = p.n
  mem : ∀ a, a < p.n → row.getD a 0 ∈ poss p ch a most
theorem mem_lagsR {r : RuleM} : ∀ {l : List LagM} {k : Nat}, r ∈ lagsR k l ↔ ∃ i x, l[i]? = some x ∧ r ∈ lagRules (k + i) x
  | [], k => by simp [lagsR]
  | x :: l, k => by
    show r ∈ lagRules k x ++ lagsR (k + 1) l ↔ _
    rw [List.mem_append, mem_lagsR]
    constructor
    · rintro (h | ⟨i, y, h1, h2⟩)
      · exact ⟨0, x, rfl, h⟩
      · exact ⟨i + 1, y, by simpa using h1, by rw [show k + (i + 1) = k + 1 + i by omega]; exact h2⟩
    · rintro ⟨i, y, h1, h2⟩
      cases i with
      | zero => simp at h1; subst h1; exact .inl h2
      | succ i => exact .inr ⟨i, y, by simpa using h1, by rw [show k + 1 + i = k + (i + 1) by omega]; exact h2⟩
theorem mem_pairsR {p : PrjM} {r : RuleM} : ∀ {l : List (Nat × Nat)} {k : Nat}, r ∈ pairsR p k l ↔ ∃ i q, l[i]? = some q ∧ r = ⟨q.1, q.2, setup p q.1 q.2 p.singles, false, true, false, k + i⟩
  | [], k => by simp [pairsR]
  | x :: l, k => by
    show r ∈ _ :: pairsR p (k + 1) l ↔ _
    rw [List.mem_cons, mem_pairsR]
    constructor
    · rintro (h | ⟨i, y, h1, h2⟩)
      · exact ⟨0, x, rfl, h⟩
      · exact ⟨i + 1, y, by simpa using h1, by rw [show k + (i + 1) = k + 1 + i by omega]; exact h2⟩
    · rintro ⟨i, y, h1, h2⟩
      cases i with
      | zero => simp at h1; subst h1; exact .inl h2
      | succ i => exact .inr ⟨i, y, by simpa using h1, by rw [show k + 1 + i = k + (i + 1) by omega]; exact h2⟩
theorem lag_met {p : PrjM} {ch : List Nat} {l : LagM} {s t x y : Nat} (hx : evA p ch l.first l.one s = some x) (hy : evA p ch l.second l.oth t = some y) (hne : l.first ≠ l.second) (i : Nat) :
    lagKept p ch l s t = true ↔ ∀ r ∈ lagRules i l, (r.src = l.first ∧ r.tgt = l.second ∧ met p ch r s t = true) ∨ (r.src = l.second ∧ r.tgt = l.first ∧ met p ch r t s = true) := by
  unfold lagKept lagRules
  rw [hx, hy, if_neg hne]
  unfold lagOk
  simp only [Bool.and_eq_true, decide_eq_true_eq]
  constructor
  · rintro ⟨h1, h2⟩ r hr
    rcases List.mem_cons.mp hr with rfl | hr
    · refine .inl ⟨rfl, rfl, ?_⟩
      unfold met
      simp only [hx, hy, decide_eq_true_eq]; exact h1
    · cases hh : l.high with
      | none => rw [hh] at hr; cases hr
      | some h =>
        rw [hh] at hr h2
        simp at hr
        subst hr
        refine .inr ⟨rfl, rfl, ?_⟩
        unfold hiOk at h2
        simp only [decide_eq_true_eq] at h2
        unfold met
        simp only [hx, hy, decide_eq_true_eq]
        omega
  · intro h
    refine ⟨?_, ?_⟩
    · rcases h _ (List.mem_cons_self ..) with ⟨_, _, m⟩ | ⟨e, _, _⟩
      · unfold met at m
        simp only [hx, hy, decide_eq_true_eq] at m; exact m
      · exact absurd e hne
    · cases hh : l.high with
      | none => rfl
      | some hv =>
        unfold hiOk
        simp only [decide_eq_true_eq]
        rcases h ⟨l.second, l.first, -hv, l.oth, l.one, true, i⟩ (by rw [hh]; simp) with ⟨e, _, _⟩ | ⟨_, _, m⟩
        · exact absurd e.symm hne
        · unfold met at m
          simp only [hx, hy, decide_eq_true_eq] at m
          omega
theorem pair_met {p : PrjM} {ch : List Nat} {q : Nat × Nat} {s t k : Nat} : met p ch ⟨q.1, q.2, setup p q.1 q.2 p.singles, false, true, false, k⟩ s t = true ↔ pairOk p ch q s t = true := by
  unfold met pairOk evA
  cases e : eA p ch q.1 s with
  | none => simp [e]
  | some x => simp [e]; omega
/-- the rules say what the law's own check says -/
theorem sol_iff {p : PrjM} (ok : OkP p) {ch : List Nat} {pairs : List (Nat × Nat)} {most : Option Nat} {row : List Nat} :
    Sol p ch (rulesOf p pairs) most row ↔ Row p ch most row ∧ kept p ch pairs row = true := by
  have own : Row p ch most row → ∀ l ∈ p.lags, l.first = l.second → lagKept p ch l (row.getD l.first 0) (row.getD l.second 0) = true := fun R l hl e => by
    have L := ok.lags.2 l hl
    obtain ⟨_, _, _, _, _, h4⟩ := mem_poss.mp (R.mem l.second L.second)
    rw [e]
    exact h4 l (List.mem_filter.mpr ⟨hl, by simp [e]⟩)
  constructor
  · intro s
    have R : Row p ch most row := ⟨s.len, s.mem⟩
    refine ⟨R, ?_⟩
    unfold kept keptL keptP
    rw [Bool.and_eq_true, List.all_eq_true, List.all_eq_true]
    refine ⟨fun l hl => ?_, fun q hq => ?_⟩
    · have L := ok.lags.2 l hl
      by_cases e : l.first = l.second
      · exact own R l hl e
      · obtain ⟨x, hx⟩ := poss_ev (s.mem l.first L.first) l.one
        obtain ⟨y, hy⟩ := poss_ev (s.mem l.second L.second) l.oth
        obtain ⟨i, hi⟩ := List.getElem?_of_mem hl
        rw [lag_met hx hy e i]
        intro r hr
        have hm := s.met r (List.mem_append_left _ (mem_lagsR.mpr ⟨i, l, hi, by rw [Nat.zero_add]; exact hr⟩))
        unfold lagRules at hr
        rw [if_neg e] at hr
        rcases List.mem_cons.mp hr with rfl | hr
        · exact .inl ⟨rfl, rfl, hm⟩
        · cases hh : l.high with
          | none => rw [hh] at hr; cases hr
          | some h => rw [hh] at hr; simp at hr; subst hr; exact .inr ⟨rfl, rfl, hm⟩
    · obtain ⟨i, hi⟩ := List.getElem?_of_mem hq
      have hm := s.met _ (List.mem_append_right _ (mem_pairsR.mpr ⟨i, q, hi, rfl⟩))
      exact pair_met.mp hm
  · rintro ⟨R, h⟩
    unfold kept keptL keptP at h
    rw [Bool.and_eq_true, List.all_eq_true, List.all_eq_true] at h
    refine ⟨R.len, R.mem, fun r hr => ?_⟩
    rcases List.mem_append.mp hr with hr | hr
    · obtain ⟨i, l, hi, hr⟩ := mem_lagsR.mp hr
      have hl := List.mem_of_getElem? hi
      have L := ok.lags.2 l hl
      by_cases e : l.first = l.second
      · unfold lagRules at hr; rw [if_pos e] at hr; cases hr
      · obtain ⟨x, hx⟩ := poss_ev (R.mem l.first L.first) l.one
        obtain ⟨y, hy⟩ := poss_ev (R.mem l.second L.second) l.oth
        rcases (lag_met hx hy e (0 + i)).mp (h.1 l hl) r hr with ⟨e1, e2, m⟩ | ⟨e1, e2, m⟩
        · rw [e1, e2]; exact m
        · rw [e1, e2]; exact m
    · obtain ⟨i, q, hi, rfl⟩ := mem_pairsR.mp hr
      exact pair_met.mpr (h.2 q (List.mem_of_getElem? hi))
/-! more pairs, a lesser bound -/
theorem pairsR_app {p : PrjM} {b : List (Nat × Nat)} : ∀ {a : List (Nat × Nat)} {k : Nat}, pairsR p k (a ++ b) = pairsR p k a ++ pairsR p (k + a.length) b
  | [], k => rfl
  | x :: a, k => by
    show _ :: pairsR p (k + 1) (a ++ b) = _ :: pairsR p (k + 1) a ++ _
    rw [pairsR_app, show k + 1 + a.length = k + (x :: a).length by simp; omega]; rfl
theorem Sol.fewer {p : PrjM} {ch : List Nat} {a b : List (Nat × Nat)} {most : Option Nat} {row : List Nat} (s : Sol p ch (rulesOf p (a ++ b)) most row) : Sol p ch (rulesOf p a) none row :=
  ⟨s.len, fun a h => poss_sub (s.mem a h), fun r hr => s.met r (by
    rcases List.mem_append.mp hr with h | h
    · exact List.mem_append_left _ h
    · exact List.mem_append_right _ (by rw [pairsR_app]; exact List.mem_append_left _ h))⟩
theorem Sol.wide {p : PrjM} {ch : List Nat} {rs : List RuleM} {most : Option Nat} {row : List Nat} (s : Sol p ch rs most row) : Sol p ch rs none row := ⟨s.len, fun a h => poss_sub (s.mem a h), s.met⟩
/-- inner lies within outer -/
def Within (n : Nat) : Option (List Nat × List Nat) → Option (List Nat × List Nat) → Prop
  | none, _ => True
  | some _, none => False
  | some i, some o => (∀ a, a < n → o.1.getD a 0 ≤ i.1.getD a 0) ∧ ∀ a, a < n → i.2.getD a 0 ≤ o.2.getD a 0
theorem within_of {p : PrjM} {ch : List Nat} {rs rs' : List RuleM} {m m' : Option Nat} {inner outer : Option (List Nat × List Nat)} (hi : TimesIs p ch rs m inner) (ho : TimesIs p ch rs' m' outer) (sub : ∀ row, Sol p ch rs m row → Sol p ch rs' m' row) : Within p.n inner outer := by
  cases inner with
  | none => trivial
  | some i =>
    obtain ⟨s1, s2, _⟩ := hi
    cases outer with
    | none => exact ho _ (sub _ s1)
    | some o => exact ⟨fun a ha => (ho.2.2 _ (sub _ s1) a ha).1, fun a ha => (ho.2.2 _ (sub _ s2) a ha).2⟩
/-! the lesser and the greater of two -/
def mergeR (f : Nat → Nat → Nat) (x y : List Nat) : List Nat := List.zipWith f x y
theorem mergeR_get {f : Nat → Nat → Nat} {x y : List Nat} {a : Nat} (h1 : a < x.length) (h2 : a < y.length) : (mergeR f x y).getD a 0 = f (x.getD a 0) (y.getD a 0) := by
  unfold mergeR
  rw [List.getD, List.getElem?_zipWith, List.getElem?_eq_getElem h1, List.getElem?_eq_getElem h2, List.getD, List.getD, List.getElem?_eq_getElem h1, List.getElem?_eq_getElem h2]; rfl
theorem Sol.lesser {p : PrjM} (ok : OkP p) {ch : List Nat} {rs : List RuleM} (hrs : ∀ r ∈ rs, r.src < p.n ∧ r.tgt < p.n) {most : Option Nat} {x y : List Nat} (s : Sol p ch rs most x) (t : Sol p ch rs most y) : Sol p ch rs most (mergeR min x y) := by
  have g : ∀ a, a < p.n → (mergeR min x y).getD a 0 = min (x.getD a 0) (y.getD a 0) := fun a ha => mergeR_get (by rw [s.len]; exact ha) (by rw [t.len]; exact ha)
  refine ⟨by unfold mergeR; rw [List.length_zipWith, s.len, t.len, Nat.min_self], fun a ha => ?_, fun r hr => ?_⟩
  · rw [g a ha]
    rcases Nat.le_total (x.getD a 0) (y.getD a 0) with h | h
    · rw [Nat.min_eq_left h]; exact s.mem a ha
    · rw [Nat.min_eq_right h]; exact t.mem a ha
  · obtain ⟨h1, h2⟩ := hrs r hr
    rw [g _ h1, g _ h2]
    have e : ∃ z, evA p ch r.src r.w1 (min (x.getD r.src 0) (y.getD r.src 0)) = some z := by
      rcases Nat.le_total (x.getD r.src 0) (y.getD r.src 0) with h | h
      · rw [Nat.min_eq_left h]; exact poss_ev (s.mem _ h1) _
      · rw [Nat.min_eq_right h]; exact poss_ev (t.mem _ h1) _
    rcases Nat.le_total (x.getD r.tgt 0) (y.getD r.tgt 0) with h | h
    · rw [Nat.min_eq_left h]; exact met_src ok (s.met r hr) (Nat.min_le_left _ _) e
    · rw [Nat.min_eq_right h]; exact met_src ok (t.met r hr) (Nat.min_le_right _ _) e
theorem Sol.greater {p : PrjM} (ok : OkP p) {ch : List Nat} {rs : List RuleM} (hrs : ∀ r ∈ rs, r.src < p.n ∧ r.tgt < p.n) {most : Option Nat} {x y : List Nat} (s : Sol p ch rs most x) (t : Sol p ch rs most y) : Sol p ch rs most (mergeR max x y) := by
  have g : ∀ a, a < p.n → (mergeR max x y).getD a 0 = max (x.getD a 0) (y.getD a 0) := fun a ha => mergeR_get (by rw [s.len]; exact ha) (by rw [t.len]; exact ha)
  refine ⟨by unfold mergeR; rw [List.length_zipWith, s.len, t.len, Nat.min_self], fun a ha => ?_, fun r hr => ?_⟩
  · rw [g a ha]
    rcases Nat.le_total (x.getD a 0) (y.getD a 0) with h | h
    · rw [Nat.max_eq_right h]; exact t.mem a ha
    · rw [Nat.max_eq_left h]; exact s.mem a ha
  · obtain ⟨h1, h2⟩ := hrs r hr
    rw [g _ h1, g _ h2]
    have e : ∃ z, evA p ch r.tgt r.w2 (max (x.getD r.tgt 0) (y.getD r.tgt 0)) = some z := by
      rcases Nat.le_total (x.getD r.tgt 0) (y.getD r.tgt 0) with h | h
      · rw [Nat.max_eq_right h]; exact poss_ev (t.mem _ h2) _
      · rw [Nat.max_eq_left h]; exact poss_ev (s.mem _ h2) _
    rcases Nat.le_total (x.getD r.src 0) (y.getD r.src 0) with h | h
    · rw [Nat.max_eq_right h]; exact met_tgt ok (t.met r hr) (Nat.le_max_right _ _) e
    · rw [Nat.max_eq_left h]; exact met_tgt ok (s.met r hr) (Nat.le_max_left _ _) e
theorem rules_ok {p : PrjM} (ok : OkP p) {pairs : List (Nat × Nat)} (hp : ∀ q ∈ pairs, q.1 < p.n ∧ q.2 < p.n) : ∀ r ∈ rulesOf p pairs, r.src < p.n ∧ r.tgt < p.n := fun r hr => by
  rcases List.mem_append.mp hr with hr | hr
  · obtain ⟨i, l, hi, hr⟩ := mem_lagsR.mp hr
    have L := ok.lags.2 l (List.mem_of_getElem? hi)
    unfold lagRules at hr
    split at hr
    · cases hr
    · rcases List.mem_cons.mp hr with rfl | hr
      · exact ⟨L.first, L.second⟩
      · cases hh : l.high with
        | none => rw [hh] at hr; cases hr
        | some h => rw [hh] at hr; simp at hr; subst hr; exact ⟨L.second, L.first⟩
  · obtain ⟨i, q, hi, rfl⟩ := mem_pairsR.mp hr
    exact hp q (List.mem_of_getElem? hi)
/-! the last end as a bound -/
theorem limN_some {p : PrjM} {a m : Nat} : limN p a (some m) = min (limN p a none) m := rfl
theorem Sol.bounded {p : PrjM} (ok : OkP p) {ch : List Nat} {rs : List RuleM} {row : List Nat} (s : Sol p ch rs none row) {m : Nat} (hm : ∀ a e, a < p.n → eA p ch a (row.getD a 0) = some e → e ≤ m) : Sol p ch rs (some m) row :=
  ⟨s.len, fun a ha => by
    obtain ⟨h1, h2, e, he, h3, h4⟩ := mem_poss.mp (s.mem a ha)
    have := hm a e ha he
    have := eA_ge ok he
    refine mem_poss.mpr ⟨h1, ?_, e, he, ?_, h4⟩ <;> rw [limN_some] <;> omega, s.met⟩
theorem no_less {p : PrjM} (ok : OkP p) {ch : List Nat} {rs : List RuleM} {l g : List Nat} (h : TimesIs p ch rs none (some (l, g))) {m a : Nat} (ha : a < p.n) (he : eA p ch a (l.getD a 0) = some (m + 1)) (row : List Nat) : ¬ Sol p ch rs (some m) row := fun s => by
  obtain ⟨_, _, hall⟩ := h
  have h1 := (hall row s.wide a ha).1
  obtain ⟨_, _, e, he', h3, _⟩ := mem_poss.mp (s.mem a ha)
  rw [limN_some] at h3
  have := eA_mono ok he he' h1
  omega
theorem first_le {p : PrjM} {ch : List Nat} {rs : List RuleM} {row : List Nat} (s : Sol p ch rs none row) {a : Nat} (ha : a < p.n) : poss p ch a none ≠ [] ∧ (poss p ch a none).headD 0 ≤ row.getD a 0 := by
  have m := s.mem a ha
  exact ⟨fun e => (by rw [e] at m; cases m), hd_le poss_asc m⟩
end Mth

/-! DfD -/
set_option Elab.async false
set_option linter.all false
set_option maxRecDepth 100000
set_option maxHeartbeats 4000000
namespace DL
open PySem PySem.Spec PyProof.Rows L2
open NdefX (NTab TabsN TabN)
open Mth
/-! ### a project as data -/
abbrev nI (n : Nat) : Dat := .int (n : Int)
abbrev dNats (l : List Nat) : Dat := .tup (l.map nI)
def word (b : Bool) : Str := if b = true then "start" else "end"
abbrev dWord (b : Bool) : Dat := .str (word b)
abbrev dMode (m : ModeM) : Dat := .tup [nI m.work, dNats m.dem, dNats m.uses, nI m.cost]
abbrev dModeL (l : List ModeM) : Dat := .tup (l.map dMode)
abbrev dModes (p : PrjM) : Dat := .tup (p.modes.map dModeL)
def o2l {α : Type} : Option (List α) → List α
  | none => []
  | some l => l
def dCalO (ad : Ads) : Option CalM → Dat
  | none => .non
  | some c => dCal ad c
abbrev dCals (ad : Ads) (p : PrjM) : Dat := .tup ((o2l p.cals).map (dCalO ad))
abbrev dWin (w : Nat × Option Nat) : Dat := .tup [nI w.1, dOpt w.2]
abbrev dWins (p : PrjM) : Dat := .tup ((o2l p.wins).map dWin)
abbrev dFams (p : PrjM) : Dat := .tup ((o2l p.fams).map nI)
def dOI : Option Int → Dat
  | none => .non
  | some i => .int i
abbrev dLag (l : LagM) : Dat := .tup [dWord l.one, nI l.first, dWord l.oth, nI l.second, .int l.low, dOI l.high]
abbrev dLags (p : PrjM) : Dat := .tup (p.lags.map dLag)
abbrev dSingle (s : List Nat × List (List Nat)) : Dat := .tup [dNats s.1, .tup (s.2.map dNats)]
abbrev dSingles (p : PrjM) : Dat := .tup (p.singles.map dSingle)
def dCrew (b : Bool) : Dat := .tup (if b = true then [.tup [.str "weld"], .tup [.str "weld", .str "lift"]] else [])
def dAsks (b : Bool) (n : Nat) : Dat := .tup (if b = true then List.replicate n (.tup [.tup [.str "weld", .int 1]]) else [])
def dLateO : Option (Nat × Nat) → Dat
  | none => .non
  | some q => .tup [nI q.1, nI q.2]
abbrev dLate (p : PrjM) : Dat := .tup ((o2l p.late).map dLateO)
def nameL : List Str := ["a", "b-2", "dig", "e", "f"]
abbrev dNames (n : Nat) : Dat := .tup ((nameL.take n).map .str)
def prjF (ad : Ads) (p : PrjM) : List (Str × Dat) := [("names", dNames p.n), ("horizon", nI p.hor), ("machines", dNats p.mach), ("stocks", dNats p.stock), ("modes", dModes p), ("calendars", dCals ad p), ("windows", dWins p), ("families", dFams p), ("lags", dLags p), ("singles", dSingles p),
  ("crew", dCrew p.crew), ("asks", dAsks p.crew p.n), ("overhead", nI p.overhead), ("late", dLate p)]
abbrev dPrj (ad : Ads) (p : PrjM) : Dat := .ins ad.project (prjF ad p)
theorem at_map {α : Type} {l : List α} {f : α → Dat} {a : Nat} (d : α) (h : a < l.length) : atI (l.map f) (a : Int) = some (f (l.getD a d)) :=
  atI_nat (by rw [List.getElem?_map, getD_get h]; rfl)
theorem ch_lt {p : PrjM} {ch : List Nat} (h : OkCh p ch) {a : Nat} (ha : a < p.n) : ch.getD a 0 < (p.modes.getD a []).length := by
  have hl : a < ch.length := by rw [h.len]; exact ha
  exact h.lt a _ (getD_get hl)
section
variable {W : Wd} {ad : Ads}
def S_mode_of (ad : Ads) : Sc := fun ds Q => ∃ (p : PrjM) (ch : List Nat) (a : Nat), ds = [dPrj ad p, dNats ch, nI a] ∧ OkP p ∧ OkCh p ch ∧ a < p.n ∧ Q (dMode ((p.modes.getD a []).getD (ch.getD a 0) mode0))
theorem c_mode_of (G : Gl0 W ad) : CalD W 1 "mode_of" (S_mode_of ad) [] := by
  refine cal_of (N := ["project", "choice", "activity"]) (ps := ["project", "choice", "activity"]) G.d_mode_of (by decide +kernel) (fun _ _ _ _ _ _ us hl => match us, hl with | [_, _, _], _ => rfl) (fun ds Q ⟨_, _, _, h, _⟩ => by rw [h]; rfl) fun f cdv A outer s H E md0 ds Q hr hS => ?_
  obtain ⟨p, ch, a, rfl, ok, okc, ha, q⟩ := hS
  refine s_one (s_ret ?_)
  refine d_sub ?_
  refine d_sub ?_
  refine d_fld ?_
  refine d_name 0 rfl ?_
  refine ⟨G.ci_project.cl, G.na_project_modes, _, rfl, ?_⟩
  refine d_name 2 rfl ?_
  refine ⟨_, at_map [] (by rw [ok.modes.1]; exact ha), ?_⟩
  refine d_sub ?_
  refine d_name 1 rfl ?_
  refine d_name 2 rfl ?_
  refine ⟨_, at_map 0 (by rw [okc.len]; exact ha), ?_⟩
  exact ⟨_, at_map mode0 (ch_lt okc ha), q⟩
def S_window_of (ad : Ads) : Sc := fun ds Q => ∃ (p : PrjM) (a : Nat), ds = [dPrj ad p, nI a] ∧ OkP p ∧ a < p.n ∧ Q (dWin (winOf p a))
theorem c_window_of (G : Gl0 W ad) : CalD W 1 "window_of" (S_window_of ad) [] := by
  refine cal_of (N := ["project", "activity"]) (ps := ["project", "activity"]) G.d_window_of (by decide +kernel) (fun _ _ _ _ _ _ us hl => match us, hl with | [_, _], _ => rfl) (fun ds Q ⟨_, _, h, _⟩ => by rw [h]; rfl) fun f cdv A outer s H E md0 ds Q hr hS => ?_
  obtain ⟨p, a, rfl, ok, ha, q⟩ := hS
  refine s_one (s_ret ?_)
  refine d_ifE ?_
  refine t_ne0 hr.u0 ?_
  refine d_fld ?_
  refine d_name 0 rfl ?_
  refine ⟨G.ci_project.cl, G.na_project_windows, _, rfl, ?_⟩
  refine d_tup ?_
  refine a_nil ?_
  refine ⟨by simp, ?_⟩
  refine ⟨_, .inl ⟨rfl, rfl⟩, ?_⟩
  cases e : p.wins with
  | none =>
    refine if_f (by simp [o2l]) ?_
    refine d_tup ?_
    refine a_cons ?_
    refine d_int ?_
    refine a_cons ?_
    refine d_non ?_
    refine a_nil ⟨by simp, ?_⟩
    unfold winOf at q
    rw [e] at q
    exact q
  | some l =>
    have hl := (ok.wins l e).1
    have n1 := ok.n1
    refine if_t (by cases l with | nil => simp at hl; omega | cons x r => simp [o2l]) ?_
    refine d_sub ?_
    refine d_fld ?_
    refine d_name 0 rfl ?_
    refine ⟨G.ci_project.cl, G.na_project_windows, _, rfl, ?_⟩
    refine d_name 1 rfl ?_
    unfold winOf at q
    rw [e] at q
    exact ⟨_, (show atI ((o2l p.wins).map dWin) (a : Int) = some (dWin (l.getD a (0, none))) by rw [e]; exact at_map (0, none) (by show a < l.length; omega)), q⟩
def S_end_at (ad : Ads) : Sc := fun ds Q => ∃ (p : PrjM) (ch : List Nat) (a b : Nat), ds = [dPrj ad p, dNats ch, nI a, nI b] ∧ OkP p ∧ OkCh p ch ∧ a < p.n ∧ Q (dOpt (eA p ch a b))
theorem c_end_at (G : Gl0 W ad) : CalD W 5 "end_at" (S_end_at ad) [] := by
  refine cal_of (N := ["project", "choice", "activity", "start", "work", "calendar"]) (ps := ["project", "choice", "activity", "start"]) G.d_end_at (by decide +kernel) (fun _ _ _ _ _ _ us hl => match us, hl with | [_, _, _, _], _ => rfl) (fun ds Q ⟨_, _, _, _, h, _⟩ => by rw [h]; rfl) fun f cdv A outer s H E md0 ds Q hr hS => ?_
  obtain ⟨p, ch, a, b, rfl, ok, okc, ha, q⟩ := hS
  have HN : (["project", "choice", "activity", "start", "work", "calendar"] : List Str).Nodup := by decide
  refine s_cons (s_set 4 ?_ HN)
  refine d_sub ?_
  refine d_call (c_mode_of G) hr ?_
  refine a_cons ?_
  refine d_name 0 rfl ?_
  refine a_cons ?_
  refine d_name 1 rfl ?_
  refine a_cons ?_
  refine d_name 2 rfl ?_
  refine a_nil ⟨p, ch, a, rfl, ok, okc, ha, ?_⟩
  refine d_int ?_
  refine ⟨_, rfl, ?_⟩
  have hw : ((p.modes.getD a []).getD (ch.getD a 0) mode0).work = wrk p ch a := rfl
  rw [hw]
  have h3 := wrk_le ok (ch := ch) a
  have last : ∀ cal : Option CalM, calOf p a = cal → (∀ c, cal = some c → OkC c) → WSs (cxD W ["project", "choice", "activity", "start", "work", "calendar"] "end_at" (defScope (top 76)) f cdv A outer s H E) (bxD W md0 H) ((defBody (top 76)).drop 2)
      [.d (dPrj ad p), .d (dNats ch), .d (nI a), .d (nI b), .d (nI (wrk p ch a)), .d (dCalO ad cal)] { nx := fun _ => Q .non, rt := Q } := fun cal ec okC => by
    refine s_one (s_ret ?_)
    refine d_ifE ?_
    refine t_isN ?_
    refine d_name 5 rfl ?_
    unfold eA at q
    rw [ec] at q
    cases cal with
    | none =>
      refine if_t rfl ?_
      refine d_add ?_
      refine d_name 3 rfl ?_
      refine d_name 4 rfl ?_
      have e : ((b + wrk p ch a : Nat) : Int) = (b : Int) + wrk p ch a := Int.natCast_add ..
      show Q (.int ((b : Int) + wrk p ch a))
      rw [← e]; exact q
    | some c =>
      refine if_f (by simp [dCalO, isNon]) ?_
      refine d_call (c_end_in G) hr ?_
      refine a_cons ?_
      refine d_name 5 rfl ?_
      refine a_cons ?_
      refine d_name 3 rfl ?_
      refine a_cons ?_
      refine d_name 4 rfl ?_
      exact a_nil ⟨c, b, wrk p ch a, rfl, okC c rfl, h3, q⟩
  refine s_cons (s_set 5 ?_ HN)
  refine d_ifE ?_
  refine t_ne0 hr.u0 ?_
  refine d_fld ?_
  refine d_name 0 rfl ?_
  refine ⟨G.ci_project.cl, G.na_project_calendars, _, rfl, ?_⟩
  refine d_tup ?_
  refine a_nil ?_
  refine ⟨by simp, ?_⟩
  refine ⟨_, .inl ⟨rfl, rfl⟩, ?_⟩
  cases e : p.cals with
  | none =>
    refine if_f (by simp [o2l]) ?_
    refine d_non ?_
    exact last none (by unfold calOf; rw [e]) (fun c z => by cases z)
  | some l =>
    have hl := (ok.cals l e).1
    have n1 := ok.n1
    refine if_t (by cases l with | nil => simp at hl; omega | cons x r => simp [o2l]) ?_
    refine d_sub ?_
    refine d_fld ?_
    refine d_name 0 rfl ?_
    refine ⟨G.ci_project.cl, G.na_project_calendars, _, rfl, ?_⟩
    refine d_name 2 rfl ?_
    have ec : calOf p a = l.getD a none := by unfold calOf; rw [e]
    refine ⟨_, (show atI ((o2l p.cals).map (dCalO ad)) (a : Int) = some (dCalO ad (l.getD a none)) by rw [e]; exact at_map none (by show a < l.length; omega)), ?_⟩
    exact last (l.getD a none) ec (fun c z => calOf_ok ok (ec.trans z))
def S_event_at (ad : Ads) : Sc := fun ds Q => ∃ (p : PrjM) (ch : List Nat) (a b : Nat) (w : Bool), ds = [dPrj ad p, dNats ch, nI a, dWord w, nI b] ∧ OkP p ∧ OkCh p ch ∧ a < p.n ∧ Q (dOpt (evA p ch a w b))
theorem c_event_at (G : Gl0 W ad) : CalD W 6 "event_at" (S_event_at ad) [] := by
  refine cal_of (N := ["project", "choice", "activity", "word", "start"]) (ps := ["project", "choice", "activity", "word", "start"]) G.d_event_at (by decide +kernel) (fun _ _ _ _ _ _ us hl => match us, hl with | [_, _, _, _, _], _ => rfl) (fun ds Q ⟨_, _, _, _, _, h, _⟩ => by rw [h]; rfl) fun f cdv A outer s H E md0 ds Q hr hS => ?_
  obtain ⟨p, ch, a, b, w, rfl, ok, okc, ha, q⟩ := hS
  refine s_one (s_ret ?_)
  refine d_ifE ?_
  refine t_eq hr.u64 ?_
  refine d_name 3 rfl ?_
  refine d_str ?_
  refine .inl ⟨_, rfl, ?_⟩
  unfold evA at q
  cases w with
  | true =>
    refine if_t (by decide) ?_
    exact d_name 4 rfl q
  | false =>
    refine if_f (by decide) ?_
    refine d_call (c_end_at G) hr ?_
    refine a_cons ?_
    refine d_name 0 rfl ?_
    refine a_cons ?_
    refine d_name 1 rfl ?_
    refine a_cons ?_
    refine d_name 2 rfl ?_
    refine a_cons ?_
    refine d_name 4 rfl ?_
    exact a_nil ⟨p, ch, a, b, rfl, ok, okc, ha, q⟩
/-- both events come -/
def S_is_kept (ad : Ads) : Sc := fun ds Q => ∃ (p : PrjM) (ch : List Nat) (l : LagM) (s t x y : Nat), ds = [dPrj ad p, dNats ch, dLag l, nI s, nI t] ∧ OkP p ∧ OkCh p ch ∧ OkL p.n l ∧ evA p ch l.first l.one s = some x ∧ evA p ch l.second l.oth t = some y ∧ Q (.bl (lagKept p ch l s t))
theorem c_is_kept (G : Gl0 W ad) : CalD W 7 "is_kept" (S_is_kept ad) [] := by
  refine cal_of (N := ["project", "choice", "lag", "start", "later", "gap", "one", "first", "other", "second", "low", "high"]) (ps := ["project", "choice", "lag", "start", "later"]) G.d_is_kept (by decide +kernel) (fun _ _ _ _ _ _ us hl => match us, hl with | [_, _, _, _, _], _ => rfl) (fun ds Q ⟨_, _, _, _, _, _, _, h, _⟩ => by rw [h]; rfl) fun f cdv A outer s H E md0 ds Q hr hS => ?_
  obtain ⟨p, ch, l, st, lt, x, y, rfl, ok, okc, okl, hx, hy, q⟩ := hS
  have HN : (["project", "choice", "lag", "start", "later", "gap", "one", "first", "other", "second", "low", "high"] : List Str).Nodup := by decide
  refine s_cons (s_asg ?_)
  refine d_name 2 rfl ?_
  refine g_tup (n := 6) rfl ⟨rfl, ?_⟩
  refine g_cons ?_
  refine g_name 6 ?_ HN
  refine g_cons ?_
  refine g_name 7 ?_ HN
  refine g_cons ?_
  refine g_name 8 ?_ HN
  refine g_cons ?_
  refine g_name 9 ?_ HN
  refine g_cons ?_
  refine g_name 10 ?_ HN
  refine g_cons ?_
  refine g_name 11 ?_ HN
  refine g_nil ?_
  refine s_cons (s_set 5 ?_ HN)
  refine d_sub2 ?_
  refine d_call (c_event_at G) hr ?_
  refine a_cons ?_
  refine d_name 0 rfl ?_
  refine a_cons ?_
  refine d_name 1 rfl ?_
  refine a_cons ?_
  refine d_name 9 rfl ?_
  refine a_cons ?_
  refine d_name 8 rfl ?_
  refine a_cons ?_
  refine d_name 4 rfl ?_
  refine a_nil ⟨p, ch, l.second, lt, l.oth, rfl, ok, okc, okl.second, ?_⟩
  rw [hy]
  refine d_call (c_event_at G) hr ?_
  refine a_cons ?_
  refine d_name 0 rfl ?_
  refine a_cons ?_
  refine d_name 1 rfl ?_
  refine a_cons ?_
  refine d_name 7 rfl ?_
  refine a_cons ?_
  refine d_name 6 rfl ?_
  refine a_cons ?_
  refine d_name 3 rfl ?_
  refine a_nil ⟨p, ch, l.first, st, l.one, rfl, ok, okc, okl.first, ?_⟩
  rw [hx]
  refine ⟨trivial, ?_⟩
  unfold lagKept at q
  rw [hx, hy] at q
  refine s_one (s_ret ?_)
  refine d_and ?_
  refine d_le ?_
  refine d_name 10 rfl ?_
  refine d_name 5 rfl ?_
  refine ⟨trivial, ?_⟩
  have q : Q (.bl (decide (l.low ≤ (y : Int) - x) && hiOk l.high ((y : Int) - x))) := q
  refine q_b (if_x (fun h => ?_) (fun h => ?_))
  · rw [h, Bool.true_and] at q
    refine d_one ?_
    refine d_or ?_
    refine d_isN ?_
    refine d_name 11 rfl ?_
    cases eh : l.high with
    | none =>
      rw [eh] at q
      exact q_b (if_t rfl q)
    | some hv =>
      rw [eh] at q
      refine q_b (if_f (by simp [dOI, isNon]) ?_)
      refine d_one ?_
      refine d_le ?_
      refine d_name 5 rfl ?_
      refine d_name 11 rfl ?_
      exact ⟨trivial, q⟩
  · have h : decide (l.low ≤ (y : Int) - x) = false := by simpa using h
    rw [h, Bool.false_and] at q
    exact q
end
end DL

/-! MthF -/
set_option Elab.async false
set_option linter.all false
namespace Mth
def limL (p : PrjM) (a : Nat) (m : Option Nat) : List Int := (p.hor : Int) :: ((match (winOf p a).2 with | none => [] | some d => [(d : Int)]) ++ match m with | none => [] | some d => [(d : Int)])
theorem lim_min {p : PrjM} {a : Nat} {m : Option Nat} {x : Int} (h : x ∈ limL p a m) (h2 : ∀ y, y ∈ limL p a m → x ≤ y) : x = (limN p a m : Nat) := by
  unfold limL at h h2
  unfold limN
  cases e : (winOf p a).2 with
  | none =>
    rw [e] at h h2
    cases m with
    | none => simp at h; subst h; rfl
    | some d =>
      simp at h h2
      simp only
      rcases h with h | h <;> omega
  | some d =>
    rw [e] at h h2
    cases m with
    | none =>
      simp at h h2
      simp only
      rcases h with h | h <;> omega
    | some d2 =>
      simp at h h2
      simp only
      rcases h with h | h | h <;> omega
theorem limN_hor {p : PrjM} {a : Nat} {m : Option Nat} : limN p a m ≤ p.hor := by
  unfold limN
  cases (winOf p a).2 <;> cases m <;> simp only <;> omega
theorem win_le {p : PrjM} (h : OkP p) (a : Nat) : (winOf p a).1 ≤ 3 := by
  unfold winOf
  cases e : p.wins with
  | none => simp
  | some l =>
    simp only
    rw [List.getD]
    cases e2 : l[a]? with
    | none => simp
    | some x => exact ((h.wins l e).2 x (List.mem_of_getElem? e2)).1
theorem ev_some {p : PrjM} {ch : List Nat} {a x e : Nat} (h : eA p ch a x = some e) (w : Bool) : ∃ y, evA p ch a w x = some y := by
  unfold evA
  split
  · exact ⟨_, rfl⟩
  · exact ⟨e, h⟩
theorem filter_snoc {α : Type} {f : α → Bool} {l : List α} {x : α} : (l ++ [x]).filter f = if f x = true then l.filter f ++ [x] else l.filter f := by
  rw [List.filter_append]
  split <;> rename_i h <;> simp [h]
theorem filter_take_len {α : Type} {l : List α} {i : Nat} {f : α → Bool} : ((l.take i).filter f).length ≤ l.length :=
  Nat.le_trans (List.length_filter_le _ _) (by rw [List.length_take]; omega)
end Mth

/-! DfE0 -/
set_option Elab.async false
set_option linter.all false
set_option maxRecDepth 100000
set_option maxHeartbeats 4000000
namespace DL
open PySem PySem.Spec PyProof.Rows L2
open NdefX (NTab TabsN TabN)
open Mth
theorem range_nat {a b : Nat} : rangeD (a : Int) ((b : Int) + 1 - a).toNat = (rangeN a (b + 1 - a)).map nI := by
  have e : ((b : Int) + 1 - a).toNat = b + 1 - a := by omega
  rw [e]
  unfold rangeD rangeN
  rw [List.map_map]
  refine List.map_congr_left fun i _ => ?_
  show Dat.int _ = Dat.int _
  simp
theorem range0_nat {n : Nat} : rangeD 0 ((n : Int)).toNat = (List.range n).map nI := by
  unfold rangeD
  rw [Int.toNat_natCast]
  refine List.map_congr_left fun i _ => ?_
  show Dat.int _ = Dat.int _
  simp
theorem lim_filter {p : PrjM} {a : Nat} {m : Option Nat} : [nI p.hor, dOpt (winOf p a).2, dOpt m].filter (fun d => !isNon d) = (limL p a m).map Dat.int := by
  unfold limL
  cases (winOf p a).2 <;> cases m <;> simp [dOpt, isNon]
theorem opt_some {o : Option Nat} (h : (!isNon (dOpt o)) = true) : ∃ e, o = some e := by
  cases o with
  | none => simp [dOpt, isNon] at h
  | some e => exact ⟨e, rfl⟩
theorem opt_none {o : Option Nat} (h : ¬ (!isNon (dOpt o)) = true) : o = none := by
  cases o with
  | none => rfl
  | some e => simp [dOpt, isNon] at h
end DL

/-! DfE -/
set_option Elab.async false
set_option linter.all false
set_option maxRecDepth 100000
set_option maxHeartbeats 4000000
namespace DL
open PySem PySem.Spec PyProof.Rows L2
open NdefX (NTab TabsN TabN)
open Mth
section
variable {W : Wd} {ad : Ads}
def S_starts_in (ad : Ads) : Sc := fun ds Q => ∃ (p : PrjM) (ch : List Nat) (a : Nat) (m : Option Nat), ds = [dPrj ad p, dNats ch, nI a, dOpt m] ∧ OkP p ∧ OkCh p ch ∧ a < p.n ∧ Q (.lst ((poss p ch a m).map nI))
set_option maxHeartbeats 8000000 in
theorem c_starts_in (G : Gl0 W ad) : CalD W 8 "starts_in" (S_starts_in ad) [] := by
  refine cal_of (N := ["project", "choice", "activity", "most", "limit", "own", "found", "start", "release", "deadline", "end", "lag", "one"]) (ps := ["project", "choice", "activity", "most"]) G.d_starts_in (by decide +kernel) (fun _ _ _ _ _ _ us hl => match us, hl with | [_, _, _, _], _ => rfl) (fun ds Q hS => by obtain ⟨p, ch, a, m, rfl, ok, okc, ha, q⟩ := hS; rfl) fun f cdv A outer s H E md0 ds Q hr hS => ?_
  obtain ⟨p, ch, a, m, rfl, ok, okc, ha, q⟩ := hS
  have HN : (["project", "choice", "activity", "most", "limit", "own", "found", "start", "release", "deadline", "end", "lag", "one"] : List Str).Nodup := by decide
  have h6 := ok.h6
  have hw3 := win_le ok a
  have hlh := limN_hor (p := p) (a := a) (m := m)
  have hll := ok.lags.1
  refine s_cons (s_asg ?_)
  refine d_call (c_window_of G) hr ?_
  refine a_cons ?_
  refine d_name 0 rfl ?_
  refine a_cons ?_
  refine d_name 2 rfl ?_
  refine a_nil ⟨p, a, rfl, ok, ha, ?_⟩
  refine g_tup (n := 2) rfl ⟨rfl, ?_⟩
  refine g_cons ?_
  refine g_name 8 ?_ HN
  refine g_cons ?_
  refine g_name 9 ?_ HN
  refine g_nil ?_
  refine s_cons (s_set 4 ?_ HN)
  refine d_min1 rfl G.b_min ?_
  refine d_lc (own := [("one", 12)]) (is := [12]) rfl HN (by kernel_rfl) ?_
  refine i_seq ?_
  refine d_tup ?_
  refine a_cons ?_
  refine d_fld ?_
  refine d_name 0 rfl ?_
  refine ⟨G.ci_project.cl, G.na_project_horizon, _, rfl, ?_⟩
  refine a_cons ?_
  refine d_name 9 rfl ?_
  refine a_cons ?_
  refine d_name 3 rfl ?_
  refine a_nil ⟨by simp, ?_⟩
  refine lcq_same (p := fun d => !isNon d) (by simp) trivial (fun i x ex Y N y n => ?_) ?_
  · intro s5 H5 C5 cl5 fp5
    refine n_name 12 ?_ HN
    intro s6 H6 C6 cl6 fp6
    refine ts_one ?_
    refine t_notN ?_
    refine d_name 12 rfl ?_
    refine if_x (fun h3 => ?_) (fun h3 => ?_)
    · intro s7 H7 C7 cl7 fp7
      refine d_name 12 rfl ?_
      exact y h3
    · exact n (by simpa using h3)
  rw [lim_filter]
  refine ⟨limL p a m, rfl, by simp [limL], fun mm h1 h2 => ?_⟩
  have em := lim_min h1 h2
  subst em
  refine s_cons (s_setLc 5 (own := [("lag", 11)]) (is := [11]) rfl HN (by kernel_rfl) ?_)
  refine i_seq ?_
  refine d_fld ?_
  refine d_name 0 rfl ?_
  refine ⟨G.ci_project.cl, G.na_project_lags, _, rfl, ?_⟩
  refine lcq_filter (h := dLag) (p := fun l => decide (l.first = l.second) && decide (l.second = a)) (by omega) trivial (fun i z ez Y N y n => ?_) ?_
  · intro s5 H5 C5 cl5 fp5
    refine n_name 11 ?_ HN
    intro s6 H6 C6 cl6 fp6
    refine ts_one ?_
    refine t_chEE hr.u64 ?_
    refine d_sub ?_
    refine d_name 11 rfl ?_
    refine d_int ?_
    refine ⟨_, rfl, ?_⟩
    refine d_sub ?_
    refine d_name 11 rfl ?_
    refine d_int ?_
    refine ⟨_, rfl, ?_⟩
    refine .inl ⟨_, rfl, ?_⟩
    refine if_x (fun h10 => ?_) (fun h10 => ?_)
    · refine d_name 2 rfl ?_
      refine .inl ⟨_, rfl, ?_⟩
      refine if_x (fun h11 => ?_) (fun h11 => ?_)
      · intro s7 H7 C7 cl7 fp7
        refine d_name 11 rfl ?_
        exact y (by simp at h10 h11; simp; omega)
      · exact n (by simp at h10 h11; simp; omega)
    · refine if_f (by decide) ?_
      exact n (by simp at h10; simp; omega)
  refine s_cons (s_setF 6 (f_nil fun p_found => ?_) HN)
  refine s_cons (s_for rfl ?_)
  refine i_range2 G.b_range ?_
  refine d_name 8 rfl ?_
  refine d_add ?_
  refine d_name 4 rfl ?_
  refine d_int ?_
  refine ⟨_, _, rfl, rfl, ⟨by omega, by omega, by omega, by omega⟩, ?_⟩
  rw [range_nat]
  refine ⟨fun i δ => ∃ fl s7 s10 s11 s12, δ = [.d (dPrj ad p), .d (dNats ch), .d (nI a), .d (dOpt m), .d (nI (limN p a m)), .d (.lst ((ownLags p a).map dLag)), .own p_found (.lst fl), s7, .d (nI (winOf p a).1), .d (dOpt (winOf p a).2), s10, s11, s12] ∧ fl = (((rangeN (winOf p a).1 (limN p a m + 1 - (winOf p a).1)).take i).filter (okStart p ch a m)).map nI, ⟨_, _, _, _, _, rfl, rfl⟩, fun i δ _ _ => trivial, fun i d δ ed hI => ?_, fun δ hI => ?_⟩
  · obtain ⟨fl, s7, s10, s11, s12, rfl, hfl⟩ := hI
    obtain ⟨x, ex, rfl⟩ := map_get ed
    have hrl : (rangeN (winOf p a).1 (limN p a m + 1 - (winOf p a).1)).length ≤ 7 := by unfold rangeN; rw [List.length_map, List.length_range]; omega
    refine g_name 7 ?_ HN
    refine s_cons (s_set 10 ?_ HN)
    refine d_call (c_end_at G) hr ?_
    refine a_cons ?_
    refine d_name 0 rfl ?_
    refine a_cons ?_
    refine d_name 1 rfl ?_
    refine a_cons ?_
    refine d_name 2 rfl ?_
    refine a_cons ?_
    refine d_name 7 rfl ?_
    refine a_nil ⟨p, ch, a, x, rfl, ok, okc, ha, ?_⟩
    refine s_one (s_if ?_)
    refine t_bool ?_
    refine w_and ?_
    refine t_notN ?_
    refine d_name 10 rfl ?_
    refine if_x (fun h18 => ?_) (fun h18 => ?_)
    · obtain ⟨e, ee⟩ := opt_some h18
      rw [ee]
      refine w_and ?_
      refine t_le ?_
      refine d_name 10 rfl ?_
      refine d_name 4 rfl ?_
      refine ⟨trivial, ?_⟩
      refine q_b ?_
      refine if_x (fun h19 => ?_) (fun h19 => ?_)
      · refine w_and1 ?_
        refine t_val ?_
        refine d_all rfl G.b_all ?_
        refine d_lc (own := [("lag", 11)]) (is := [11]) rfl HN (by kernel_rfl) ?_
        refine i_seq ?_
        refine d_name 5 rfl ?_
        refine lcq_map (h := fun l => .bl (lagKept p ch l x x)) (Nat.le_trans (List.length_filter_le _ _) (by omega)) trivial (fun i z ez Y N y => ?_) ?_
        · intro s5 H5 C5 cl5 fp5
          refine n_name 11 ?_ HN
          intro s6 H6 C6 cl6 fp6
          refine ts_nil (if_t rfl ?_)
          intro s7 H7 C7 cl7 fp7
          refine d_call (c_is_kept G) hr ?_
          refine a_cons ?_
          refine d_name 0 rfl ?_
          refine a_cons ?_
          refine d_name 1 rfl ?_
          refine a_cons ?_
          refine d_name 11 rfl ?_
          refine a_cons ?_
          refine d_name 7 rfl ?_
          refine a_cons ?_
          refine d_name 7 rfl ?_
          have hz := List.mem_filter.mp (List.mem_of_getElem? ez)
          have hz2 : z.first = z.second ∧ z.second = a := by simpa using hz.2
          obtain ⟨e1, he1⟩ := ev_some ee z.one
          obtain ⟨e2, he2⟩ := ev_some ee z.oth
          refine a_nil ⟨p, ch, z, x, x, e1, e2, rfl, ok, okc, ok.lags.2 z hz.1, by rw [hz2.1, hz2.2]; exact he1, by rw [hz2.2]; exact he2, ?_⟩
          exact y
        refine ⟨(ownLags p a).map fun l => lagKept p ch l x x, by rw [List.map_map]; rfl, ?_⟩
        refine q_b ?_
        refine if_x (fun h24 => ?_) (fun h24 => ?_)
        · have HH : okStart p ch a m x = true := by unfold okStart; rw [ee]; simp at h19 h24 ⊢; exact ⟨by omega, h24⟩
          refine s_one (s_append 6 rfl (by have := filter_take_len (l := rangeN (winOf p a).1 (limN p a m + 1 - (winOf p a).1)) (i := i) (f := okStart p ch a m); rw [hfl, List.length_map]; omega) ?_)
          refine d_own 6 rfl ?_
          refine ⟨rfl, ?_⟩
          refine d_name 7 rfl ?_
          exact ⟨_, _, _, _, _, rfl, by rw [take_snoc ex, filter_snoc, if_pos HH, List.map_append, hfl]; rfl⟩
        · have HH : ¬ okStart p ch a m x = true := by unfold okStart; rw [ee]; simp at h19 h24 ⊢; exact fun _ => h24
          refine s_nil ?_
          exact ⟨_, _, _, _, _, rfl, by rw [take_snoc ex, filter_snoc, if_neg HH]; exact hfl⟩
      · refine if_f (by decide) ?_
        refine s_nil ?_
        have HH : ¬ okStart p ch a m x = true := by unfold okStart; rw [ee]; simp at h19 ⊢; omega
        exact ⟨_, _, _, _, _, rfl, by rw [take_snoc ex, filter_snoc, if_neg HH]; exact hfl⟩
    · refine if_f (by decide) ?_
      refine s_nil ?_
      have HH : ¬ okStart p ch a m x = true := by have := opt_none h18; unfold okStart; rw [this]; simp
      exact ⟨_, _, _, _, _, rfl, by rw [take_snoc ex, filter_snoc, if_neg HH]; exact hfl⟩
  · obtain ⟨fl, s7, s10, s11, s12, rfl, hfl⟩ := hI
    refine s_freeze 6 rfl ?_
    subst hfl
    rw [List.length_map, List.take_length] at *
    refine s_one (s_ret ?_)
    refine d_name 6 rfl ?_
    exact q
end
end DL

/-! DfE1 -/
set_option Elab.async false
set_option linter.all false
set_option maxRecDepth 100000
set_option maxHeartbeats 4000000
namespace DL
open PySem PySem.Spec PyProof.Rows L2
open NdefX (NTab TabsN TabN)
open Mth
def famL (p : PrjM) : List Nat := match p.fams with
  | none => List.replicate p.n 0
  | some l => l
theorem famL_len {p : PrjM} (ok : OkP p) : (famL p).length = p.n := by
  unfold famL
  cases e : p.fams with
  | none => simp
  | some l => exact (ok.fams l e).1
theorem famL_get {p : PrjM} {a : Nat} (ha : a < p.n) : (famL p).getD a 0 = famOf p a := by
  unfold famL famOf
  cases e : p.fams with
  | none => simp [List.getD, List.getElem?_replicate, ha]
  | some l => rfl
theorem famL_at {p : PrjM} (ok : OkP p) {a : Nat} (ha : a < p.n) : atI ((famL p).map nI) (a : Int) = some (nI (famOf p a)) := by
  rw [at_map 0 (by rw [famL_len ok]; exact ha), famL_get ha]
theorem foldl_max_ge : ∀ {l : List Nat} {m : Nat}, m ≤ l.foldl max m ∧ ∀ x ∈ l, x ≤ l.foldl max m
  | [], m => ⟨Nat.le_refl _, fun x h => by cases h⟩
  | a :: r, m => by
    obtain ⟨h1, h2⟩ := foldl_max_ge (l := r) (m := max m a)
    refine ⟨Nat.le_trans (Nat.le_max_left _ _) h1, fun x hx => ?_⟩
    rcases List.mem_cons.mp hx with rfl | hx
    · exact Nat.le_trans (Nat.le_max_right _ _) h1
    · exact h2 x hx
theorem fam_lt {p : PrjM} (a : Nat) : famOf p a ≤ maxF p := by
  unfold famOf maxF
  cases e : p.fams with
  | none => simp
  | some l =>
    simp only
    rw [List.getD]
    cases e2 : l[a]? with
    | none => simp
    | some x => exact foldl_max_ge.2 x (List.mem_of_getElem? e2)
theorem fam_some {p : PrjM} (h : (!((o2l p.fams).map nI).isEmpty) = true) : (o2l p.fams) = famL p := by
  cases e : p.fams with
  | none => rw [e] at h; simp [o2l] at h
  | some l => simp [famL, e, o2l]
theorem fam_none {p : PrjM} (ok : OkP p) (h : ¬ (!((o2l p.fams).map nI).isEmpty) = true) : famL p = List.replicate p.n 0 := by
  cases e : p.fams with
  | none => simp [famL, e]
  | some l =>
    have := (ok.fams l e).1
    have := ok.n1
    rw [e] at h
    cases l with
    | nil => simp at *; omega
    | cons a r => simp [o2l] at h
theorem rep_flat {α : Type} (n : Nat) (x : α) : (List.replicate n [x]).flatten = List.replicate n x := by
  induction n with
  | zero => rfl
  | succ n ih => rw [List.replicate_succ, List.flatten_cons, ih, List.replicate_succ]; rfl
theorem rep_zero (n : Nat) : (List.replicate ((n : Nat) : Int).toNat [Dat.int 0]).flatten = (List.replicate n 0).map nI := by
  rw [Int.toNat_natCast, rep_flat, List.map_replicate]; rfl
theorem names_len {n : Nat} (h : n ≤ 5) : ((nameL.take n).map Dat.str).length = n := by
  rw [List.length_map, List.length_take]
  show min n 5 = n
  omega
theorem fl_nats {l : List Nat} : (l.map nI).all fl? = true := by
  rw [List.all_map, List.all_eq_true]; intro x _; rfl
theorem any_nats {l : List Nat} {a : Nat} : ((l.map nI).any fun z => eqS z (nI a)) = decide (a ∈ l) := by
  induction l with
  | nil => simp
  | cons b r ih =>
    rw [List.map_cons, List.any_cons, ih]
    have e : eqS (nI b) (nI a) = decide (a = b) := by
      show ((b : Int) == (a : Int)) = _
      rw [Bool.eq_iff_iff]; simp; omega
    rw [e, Bool.eq_iff_iff]; simp
theorem setup_drop {p : PrjM} {a b : Nat} {l : List (List Nat × List (List Nat))} {i : Nat} {s : List Nat × List (List Nat)} (h : l[i]? = some s) :
    setup p a b (l.drop i) = if a ∈ s.1 ∧ b ∈ s.1 then (s.2.getD (famOf p a) []).getD (famOf p b) 0 else setup p a b (l.drop (i + 1)) := by
  obtain ⟨hl, e⟩ := List.getElem?_eq_some_iff.mp h
  rw [List.drop_eq_getElem_cons hl, e]
  rfl
/-! rules as data -/
def tagS (b : Bool) : Str := if b = true then "lag" else "ahead"
abbrev dRule (ad : Ads) (r : RuleM) : Dat := .ins ad.rule [("source", nI r.src), ("target", nI r.tgt), ("gap", .int r.gap), ("words", .tup [dWord r.w1, dWord r.w2]), ("reason", .tup [.str (tagS r.tag), nI r.ix])]
abbrev dPairs (l : List (Nat × Nat)) : Dat := .tup (l.map fun q => .tup [nI q.1, nI q.2])
theorem oi_some {o : Option Int} (h : (!isNon (dOI o)) = true) : ∃ e, o = some e := by
  cases o with
  | none => simp [dOI, isNon] at h
  | some e => exact ⟨e, rfl⟩
theorem oi_none {o : Option Int} (h : ¬ (!isNon (dOI o)) = true) : o = none := by
  cases o with
  | none => rfl
  | some e => simp [dOI, isNon] at h
theorem lagsR_snoc {x : LagM} : ∀ {l : List LagM} {k : Nat}, lagsR k (l ++ [x]) = lagsR k l ++ lagRules (k + l.length) x
  | [], k => by show lagRules k x ++ [] = _; simp [lagsR]
  | a :: l, k => by
    show lagRules k a ++ lagsR (k + 1) (l ++ [x]) = (lagRules k a ++ lagsR (k + 1) l) ++ _
    rw [lagsR_snoc, List.append_assoc, show k + 1 + l.length = k + (a :: l).length by simp; omega]
theorem pairsR_snoc {p : PrjM} {q : Nat × Nat} {l : List (Nat × Nat)} {k : Nat} : pairsR p k (l ++ [q]) = pairsR p k l ++ [⟨q.1, q.2, setup p q.1 q.2 p.singles, false, true, false, k + l.length⟩] := by
  rw [pairsR_app]; rfl
theorem lagRules_len (i : Nat) (l : LagM) : (lagRules i l).length ≤ 2 := by
  unfold lagRules
  split
  · simp
  · cases l.high <;> simp
theorem lagsR_len : ∀ {l : List LagM} {k : Nat}, (lagsR k l).length ≤ 2 * l.length
  | [], k => Nat.le_refl _
  | a :: l, k => by
    show (lagRules k a ++ lagsR (k + 1) l).length ≤ _
    have := lagRules_len k a
    have := lagsR_len (l := l) (k := k + 1)
    rw [List.length_append, List.length_cons]; omega
theorem pairsR_len {p : PrjM} : ∀ {l : List (Nat × Nat)} {k : Nat}, (pairsR p k l).length = l.length
  | [], k => rfl
  | a :: l, k => by
    show (pairsR p (k + 1) l).length + 1 = _
    rw [pairsR_len]; rfl
theorem take_len {α : Type} {l : List α} {i : Nat} {x : α} (h : l[i]? = some x) : (l.take i).length = i := by
  have := (List.getElem?_eq_some_iff.mp h).1
  rw [List.length_take]; omega
end DL

/-! DfF -/
set_option Elab.async false
set_option linter.all false
set_option maxRecDepth 100000
set_option maxHeartbeats 4000000
namespace DL
open PySem PySem.Spec PyProof.Rows L2
open NdefX (NTab TabsN TabN)
open Mth
section
variable {W : Wd} {ad : Ads}
def S_setup_of (ad : Ads) : Sc := fun ds Q => ∃ (p : PrjM) (a b : Nat), ds = [dPrj ad p, nI a, nI b] ∧ OkP p ∧ a < p.n ∧ b < p.n ∧ Q (nI (setup p a b p.singles))
set_option maxHeartbeats 8000000 in
theorem c_setup_of (G : Gl0 W ad) : CalD W 1 "setup_of" (S_setup_of ad) [] := by
  refine cal_of (N := ["project", "first", "second", "families", "members", "table"]) (ps := ["project", "first", "second"]) G.d_setup_of (by decide +kernel) (fun _ _ _ _ _ _ us hl => match us, hl with | [_, _, _], _ => rfl) (fun ds Q hS => by obtain ⟨p, a, b, rfl, ok, ha, hb, q⟩ := hS; rfl) fun f cdv A outer s H E md0 ds Q hr hS => ?_
  obtain ⟨p, a, b, rfl, ok, ha, hb, q⟩ := hS
  have HN : (["project", "first", "second", "families", "members", "table"] : List Str).Nodup := by decide
  have n1 := ok.n1
  have n3 := ok.n3
  have hsl := ok.sl
  refine s_cons (s_set 3 ?_ HN)
  refine WE.mono (Q := fun d => d = .tup ((famL p).map nI)) ?_ (fun d hd => ?_)
  · refine d_ifE ?_
    refine t_ne0 hr.u0 ?_
    refine d_fld ?_
    refine d_name 0 rfl ?_
    refine ⟨G.ci_project.cl, G.na_project_families, _, rfl, ?_⟩
    refine d_tup ?_
    refine a_nil ⟨by simp, ?_⟩
    refine ⟨_, .inl ⟨rfl, rfl⟩, ?_⟩
    refine if_x (fun h1 => ?_) (fun h1 => ?_)
    · refine d_fld ?_
      refine d_name 0 rfl ?_
      refine ⟨G.ci_project.cl, G.na_project_families, _, rfl, ?_⟩
      show Dat.tup ((o2l p.fams).map nI) = _
      rw [fam_some h1]
    · refine d_mul ?_
      refine d_tup ?_
      refine a_cons ?_
      refine d_int ?_
      refine a_nil ⟨by simp, ?_⟩
      refine d_len G.b_len ?_
      refine d_fld ?_
      refine d_name 0 rfl ?_
      refine ⟨G.ci_project.cl, G.na_project_names, _, rfl, ?_⟩
      have hn : ((nameL.take p.n).map Dat.str).length = p.n := names_len (by omega)
      refine ⟨by simp, by omega, by omega, by simp, ?_⟩
      rw [hn, rep_zero, fam_none ok h1]
  subst hd
  refine s_cons (s_for rfl ?_)
  refine i_seq ?_
  refine d_fld ?_
  refine d_name 0 rfl ?_
  refine ⟨G.ci_project.cl, G.na_project_singles, _, rfl, ?_⟩
  refine ⟨fun i δ => ∃ s4 s5, δ = [.d (dPrj ad p), .d (nI a), .d (nI b), .d (.tup ((famL p).map nI)), s4, s5] ∧ setup p a b p.singles = setup p a b (p.singles.drop i), ⟨_, _, rfl, rfl⟩, fun i δ _ _ => trivial, fun i d δ ed hI => ?_, fun δ hI => ?_⟩
  · obtain ⟨s4, s5, rfl, hset⟩ := hI
    obtain ⟨sg, esg, rfl⟩ := map_get ed
    have hS := ok.singles sg (List.mem_of_getElem? esg)
    rw [setup_drop esg] at hset
    refine g_tup (n := 2) rfl ⟨rfl, ?_⟩
    refine g_cons ?_
    refine g_name 4 ?_ HN
    refine g_cons ?_
    refine g_name 5 ?_ HN
    refine g_nil ?_
    refine s_one (s_if ?_)
    refine t_bool ?_
    refine w_and ?_
    refine t_in hr.u65 ?_
    refine d_name 1 rfl ?_
    refine d_name 4 rfl ?_
    refine .inl ⟨_, .inr rfl, rfl, fl_nats, ?_⟩
    rw [any_nats]
    refine if_x (fun h8 => ?_) (fun h8 => ?_)
    · refine w_and1 ?_
      refine t_in hr.u65 ?_
      refine d_name 2 rfl ?_
      refine d_name 4 rfl ?_
      refine .inl ⟨_, .inr rfl, rfl, fl_nats, ?_⟩
      rw [any_nats]
      refine if_x (fun h10 => ?_) (fun h10 => ?_)
      · have hin := And.intro (of_decide_eq_true h8) (of_decide_eq_true h10)
        rw [if_pos hin] at hset
        refine s_one (s_ret ?_)
        refine d_sub ?_
        refine d_sub ?_
        refine d_name 5 rfl ?_
        refine d_sub ?_
        refine d_name 3 rfl ?_
        refine d_name 1 rfl ?_
        refine ⟨_, famL_at ok ha, ?_⟩
        have hfa := fam_lt (p := p) a
        have hfb := fam_lt (p := p) b
        have hla : famOf p a < sg.2.length := by rw [hS.sq]; omega
        refine ⟨_, at_map [] hla, ?_⟩
        refine d_sub ?_
        refine d_name 3 rfl ?_
        refine d_name 2 rfl ?_
        refine ⟨_, famL_at ok hb, ?_⟩
        have hrw := hS.row _ (List.mem_of_getElem? (getD_get (d := []) hla))
        refine ⟨_, at_map 0 (by rw [hrw.1]; omega), ?_⟩
        rw [hset] at q
        exact q
      · rw [if_neg (fun z => h10 (decide_eq_true z.2))] at hset
        refine s_nil ?_
        exact ⟨_, _, rfl, hset⟩
    · rw [if_neg (fun z => h8 (decide_eq_true z.1))] at hset
      refine if_f (by decide) ?_
      refine s_nil ?_
      exact ⟨_, _, rfl, hset⟩
  · obtain ⟨s4, s5, rfl, hset⟩ := hI
    rw [List.length_map, List.drop_length] at hset
    refine s_one (s_ret ?_)
    refine d_int ?_
    rw [hset] at q
    exact q
def S_Rule_is_met (ad : Ads) : Sc := fun ds Q => ∃ (p : PrjM) (ch : List Nat) (r : RuleM) (st t x y : Nat), ds = [dRule ad r, dPrj ad p, dNats ch, nI st, nI t] ∧ OkP p ∧ OkCh p ch ∧ r.src < p.n ∧ r.tgt < p.n ∧ evA p ch r.src r.w1 st = some x ∧ evA p ch r.tgt r.w2 t = some y ∧ Q (.bl (met p ch r st t))
set_option maxHeartbeats 8000000 in
theorem me_is_met (G : Gl0 W ad) : MetD W 7 ad.rule "is_met" (S_Rule_is_met ad) := by
  obtain ⟨f, fd, M, F⟩ := G.me_is_met
  refine ⟨f, fd, ["self", "project", "choice", "start", "later"], G.ci_rule.cl, M, def_ok (N := ["self", "project", "choice", "start", "later", "time"]) F (by decide +kernel) (fun ds Q hS => by obtain ⟨p, ch, r, st, t, x, y, rfl, ok, okc, h1, h2, hx, hy, q⟩ := hS; rfl) (fun cdv A outer s H E md0 ds Q hr hS => ?_), F.bindsN fun _ _ _ _ _ _ us hl => match us, hl with | [_, _, _, _, _], _ => rfl⟩
  obtain ⟨p, ch, r, st, t, x, y, rfl, ok, okc, h1, h2, hx, hy, q⟩ := hS
  have HN : (["self", "project", "choice", "start", "later", "time"] : List Str).Nodup := by decide
  refine s_cons (s_set 5 ?_ HN)
  refine d_call (c_event_at G) hr ?_
  refine a_cons ?_
  refine d_name 1 rfl ?_
  refine a_cons ?_
  refine d_name 2 rfl ?_
  refine a_cons ?_
  refine d_fld ?_
  refine d_name 0 rfl ?_
  refine ⟨G.ci_rule.cl, G.na_rule_target, _, rfl, ?_⟩
  refine a_cons ?_
  refine d_sub ?_
  refine d_fld ?_
  refine d_name 0 rfl ?_
  refine ⟨G.ci_rule.cl, G.na_rule_words, _, rfl, ?_⟩
  refine d_int ?_
  refine ⟨_, rfl, ?_⟩
  refine a_cons ?_
  refine d_name 4 rfl ?_
  refine a_nil ⟨p, ch, r.tgt, t, r.w2, rfl, ok, okc, h2, ?_⟩
  rw [hy]
  refine s_one (s_ret ?_)
  refine d_ge ?_
  refine d_sub2 ?_
  refine d_name 5 rfl ?_
  refine d_call (c_event_at G) hr ?_
  refine a_cons ?_
  refine d_name 1 rfl ?_
  refine a_cons ?_
  refine d_name 2 rfl ?_
  refine a_cons ?_
  refine d_fld ?_
  refine d_name 0 rfl ?_
  refine ⟨G.ci_rule.cl, G.na_rule_source, _, rfl, ?_⟩
  refine a_cons ?_
  refine d_sub ?_
  refine d_fld ?_
  refine d_name 0 rfl ?_
  refine ⟨G.ci_rule.cl, G.na_rule_words, _, rfl, ?_⟩
  refine d_int ?_
  refine ⟨_, rfl, ?_⟩
  refine a_cons ?_
  refine d_name 3 rfl ?_
  refine a_nil ⟨p, ch, r.src, st, r.w1, rfl, ok, okc, h1, ?_⟩
  rw [hx]
  refine ⟨trivial, ?_⟩
  refine d_fld ?_
  refine d_name 0 rfl ?_
  refine ⟨G.ci_rule.cl, G.na_rule_gap, _, rfl, ?_⟩
  refine ⟨trivial, ?_⟩
  unfold met at q
  rw [hx, hy] at q
  exact q
def S_Rule___init__ : Si := fun ds Q => ∃ a b c d e : Dat, ds = [a, b, c, d, e] ∧ Q [("source", a), ("target", b), ("gap", c), ("words", d), ("reason", e)]
set_option maxHeartbeats 8000000 in
theorem i_Rule {f : Addr} {fd : FuncData} {kws : List (Str × V)} (G : Gl0 W ad) (F : FunD W.K "__init__" "Rule.__init__" (defArgs (clsTop 80 0)) (defBody (clsTop 80 0)) (defScope (clsTop 80 0)) [] kws f fd) : FnOk W.P W.w W.K W.mg W.base C8.CX0 1 f fd ["self", "source", "target", "gap", "words", "reason"] (Si.sp S_Rule___init__ W.K W.lt W.T ad.rule) := by
  refine init_ok (N := ["self", "source", "target", "gap", "words", "reason"]) F (by decide +kernel) (fun ds Q hS => by obtain ⟨a, b, c, d, e, rfl, q⟩ := hS; rfl) (by decide) (fun cdv A outer s H H' E md0 pp ds Q hr hS => ?_)
  obtain ⟨a, b, c, d, e, rfl, q⟩ := hS
  have HN : (["self", "source", "target", "gap", "words", "reason"] : List Str).Nodup := by decide
  refine s_cons (s_fld 0 rfl G.ci_rule.cl G.na_rule_source (Nat.le_of_ble_eq_true rfl) ?_)
  refine d_name 1 rfl ?_
  refine d_own 0 rfl ?_
  refine ⟨rfl, ?_⟩
  refine s_cons (s_fld 0 rfl G.ci_rule.cl G.na_rule_target (Nat.le_of_ble_eq_true rfl) ?_)
  refine d_name 2 rfl ?_
  refine d_own 0 rfl ?_
  refine ⟨rfl, ?_⟩
  refine s_cons (s_fld 0 rfl G.ci_rule.cl G.na_rule_gap (Nat.le_of_ble_eq_true rfl) ?_)
  refine d_name 3 rfl ?_
  refine d_own 0 rfl ?_
  refine ⟨rfl, ?_⟩
  refine s_cons (s_fld 0 rfl G.ci_rule.cl G.na_rule_words (Nat.le_of_ble_eq_true rfl) ?_)
  refine d_name 4 rfl ?_
  refine d_own 0 rfl ?_
  refine ⟨rfl, ?_⟩
  refine s_one (s_fld 0 rfl G.ci_rule.cl G.na_rule_reason (Nat.le_of_ble_eq_true rfl) ?_)
  refine d_name 5 rfl ?_
  refine d_own 0 rfl ?_
  refine ⟨rfl, ?_⟩
  exact ⟨_, rfl, q⟩
theorem m_Rule (G : Gl0 W ad) : MakD W 1 "Rule" ad.rule S_Rule___init__ := by
  obtain ⟨f, fd, kws, M, F, hk⟩ := G.mk_rule
  subst hk
  exact ⟨f, fd, ["self", "source", "target", "gap", "words", "reason"], M, i_Rule G F, G.r_Rule, F.bindsN fun _ _ _ _ _ _ us hl => match us, hl with | [_, _, _, _, _, _], _ => rfl⟩
def S_rules_of (ad : Ads) : Sc := fun ds Q => ∃ (p : PrjM) (pairs : List (Nat × Nat)), ds = [dPrj ad p, dPairs pairs] ∧ OkP p ∧ (∀ q ∈ pairs, q.1 < p.n ∧ q.2 < p.n) ∧ pairs.length ≤ 20 ∧ Q (.lst ((rulesOf p pairs).map (dRule ad)))
set_option maxHeartbeats 8000000 in
theorem c_rules_of (G : Gl0 W ad) : CalD W 3 "rules_of" (S_rules_of ad) [] := by
  refine cal_of (N := ["project", "ahead", "found", "index", "gap", "one", "first", "other", "second", "low", "high"]) (ps := ["project", "ahead"]) G.d_rules_of (by decide +kernel) (fun _ _ _ _ _ _ us hl => match us, hl with | [_, _], _ => rfl) (fun ds Q hS => by obtain ⟨p, pairs, rfl, ok, hpr, hpl, q⟩ := hS; rfl) fun f cdv A outer s H E md0 ds Q hr hS => ?_
  obtain ⟨p, pairs, rfl, ok, hpr, hpl, q⟩ := hS
  have HN : (["project", "ahead", "found", "index", "gap", "one", "first", "other", "second", "low", "high"] : List Str).Nodup := by decide
  have hll := ok.lags.1
  refine s_cons (s_setF 2 (f_nil fun p_found => ?_) HN)
  refine s_cons (s_for rfl ?_)
  refine i_enum G.b_enumerate ?_
  refine d_fld ?_
  refine d_name 0 rfl ?_
  refine ⟨G.ci_project.cl, G.na_project_lags, _, rfl, ?_⟩
  refine ⟨fun i δ => ∃ fl s3 s4 s5 s6 s7 s8 s9 s10, δ = [.d (dPrj ad p), .d (dPairs pairs), .own p_found (.lst fl), s3, s4, s5, s6, s7, s8, s9, s10] ∧ fl = (lagsR 0 (p.lags.take i)).map (dRule ad), ⟨_, _, _, _, _, _, _, _, _, rfl, rfl⟩, fun i δ _ _ => trivial, fun i d δ ed hI => ?_, fun δ hI => ?_⟩
  · obtain ⟨fl, s3, s4, s5, s6, s7, s8, s9, s10, rfl, hfl⟩ := hI
    obtain ⟨x, ex, rfl⟩ := enum_get ed
    obtain ⟨l, el, rfl⟩ := map_get ex
    have hlen : fl.length ≤ 8 := by
      have := lagsR_len (l := p.lags.take i) (k := 0)
      rw [take_len el] at this
      have := (List.getElem?_eq_some_iff.mp el).1
      rw [hfl, List.length_map]; omega
    refine g_tup (n := 2) rfl ⟨rfl, ?_⟩
    refine g_cons ?_
    refine g_name 3 ?_ HN
    refine g_cons ?_
    refine g_tup (n := 6) rfl ⟨rfl, ?_⟩
    refine g_cons ?_
    refine g_name 5 ?_ HN
    refine g_cons ?_
    refine g_name 6 ?_ HN
    refine g_cons ?_
    refine g_name 7 ?_ HN
    refine g_cons ?_
    refine g_name 8 ?_ HN
    refine g_cons ?_
    refine g_name 9 ?_ HN
    refine g_cons ?_
    refine g_name 10 ?_ HN
    refine g_nil ?_
    refine g_nil ?_
    refine s_one (s_if ?_)
    refine t_ne hr.u64 ?_
    refine d_name 6 rfl ?_
    refine d_name 8 rfl ?_
    refine .inl ⟨_, rfl, ?_⟩
    refine if_x (fun h3 => ?_) (fun h3 => ?_)
    · refine s_cons (s_append 2 rfl (by omega) ?_)
      refine d_own 2 rfl ?_
      refine ⟨rfl, ?_⟩
      refine d_make (m_Rule G) hr ?_
      refine a_cons ?_
      refine d_name 6 rfl ?_
      refine a_cons ?_
      refine d_name 8 rfl ?_
      refine a_cons ?_
      refine d_name 9 rfl ?_
      refine a_cons ?_
      refine d_tup ?_
      refine a_cons ?_
      refine d_name 5 rfl ?_
      refine a_cons ?_
      refine d_name 7 rfl ?_
      refine a_nil ⟨by simp, ?_⟩
      refine a_cons ?_
      refine d_tup ?_
      refine a_cons ?_
      refine d_str ?_
      refine a_cons ?_
      refine d_name 3 rfl ?_
      refine a_nil ⟨by simp, ?_⟩
      refine a_nil ⟨_, _, _, _, _, rfl, ?_⟩
      refine s_one (s_if ?_)
      refine t_notN ?_
      refine d_name 10 rfl ?_
      refine if_x (fun h6 => ?_) (fun h6 => ?_)
      · obtain ⟨hv, ehv⟩ := oi_some h6
        rw [ehv]
        refine s_one (s_append 2 rfl (by rw [List.length_append]; simp; omega) ?_)
        refine d_own 2 rfl ?_
        refine ⟨rfl, ?_⟩
        refine d_make (m_Rule G) hr ?_
        refine a_cons ?_
        refine d_name 8 rfl ?_
        refine a_cons ?_
        refine d_name 6 rfl ?_
        refine a_cons ?_
        refine d_negE ?_
        refine d_name 10 rfl ?_
        refine ⟨_, rfl, ?_⟩
        refine a_cons ?_
        refine d_tup ?_
        refine a_cons ?_
        refine d_name 7 rfl ?_
        refine a_cons ?_
        refine d_name 5 rfl ?_
        refine a_nil ⟨by simp, ?_⟩
        refine a_cons ?_
        refine d_tup ?_
        refine a_cons ?_
        refine d_str ?_
        refine a_cons ?_
        refine d_name 3 rfl ?_
        refine a_nil ⟨by simp, ?_⟩
        refine a_nil ⟨_, _, _, _, _, rfl, ?_⟩
        have hne : ¬ l.first = l.second := by simp at h3; omega
        exact ⟨_, _, _, _, _, _, _, _, _, rfl, by rw [take_snoc el, lagsR_snoc, take_len el, List.map_append, hfl, lagRules, if_neg hne, ehv, Nat.zero_add, List.append_assoc]; rfl⟩
      · refine s_nil ?_
        have hne : ¬ l.first = l.second := by simp at h3; omega
        have ehv := oi_none h6
        exact ⟨_, _, _, _, _, _, _, _, _, rfl, by rw [take_snoc el, lagsR_snoc, take_len el, List.map_append, hfl, lagRules, if_neg hne, ehv, Nat.zero_add]; rfl⟩
    · refine s_nil ?_
      have hne : l.first = l.second := by simp at h3; omega
      exact ⟨_, _, _, _, _, _, _, _, _, rfl, by rw [take_snoc el, lagsR_snoc, List.map_append, hfl, lagRules, if_pos hne]; simp⟩
  · obtain ⟨fl, s3, s4, s5, s6, s7, s8, s9, s10, rfl, hfl⟩ := hI
    rw [enumD_len, List.length_map, List.take_length] at hfl
    refine s_cons (s_for rfl ?_)
    refine i_enum G.b_enumerate ?_
    refine d_name 1 rfl ?_
    refine ⟨fun i δ => ∃ fl s3 s4 s5 s6 s7 s8 s9 s10, δ = [.d (dPrj ad p), .d (dPairs pairs), .own p_found (.lst fl), s3, s4, s5, s6, s7, s8, s9, s10] ∧ fl = (lagsR 0 p.lags ++ pairsR p 0 (pairs.take i)).map (dRule ad), ⟨_, _, _, _, _, _, _, _, _, rfl, by rw [hfl]; simp [pairsR]⟩, fun i δ _ _ => trivial, fun i d δ ed hI => ?_, fun δ hI => ?_⟩
    · obtain ⟨fl, s3, s4, s5, s6, s7, s8, s9, s10, rfl, hfl⟩ := hI
      obtain ⟨x, ex, rfl⟩ := enum_get ed
      obtain ⟨pr, el, rfl⟩ := map_get ex
      have hq := hpr pr (List.mem_of_getElem? el)
      have hlen : fl.length ≤ 28 := by
        have := lagsR_len (l := p.lags) (k := 0)
        have h2 := pairsR_len (p := p) (l := pairs.take i) (k := 0)
        rw [take_len el] at h2
        have := (List.getElem?_eq_some_iff.mp el).1
        rw [hfl, List.length_map, List.length_append]; omega
      refine g_tup (n := 2) rfl ⟨rfl, ?_⟩
      refine g_cons ?_
      refine g_name 3 ?_ HN
      refine g_cons ?_
      refine g_tup (n := 2) rfl ⟨rfl, ?_⟩
      refine g_cons ?_
      refine g_name 6 ?_ HN
      refine g_cons ?_
      refine g_name 8 ?_ HN
      refine g_nil ?_
      refine g_nil ?_
      refine s_cons (s_set 4 ?_ HN)
      refine d_call (c_setup_of G) hr ?_
      refine a_cons ?_
      refine d_name 0 rfl ?_
      refine a_cons ?_
      refine d_name 6 rfl ?_
      refine a_cons ?_
      refine d_name 8 rfl ?_
      refine a_nil ⟨p, pr.1, pr.2, rfl, ok, hq.1, hq.2, ?_⟩
      refine s_one (s_append 2 rfl (by omega) ?_)
      refine d_own 2 rfl ?_
      refine ⟨rfl, ?_⟩
      refine d_make (m_Rule G) hr ?_
      refine a_cons ?_
      refine d_name 6 rfl ?_
      refine a_cons ?_
      refine d_name 8 rfl ?_
      refine a_cons ?_
      refine d_name 4 rfl ?_
      refine a_cons ?_
      refine d_tup ?_
      refine a_cons ?_
      refine d_str ?_
      refine a_cons ?_
      refine d_str ?_
      refine a_nil ⟨by simp, ?_⟩
      refine a_cons ?_
      refine d_tup ?_
      refine a_cons ?_
      refine d_str ?_
      refine a_cons ?_
      refine d_name 3 rfl ?_
      refine a_nil ⟨by simp, ?_⟩
      refine a_nil ⟨_, _, _, _, _, rfl, ?_⟩
      exact ⟨_, _, _, _, _, _, _, _, _, rfl, by rw [take_snoc el, pairsR_snoc, take_len el, hfl, ← List.append_assoc, List.map_append (l₂ := [_]), Nat.zero_add]; rfl⟩
    · obtain ⟨fl, s3, s4, s5, s6, s7, s8, s9, s10, rfl, hfl⟩ := hI
      refine s_freeze 2 rfl ?_
      rw [enumD_len, List.length_map, List.take_length] at hfl
      subst hfl
      refine s_one (s_ret ?_)
      refine d_name 2 rfl ?_
      exact q
end
end DL

/-! MthG -/
set_option Elab.async false
set_option linter.all false
namespace Mth
def startL (p : PrjM) (ch : List Nat) (m : Option Nat) : List (List Nat) := (List.range p.n).map fun a => poss p ch a m
def LedIs (p : PrjM) (ch : List Nat) (rs : List RuleM) (m : Option Nat) : Option (List Nat) → Prop
  | none => ∀ row, ¬ Sol p ch rs m row
  | some l => Sol p ch rs m l ∧ ∀ row, Sol p ch rs m row → ∀ a, a < p.n → l.getD a 0 ≤ row.getD a 0
def GrIs (p : PrjM) (ch : List Nat) (rs : List RuleM) (m : Option Nat) (g : List Nat) : Prop := Sol p ch rs m g ∧ ∀ row, Sol p ch rs m row → ∀ a, a < p.n → row.getD a 0 ≤ g.getD a 0
theorem times_of {p : PrjM} {ch : List Nat} {rs : List RuleM} {m : Option Nat} {l g : List Nat} (h : LedIs p ch rs m (some l)) (h' : GrIs p ch rs m g) : TimesIs p ch rs m (some (l, g)) :=
  ⟨h.1, h'.1, fun row s a ha => ⟨h.2 row s a ha, h'.2 row s a ha⟩⟩
def stLow (p : PrjM) (ch : List Nat) (left : List (List Nat)) (r : RuleM) : Prop := (left.getD r.tgt []).filter (fun t => met p ch r (hd left r.src) t) = left.getD r.tgt []
def stHigh (p : PrjM) (ch : List Nat) (left : List (List Nat)) (r : RuleM) : Prop := (left.getD r.src []).filter (fun s => met p ch r s (la left r.tgt)) = left.getD r.src []
theorem poss_len {p : PrjM} (ok : OkP p) {ch : List Nat} {a : Nat} {m : Option Nat} : (poss p ch a m).length ≤ 7 := by
  unfold poss rangeN
  refine Nat.le_trans (List.length_filter_le _ _) ?_
  rw [List.length_map, List.length_range]
  have := limN_hor (p := p) (a := a) (m := m)
  have := ok.h6
  omega
theorem tot_start {p : PrjM} (ok : OkP p) {ch : List Nat} {m : Option Nat} : tot (startL p ch m) ≤ 21 := by
  unfold tot startL
  rw [List.map_map]
  have : ∀ l : List Nat, (l.map (List.length ∘ fun a => poss p ch a m)).sum ≤ 7 * l.length := fun l => by
    induction l with
    | nil => simp
    | cons a r ih =>
      rw [List.map_cons, List.sum_cons, List.length_cons]
      have := poss_len ok (ch := ch) (a := a) (m := m)
      show (poss p ch a m).length + _ ≤ _
      omega
  have h := this (List.range p.n)
  rw [List.length_range] at h
  have := ok.n3
  omega
theorem startL_len {p : PrjM} {ch : List Nat} {m : Option Nat} : (startL p ch m).length = p.n := by unfold startL; simp
theorem len_le_tot {left : List (List Nat)} : ∀ {a : Nat}, (left.getD a []).length ≤ tot left := by
  induction left with
  | nil => intro a; simp [tot]
  | cons l r ih =>
    intro a
    cases a with
    | zero => simp [tot]
    | succ a =>
      have := ih (a := a)
      simp [tot] at this ⊢
      omega
/-- one turn of the least way -/
theorem low_turn {p : PrjM} (ok : OkP p) {ch : List Nat} {rs : List RuleM} {m : Option Nat} {left : List (List Nat)} (I : LInv p ch rs m left) {r : RuleM} (hr : r ∈ rs) (h1 : r.src < p.n) (h2 : r.tgt < p.n) (ne : ∀ a, a < p.n → left.getD a [] ≠ []) {good : List Nat} (hg : good = (left.getD r.tgt []).filter fun t => met p ch r (hd left r.src) t) :
    LInv p ch rs m (left.set r.tgt good) ∧ (good = [] → ∀ row, ¬ Sol p ch rs m row) ∧ (good ≠ [] → ∀ a, a < p.n → (left.set r.tgt good).getD a [] ≠ []) ∧ (good ≠ left.getD r.tgt [] → tot (left.set r.tgt good) < tot left) ∧ (good = left.getD r.tgt [] → stLow p ch left r) := by
  subst hg
  have hl : r.tgt < left.length := by rw [I.len]; exact h2
  refine ⟨I.cut h2 r.tgt h2 _ fun row s => I.low ok hr h1 h2 (ne _ h1) row s, fun e row => I.none_ ok hr h1 h2 (ne _ h1) e row, fun e a ha => ?_, fun e => tot_set hl (filter_lt e), fun e => e⟩
  rw [getD_set hl]
  split
  · exact e
  · exact ne a ha
theorem high_turn {p : PrjM} (ok : OkP p) {ch : List Nat} {rs : List RuleM} {m : Option Nat} {left : List (List Nat)} (I : LInv p ch rs m left) {r : RuleM} (hr : r ∈ rs) (h1 : r.src < p.n) (h2 : r.tgt < p.n) {row0 : List Nat} (s0 : Sol p ch rs m row0) {good : List Nat} (hg : good = (left.getD r.src []).filter fun s => met p ch r s (la left r.tgt)) :
    LInv p ch rs m (left.set r.src good) ∧ (good ≠ left.getD r.src [] → tot (left.set r.src good) < tot left) ∧ (good = left.getD r.src [] → stHigh p ch left r) := by
  subst hg
  have hl : r.src < left.length := by rw [I.len]; exact h1
  have ne := I.ne s0 h2
  exact ⟨I.cut h2 r.src h1 _ fun row s => I.high ok hr h1 h2 ne row s, fun e => tot_set hl (filter_lt e), fun e => e⟩
theorem set_same {left : List (List Nat)} {a : Nat} : left.set a (left.getD a []) = left := by
  apply List.ext_getElem?
  intro j
  rw [List.getElem?_set]
  split
  · rename_i h
    subst h
    split
    · rename_i h; rw [List.getD, List.getElem?_eq_getElem h]; rfl
    · rename_i h; rw [List.getElem?_eq_none (by omega)]
  · rfl
end Mth

/-! DfG0 -/
set_option Elab.async false
set_option linter.all false
set_option maxRecDepth 100000
set_option maxHeartbeats 4000000
namespace DL
open PySem PySem.Spec PyProof.Rows L2
open NdefX (NTab TabsN TabN)
open Mth
abbrev dNatL (l : List Nat) : Dat := .lst (l.map nI)
def dRowO : Option (List Nat) → Dat
  | none => .non
  | some l => dNats l
theorem toPys_nats (l : List Nat) : toPys (l.map nI) = some ((l.map fun n : Nat => (n : Int)).map PyData.int) := by
  induction l with
  | nil => rfl
  | cons a r ih => rw [List.map_cons, toPys, ih]; rfl
theorem eqvAll_ints : ∀ {l m : List Int}, PyData.eqvAll (l.map PyData.int) (m.map PyData.int) = decide (l = m)
  | [], [] => rfl
  | [], b :: m => by simp [PyData.eqvAll]
  | a :: l, [] => by simp [PyData.eqvAll]
  | a :: l, b :: m => by
    show (PyData.eqv (.int a) (.int b) && PyData.eqvAll (l.map PyData.int) (m.map PyData.int)) = _
    rw [eqvAll_ints]
    show ((a == b) && decide (l = m)) = _
    rw [Bool.eq_iff_iff]; simp
theorem nat_int_inj : ∀ {l m : List Nat}, (l.map fun n : Nat => (n : Int)) = (m.map fun n : Nat => (n : Int)) ↔ l = m := by
  intro l m
  constructor
  · intro h
    have e : ∀ l : List Nat, (l.map fun n : Nat => (n : Int)).map Int.toNat = l := fun l => by
      rw [List.map_map]
      induction l with
      | nil => rfl
      | cons a r ih => rw [List.map_cons, ih]; rfl
    rw [← e l, h, e m]
  · intro h; rw [h]
theorem eqQ_nats {l m : List Nat} {Q : Bool → Prop} (q : Q (decide (l = m))) : eqQ (dNatL l) (dNatL m) Q := by
  refine .inr ⟨_, _, by rw [toPy, toPys_nats]; rfl, by rw [toPy, toPys_nats]; rfl, PySem.W.ke_shaped_ints _, PySem.W.ke_shaped_ints _, ?_⟩
  have e : PyData.eqv (.list ((l.map fun n : Nat => (n : Int)).map PyData.int)) (.list ((m.map fun n : Nat => (n : Int)).map PyData.int)) = decide (l = m) := by
    show PyData.eqvAll _ _ = _
    rw [eqvAll_ints, Bool.eq_iff_iff]
    simp only [decide_eq_true_eq]
    exact nat_int_inj
  rw [e]; exact q
theorem atL_at {left : List (List Nat)} {a : Nat} (h : a < left.length) : atI (left.map dNatL) (a : Int) = some (dNatL (left.getD a [])) := at_map [] h
theorem hd_at {left : List (List Nat)} {a : Nat} (h : left.getD a [] ≠ []) : atI ((left.getD a []).map nI) 0 = some (nI (hd left a)) := by
  unfold hd
  cases e : left.getD a [] with
  | nil => exact absurd e h
  | cons x r => exact atI_nat (j := 0) rfl
theorem ixN_nat {n a : Nat} (h : a < n) : ixN n (a : Int) = some a := by
  unfold ixN
  rw [if_pos (by omega), if_pos (by omega)]; simp
theorem atI_m1 {α : Type} {l : List α} {x : α} (h : l.getLast? = some x) : atI l (-1) = some x := by
  obtain ⟨r, e⟩ : ∃ r, l = r ++ [x] := by
    rw [List.getLast?_eq_some_iff] at h
    exact h
  rw [e]; exact atI_last r x
theorem la_at {left : List (List Nat)} {a : Nat} (h : left.getD a [] ≠ []) : atI ((left.getD a []).map nI) (-1) = some (nI (la left a)) := by
  refine atI_m1 ?_
  unfold la
  rw [List.getLast?_map, List.getLastD_eq_getLast?, List.getLast?_eq_some_getLast h]; rfl
theorem ind_last {l : List Nat} (h : l ≠ []) : atI (l.map nI) (-1) = some (nI (l.getLastD 0)) := by
  refine atI_m1 ?_
  rw [List.getLast?_map, List.getLastD_eq_getLast?, List.getLast?_eq_some_getLast h]; rfl
theorem ind_head {l : List Nat} (h : l ≠ []) : atI (l.map nI) 0 = some (nI (l.headD 0)) := by
  cases l with
  | nil => exact absurd rfl h
  | cons x r => exact atI_nat (j := 0) rfl
theorem getD_of {α : Type} {l : List α} {i : Nat} {x d : α} (h : l[i]? = some x) : l.getD i d = x := by rw [List.getD, h]; rfl
theorem map_set' {l : List (List Nat)} {a : Nat} {x : List Nat} : (l.map dNatL).set a (dNatL x) = (l.set a x).map dNatL := by rw [List.map_set]
end DL

/-! DfG -/
set_option Elab.async false
set_option linter.all false
set_option maxRecDepth 100000
set_option maxHeartbeats 4000000
set_option pp.maxSteps 300
set_option pp.deepTerms false
namespace DL
open PySem PySem.Spec PyProof.Rows L2
open NdefX (NTab TabsN TabN)
open Mth
section
variable {W : Wd} {ad : Ads}
def S_led (ad : Ads) : Sc := fun ds Q => ∃ (p : PrjM) (ch : List Nat) (mo : Option Nat) (rs : List RuleM), ds = [dPrj ad p, dNats ch, .lst ((startL p ch mo).map dNatL), .lst (rs.map (dRule ad))] ∧ OkP p ∧ OkCh p ch ∧ (∀ r ∈ rs, r.src < p.n ∧ r.tgt < p.n) ∧ rs.length ≤ 1000 ∧ ∀ (st : List Dat) (r : Option (List Nat)), LedIs p ch rs mo r → Q (.tup [.lst st, dRowO r])
set_option maxHeartbeats 8000000 in
theorem c_led (G : Gl0 W ad) : CalD W 8 "led" (S_led ad) [] := by
  refine cal_of (N := ["project", "choice", "some", "rules", "is_on", "left", "steps", "activity", "starts", "rule", "good", "start", "later"]) (ps := ["project", "choice", "some", "rules"]) G.d_led (by decide +kernel) (fun _ _ _ _ _ _ us hl => match us, hl with | [_, _, _, _], _ => rfl) (fun ds Q hS => by obtain ⟨p, ch, mo, rs, rfl, ok, okc, hrs, hrl, q⟩ := hS; rfl) fun f cdv A outer s H E md0 ds Q hr hS => ?_
  obtain ⟨p, ch, mo, rs, rfl, ok, okc, hrs, hrl, q⟩ := hS
  have HN : (["project", "choice", "some", "rules", "is_on", "left", "steps", "activity", "starts", "rule", "good", "start", "later"] : List Str).Nodup := by decide
  have n3 := ok.n3
  have LS : LInv p ch rs mo (startL p ch mo) := LInv.start
  refine s_cons (s_parFF 5 6 rfl HN ?_)
  refine f_lc (own := [("starts", 8)]) (is := [8]) rfl HN (by kernel_rfl) ?_
  refine i_seq ?_
  refine d_name 2 rfl ?_
  refine lcq_map (h := fun l => dNatL l) (by rw [startL_len]; omega) trivial (fun i z ez Y N y => ?_) ?_
  · intro s5 H5 C5 cl5 fp5
    refine n_name 8 ?_ HN
    intro s6 H6 C6 cl6 fp6
    refine ts_nil (if_t rfl ?_)
    intro s7 H7 C7 cl7 fp7
    refine d_list G.b_list ?_
    refine d_name 8 rfl ?_
    exact y
  refine f_nil (fun p_left p_steps => ?_)
  refine s_cons (s_for rfl ?_)
  refine i_enum G.b_enumerate ?_
  refine d_own 5 rfl ?_
  refine ⟨5, _, rfl, ?_⟩
  refine ⟨fun i δ => ∃ s4 s7 s8 s9 s10 s11 s12, δ = [.d (dPrj ad p), .d (dNats ch), .d (.lst ((startL p ch mo).map dNatL)), .d (.lst (rs.map (dRule ad))), s4, .own p_left (.lst ((startL p ch mo).map dNatL)), .own p_steps (.lst []), s7, s8, s9, s10, s11, s12] ∧ ∀ a, a < i → (startL p ch mo).getD a [] ≠ [], ⟨_, _, _, _, _, _, _, rfl, fun a h => absurd h (Nat.not_lt_zero a)⟩, fun i δ _ hI => by obtain ⟨s4, s7, s8, s9, s10, s11, s12, rfl, hne⟩ := hI; rfl, fun i d δ ed hI => ?_, fun δ hI => ?_⟩
  · obtain ⟨s4, s7, s8, s9, s10, s11, s12, rfl, hne⟩ := hI
    obtain ⟨x, ex, rfl⟩ := enum_get ed
    obtain ⟨l, el, rfl⟩ := map_get ex
    have hi : i < p.n := by have := (List.getElem?_eq_some_iff.mp el).1; rw [startL_len] at this; exact this
    have hgl := getD_of (d := []) el
    refine g_tup (n := 2) rfl ⟨rfl, ?_⟩
    refine g_cons ?_
    refine g_name 7 ?_ HN
    refine g_cons ?_
    refine g_name 8 ?_ HN
    refine g_nil ?_
    refine s_one (s_if ?_)
    refine t_eq0 hr.u0 ?_
    refine d_name 8 rfl ?_
    refine d_lst ?_
    refine a_nil ⟨by simp, ?_⟩
    refine ⟨_, .inr ⟨rfl, rfl⟩, ?_⟩
    refine if_x (fun h4 => ?_) (fun h4 => ?_)
    · refine s_one (s_ret ?_)
      refine d_tup ?_
      refine a_cons ?_
      refine d_lst ?_
      refine a_cons ?_
      refine d_tup ?_
      refine a_cons ?_
      refine d_name 7 rfl ?_
      refine a_cons ?_
      refine d_add ?_
      refine d_fld ?_
      refine d_name 0 rfl ?_
      refine ⟨G.ci_project.cl, G.na_project_horizon, _, rfl, ?_⟩
      refine d_int ?_
      refine a_cons ?_
      refine d_tup ?_
      refine a_cons ?_
      refine d_str ?_
      refine a_nil ⟨by simp, ?_⟩
      refine a_nil ⟨by simp, ?_⟩
      refine a_nil ⟨by simp, ?_⟩
      refine a_cons ?_
      refine d_non ?_
      refine a_nil ⟨by simp, ?_⟩
      exact q _ none (LS.empty hi (by rw [hgl]; simpa using h4))
    · refine s_nil ?_
      refine ⟨_, _, _, _, _, _, _, rfl, fun a h => ?_⟩
      rcases Nat.lt_or_ge a i with z | z
      · exact hne a z
      · have : a = i := by omega
        subst this
        rw [hgl]; simpa using h4
  · obtain ⟨s4, s7, s8, s9, s10, s11, s12, rfl, hne⟩ := hI
    rw [enumD_len, List.length_map, startL_len] at hne
    refine s_cons (s_set 4 ?_ HN)
    refine d_bl ?_
    refine s_cons (s_while (fun m δ => ∃ left stp on s7 s8 s9 s10 s11 s12, δ = [.d (dPrj ad p), .d (dNats ch), .d (.lst ((startL p ch mo).map dNatL)), .d (.lst (rs.map (dRule ad))), .d (.bl on), .own p_left (.lst (left.map dNatL)), .own p_steps (.lst stp), s7, s8, s9, s10, s11, s12] ∧ LInv p ch rs mo left ∧ (∀ a, a < p.n → left.getD a [] ≠ []) ∧ stp.length + tot left ≤ 21 ∧ (on = false → ∀ r ∈ rs, stLow p ch left r) ∧ m = tot left + (if on = true then 1 else 0)) (m0 := tot (startL p ch mo) + 1) ⟨startL p ch mo, [], true, _, _, _, _, _, _, rfl, LS, hne, by have := tot_start ok (ch := ch) (m := mo); simpa using this, fun z => (by cases z), rfl⟩ fun m δ hI => ?_)
    obtain ⟨left, stp, on, s7, s8, s9, s10, s11, s12, rfl, I, ne, hl, hst, hm⟩ := hI
    refine t_val ?_
    refine d_name 4 rfl ?_
    refine q_b ?_
    refine if_x (fun h9 => ?_) (fun h9 => ?_)
    · refine s_cons (s_set 4 ?_ HN)
      refine d_bl ?_
      refine s_one (s_for rfl ?_)
      refine i_seq ?_
      refine d_name 3 rfl ?_
      refine ⟨fun i δ => ∃ left2 stp2 on2 s7 s8 s9 s10 s11 s12, δ = [.d (dPrj ad p), .d (dNats ch), .d (.lst ((startL p ch mo).map dNatL)), .d (.lst (rs.map (dRule ad))), .d (.bl on2), .own p_left (.lst (left2.map dNatL)), .own p_steps (.lst stp2), s7, s8, s9, s10, s11, s12] ∧ LInv p ch rs mo left2 ∧ (∀ a, a < p.n → left2.getD a [] ≠ []) ∧ stp2.length + tot left2 ≤ 21 ∧ tot left2 ≤ tot left ∧ (on2 = false → left2 = left ∧ ∀ (j : Nat) r, j < i → rs[j]? = some r → stLow p ch left r) ∧ (on2 = true → tot left2 < tot left), ⟨left, stp, false, _, _, _, _, _, _, rfl, I, ne, hl, Nat.le_refl _, fun _ => ⟨rfl, fun j r hj => absurd hj (Nat.not_lt_zero j)⟩, fun z => (by cases z)⟩, fun i δ _ _ => trivial, fun i d δ ed hI => ?_, fun δ hI => ?_⟩
      · obtain ⟨left2, stp2, on2, s7, s8, s9, s10, s11, s12, rfl, I2, ne2, hl2, ht2, hf, hb⟩ := hI
        obtain ⟨r, er, rfl⟩ := map_get ed
        have hrm := List.mem_of_getElem? er
        obtain ⟨h1, h2⟩ := hrs r hrm
        refine g_name 9 ?_ HN
        refine s_cons (s_asg ?_)
        refine d_tup ?_
        refine a_cons ?_
        refine d_sub ?_
        refine d_sub ?_
        refine d_own 5 rfl ?_
        refine d_fld ?_
        refine d_name 9 rfl ?_
        refine ⟨G.ci_rule.cl, G.na_rule_source, _, rfl, ?_⟩
        refine ⟨5, _, _, rfl, atL_at (by rw [I2.len]; exact h1), ?_⟩
        refine d_int ?_
        refine ⟨_, hd_at (ne2 _ h1), ?_⟩
        refine a_cons ?_
        refine d_sub ?_
        refine d_own 5 rfl ?_
        refine d_fld ?_
        refine d_name 9 rfl ?_
        refine ⟨G.ci_rule.cl, G.na_rule_target, _, rfl, ?_⟩
        refine ⟨5, _, _, rfl, atL_at (by rw [I2.len]; exact h2), ?_⟩
        refine a_nil ⟨by simp, ?_⟩
        refine g_tup (n := 2) rfl ⟨rfl, ?_⟩
        refine g_cons ?_
        refine g_name 11 ?_ HN
        refine g_cons ?_
        refine g_name 8 ?_ HN
        refine g_nil ?_
        refine s_cons (s_setLc 10 (own := [("later", 12)]) (is := [12]) rfl HN (by kernel_rfl) ?_)
        refine i_seq ?_
        refine d_name 8 rfl ?_
        refine lcq_filter (h := nI) (p := fun t => met p ch r (hd left2 r.src) t) (by have := len_le_tot (left := left2) (a := r.tgt); omega) trivial (fun i z ez Y N y n => ?_) ?_
        · intro s5 H5 C5 cl5 fp5
          refine n_name 12 ?_ HN
          intro s6 H6 C6 cl6 fp6
          refine ts_one ?_
          refine t_val ?_
          refine d_meth (me_is_met G) hr ?_
          refine d_name 9 rfl ?_
          refine ⟨_, rfl, rfl, ?_⟩
          refine a_cons ?_
          refine d_name 0 rfl ?_
          refine a_cons ?_
          refine d_name 1 rfl ?_
          refine a_cons ?_
          refine d_name 11 rfl ?_
          refine a_cons ?_
          refine d_name 12 rfl ?_
          have hz := List.mem_of_getElem? ez
          obtain ⟨e1, he1⟩ := poss_ev (I2.mem _ h1 _ (hd_mem (ne2 _ h1))) r.w1
          obtain ⟨e2, he2⟩ := poss_ev (I2.mem _ h2 z hz) r.w2
          refine a_nil ⟨p, ch, r, hd left2 r.src, z, e1, e2, rfl, ok, okc, h1, h2, he1, he2, ?_⟩
          refine q_b ?_
          refine if_x (fun h16 => ?_) (fun h16 => ?_)
          · intro s7 H7 C7 cl7 fp7
            refine d_name 12 rfl ?_
            exact y h16
          · exact n (by simpa using h16)
        obtain ⟨T1, T2, T3, T4, T5⟩ := low_turn ok I2 hrm h1 h2 ne2 (good := (left2.getD r.tgt []).filter fun t => met p ch r (hd left2 r.src) t) rfl
        generalize hG : ((left2.getD r.tgt []).filter fun t => met p ch r (hd left2 r.src) t) = good at T1 T2 T3 T4 T5 ⊢
        refine s_cons (s_if ?_)
        refine t_ne hr.u64 ?_
        refine d_name 10 rfl ?_
        refine d_name 8 rfl ?_
        refine eqQ_nats ?_
        refine if_x (fun h20 => ?_) (fun h20 => ?_)
        · have hgn : good ≠ left2.getD r.tgt [] := by simpa using h20
          have T4 := T4 hgn
          refine s_cons (s_set 4 ?_ HN)
          refine d_bl ?_
          refine s_cons (s_append 6 rfl (by omega) ?_)
          refine d_own 6 rfl ?_
          refine ⟨rfl, ?_⟩
          refine WE.mono (Q := fun d => True) ?_ (fun d hd => ?_)
          · refine d_tup ?_
            refine a_cons ?_
            refine d_fld ?_
            refine d_name 9 rfl ?_
            refine ⟨G.ci_rule.cl, G.na_rule_target, _, rfl, ?_⟩
            refine a_cons ?_
            refine d_ifE ?_
            refine t_ne0 hr.u0 ?_
            refine d_name 10 rfl ?_
            refine d_lst ?_
            refine a_nil ⟨by simp, ?_⟩
            refine ⟨_, .inr ⟨rfl, rfl⟩, ?_⟩
            refine if_x (fun h22 => ?_) (fun h22 => ?_)
            · refine d_sub ?_
              refine d_name 10 rfl ?_
              refine d_int ?_
              refine ⟨_, ind_head (by simpa using h22), ?_⟩
              refine a_cons ?_
              refine d_fld ?_
              refine d_name 9 rfl ?_
              refine ⟨G.ci_rule.cl, G.na_rule_reason, _, rfl, ?_⟩
              refine a_nil ⟨by simp, ?_⟩
              trivial
            · refine d_add ?_
              refine d_fld ?_
              refine d_name 0 rfl ?_
              refine ⟨G.ci_project.cl, G.na_project_horizon, _, rfl, ?_⟩
              refine d_int ?_
              refine a_cons ?_
              refine d_fld ?_
              refine d_name 9 rfl ?_
              refine ⟨G.ci_rule.cl, G.na_rule_reason, _, rfl, ?_⟩
              refine a_nil ⟨by simp, ?_⟩
              trivial
          refine s_one (s_asg ?_)
          refine d_name 10 rfl ?_
          refine g_sub hr.u1 ?_
          refine d_own 5 rfl ?_
          refine d_fld ?_
          refine d_name 9 rfl ?_
          refine ⟨G.ci_rule.cl, G.na_rule_target, _, rfl, ?_⟩
          refine .inl ⟨5, _, _, _, rfl, rfl, ixN_nat (by rw [List.length_map, I2.len]; exact h2), ?_⟩
          rw [map_set']
          refine s_one (s_if ?_)
          refine t_eq0 hr.u0 ?_
          refine d_name 10 rfl ?_
          refine d_lst ?_
          refine a_nil ⟨by simp, ?_⟩
          refine ⟨_, .inr ⟨rfl, rfl⟩, ?_⟩
          refine if_x (fun h28 => ?_) (fun h28 => ?_)
          · refine s_freeze 6 rfl ?_
            refine s_one (s_ret ?_)
            refine d_tup ?_
            refine a_cons ?_
            refine d_name 6 rfl ?_
            refine a_cons ?_
            refine d_non ?_
            refine a_nil ⟨by simp, ?_⟩
            exact q _ none (T2 (by simpa using h28))
          · refine s_nil ?_
            exact ⟨_, _, true, _, _, _, _, _, _, rfl, T1, T3 (by simpa using h28), by rw [List.length_append]; simp; omega, by omega, fun z => (by cases z), fun _ => by omega⟩
        · have hge : good = left2.getD r.tgt [] := by simpa using h20
          have T5 := T5 hge
          refine s_nil ?_
          refine s_one (s_if ?_)
          refine t_eq0 hr.u0 ?_
          refine d_name 10 rfl ?_
          refine d_lst ?_
          refine a_nil ⟨by simp, ?_⟩
          refine ⟨_, .inr ⟨rfl, rfl⟩, ?_⟩
          refine if_f (by rw [hge]; have := ne2 _ h2; simpa using this) ?_
          refine s_nil ?_
          refine ⟨_, _, on2, _, _, _, _, _, _, rfl, I2, ne2, hl2, ht2, fun z => ⟨(hf z).1, fun j r2 hj er2 => ?_⟩, hb⟩
          rcases Nat.lt_or_ge j i with w | w
          · exact (hf z).2 j r2 w er2
          · have : j = i := by omega
            subst this
            rw [er] at er2
            cases er2
            rw [← (hf z).1]; exact T5
      · obtain ⟨left2, stp2, on2, s7, s8, s9, s10, s11, s12, rfl, I2, ne2, hl2, ht2, hf, hb⟩ := hI
        rw [List.length_map] at hf
        refine ⟨tot left2 + (if on2 = true then 1 else 0), ?_, left2, stp2, on2, _, _, _, _, _, _, rfl, I2, ne2, hl2, fun z r hr => ?_, rfl⟩
        · rw [if_pos h9] at hm
          cases on2 with
          | true => have := hb rfl; simp; omega
          | false => simp; omega
        · obtain ⟨j, hj⟩ := List.getElem?_of_mem hr
          rw [(hf z).1]
          exact (hf z).2 j r (List.getElem?_eq_some_iff.mp hj).1 hj
    · have hof : on = false := by simpa using h9
      refine s_freeze 5 rfl ?_
      refine s_freeze 6 rfl ?_
      refine s_one (s_ret ?_)
      refine d_tup ?_
      refine a_cons ?_
      refine d_name 6 rfl ?_
      refine a_cons ?_
      refine d_tuple G.b_tuple ?_
      refine d_lc (own := [("starts", 8)]) (is := [8]) rfl HN (by kernel_rfl) ?_
      refine i_seq ?_
      refine d_name 5 rfl ?_
      refine lcq_map (h := fun l => nI (l.headD 0)) (by rw [I.len]; omega) trivial (fun i z ez Y N y => ?_) ?_
      · intro s5 H5 C5 cl5 fp5
        refine n_name 8 ?_ HN
        intro s6 H6 C6 cl6 fp6
        refine ts_nil (if_t rfl ?_)
        intro s7 H7 C7 cl7 fp7
        refine d_sub ?_
        refine d_name 8 rfl ?_
        refine d_int ?_
        have hz : z ≠ [] := by have hi := (List.getElem?_eq_some_iff.mp ez).1; rw [I.len] at hi; have := ne i hi; rw [getD_of ez] at this; exact this
        refine ⟨_, ind_head hz, ?_⟩
        exact y
      refine a_nil ⟨by simp, ?_⟩
      have := q stp (some (left.map fun l => l.headD 0)) (show LedIs p ch rs mo (some (left.map fun l => l.headD 0)) from led_done I hrs ne (hst hof))
      simp only [dRowO] at this
      rw [show dNats (left.map fun l => l.headD 0) = .tup (left.map fun l => nI (l.headD 0)) by rw [dNats, List.map_map]; rfl] at this
      exact this
end
end DL

/-! DfH -/
set_option Elab.async false
set_option linter.all false
set_option maxRecDepth 100000
set_option maxHeartbeats 4000000
set_option pp.maxSteps 300
set_option pp.deepTerms false
namespace DL
open PySem PySem.Spec PyProof.Rows L2
open NdefX (NTab TabsN TabN)
open Mth
section
variable {W : Wd} {ad : Ads}
def S_greatest_in (ad : Ads) : Sc := fun ds Q => ∃ (p : PrjM) (ch : List Nat) (mo : Option Nat) (rs : List RuleM) (row0 : List Nat), ds = [dPrj ad p, dNats ch, .lst ((startL p ch mo).map dNatL), .lst (rs.map (dRule ad))] ∧ OkP p ∧ OkCh p ch ∧ (∀ r ∈ rs, r.src < p.n ∧ r.tgt < p.n) ∧ rs.length ≤ 1000 ∧ Sol p ch rs mo row0 ∧ ∀ (r : List Nat), GrIs p ch rs mo r → Q (dNats r)
set_option maxHeartbeats 8000000 in
theorem c_greatest_in (G : Gl0 W ad) : CalD W 8 "greatest_in" (S_greatest_in ad) [] := by
  refine cal_of (N := ["project", "choice", "some", "rules", "left", "is_on", "rule", "starts", "good", "later", "start"]) (ps := ["project", "choice", "some", "rules"]) G.d_greatest_in (by decide +kernel) (fun _ _ _ _ _ _ us hl => match us, hl with | [_, _, _, _], _ => rfl) (fun ds Q hS => by obtain ⟨p, ch, mo, rs, row0, rfl, ok, okc, hrs, hrl, s0, q⟩ := hS; rfl) fun f cdv A outer s H E md0 ds Q hr hS => ?_
  obtain ⟨p, ch, mo, rs, row0, rfl, ok, okc, hrs, hrl, s0, q⟩ := hS
  have HN : (["project", "choice", "some", "rules", "left", "is_on", "rule", "starts", "good", "later", "start"] : List Str).Nodup := by decide
  have n3 := ok.n3
  have LS : LInv p ch rs mo (startL p ch mo) := LInv.start
  refine s_cons (s_setLcF 4 (own := [("starts", 7)]) (is := [7]) rfl HN (by kernel_rfl) ?_)
  refine i_seq ?_
  refine d_name 2 rfl ?_
  refine lcq_map (h := fun l => dNatL l) (by rw [startL_len]; omega) trivial (fun i z ez Y N y => ?_) ?_
  · intro s5 H5 C5 cl5 fp5
    refine n_name 7 ?_ HN
    intro s6 H6 C6 cl6 fp6
    refine ts_nil (if_t rfl ?_)
    intro s7 H7 C7 cl7 fp7
    refine d_list G.b_list ?_
    refine d_name 7 rfl ?_
    exact y
  intro p_left
  refine s_cons (s_set 5 ?_ HN)
  refine d_bl ?_
  refine s_cons (s_while (fun m δ => ∃ left on s6 s7 s8 s9 s10, δ = [.d (dPrj ad p), .d (dNats ch), .d (.lst ((startL p ch mo).map dNatL)), .d (.lst (rs.map (dRule ad))), .own p_left (.lst (left.map dNatL)), .d (.bl on), s6, s7, s8, s9, s10] ∧ LInv p ch rs mo left ∧ tot left ≤ 21 ∧ (on = false → ∀ r ∈ rs, stHigh p ch left r) ∧ m = tot left + (if on = true then 1 else 0)) (m0 := tot (startL p ch mo) + 1) ⟨startL p ch mo, true, _, _, _, _, _, rfl, LS, tot_start ok, fun z => (by cases z), rfl⟩ fun m δ hI => ?_)
  obtain ⟨left, on, s6, s7, s8, s9, s10, rfl, I, hl, hst, hm⟩ := hI
  refine t_val ?_
  refine d_name 5 rfl ?_
  refine q_b ?_
  refine if_x (fun h4 => ?_) (fun h4 => ?_)
  · refine s_cons (s_set 5 ?_ HN)
    refine d_bl ?_
    refine s_one (s_for rfl ?_)
    refine i_seq ?_
    refine d_name 3 rfl ?_
    refine ⟨fun i δ => ∃ left2 on2 s6 s7 s8 s9 s10, δ = [.d (dPrj ad p), .d (dNats ch), .d (.lst ((startL p ch mo).map dNatL)), .d (.lst (rs.map (dRule ad))), .own p_left (.lst (left2.map dNatL)), .d (.bl on2), s6, s7, s8, s9, s10] ∧ LInv p ch rs mo left2 ∧ tot left2 ≤ tot left ∧ (on2 = false → left2 = left ∧ ∀ (j : Nat) r, j < i → rs[j]? = some r → stHigh p ch left r) ∧ (on2 = true → tot left2 < tot left), ⟨left, false, _, _, _, _, _, rfl, I, Nat.le_refl _, fun _ => ⟨rfl, fun j r hj => absurd hj (Nat.not_lt_zero j)⟩, fun z => (by cases z)⟩, fun i δ _ _ => trivial, fun i d δ ed hI => ?_, fun δ hI => ?_⟩
    · obtain ⟨left2, on2, s6, s7, s8, s9, s10, rfl, I2, ht2, hf, hb⟩ := hI
      obtain ⟨r, er, rfl⟩ := map_get ed
      have hrm := List.mem_of_getElem? er
      obtain ⟨h1, h2⟩ := hrs r hrm
      refine g_name 6 ?_ HN
      refine s_cons (s_asg ?_)
      refine d_tup ?_
      refine a_cons ?_
      refine d_sub ?_
      refine d_sub ?_
      refine d_own 4 rfl ?_
      refine d_fld ?_
      refine d_name 6 rfl ?_
      refine ⟨G.ci_rule.cl, G.na_rule_target, _, rfl, ?_⟩
      refine ⟨4, _, _, rfl, atL_at (by rw [I2.len]; exact h2), ?_⟩
      refine d_neg ?_
      refine ⟨_, la_at (I2.ne s0 h2), ?_⟩
      refine a_cons ?_
      refine d_sub ?_
      refine d_own 4 rfl ?_
      refine d_fld ?_
      refine d_name 6 rfl ?_
      refine ⟨G.ci_rule.cl, G.na_rule_source, _, rfl, ?_⟩
      refine ⟨4, _, _, rfl, atL_at (by rw [I2.len]; exact h1), ?_⟩
      refine a_nil ⟨by simp, ?_⟩
      refine g_tup (n := 2) rfl ⟨rfl, ?_⟩
      refine g_cons ?_
      refine g_name 9 ?_ HN
      refine g_cons ?_
      refine g_name 7 ?_ HN
      refine g_nil ?_
      refine s_cons (s_setLc 8 (own := [("start", 10)]) (is := [10]) rfl HN (by kernel_rfl) ?_)
      refine i_seq ?_
      refine d_name 7 rfl ?_
      refine lcq_filter (h := nI) (p := fun t => met p ch r t (la left2 r.tgt)) (by have := len_le_tot (left := left2) (a := r.src); omega) trivial (fun i z ez Y N y n => ?_) ?_
      · intro s5 H5 C5 cl5 fp5
        refine n_name 10 ?_ HN
        intro s6 H6 C6 cl6 fp6
        refine ts_one ?_
        refine t_val ?_
        refine d_meth (me_is_met G) hr ?_
        refine d_name 6 rfl ?_
        refine ⟨_, rfl, rfl, ?_⟩
        refine a_cons ?_
        refine d_name 0 rfl ?_
        refine a_cons ?_
        refine d_name 1 rfl ?_
        refine a_cons ?_
        refine d_name 10 rfl ?_
        refine a_cons ?_
        refine d_name 9 rfl ?_
        have hz := List.mem_of_getElem? ez
        obtain ⟨e1, he1⟩ := poss_ev (I2.mem _ h1 z hz) r.w1
        obtain ⟨e2, he2⟩ := poss_ev (I2.mem _ h2 _ (la_mem (I2.ne s0 h2))) r.w2
        refine a_nil ⟨p, ch, r, z, la left2 r.tgt, e1, e2, rfl, ok, okc, h1, h2, he1, he2, ?_⟩
        refine q_b ?_
        refine if_x (fun h11 => ?_) (fun h11 => ?_)
        · intro s7 H7 C7 cl7 fp7
          refine d_name 10 rfl ?_
          exact y h11
        · exact n (by simpa using h11)
      obtain ⟨T1, T2, T3⟩ := high_turn ok I2 hrm h1 h2 s0 (good := (left2.getD r.src []).filter fun t => met p ch r t (la left2 r.tgt)) rfl
      generalize hG : ((left2.getD r.src []).filter fun t => met p ch r t (la left2 r.tgt)) = good at T1 T2 T3 ⊢
      refine s_one (s_if ?_)
      refine t_ne hr.u64 ?_
      refine d_name 8 rfl ?_
      refine d_name 7 rfl ?_
      refine eqQ_nats ?_
      refine if_x (fun h15 => ?_) (fun h15 => ?_)
      · have hgn : good ≠ left2.getD r.src [] := by simpa using h15
        have T2 := T2 hgn
        refine s_one (s_asg ?_)
        refine d_tup ?_
        refine a_cons ?_
        refine d_name 8 rfl ?_
        refine a_cons ?_
        refine d_bl ?_
        refine a_nil ⟨by simp, ?_⟩
        refine g_tup (n := 2) rfl ⟨rfl, ?_⟩
        refine g_cons ?_
        refine g_sub hr.u1 ?_
        refine d_own 4 rfl ?_
        refine d_fld ?_
        refine d_name 6 rfl ?_
        refine ⟨G.ci_rule.cl, G.na_rule_source, _, rfl, ?_⟩
        refine .inl ⟨4, _, _, _, rfl, rfl, ixN_nat (by rw [List.length_map, I2.len]; exact h1), ?_⟩
        refine g_cons ?_
        refine g_name 5 ?_ HN
        refine g_nil ?_
        rw [map_set']
        exact ⟨_, true, _, _, _, _, _, rfl, T1, by omega, fun z => (by cases z), fun _ => by omega⟩
      · have hge : good = left2.getD r.src [] := by simpa using h15
        have T3 := T3 hge
        refine s_nil ?_
        refine ⟨_, on2, _, _, _, _, _, rfl, I2, ht2, fun z => ⟨(hf z).1, fun j r2 hj er2 => ?_⟩, hb⟩
        rcases Nat.lt_or_ge j i with w | w
        · exact (hf z).2 j r2 w er2
        · have : j = i := by omega
          subst this
          rw [er] at er2
          cases er2
          rw [← (hf z).1]; exact T3
    · obtain ⟨left2, on2, s6, s7, s8, s9, s10, rfl, I2, ht2, hf, hb⟩ := hI
      rw [List.length_map] at hf
      refine ⟨tot left2 + (if on2 = true then 1 else 0), ?_, left2, on2, _, _, _, _, _, rfl, I2, by omega, fun z r hr => ?_, rfl⟩
      · rw [if_pos h4] at hm
        cases on2 with
        | true => have := hb rfl; simp; omega
        | false => simp; omega
      · obtain ⟨j, hj⟩ := List.getElem?_of_mem hr
        rw [(hf z).1]
        exact (hf z).2 j r (List.getElem?_eq_some_iff.mp hj).1 hj
  · have hof : on = false := by simpa using h4
    refine s_freeze 4 rfl ?_
    refine s_one (s_ret ?_)
    refine d_tuple G.b_tuple ?_
    refine d_lc (own := [("starts", 7)]) (is := [7]) rfl HN (by kernel_rfl) ?_
    refine i_seq ?_
    refine d_name 4 rfl ?_
    refine lcq_map (h := fun l => nI (l.getLastD 0)) (by rw [I.len]; omega) trivial (fun i z ez Y N y => ?_) ?_
    · intro s5 H5 C5 cl5 fp5
      refine n_name 7 ?_ HN
      intro s6 H6 C6 cl6 fp6
      refine ts_nil (if_t rfl ?_)
      intro s7 H7 C7 cl7 fp7
      refine d_sub ?_
      refine d_name 7 rfl ?_
      refine d_neg ?_
      have hz : z ≠ [] := by have hi := (List.getElem?_eq_some_iff.mp ez).1; rw [I.len] at hi; have := I.ne s0 hi; rw [getD_of ez] at this; exact this
      refine ⟨_, ind_last hz, ?_⟩
      exact y
    have := q (left.map fun l => l.getLastD 0) (show GrIs p ch rs mo (left.map fun l => l.getLastD 0) from greatest_done I hrs (fun a ha => I.ne s0 ha) (hst hof))
    rw [show dNats (left.map fun l => l.getLastD 0) = .tup (left.map fun l => nI (l.getLastD 0)) by rw [dNats, List.map_map]; rfl] at this
    exact this
end
end DL

/-! DfI -/
set_option Elab.async false
set_option linter.all false
set_option maxRecDepth 100000
set_option maxHeartbeats 4000000
set_option pp.maxSteps 300
set_option pp.deepTerms false
namespace DL
open PySem PySem.Spec PyProof.Rows L2
open NdefX (NTab TabsN TabN)
open Mth
section
variable {W : Wd} {ad : Ads}
theorem isiQ_ins {K : PySem.W.Frag} {C : Addr} {fs : List (Str × Dat)} {Q : Dat → Prop} (ci : ClsI K C) (q : Q (.bl true)) : isiQ K (.ins C fs) (.gl C) Q := ⟨rfl, ci, q⟩
def dRes : Option (List Nat × List Nat) → Dat
  | none => .non
  | some (l, g) => .tup [dNats l, dNats g]
theorem row_none {r : Option (List Nat)} (h : isNon (dRowO r) = true) : r = none := by
  cases r with
  | none => rfl
  | some l => simp [dRowO, isNon] at h
theorem row_some {r : Option (List Nat)} (h : ¬ isNon (dRowO r) = true) : ∃ l, r = some l := by
  cases r with
  | none => simp [dRowO, isNon] at h
  | some l => exact ⟨l, rfl⟩
def S_is_pair : Sc := fun ds Q => ∃ (x : Nat × Nat) (n : Int), ds = [.tup [nI x.1, nI x.2], .int n] ∧ (x.1 : Int) < n ∧ (x.2 : Int) < n ∧ x.1 ≠ x.2 ∧ Q (.bl true)
set_option maxHeartbeats 8000000 in
theorem c_is_pair (G : Gl0 W ad) : CalD W 3 "is_pair" S_is_pair [] := by
  refine cal_of (N := ["value", "many", "one"]) (ps := ["value", "many"]) G.d_is_pair (by decide +kernel) (fun _ _ _ _ _ _ us hl => match us, hl with | [_, _], _ => rfl) (fun ds Q hS => by obtain ⟨x, n, rfl, h1, h2, h3, q⟩ := hS; rfl) fun f cdv A outer s H E md0 ds Q hr hS => ?_
  obtain ⟨x, n, rfl, h1, h2, h3, q⟩ := hS
  have HN : (["value", "many", "one"] : List Str).Nodup := by decide
  refine s_cons (s_if ?_)
  refine t_bool ?_
  refine w_or ?_
  refine t_not ?_
  refine t_val ?_
  refine d_isi G.b_isinstance ?_
  refine d_name 0 rfl ?_
  refine d_blt (n := "tuple") G.b_tuple boot_tuple ?_
  refine isiQ_ty rfl kb_tup_tup ?_
  refine q_b ?_
  refine if_f (by decide) ?_
  refine w_or ?_
  refine t_ne hr.u64 ?_
  refine d_len G.b_len ?_
  refine d_name 0 rfl ?_
  refine d_int ?_
  refine .inl ⟨_, rfl, ?_⟩
  refine if_f (by simp) ?_
  refine w_or1 ?_
  refine t_not ?_
  refine t_val ?_
  refine d_all rfl G.b_all ?_
  refine d_lc (own := [("one", 2)]) (is := [2]) rfl HN (by kernel_rfl) ?_
  refine i_seq ?_
  refine d_name 0 rfl ?_
  show LcQ _ _ _ _ _ _ _ _ _ _ ([x.1, x.2].map nI) kpT
  refine lcq_map (h := fun _ => .bl true) (by simp) trivial (fun i z ez Y N y => ?_) ?_
  · intro s5 H5 C5 cl5 fp5
    refine n_name 2 ?_ HN
    intro s6 H6 C6 cl6 fp6
    refine ts_nil (if_t rfl ?_)
    intro s7 H7 C7 cl7 fp7
    refine d_call (c_is_index G) hr ?_
    refine a_cons ?_
    refine d_name 2 rfl ?_
    refine a_cons ?_
    refine d_name 1 rfl ?_
    have hz := List.mem_of_getElem? ez
    refine a_nil ⟨(z : Int), n, rfl, by omega, by simp at hz; rcases hz with rfl | rfl <;> omega, ?_⟩
    exact y
  refine ⟨[true, true], rfl, ?_⟩
  refine q_b ?_
  refine if_f (by decide) ?_
  refine s_nil ?_
  refine s_one (s_ret ?_)
  refine d_ne hr.u64 ?_
  refine d_sub ?_
  refine d_name 0 rfl ?_
  refine d_int ?_
  refine ⟨_, rfl, ?_⟩
  refine d_sub ?_
  refine d_name 0 rfl ?_
  refine d_int ?_
  refine ⟨_, rfl, ?_⟩
  refine .inl ⟨_, rfl, ?_⟩
  exact q_tt (by simp; omega) q
def S_check_project (ad : Ads) : Sc := fun ds Q => ∃ (p : PrjM), ds = [dPrj ad p] ∧ Q .non
set_option maxHeartbeats 8000000 in
theorem c_check_project (G : Gl0 W ad) : CalD W 1 "check_project" (S_check_project ad) [] := by
  refine cal_of (N := ["project"]) (ps := ["project"]) G.d_check_project (by decide +kernel) (fun _ _ _ _ _ _ us hl => match us, hl with | [_], _ => rfl) (fun ds Q hS => by obtain ⟨p, rfl, q⟩ := hS; rfl) fun f cdv A outer s H E md0 ds Q hr hS => ?_
  obtain ⟨p, rfl, q⟩ := hS
  have HN : (["project"] : List Str).Nodup := by decide
  refine s_one (s_if ?_)
  refine t_not ?_
  refine t_val ?_
  refine d_isi G.b_isinstance ?_
  refine d_name 0 rfl ?_
  refine d_gref G.r_Project ?_
  refine isiQ_ins G.ci_project ?_
  refine q_b ?_
  refine if_f (by decide) ?_
  refine s_nil ?_
  exact q
def S_check_choice (ad : Ads) : Sc := fun ds Q => ∃ (p : PrjM) (ch : List Nat), ds = [dPrj ad p, dNats ch] ∧ OkP p ∧ OkCh p ch ∧ Q .non
set_option maxHeartbeats 8000000 in
theorem c_check_choice (G : Gl0 W ad) : CalD W 3 "check_choice" (S_check_choice ad) [] := by
  refine cal_of (N := ["project", "choice", "index", "one"]) (ps := ["project", "choice"]) G.d_check_choice (by decide +kernel) (fun _ _ _ _ _ _ us hl => match us, hl with | [_, _], _ => rfl) (fun ds Q hS => by obtain ⟨p, ch, rfl, ok, okc, q⟩ := hS; rfl) fun f cdv A outer s H E md0 ds Q hr hS => ?_
  obtain ⟨p, ch, rfl, ok, okc, q⟩ := hS
  have HN : (["project", "choice", "index", "one"] : List Str).Nodup := by decide
  have n3 := ok.n3
  have hn : ((nameL.take p.n).map Dat.str).length = p.n := names_len (by omega)
  refine s_cons (s_if ?_)
  refine t_bool ?_
  refine w_or ?_
  refine t_not ?_
  refine t_val ?_
  refine d_isi G.b_isinstance ?_
  refine d_name 1 rfl ?_
  refine d_blt (n := "tuple") G.b_tuple boot_tuple ?_
  refine isiQ_ty rfl kb_tup_tup ?_
  refine q_b ?_
  refine if_f (by decide) ?_
  refine w_or1 ?_
  refine t_ne hr.u64 ?_
  refine d_len G.b_len ?_
  refine d_name 1 rfl ?_
  refine d_len G.b_len ?_
  refine d_fld ?_
  refine d_name 0 rfl ?_
  refine ⟨G.ci_project.cl, G.na_project_names, _, rfl, ?_⟩
  refine .inl ⟨_, rfl, ?_⟩
  refine if_f (by rw [List.length_map, hn, okc.len]; simp) ?_
  refine s_nil ?_
  refine s_one (s_for rfl ?_)
  refine i_enum G.b_enumerate ?_
  refine d_name 1 rfl ?_
  refine ⟨fun i δ => ∃ s2 s3, δ = [.d (dPrj ad p), .d (dNats ch), s2, s3], ⟨_, _, rfl⟩, fun i δ _ _ => trivial, fun i d δ ed hI => ?_, fun δ hI => ?_⟩
  · obtain ⟨s2, s3, rfl⟩ := hI
    obtain ⟨x, ex, rfl⟩ := enum_get ed
    obtain ⟨c, ec, rfl⟩ := map_get ex
    have hi : i < p.n := by have := (List.getElem?_eq_some_iff.mp ec).1; rw [okc.len] at this; exact this
    refine g_tup (n := 2) rfl ⟨rfl, ?_⟩
    refine g_cons ?_
    refine g_name 2 ?_ HN
    refine g_cons ?_
    refine g_name 3 ?_ HN
    refine g_nil ?_
    refine s_one (s_if ?_)
    refine t_not ?_
    refine t_val ?_
    refine d_call (c_is_index G) hr ?_
    refine a_cons ?_
    refine d_name 3 rfl ?_
    refine a_cons ?_
    refine d_len G.b_len ?_
    refine d_sub ?_
    refine d_fld ?_
    refine d_name 0 rfl ?_
    refine ⟨G.ci_project.cl, G.na_project_modes, _, rfl, ?_⟩
    refine d_name 2 rfl ?_
    refine ⟨_, at_map [] (by rw [ok.modes.1]; exact hi), ?_⟩
    refine a_nil ⟨(c : Int), _, rfl, by omega, by rw [List.length_map]; have := okc.lt i c ec; omega, ?_⟩
    refine q_b ?_
    refine if_f (by decide) ?_
    refine s_nil ?_
    exact ⟨_, _, rfl⟩
  · obtain ⟨s2, s3, rfl⟩ := hI
    exact q
def S_check_most : Sc := fun ds Q => ∃ (m : Option Nat), ds = [dOpt m] ∧ Q .non
set_option maxHeartbeats 8000000 in
theorem c_check_most (G : Gl0 W ad) : CalD W 3 "check_most" S_check_most [] := by
  refine cal_of (N := ["most"]) (ps := ["most"]) G.d_check_most (by decide +kernel) (fun _ _ _ _ _ _ us hl => match us, hl with | [_], _ => rfl) (fun ds Q hS => by obtain ⟨m, rfl, q⟩ := hS; rfl) fun f cdv A outer s H E md0 ds Q hr hS => ?_
  obtain ⟨m, rfl, q⟩ := hS
  have HN : (["most"] : List Str).Nodup := by decide
  refine s_one (s_if ?_)
  refine t_bool ?_
  refine w_and ?_
  refine t_notN ?_
  refine d_name 0 rfl ?_
  refine if_x (fun h1 => ?_) (fun h1 => ?_)
  · obtain ⟨e, ee⟩ := opt_some h1
    subst ee
    refine w_and1 ?_
    refine t_not ?_
    refine t_val ?_
    refine d_call (c_is_slot G) hr ?_
    refine a_cons ?_
    refine d_name 0 rfl ?_
    refine a_nil ⟨(e : Int), rfl, by omega, ?_⟩
    refine q_b ?_
    refine if_f (by decide) ?_
    refine s_nil ?_
    exact q
  · refine if_f (by decide) ?_
    refine s_nil ?_
    exact q
def S_check_times (ad : Ads) : Sc := fun ds Q => ∃ (p : PrjM) (ch : List Nat) (pairs : List (Nat × Nat)) (m : Option Nat), ds = [dPrj ad p, dNats ch, dPairs pairs, dOpt m] ∧ OkP p ∧ OkCh p ch ∧ (∀ x ∈ pairs, x.1 < p.n ∧ x.2 < p.n ∧ x.1 ≠ x.2) ∧ pairs.length ≤ 20 ∧ Q .non
set_option maxHeartbeats 8000000 in
theorem c_check_times (G : Gl0 W ad) : CalD W 4 "check_times" (S_check_times ad) [] := by
  refine cal_of (N := ["project", "choice", "ahead", "most", "index", "pair"]) (ps := ["project", "choice", "ahead", "most"]) G.d_check_times (by decide +kernel) (fun _ _ _ _ _ _ us hl => match us, hl with | [_, _, _, _], _ => rfl) (fun ds Q hS => by obtain ⟨p, ch, pairs, m, rfl, ok, okc, hpr, hpl, q⟩ := hS; rfl) fun f cdv A outer s H E md0 ds Q hr hS => ?_
  obtain ⟨p, ch, pairs, m, rfl, ok, okc, hpr, hpl, q⟩ := hS
  have HN : (["project", "choice", "ahead", "most", "index", "pair"] : List Str).Nodup := by decide
  have n3 := ok.n3
  have hn : ((nameL.take p.n).map Dat.str).length = p.n := names_len (by omega)
  refine s_cons (s_expr ?_)
  refine d_call (c_check_project G) hr ?_
  refine a_cons ?_
  refine d_name 0 rfl ?_
  refine a_nil ⟨p, rfl, ?_⟩
  refine s_cons (s_expr ?_)
  refine d_call (c_check_choice G) hr ?_
  refine a_cons ?_
  refine d_name 0 rfl ?_
  refine a_cons ?_
  refine d_name 1 rfl ?_
  refine a_nil ⟨p, ch, rfl, ok, okc, ?_⟩
  refine s_cons (s_if ?_)
  refine t_not ?_
  refine t_val ?_
  refine d_call (c_is_row G) hr ?_
  refine a_cons ?_
  refine d_name 2 rfl ?_
  refine a_cons ?_
  refine d_gint G.i_MAX_AHEAD ?_
  refine a_nil ⟨_, _, _, rfl, .inl rfl, by rw [List.length_map]; omega, ?_⟩
  refine q_b ?_
  refine if_f (by decide) ?_
  refine s_nil ?_
  refine s_cons (s_for rfl ?_)
  refine i_enum G.b_enumerate ?_
  refine d_name 2 rfl ?_
  refine ⟨fun i δ => ∃ s4 s5, δ = [.d (dPrj ad p), .d (dNats ch), .d (dPairs pairs), .d (dOpt m), s4, s5], ⟨_, _, rfl⟩, fun i δ _ _ => trivial, fun i d δ ed hI => ?_, fun δ hI => ?_⟩
  · obtain ⟨s4, s5, rfl⟩ := hI
    obtain ⟨x, ex, rfl⟩ := enum_get ed
    obtain ⟨pr, ec, rfl⟩ := map_get ex
    have hq := hpr pr (List.mem_of_getElem? ec)
    refine g_tup (n := 2) rfl ⟨rfl, ?_⟩
    refine g_cons ?_
    refine g_name 4 ?_ HN
    refine g_cons ?_
    refine g_name 5 ?_ HN
    refine g_nil ?_
    refine s_one (s_if ?_)
    refine t_not ?_
    refine t_val ?_
    refine d_call (c_is_pair G) hr ?_
    refine a_cons ?_
    refine d_name 5 rfl ?_
    refine a_cons ?_
    refine d_len G.b_len ?_
    refine d_fld ?_
    refine d_name 0 rfl ?_
    refine ⟨G.ci_project.cl, G.na_project_names, _, rfl, ?_⟩
    refine a_nil ⟨pr, _, rfl, by rw [hn]; omega, by rw [hn]; omega, hq.2.2, ?_⟩
    refine q_b ?_
    refine if_f (by decide) ?_
    refine s_nil ?_
    exact ⟨_, _, rfl⟩
  · obtain ⟨s4, s5, rfl⟩ := hI
    refine s_one (s_expr ?_)
    refine d_call (c_check_most G) hr ?_
    refine a_cons ?_
    refine d_name 3 rfl ?_
    refine a_nil ⟨m, rfl, ?_⟩
    exact q
def S_all_starts (ad : Ads) : Sc := fun ds Q => ∃ (p : PrjM) (ch : List Nat) (m : Option Nat), ds = [dPrj ad p, dNats ch, dOpt m] ∧ OkP p ∧ OkCh p ch ∧ Q (.lst ((startL p ch m).map dNatL))
set_option maxHeartbeats 8000000 in
theorem c_all_starts (G : Gl0 W ad) : CalD W 9 "all_starts" (S_all_starts ad) [] := by
  refine cal_of (N := ["project", "choice", "most", "one"]) (ps := ["project", "choice", "most"]) G.d_all_starts (by decide +kernel) (fun _ _ _ _ _ _ us hl => match us, hl with | [_, _, _], _ => rfl) (fun ds Q hS => by obtain ⟨p, ch, m, rfl, ok, okc, q⟩ := hS; rfl) fun f cdv A outer s H E md0 ds Q hr hS => ?_
  obtain ⟨p, ch, m, rfl, ok, okc, q⟩ := hS
  have HN : (["project", "choice", "most", "one"] : List Str).Nodup := by decide
  have n3 := ok.n3
  have hn : ((nameL.take p.n).map Dat.str).length = p.n := names_len (by omega)
  refine s_one (s_ret ?_)
  refine d_lc (own := [("one", 3)]) (is := [3]) rfl HN (by kernel_rfl) ?_
  refine i_range1 G.b_range ?_
  refine d_len G.b_len ?_
  refine d_fld ?_
  refine d_name 0 rfl ?_
  refine ⟨G.ci_project.cl, G.na_project_names, _, rfl, ?_⟩
  refine ⟨_, rfl, by omega, by omega, ?_⟩
  rw [hn, range0_nat]
  refine lcq_map (h := fun a => dNatL (poss p ch a m)) (by rw [List.length_range]; omega) trivial (fun i z ez Y N y => ?_) ?_
  · intro s5 H5 C5 cl5 fp5
    refine n_name 3 ?_ HN
    intro s6 H6 C6 cl6 fp6
    refine ts_nil (if_t rfl ?_)
    intro s7 H7 C7 cl7 fp7
    refine d_call (c_starts_in G) hr ?_
    refine a_cons ?_
    refine d_name 0 rfl ?_
    refine a_cons ?_
    refine d_name 1 rfl ?_
    refine a_cons ?_
    refine d_name 3 rfl ?_
    refine a_cons ?_
    refine d_name 2 rfl ?_
    refine a_nil ⟨p, ch, z, m, rfl, ok, okc, List.mem_range.mp (List.mem_of_getElem? ez), ?_⟩
    exact y
  rw [startL, List.map_map] at q
  exact q
def S_times_in (ad : Ads) : Sc := fun ds Q => ∃ (p : PrjM) (ch : List Nat) (pairs : List (Nat × Nat)) (m : Option Nat), ds = [dPrj ad p, dNats ch, dPairs pairs, dOpt m] ∧ OkP p ∧ OkCh p ch ∧ (∀ x ∈ pairs, x.1 < p.n ∧ x.2 < p.n) ∧ pairs.length ≤ 20 ∧ ∀ r, TimesIs p ch (rulesOf p pairs) m r → Q (dRes r)
set_option maxHeartbeats 8000000 in
theorem c_times_in (G : Gl0 W ad) : CalD W 10 "times_in" (S_times_in ad) [] := by
  refine cal_of (N := ["project", "choice", "ahead", "most", "least", "some", "rules"]) (ps := ["project", "choice", "ahead", "most"]) G.d_times_in (by decide +kernel) (fun _ _ _ _ _ _ us hl => match us, hl with | [_, _, _, _], _ => rfl) (fun ds Q hS => by obtain ⟨p, ch, pairs, m, rfl, ok, okc, hpr, hpl, q⟩ := hS; rfl) fun f cdv A outer s H E md0 ds Q hr hS => ?_
  obtain ⟨p, ch, pairs, m, rfl, ok, okc, hpr, hpl, q⟩ := hS
  have HN : (["project", "choice", "ahead", "most", "least", "some", "rules"] : List Str).Nodup := by decide
  have hrl : (rulesOf p pairs).length ≤ 1000 := by
    have := lagsR_len (l := p.lags) (k := 0)
    have := pairsR_len (p := p) (l := pairs) (k := 0)
    have := ok.lags.1
    rw [rulesOf, List.length_append]; omega
  refine s_cons (s_par 5 6 rfl HN ?_)
  refine d_call (c_all_starts G) hr ?_
  refine a_cons ?_
  refine d_name 0 rfl ?_
  refine a_cons ?_
  refine d_name 1 rfl ?_
  refine a_cons ?_
  refine d_name 3 rfl ?_
  refine a_nil ⟨p, ch, m, rfl, ok, okc, ?_⟩
  refine d_call (c_rules_of G) hr ?_
  refine a_cons ?_
  refine d_name 0 rfl ?_
  refine a_cons ?_
  refine d_name 2 rfl ?_
  refine a_nil ⟨p, pairs, rfl, ok, hpr, hpl, ?_⟩
  refine s_cons (s_set 4 ?_ HN)
  refine d_sub ?_
  refine d_call (c_led G) hr ?_
  refine a_cons ?_
  refine d_name 0 rfl ?_
  refine a_cons ?_
  refine d_name 1 rfl ?_
  refine a_cons ?_
  refine d_name 5 rfl ?_
  refine a_cons ?_
  refine d_name 6 rfl ?_
  refine a_nil ⟨p, ch, m, rulesOf p pairs, rfl, ok, okc, rules_ok ok hpr, hrl, fun st r hled => ?_⟩
  refine d_int ?_
  refine ⟨_, rfl, ?_⟩
  refine s_one (s_ret ?_)
  refine d_ifE ?_
  refine t_isN ?_
  refine d_name 4 rfl ?_
  refine if_x (fun h5 => ?_) (fun h5 => ?_)
  · have er := row_none h5
    subst er
    refine d_non ?_
    exact q none hled
  · obtain ⟨l, rfl⟩ := row_some h5
    refine d_tup ?_
    refine a_cons ?_
    refine d_name 4 rfl ?_
    refine a_cons ?_
    refine d_call (c_greatest_in G) hr ?_
    refine a_cons ?_
    refine d_name 0 rfl ?_
    refine a_cons ?_
    refine d_name 1 rfl ?_
    refine a_cons ?_
    refine d_name 5 rfl ?_
    refine a_cons ?_
    refine d_name 6 rfl ?_
    refine a_nil ⟨p, ch, m, rulesOf p pairs, l, rfl, ok, okc, rules_ok ok hpr, hrl, hled.1, fun g hg => ?_⟩
    refine a_nil ⟨by simp, ?_⟩
    exact q (some (l, g)) (times_of hled hg)
def S_times (ad : Ads) : Sc := fun ds Q => ∃ (p : PrjM) (ch : List Nat) (pairs : List (Nat × Nat)) (m : Option Nat), ds = [dPrj ad p, dNats ch, dPairs pairs, dOpt m] ∧ OkP p ∧ OkCh p ch ∧ (∀ x ∈ pairs, x.1 < p.n ∧ x.2 < p.n ∧ x.1 ≠ x.2) ∧ pairs.length ≤ 20 ∧ ∀ r, TimesIs p ch (rulesOf p pairs) m r → Q (dRes r)
set_option maxHeartbeats 8000000 in
theorem f_times {f : Addr} {fd : FuncData} {kws : List (Str × V)} (G : Gl0 W ad) (F : FunD W.K "times" "times" (defArgs (top 89)) (defBody (top 89)) (defScope (top 89)) [] kws f fd) : FnOk W.P W.w W.K W.mg W.base C8.CX0 11 f fd ["project", "choice", "ahead", "most"] (Sc.sp (S_times ad) W.K W.lt W.T) := by
  refine def_ok (N := ["project", "choice", "ahead", "most"]) F (by decide +kernel) (fun ds Q hS => by obtain ⟨p, ch, pairs, m, rfl, ok, okc, hpr, hpl, q⟩ := hS; rfl) (fun cdv A outer s H E md0 ds Q hr hS => ?_)
  obtain ⟨p, ch, pairs, m, rfl, ok, okc, hpr, hpl, q⟩ := hS
  have HN : (["project", "choice", "ahead", "most"] : List Str).Nodup := by decide
  refine s_cons (s_expr ?_)
  refine d_call (c_check_times G) hr ?_
  refine a_cons ?_
  refine d_name 0 rfl ?_
  refine a_cons ?_
  refine d_name 1 rfl ?_
  refine a_cons ?_
  refine d_name 2 rfl ?_
  refine a_cons ?_
  refine d_name 3 rfl ?_
  refine a_nil ⟨p, ch, pairs, m, rfl, ok, okc, hpr, hpl, ?_⟩
  refine s_one (s_ret ?_)
  refine d_call (c_times_in G) hr ?_
  refine a_cons ?_
  refine d_name 0 rfl ?_
  refine a_cons ?_
  refine d_name 1 rfl ?_
  refine a_cons ?_
  refine d_name 2 rfl ?_
  refine a_cons ?_
  refine d_name 3 rfl ?_
  refine a_nil ⟨p, ch, pairs, m, rfl, ok, okc, fun x hx => ⟨(hpr x hx).1, (hpr x hx).2.1⟩, hpl, fun r hr2 => ?_⟩
  exact q r hr2
def S_possible_starts (ad : Ads) : Sc := fun ds Q => ∃ (p : PrjM) (ch : List Nat) (a : Nat) (m : Option Nat), ds = [dPrj ad p, dNats ch, nI a, dOpt m] ∧ OkP p ∧ OkCh p ch ∧ a < p.n ∧ Q (.lst ((poss p ch a m).map nI))
set_option maxHeartbeats 8000000 in
theorem f_possible_starts {f : Addr} {fd : FuncData} {kws : List (Str × V)} (G : Gl0 W ad) (F : FunD W.K "possible_starts" "possible_starts" (defArgs (top 84)) (defBody (top 84)) (defScope (top 84)) [] kws f fd) : FnOk W.P W.w W.K W.mg W.base C8.CX0 9 f fd ["project", "choice", "a", "most"] (Sc.sp (S_possible_starts ad) W.K W.lt W.T) := by
  refine def_ok (N := ["project", "choice", "a", "most"]) F (by decide +kernel) (fun ds Q hS => by obtain ⟨p, ch, a, m, rfl, ok, okc, ha, q⟩ := hS; rfl) (fun cdv A outer s H E md0 ds Q hr hS => ?_)
  obtain ⟨p, ch, a, m, rfl, ok, okc, ha, q⟩ := hS
  have HN : (["project", "choice", "a", "most"] : List Str).Nodup := by decide
  have n3 := ok.n3
  have hn : ((nameL.take p.n).map Dat.str).length = p.n := names_len (by omega)
  refine s_cons (s_expr ?_)
  refine d_call (c_check_project G) hr ?_
  refine a_cons ?_
  refine d_name 0 rfl ?_
  refine a_nil ⟨p, rfl, ?_⟩
  refine s_cons (s_expr ?_)
  refine d_call (c_check_choice G) hr ?_
  refine a_cons ?_
  refine d_name 0 rfl ?_
  refine a_cons ?_
  refine d_name 1 rfl ?_
  refine a_nil ⟨p, ch, rfl, ok, okc, ?_⟩
  refine s_cons (s_if ?_)
  refine t_not ?_
  refine t_val ?_
  refine d_call (c_is_index G) hr ?_
  refine a_cons ?_
  refine d_name 2 rfl ?_
  refine a_cons ?_
  refine d_len G.b_len ?_
  refine d_fld ?_
  refine d_name 0 rfl ?_
  refine ⟨G.ci_project.cl, G.na_project_names, _, rfl, ?_⟩
  refine a_nil ⟨(a : Int), _, rfl, by omega, by rw [hn]; omega, ?_⟩
  refine q_b ?_
  refine if_f (by decide) ?_
  refine s_nil ?_
  refine s_cons (s_expr ?_)
  refine d_call (c_check_most G) hr ?_
  refine a_cons ?_
  refine d_name 3 rfl ?_
  refine a_nil ⟨m, rfl, ?_⟩
  refine s_one (s_ret ?_)
  refine d_call (c_starts_in G) hr ?_
  refine a_cons ?_
  refine d_name 0 rfl ?_
  refine a_cons ?_
  refine d_name 1 rfl ?_
  refine a_cons ?_
  refine d_name 2 rfl ?_
  refine a_cons ?_
  refine d_name 3 rfl ?_
  refine a_nil ⟨p, ch, a, m, rfl, ok, okc, ha, ?_⟩
  exact q
end
end DL

/-! DfJ -/
set_option Elab.async false
set_option linter.all false
set_option maxRecDepth 100000
set_option maxHeartbeats 4000000
set_option pp.maxSteps 300
set_option pp.deepTerms false
namespace DL
open PySem PySem.Spec PyProof.Rows L2
open NdefX (NTab TabsN TabN)
open Mth
section
variable {W : Wd} {ad : Ads}
theorem c_times0 (G : Gl0 W ad) : CalD W 11 "times" (S_times ad) [.tup [], .non] := by
  obtain ⟨f, fd, a, F, hm, hk⟩ := G.d_times
  obtain ⟨ds, hv, hb⟩ := F.binds0 (ps := ["project", "choice", "ahead", "most"]) 2 (by simp) rfl fun D doc pm an cdv ct us ks hu hks => by
    match us, hu, ks, hks with
    | [x, y], _, [u, v], _ => exact ⟨_, _, _, _, _, _, rfl, rfl, _, _, _, _, _, _, rfl, rfl, rfl⟩
  exact ⟨f, fd, _, ds, _, f_times G F, hm, F.kp, hb, hv, fun md H => .cons (.tupK hk .nil) (.cons .non .nil)⟩
theorem c_times1 (G : Gl0 W ad) : CalK W 11 "times" (S_times ad) 2 ["ahead"] (fun ds zs => ds ++ (zs ++ [.non])) := by
  obtain ⟨f, fd, a, F, hm, hk⟩ := G.d_times
  obtain ⟨mv, hb⟩ := F.kbinds0 (ps := ["project", "choice", "ahead", "most"]) 2 ["ahead"] [("most", .non)] (fun vs ms zs => vs ++ (zs ++ ms)) (by simp) (by simp) (fun r1 r2 r3 => r1.append (r3.append r2)) fun D doc pm an cdv ct us mv ws hu hmv hws => by
    match us, hu, mv, hmv, ws, hws with
    | [x, y], _, [u], _, [v], _ => exact ⟨_, _, _, _, _, _, rfl, rfl, rfl⟩
  exact ⟨f, fd, _, _, _, f_times G F, hm, F.kp, hb, fun md H vs zs ds es h1 h2 => h1.app (h2.app (.cons .non .nil))⟩
theorem c_times2 (G : Gl0 W ad) : CalK W 11 "times" (S_times ad) 2 ["ahead", "most"] (fun ds zs => ds ++ zs) := by
  obtain ⟨f, fd, a, F, hm, hk⟩ := G.d_times
  obtain ⟨mv, hb⟩ := F.kbinds0 (ps := ["project", "choice", "ahead", "most"]) 2 ["ahead", "most"] [] (fun vs ms zs => vs ++ zs) (by simp) (by simp) (fun r1 r2 r3 => r1.append r3) fun D doc pm an cdv ct us mv ws hu hmv hws => by
    match us, hu, mv, hmv, ws, hws with
    | [x, y], _, [], _, [u, v], _ => exact rfl
  exact ⟨f, fd, _, _, _, f_times G F, hm, F.kp, hb, fun md H vs zs ds es h1 h2 => h1.app h2⟩
theorem c_possible_starts0 (G : Gl0 W ad) : CalD W 9 "possible_starts" (S_possible_starts ad) [.non] := by
  obtain ⟨f, fd, F, hm⟩ := G.d_possible_starts
  obtain ⟨ds, hv, hb⟩ := F.binds0 (ps := ["project", "choice", "a", "most"]) 3 (by simp) rfl fun D doc pm an cdv ct us ks hu hks => by
    match us, hu, ks, hks with
    | [x, y, z], _, [u], _ => exact ⟨_, _, _, _, _, _, rfl, rfl, rfl⟩
  exact ⟨f, fd, _, ds, _, f_possible_starts G F, hm, F.kp, hb, hv, fun md H => .cons .non .nil⟩
end
end DL

/-! DfK -/
set_option Elab.async false
set_option linter.all false
set_option maxRecDepth 100000
set_option maxHeartbeats 4000000
set_option pp.maxSteps 300
set_option pp.deepTerms false
namespace DL
open PySem PySem.Spec PyProof.Rows L2
open NdefX (NTab TabsN TabN)
open Mth
section
variable {W : Wd} {ad : Ads}
theorem atI_toNat {α : Type} {l : List α} {i : Int} {x : α} (h0 : 0 ≤ i) (h : l[i.toNat]? = some x) : atI l i = some x := by
  have : i = (i.toNat : Int) := by omega
  rw [this]
  exact atI_nat h
def S__law_draw : Sc := fun ds Q => ∃ n : Int, ds = [.well, .int n] ∧ 1 ≤ n ∧ n ≤ 1000 ∧ ∀ r : Int, 0 ≤ r → r < n → Q (.int r)
set_option maxHeartbeats 8000000 in
theorem c__law_draw (G : Gl0 W ad) : CalD W 1 "_law_draw" S__law_draw [] := by
  refine cal_of (N := ["_law_well_here", "_law_many", "_law_number", "_law_found"]) (ps := ["_law_well_here", "_law_many"]) G.d__law_draw (by decide +kernel) (fun _ _ _ _ _ _ us hl => match us, hl with | [_, _], _ => rfl) (fun ds Q hS => by obtain ⟨n, rfl, n1, n2, q⟩ := hS; rfl) fun f cdv A outer s H E md0 ds Q hr hS => ?_
  obtain ⟨n, rfl, n1, n2, q⟩ := hS
  have HN : (["_law_well_here", "_law_many", "_law_number", "_law_found"] : List Str).Nodup := by decide
  refine s_cons (s_if ?_)
  refine t_gt ?_
  refine d_sub ?_
  refine d_name 0 rfl ?_
  refine d_int ?_
  refine .inl ⟨rfl, fun x1 g1 => ?_⟩
  refine d_int ?_
  refine ⟨trivial, ?_⟩
  refine q_b ?_
  refine if_x (fun h2 => ?_) (fun h2 => ?_)
  · refine s_cons (s_set 3 ?_ HN)
    refine d_mod ?_
    refine d_int1 G.b_int ?_
    refine d_sub ?_
    refine d_name 0 rfl ?_
    refine d_int ?_
    refine .inl ⟨rfl, fun x3 g3 => ?_⟩
    refine d_name 1 rfl ?_
    refine ⟨by show (0 : Int) < n; omega, ?_⟩
    refine s_cons (s_asg ?_)
    refine d_fdiv ?_
    refine d_sub ?_
    refine d_name 0 rfl ?_
    refine d_int ?_
    refine .inl ⟨rfl, fun x5 g5 => ?_⟩
    refine d_name 1 rfl ?_
    refine ⟨⟨by omega, by omega⟩, ?_⟩
    refine g_sub hr.u1 ?_
    refine d_name 0 rfl ?_
    refine d_int ?_
    refine .inl ⟨rfl, ⟨_, rfl, Int.fdiv_nonneg (by omega) (by omega)⟩, ?_⟩
    refine s_one (s_ret ?_)
    refine d_name 3 rfl ?_
    exact q _ (Int.emod_nonneg _ (by omega)) (Int.emod_lt_of_pos _ (by omega))
  · refine s_nil ?_
    refine s_cons (s_asg ?_)
    refine d_add ?_
    refine d_sub ?_
    refine d_name 0 rfl ?_
    refine d_int ?_
    refine .inr (.inr ⟨rfl, fun x9 g9 => ?_⟩)
    refine d_int ?_
    refine g_sub hr.u1 ?_
    refine d_name 0 rfl ?_
    refine d_int ?_
    refine .inr ⟨rfl, ⟨_, rfl, by omega⟩, ?_⟩
    refine s_cons (s_set 2 ?_ HN)
    refine d_mod ?_
    refine d_int1 G.b_int ?_
    refine d_mul ?_
    refine d_add ?_
    refine d_add ?_
    refine d_sub ?_
    refine d_name 0 rfl ?_
    refine d_int ?_
    refine .inr (.inl ⟨rfl, fun x12 g12 l12 => ?_⟩)
    refine d_mul ?_
    refine d_int ?_
    refine d_sub ?_
    refine d_name 0 rfl ?_
    refine d_int ?_
    refine .inr (.inr ⟨rfl, fun x13 g13 => ?_⟩)
    refine ⟨.inl ⟨by omega, by omega⟩, ?_⟩
    refine d_int ?_
    refine d_int ?_
    refine ⟨.inr ⟨by omega, by omega⟩, ?_⟩
    refine d_int ?_
    refine ⟨by show (0 : Int) < 2147483647; decide, ?_⟩
    refine s_cons (s_set 2 ?_ HN)
    refine d_mod ?_
    refine d_int1 G.b_int ?_
    refine d_mul ?_
    refine d_name 2 rfl ?_
    refine d_add ?_
    refine d_fdiv ?_
    refine d_name 2 rfl ?_
    refine d_int ?_
    refine ⟨⟨by decide, by decide⟩, ?_⟩
    refine d_int ?_
    refine ⟨.inl ⟨by have := Int.emod_nonneg ((x12 + 90001 * x13 + 7) * 48271) (show (2147483647 : Int) ≠ 0 by decide); omega, by have := Int.emod_lt_of_pos ((x12 + 90001 * x13 + 7) * 48271) (show (0 : Int) < 2147483647 by decide); omega⟩, ?_⟩
    refine d_int ?_
    refine ⟨by show (0 : Int) < 2147483629; decide, ?_⟩
    refine s_one (s_ret ?_)
    refine d_mod ?_
    refine d_int1 G.b_int ?_
    refine d_fdiv ?_
    refine d_mod ?_
    refine d_int1 G.b_int ?_
    refine d_mul ?_
    refine d_name 2 rfl ?_
    refine d_add ?_
    refine d_fdiv ?_
    refine d_name 2 rfl ?_
    refine d_int ?_
    refine ⟨⟨by decide, by decide⟩, ?_⟩
    refine d_int ?_
    refine ⟨.inl ⟨by have := Int.emod_nonneg (((x12 + 90001 * x13 + 7) * 48271) % 2147483647 * ((((x12 + 90001 * x13 + 7) * 48271) % 2147483647).fdiv 1013 + 69621)) (show (2147483629 : Int) ≠ 0 by decide); omega, by have := Int.emod_lt_of_pos (((x12 + 90001 * x13 + 7) * 48271) % 2147483647 * ((((x12 + 90001 * x13 + 7) * 48271) % 2147483647).fdiv 1013 + 69621)) (show (0 : Int) < 2147483629 by decide); omega⟩, ?_⟩
    refine d_int ?_
    refine ⟨by show (0 : Int) < 2147483399; decide, ?_⟩
    refine d_int ?_
    refine ⟨⟨by decide, by decide⟩, ?_⟩
    refine d_name 1 rfl ?_
    refine ⟨by show (0 : Int) < n; omega, ?_⟩
    exact q _ (Int.emod_nonneg _ (by omega)) (Int.emod_lt_of_pos _ (by omega))
def S__law_one : Sc := fun ds Q => ∃ xs : List Dat, ds = [.well, .lst xs] ∧ xs ≠ [] ∧ xs.length ≤ 1000 ∧ ∀ x, x ∈ xs → Q x
set_option maxHeartbeats 8000000 in
theorem c__law_one (G : Gl0 W ad) : CalD W 2 "_law_one" S__law_one [] := by
  refine cal_of (N := ["_law_well_here", "_law_some"]) (ps := ["_law_well_here", "_law_some"]) G.d__law_one (by decide +kernel) (fun _ _ _ _ _ _ us hl => match us, hl with | [_, _], _ => rfl) (fun ds Q hS => by obtain ⟨xs, rfl, hne, hl, q⟩ := hS; rfl) fun f cdv A outer s H E md0 ds Q hr hS => ?_
  obtain ⟨xs, rfl, hne, hl, q⟩ := hS
  have HN : (["_law_well_here", "_law_some"] : List Str).Nodup := by decide
  have h0 : 0 < xs.length := List.length_pos_iff.mpr hne
  refine s_one (s_ret ?_)
  refine d_sub ?_
  refine d_name 1 rfl ?_
  refine d_call (c__law_draw G) hr ?_
  refine a_cons ?_
  refine d_name 0 rfl ?_
  refine a_cons ?_
  refine d_len G.b_len ?_
  refine d_name 1 rfl ?_
  refine a_nil ⟨(xs.length : Int), rfl, by omega, by omega, fun r r0 r1 => ?_⟩
  refine ⟨_, atI_toNat r0 (List.getElem?_eq_getElem (show r.toNat < xs.length by omega)), ?_⟩
  exact q _ (List.getElem_mem _)
end
end DL

/-! DlQ -/
set_option Elab.async false
set_option linter.all false
set_option maxRecDepth 100000
set_option maxHeartbeats 1000000
namespace DL
open PySem PySem.Spec PyProof.Rows L2
section
variable {X : Cx} {B : Bx} {K : PySem.W.Frag} {δ : List Sl} {Q Q' : Dat → Prop} {e a b c o i : Expr} {es : List Expr} {pos p p2 : Pos}
/-! ### max of a tuple of whole numbers -/
theorem alike_ints (n : Int) (ns : List Int) : PySem.W.AlikeAll (PyData.int n :: ns.map .int) := by
  constructor
  · intro x hx y hy
    rw [show PyData.int n :: ns.map .int = (n :: ns).map PyData.int from rfl] at hx hy
    obtain ⟨i, _, rfl⟩ := List.mem_map.mp hx
    obtain ⟨j, _, rfl⟩ := List.mem_map.mp hy
    rfl
  · intro x hx
    rw [show PyData.int n :: ns.map .int = (n :: ns).map PyData.int from rfl] at hx
    obtain ⟨i, _, rfl⟩ := List.mem_map.mp hx
    exact fun z => by cases z
theorem depth_ints : ∀ ns : List Int, PyData.depthAll (ns.map .int) ≤ 1
  | [] => Nat.zero_le _
  | n :: ns => by
    have := depth_ints ns
    rw [List.map_cons]
    unfold PyData.depthAll
    exact Nat.max_le.mpr ⟨by show 0 ≤ 1; decide, this⟩
theorem cr_maxT (hc : X.calm = true) (hu : X.A.units + 2 < cLine) : CallR X (.builtin "max") (fun xs H Q => ∃ (a : Addr) (vs : List V) (n : Int) (ns : List Int), xs = [.ref a] ∧ SqT X.K H a vs ∧ DpAll X.K H vs (PyData.int n :: ns.map .int) ∧ Q (.int (ns.foldl max n)) H) := by
  intro pins s σ H vs us Q I r h
  obtain ⟨a, ys, n, ns, rfl, hs, hd, q⟩ := h
  obtain ⟨its, rv, hl, hz⟩ := I.tuple hs
  rw [Vals.ref1 r]
  obtain ⟨as, hr⟩ := Dp.readsAll I _ _ its hd rv
  refine PySem.W.max_tuple_data (as := as) (I.ok.hd hc) hl hr (alike_ints n ns) ?_ fun i v h' tk bs hv rd hk => ?_
  · have := depth_ints (n :: ns)
    rw [List.map_cons] at this
    omega
  · rw [PySem.W.maxD_ints] at rd
    cases rd
    exact ⟨.int _, H, I.kept hk, ⟨_, rfl⟩, q⟩
theorem d_maxT (hc : X.calm = true) (hu : X.A.units + 2 < cLine) (hm : X.mg "max" = none) (h : WE X B a δ fun d => ∃ (n : Int) (ns : List Int), d = .tup ((n :: ns).map Dat.int) ∧ Q (.int (ns.foldl max n))) (he : starEach [a] X.env = (false, eval a X.env) :: starEach [] X.env := by rfl) (hg : Gl X "max" := by rfl) : WE X B (.Call (.Name "max" p) [a] [] pos) δ Q := by
  refine d_callB (cr_maxT hc hu) hm boot_max (a_cons (h.mono fun d hd => a_nil ?_) he) hg (he := he)
  intro md σ H vs Qc R r k
  obtain ⟨v, ev, r1⟩ := r.one
  obtain ⟨n, ns, ed, q⟩ := hd
  subst ev ed
  have e2 : toPy (.tup ((n :: ns).map Dat.int)) = some (.tuple ((n :: ns).map PyData.int)) := by
    rw [toPy, toPys_ints]; rfl
  have h2 := r1.dp e2
  obtain ⟨a1, xs, e1, s1, g1⟩ := r1.sqT
  subst e1
  refine ⟨a1, xs, n, ns, rfl, s1, g1.dps (toPys_ints _), k _ _ _ (Ex.refl md H) R (.int _) q⟩
/-! ### a tuple made by tuple(list), and kept as made: dict of it -/
abbrev pTup (ds : List Dat) : Dat := .fn 777 ds
theorem D.ptpE {lt : Nat → LT} {md : Addr → Md} {H : Hp} {v : V} {ds : List Dat} (h : D K lt md H v (pTup ds)) : ∃ a xs o, v = .ref a ∧ md a = .imm ∧ H a = some (.frz o (.tup xs)) ∧ o.dict = none ∧ DA K lt md H xs ds := by
  cases h with
  | fn hn => exact absurd hn (by decide)
  | ptp hm e z r => exact ⟨_, _, _, rfl, hm, e, z, r⟩
theorem D.ofPtp {lt : Nat → LT} {md : Addr → Md} {H : Hp} {v : V} {ds : List Dat} (h : D K lt md H v (pTup ds)) : D K lt md H v (.tup ds) := by
  obtain ⟨a, xs, o, rfl, hm, e, z, r⟩ := h.ptpE
  exact .tupF hm e r
theorem d_ptp (h : WE X B a δ fun d => ∃ ds, d = pTup ds ∧ Q (.tup ds)) : WE X B a δ Q := fun md σ H Qc R k => h md σ H Qc R fun v H1 d x R1 r ⟨ds, e, q⟩ => by
  subst e
  exact k v H1 _ x R1 r.ofPtp q
/-- tuple(list), its object as made -/
theorem call_tuplePt : CallR X (.type "tuple") (fun xs H Q => ∃ p ys, xs = [.ref p] ∧ SqL X.K H p ys ∧ ∀ (l : Addr) (o : Obj), o.dict = none → H l = none → Q (.ref l) (upd H l (.frz o (.tup ys)))) := by
  intro pins s σ H xs us Q I r h
  obtain ⟨p, ys, rfl, hq, q⟩ := h
  obtain ⟨u, rfl, rx⟩ := vals1 r
  cases rx
  obtain ⟨its, r', pl, hz⟩ := I.list hq
  have hlen := r'.length
  refine call_tuple_list pl.isList (fun h' kp => ?_) (by simp only [List.size_toArray] <;> omega)
  have I1 : Inv X pins σ H { s with heap := h' } := I.kept (t' := s.toks) kp
  have I2 : Inv X pins σ (upd H h'.objs.size (.frz { cls := .type "tuple", data := .seq its.toArray } (.tup ys))) { s with heap := h'.push { cls := .type "tuple", data := .seq its.toArray } } :=
    I1.laid (t' := s.toks) (fun b o e => Heap.get?_push_of_some _ e) (Nat.le_refl _) (show ObjOk X.prog X.w _ _ _ (.frz _ (.tup ys)) from ⟨Heap.get?_push_size _ rfl, hz, its, r', IsTup.new _ _⟩)
  exact ⟨.ref h'.objs.size, _, I2, rfl, q _ _ rfl (I1.hok.fresh (Nat.le_refl _))⟩
theorem d_tupleP (hm : X.mg "tuple" = none) (h : WE X B a δ fun d => ∃ ds, d = .lst ds ∧ Q (pTup ds)) (he : starEach [a] X.env = (false, eval a X.env) :: starEach [] X.env := by rfl) (hg : Gl X "tuple" := by rfl) : WE X B (.Call (.Name "tuple" p) [a] [] pos) δ Q := by
  refine d_callTy call_tuplePt hm boot_tuple (a_cons (h.mono fun d hd => a_nil ?_) he) hg (he := he)
  intro md σ H vs Qc R r k
  obtain ⟨v, ev, r1⟩ := r.one
  subst ev
  obtain ⟨ds, ed, q⟩ := hd
  subst ed
  obtain ⟨a1, xs, e1, s1, _, g1⟩ := r1.atL
  refine ⟨a1, xs, by rw [e1], SqL.of s1, fun l o ho hl => ?_⟩
  exact k _ _ _ (ex_new hl) (R.new hl) (.ptp (R.live.imm hl) upd_same ho (g1.mono (ex_new hl))) q
theorem pairs_us {h : Heap} : ∀ (prs : List (Key × Value)) (ps : List Addr), prs.length = ps.length → (∀ (j : Nat) (q : Key × Value), prs[j]? = some q → ∃ (b : Addr) (u : Value), ps[j]? = some b ∧ IsTup h b #[u, q.2] ∧ keyIs q.1 u = true) →
    ∃ us : List (Value × Value), us.length = prs.length ∧ ∀ (j : Nat) (k v : Value), us[j]? = some (k, v) → ∃ (b : Addr) (q : Key × Value), ps[j]? = some b ∧ prs[j]? = some q ∧ q.2 = v ∧ IsTup h b #[k, v] ∧ keyIs q.1 k = true
  | [], _, _, _ => ⟨[], rfl, fun j k v e => by simp at e⟩
  | q :: prs, ps, hl, hp => by
    cases ps with
    | nil => simp at hl
    | cons b ps =>
      obtain ⟨us, h1, h2⟩ := pairs_us prs ps (by simpa using hl) fun j q' e => by
        obtain ⟨b', u', e1, e2, e3⟩ := hp (j + 1) q' (by simpa using e)
        exact ⟨b', u', by simpa using e1, e2, e3⟩
      obtain ⟨b0, u0, e1, e2, e3⟩ := hp 0 q rfl
      refine ⟨(u0, q.2) :: us, by simp [h1], fun j k v e => ?_⟩
      cases j with
      | zero =>
        have e' : (u0, q.2) = (k, v) := Option.some.inj e
        cases e'
        exact ⟨b0, q, e1, rfl, rfl, e2, e3⟩
      | succ j =>
        obtain ⟨b', q', z⟩ := h2 j k v (by simpa using e)
        exact ⟨b', q', by simpa using z⟩
/-- dict(t) of a tuple of pairs -/
theorem call_dictT (hcalm : X.calm = true) : CallR X (.type "dict") (fun xs H Q => ∃ (a : Addr) (o : Obj) (ps : List Addr) (kvs : List (Key × V)), xs = [.ref a] ∧ H a = some (.frz o (.tup (ps.map V.ref))) ∧ o.dict = none ∧ Paired (fun p kv => SqT X.K H p [kV kv.1, kv.2]) ps kvs ∧
    ∀ p, H p = none → Q (.ref p) (upd H p (.dK (mergeK [] kvs)))) := by
  intro pins s σ H xs us Q I r q
  obtain ⟨a, o, ps, kvs, ex, hq, ho, hp, q⟩ := q
  subst ex
  obtain ⟨u, eu, rx⟩ := vals1 r
  subst eu
  cases rx
  obtain ⟨ho1, hz, its, rv, o', e1, e2, n, e3⟩ := (show s.heap.get? a = some o ∧ ObjOk X.prog X.w H s.heap a (.tup (ps.map V.ref)) from I.hok a _ hq)
  rw [ho1] at e1
  cases e1
  have ei := refs_at rv
  subst ei
  rw [List.length_map] at hz
  obtain ⟨prs, rel, hl, hpr⟩ := pairs_of I hp
  obtain ⟨us, hul, hu⟩ := pairs_us (h := s.heap) prs ps hl hpr
  refine PySem.call_dict_pairs (knd := mixKind X.prog X.w) (kvs := prs) (PairArg.tuple a (ps.map Value.ref).toArray (fun j => ps.getD j 0) us) (I.ok.hd hcalm) ⟨⟨o, n, ho1, e2, ho, e3⟩, by simp [hul, hl], fun j k v e => ?_⟩ ⟨hul.symm, fun j k v e => ?_⟩ (by rw [hul, hl]; exact hz) fun h' tk hd' k => ?_
  · obtain ⟨b, q, h1, h2, h3, h4, h5⟩ := hu j k v e
    have e4 : ps.getD j 0 = b := by simp [List.getD, h1]
    exact ⟨by simp [h1, e4], .inl (by show s.heap.IsTuple (ps.getD j 0) _; rw [e4]; exact h4)⟩
  · obtain ⟨b, q, h1, h2, h3, h4, h5⟩ := hu j k v e
    exact ⟨q.1, by rw [h2, ← h3], h5⟩
  · have hm : (s.heap.objs.size == sysModules) = false := beq_eq_false_iff_ne.mpr (Nat.ne_of_gt I.big)
    have hlen : (mergeK [] kvs).length ≤ sizeLine := by
      refine Nat.le_trans (length_mergeK kvs []) ?_
      rw [List.length_nil, Nat.zero_add, rel.length, hl]
      exact hz
    exact ⟨.ref s.heap.objs.size, upd H s.heap.objs.size (.dK (mergeK [] kvs)), I.laid (t' := tk) (fun b o e => k b o (by simp) e) (Nat.le_refl _) (show ObjOk X.prog X.w _ _ _ (.dK (mergeK [] kvs)) from ⟨hlen, hm, merged [] prs, KV.merge rel .nil, hd'⟩), rfl, q _ (I.hok.fresh (Nat.le_refl _))⟩
abbrev keyD : Key → Dat
  | .inl i => .int i
  | .inr s => .str s
theorem DA.pairs {lt : Nat → LT} {md : Addr → Md} {H : Hp} : ∀ {kvs : List (Key × Dat)} {xs : List V}, DA K lt md H xs (kvs.map fun kv => Dat.tup [keyD kv.1, kv.2]) →
    ∃ (ps : List Addr) (vs : List (Key × V)), xs = ps.map V.ref ∧ Paired (fun p kv => SqT K H p [kV kv.1, kv.2]) ps vs ∧ DK K lt md H vs kvs
  | [], xs, h => by
    cases h
    exact ⟨[], [], rfl, .nil, .nil⟩
  | (key, d) :: kvs, xs, h => by
    rw [List.map_cons] at h
    cases h with
    | cons h1 h2 =>
      obtain ⟨ps, vs, e, p, r⟩ := DA.pairs h2
      obtain ⟨a, ys, e1, s1, g1⟩ := h1.sqT
      obtain ⟨y1, y2, e2, g2, g3⟩ := g1.two
      subst e e1 e2
      refine ⟨a :: ps, (key, y2) :: vs, rfl, .cons ?_ p, .cons g3 r⟩
      cases key with
      | inl i => rw [g2.intE] at s1; exact s1
      | inr i => rw [g2.strE] at s1; exact s1
def mergeD (kvs more : List (Key × Dat)) : List (Key × Dat) := more.foldl (fun acc kv => putD acc kv.1 kv.2) kvs
theorem DK.merge {lt : Nat → LT} {md : Addr → Md} {H : Hp} : ∀ {more : List (Key × V)} {dm : List (Key × Dat)} {v : List (Key × V)} {d : List (Key × Dat)}, DK K lt md H more dm → DK K lt md H v d → DK K lt md H (mergeK v more) (mergeD d dm)
  | _, _, _, _, .nil, h => h
  | _, _, v, d, .cons h r, g => by
    unfold mergeK mergeD
    rw [List.foldl_cons, List.foldl_cons]
    exact DK.merge r (DK.put h g)
theorem mergeD_app : ∀ {more acc : List (Key × Dat)}, ((acc ++ more).map (·.1)).Nodup → mergeD acc more = acc ++ more
  | [], acc, _ => by rw [List.append_nil]; rfl
  | q :: r, acc, h => by
    have e : acc ++ q :: r = (acc ++ [q]) ++ r := by simp
    have hq : putD acc q.1 q.2 = acc ++ [q] := by
      unfold putD
      rw [if_neg]
      intro z
      obtain ⟨x, hx, he⟩ := List.any_eq_true.mp z
      have he := of_decide_eq_true he
      rw [List.map_append, List.nodup_append] at h
      exact h.2.2 x.1 (List.mem_map.mpr ⟨x, hx, rfl⟩) q.1 (by simp) he
    show mergeD (putD acc q.1 q.2) r = _
    rw [hq, e]
    exact mergeD_app (by rw [← e]; exact h)
theorem d_dict (hc : X.calm = true) (hm : X.mg "dict" = none) (h : WE X B a δ fun d => ∃ kvs : List (Key × Dat), d = pTup (kvs.map fun kv => Dat.tup [keyD kv.1, kv.2]) ∧ (kvs.map (·.1)).Nodup ∧ Q (.dct kvs)) (he : starEach [a] X.env = (false, eval a X.env) :: starEach [] X.env := by rfl) (hg : Gl X "dict" := by rfl) : WE X B (.Call (.Name "dict" p) [a] [] pos) δ Q := by
  refine d_callTy (call_dictT hc) hm boot_dict (a_cons (h.mono fun d hd => a_nil ?_) he) hg (he := he)
  intro md σ H vs Qc R r k
  obtain ⟨v, ev, r1⟩ := r.one
  subst ev
  obtain ⟨kvs, ed, hn, q⟩ := hd
  subst ed
  obtain ⟨a1, xs, o, e1, hm1, e2, ho, g1⟩ := r1.ptpE
  obtain ⟨ps, vs, e3, hp, g2⟩ := g1.pairs
  subst e1 e3
  refine ⟨a1, o, ps, vs, rfl, e2, ho, hp, fun p hp => ?_⟩
  have g3 := DK.merge g2 (.nil (K := X.K) (lt := B.lt) (md := md) (H := H))
  rw [mergeD_app (by simpa using hn), List.nil_append] at g3
  exact k _ _ _ (ex_new hp) (R.new hp) (.dct (R.live.imm hp) upd_same (DK.mono (ex_new hp) g3)) q
end
end DL

/-! DfL -/
set_option Elab.async false
set_option linter.all false
set_option maxRecDepth 100000
set_option maxHeartbeats 4000000
set_option pp.maxSteps 300
set_option pp.deepTerms false
namespace DL
open PySem PySem.Spec PyProof.Rows L2
open NdefX (NTab TabsN TabN)
open Mth
section
variable {W : Wd} {ad : Ads}
theorem _root_.L2.Room.u2 {k : Nat} {A : Around} (h : Room k A) : A.units + 2 < cLine := by have := h.un; omega
def dRaw (c : CalM) : Dat := .tup [dCyc c, pTup (c.chg.map dChg)]
def dRawO : Option CalM → Dat
  | none => .non
  | some c => dRaw c
abbrev dRaws (p : PrjM) : Dat := .tup ((o2l p.cals).map dRawO)
def dctF (p : PrjM) : List (Key × Dat) := [(.inr "names", dNames p.n), (.inr "horizon", nI p.hor), (.inr "machines", dNats p.mach), (.inr "stocks", dNats p.stock), (.inr "modes", dModes p), (.inr "calendars", dRaws p), (.inr "windows", dWins p), (.inr "families", dFams p),
  (.inr "lags", dLags p), (.inr "singles", dSingles p), (.inr "crew", dCrew p.crew), (.inr "asks", dAsks p.crew p.n), (.inr "overhead", nI p.overhead), (.inr "late", dLate p)]
abbrev dDct (p : PrjM) : Dat := .dct (dctF p)
theorem raw_none {o : Option CalM} (h : isNon (dRawO o) = true) : o = none := by
  cases o with
  | none => rfl
  | some c => simp [dRawO, dRaw, isNon] at h
theorem raw_some {o : Option CalM} (h : ¬ isNon (dRawO o) = true) : ∃ c, o = some c := by
  cases o with
  | none => simp [dRawO, isNon] at h
  | some c => exact ⟨c, rfl⟩
theorem fam_zero {p : PrjM} (ok : OkP p) (h : ¬ (!((o2l p.fams).map nI).isEmpty) = true) {i : Nat} : famOf p i = 0 := by
  unfold famOf
  cases e : p.fams with
  | none => rfl
  | some l =>
    have := (ok.fams l e).1
    have := ok.n1
    rw [e] at h
    cases l with
    | nil => simp at *
    | cons x r => simp [o2l] at h
def S__law_setup : Sc := fun ds Q => ∃ (p : PrjM) (a b : Nat), ds = [dDct p, nI a, nI b] ∧ OkP p ∧ a < p.n ∧ b < p.n ∧ Q (nI (setup p a b p.singles))
set_option maxHeartbeats 8000000 in
theorem c__law_setup (G : Gl0 W ad) : CalD W 1 "_law_setup" S__law_setup [] := by
  refine cal_of (N := ["_law_p", "_law_one_here", "_law_other", "_law_families_so", "_law_members", "_law_table"]) (ps := ["_law_p", "_law_one_here", "_law_other"]) G.d__law_setup (by decide +kernel) (fun _ _ _ _ _ _ us hl => match us, hl with | [_, _, _], _ => rfl) (fun ds Q hS => by obtain ⟨p, a, b, rfl, ok, ha, hb, q⟩ := hS; rfl) fun f cdv A outer s H E md0 ds Q hr hS => ?_
  obtain ⟨p, a, b, rfl, ok, ha, hb, q⟩ := hS
  have HN : (["_law_p", "_law_one_here", "_law_other", "_law_families_so", "_law_members", "_law_table"] : List Str).Nodup := by decide
  have n1 := ok.n1
  have n3 := ok.n3
  have hsl := ok.sl
  refine s_cons (s_set 3 ?_ HN)
  refine WE.mono (Q := fun d => ∃ fl : List Nat, d = .tup (fl.map nI) ∧ ∀ i : Nat, i < p.n → atI (fl.map nI) (i : Int) = some (nI (famOf p i))) ?_ (fun d hd => ?_)
  · refine d_ifE ?_
    refine t_ne0 hr.u0 ?_
    refine d_dsub hr.u1 ?_ (fun _ _ => rfl)
    refine d_name 0 rfl ?_
    refine d_str ?_
    refine ⟨_, rfl, _, rfl, ?_⟩
    refine d_tup ?_
    refine a_nil ⟨by simp, ?_⟩
    refine ⟨_, .inl ⟨rfl, rfl⟩, ?_⟩
    refine if_x (fun h1 => ?_) (fun h1 => ?_)
    · refine d_dsub hr.u1 ?_ (fun _ _ => rfl)
      refine d_name 0 rfl ?_
      refine d_str ?_
      refine ⟨_, rfl, _, rfl, ?_⟩
      exact ⟨famL p, by rw [← fam_some h1], fun i hi => famL_at ok hi⟩
    · refine d_mul ?_
      refine d_tup ?_
      refine a_cons ?_
      refine d_int ?_
      refine a_nil ⟨by simp, ?_⟩
      refine d_int ?_
      refine ⟨by simp, by omega, by omega, by simp, ?_⟩
      exact ⟨[0, 0, 0, 0, 0], rfl, fun i hi => by rw [at_map 0 (by show i < 5; omega), fam_zero ok h1]; match i, hi with | 0, _ => rfl | 1, _ => rfl | 2, _ => rfl | (n + 3), hi => omega⟩
  obtain ⟨fl, rfl, hfl⟩ := hd
  refine s_cons (s_for rfl ?_)
  refine i_seq ?_
  refine d_dsub hr.u1 ?_ (fun _ _ => rfl)
  refine d_name 0 rfl ?_
  refine d_str ?_
  refine ⟨_, rfl, _, rfl, ?_⟩
  refine ⟨fun i δ => ∃ s4 s5, δ = [.d (dDct p), .d (nI a), .d (nI b), .d (.tup (fl.map nI)), s4, s5] ∧ setup p a b p.singles = setup p a b (p.singles.drop i), ⟨_, _, rfl, rfl⟩, fun i δ _ _ => trivial, fun i d δ ed hI => ?_, fun δ hI => ?_⟩
  · obtain ⟨s4, s5, rfl, hset⟩ := hI
    obtain ⟨sg, esg, rfl⟩ := map_get ed
    have hS := ok.singles sg (List.mem_of_getElem? esg)
    rw [setup_drop esg] at hset
    refine g_tup (n := 2) rfl ⟨rfl, ?_⟩
    refine g_cons ?_
    refine g_name 4 ?_ HN
    refine g_cons ?_
    refine g_name 5 ?_ HN
    refine g_nil ?_
    refine s_one (s_if ?_)
    refine t_bool ?_
    refine w_and ?_
    refine t_in hr.u65 ?_
    refine d_name 1 rfl ?_
    refine d_name 4 rfl ?_
    refine .inl ⟨_, .inr rfl, rfl, fl_nats, ?_⟩
    rw [any_nats]
    refine if_x (fun h7 => ?_) (fun h7 => ?_)
    · refine w_and1 ?_
      refine t_in hr.u65 ?_
      refine d_name 2 rfl ?_
      refine d_name 4 rfl ?_
      refine .inl ⟨_, .inr rfl, rfl, fl_nats, ?_⟩
      rw [any_nats]
      refine if_x (fun h9 => ?_) (fun h9 => ?_)
      · have hin := And.intro (of_decide_eq_true h7) (of_decide_eq_true h9)
        rw [if_pos hin] at hset
        refine s_one (s_ret ?_)
        refine d_sub ?_
        refine d_sub ?_
        refine d_name 5 rfl ?_
        refine d_sub ?_
        refine d_name 3 rfl ?_
        refine d_name 1 rfl ?_
        refine ⟨_, hfl a ha, ?_⟩
        have hfa := fam_lt (p := p) a
        have hfb := fam_lt (p := p) b
        have hla : famOf p a < sg.2.length := by rw [hS.sq]; omega
        refine ⟨_, at_map [] hla, ?_⟩
        refine d_sub ?_
        refine d_name 3 rfl ?_
        refine d_name 2 rfl ?_
        refine ⟨_, hfl b hb, ?_⟩
        have hrw := hS.row _ (List.mem_of_getElem? (getD_get (d := []) hla))
        refine ⟨_, at_map 0 (by rw [hrw.1]; omega), ?_⟩
        rw [hset] at q
        exact q
      · rw [if_neg (fun z => h9 (decide_eq_true z.2))] at hset
        refine s_nil ?_
        exact ⟨_, _, rfl, hset⟩
    · rw [if_neg (fun z => h7 (decide_eq_true z.1))] at hset
      refine if_f (by decide) ?_
      refine s_nil ?_
      exact ⟨_, _, rfl, hset⟩
  · obtain ⟨s4, s5, rfl, hset⟩ := hI
    rw [List.length_map, List.drop_length] at hset
    refine s_one (s_ret ?_)
    refine d_int ?_
    rw [hset] at q
    exact q
end
end DL

/-! DfM -/
set_option Elab.async false
set_option linter.all false
set_option maxRecDepth 100000
set_option maxHeartbeats 4000000
set_option pp.maxSteps 300
set_option pp.deepTerms false
namespace DL
open PySem PySem.Spec PyProof.Rows L2
open NdefX (NTab TabsN TabN)
open Mth
section
variable {W : Wd} {ad : Ads}
abbrev kvC (c : CalM) : List (Key × Dat) := c.chg.map fun p => (Sum.inl p.1, Dat.bl p.2)
theorem chg_pair {c : CalM} : c.chg.map dChg = (kvC c).map fun kv => Dat.tup [keyD kv.1, kv.2] := by
  rw [List.map_map]; rfl
theorem asc_nodup {m : Int} : ∀ {l : List (Int × Bool)}, ascC m l → ((l.map fun p => ((Sum.inl p.1 : Key), Dat.bl p.2)).map (·.1)).Nodup
  | [], _ => List.nodup_nil
  | p :: r, h => by
    rw [List.map_cons, List.map_cons, List.nodup_cons]
    refine ⟨fun z => ?_, asc_nodup h.2⟩
    obtain ⟨q, hq, e⟩ := List.mem_map.mp z
    obtain ⟨x, hx, rfl⟩ := List.mem_map.mp hq
    have := asc_gt h.2 x hx
    have e2 : x.1 = p.1 := by simpa using e
    omega
theorem look_get {c : CalM} {t : Nat} : (dval (kvC c) (.inl (t : Int))).getD (.bl (pl c t)) = .bl (wk c t) := by
  unfold wk
  have go : ∀ l : List (Int × Bool), dval (l.map fun p => ((Sum.inl p.1 : Key), Dat.bl p.2)) (.inl (t : Int)) = (look l t).map Dat.bl := by
    intro l
    induction l with
    | nil => rfl
    | cons p r ih =>
      unfold dval at ih ⊢
      rw [List.map_cons, List.find?_cons]
      unfold look
      by_cases e : p.1 = (t : Int)
      · simp [e]
      · simp only [e, if_false]
        rw [show decide ((Sum.inl p.1 : Key) = Sum.inl (t : Int)) = false from decide_eq_false (by simpa using e)]
        exact ih
  rw [go]
  cases look c.chg t <;> rfl
theorem range60 {b : Nat} : rangeD (b : Int) ((b : Int) + 60 - b).toNat = (rangeN b 60).map nI := by
  have e : ((b : Int) + 60 - b).toNat = 60 := by omega
  rw [e]
  unfold rangeD rangeN
  rw [List.map_map]
  rfl
theorem rangeN_get {b n i z : Nat} (h : (rangeN b n)[i]? = some z) : z = b + i ∧ i < n := by
  unfold rangeN at h
  rw [List.getElem?_map] at h
  obtain ⟨y, hy, rfl⟩ := Option.map_eq_some_iff.mp h
  obtain ⟨h1, h2⟩ := List.getElem?_eq_some_iff.mp hy
  rw [List.length_range] at h1
  rw [List.getElem_range] at h2
  omega
theorem scan_step {c : CalM} {b i l : Nat} (h : i < 60) : scan c (60 - i) (b + i) l = if wk c (b + i) = true then (if l = 1 then b + i + 1 else scan c (60 - (i + 1)) (b + (i + 1)) (l - 1)) else scan c (60 - (i + 1)) (b + (i + 1)) l := by
  obtain ⟨k, hk⟩ : ∃ k, 60 - i = k + 1 := ⟨60 - (i + 1), by omega⟩
  have hk2 : 60 - (i + 1) = k := by omega
  rw [hk, hk2]
  rfl
theorem cals_some {p : PrjM} (h : (!((o2l p.cals).map dRawO).isEmpty) = true) : ∃ l, p.cals = some l := by
  cases e : p.cals with
  | none => rw [e] at h; simp [o2l] at h
  | some l => exact ⟨l, rfl⟩
theorem cals_none {p : PrjM} (ok : OkP p) {a : Nat} (h : ¬ (!((o2l p.cals).map dRawO).isEmpty) = true) : calOf p a = none := by
  unfold calOf
  cases e : p.cals with
  | none => rfl
  | some l =>
    have := (ok.cals l e).1
    have := ok.n1
    rw [e] at h
    cases l with
    | nil => simp at *
    | cons x r => simp [o2l] at h
theorem raw_at {p : PrjM} {cl : List (Option CalM)} (e : p.cals = some cl) {a : Nat} (h : a < cl.length) : atI ((o2l p.cals).map dRawO) (a : Int) = some (dRawO (calOf p a)) := by
  have e2 : calOf p a = cl.getD a none := by unfold calOf; rw [e]
  rw [e2, e]
  exact at_map none h
def S__law_end : Sc := fun ds Q => ∃ (p : PrjM) (ch : List Nat) (a b : Nat), ds = [dDct p, dNats ch, nI a, nI b] ∧ OkP p ∧ OkCh p ch ∧ a < p.n ∧ b ≤ 1000 ∧ Q (dOpt (eA p ch a b))
set_option maxHeartbeats 8000000 in
theorem c__law_end (G : Gl0 W ad) : CalD W 2 "_law_end" S__law_end [] := by
  refine cal_of (N := ["_law_p", "_law_chosen", "_law_a", "_law_begin", "_law_left", "_law_one_here", "_law_slot", "_law_planned_so", "_law_known"]) (ps := ["_law_p", "_law_chosen", "_law_a", "_law_begin"]) G.d__law_end (by decide +kernel) (fun _ _ _ _ _ _ us hl => match us, hl with | [_, _, _, _], _ => rfl) (fun ds Q hS => by obtain ⟨p, ch, a, b, rfl, ok, okc, ha, hb, q⟩ := hS; rfl) fun f cdv A outer s H E md0 ds Q hr hS => ?_
  obtain ⟨p, ch, a, b, rfl, ok, okc, ha, hb, q⟩ := hS
  have HN : (["_law_p", "_law_chosen", "_law_a", "_law_begin", "_law_left", "_law_one_here", "_law_slot", "_law_planned_so", "_law_known"] : List Str).Nodup := by decide
  have n1 := ok.n1
  have n3 := ok.n3
  have h3 := wrk_le ok (ch := ch) a
  refine s_cons (s_set 4 ?_ HN)
  refine WE.mono (Q := fun d => d = nI (wrk p ch a)) ?_ (fun d hd => ?_)
  · refine d_sub ?_
    refine d_sub ?_
    refine d_sub ?_
    refine d_dsub hr.u1 ?_ (fun _ _ => rfl)
    refine d_name 0 rfl ?_
    refine d_str ?_
    refine ⟨_, rfl, _, rfl, ?_⟩
    refine d_name 2 rfl ?_
    refine ⟨_, at_map [] (by rw [ok.modes.1]; exact ha), ?_⟩
    refine d_sub ?_
    refine d_name 1 rfl ?_
    refine d_name 2 rfl ?_
    refine ⟨_, at_map 0 (by rw [okc.len]; exact ha), ?_⟩
    refine ⟨_, at_map mode0 (ch_lt okc ha), ?_⟩
    refine d_int ?_
    refine ⟨_, rfl, ?_⟩
    rfl
  subst hd
  refine s_cons (s_set 5 ?_ HN)
  refine WE.mono (Q := fun d => d = dRawO (calOf p a)) ?_ (fun d hd => ?_)
  · refine d_ifE ?_
    refine t_ne0 hr.u0 ?_
    refine d_dsub hr.u1 ?_ (fun _ _ => rfl)
    refine d_name 0 rfl ?_
    refine d_str ?_
    refine ⟨_, rfl, _, rfl, ?_⟩
    refine d_tup ?_
    refine a_nil ⟨by simp, ?_⟩
    refine ⟨_, .inl ⟨rfl, rfl⟩, ?_⟩
    refine if_x (fun h6 => ?_) (fun h6 => ?_)
    · obtain ⟨cl, ecl⟩ := cals_some h6
      have hcl := (ok.cals cl ecl).1
      refine d_sub ?_
      refine d_dsub hr.u1 ?_ (fun _ _ => rfl)
      refine d_name 0 rfl ?_
      refine d_str ?_
      refine ⟨_, rfl, _, rfl, ?_⟩
      refine d_name 2 rfl ?_
      refine ⟨_, raw_at ecl (by omega), ?_⟩
      rfl
    · refine d_non ?_
      rw [cals_none ok h6]
      rfl
  subst hd
  unfold eA at q
  refine s_cons (s_if ?_)
  refine t_bool ?_
  refine w_or ?_
  refine t_isN ?_
  refine d_name 5 rfl ?_
  refine if_x (fun h10 => ?_) (fun h10 => ?_)
  · have ec := raw_none h10
    rw [ec] at q
    refine if_t (rfl) ?_
    refine s_one (s_ret ?_)
    refine d_add ?_
    refine d_name 3 rfl ?_
    refine d_name 4 rfl ?_
    exact q_to (congrArg Dat.int (by omega)) q
  · obtain ⟨c, ec⟩ := raw_some h10
    rw [ec] at q ⊢
    have q : Q (dOpt (endC c b (wrk p ch a))) := q
    have okC := calOf_ok ok ec
    refine w_or1 ?_
    refine t_eq hr.u64 ?_
    refine d_name 4 rfl ?_
    refine d_int ?_
    refine .inl ⟨_, rfl, ?_⟩
    refine if_x (fun h14 => ?_) (fun h14 => ?_)
    · have e0 : wrk p ch a = 0 := by simpa using h14
      have q' : Q (nI b) := by
        unfold endC at q
        rw [if_pos e0] at q
        exact q
      refine s_one (s_ret ?_)
      refine d_add ?_
      refine d_name 3 rfl ?_
      refine d_name 4 rfl ?_
      exact q_to (congrArg Dat.int (by omega)) q'
    · have e0 : wrk p ch a ≠ 0 := by simpa using h14
      unfold endC at q
      rw [if_neg e0] at q
      refine s_nil ?_
      refine s_cons (s_par 7 8 rfl HN ?_)
      refine d_sub ?_
      refine d_name 5 rfl ?_
      refine d_int ?_
      refine ⟨_, rfl, ?_⟩
      refine d_dict rfl G.b_dict ?_
      refine d_sub ?_
      refine d_name 5 rfl ?_
      refine d_int ?_
      refine ⟨_, rfl, ?_⟩
      refine ⟨kvC c, by rw [← chg_pair], asc_nodup okC.asc, ?_⟩
      refine s_cons (s_for rfl ?_)
      refine i_range2 G.b_range ?_
      refine d_name 3 rfl ?_
      refine d_add ?_
      refine d_name 3 rfl ?_
      refine d_int ?_
      refine ⟨_, _, rfl, rfl, ⟨by omega, by omega, by omega, by omega⟩, ?_⟩
      rw [range60]
      refine ⟨fun i δ => ∃ (l : Nat) (li : Int) (s6 : Sl), δ = [.d (dDct p), .d (dNats ch), .d (nI a), .d (nI b), .d (.int li), .d (dRawO (some c)), s6, .d (dCyc c), .d (.dct (kvC c))] ∧ li = l ∧ 1 ≤ l ∧ (i = 0 ∨ wk c b = true) ∧ scan c (60 - i) (b + i) l = scan c 60 b (wrk p ch a), ⟨wrk p ch a, _, _, rfl, rfl, by omega, .inl rfl, rfl⟩, fun i δ _ _ => trivial, fun i d δ ed hI => ?_, fun δ hI => ?_⟩
      · obtain ⟨l, li, s6, rfl, hli, hl, hw, hsc⟩ := hI
        obtain ⟨z, ez, rfl⟩ := map_get ed
        obtain ⟨rfl, hi⟩ := rangeN_get ez
        rw [scan_step hi] at hsc
        have l1 := okC.l1
        refine g_name 6 ?_ HN
        refine s_cons (s_if ?_)
        refine t_val ?_
        refine d_dget2 hr.u1 ⟨rfl, rfl, rfl, rfl⟩ ?_
        refine d_name 8 rfl ?_
        refine ⟨⟨_, rfl⟩, ?_⟩
        refine d_name 6 rfl ?_
        refine d_sub ?_
        refine d_name 7 rfl ?_
        refine d_mod ?_
        refine d_int1 G.b_int ?_
        refine d_name 6 rfl ?_
        refine d_len G.b_len ?_
        refine d_name 7 rfl ?_
        refine ⟨by rw [List.length_map]; omega, ?_⟩
        refine ⟨_, (atI_mapN (Int.emod_nonneg _ (by have hlen : (c.cyc.map Dat.bl).length = c.cyc.length := List.length_map ..; omega)) (by rw [show ((((b + i : Nat) : Int)) % ((c.cyc.map Dat.bl).length : Int)).toNat = (b + i) % c.cyc.length from by rw [List.length_map]; rfl]; exact getD_get (d := false) (Nat.mod_lt _ (by omega)))), ?_⟩
        refine ⟨_, rfl, ?_⟩
        refine q_to (look_get (c := c) (t := b + i)) ?_
        refine q_b ?_
        refine if_x (fun h25 => ?_) (fun h25 => ?_)
        · rw [if_pos h25] at hsc
          have hwb : wk c b = true := by
            rcases hw with rfl | hw
            · exact h25
            · exact hw
          refine s_one (s_set 4 ?_ HN)
          refine d_sub2 ?_
          refine d_name 4 rfl ?_
          refine d_int ?_
          refine ⟨trivial, ?_⟩
          refine s_one (s_if ?_)
          refine t_eq hr.u64 ?_
          refine d_name 4 rfl ?_
          refine d_int ?_
          refine .inl ⟨_, rfl, ?_⟩
          refine if_x (fun h27 => ?_) (fun h27 => ?_)
          · have e1 : l = 1 := by simp at h27; omega
            rw [if_pos e1] at hsc
            rw [if_pos hwb, ← hsc] at q
            refine s_one (s_ret ?_)
            refine d_add ?_
            refine d_name 6 rfl ?_
            refine d_int ?_
            exact q_to (congrArg Dat.int (by omega)) q
          · have e1 : l ≠ 1 := by simp at h27; omega
            rw [if_neg e1] at hsc
            refine s_nil ?_
            exact ⟨l - 1, _, _, rfl, by omega, by omega, .inr hwb, hsc⟩
        · rw [if_neg h25] at hsc
          refine s_one (s_if ?_)
          refine t_eq hr.u64 ?_
          refine d_name 6 rfl ?_
          refine d_name 3 rfl ?_
          refine .inl ⟨_, rfl, ?_⟩
          refine if_x (fun h32 => ?_) (fun h32 => ?_)
          · have e0 : i = 0 := by simp at h32; omega
            subst e0
            rw [if_neg (show ¬ wk c b = true from h25)] at q
            refine s_one (s_ret ?_)
            refine d_non ?_
            exact q
          · have hi0 : i ≠ 0 := by simp at h32; omega
            refine s_nil ?_
            refine s_one (s_if ?_)
            refine t_eq hr.u64 ?_
            refine d_name 4 rfl ?_
            refine d_int ?_
            refine .inl ⟨_, rfl, ?_⟩
            refine if_f (by simp; omega) ?_
            refine s_nil ?_
            exact ⟨l, li, _, rfl, hli, hl, .inr (hw.resolve_left hi0), hsc⟩
      · obtain ⟨l, li, s6, rfl, hli, hl, hw, hsc⟩ := hI
        have hlen : (List.map nI (rangeN b 60)).length = 60 := by unfold rangeN; simp
        rw [hlen] at hw hsc
        refine s_one (s_ret ?_)
        refine d_int ?_
        rw [if_pos (hw.resolve_left (by decide)), ← hsc] at q
        exact q_to rfl q
end
end DL

/-! DfN -/
set_option Elab.async false
set_option linter.all false
set_option maxRecDepth 100000
set_option maxHeartbeats 4000000
set_option pp.maxSteps 300
set_option pp.deepTerms false
namespace DL
open PySem PySem.Spec PyProof.Rows L2
open NdefX (NTab TabsN TabN)
open Mth
section
variable {W : Wd} {ad : Ads}
theorem word_t {w : Bool} (h : (word w == "start") = true) : w = true := by cases w with | true => rfl | false => exact absurd h (by decide)
theorem word_f {w : Bool} (h : ¬ (word w == "start") = true) : w = false := by cases w with | false => rfl | true => exact absurd (by decide) h
def S__law_event : Sc := fun ds Q => ∃ (p : PrjM) (ch : List Nat) (a b : Nat) (w : Bool), ds = [dDct p, dNats ch, dWord w, nI a, nI b] ∧ OkP p ∧ OkCh p ch ∧ a < p.n ∧ b ≤ 1000 ∧ Q (dOpt (evA p ch a w b))
set_option maxHeartbeats 8000000 in
theorem c__law_event (G : Gl0 W ad) : CalD W 3 "_law_event" S__law_event [] := by
  refine cal_of (N := ["_law_p", "_law_chosen", "_law_word", "_law_a", "_law_begin"]) (ps := ["_law_p", "_law_chosen", "_law_word", "_law_a", "_law_begin"]) G.d__law_event (by decide +kernel) (fun _ _ _ _ _ _ us hl => match us, hl with | [_, _, _, _, _], _ => rfl) (fun ds Q hS => by obtain ⟨p, ch, a, b, w, rfl, ok, okc, ha, hb, q⟩ := hS; rfl) fun f cdv A outer s H E md0 ds Q hr hS => ?_
  obtain ⟨p, ch, a, b, w, rfl, ok, okc, ha, hb, q⟩ := hS
  have HN : (["_law_p", "_law_chosen", "_law_word", "_law_a", "_law_begin"] : List Str).Nodup := by decide
  refine s_one (s_ret ?_)
  refine d_ifE ?_
  refine t_eq hr.u64 ?_
  refine d_name 2 rfl ?_
  refine d_str ?_
  refine .inl ⟨_, rfl, ?_⟩
  refine if_x (fun h2 => ?_) (fun h2 => ?_)
  · have ew := word_t h2
    subst ew
    refine d_name 4 rfl ?_
    exact q
  · have ew := word_f h2
    subst ew
    refine d_call (c__law_end G) hr ?_
    refine a_cons ?_
    refine d_name 0 rfl ?_
    refine a_cons ?_
    refine d_name 1 rfl ?_
    refine a_cons ?_
    refine d_name 3 rfl ?_
    refine a_cons ?_
    refine d_name 4 rfl ?_
    refine a_nil ⟨p, ch, a, b, rfl, ok, okc, ha, hb, ?_⟩
    exact q
def S__law_lag_kept : Sc := fun ds Q => ∃ (p : PrjM) (ch : List Nat) (l : LagM) (s t x y : Nat), ds = [dDct p, dNats ch, dLag l, nI s, nI t] ∧ OkP p ∧ OkCh p ch ∧ OkL p.n l ∧ s ≤ 1000 ∧ t ≤ 1000 ∧ evA p ch l.first l.one s = some x ∧ evA p ch l.second l.oth t = some y ∧ Q (.bl (lagKept p ch l s t))
set_option maxHeartbeats 8000000 in
theorem c__law_lag_kept (G : Gl0 W ad) : CalD W 4 "_law_lag_kept" S__law_lag_kept [] := by
  refine cal_of (N := ["_law_p", "_law_chosen", "_law_lag", "_law_first", "_law_second", "_law_gap"]) (ps := ["_law_p", "_law_chosen", "_law_lag", "_law_first", "_law_second"]) G.d__law_lag_kept (by decide +kernel) (fun _ _ _ _ _ _ us hl => match us, hl with | [_, _, _, _, _], _ => rfl) (fun ds Q hS => by obtain ⟨p, ch, l, st, lt, x, y, rfl, ok, okc, okl, hs, ht, hx, hy, q⟩ := hS; rfl) fun f cdv A outer s H E md0 ds Q hr hS => ?_
  obtain ⟨p, ch, l, st, lt, x, y, rfl, ok, okc, okl, hs, ht, hx, hy, q⟩ := hS
  have HN : (["_law_p", "_law_chosen", "_law_lag", "_law_first", "_law_second", "_law_gap"] : List Str).Nodup := by decide
  refine s_cons (s_set 5 ?_ HN)
  refine d_sub2 ?_
  refine d_call (c__law_event G) hr ?_
  refine a_cons ?_
  refine d_name 0 rfl ?_
  refine a_cons ?_
  refine d_name 1 rfl ?_
  refine a_cons ?_
  refine d_sub ?_
  refine d_name 2 rfl ?_
  refine d_int ?_
  refine ⟨_, rfl, ?_⟩
  refine a_cons ?_
  refine d_sub ?_
  refine d_name 2 rfl ?_
  refine d_int ?_
  refine ⟨_, rfl, ?_⟩
  refine a_cons ?_
  refine d_name 4 rfl ?_
  refine a_nil ⟨p, ch, l.second, lt, l.oth, rfl, ok, okc, okl.second, ht, ?_⟩
  rw [hy]
  refine d_call (c__law_event G) hr ?_
  refine a_cons ?_
  refine d_name 0 rfl ?_
  refine a_cons ?_
  refine d_name 1 rfl ?_
  refine a_cons ?_
  refine d_sub ?_
  refine d_name 2 rfl ?_
  refine d_int ?_
  refine ⟨_, rfl, ?_⟩
  refine a_cons ?_
  refine d_sub ?_
  refine d_name 2 rfl ?_
  refine d_int ?_
  refine ⟨_, rfl, ?_⟩
  refine a_cons ?_
  refine d_name 3 rfl ?_
  refine a_nil ⟨p, ch, l.first, st, l.one, rfl, ok, okc, okl.first, hs, ?_⟩
  rw [hx]
  refine ⟨trivial, ?_⟩
  unfold lagKept at q
  rw [hx, hy] at q
  have q : Q (.bl (decide (l.low ≤ (y : Int) - x) && hiOk l.high ((y : Int) - x))) := q
  refine s_one (s_ret ?_)
  refine d_and ?_
  refine d_le ?_
  refine d_sub ?_
  refine d_name 2 rfl ?_
  refine d_int ?_
  refine ⟨_, rfl, ?_⟩
  refine d_name 5 rfl ?_
  refine ⟨trivial, ?_⟩
  refine q_b (if_x (fun h8 => ?_) (fun h8 => ?_))
  · rw [h8, Bool.true_and] at q
    refine d_one ?_
    refine d_or ?_
    refine d_isN ?_
    refine d_sub ?_
    refine d_name 2 rfl ?_
    refine d_int ?_
    refine ⟨_, rfl, ?_⟩
    refine q_b (if_x (fun h10 => ?_) (fun h10 => ?_))
    · have eh := oi_none (by simpa using h10)
      rw [eh] at q
      exact q
    · obtain ⟨hv, eh⟩ := oi_some (by simpa using h10)
      rw [eh] at q
      refine d_one ?_
      refine d_le ?_
      refine d_name 5 rfl ?_
      refine d_sub ?_
      refine d_name 2 rfl ?_
      refine d_int ?_
      refine ⟨_, (show atI [dWord l.one, nI l.first, dWord l.oth, nI l.second, Dat.int l.low, dOI l.high] 5 = some (Dat.int hv) from by rw [eh]; rfl), ?_⟩
      refine ⟨trivial, ?_⟩
      exact q
  · have h8 := eq_false_of_ne_true h8
    rw [h8, Bool.false_and] at q
    exact q
end
end DL

/-! DfO -/
set_option Elab.async false
set_option linter.all false
set_option maxRecDepth 100000
set_option maxHeartbeats 4000000
set_option pp.maxSteps 300
set_option pp.deepTerms false
namespace DL
open PySem PySem.Spec PyProof.Rows L2
open NdefX (NTab TabsN TabN)
open Mth
section
variable {W : Wd} {ad : Ads}
theorem win_at {p : PrjM} (ok : OkP p) {a : Nat} (ha : a < p.n) (h : (!((o2l p.wins).map dWin).isEmpty) = true) : atI ((o2l p.wins).map dWin) (a : Int) = some (dWin (winOf p a)) := by
  cases e : p.wins with
  | none => rw [e] at h; simp [o2l] at h
  | some l =>
    have hl := (ok.wins l e).1
    unfold winOf
    rw [e]
    exact at_map (0, none) (by show a < l.length; omega)
theorem win_none {p : PrjM} (ok : OkP p) {a : Nat} (h : ¬ (!((o2l p.wins).map dWin).isEmpty) = true) : winOf p a = (0, none) := by
  unfold winOf
  cases e : p.wins with
  | none => rfl
  | some l =>
    have := (ok.wins l e).1
    have := ok.n1
    rw [e] at h
    cases l with
    | nil => simp at *
    | cons x r => simp [o2l] at h
theorem lim_none {p : PrjM} {a : Nat} (h : (winOf p a).2 = none) : limN p a none = p.hor := by unfold limN; rw [h]
theorem lim_some {p : PrjM} {a d : Nat} (h : (winOf p a).2 = some d) : limN p a none = min p.hor d := by unfold limN; rw [h]
theorem bad_none {α : Type} {l : List α} {f : α → Bool} {g : α → Dat} : ((l.filter fun q => !f q).map g).isEmpty = l.all f := by
  induction l with
  | nil => rfl
  | cons x r ih =>
    rw [List.all_cons, List.filter_cons]
    cases h : f x with
    | true => simpa using ih
    | false => simp
theorem add_len {fl : List Nat} {x : Nat} {b : Bool} (h : fl.length ≤ 7) : (fl.map nI).length + (List.replicate (if b = true then (1 : Int) else 0).toNat [nI x]).flatten.length ≤ 1000 := by
  rw [len_rep, List.length_map, List.length_singleton]
  cases b
  · rw [if_neg (by decide)]; simp; omega
  · rw [if_pos rfl]; simp; omega
def S__law_possible : Sc := fun ds Q => ∃ (p : PrjM) (ch : List Nat) (a : Nat), ds = [dDct p, dNats ch, nI a, .non] ∧ OkP p ∧ OkCh p ch ∧ a < p.n ∧ Q (.lst ((poss p ch a none).map nI))
set_option maxHeartbeats 8000000 in
theorem c__law_possible (G : Gl0 W ad) : CalD W 5 "_law_possible" S__law_possible [] := by
  refine cal_of (N := ["_law_p", "_law_chosen", "_law_a", "_law_bound", "_law_window", "_law_last", "_law_begin", "_law_own", "_law_found", "_law_end_here", "_law_bad", "_law_lag"]) (ps := ["_law_p", "_law_chosen", "_law_a", "_law_bound"]) G.d__law_possible (by decide +kernel) (fun _ _ _ _ _ _ us hl => match us, hl with | [_, _, _, _], _ => rfl) (fun ds Q hS => by obtain ⟨p, ch, a, rfl, ok, okc, ha, q⟩ := hS; rfl) fun f cdv A outer s H E md0 ds Q hr hS => ?_
  obtain ⟨p, ch, a, rfl, ok, okc, ha, q⟩ := hS
  have HN : (["_law_p", "_law_chosen", "_law_a", "_law_bound", "_law_window", "_law_last", "_law_begin", "_law_own", "_law_found", "_law_end_here", "_law_bad", "_law_lag"] : List Str).Nodup := by decide
  have h6 := ok.h6
  have hw3 := win_le ok a
  have hlh := limN_hor (p := p) (a := a) (m := none)
  have hll := ok.lags.1
  have hol : (ownLags p a).length ≤ 4 := Nat.le_trans (List.length_filter_le _ _) hll
  have hrl : (rangeN (winOf p a).1 (limN p a none + 1 - (winOf p a).1)).length ≤ 7 := by unfold rangeN; rw [List.length_map, List.length_range]; omega
  refine s_cons (s_set 4 ?_ HN)
  refine WE.mono (Q := fun d => d = dWin (winOf p a)) ?_ (fun d hd => ?_)
  · refine d_ifE ?_
    refine t_ne0 hr.u0 ?_
    refine d_dsub hr.u1 ?_ (fun _ _ => rfl)
    refine d_name 0 rfl ?_
    refine d_str ?_
    refine ⟨_, rfl, _, rfl, ?_⟩
    refine d_tup ?_
    refine a_nil ⟨by simp, ?_⟩
    refine ⟨_, .inl ⟨rfl, rfl⟩, ?_⟩
    refine if_x (fun h1 => ?_) (fun h1 => ?_)
    · refine d_sub ?_
      refine d_dsub hr.u1 ?_ (fun _ _ => rfl)
      refine d_name 0 rfl ?_
      refine d_str ?_
      refine ⟨_, rfl, _, rfl, ?_⟩
      refine d_name 2 rfl ?_
      refine ⟨_, win_at ok ha h1, ?_⟩
      rfl
    · refine d_tup ?_
      refine a_cons ?_
      refine d_int ?_
      refine a_cons ?_
      refine d_non ?_
      refine a_nil ⟨by simp, ?_⟩
      rw [win_none ok h1]; rfl
  subst hd
  refine s_cons (s_set 5 ?_ HN)
  refine WE.mono (Q := fun d => d = nI (limN p a none)) ?_ (fun d hd => ?_)
  · refine d_ifE ?_
    refine t_isN ?_
    refine d_sub ?_
    refine d_name 4 rfl ?_
    refine d_int ?_
    refine ⟨_, rfl, ?_⟩
    refine if_x (fun h6 => ?_) (fun h6 => ?_)
    · have en : (winOf p a).2 = none := opt_none (by simpa using h6)
      refine d_dsub hr.u1 ?_ (fun _ _ => rfl)
      refine d_name 0 rfl ?_
      refine d_str ?_
      refine ⟨_, rfl, _, rfl, ?_⟩
      rw [lim_none en]
    · obtain ⟨dd, edd⟩ := opt_some (by simpa using h6)
      refine d_min2 rfl G.b_min ?_
      refine d_dsub hr.u1 ?_ (fun _ _ => rfl)
      refine d_name 0 rfl ?_
      refine d_str ?_
      refine ⟨_, rfl, _, rfl, ?_⟩
      refine d_sub ?_
      refine d_name 4 rfl ?_
      refine d_int ?_
      refine ⟨_, (show atI [nI (winOf p a).1, dOpt (winOf p a).2] 1 = some (nI dd) from by rw [edd]; rfl), ?_⟩
      refine ⟨_, _, rfl, rfl, ?_⟩
      rw [lim_some edd]
      exact congrArg Dat.int (by omega)
  subst hd
  refine s_cons (s_set 5 ?_ HN)
  refine d_ifE ?_
  refine t_isN ?_
  refine d_name 3 rfl ?_
  refine if_t (rfl) ?_
  refine d_name 5 rfl ?_
  refine s_cons (s_par 7 8 rfl HN ?_)
  refine d_lc (own := [("_law_lag", 11)]) (is := [11]) rfl HN (by kernel_rfl) ?_
  refine i_seq ?_
  refine d_dsub hr.u1 ?_ (fun _ _ => rfl)
  refine d_name 0 rfl ?_
  refine d_str ?_
  refine ⟨_, rfl, _, rfl, ?_⟩
  refine lcq_filter (h := dLag) (p := fun l => decide (l.first = l.second) && decide (l.second = a)) (by omega) trivial (fun i z ez Y N y n => ?_) ?_
  · intro s5 H5 C5 cl5 fp5
    refine n_name 11 ?_ HN
    intro s6 H6 C6 cl6 fp6
    refine ts_one ?_
    refine t_chEE hr.u64 ?_
    refine d_sub ?_
    refine d_name 11 rfl ?_
    refine d_int ?_
    refine ⟨_, rfl, ?_⟩
    refine d_sub ?_
    refine d_name 11 rfl ?_
    refine d_int ?_
    refine ⟨_, rfl, ?_⟩
    refine .inl ⟨_, rfl, ?_⟩
    refine if_x (fun h14 => ?_) (fun h14 => ?_)
    · refine d_name 2 rfl ?_
      refine .inl ⟨_, rfl, ?_⟩
      refine if_x (fun h15 => ?_) (fun h15 => ?_)
      · intro s7 H7 C7 cl7 fp7
        refine d_name 11 rfl ?_
        exact y (by simp at h14 h15; simp; omega)
      · exact n (by simp at h14 h15; simp; omega)
    · refine if_f (by decide) ?_
      exact n (by simp at h14; simp; omega)
  refine d_lst ?_
  refine a_nil ⟨by simp, ?_⟩
  refine s_cons (s_for rfl ?_)
  refine i_range2 G.b_range ?_
  refine d_sub ?_
  refine d_name 4 rfl ?_
  refine d_int ?_
  refine ⟨_, rfl, ?_⟩
  refine d_add ?_
  refine d_name 5 rfl ?_
  refine d_int ?_
  refine ⟨_, _, rfl, rfl, ⟨by omega, by omega, by omega, by omega⟩, ?_⟩
  rw [range_nat]
  refine ⟨fun i δ => ∃ dl s6 s9 s10 s11, δ = [.d (dDct p), .d (dNats ch), .d (nI a), .d .non, .d (dWin (winOf p a)), .d (nI (limN p a none)), s6, .d (.lst ((ownLags p a).map dLag)), .d (.lst dl), s9, s10, s11] ∧ dl = (((rangeN (winOf p a).1 (limN p a none + 1 - (winOf p a).1)).take i).filter (okStart p ch a none)).map nI, ⟨_, _, _, _, _, rfl, rfl⟩, fun i δ _ _ => trivial, fun i d δ ed hI => ?_, fun δ hI => ?_⟩
  · obtain ⟨dl, s6, s9, s10, s11, rfl, hdl⟩ := hI
    obtain ⟨x, ex, rfl⟩ := map_get ed
    have hx := rangeN_get ex
    refine g_name 6 ?_ HN
    refine s_cons (s_set 9 ?_ HN)
    refine d_call (c__law_end G) hr ?_
    refine a_cons ?_
    refine d_name 0 rfl ?_
    refine a_cons ?_
    refine d_name 1 rfl ?_
    refine a_cons ?_
    refine d_name 2 rfl ?_
    refine a_cons ?_
    refine d_name 6 rfl ?_
    refine a_nil ⟨p, ch, a, x, rfl, ok, okc, ha, by omega, ?_⟩
    refine s_one (s_if ?_)
    refine t_bool ?_
    refine w_and ?_
    refine t_notN ?_
    refine d_name 9 rfl ?_
    refine if_x (fun h23 => ?_) (fun h23 => ?_)
    · obtain ⟨e, ee⟩ := opt_some h23
      rw [ee]
      refine w_and1 ?_
      refine t_le ?_
      refine d_name 9 rfl ?_
      refine d_name 5 rfl ?_
      refine ⟨trivial, ?_⟩
      refine q_b ?_
      refine if_x (fun h24 => ?_) (fun h24 => ?_)
      · refine s_cons (s_setLc 10 (own := [("_law_lag", 11)]) (is := [11]) rfl HN (by kernel_rfl) ?_)
        refine i_seq ?_
        refine d_name 7 rfl ?_
        refine lcq_filter (h := dLag) (p := fun l => !lagKept p ch l x x) (by omega) trivial (fun i z ez Y N y n => ?_) ?_
        · intro s5 H5 C5 cl5 fp5
          refine n_name 11 ?_ HN
          intro s6 H6 C6 cl6 fp6
          refine ts_one ?_
          refine t_not ?_
          refine t_val ?_
          refine d_call (c__law_lag_kept G) hr ?_
          refine a_cons ?_
          refine d_name 0 rfl ?_
          refine a_cons ?_
          refine d_name 1 rfl ?_
          refine a_cons ?_
          refine d_name 11 rfl ?_
          refine a_cons ?_
          refine d_name 6 rfl ?_
          refine a_cons ?_
          refine d_name 6 rfl ?_
          have hz := List.mem_filter.mp (List.mem_of_getElem? ez)
          have hz2 : z.first = z.second ∧ z.second = a := by simpa using hz.2
          obtain ⟨e1, he1⟩ := ev_some ee z.one
          obtain ⟨e2, he2⟩ := ev_some ee z.oth
          refine a_nil ⟨p, ch, z, x, x, e1, e2, rfl, ok, okc, ok.lags.2 z hz.1, by omega, by omega, by rw [hz2.1, hz2.2]; exact he1, by rw [hz2.2]; exact he2, ?_⟩
          refine q_b ?_
          refine if_x (fun h27 => ?_) (fun h27 => ?_)
          · intro s7 H7 C7 cl7 fp7
            refine d_name 11 rfl ?_
            exact y (by simp_all)
          · exact n (by simp_all)
        refine s_one (s_set 8 ?_ HN)
        refine d_add ?_
        refine d_name 8 rfl ?_
        refine d_mul ?_
        refine d_lst ?_
        refine a_cons ?_
        refine d_name 6 rfl ?_
        refine a_nil ⟨by simp, ?_⟩
        refine d_int1 G.b_int ?_
        refine d_eq0 hr.u0 ?_
        refine d_name 10 rfl ?_
        refine d_lst ?_
        refine a_nil ⟨by simp, ?_⟩
        refine ⟨_, .inr ⟨rfl, rfl⟩, ?_⟩
        rw [bad_none]
        refine ⟨by split <;> decide, by split <;> decide, by simp, ?_⟩
        refine ⟨by rw [hdl]; exact add_len (by have := filter_take_len (l := rangeN (winOf p a).1 (limN p a none + 1 - (winOf p a).1)) (i := i) (f := okStart p ch a none); omega), ?_⟩
        have hd : decide (e ≤ limN p a none) = true := by simp at h24 ⊢; omega
        have hb : okStart p ch a none x = (ownLags p a).all fun l => lagKept p ch l x x := by
          unfold okStart
          rw [ee]
          show (decide (e ≤ limN p a none) && _) = _
          rw [hd, Bool.true_and]
        refine ⟨_, _, _, _, _, rfl, ?_⟩
        rw [take_snoc ex, filter_snoc, hb, hdl]
        by_cases hz : (ownLags p a).all (fun l => lagKept p ch l x x) = true
        · rw [hz]; simp
        · rw [eq_false_of_ne_true hz]; simp
      · refine s_nil ?_
        have HH : ¬ okStart p ch a none x = true := by unfold okStart; rw [ee]; simp at h24 ⊢; omega
        exact ⟨_, _, _, _, _, rfl, by rw [take_snoc ex, filter_snoc, if_neg HH]; exact hdl⟩
    · refine if_f (by decide) ?_
      refine s_nil ?_
      have HH : ¬ okStart p ch a none x = true := by have := opt_none h23; unfold okStart; rw [this]; simp
      exact ⟨_, _, _, _, _, rfl, by rw [take_snoc ex, filter_snoc, if_neg HH]; exact hdl⟩
  · obtain ⟨dl, s6, s9, s10, s11, rfl, hdl⟩ := hI
    subst hdl
    rw [List.length_map, List.take_length] at *
    refine s_one (s_ret ?_)
    refine d_name 8 rfl ?_
    exact q
end
end DL

/-! MthH -/
set_option Elab.async false
set_option linter.all false
namespace Mth
def longerL (fs : List (List Nat)) (ss : List Nat) : List (List Nat) := fs.flatMap fun r => ss.map fun s => r ++ [s]
theorem longer_len {fs : List (List Nat)} {ss : List Nat} : (longerL fs ss).length = fs.length * ss.length := by
  unfold longerL
  induction fs with
  | nil => simp
  | cons x r ih => rw [List.flatMap_cons, List.length_append, ih, List.length_map, List.length_cons, Nat.succ_mul, Nat.add_comm]
theorem longer_snoc {fs : List (List Nat)} {ss : List Nat} {x : List Nat} : longerL (fs ++ [x]) ss = longerL fs ss ++ ss.map fun s => x ++ [s] := by
  unfold longerL
  rw [List.flatMap_append]; simp
def rowsN (p : PrjM) (ch : List Nat) : Nat → List (List Nat)
  | 0 => [[]]
  | a + 1 => longerL (rowsN p ch a) (poss p ch a none)
theorem mem_rowsN {p : PrjM} {ch : List Nat} : ∀ {k : Nat} {r : List Nat}, r ∈ rowsN p ch k ↔ r.length = k ∧ ∀ a, a < k → r.getD a 0 ∈ poss p ch a none
  | 0, r => by
    unfold rowsN
    rw [List.mem_singleton]
    constructor
    · rintro rfl; exact ⟨rfl, fun a h => absurd h (by omega)⟩
    · rintro ⟨h, _⟩; exact List.length_eq_zero_iff.mp h
  | k + 1, r => by
    unfold rowsN longerL
    rw [List.mem_flatMap]
    constructor
    · rintro ⟨x, hx, hr⟩
      obtain ⟨s, hs, rfl⟩ := List.mem_map.mp hr
      obtain ⟨h1, h2⟩ := mem_rowsN.mp hx
      refine ⟨by simp [h1], fun a ha => ?_⟩
      by_cases e : a < k
      · have : (x ++ [s]).getD a 0 = x.getD a 0 := by simp [List.getD, List.getElem?_append_left (show a < x.length by omega)]
        rw [this]; exact h2 a e
      · have e : a = k := by omega
        subst e
        have : (x ++ [s]).getD a 0 = s := by simp [List.getD, ← h1]
        rw [this]; exact hs
    · rintro ⟨h1, h2⟩
      have hk : k < r.length := by omega
      refine ⟨r.take k, mem_rowsN.mpr ⟨by simp; omega, fun a ha => ?_⟩, List.mem_map.mpr ⟨r.getD k 0, h2 k (by omega), ?_⟩⟩
      · have : (r.take k).getD a 0 = r.getD a 0 := by simp [List.getD, List.getElem?_take, ha]
        rw [this]; exact h2 a (by omega)
      · have e2 : r.getD k 0 = r[k] := by simp [List.getD, List.getElem?_eq_getElem hk]
        have e3 : r.take k ++ [r[k]] = r.take (k + 1) := by simp
        rw [e2, e3, List.take_of_length_le (by omega)]
theorem rowsN_len {p : PrjM} (ok : OkP p) {ch : List Nat} : ∀ k : Nat, (rowsN p ch k).length ≤ 7 ^ k
  | 0 => by show 1 ≤ 1; decide
  | k + 1 => by
    unfold rowsN
    rw [longer_len, Nat.pow_succ]
    exact Nat.mul_le_mul (rowsN_len ok k) (poss_len ok)
theorem rows_row {p : PrjM} {ch r : List Nat} : r ∈ rowsN p ch p.n ↔ Row p ch none r := by
  rw [mem_rowsN]
  exact ⟨fun h => ⟨h.1, h.2⟩, fun h => ⟨h.len, h.mem⟩⟩
end Mth

/-! DfP -/
set_option Elab.async false
set_option linter.all false
set_option maxRecDepth 100000
set_option maxHeartbeats 4000000
set_option pp.maxSteps 300
set_option pp.deepTerms false
namespace DL
open PySem PySem.Spec PyProof.Rows L2
open NdefX (NTab TabsN TabN)
open Mth
section
variable {W : Wd} {ad : Ads}
theorem row_le {p : PrjM} (ok : OkP p) {ch row : List Nat} (h : Row p ch none row) {a : Nat} (ha : a < p.n) : row.getD a 0 ≤ 6 := by
  have h1 := mem_poss.mp (h.mem a ha)
  have h2 := limN_hor (p := p) (a := a) (m := none)
  have h3 := ok.h6
  omega
theorem all_false {α : Type} {l : List α} {f : α → Bool} {i : Nat} {x : α} (e : l[i]? = some x) (h : f x = false) : l.all f = false := by
  rw [List.all_eq_false]
  exact ⟨x, List.mem_of_getElem? e, by rw [h]; decide⟩
def S__law_longer : Sc := fun ds Q => ∃ (fs : List (List Nat)) (ss : List Nat), ds = [.lst (fs.map dNats), .lst (ss.map nI)] ∧ (fs.length + 1) * ss.length ≤ 1000 ∧ fs.length ≤ 1000 ∧ (∀ r ∈ fs, r.length ≤ 10) ∧ Q (.lst ((longerL fs ss).map dNats))
set_option maxHeartbeats 8000000 in
theorem c__law_longer (G : Gl0 W ad) : CalD W 1 "_law_longer" S__law_longer [] := by
  refine cal_of (N := ["_law_found", "_law_some", "_law_longer_here", "_law_one_here", "_law_begin"]) (ps := ["_law_found", "_law_some"]) G.d__law_longer (by decide +kernel) (fun _ _ _ _ _ _ us hl => match us, hl with | [_, _], _ => rfl) (fun ds Q hS => by obtain ⟨fs, ss, rfl, hm, hf, hr3, q⟩ := hS; rfl) fun f cdv A outer s H E md0 ds Q hr hS => ?_
  obtain ⟨fs, ss, rfl, hm, hf, hr3, q⟩ := hS
  have HN : (["_law_found", "_law_some", "_law_longer_here", "_law_one_here", "_law_begin"] : List Str).Nodup := by decide
  refine s_cons (s_set 2 ?_ HN)
  refine d_lst ?_
  refine a_nil ⟨by simp, ?_⟩
  refine s_cons (s_for rfl ?_)
  refine i_seq ?_
  refine d_name 0 rfl ?_
  refine ⟨fun i δ => ∃ dl s3 s4, δ = [.d (.lst (fs.map dNats)), .d (.lst (ss.map nI)), .d (.lst dl), s3, s4] ∧ dl = (longerL (fs.take i) ss).map dNats, ⟨_, _, _, rfl, rfl⟩, fun i δ _ _ => trivial, fun i d δ ed hI => ?_, fun δ hI => ?_⟩
  · obtain ⟨dl, s3, s4, rfl, hdl⟩ := hI
    obtain ⟨r, er, rfl⟩ := map_get ed
    have hrl := hr3 r (List.mem_of_getElem? er)
    have hi : i < fs.length := (List.getElem?_eq_some_iff.mp er).1
    have hsl : ss.length ≤ 1000 := by have : 1 * ss.length ≤ (fs.length + 1) * ss.length := Nat.mul_le_mul (by omega) (Nat.le_refl _)
                                      omega
    refine g_name 3 ?_ HN
    refine s_one (s_set 2 ?_ HN)
    refine d_add ?_
    refine d_name 2 rfl ?_
    refine d_lc (own := [("_law_begin", 4)]) (is := [4]) rfl HN (by kernel_rfl) ?_
    refine i_seq ?_
    refine d_name 1 rfl ?_
    refine lcq_map (h := fun s => dNats (r ++ [s])) (by omega) trivial (fun i z ez Y N y => ?_) ?_
    · intro s5 H5 C5 cl5 fp5
      refine n_name 4 ?_ HN
      intro s6 H6 C6 cl6 fp6
      refine ts_nil (if_t rfl ?_)
      intro s7 H7 C7 cl7 fp7
      refine d_add ?_
      refine d_name 3 rfl ?_
      refine d_tup ?_
      refine a_cons ?_
      refine d_name 4 rfl ?_
      refine a_nil ⟨by simp, ?_⟩
      refine ⟨by rw [List.length_map]; simp; omega, ?_⟩
      exact q_to (congrArg Dat.tup (by simp)) y
    refine ⟨by have := Nat.mul_le_mul (show i + 1 ≤ fs.length + 1 by omega) (Nat.le_refl ss.length); rw [hdl, List.length_map, List.length_map, longer_len, List.length_take, Nat.min_eq_left (by omega)]; rw [Nat.succ_mul] at this; omega, ?_⟩
    exact ⟨_, _, _, rfl, by rw [take_snoc er, longer_snoc, List.map_append, hdl, List.map_map]; rfl⟩
  · obtain ⟨dl, s3, s4, rfl, hdl⟩ := hI
    subst hdl
    rw [List.length_map, List.take_length] at *
    refine s_one (s_ret ?_)
    refine d_name 2 rfl ?_
    exact q
def S__law_is_kept : Sc := fun ds Q => ∃ (p : PrjM) (ch : List Nat) (pairs : List (Nat × Nat)) (row : List Nat), ds = [dDct p, dNats ch, dPairs pairs, dNats row] ∧ OkP p ∧ OkCh p ch ∧ (∀ x ∈ pairs, x.1 < p.n ∧ x.2 < p.n) ∧ Row p ch none row ∧ Q (.bl (kept p ch pairs row))
set_option maxHeartbeats 8000000 in
theorem c__law_is_kept (G : Gl0 W ad) : CalD W 5 "_law_is_kept" S__law_is_kept [] := by
  refine cal_of (N := ["_law_p", "_law_chosen", "_law_pairs_here", "_law_starts_so", "_law_lag", "_law_one_here", "_law_other"]) (ps := ["_law_p", "_law_chosen", "_law_pairs_here", "_law_starts_so"]) G.d__law_is_kept (by decide +kernel) (fun _ _ _ _ _ _ us hl => match us, hl with | [_, _, _, _], _ => rfl) (fun ds Q hS => by obtain ⟨p, ch, pairs, row, rfl, ok, okc, hpr, hrow, q⟩ := hS; rfl) fun f cdv A outer s H E md0 ds Q hr hS => ?_
  obtain ⟨p, ch, pairs, row, rfl, ok, okc, hpr, hrow, q⟩ := hS
  have HN : (["_law_p", "_law_chosen", "_law_pairs_here", "_law_starts_so", "_law_lag", "_law_one_here", "_law_other"] : List Str).Nodup := by decide
  refine s_cons (s_for rfl ?_)
  refine i_seq ?_
  refine d_dsub hr.u1 ?_ (fun _ _ => rfl)
  refine d_name 0 rfl ?_
  refine d_str ?_
  refine ⟨_, rfl, _, rfl, ?_⟩
  refine ⟨fun i δ => ∃ s4 s5 s6, δ = [.d (dDct p), .d (dNats ch), .d (dPairs pairs), .d (dNats row), s4, s5, s6] ∧ ((p.lags.take i).all fun l => lagKept p ch l (row.getD l.first 0) (row.getD l.second 0)) = true, ⟨_, _, _, rfl, rfl⟩, fun i δ _ _ => trivial, fun i d δ ed hI => ?_, fun δ hI => ?_⟩
  · obtain ⟨s4, s5, s6, rfl, hk⟩ := hI
    obtain ⟨l, el, rfl⟩ := map_get ed
    have okl := ok.lags.2 l (List.mem_of_getElem? el)
    obtain ⟨x, hx⟩ := poss_ev (hrow.mem _ okl.first) l.one
    obtain ⟨y, hy⟩ := poss_ev (hrow.mem _ okl.second) l.oth
    have b1 := row_le ok hrow okl.first
    have b2 := row_le ok hrow okl.second
    refine g_name 4 ?_ HN
    refine s_one (s_if ?_)
    refine t_not ?_
    refine t_val ?_
    refine d_call (c__law_lag_kept G) hr ?_
    refine a_cons ?_
    refine d_name 0 rfl ?_
    refine a_cons ?_
    refine d_name 1 rfl ?_
    refine a_cons ?_
    refine d_name 4 rfl ?_
    refine a_cons ?_
    refine d_sub ?_
    refine d_name 3 rfl ?_
    refine d_sub ?_
    refine d_name 4 rfl ?_
    refine d_int ?_
    refine ⟨_, rfl, ?_⟩
    refine ⟨_, at_map 0 (by rw [hrow.len]; exact okl.first), ?_⟩
    refine a_cons ?_
    refine d_sub ?_
    refine d_name 3 rfl ?_
    refine d_sub ?_
    refine d_name 4 rfl ?_
    refine d_int ?_
    refine ⟨_, rfl, ?_⟩
    refine ⟨_, at_map 0 (by rw [hrow.len]; exact okl.second), ?_⟩
    refine a_nil ⟨p, ch, l, row.getD l.first 0, row.getD l.second 0, x, y, rfl, ok, okc, okl, by omega, by omega, hx, hy, ?_⟩
    refine q_b ?_
    refine if_x (fun h7 => ?_) (fun h7 => ?_)
    · have hkf : kept p ch pairs row = false := by unfold kept keptL; rw [all_false el (by simpa using h7), Bool.false_and]
      rw [hkf] at q
      refine s_one (s_ret ?_)
      refine d_bl ?_
      exact q
    · refine s_nil ?_
      exact ⟨_, _, _, rfl, by rw [take_snoc el, List.all_append, hk]; simpa using h7⟩
  · obtain ⟨s4, s5, s6, rfl, hk⟩ := hI
    have hkL : keptL p ch row = true := by rw [List.length_map, List.take_length] at hk; exact hk
    refine s_cons (s_for rfl ?_)
    refine i_seq ?_
    refine d_name 2 rfl ?_
    refine ⟨fun i δ => ∃ s4 s5 s6, δ = [.d (dDct p), .d (dNats ch), .d (dPairs pairs), .d (dNats row), s4, s5, s6] ∧ ((pairs.take i).all fun q => pairOk p ch q (row.getD q.1 0) (row.getD q.2 0)) = true, ⟨_, _, _, rfl, rfl⟩, fun i δ _ _ => trivial, fun i d δ ed hI => ?_, fun δ hI => ?_⟩
    · obtain ⟨s4, s5, s6, rfl, hk⟩ := hI
      obtain ⟨pr, epr, rfl⟩ := map_get ed
      have hq := hpr pr (List.mem_of_getElem? epr)
      obtain ⟨e, he⟩ := poss_ev (hrow.mem _ hq.1) false
      have he : eA p ch pr.1 (row.getD pr.1 0) = some e := he
      have b1 := row_le ok hrow hq.1
      refine g_tup (n := 2) rfl ⟨rfl, ?_⟩
      refine g_cons ?_
      refine g_name 5 ?_ HN
      refine g_cons ?_
      refine g_name 6 ?_ HN
      refine g_nil ?_
      refine s_one (s_if ?_)
      refine t_lt ?_
      refine d_sub ?_
      refine d_name 3 rfl ?_
      refine d_name 6 rfl ?_
      refine ⟨_, at_map 0 (by rw [hrow.len]; exact hq.2), ?_⟩
      refine d_add ?_
      refine d_call (c__law_end G) hr ?_
      refine a_cons ?_
      refine d_name 0 rfl ?_
      refine a_cons ?_
      refine d_name 1 rfl ?_
      refine a_cons ?_
      refine d_name 5 rfl ?_
      refine a_cons ?_
      refine d_sub ?_
      refine d_name 3 rfl ?_
      refine d_name 5 rfl ?_
      refine ⟨_, at_map 0 (by rw [hrow.len]; exact hq.1), ?_⟩
      refine a_nil ⟨p, ch, pr.1, row.getD pr.1 0, rfl, ok, okc, hq.1, by omega, ?_⟩
      rw [he]
      refine d_call (c__law_setup G) hr ?_
      refine a_cons ?_
      refine d_name 0 rfl ?_
      refine a_cons ?_
      refine d_name 5 rfl ?_
      refine a_cons ?_
      refine d_name 6 rfl ?_
      refine a_nil ⟨p, pr.1, pr.2, rfl, ok, hq.1, hq.2, ?_⟩
      refine ⟨trivial, ?_⟩
      refine q_b ?_
      refine if_x (fun h16 => ?_) (fun h16 => ?_)
      · have hpf : pairOk p ch pr (row.getD pr.1 0) (row.getD pr.2 0) = false := by unfold pairOk; rw [he]; simp at h16 ⊢; omega
        have hkf : kept p ch pairs row = false := by unfold kept keptP; rw [all_false epr hpf, Bool.and_false]
        rw [hkf] at q
        refine s_one (s_ret ?_)
        refine d_bl ?_
        exact q
      · have hpt : pairOk p ch pr (row.getD pr.1 0) (row.getD pr.2 0) = true := by unfold pairOk; rw [he]; simp at h16 ⊢; omega
        refine s_nil ?_
        exact ⟨_, _, _, rfl, by rw [take_snoc epr, List.all_append, hk]; simpa using hpt⟩
    · obtain ⟨s4, s5, s6, rfl, hk⟩ := hI
      have hkP : keptP p ch pairs row = true := by rw [List.length_map, List.take_length] at hk; exact hk
      have hkt : kept p ch pairs row = true := by unfold kept; rw [hkL, hkP]; rfl
      rw [hkt] at q
      refine s_one (s_ret ?_)
      refine d_bl ?_
      exact q
def S__law_all : Sc := fun ds Q => ∃ (p : PrjM) (ch : List Nat) (pairs : List (Nat × Nat)), ds = [dDct p, dNats ch, dPairs pairs, .non] ∧ OkP p ∧ OkCh p ch ∧ (∀ x ∈ pairs, x.1 < p.n ∧ x.2 < p.n) ∧ Q (.lst (((rowsN p ch p.n).filter (kept p ch pairs)).map dNats))
set_option maxHeartbeats 8000000 in
theorem c__law_all (G : Gl0 W ad) : CalD W 6 "_law_all" S__law_all [] := by
  refine cal_of (N := ["_law_p", "_law_chosen", "_law_pairs_here", "_law_bound", "_law_found", "_law_a", "_law_one_here"]) (ps := ["_law_p", "_law_chosen", "_law_pairs_here", "_law_bound"]) G.d__law_all (by decide +kernel) (fun _ _ _ _ _ _ us hl => match us, hl with | [_, _, _, _], _ => rfl) (fun ds Q hS => by obtain ⟨p, ch, pairs, rfl, ok, okc, hpr, q⟩ := hS; rfl) fun f cdv A outer s H E md0 ds Q hr hS => ?_
  obtain ⟨p, ch, pairs, rfl, ok, okc, hpr, q⟩ := hS
  have HN : (["_law_p", "_law_chosen", "_law_pairs_here", "_law_bound", "_law_found", "_law_a", "_law_one_here"] : List Str).Nodup := by decide
  have n3 := ok.n3
  have hn : ((nameL.take p.n).map Dat.str).length = p.n := names_len (by omega)
  have hrl : ∀ k, k ≤ 3 → (rowsN p ch k).length ≤ 343 := fun k hk => Nat.le_trans (rowsN_len ok k) (Nat.pow_le_pow_right (n := 7) (j := 3) (by decide) hk)
  refine s_cons (s_set 4 ?_ HN)
  refine d_lst ?_
  refine a_cons ?_
  refine d_tup ?_
  refine a_nil ⟨by simp, ?_⟩
  refine a_nil ⟨by simp, ?_⟩
  refine s_cons (s_for rfl ?_)
  refine i_range1 G.b_range ?_
  refine d_len G.b_len ?_
  refine d_dsub hr.u1 ?_ (fun _ _ => rfl)
  refine d_name 0 rfl ?_
  refine d_str ?_
  refine ⟨_, rfl, _, rfl, ?_⟩
  refine ⟨_, rfl, by omega, by omega, ?_⟩
  rw [hn, range0_nat]
  refine ⟨fun i δ => ∃ s5 s6, δ = [.d (dDct p), .d (dNats ch), .d (dPairs pairs), .d .non, .d (.lst ((rowsN p ch i).map dNats)), s5, s6], ⟨_, _, rfl⟩, fun i δ _ _ => trivial, fun i d δ ed hI => ?_, fun δ hI => ?_⟩
  · obtain ⟨s5, s6, rfl⟩ := hI
    obtain ⟨z, ez, rfl⟩ := map_get ed
    obtain ⟨h1, h2⟩ := List.getElem?_eq_some_iff.mp ez
    rw [List.length_range] at h1
    rw [List.getElem_range] at h2
    subst h2
    have hpl := poss_len ok (ch := ch) (a := i) (m := none)
    have hl1 := Nat.le_trans (rowsN_len ok (ch := ch) i) (Nat.pow_le_pow_right (n := 7) (j := 2) (by decide) (by omega))
    refine g_name 5 ?_ HN
    refine s_one (s_set 4 ?_ HN)
    refine d_call (c__law_longer G) hr ?_
    refine a_cons ?_
    refine d_name 4 rfl ?_
    refine a_cons ?_
    refine d_call (c__law_possible G) hr ?_
    refine a_cons ?_
    refine d_name 0 rfl ?_
    refine a_cons ?_
    refine d_name 1 rfl ?_
    refine a_cons ?_
    refine d_name 5 rfl ?_
    refine a_cons ?_
    refine d_name 3 rfl ?_
    refine a_nil ⟨p, ch, i, rfl, ok, okc, h1, ?_⟩
    refine a_nil ⟨rowsN p ch i, poss p ch i none, rfl, Nat.le_trans (Nat.mul_le_mul (Nat.add_le_add_right hl1 1) hpl) (by decide), Nat.le_trans hl1 (by decide), fun r hr0 => by rw [(mem_rowsN.mp hr0).1]; omega, ?_⟩
    exact ⟨_, _, rfl⟩
  · obtain ⟨s5, s6, rfl⟩ := hI
    rw [List.length_map, List.length_range]
    have hl1 := hrl p.n (by omega)
    refine s_one (s_ret ?_)
    refine d_lc (own := [("_law_one_here", 6)]) (is := [6]) rfl HN (by kernel_rfl) ?_
    refine i_seq ?_
    refine d_name 4 rfl ?_
    refine lcq_filter (h := dNats) (p := kept p ch pairs) (by omega) trivial (fun i z ez Y N y n => ?_) ?_
    · intro s5 H5 C5 cl5 fp5
      refine n_name 6 ?_ HN
      intro s6 H6 C6 cl6 fp6
      refine ts_one ?_
      refine t_val ?_
      refine d_call (c__law_is_kept G) hr ?_
      refine a_cons ?_
      refine d_name 0 rfl ?_
      refine a_cons ?_
      refine d_name 1 rfl ?_
      refine a_cons ?_
      refine d_name 2 rfl ?_
      refine a_cons ?_
      refine d_name 6 rfl ?_
      refine a_nil ⟨p, ch, pairs, z, rfl, ok, okc, hpr, rows_row.mp (List.mem_of_getElem? ez), ?_⟩
      refine q_b ?_
      refine if_x (fun h8 => ?_) (fun h8 => ?_)
      · intro s7 H7 C7 cl7 fp7
        refine d_name 6 rfl ?_
        exact y (by simp_all)
      · exact n (by simp_all)
    exact q
end
end DL

/-! DfQ -/
set_option Elab.async false
set_option linter.all false
set_option maxRecDepth 100000
set_option maxHeartbeats 4000000
set_option pp.maxSteps 300
set_option pp.deepTerms false
namespace DL
open PySem PySem.Spec PyProof.Rows L2
open NdefX (NTab TabsN TabN)
open Mth
section
variable {W : Wd} {ad : Ads}
theorem n_cons1 {X : Cx} {B : Bx} {e : Expr} {es : List Expr} {δ : List Sl} {d : Dat} {ds : List Dat} {i : Nat} {js : List Nat} {P : List Sl → Prop} (h : WN X B e d δ [i] fun δ' => WNs X B es ds δ' js P)
    (hs : (assignEach (e :: es) X.env).map (·.2) = assign e X.env :: (assignEach es X.env).map (·.2) := by rfl) : WNs X B (e :: es) (d :: ds) δ (i :: js) P := n_cons h hs
theorem q_zip {δ δ' : List Sl} {xs ys : List Dat} {F : List Dat → (List Sl → Prop) → Prop} (h : F (zipD xs ys) fun δ => kpT δ ∧ kpT δ) : seqL δ (.tup xs) fun ds kp => seqL δ' (.tup ys) fun ds' kp' => F (zipD ds ds') fun δ => kp δ ∧ kp' δ := h
theorem res_none {r : Option (List Nat × List Nat)} (h : isNon (dRes r) = true) : r = none := by
  cases r with
  | none => rfl
  | some l => simp [dRes, isNon] at h
theorem res_some {r : Option (List Nat × List Nat)} (h : ¬ isNon (dRes r) = true) : ∃ l g, r = some (l, g) := by
  cases r with
  | none => simp [dRes, isNon] at h
  | some l => exact ⟨l.1, l.2, rfl⟩
theorem zip_nats : ∀ {l m : List Nat}, zipD (l.map nI) (m.map nI) = (l.zip m).map fun q => Dat.tup [nI q.1, nI q.2]
  | [], _ => by simp [zipD]
  | _ :: _, [] => by simp [zipD]
  | x :: l, y :: m => by
    have ih := zip_nats (l := l) (m := m)
    unfold zipD at ih ⊢
    simpa using ih
theorem zip_len {l m : List Nat} {n : Nat} (h : l.length = n) (h' : m.length = n) : (l.zip m).length = n := by rw [List.length_zip, h, h', Nat.min_self]
theorem zip_mem {l m : List Nat} {n : Nat} (h : l.length = n) (h' : m.length = n) {q : Nat × Nat} (hq : q ∈ l.zip m) : ∃ a, a < n ∧ q = (l.getD a 0, m.getD a 0) := by
  obtain ⟨i, hi, e⟩ := List.mem_iff_getElem.mp hq
  have h1 : i < n := by rw [zip_len h h'] at hi; exact hi
  refine ⟨i, h1, ?_⟩
  rw [← e]
  simp [List.getD, List.getElem?_eq_getElem (show i < l.length by omega), List.getElem?_eq_getElem (show i < m.length by omega)]
theorem zip_fnone {l m : List Nat} {n : Nat} (h : l.length = n) (h' : m.length = n) {f : Nat × Nat → Bool} (hf : ∀ a, a < n → f (l.getD a 0, m.getD a 0) = false) : (l.zip m).filter f = [] := by
  rw [List.filter_eq_nil_iff]
  intro q hq
  obtain ⟨a, ha, rfl⟩ := zip_mem h h' hq
  rw [hf a ha]; decide
theorem zip_merge {f : Nat → Nat → Nat} : ∀ {l m : List Nat}, ((l.zip m).map fun q => nI (f q.1 q.2)) = (mergeR f l m).map nI
  | [], _ => by simp [mergeR]
  | _ :: _, [] => by simp [mergeR]
  | x :: l, y :: m => by
    have ih := zip_merge (f := f) (l := l) (m := m)
    unfold mergeR at ih ⊢
    simpa using ih
theorem enum_nats {l : List Nat} : enumD (l.map nI) = (List.range l.length).map fun i => Dat.tup [nI i, nI (l.getD i 0)] := by
  apply List.ext_getElem?
  intro i
  rw [enumD_get, List.getElem?_map, List.getElem?_map]
  by_cases h : i < l.length
  · simp [h, List.getD]
  · rw [List.getElem?_eq_none (by omega), List.getElem?_eq_none (by simp; omega)]; rfl
theorem range_get {n i z : Nat} (h : (List.range n)[i]? = some z) : z = i ∧ i < n := by
  obtain ⟨h1, h2⟩ := List.getElem?_eq_some_iff.mp h
  rw [List.length_range] at h1
  rw [List.getElem_range] at h2
  omega
theorem rangeD_lt {a : Int} {n i : Nat} {d : Dat} (h : (rangeD a n)[i]? = some d) : i < n := by
  have := (List.getElem?_eq_some_iff.mp h).1
  unfold rangeD at this
  simpa using this
def eV (p : PrjM) (ch l : List Nat) (i : Nat) : Nat := (eA p ch i (l.getD i 0)).getD 0
theorem eV_some {p : PrjM} {ch l : List Nat} {i : Nat} (h : l.getD i 0 ∈ poss p ch i none) : eA p ch i (l.getD i 0) = some (eV p ch l i) := by
  obtain ⟨e, he⟩ := poss_ev h false
  have he : eA p ch i (l.getD i 0) = some e := he
  unfold eV
  rw [he]; rfl
theorem pair_mod {x z n : Nat} (hx : x < n) (hz : z + 1 < n) : (x + 1 + z) % n < n ∧ x ≠ (x + 1 + z) % n := by
  refine ⟨Nat.mod_lt _ (by omega), fun e => ?_⟩
  by_cases h : x + 1 + z < n
  · rw [Nat.mod_eq_of_lt h] at e; omega
  · have : (x + 1 + z) % n = x + 1 + z - n := by rw [Nat.mod_eq_sub_mod (by omega), Nat.mod_eq_of_lt (by omega)]
    omega
theorem choice_ok {p : PrjM} (ok : OkP p) {ys : List Nat} (h : F2 (fun (l : List ModeM) (x : Nat) => x < l.length) p.modes ys) : OkCh p ys := by
  refine ⟨by rw [← h.len, ok.modes.1], fun a x e => ?_⟩
  obtain ⟨l, el, hx⟩ := h.get e
  have : p.modes.getD a [] = l := by simp [List.getD, el]
  rw [this]; exact hx
def S__law_is_within : Sc := fun ds Q => ∃ (n : Nat) (inner outer : Option (List Nat × List Nat)), ds = [dRes inner, dRes outer] ∧ n ≤ 100 ∧ Within n inner outer ∧ (∀ l g, inner = some (l, g) → l.length = n ∧ g.length = n) ∧ (∀ l g, outer = some (l, g) → l.length = n ∧ g.length = n) ∧ Q (.bl true)
set_option maxHeartbeats 8000000 in
theorem c__law_is_within (G : Gl0 W ad) : CalD W 1 "_law_is_within" S__law_is_within [] := by
  refine cal_of (N := ["_law_inner", "_law_outer", "_law_one_here", "_law_other"]) (ps := ["_law_inner", "_law_outer"]) G.d__law_is_within (by decide +kernel) (fun _ _ _ _ _ _ us hl => match us, hl with | [_, _], _ => rfl) (fun ds Q hS => by obtain ⟨n, inner, outer, rfl, hn, hw, h1l, h2l, q⟩ := hS; rfl) fun f cdv A outer s H E md0 ds Q hr hS => ?_
  obtain ⟨n, inner, outer, rfl, hn, hw, h1l, h2l, q⟩ := hS
  have HN : (["_law_inner", "_law_outer", "_law_one_here", "_law_other"] : List Str).Nodup := by decide
  refine s_cons (s_if ?_)
  refine t_isN ?_
  refine d_name 0 rfl ?_
  refine if_x (fun h1 => ?_) (fun h1 => ?_)
  · refine s_one (s_ret ?_)
    refine d_bl ?_
    exact q
  · obtain ⟨il, ig, rfl⟩ := res_some h1
    refine s_nil ?_
    refine s_cons (s_if ?_)
    refine t_isN ?_
    refine d_name 1 rfl ?_
    refine if_x (fun h3 => ?_) (fun h3 => ?_)
    · have e3 := res_none h3
      subst e3
      refine s_one (s_ret ?_)
      refine d_bl ?_
      exact hw.elim
    · obtain ⟨ol, og, rfl⟩ := res_some h3
      obtain ⟨l1, l2⟩ := h1l _ _ rfl
      obtain ⟨l3, l4⟩ := h2l _ _ rfl
      have hz1 : (il.zip ol).filter (fun q => decide (q.1 < q.2)) = [] := zip_fnone l1 l3 fun a ha => decide_eq_false (Nat.not_lt.mpr (hw.1 a ha))
      have hz2 : (ig.zip og).filter (fun q => decide (q.2 < q.1)) = [] := zip_fnone l2 l4 fun a ha => decide_eq_false (Nat.not_lt.mpr (hw.2 a ha))
      refine s_nil ?_
      refine s_cons (s_if ?_)
      refine t_ne0 hr.u0 ?_
      refine d_lc (own := [("_law_one_here", 2), ("_law_other", 3)]) (is := [2, 3]) rfl HN (by kernel_rfl) ?_
      refine i_zip G.b_zip ?_
      refine d_sub ?_
      refine d_name 0 rfl ?_
      refine d_int ?_
      refine ⟨_, rfl, ?_⟩
      refine d_sub ?_
      refine d_name 1 rfl ?_
      refine d_int ?_
      refine ⟨_, rfl, ?_⟩
      refine q_zip (xs := il.map nI) (ys := ol.map nI) ?_
      rw [zip_nats]
      refine lcq_filter (h := fun _ => .int 1) (p := fun q => decide (q.1 < q.2)) (by rw [zip_len l1 l3]; omega) ⟨trivial, trivial⟩ (fun i z ez Y N y n => ?_) ?_
      · intro s5 H5 C5 cl5 fp5
        refine n_tup (n := 2) rfl ⟨rfl, ?_⟩
        refine n_cons1 ?_
        refine n_name 2 ?_ HN
        refine n_cons1 ?_
        refine n_name 3 ?_ HN
        refine n_nil ?_
        intro s6 H6 C6 cl6 fp6
        refine ts_one ?_
        refine t_lt ?_
        refine d_name 2 rfl ?_
        refine d_name 3 rfl ?_
        refine ⟨trivial, ?_⟩
        refine q_b ?_
        refine if_x (fun h8 => ?_) (fun h8 => ?_)
        · intro s7 H7 C7 cl7 fp7
          refine d_int ?_
          exact y (by simp at h8 ⊢; omega)
        · exact n (by simp at h8 ⊢; omega)
      refine d_lst ?_
      refine a_nil ⟨by simp, ?_⟩
      refine ⟨_, .inr ⟨rfl, rfl⟩, ?_⟩
      refine if_f (by rw [hz1]; decide) ?_
      refine s_nil ?_
      refine s_one (s_ret ?_)
      refine d_eq0 hr.u0 ?_
      refine d_lc (own := [("_law_one_here", 2), ("_law_other", 3)]) (is := [2, 3]) rfl HN (by kernel_rfl) ?_
      refine i_zip G.b_zip ?_
      refine d_sub ?_
      refine d_name 0 rfl ?_
      refine d_int ?_
      refine ⟨_, rfl, ?_⟩
      refine d_sub ?_
      refine d_name 1 rfl ?_
      refine d_int ?_
      refine ⟨_, rfl, ?_⟩
      refine q_zip (xs := ig.map nI) (ys := og.map nI) ?_
      rw [zip_nats]
      refine lcq_filter (h := fun _ => .int 1) (p := fun q => decide (q.2 < q.1)) (by rw [zip_len l2 l4]; omega) ⟨trivial, trivial⟩ (fun i z ez Y N y n => ?_) ?_
      · intro s5 H5 C5 cl5 fp5
        refine n_tup (n := 2) rfl ⟨rfl, ?_⟩
        refine n_cons1 ?_
        refine n_name 2 ?_ HN
        refine n_cons1 ?_
        refine n_name 3 ?_ HN
        refine n_nil ?_
        intro s6 H6 C6 cl6 fp6
        refine ts_one ?_
        refine t_gt ?_
        refine d_name 2 rfl ?_
        refine d_name 3 rfl ?_
        refine ⟨trivial, ?_⟩
        refine q_b ?_
        refine if_x (fun h15 => ?_) (fun h15 => ?_)
        · intro s7 H7 C7 cl7 fp7
          refine d_int ?_
          exact y (by simp at h15 ⊢; omega)
        · exact n (by simp at h15 ⊢; omega)
      refine d_lst ?_
      refine a_nil ⟨by simp, ?_⟩
      refine ⟨_, .inr ⟨rfl, rfl⟩, ?_⟩
      exact q_tt (by rw [hz2]; rfl) q
def S__law_bound_right (ad : Ads) : Sc := fun ds Q => ∃ (p : PrjM) (ch : List Nat) (pairs : List (Nat × Nat)) (l g : List Nat), ds = [dDct p, dPrj ad p, dNats ch, dPairs pairs, dRes (some (l, g))] ∧ OkP p ∧ OkCh p ch ∧ (∀ x ∈ pairs, x.1 < p.n ∧ x.2 < p.n ∧ x.1 ≠ x.2) ∧ pairs.length ≤ 20 ∧ TimesIs p ch (rulesOf p pairs) none (some (l, g)) ∧ Q (.bl true)
set_option maxHeartbeats 8000000 in
theorem c__law_bound_right (G : Gl0 W ad) : CalD W 12 "_law_bound_right" (S__law_bound_right ad) [] := by
  refine cal_of (N := ["_law_p", "_law_made", "_law_chosen", "_law_pairs_here", "_law_told", "_law_last", "_law_at", "_law_begin"]) (ps := ["_law_p", "_law_made", "_law_chosen", "_law_pairs_here", "_law_told"]) G.d__law_bound_right (by decide +kernel) (fun _ _ _ _ _ _ us hl => match us, hl with | [_, _, _, _, _], _ => rfl) (fun ds Q hS => by obtain ⟨p, ch, pairs, l, g, rfl, ok, okc, hpr, hpl, ht, q⟩ := hS; rfl) fun f cdv A outer s H E md0 ds Q hr hS => ?_
  obtain ⟨p, ch, pairs, l, g, rfl, ok, okc, hpr, hpl, ht, q⟩ := hS
  have HN : (["_law_p", "_law_made", "_law_chosen", "_law_pairs_here", "_law_told", "_law_last", "_law_at", "_law_begin"] : List Str).Nodup := by decide
  have n1 := ok.n1
  have n3 := ok.n3
  have hll : l.length = p.n := ht.1.len
  have hrow := (sol_iff ok).mp ht.1
  refine s_cons (s_set 5 ?_ HN)
  refine d_max1 rfl G.b_max ?_
  refine d_lc (own := [("_law_at", 6), ("_law_begin", 7)]) (is := [6, 7]) rfl HN (by kernel_rfl) ?_
  refine i_enum G.b_enumerate ?_
  refine d_sub ?_
  refine d_name 4 rfl ?_
  refine d_int ?_
  refine ⟨_, rfl, ?_⟩
  show LcQ _ _ _ _ _ _ _ _ _ _ (enumD (l.map nI)) _
  rw [enum_nats]
  refine lcq_map (h := fun i => nI (eV p ch l i)) (by rw [List.length_range]; omega) trivial (fun i z ez Y N y => ?_) ?_
  · intro s5 H5 C5 cl5 fp5
    obtain ⟨rfl, hz⟩ := range_get ez
    rw [hll] at hz
    have hzl := row_le ok hrow.1 hz
    refine n_tup (n := 2) rfl ⟨rfl, ?_⟩
    refine n_cons1 ?_
    refine n_name 6 ?_ HN
    refine n_cons1 ?_
    refine n_name 7 ?_ HN
    refine n_nil ?_
    intro s6 H6 C6 cl6 fp6
    refine ts_nil (if_t rfl ?_)
    intro s7 H7 C7 cl7 fp7
    refine d_call (c__law_end G) hr ?_
    refine a_cons ?_
    refine d_name 0 rfl ?_
    refine a_cons ?_
    refine d_name 2 rfl ?_
    refine a_cons ?_
    refine d_name 6 rfl ?_
    refine a_cons ?_
    refine d_name 7 rfl ?_
    refine a_nil ⟨p, ch, z, l.getD z 0, rfl, ok, okc, hz, by omega, ?_⟩
    rw [eV_some (hrow.1.mem z hz)]
    exact y
  refine ⟨(List.range l.length).map (fun i => ((eV p ch l i : Nat) : Int)), by rw [List.map_map]; rfl, by rw [List.length_map, List.length_range]; omega, fun mi hm hle => ?_⟩
  obtain ⟨am, ham, rfl⟩ := List.mem_map.mp hm
  have ham : am < p.n := by rw [List.mem_range] at ham; omega
  have hem := eV_some (hrow.1.mem am ham)
  generalize hmm : eV p ch l am = mm at hem hle ⊢
  have hb : Sol p ch (rulesOf p pairs) (some mm) l := ht.1.bounded ok fun a e ha he => by
    have h1 := hle _ (List.mem_map.mpr ⟨a, List.mem_range.mpr (by omega), rfl⟩)
    rw [eV_some (hrow.1.mem a ha)] at he
    have he := Option.some.inj he
    omega
  refine s_cons (s_if ?_)
  refine t_isN ?_
  refine d_callK (c_times2 G) hr ?_
  refine a_cons ?_
  refine d_name 1 rfl ?_
  refine a_cons ?_
  refine d_name 2 rfl ?_
  refine a_nil ?_
  refine k_cons ?_
  refine d_name 3 rfl ?_
  refine k_cons ?_
  refine d_name 5 rfl ?_
  refine k_nil ⟨rfl, rfl, ⟨p, ch, pairs, some mm, rfl, ok, okc, hpr, hpl, fun r hr2 => ?_⟩⟩
  obtain ⟨rl, rg, rfl⟩ : ∃ rl rg, r = some (rl, rg) := by
    cases r with
    | none => exact absurd hb (hr2 l)
    | some z => exact ⟨z.1, z.2, rfl⟩
  refine if_f (by simp [dRes, isNon]) ?_
  refine s_nil ?_
  refine s_one (s_ret ?_)
  refine d_or ?_
  refine d_eq hr.u64 ?_
  refine d_name 5 rfl ?_
  refine d_int ?_
  refine .inl ⟨_, rfl, ?_⟩
  refine q_b (if_x (fun h9 => ?_) (fun h9 => ?_))
  · exact q
  · obtain ⟨m2, rfl⟩ : ∃ m2, mm = m2 + 1 := ⟨mm - 1, by simp at h9; omega⟩
    have em : ((m2 + 1 : Nat) : Int) - 1 = (m2 : Int) := by omega
    refine d_one ?_
    refine d_isN ?_
    refine d_callK (c_times2 G) hr ?_
    refine a_cons ?_
    refine d_name 1 rfl ?_
    refine a_cons ?_
    refine d_name 2 rfl ?_
    refine a_nil ?_
    refine k_cons ?_
    refine d_name 3 rfl ?_
    refine k_cons ?_
    refine d_sub2 ?_
    refine d_name 5 rfl ?_
    refine d_int ?_
    refine ⟨trivial, ?_⟩
    refine k_nil ⟨rfl, rfl, ⟨p, ch, pairs, some m2, congrArg (fun x => [dPrj ad p, dNats ch, dPairs pairs, Dat.int x]) em, ok, okc, hpr, hpl, fun r hr2 => ?_⟩⟩
    have er : r = none := by
      cases r with
      | none => rfl
      | some z =>
        obtain ⟨zl, zg⟩ := z
        exact absurd hr2.1 (no_less ok ht ham hem zl)
    subst er
    exact q
def S__law_pairs : Sc := fun ds Q => ∃ n : Nat, ds = [.well, nI n] ∧ 1 ≤ n ∧ n ≤ 3 ∧ ∀ ps : List (Nat × Nat), (∀ x ∈ ps, x.1 < n ∧ x.2 < n ∧ x.1 ≠ x.2) → ps.length ≤ 2 → Q (dPairs ps)
set_option maxHeartbeats 8000000 in
theorem c__law_pairs (G : Gl0 W ad) : CalD W 3 "_law_pairs" S__law_pairs [] := by
  refine cal_of (N := ["_law_well_here", "_law_many", "_law_found", "_law_turn", "_law_one_here"]) (ps := ["_law_well_here", "_law_many"]) G.d__law_pairs (by decide +kernel) (fun _ _ _ _ _ _ us hl => match us, hl with | [_, _], _ => rfl) (fun ds Q hS => by obtain ⟨n, rfl, n1, n3, q⟩ := hS; rfl) fun f cdv A outer s H E md0 ds Q hr hS => ?_
  obtain ⟨n, rfl, n1, n3, q⟩ := hS
  have HN : (["_law_well_here", "_law_many", "_law_found", "_law_turn", "_law_one_here"] : List Str).Nodup := by decide
  refine s_cons (s_setF 2 (f_nil fun p__law_found => ?_) HN)
  refine s_cons (s_for rfl ?_)
  refine i_range1 G.b_range ?_
  refine d_mul ?_
  refine d_call (c__law_draw G) hr ?_
  refine a_cons ?_
  refine d_name 0 rfl ?_
  refine a_cons ?_
  refine d_int ?_
  refine a_nil ⟨3, rfl, by omega, by omega, fun r r0 r1 => ?_⟩
  refine d_int1 G.b_int ?_
  refine d_gt ?_
  refine d_name 1 rfl ?_
  refine d_int ?_
  refine ⟨trivial, ?_⟩
  refine ⟨.inl ⟨by omega, by omega⟩, ?_⟩
  obtain ⟨k, hk, k0, k2, k3⟩ : ∃ k : Int, r * (if decide ((n : Int) > 1) = true then 1 else 0) = k ∧ 0 ≤ k ∧ k ≤ 2 ∧ (n = 1 → k = 0) := by
    by_cases h : (n : Int) > 1
    · rw [if_pos (by simpa using h)]; exact ⟨_, rfl, by omega, by omega, fun e => by omega⟩
    · rw [if_neg (by simpa using h)]; exact ⟨_, rfl, by omega, by omega, fun e => by omega⟩
  rw [hk]
  refine ⟨_, rfl, by omega, by omega, ?_⟩
  refine ⟨fun i δ => ∃ ps s3 s4, δ = [.d .well, .d (nI n), .own p__law_found (.lst (ps.map fun q : Nat × Nat => Dat.tup [nI q.1, nI q.2])), s3, s4] ∧ (∀ x ∈ ps, x.1 < n ∧ x.2 < n ∧ x.1 ≠ x.2) ∧ ps.length ≤ i, ⟨[], _, _, rfl, by simp, by simp⟩, fun i δ _ _ => trivial, fun i d δ ed hI => ?_, fun δ hI => ?_⟩
  · obtain ⟨ps, s3, s4, rfl, hps, hpl⟩ := hI
    have hi := rangeD_lt ed
    have n2 : 2 ≤ n := by omega
    refine g_name 3 ?_ HN
    refine s_cons (s_set 4 ?_ HN)
    refine d_call (c__law_draw G) hr ?_
    refine a_cons ?_
    refine d_name 0 rfl ?_
    refine a_cons ?_
    refine d_name 1 rfl ?_
    refine a_nil ⟨(n : Int), rfl, by omega, by omega, fun ra ra0 ra1 => ?_⟩
    refine s_one (s_append 2 rfl (by rw [List.length_map]; omega) ?_)
    refine d_own 2 rfl ?_
    refine ⟨rfl, ?_⟩
    refine d_tup ?_
    refine a_cons ?_
    refine d_name 4 rfl ?_
    refine a_cons ?_
    refine d_mod ?_
    refine d_int1 G.b_int ?_
    refine d_add ?_
    refine d_add ?_
    refine d_name 4 rfl ?_
    refine d_int ?_
    refine d_call (c__law_draw G) hr ?_
    refine a_cons ?_
    refine d_name 0 rfl ?_
    refine a_cons ?_
    refine d_sub2 ?_
    refine d_name 1 rfl ?_
    refine d_int ?_
    refine ⟨trivial, ?_⟩
    refine a_nil ⟨(n : Int) - 1, rfl, by omega, by omega, fun rb rb0 rb1 => ?_⟩
    refine d_name 1 rfl ?_
    refine ⟨by show (0 : Int) < n; omega, ?_⟩
    refine a_nil ⟨by simp, ?_⟩
    obtain ⟨x, rfl⟩ := Int.eq_ofNat_of_zero_le ra0
    obtain ⟨z, rfl⟩ := Int.eq_ofNat_of_zero_le rb0
    have hpm := pair_mod (x := x) (z := z) (n := n) (by omega) (by omega)
    refine ⟨ps ++ [(x, (x + 1 + z) % n)], _, _, by rw [List.map_append]; rfl, fun y hy => ?_, by simp; omega⟩
    rcases List.mem_append.mp hy with hy | hy
    · exact hps y hy
    · rw [List.mem_singleton] at hy
      subst hy
      exact ⟨by omega, hpm.1, hpm.2⟩
  · obtain ⟨ps, s3, s4, rfl, hps, hpl⟩ := hI
    have hkl : (rangeD 0 k.toNat).length = k.toNat := by unfold rangeD; simp
    rw [hkl] at hpl
    refine s_freeze 2 rfl ?_
    refine s_one (s_ret ?_)
    refine d_tuple G.b_tuple ?_
    refine d_name 2 rfl ?_
    exact q ps hps (by omega)
def S__law_choice : Sc := fun ds Q => ∃ p : PrjM, ds = [.well, dDct p] ∧ OkP p ∧ ∀ ch, OkCh p ch → Q (dNats ch)
set_option maxHeartbeats 8000000 in
theorem c__law_choice (G : Gl0 W ad) : CalD W 3 "_law_choice" S__law_choice [] := by
  refine cal_of (N := ["_law_well_here", "_law_p", "_law_some"]) (ps := ["_law_well_here", "_law_p"]) G.d__law_choice (by decide +kernel) (fun _ _ _ _ _ _ us hl => match us, hl with | [_, _], _ => rfl) (fun ds Q hS => by obtain ⟨p, rfl, ok, q⟩ := hS; rfl) fun f cdv A outer s H E md0 ds Q hr hS => ?_
  obtain ⟨p, rfl, ok, q⟩ := hS
  have HN : (["_law_well_here", "_law_p", "_law_some"] : List Str).Nodup := by decide
  have n3 := ok.n3
  have hml := ok.modes.1
  refine s_one (s_ret ?_)
  refine d_tuple G.b_tuple ?_
  refine d_lc (own := [("_law_some", 2)]) (is := [2]) rfl HN (by kernel_rfl) ?_
  refine i_seq ?_
  refine d_dsub hr.u1 ?_ (fun _ _ => rfl)
  refine d_name 1 rfl ?_
  refine d_str ?_
  refine ⟨_, rfl, _, rfl, ?_⟩
  refine lcq_rel (h := nI) (R := fun (l : List ModeM) (x : Nat) => x < l.length) (by omega) trivial (fun i z ez Y N y => ?_) (fun ys hys => ?_)
  · intro s5 H5 C5 cl5 fp5
    have hz := (ok.modes.2 z (List.mem_of_getElem? ez)).1
    refine n_name 2 ?_ HN
    intro s6 H6 C6 cl6 fp6
    refine ts_nil (if_t rfl ?_)
    intro s7 H7 C7 cl7 fp7
    refine d_call (c__law_draw G) hr ?_
    refine a_cons ?_
    refine d_name 0 rfl ?_
    refine a_cons ?_
    refine d_len G.b_len ?_
    refine d_name 2 rfl ?_
    refine a_nil ⟨_, rfl, by rw [List.length_map]; omega, by rw [List.length_map]; omega, fun r r0 r1 => ?_⟩
    obtain ⟨x, rfl⟩ := Int.eq_ofNat_of_zero_le r0
    exact y x (by rw [List.length_map] at r1; omega)
  exact q ys (choice_ok ok hys)
end
end DL

/-! DfR -/
set_option Elab.async false
set_option linter.all false
set_option maxRecDepth 100000
set_option maxHeartbeats 4000000
set_option pp.maxSteps 300
set_option pp.deepTerms false
namespace DL
open PySem PySem.Spec PyProof.Rows L2
open NdefX (NTab TabsN TabN)
open Mth
section
variable {W : Wd} {ad : Ads}
def S__law_closed : Sc := fun ds Q => ∃ (p : PrjM) (ch : List Nat) (pairs : List (Nat × Nat)) (rows : List (List Nat)), ds = [.well, dDct p, dNats ch, dPairs pairs, .lst (rows.map dNats)] ∧ OkP p ∧ OkCh p ch ∧ (∀ x ∈ pairs, x.1 < p.n ∧ x.2 < p.n) ∧ rows ≠ [] ∧ rows.length ≤ 1000 ∧ (∀ r ∈ rows, Sol p ch (rulesOf p pairs) none r) ∧ Q (.bl true)
set_option maxHeartbeats 8000000 in
theorem c__law_closed (G : Gl0 W ad) : CalD W 6 "_law_closed" S__law_closed [] := by
  refine cal_of (N := ["_law_well_here", "_law_p", "_law_chosen", "_law_pairs_here", "_law_some", "_law_turn", "_law_low", "_law_high", "_law_one_here", "_law_other", "_law_begin", "_law_later"]) (ps := ["_law_well_here", "_law_p", "_law_chosen", "_law_pairs_here", "_law_some"]) G.d__law_closed (by decide +kernel) (fun _ _ _ _ _ _ us hl => match us, hl with | [_, _, _, _, _], _ => rfl) (fun ds Q hS => by obtain ⟨p, ch, pairs, rows, rfl, ok, okc, hpr, hne, hrl, hsol, q⟩ := hS; rfl) fun f cdv A outer s H E md0 ds Q hr hS => ?_
  obtain ⟨p, ch, pairs, rows, rfl, ok, okc, hpr, hne, hrl, hsol, q⟩ := hS
  have HN : (["_law_well_here", "_law_p", "_law_chosen", "_law_pairs_here", "_law_some", "_law_turn", "_law_low", "_law_high", "_law_one_here", "_law_other", "_law_begin", "_law_later"] : List Str).Nodup := by decide
  have n3 := ok.n3
  have hro := rules_ok ok hpr
  refine s_cons (s_for rfl ?_)
  refine i_range1 G.b_range ?_
  refine d_int ?_
  refine ⟨_, rfl, by omega, by omega, ?_⟩
  refine ⟨fun i δ => ∃ s5 s6 s7 s8 s9 s10 s11, δ = [.d .well, .d (dDct p), .d (dNats ch), .d (dPairs pairs), .d (.lst (rows.map dNats)), s5, s6, s7, s8, s9, s10, s11], ⟨_, _, _, _, _, _, _, rfl⟩, fun i δ _ _ => trivial, fun i d δ ed hI => ?_, fun δ hI => ?_⟩
  · obtain ⟨s5, s6, s7, s8, s9, s10, s11, rfl⟩ := hI
    refine g_name 5 ?_ HN
    refine s_cons (s_par 8 9 rfl HN ?_)
    refine d_call (c__law_one G) hr ?_
    refine a_cons ?_
    refine d_name 0 rfl ?_
    refine a_cons ?_
    refine d_name 4 rfl ?_
    refine a_nil ⟨_, rfl, by simpa using hne, by rw [List.length_map]; exact hrl, fun dx hdx => ?_⟩
    refine d_call (c__law_one G) hr ?_
    refine a_cons ?_
    refine d_name 0 rfl ?_
    refine a_cons ?_
    refine d_name 4 rfl ?_
    refine a_nil ⟨_, rfl, by simpa using hne, by rw [List.length_map]; exact hrl, fun dy hdy => ?_⟩
    obtain ⟨x, hxm, rfl⟩ := List.mem_map.mp hdx
    obtain ⟨w, hwm, rfl⟩ := List.mem_map.mp hdy
    have hxs := hsol _ hxm
    have hys := hsol _ hwm
    have hk1 := (sol_iff ok).mp (hxs.lesser ok hro hys)
    have hk2 := (sol_iff ok).mp (hxs.greater ok hro hys)
    refine s_cons (s_set 6 ?_ HN)
    refine WE.mono (Q := fun d => d = dNats (mergeR min x w)) ?_ (fun d hd => ?_)
    · refine d_tuple G.b_tuple ?_
      refine d_lc (own := [("_law_begin", 10), ("_law_later", 11)]) (is := [10, 11]) rfl HN (by kernel_rfl) ?_
      refine i_zip G.b_zip ?_
      refine d_name 8 rfl ?_
      refine d_name 9 rfl ?_
      refine q_zip (xs := x.map nI) (ys := w.map nI) ?_
      rw [zip_nats]
      refine lcq_map (h := fun q => nI (min q.1 q.2)) (by rw [zip_len hxs.len hys.len]; omega) ⟨trivial, trivial⟩ (fun i z ez Y N y => ?_) ?_
      · intro s5 H5 C5 cl5 fp5
        refine n_tup (n := 2) rfl ⟨rfl, ?_⟩
        refine n_cons1 ?_
        refine n_name 10 ?_ HN
        refine n_cons1 ?_
        refine n_name 11 ?_ HN
        refine n_nil ?_
        intro s6 H6 C6 cl6 fp6
        refine ts_nil (if_t rfl ?_)
        intro s7 H7 C7 cl7 fp7
        refine d_min2 rfl G.b_min ?_
        refine d_name 10 rfl ?_
        refine d_name 11 rfl ?_
        refine ⟨_, _, rfl, rfl, ?_⟩
        exact q_to (congrArg Dat.int (by omega)) y
      exact congrArg Dat.tup zip_merge
    subst hd
    refine s_cons (s_set 7 ?_ HN)
    refine WE.mono (Q := fun d => d = dNats (mergeR max x w)) ?_ (fun d hd => ?_)
    · refine d_tuple G.b_tuple ?_
      refine d_lc (own := [("_law_begin", 10), ("_law_later", 11)]) (is := [10, 11]) rfl HN (by kernel_rfl) ?_
      refine i_zip G.b_zip ?_
      refine d_name 8 rfl ?_
      refine d_name 9 rfl ?_
      refine q_zip (xs := x.map nI) (ys := w.map nI) ?_
      rw [zip_nats]
      refine lcq_map (h := fun q => nI (max q.1 q.2)) (by rw [zip_len hxs.len hys.len]; omega) ⟨trivial, trivial⟩ (fun i z ez Y N y => ?_) ?_
      · intro s5 H5 C5 cl5 fp5
        refine n_tup (n := 2) rfl ⟨rfl, ?_⟩
        refine n_cons1 ?_
        refine n_name 10 ?_ HN
        refine n_cons1 ?_
        refine n_name 11 ?_ HN
        refine n_nil ?_
        intro s6 H6 C6 cl6 fp6
        refine ts_nil (if_t rfl ?_)
        intro s7 H7 C7 cl7 fp7
        refine d_max2 rfl G.b_max ?_
        refine d_name 10 rfl ?_
        refine d_name 11 rfl ?_
        refine ⟨_, _, rfl, rfl, ?_⟩
        exact q_to (congrArg Dat.int (by omega)) y
      exact congrArg Dat.tup zip_merge
    subst hd
    refine s_one (s_if ?_)
    refine t_bool ?_
    refine w_or ?_
    refine t_not ?_
    refine t_val ?_
    refine d_call (c__law_is_kept G) hr ?_
    refine a_cons ?_
    refine d_name 1 rfl ?_
    refine a_cons ?_
    refine d_name 2 rfl ?_
    refine a_cons ?_
    refine d_name 3 rfl ?_
    refine a_cons ?_
    refine d_name 6 rfl ?_
    refine a_nil ⟨p, ch, pairs, mergeR min x w, rfl, ok, okc, hpr, hk1.1, ?_⟩
    refine q_b ?_
    refine if_f (by rw [hk1.2]; decide) ?_
    refine w_or1 ?_
    refine t_not ?_
    refine t_val ?_
    refine d_call (c__law_is_kept G) hr ?_
    refine a_cons ?_
    refine d_name 1 rfl ?_
    refine a_cons ?_
    refine d_name 2 rfl ?_
    refine a_cons ?_
    refine d_name 3 rfl ?_
    refine a_cons ?_
    refine d_name 7 rfl ?_
    refine a_nil ⟨p, ch, pairs, mergeR max x w, rfl, ok, okc, hpr, hk2.1, ?_⟩
    refine q_b ?_
    refine if_f (by rw [hk2.2]; decide) ?_
    refine s_nil ?_
    exact ⟨_, _, _, _, _, _, _, rfl⟩
  · obtain ⟨s5, s6, s7, s8, s9, s10, s11, rfl⟩ := hI
    refine s_one (s_ret ?_)
    refine d_bl ?_
    exact q
end
end DL

/-! DfS -/
set_option Elab.async false
set_option linter.all false
set_option maxRecDepth 100000
set_option maxHeartbeats 4000000
set_option pp.maxSteps 300
set_option pp.deepTerms false
namespace DL
open PySem PySem.Spec PyProof.Rows L2
open NdefX (NTab TabsN TabN)
open Mth
section
variable {W : Wd} {ad : Ads}
theorem lcq_sub {X : Cx} {B : Bx} {δ : List Sl} {tg elt : Expr} {ifs : List Expr} {sc : Scope} {own : List (Str × Nat)} {is : List Nat} {α : Type} {l : List α} {g : α → Dat} {kp : List Sl → Prop} {Q : List Dat → Prop} {h : α → Dat} (hl : l.length ≤ 100000) (hk : kp (wipeD δ (own.map (·.2)))) (st : ∀ (i : Nat) (x : α), l[i]? = some x → ∀ (Y : Dat → Prop) (N : Prop), Y (h x) → N → LcStep X B sc own tg elt ifs is δ (g x) Y N) (q : ∀ ys : List α, ys.Sublist l → Q (ys.map h)) : LcQ X B sc own tg elt ifs is δ Q (l.map g) kp := by
  refine ⟨by rw [List.length_map]; exact hl, hk, fun i acc => ∃ ys : List α, acc = ys.map h ∧ ys.Sublist (l.take i), ⟨[], rfl, by simp⟩, fun i d acc ed rl => ?_, fun acc rl => ?_⟩
  · obtain ⟨x, ex, rfl⟩ := map_get ed
    obtain ⟨ys, rfl, hs⟩ := rl
    refine st i x ex _ _ ⟨ys ++ [x], by rw [List.map_append]; rfl, by rw [take_snoc ex]; exact hs.append (List.Sublist.refl _)⟩ ⟨ys, rfl, by rw [take_snoc ex]; exact hs.trans (List.sublist_append_left _ _)⟩
  · obtain ⟨ys, rfl, hs⟩ := rl
    exact q ys (hs.trans (List.take_sublist _ _))
theorem d_lenO {X : Cx} {B : Bx} {δ : List Sl} {Q : Dat → Prop} {a : Expr} {p pos : Pos} (j : Nat) {pp : Addr} {ds : List Dat} (hδ : δ[j]? = some (.own pp (.lst ds))) (hm : X.mg "len" = none) (h : WE X B a δ fun d => d = .gl pp ∧ Q (.int ds.length)) (he : starEach [a] X.env = (false, eval a X.env) :: starEach [] X.env := by rfl) (hg : Gl X "len" := by rfl) : WE X B (.Call (.Name "len" p) [a] [] pos) δ Q := by
  refine d_callB (CallR.or_ call_len_seq call_len_str) hm boot_len (a_cons (h.mono fun d hd => a_nil ?_) he) hg (he := he)
  intro md σ H vs Qc R r k
  obtain ⟨v, ev, r1⟩ := r.one
  subst ev
  obtain ⟨ed, q⟩ := hd
  subst ed
  obtain ⟨_, _, _, _, _, xs, e, g⟩ := R.sl j _ hδ
  exact .inl ⟨_, xs, by rw [r1.glE], .inl (SqL.of e), by rw [g.len]; exact k _ _ _ (Ex.refl md H) R (.int _) q⟩
theorem ixN_int {n : Nat} {k : Int} (h0 : 0 ≤ k) (h : k < n) : ixN n k = some k.toNat := by
  unfold ixN
  rw [if_pos h0, if_pos h]
theorem asc_of {ys : List Nat} {zs : List (Int × Bool)} (h : F2 (fun (s : Nat) (q : Int × Bool) => q.1 = s) ys zs) : ∀ {m : Int}, (∀ y ∈ ys, m < (y : Int)) → ys.Pairwise (· < ·) → ascC m zs := by
  induction h with
  | nil => intro m _ _; exact True.intro
  | cons h r ih =>
    intro m hm hp
    rw [List.pairwise_cons] at hp
    refine ⟨by rw [h]; exact hm _ (by simp), ih (fun y hy => ?_) hp.2⟩
    rw [h]
    have := hp.1 y hy
    omega
theorem range_pw {n : Nat} {ys : List Nat} (h : ys.Sublist (List.range n)) : ys.Pairwise (· < ·) := List.pairwise_lt_range.sublist h
theorem sub_lt {n : Nat} {ys : List Nat} (h : ys.Sublist (List.range n)) {y : Nat} (hy : y ∈ ys) : y < n := List.mem_range.mp (h.subset hy)
theorem sub_len {n : Nat} {ys : List Nat} (h : ys.Sublist (List.range n)) : ys.length ≤ n := by have := h.length_le; rwa [List.length_range] at this
theorem F2.all {α β : Type} {R : α → β → Prop} {P : β → Prop} (h : ∀ a b, R a b → P b) {l : List α} {m : List β} (f : F2 R l m) : ∀ b ∈ m, P b := fun b hb => let ⟨a, _, r⟩ := f.mem hb; h a b r
theorem cal_ok {k : Nat} {ws : List Bool} {r : Int} {ys : List Nat} {zs : List (Int × Bool)} (hk : ws.length = k) (k1 : 1 ≤ k) (k4 : k ≤ 4) (r0 : 0 ≤ r) (r1 : r < k) (hy : ys.Sublist (List.range 8)) (h : F2 (fun (s : Nat) (q : Int × Bool) => q.1 = s) ys zs) : OkC ⟨ws.set r.toNat true, zs⟩ := by
  refine ⟨by simp; omega, by simp; omega, ?_, ?_, ?_, ?_⟩
  · refine List.mem_iff_getElem.mpr ⟨r.toNat, by simp; omega, by simp⟩
  · show zs.length ≤ 8
    rw [← h.len]; exact sub_len hy
  · exact asc_of h (fun y _ => by omega) (range_pw hy)
  · intro q hq
    obtain ⟨s, hs, e⟩ := h.mem hq
    have := sub_lt hy hs
    rw [e]; omega
theorem F2.allP {α β : Type} {P : β → Prop} {l : List α} {m : List β} (f : F2 (fun _ b => P b) l m) : ∀ b ∈ m, P b := fun b hb => let ⟨_, _, r⟩ := f.mem hb; r
structure OkMM (mach stock : List Nat) (m : ModeM) : Prop where
  work : m.work ≤ 3
  dem : F2 (fun c d => d ≤ c) mach m.dem
  uses : F2 (fun _ u => u ≤ 3) stock m.uses
  cost : m.cost ≤ 8
theorem F2.get2 {α β : Type} {R : α → β → Prop} : ∀ {l : List α} {m : List β} {i : Nat} {a : α} {b : β}, F2 R l m → l[i]? = some a → m[i]? = some b → R a b
  | _, _, 0, _, _, .cons h _, e, e' => by cases e; cases e'; exact h
  | _, _, i + 1, _, _, .cons _ r, e, e' => F2.get2 (i := i) r (by simpa using e) (by simpa using e')
theorem OkMM.ok {p : PrjM} {m : ModeM} (h : OkMM p.mach p.stock m) : OkM p m :=
  ⟨h.work, h.dem.len.symm, fun i d c e e' => h.dem.get2 e' e, h.uses.len.symm, h.uses.allP, h.cost⟩
theorem one_hi {low : Int} {d : Dat} (hl : low ≤ 2) (h : d ∈ [Dat.non, .non, .int low, .int (low + 1), .int (low + 3)]) : ∃ hi : Option Int, d = dOI hi ∧ ∀ h, hi = some h → low ≤ h ∧ h ≤ 5 := by
  simp only [List.mem_cons, List.not_mem_nil, or_false] at h
  rcases h with rfl | rfl | rfl | rfl | rfl
  · exact ⟨none, rfl, fun h e => by cases e⟩
  · exact ⟨none, rfl, fun h e => by cases e⟩
  · exact ⟨some low, rfl, fun h e => by cases e; omega⟩
  · exact ⟨some (low + 1), rfl, fun h e => by cases e; omega⟩
  · exact ⟨some (low + 3), rfl, fun h e => by cases e; omega⟩
theorem one_word {d : Dat} (h : d ∈ [Dat.str "start", .str "end"]) : ∃ w : Bool, d = dWord w := by
  simp only [List.mem_cons, List.not_mem_nil, or_false] at h
  rcases h with rfl | rfl
  · exact ⟨true, rfl⟩
  · exact ⟨false, rfl⟩
structure OkSS (n size : Nat) (s : List Nat × List (List Nat)) : Prop where
  two : 2 ≤ s.1.length
  asc : ascN s.1
  lt : ∀ a ∈ s.1, a < n
  sq : s.2.length = size
  row : ∀ r ∈ s.2, r.length = size ∧ ∀ x ∈ r, x ≤ 2
theorem asc_pw : ∀ {ys : List Nat}, ys.Pairwise (· < ·) → ascN ys
  | [], _ => True.intro
  | [_], _ => True.intro
  | a :: b :: r, h => by
    rw [List.pairwise_cons] at h
    exact ⟨h.1 b (by simp), asc_pw h.2⟩
theorem single_ok {n size : Nat} {ys : List Nat} {rs : List (List Nat)} (n2 : 2 ≤ n) (hy : ys.Sublist (List.range n)) (h : F2 (fun (_ : Nat) (r : List Nat) => r.length = size ∧ ∀ x ∈ r, x ≤ 2) (List.range size) rs) : (2 ≤ ys.length → OkSS n size (ys, rs)) ∧ OkSS n size ([0, 1], rs) := by
  have h1 : rs.length = size := by rw [← h.len, List.length_range]
  have h2 := F2.all (P := fun r : List Nat => r.length = size ∧ ∀ x ∈ r, x ≤ 2) (fun _ _ z => z) h
  exact ⟨fun h => ⟨h, asc_pw (range_pw hy), fun a ha => sub_lt hy ha, h1, h2⟩, ⟨by show 2 ≤ 2; decide, ⟨by decide, True.intro⟩, fun a ha => by simp at ha; omega, h1, h2⟩⟩
theorem rangeD0 {n : Nat} {k : Int} (h : k.toNat = n) : rangeD 0 k.toNat = (List.range n).map nI := by
  rw [h]
  unfold rangeD
  refine List.map_congr_left fun i _ => ?_
  rw [Int.zero_add]
def S__law_modes : Sc := fun ds Q => ∃ mach stock : List Nat, ds = [.well, dNats mach, dNats stock] ∧ mach.length ≤ 3 ∧ (∀ x ∈ mach, x ≤ 2) ∧ stock.length ≤ 2 ∧ ∀ ms : List ModeM, 1 ≤ ms.length → ms.length ≤ 3 → (∀ m ∈ ms, OkMM mach stock m) → Q (dModeL ms)
set_option maxHeartbeats 8000000 in
theorem c__law_modes (G : Gl0 W ad) : CalD W 3 "_law_modes" S__law_modes [] := by
  refine cal_of (N := ["_law_well_here", "_law_some", "_law_stocks_so", "_law_found", "_law_turn", "_law_demands", "_law_uses", "_law_capacity", "_law_amount"]) (ps := ["_law_well_here", "_law_some", "_law_stocks_so"]) G.d__law_modes (by decide +kernel) (fun _ _ _ _ _ _ us hl => match us, hl with | [_, _, _], _ => rfl) (fun ds Q hS => by obtain ⟨mach, stock, rfl, hm3, hm2, hs2, q⟩ := hS; rfl) fun f cdv A outer s H E md0 ds Q hr hS => ?_
  obtain ⟨mach, stock, rfl, hm3, hm2, hs2, q⟩ := hS
  have HN : (["_law_well_here", "_law_some", "_law_stocks_so", "_law_found", "_law_turn", "_law_demands", "_law_uses", "_law_capacity", "_law_amount"] : List Str).Nodup := by decide
  refine s_cons (s_setF 3 (f_nil fun p__law_found => ?_) HN)
  refine s_cons (s_for rfl ?_)
  refine i_range1 G.b_range ?_
  refine d_add ?_
  refine d_int ?_
  refine d_call (c__law_draw G) hr ?_
  refine a_cons ?_
  refine d_name 0 rfl ?_
  refine a_cons ?_
  refine d_int ?_
  refine a_nil ⟨3, rfl, by omega, by omega, fun ka ka0 ka1 => ?_⟩
  refine ⟨_, rfl, by omega, by omega, ?_⟩
  refine ⟨fun i δ => ∃ ms s4 s5 s6 s7 s8, δ = [.d .well, .d (dNats mach), .d (dNats stock), .own p__law_found (.lst (ms.map dMode)), s4, s5, s6, s7, s8] ∧ ms.length = i ∧ ∀ m ∈ ms, OkMM mach stock m, ⟨[], _, _, _, _, _, rfl, rfl, by simp⟩, fun i δ _ _ => trivial, fun i d δ ed hI => ?_, fun δ hI => ?_⟩
  · obtain ⟨ms, s4, s5, s6, s7, s8, rfl, hml, hms⟩ := hI
    have hi := rangeD_lt ed
    refine g_name 4 ?_ HN
    refine s_cons (s_set 5 ?_ HN)
    refine d_tuple G.b_tuple ?_
    refine d_lc (own := [("_law_capacity", 7)]) (is := [7]) rfl HN (by kernel_rfl) ?_
    refine i_seq ?_
    refine d_name 1 rfl ?_
    refine lcq_rel (h := nI) (R := fun (c d : Nat) => d ≤ c) (by omega) trivial (fun i z ez Y N y => ?_) (fun ys hys => ?_)
    · intro s5 H5 C5 cl5 fp5
      have hz := hm2 z (List.mem_of_getElem? ez)
      refine n_name 7 ?_ HN
      intro s6 H6 C6 cl6 fp6
      refine ts_nil (if_t rfl ?_)
      intro s7 H7 C7 cl7 fp7
      refine d_call (c__law_draw G) hr ?_
      refine a_cons ?_
      refine d_name 0 rfl ?_
      refine a_cons ?_
      refine d_add ?_
      refine d_name 7 rfl ?_
      refine d_int ?_
      refine a_nil ⟨(z : Int) + 1, rfl, by omega, by omega, fun r r0 r1 => ?_⟩
      obtain ⟨x, rfl⟩ := Int.eq_ofNat_of_zero_le r0
      exact y x (by omega)
    obtain ⟨dm, hdm⟩ : ∃ dm, dm = ys := ⟨_, rfl⟩
    rw [← hdm] at hys ⊢
    have hdem := hys
    clear hdm
    refine s_cons (s_set 6 ?_ HN)
    refine d_tuple G.b_tuple ?_
    refine d_lc (own := [("_law_amount", 8)]) (is := [8]) rfl HN (by kernel_rfl) ?_
    refine i_seq ?_
    refine d_name 2 rfl ?_
    refine lcq_rel (h := nI) (R := fun (_ u : Nat) => u ≤ 3) (by omega) trivial (fun i z ez Y N y => ?_) (fun ys hys => ?_)
    · intro s5 H5 C5 cl5 fp5
      refine n_name 8 ?_ HN
      intro s6 H6 C6 cl6 fp6
      refine ts_nil (if_t rfl ?_)
      intro s7 H7 C7 cl7 fp7
      refine d_call (c__law_draw G) hr ?_
      refine a_cons ?_
      refine d_name 0 rfl ?_
      refine a_cons ?_
      refine d_int ?_
      refine a_nil ⟨4, rfl, by omega, by omega, fun r r0 r1 => ?_⟩
      obtain ⟨x, rfl⟩ := Int.eq_ofNat_of_zero_le r0
      exact y x (by omega)
    refine s_one (s_append 3 rfl (by rw [List.length_map]; omega) ?_)
    refine d_own 3 rfl ?_
    refine ⟨rfl, ?_⟩
    refine d_tup ?_
    refine a_cons ?_
    refine d_call (c__law_draw G) hr ?_
    refine a_cons ?_
    refine d_name 0 rfl ?_
    refine a_cons ?_
    refine d_int ?_
    refine a_nil ⟨4, rfl, by omega, by omega, fun ra ra0 ra1 => ?_⟩
    refine a_cons ?_
    refine d_name 5 rfl ?_
    refine a_cons ?_
    refine d_name 6 rfl ?_
    refine a_cons ?_
    refine d_call (c__law_draw G) hr ?_
    refine a_cons ?_
    refine d_name 0 rfl ?_
    refine a_cons ?_
    refine d_int ?_
    refine a_nil ⟨9, rfl, by omega, by omega, fun rb rb0 rb1 => ?_⟩
    refine a_nil ⟨by simp, ?_⟩
    obtain ⟨xa, rfl⟩ := Int.eq_ofNat_of_zero_le ra0
    obtain ⟨xb, rfl⟩ := Int.eq_ofNat_of_zero_le rb0
    refine ⟨ms ++ [⟨xa, dm, ys, xb⟩], _, _, _, _, _, by rw [List.map_append]; rfl, by simp; omega, fun m hm => ?_⟩
    rcases List.mem_append.mp hm with hm | hm
    · exact hms m hm
    · rw [List.mem_singleton] at hm
      subst hm
      exact ⟨by show xa ≤ 3; omega, hdem, hys, by show xb ≤ 8; omega⟩
  · obtain ⟨ms, s4, s5, s6, s7, s8, rfl, hml, hms⟩ := hI
    have hkl : (rangeD 0 (1 + ka).toNat).length = (1 + ka).toNat := by unfold rangeD; simp
    rw [hkl] at hml
    refine s_freeze 3 rfl ?_
    refine s_one (s_ret ?_)
    refine d_tuple G.b_tuple ?_
    refine d_name 3 rfl ?_
    exact q ms (by omega) (by omega) hms
def S__law_lags : Sc := fun ds Q => ∃ n : Nat, ds = [.well, nI n] ∧ 1 ≤ n ∧ n ≤ 3 ∧ ∀ ls : List LagM, ls.length ≤ 4 → (∀ l ∈ ls, OkL n l) → Q (.tup (ls.map dLag))
set_option maxHeartbeats 8000000 in
theorem c__law_lags (G : Gl0 W ad) : CalD W 3 "_law_lags" S__law_lags [] := by
  refine cal_of (N := ["_law_well_here", "_law_many", "_law_found", "_law_turn", "_law_low", "_law_high", "_law_ends"]) (ps := ["_law_well_here", "_law_many"]) G.d__law_lags (by decide +kernel) (fun _ _ _ _ _ _ us hl => match us, hl with | [_, _], _ => rfl) (fun ds Q hS => by obtain ⟨n, rfl, n1, n3, q⟩ := hS; rfl) fun f cdv A outer s H E md0 ds Q hr hS => ?_
  obtain ⟨n, rfl, n1, n3, q⟩ := hS
  have HN : (["_law_well_here", "_law_many", "_law_found", "_law_turn", "_law_low", "_law_high", "_law_ends"] : List Str).Nodup := by decide
  refine s_cons (s_setF 2 (f_nil fun p__law_found => ?_) HN)
  refine s_cons (s_for rfl ?_)
  refine i_range1 G.b_range ?_
  refine d_call (c__law_draw G) hr ?_
  refine a_cons ?_
  refine d_name 0 rfl ?_
  refine a_cons ?_
  refine d_int ?_
  refine a_nil ⟨5, rfl, by omega, by omega, fun ka ka0 ka1 => ?_⟩
  refine ⟨_, rfl, by omega, by omega, ?_⟩
  refine ⟨fun i δ => ∃ ls s3 s4 s5 s6, δ = [.d .well, .d (nI n), .own p__law_found (.lst (ls.map dLag)), s3, s4, s5, s6] ∧ ls.length = i ∧ ∀ l ∈ ls, OkL n l, ⟨[], _, _, _, _, rfl, rfl, by simp⟩, fun i δ _ _ => trivial, fun i d δ ed hI => ?_, fun δ hI => ?_⟩
  · obtain ⟨ls, s3, s4, s5, s6, rfl, hll, hls⟩ := hI
    have hi := rangeD_lt ed
    refine g_name 3 ?_ HN
    refine s_cons (s_set 4 ?_ HN)
    refine d_sub2 ?_
    refine d_call (c__law_draw G) hr ?_
    refine a_cons ?_
    refine d_name 0 rfl ?_
    refine a_cons ?_
    refine d_int ?_
    refine a_nil ⟨6, rfl, by omega, by omega, fun rl rl0 rl1 => ?_⟩
    refine d_int ?_
    refine ⟨trivial, ?_⟩
    refine s_cons (s_set 5 ?_ HN)
    refine d_call (c__law_one G) hr ?_
    refine a_cons ?_
    refine d_name 0 rfl ?_
    refine a_cons ?_
    refine d_lst ?_
    refine a_cons ?_
    refine d_non ?_
    refine a_cons ?_
    refine d_non ?_
    refine a_cons ?_
    refine d_name 4 rfl ?_
    refine a_cons ?_
    refine d_add ?_
    refine d_name 4 rfl ?_
    refine d_int ?_
    refine a_cons ?_
    refine d_add ?_
    refine d_name 4 rfl ?_
    refine d_int ?_
    refine a_nil ⟨by simp, ?_⟩
    refine a_nil ⟨_, rfl, by simp, by simp, fun dh hdh => ?_⟩
    obtain ⟨hi2, rfl, hhi⟩ := one_hi (by omega) hdh
    refine s_cons (s_set 6 ?_ HN)
    refine d_lst ?_
    refine a_cons ?_
    refine d_call (c__law_one G) hr ?_
    refine a_cons ?_
    refine d_name 0 rfl ?_
    refine a_cons ?_
    refine d_lst ?_
    refine a_cons ?_
    refine d_str ?_
    refine a_cons ?_
    refine d_str ?_
    refine a_nil ⟨by simp, ?_⟩
    refine a_nil ⟨_, rfl, by simp, by simp, fun dx hdx => ?_⟩
    refine a_cons ?_
    refine d_call (c__law_one G) hr ?_
    refine a_cons ?_
    refine d_name 0 rfl ?_
    refine a_cons ?_
    refine d_lst ?_
    refine a_cons ?_
    refine d_str ?_
    refine a_cons ?_
    refine d_str ?_
    refine a_nil ⟨by simp, ?_⟩
    refine a_nil ⟨_, rfl, by simp, by simp, fun dy hdy => ?_⟩
    refine a_nil ⟨by simp, ?_⟩
    obtain ⟨wa, rfl⟩ := one_word hdx
    obtain ⟨wb, rfl⟩ := one_word hdy
    refine s_one (s_append 2 rfl (by rw [List.length_map]; omega) ?_)
    refine d_own 2 rfl ?_
    refine ⟨rfl, ?_⟩
    refine d_tup ?_
    refine a_cons ?_
    refine d_sub ?_
    refine d_name 6 rfl ?_
    refine d_int ?_
    refine ⟨_, rfl, ?_⟩
    refine a_cons ?_
    refine d_call (c__law_draw G) hr ?_
    refine a_cons ?_
    refine d_name 0 rfl ?_
    refine a_cons ?_
    refine d_name 1 rfl ?_
    refine a_nil ⟨(n : Int), rfl, by omega, by omega, fun ra ra0 ra1 => ?_⟩
    refine a_cons ?_
    refine d_sub ?_
    refine d_name 6 rfl ?_
    refine d_int ?_
    refine ⟨_, rfl, ?_⟩
    refine a_cons ?_
    refine d_call (c__law_draw G) hr ?_
    refine a_cons ?_
    refine d_name 0 rfl ?_
    refine a_cons ?_
    refine d_name 1 rfl ?_
    refine a_nil ⟨(n : Int), rfl, by omega, by omega, fun rb rb0 rb1 => ?_⟩
    refine a_cons ?_
    refine d_name 4 rfl ?_
    refine a_cons ?_
    refine d_name 5 rfl ?_
    refine a_nil ⟨by simp, ?_⟩
    obtain ⟨xa, rfl⟩ := Int.eq_ofNat_of_zero_le ra0
    obtain ⟨xb, rfl⟩ := Int.eq_ofNat_of_zero_le rb0
    refine ⟨ls ++ [⟨wa, xa, wb, xb, rl - 3, hi2⟩], _, _, _, _, by rw [List.map_append]; rfl, by simp; omega, fun m hm => ?_⟩
    rcases List.mem_append.mp hm with hm | hm
    · exact hls m hm
    · rw [List.mem_singleton] at hm
      subst hm
      exact ⟨by show xa < n; omega, by show xb < n; omega, by show -3 ≤ rl - 3; omega, by show rl - 3 ≤ 2; omega, hhi⟩
  · obtain ⟨ls, s3, s4, s5, s6, rfl, hll, hls⟩ := hI
    have hkl : (rangeD 0 ka.toNat).length = ka.toNat := by unfold rangeD; simp
    rw [hkl] at hll
    refine s_freeze 2 rfl ?_
    refine s_one (s_ret ?_)
    refine d_tuple G.b_tuple ?_
    refine d_name 2 rfl ?_
    exact q ls (by omega) hls
def S__law_single : Sc := fun ds Q => ∃ n size : Nat, ds = [.well, nI n, nI size] ∧ 2 ≤ n ∧ n ≤ 3 ∧ 1 ≤ size ∧ size ≤ 4 ∧ ∀ s, OkSS n size s → Q (dSingle s)
set_option maxHeartbeats 8000000 in
theorem c__law_single (G : Gl0 W ad) : CalD W 3 "_law_single" S__law_single [] := by
  refine cal_of (N := ["_law_well_here", "_law_many", "_law_size", "_law_rows", "_law_some", "_law_one_here", "_law_other"]) (ps := ["_law_well_here", "_law_many", "_law_size"]) G.d__law_single (by decide +kernel) (fun _ _ _ _ _ _ us hl => match us, hl with | [_, _, _], _ => rfl) (fun ds Q hS => by obtain ⟨n, size, rfl, n2, n3, s1, s4, q⟩ := hS; rfl) fun f cdv A outer s H E md0 ds Q hr hS => ?_
  obtain ⟨n, size, rfl, n2, n3, s1, s4, q⟩ := hS
  have HN : (["_law_well_here", "_law_many", "_law_size", "_law_rows", "_law_some", "_law_one_here", "_law_other"] : List Str).Nodup := by decide
  refine s_cons (s_set 3 ?_ HN)
  refine d_tuple G.b_tuple ?_
  refine d_lc (own := [("_law_one_here", 5)]) (is := [5]) rfl HN (by kernel_rfl) ?_
  refine i_range1 G.b_range ?_
  refine d_name 2 rfl ?_
  refine ⟨_, rfl, by omega, by omega, ?_⟩
  rw [rangeD0 (n := size) (by omega)]
  refine lcq_rel (h := dNats) (R := fun (_ : Nat) (r : List Nat) => r.length = size ∧ ∀ x ∈ r, x ≤ 2) (by rw [List.length_range]; omega) trivial (fun i z ez Y N y => ?_) (fun ys hys => ?_)
  · intro s5 H5 C5 cl5 fp5
    refine n_name 5 ?_ HN
    intro s6 H6 C6 cl6 fp6
    refine ts_nil (if_t rfl ?_)
    intro s7 H7 C7 cl7 fp7
    refine d_tuple G.b_tuple ?_
    refine d_lc (own := [("_law_other", 6)]) (is := [6]) rfl HN (by kernel_rfl) ?_
    refine i_range1 G.b_range ?_
    refine d_name 2 rfl ?_
    refine ⟨_, rfl, by omega, by omega, ?_⟩
    rw [rangeD0 (n := size) (by omega)]
    refine lcq_rel (h := nI) (R := fun (_ x : Nat) => x ≤ 2) (by rw [List.length_range]; omega) trivial (fun i z ez Y N y => ?_) (fun ys hys => ?_)
    · intro s5 H5 C5 cl5 fp5
      refine n_name 6 ?_ HN
      intro s6 H6 C6 cl6 fp6
      refine ts_nil (if_t rfl ?_)
      intro s7 H7 C7 cl7 fp7
      refine d_call (c__law_draw G) hr ?_
      refine a_cons ?_
      refine d_name 0 rfl ?_
      refine a_cons ?_
      refine d_int ?_
      refine a_nil ⟨3, rfl, by omega, by omega, fun r r0 r1 => ?_⟩
      obtain ⟨x, rfl⟩ := Int.eq_ofNat_of_zero_le r0
      exact y x (by omega)
    exact y ys ⟨by rw [← hys.len, List.length_range], hys.allP⟩
  obtain ⟨rs, hrs⟩ : ∃ rs, rs = ys := ⟨_, rfl⟩
  rw [← hrs] at hys ⊢
  have hrow := hys
  clear hrs
  refine s_cons (s_set 4 ?_ HN)
  refine d_tuple G.b_tuple ?_
  refine d_lc (own := [("_law_one_here", 5)]) (is := [5]) rfl HN (by kernel_rfl) ?_
  refine i_range1 G.b_range ?_
  refine d_name 1 rfl ?_
  refine ⟨_, rfl, by omega, by omega, ?_⟩
  rw [rangeD0 (n := n) (by omega)]
  refine lcq_sub (h := nI) (by rw [List.length_range]; omega) trivial (fun i z ez Y N y n => ?_) (fun ys hys => ?_)
  · intro s5 H5 C5 cl5 fp5
    refine n_name 5 ?_ HN
    intro s6 H6 C6 cl6 fp6
    refine ts_one ?_
    refine t_gt ?_
    refine d_call (c__law_draw G) hr ?_
    refine a_cons ?_
    refine d_name 0 rfl ?_
    refine a_cons ?_
    refine d_int ?_
    refine a_nil ⟨3, rfl, by omega, by omega, fun r r0 r1 => ?_⟩
    refine d_int ?_
    refine ⟨trivial, ?_⟩
    refine q_b ?_
    refine if_x (fun h8 => ?_) (fun h8 => ?_)
    · intro s7 H7 C7 cl7 fp7
      refine d_name 5 rfl ?_
      exact y
    · exact n
  have hso := single_ok n2 hys hrow
  refine s_one (s_ret ?_)
  refine d_tup ?_
  refine a_cons ?_
  refine d_ifE ?_
  refine t_gt ?_
  refine d_len G.b_len ?_
  refine d_name 4 rfl ?_
  refine d_int ?_
  refine ⟨trivial, ?_⟩
  refine q_b ?_
  refine if_x (fun h12 => ?_) (fun h12 => ?_)
  · refine d_name 4 rfl ?_
    refine a_cons ?_
    refine d_name 3 rfl ?_
    refine a_nil ⟨by simp, ?_⟩
    exact q (ys, rs) (hso.1 (by simp at h12; omega))
  · refine d_tup ?_
    refine a_cons ?_
    refine d_int ?_
    refine a_cons ?_
    refine d_int ?_
    refine a_nil ⟨by simp, ?_⟩
    refine a_cons ?_
    refine d_name 3 rfl ?_
    refine a_nil ⟨by simp, ?_⟩
    exact q ([0, 1], rs) hso.2
def S__law_calendar : Sc := fun ds Q => ds = [.well] ∧ ∀ co : Option CalM, (∀ c, co = some c → OkC c) → Q (dRawO co)
set_option maxHeartbeats 8000000 in
theorem c__law_calendar (G : Gl0 W ad) : CalD W 3 "_law_calendar" S__law_calendar [] := by
  refine cal_of (N := ["_law_well_here", "_law_whole_so", "_law_slots", "_law_turn", "_law_slot"]) (ps := ["_law_well_here"]) G.d__law_calendar (by decide +kernel) (fun _ _ _ _ _ _ us hl => match us, hl with | [_], _ => rfl) (fun ds Q hS => by obtain ⟨rfl, q⟩ := hS; rfl) fun f cdv A outer s H E md0 ds Q hr hS => ?_
  obtain ⟨rfl, q⟩ := hS
  have HN : (["_law_well_here", "_law_whole_so", "_law_slots", "_law_turn", "_law_slot"] : List Str).Nodup := by decide
  refine s_cons (s_if ?_)
  refine t_eq hr.u64 ?_
  refine d_call (c__law_draw G) hr ?_
  refine a_cons ?_
  refine d_name 0 rfl ?_
  refine a_cons ?_
  refine d_int ?_
  refine a_nil ⟨2, rfl, by omega, by omega, fun r r0 r1 => ?_⟩
  refine d_int ?_
  refine .inl ⟨_, rfl, ?_⟩
  refine if_x (fun h3 => ?_) (fun h3 => ?_)
  · refine s_one (s_ret ?_)
    refine d_non ?_
    exact q none (fun c e => by cases e)
  · refine s_nil ?_
    refine s_cons (s_setLcF 1 (own := [("_law_turn", 3)]) (is := [3]) rfl HN (by kernel_rfl) ?_)
    refine i_range1 G.b_range ?_
    refine d_add ?_
    refine d_int ?_
    refine d_call (c__law_draw G) hr ?_
    refine a_cons ?_
    refine d_name 0 rfl ?_
    refine a_cons ?_
    refine d_int ?_
    refine a_nil ⟨4, rfl, by omega, by omega, fun ka ka0 ka1 => ?_⟩
    refine ⟨_, rfl, by omega, by omega, ?_⟩
    rw [rangeD0 (n := (1 + ka).toNat) rfl]
    refine lcq_rel (h := Dat.bl) (R := fun (_ : Nat) (_ : Bool) => True) (by rw [List.length_range]; omega) trivial (fun i z ez Y N y => ?_) (fun ys hys => ?_)
    · intro s5 H5 C5 cl5 fp5
      refine n_name 3 ?_ HN
      intro s6 H6 C6 cl6 fp6
      refine ts_nil (if_t rfl ?_)
      intro s7 H7 C7 cl7 fp7
      refine d_gt ?_
      refine d_call (c__law_draw G) hr ?_
      refine a_cons ?_
      refine d_name 0 rfl ?_
      refine a_cons ?_
      refine d_int ?_
      refine a_nil ⟨3, rfl, by omega, by omega, fun rb rb0 rb1 => ?_⟩
      refine d_int ?_
      refine ⟨trivial, ?_⟩
      exact y _ trivial
    intro p__law_whole_so
    have hws : ys.length = (1 + ka).toNat := by rw [← hys.len, List.length_range]
    have hws2 : (ys.map Dat.bl).length = (1 + ka).toNat := by rw [List.length_map, hws]
    refine s_cons (s_asg ?_)
    refine d_bl ?_
    refine g_sub hr.u1 ?_
    refine d_own 1 rfl ?_
    refine d_call (c__law_draw G) hr ?_
    refine a_cons ?_
    refine d_name 0 rfl ?_
    refine a_cons ?_
    refine d_lenO 1 rfl G.b_len ?_
    refine d_own 1 rfl ?_
    refine ⟨rfl, ?_⟩
    refine a_nil ⟨_, rfl, by omega, by omega, fun rc rc0 rc1 => ?_⟩
    refine .inl ⟨1, _, _, _, rfl, rfl, ixN_int rc0 rc1, ?_⟩
    obtain ⟨hwl, hrc⟩ := And.intro hws rc1
    rw [show ((ys.map Dat.bl).set rc.toNat (.bl true)) = (ys.set rc.toNat true).map Dat.bl from by rw [List.map_set]]
    refine s_cons (s_setLc 2 (own := [("_law_slot", 4)]) (is := [4]) rfl HN (by kernel_rfl) ?_)
    refine i_range1 G.b_range ?_
    refine d_int ?_
    refine ⟨_, rfl, by omega, by omega, ?_⟩
    rw [rangeD0 (n := 8) rfl]
    refine lcq_sub (h := nI) (by rw [List.length_range]; omega) trivial (fun i z ez Y N y n => ?_) (fun ys hys => ?_)
    · intro s5 H5 C5 cl5 fp5
      refine n_name 4 ?_ HN
      intro s6 H6 C6 cl6 fp6
      refine ts_one ?_
      refine t_eq hr.u64 ?_
      refine d_call (c__law_draw G) hr ?_
      refine a_cons ?_
      refine d_name 0 rfl ?_
      refine a_cons ?_
      refine d_int ?_
      refine a_nil ⟨6, rfl, by omega, by omega, fun rd rd0 rd1 => ?_⟩
      refine d_int ?_
      refine .inl ⟨_, rfl, ?_⟩
      refine if_x (fun h15 => ?_) (fun h15 => ?_)
      · intro s7 H7 C7 cl7 fp7
        refine d_name 4 rfl ?_
        exact y
      · exact n
    refine s_freeze 1 rfl ?_
    have hsl := hys
    refine s_one (s_ret ?_)
    refine d_tup ?_
    refine a_cons ?_
    refine d_tuple G.b_tuple ?_
    refine d_name 1 rfl ?_
    refine a_cons ?_
    refine d_tupleP G.b_tuple ?_
    refine d_lc (own := [("_law_slot", 4)]) (is := [4]) rfl HN (by kernel_rfl) ?_
    refine i_seq ?_
    refine d_name 2 rfl ?_
    refine lcq_rel (h := dChg) (R := fun (s : Nat) (q : Int × Bool) => q.1 = s) (by have := sub_len hys; omega) trivial (fun i z ez Y N y => ?_) (fun ys hys => ?_)
    · intro s5 H5 C5 cl5 fp5
      refine n_name 4 ?_ HN
      intro s6 H6 C6 cl6 fp6
      refine ts_nil (if_t rfl ?_)
      intro s7 H7 C7 cl7 fp7
      refine d_tup ?_
      refine a_cons ?_
      refine d_name 4 rfl ?_
      refine a_cons ?_
      refine d_eq hr.u64 ?_
      refine d_call (c__law_draw G) hr ?_
      refine a_cons ?_
      refine d_name 0 rfl ?_
      refine a_cons ?_
      refine d_int ?_
      refine a_nil ⟨2, rfl, by omega, by omega, fun re re0 re1 => ?_⟩
      refine d_int ?_
      refine .inl ⟨_, rfl, ?_⟩
      refine a_nil ⟨by simp, ?_⟩
      exact y ((z : Int), _) rfl
    refine ⟨_, rfl, ?_⟩
    refine a_nil ⟨by simp, ?_⟩
    refine q (some ⟨_, _⟩) (fun c e => ?_)
    cases e
    exact cal_ok (k := (1 + ka).toNat) hwl (by omega) (by omega) rc0 (by omega) hsl hys
end
end DL

/-! DfT -/
set_option Elab.async false
set_option linter.all false
set_option maxRecDepth 100000
set_option maxHeartbeats 4000000
set_option pp.maxSteps 300
set_option pp.deepTerms false
namespace DL
open PySem PySem.Spec PyProof.Rows L2
open NdefX (NTab TabsN TabN)
open Mth
section
variable {W : Wd} {ad : Ads}
theorem s_join {X : Cx} {B : Bx} {st : Stmt} {sts : List Stmt} {δ : List Sl} {E : DE} (R : List Sl → Prop) (h : WS X B st δ { E with nx := R }) (r : ∀ δ', R δ' → WSs X B sts δ' E) : WSs X B (st :: sts) δ E := fun md σ H D Rp F =>
  PSs.can (pss_cons ps_can pss_can) (h md σ H _ Rp ⟨fun md' δ' σ' H' x R' q => r δ' q md' σ' H' D R' (F.on x), F.bk, F.ct, F.rt⟩)
theorem cut_names {n : Nat} (h : n ≤ 3) : cutD [Dat.str "a", .str "b-2", .str "dig", .str "e", .str "f"] none (some (n : Int)) = (nameL.take n).map Dat.str := by
  match n, h with
  | 0, _ => rfl
  | 1, _ => rfl
  | 2, _ => rfl
  | 3, _ => rfl
  | n + 4, h => omega
def maxFo : Option (List Nat) → Nat
  | none => 0
  | some l => l.foldl max 0
theorem foldl_snoc0 : ∀ (l : List Nat) (x : Nat), ((l.map fun i : Nat => (i : Int)) ++ [0]).foldl max (x : Int) = ((l.foldl max x : Nat) : Int)
  | [], x => by simp
  | a :: r, x => by
    have ih := foldl_snoc0 r (max x a)
    rw [List.map_cons, List.cons_append, List.foldl_cons, List.foldl_cons, ← ih]
    congr 1
    omega
theorem fams_max (f : Option (List Nat)) : ∃ (n : Int) (ns : List Int), Dat.tup ((o2l f).map nI ++ [.int 0]) = .tup ((n :: ns).map Dat.int) ∧ ns.foldl max n = (maxFo f : Nat) := by
  cases f with
  | none => exact ⟨0, [], rfl, rfl⟩
  | some l =>
    cases l with
    | nil => exact ⟨0, [], rfl, rfl⟩
    | cons a r =>
      refine ⟨(a : Int), (r.map fun i : Nat => (i : Int)) ++ [0], ?_, ?_⟩
      · simp [o2l]
      · rw [foldl_snoc0]
        show ((r.foldl max a : Nat) : Int) = ((r.foldl max (max 0 a) : Nat) : Int)
        rw [Nat.max_eq_right (Nat.zero_le a)]
theorem foldl_le : ∀ {l : List Nat} {m k : Nat}, m ≤ k → (∀ x ∈ l, x ≤ k) → l.foldl max m ≤ k
  | [], _, _, h, _ => h
  | a :: r, m, k, h, hl => by
    rw [List.foldl_cons]
    exact foldl_le (Nat.max_le.mpr ⟨h, hl a (by simp)⟩) fun x hx => hl x (by simp [hx])
theorem maxFo_le {f : Option (List Nat)} (h : ∀ l, f = some l → ∀ x ∈ l, x ≤ 3) : maxFo f ≤ 3 := by
  cases f with
  | none => exact Nat.zero_le _
  | some l => exact foldl_le (Nat.zero_le _) (h l rfl)
theorem one_win {d : Dat} (h : d ∈ [Dat.non, .non, .int 5, .int 8]) : ∃ o : Option Nat, d = dOpt o ∧ ∀ x, o = some x → x ≤ 8 := by
  simp only [List.mem_cons, List.not_mem_nil, or_false] at h
  rcases h with rfl | rfl | rfl | rfl
  · exact ⟨none, rfl, fun h e => by cases e⟩
  · exact ⟨none, rfl, fun h e => by cases e⟩
  · exact ⟨some 5, rfl, fun h e => by cases e; omega⟩
  · exact ⟨some 8, rfl, fun h e => by cases e; omega⟩
theorem one_late {d : Dat} (h : d ∈ [Dat.non, .tup [.int 2, .int 3], .tup [.int 0, .int 1]]) : ∃ o : Option (Nat × Nat), d = dLateO o ∧ ∀ x y, o = some (x, y) → x ≤ 2 ∧ y ≤ 3 := by
  simp only [List.mem_cons, List.not_mem_nil, or_false] at h
  rcases h with rfl | rfl | rfl
  · exact ⟨none, rfl, fun h y e => by cases e⟩
  · exact ⟨some (2, 3), rfl, fun h y e => by cases e; omega⟩
  · exact ⟨some (0, 1), rfl, fun h y e => by cases e; omega⟩
theorem asc_len : ∀ {l : List Nat} {n : Nat}, ascN l → (∀ a ∈ l, a < n) → l.length ≤ n
  | [], _, _, _ => Nat.zero_le _
  | [a], n, _, h => by have := h a (by simp); simp; omega
  | a :: b :: r, n, h, hl => by
    have h1 : ∀ {l : List Nat} {x : Nat}, ascN (x :: l) → ∀ y ∈ l, x < y := by
      intro l
      induction l with
      | nil => intro x _ y hy; cases hy
      | cons c r ih =>
        intro x hx y hy
        rcases List.mem_cons.mp hy with rfl | hy
        · exact hx.1
        · exact Nat.lt_trans hx.1 (ih hx.2 y hy)
    have h2 : ∀ {l : List Nat} {x : Nat}, ascN (x :: l) → (∀ a ∈ x :: l, a < n) → x + l.length + 1 ≤ n := by
      intro l
      induction l with
      | nil => intro x _ hx; have := hx x (by simp); simp; omega
      | cons c r ih =>
        intro x hx hx2
        have := ih hx.2 (fun a ha => hx2 a (by simp only [List.mem_cons] at ha ⊢; exact .inr ha))
        have := hx.1
        simp only [List.length_cons]
        omega
    have := h2 h hl
    simp only [List.length_cons] at this ⊢
    omega
theorem rep_one {α : Type} {x : α} : ∀ {n : Nat}, (List.replicate n [x]).flatten = List.replicate n x
  | 0 => rfl
  | n + 1 => by rw [List.replicate_succ, List.flatten_cons, rep_one, List.replicate_succ]; rfl
theorem names_n {n : Nat} (h : n ≤ 3) : (nameL.take n).length = n := by
  rw [List.length_take]
  show min n 5 = n
  omega
theorem drawn_ok {n hor ov : Nat} {mach stock : List Nat} {modes : List (List ModeM)} {cals : Option (List (Option CalM))} {wins : Option (List (Nat × Option Nat))} {fams : Option (List Nat)} {lags : List LagM} {sg : List (List Nat × List (List Nat))} {crew : Bool} {late : Option (List (Option (Nat × Nat)))}
    (n1 : 1 ≤ n) (n3 : n ≤ 3) (h3 : 3 ≤ hor) (h6 : hor ≤ 6) (hm : mach.length ≤ 3 ∧ ∀ x ∈ mach, x ≤ 2) (hs : stock.length ≤ 2 ∧ ∀ x ∈ stock, x ≤ 8) (hmo : modes.length = n ∧ ∀ l ∈ modes, 1 ≤ l.length ∧ l.length ≤ 3 ∧ ∀ m ∈ l, OkMM mach stock m)
    (hc : ∀ l, cals = some l → l.length = n ∧ ∀ c, some c ∈ l → OkC c) (hw : ∀ l, wins = some l → l.length = n ∧ ∀ x ∈ l, x.1 ≤ 3 ∧ ∀ d, x.2 = some d → d ≤ 8) (hf : ∀ l, fams = some l → l.length = n ∧ ∀ x ∈ l, x ≤ 3) (hl : lags.length ≤ 4 ∧ ∀ l ∈ lags, OkL n l)
    (hsl : sg.length ≤ 2) (hsg : ∀ s ∈ sg, OkSS n (maxFo fams + 1) s) (hap : ∀ (i j : Nat) s t, i < j → sg[i]? = some s → sg[j]? = some t → (t.1.filter fun a => decide (a ∈ s.1)).length ≤ 1) (ho : ov ≤ 3) (hla : ∀ l, late = some l → l.length = n ∧ ∀ x y, some (x, y) ∈ l → x ≤ 2 ∧ y ≤ 3) :
    OkP ⟨n, hor, mach, stock, modes, cals, wins, fams, lags, sg, crew, ov, late⟩ := by
  refine ⟨n1, n3, h3, h6, hm, hs, ⟨hmo.1, fun l hl => ⟨⟨(hmo.2 l hl).1, (hmo.2 l hl).2.1⟩, fun m hm => ((hmo.2 l hl).2.2 m hm).ok⟩⟩, hc, hw, hf, hl, hsl, fun s hs => ?_, hap, ho, hla⟩
  obtain ⟨a, b, c, d, e⟩ := hsg s hs
  have z : maxF ⟨n, hor, mach, stock, modes, cals, wins, fams, lags, sg, crew, ov, late⟩ = maxFo fams := by unfold maxF maxFo; cases fams <;> rfl
  exact ⟨a, b, c, by rw [z]; exact d, by rw [z]; exact e⟩
theorem len_le_of_sub : ∀ {l m : List Nat}, l.Nodup → (∀ x ∈ l, x ∈ m) → l.length ≤ m.length
  | [], _, _, _ => Nat.zero_le _
  | a :: r, m, hn, h => by
    rw [List.nodup_cons] at hn
    have ha := h a (by simp)
    have ih := len_le_of_sub (l := r) (m := m.erase a) hn.2 fun x hx => by
      refine (List.mem_erase_of_ne ?_).mpr (h x (by simp [hx]))
      rintro rfl
      exact hn.1 hx
    rw [List.length_erase_of_mem ha] at ih
    have : 0 < m.length := List.length_pos_of_mem ha
    simp only [List.length_cons]
    omega
theorem asc_nd : ∀ {l : List Nat}, ascN l → l.Nodup
  | [], _ => List.nodup_nil
  | [a], _ => by simp
  | a :: b :: r, h => by
    have h1 : ∀ {l : List Nat} {x : Nat}, ascN (x :: l) → ∀ y ∈ l, x < y := by
      intro l
      induction l with
      | nil => intro x _ y hy; cases hy
      | cons c r ih =>
        intro x hx y hy
        rcases List.mem_cons.mp hy with rfl | hy
        · exact hx.1
        · exact Nat.lt_trans hx.1 (ih hx.2 y hy)
    rw [List.nodup_cons]
    exact ⟨fun hm => by have := h1 h a hm; omega, asc_nd h.2⟩
theorem apart_step {n size i : Nat} {sg : List (List Nat × List (List Nat))} {s : List Nat × List (List Nat)} (hs : OkSS n size s) (hap : ∀ (i j : Nat) s t, i < j → sg[i]? = some s → sg[j]? = some t → (t.1.filter fun a => decide (a ∈ s.1)).length ≤ 1) (hsg : ∀ s ∈ sg, OkSS n size s) (hsl : sg.length ≤ i) :
    ∃ sg2 : List (List Nat × List (List Nat)), sg.map dSingle ++ (List.replicate (if (((sg.filter fun w => decide (1 < (w.1.filter fun a => decide (a ∈ s.1)).length)).map dSingle).isEmpty) = true then (1 : Int) else 0).toNat [dSingle s]).flatten = sg2.map dSingle ∧ sg2.length ≤ i + 1 ∧ (∀ s ∈ sg2, OkSS n size s) ∧
      ∀ (i j : Nat) s t, i < j → sg2[i]? = some s → sg2[j]? = some t → (t.1.filter fun a => decide (a ∈ s.1)).length ≤ 1 := by
  by_cases hb : ((sg.filter fun w => decide (1 < (w.1.filter fun a => decide (a ∈ s.1)).length)).map dSingle).isEmpty = true
  · rw [if_pos hb]
    refine ⟨sg ++ [s], by rw [List.map_append]; rfl, by simp; omega, fun t ht => ?_, fun a b x y hab hx hy => ?_⟩
    · rcases List.mem_append.mp ht with ht | ht
      · exact hsg t ht
      · rw [List.mem_singleton] at ht; subst ht; exact hs
    · have hbl : b < sg.length + 1 := by have := (List.getElem?_eq_some_iff.mp hy).1; simpa using this
      have hx' : sg[a]? = some x := by rwa [List.getElem?_append_left (by omega)] at hx
      by_cases e : b < sg.length
      · rw [List.getElem?_append_left e] at hy
        exact hap a b x y hab hx' hy
      · have eb : b = sg.length := by omega
        subst eb
        have ey : y = s := by simpa using hy.symm
        subst ey
        have hxm := List.mem_of_getElem? hx'
        rw [List.isEmpty_iff, List.map_eq_nil_iff, List.filter_eq_nil_iff] at hb
        have h1 := hb x hxm
        have h2 : (x.1.filter fun a => decide (a ∈ y.1)).length ≤ 1 := by simp only [decide_eq_true_eq] at h1; omega
        refine Nat.le_trans (len_le_of_sub ((asc_nd hs.asc).sublist List.filter_sublist) fun z hz => ?_) h2
        rw [List.mem_filter] at hz ⊢
        exact ⟨of_decide_eq_true hz.2, decide_eq_true hz.1⟩
  · rw [if_neg hb]
    exact ⟨sg, by simp, by omega, hsg, hap⟩
theorem fams_len {fams : Option (List Nat)} {n : Nat} (n3 : n ≤ 3) (h : ∀ l, fams = some l → l.length = n ∧ ∀ x ∈ l, x ≤ 3) : ((o2l fams).map nI).length + [Dat.int 0].length ≤ 1000 := by
  rw [List.length_map]
  cases fams with
  | none => exact (by decide : 0 + 1 ≤ 1000)
  | some l => have := (h l rfl).1; show l.length + 1 ≤ 1000; omega
def S__law_drawn : Sc := fun ds Q => ds = [.well, nI 3] ∧ ∀ p, OkP p → Q (dDct p)
set_option maxHeartbeats 8000000 in
theorem c__law_drawn (G : Gl0 W ad) : CalD W 4 "_law_drawn" S__law_drawn [] := by
  refine cal_of (N := ["_law_well_here", "_law_most_many", "_law_many", "_law_size", "_law_turn", "_law_names", "_law_p", "_law_one_here", "_law_near", "_law_name", "_law_row", "_law_a"]) (ps := ["_law_well_here", "_law_most_many"]) G.d__law_drawn (by decide +kernel) (fun _ _ _ _ _ _ us hl => match us, hl with | [_, _], _ => rfl) (fun ds Q hS => by obtain ⟨rfl, q⟩ := hS; rfl) fun f cdv A outer s H E md0 ds Q hr hS => ?_
  obtain ⟨rfl, q⟩ := hS
  have HN : (["_law_well_here", "_law_most_many", "_law_many", "_law_size", "_law_turn", "_law_names", "_law_p", "_law_one_here", "_law_near", "_law_name", "_law_row", "_law_a"] : List Str).Nodup := by decide
  refine s_cons (s_set 2 ?_ HN)
  refine WE.mono (Q := fun d => ∃ n : Nat, d = nI n ∧ 1 ≤ n ∧ n ≤ 3) ?_ (fun d hd => ?_)
  · refine d_add ?_
    refine d_int ?_
    refine d_call (c__law_draw G) hr ?_
    refine a_cons ?_
    refine d_name 0 rfl ?_
    refine a_cons ?_
    refine d_name 1 rfl ?_
    refine a_nil ⟨3, rfl, by omega, by omega, fun r r0 r1 => ?_⟩
    exact ⟨(1 + r).toNat, congrArg Dat.int (by omega), by omega, by omega⟩
  obtain ⟨n, rfl, n1, n3⟩ := hd
  have hnl := names_n n3
  refine s_cons (s_tupDF 5 6 rfl HN ?_)
  refine d_slice ?_
  refine d_tup ?_
  refine a_cons ?_
  refine d_str ?_
  refine a_cons ?_
  refine d_str ?_
  refine a_cons ?_
  refine d_str ?_
  refine a_cons ?_
  refine d_str ?_
  refine a_cons ?_
  refine d_str ?_
  refine a_nil ⟨by simp, ?_⟩
  refine id ?_
  refine d_name 2 rfl ?_
  refine ⟨_, rfl, ?_⟩
  refine f_dict (fun p__law_p => ?_)
  rw [cut_names n3]
  refine s_cons (s_asg ?_)
  refine WE.mono (Q := fun d => ∃ hor : Nat, d = .tup [dNames n, nI hor] ∧ 3 ≤ hor ∧ hor ≤ 6) ?_ (fun d hd => ?_)
  · refine d_tup ?_
    refine a_cons ?_
    refine d_name 5 rfl ?_
    refine a_cons ?_
    refine d_add ?_
    refine d_int ?_
    refine d_call (c__law_draw G) hr ?_
    refine a_cons ?_
    refine d_name 0 rfl ?_
    refine a_cons ?_
    refine d_int ?_
    refine a_nil ⟨4, rfl, by omega, by omega, fun r r0 r1 => ?_⟩
    refine a_nil ⟨by simp, ?_⟩
    exact ⟨(3 + r).toNat, congrArg (fun i => Dat.tup [dNames n, Dat.int i]) (show 3 + r = ((3 + r).toNat : Int) by omega), by omega, by omega⟩
  obtain ⟨hor, rfl, hr3, hr6⟩ := hd
  refine g_tup (n := 2) rfl ⟨rfl, ?_⟩
  refine g_cons ?_
  refine g_sub hr.u1 ?_
  refine d_own 6 rfl ?_
  refine d_str ?_
  refine .inr ⟨6, _, _, rfl, rfl, Nat.le_of_ble_eq_true rfl, ?_⟩
  refine g_cons ?_
  refine g_sub hr.u1 ?_
  refine d_own 6 rfl ?_
  refine d_str ?_
  refine .inr ⟨6, _, _, rfl, rfl, Nat.le_of_ble_eq_true rfl, ?_⟩
  refine g_nil ?_
  refine s_cons (s_asg ?_)
  refine d_tuple G.b_tuple ?_
  refine d_lc (own := [("_law_turn", 4)]) (is := [4]) rfl HN (by kernel_rfl) ?_
  refine i_range1 G.b_range ?_
  refine d_call (c__law_draw G) hr ?_
  refine a_cons ?_
  refine d_name 0 rfl ?_
  refine a_cons ?_
  refine d_int ?_
  refine a_nil ⟨4, rfl, by omega, by omega, fun k1 k10 k11 => ?_⟩
  refine ⟨_, rfl, by omega, by omega, ?_⟩
  rw [rangeD0 (n := k1.toNat) rfl]
  refine lcq_rel (h := nI) (R := fun (_ x : Nat) => x ≤ 2) (by rw [List.length_range]; omega) trivial (fun i z ez Y N y => ?_) (fun mach hmach => ?_)
  · intro s5 H5 C5 cl5 fp5
    refine n_name 4 ?_ HN
    intro s6 H6 C6 cl6 fp6
    refine ts_nil (if_t rfl ?_)
    intro s7 H7 C7 cl7 fp7
    refine d_call (c__law_draw G) hr ?_
    refine a_cons ?_
    refine d_name 0 rfl ?_
    refine a_cons ?_
    refine d_int ?_
    refine a_nil ⟨3, rfl, by omega, by omega, fun r r0 r1 => ?_⟩
    obtain ⟨x, rfl⟩ := Int.eq_ofNat_of_zero_le r0
    exact y x (by omega)
  refine g_sub hr.u1 ?_
  refine d_own 6 rfl ?_
  refine d_str ?_
  refine .inr ⟨6, _, _, rfl, rfl, Nat.le_of_ble_eq_true rfl, ?_⟩
  have hmm : mach.length ≤ 3 ∧ ∀ x ∈ mach, x ≤ 2 := ⟨by rw [← hmach.len, List.length_range]; omega, hmach.allP⟩
  refine s_cons (s_asg ?_)
  refine d_tuple G.b_tuple ?_
  refine d_lc (own := [("_law_turn", 4)]) (is := [4]) rfl HN (by kernel_rfl) ?_
  refine i_range1 G.b_range ?_
  refine d_call (c__law_draw G) hr ?_
  refine a_cons ?_
  refine d_name 0 rfl ?_
  refine a_cons ?_
  refine d_int ?_
  refine a_nil ⟨3, rfl, by omega, by omega, fun k2 k20 k21 => ?_⟩
  refine ⟨_, rfl, by omega, by omega, ?_⟩
  rw [rangeD0 (n := k2.toNat) rfl]
  refine lcq_rel (h := nI) (R := fun (_ x : Nat) => x ≤ 8) (by rw [List.length_range]; omega) trivial (fun i z ez Y N y => ?_) (fun stock hstock => ?_)
  · intro s5 H5 C5 cl5 fp5
    refine n_name 4 ?_ HN
    intro s6 H6 C6 cl6 fp6
    refine ts_nil (if_t rfl ?_)
    intro s7 H7 C7 cl7 fp7
    refine d_call (c__law_draw G) hr ?_
    refine a_cons ?_
    refine d_name 0 rfl ?_
    refine a_cons ?_
    refine d_int ?_
    refine a_nil ⟨9, rfl, by omega, by omega, fun r r0 r1 => ?_⟩
    obtain ⟨x, rfl⟩ := Int.eq_ofNat_of_zero_le r0
    exact y x (by omega)
  refine g_sub hr.u1 ?_
  refine d_own 6 rfl ?_
  refine d_str ?_
  refine .inr ⟨6, _, _, rfl, rfl, Nat.le_of_ble_eq_true rfl, ?_⟩
  have hss : stock.length ≤ 2 ∧ ∀ x ∈ stock, x ≤ 8 := ⟨by rw [← hstock.len, List.length_range]; omega, hstock.allP⟩
  refine s_cons (s_asg ?_)
  refine d_tuple G.b_tuple ?_
  refine d_lc (own := [("_law_name", 9)]) (is := [9]) rfl HN (by kernel_rfl) ?_
  refine i_seq ?_
  refine d_name 5 rfl ?_
  refine lcq_rel (h := dModeL) (R := fun (_ : Str) (l : List ModeM) => 1 ≤ l.length ∧ l.length ≤ 3 ∧ ∀ m ∈ l, OkMM mach stock m) (by omega) trivial (fun i z ez Y N y => ?_) (fun modes hmodes => ?_)
  · intro s5 H5 C5 cl5 fp5
    refine n_name 9 ?_ HN
    intro s6 H6 C6 cl6 fp6
    refine ts_nil (if_t rfl ?_)
    intro s7 H7 C7 cl7 fp7
    refine d_call (c__law_modes G) hr ?_
    refine a_cons ?_
    refine d_name 0 rfl ?_
    refine a_cons ?_
    refine d_dsub hr.u1 ?_ (fun _ _ => rfl)
    refine d_own 6 rfl ?_
    refine d_str ?_
    refine ⟨_, rfl, 6, _, _, rfl, rfl, ?_⟩
    refine a_cons ?_
    refine d_dsub hr.u1 ?_ (fun _ _ => rfl)
    refine d_own 6 rfl ?_
    refine d_str ?_
    refine ⟨_, rfl, 6, _, _, rfl, rfl, ?_⟩
    refine a_nil ⟨mach, stock, rfl, hmm.1, hmm.2, hss.1, fun ms h1 h3 hms => ?_⟩
    exact y ms ⟨h1, h3, hms⟩
  refine g_sub hr.u1 ?_
  refine d_own 6 rfl ?_
  refine d_str ?_
  refine .inr ⟨6, _, _, rfl, rfl, Nat.le_of_ble_eq_true rfl, ?_⟩
  have hmo : modes.length = n ∧ ∀ l ∈ modes, 1 ≤ l.length ∧ l.length ≤ 3 ∧ ∀ m ∈ l, OkMM mach stock m := ⟨by rw [← hmodes.len]; exact hnl, hmodes.allP⟩
  refine s_cons (s_asg ?_)
  refine WE.mono (Q := fun d => ∃ cals : Option (List (Option CalM)), d = .tup ((o2l cals).map dRawO) ∧ ∀ l, cals = some l → l.length = n ∧ ∀ c, some c ∈ l → OkC c) ?_ (fun d hd => ?_)
  · refine d_ifE ?_
    refine t_eq hr.u64 ?_
    refine d_call (c__law_draw G) hr ?_
    refine a_cons ?_
    refine d_name 0 rfl ?_
    refine a_cons ?_
    refine d_int ?_
    refine a_nil ⟨2, rfl, by omega, by omega, fun r r0 r1 => ?_⟩
    refine d_int ?_
    refine .inl ⟨_, rfl, ?_⟩
    refine if_x (fun h25 => ?_) (fun h25 => ?_)
    · refine d_tuple G.b_tuple ?_
      refine d_lc (own := [("_law_name", 9)]) (is := [9]) rfl HN (by kernel_rfl) ?_
      refine i_seq ?_
      refine d_name 5 rfl ?_
      refine lcq_rel (h := dRawO) (R := fun (_ : Str) (co : Option CalM) => ∀ c, co = some c → OkC c) (by omega) trivial (fun i z ez Y N y => ?_) (fun cl hcl => ?_)
      · intro s5 H5 C5 cl5 fp5
        refine n_name 9 ?_ HN
        intro s6 H6 C6 cl6 fp6
        refine ts_nil (if_t rfl ?_)
        intro s7 H7 C7 cl7 fp7
        refine d_call (c__law_calendar G) hr ?_
        refine a_cons ?_
        refine d_name 0 rfl ?_
        refine a_nil ⟨rfl, fun co hco => ?_⟩
        exact y co hco
      exact ⟨some cl, rfl, fun l e => by cases e; exact ⟨by rw [← hcl.len]; exact hnl, fun c hc => hcl.allP _ hc c rfl⟩⟩
    · refine d_tup ?_
      refine a_nil ⟨by simp, ?_⟩
      exact ⟨none, rfl, fun l e => by cases e⟩
  obtain ⟨cals, rfl, hcals⟩ := hd
  refine g_sub hr.u1 ?_
  refine d_own 6 rfl ?_
  refine d_str ?_
  refine .inr ⟨6, _, _, rfl, rfl, Nat.le_of_ble_eq_true rfl, ?_⟩
  refine s_cons (s_asg ?_)
  refine d_tup ?_
  refine a_nil ⟨by simp, ?_⟩
  refine g_sub hr.u1 ?_
  refine d_own 6 rfl ?_
  refine d_str ?_
  refine .inr ⟨6, _, _, rfl, rfl, Nat.le_of_ble_eq_true rfl, ?_⟩
  refine s_join (fun δ => ∃ wins s3 s4 s7 s8 s9 s10 s11, δ = [.d .well, .d (nI 3), .d (nI n), s3, s4, .d (dNames n), .own p__law_p (.dct ((dctF ⟨n, hor, mach, stock, modes, cals, wins, none, [], [], false, 0, none⟩).take 7)), s7, s8, s9, s10, s11] ∧ ∀ l : List (Nat × Option Nat), wins = some l → l.length = n ∧ ∀ x ∈ l, x.1 ≤ 3 ∧ ∀ d, x.2 = some d → d ≤ 8) (s_if ?_) (fun δ hJ => ?_)
  · refine t_eq hr.u64 ?_
    refine d_call (c__law_draw G) hr ?_
    refine a_cons ?_
    refine d_name 0 rfl ?_
    refine a_cons ?_
    refine d_int ?_
    refine a_nil ⟨2, rfl, by omega, by omega, fun r r0 r1 => ?_⟩
    refine d_int ?_
    refine .inl ⟨_, rfl, ?_⟩
    refine if_x (fun h35 => ?_) (fun h35 => ?_)
    · refine s_one (s_asg ?_)
      refine d_tuple G.b_tuple ?_
      refine d_lc (own := [("_law_name", 9)]) (is := [9]) rfl HN (by kernel_rfl) ?_
      refine i_seq ?_
      refine d_name 5 rfl ?_
      refine lcq_rel (h := dWin) (R := fun (_ : Str) (w : Nat × Option Nat) => w.1 ≤ 3 ∧ ∀ d, w.2 = some d → d ≤ 8) (by omega) trivial (fun i z ez Y N y => ?_) (fun wl hwl => ?_)
      · intro s5 H5 C5 cl5 fp5
        refine n_name 9 ?_ HN
        intro s6 H6 C6 cl6 fp6
        refine ts_nil (if_t rfl ?_)
        intro s7 H7 C7 cl7 fp7
        refine d_tup ?_
        refine a_cons ?_
        refine d_call (c__law_draw G) hr ?_
        refine a_cons ?_
        refine d_name 0 rfl ?_
        refine a_cons ?_
        refine d_int ?_
        refine a_nil ⟨4, rfl, by omega, by omega, fun r r0 r1 => ?_⟩
        refine a_cons ?_
        refine d_call (c__law_one G) hr ?_
        refine a_cons ?_
        refine d_name 0 rfl ?_
        refine a_cons ?_
        refine d_lst ?_
        refine a_cons ?_
        refine d_non ?_
        refine a_cons ?_
        refine d_non ?_
        refine a_cons ?_
        refine d_int ?_
        refine a_cons ?_
        refine d_int ?_
        refine a_nil ⟨by simp, ?_⟩
        refine a_nil ⟨_, rfl, by simp, by simp, fun dw hdw => ?_⟩
        refine a_nil ⟨by simp, ?_⟩
        obtain ⟨x, rfl⟩ := Int.eq_ofNat_of_zero_le r0
        obtain ⟨o, rfl, ho⟩ := one_win hdw
        exact y (x, o) ⟨by show x ≤ 3; omega, ho⟩
      refine g_sub hr.u1 ?_
      refine d_own 6 rfl ?_
      refine d_str ?_
      refine .inr ⟨6, _, _, rfl, rfl, Nat.le_of_ble_eq_true rfl, ?_⟩
      exact ⟨some wl, _, _, _, _, _, _, _, rfl, fun l e => by cases e; exact ⟨by rw [← hwl.len]; exact hnl, hwl.allP⟩⟩
    · refine s_nil ?_
      exact ⟨none, _, _, _, _, _, _, _, rfl, fun l e => by cases e⟩
  obtain ⟨wins, s3, s4, s7, s8, s9, s10, s11, rfl, hwins⟩ := hJ
  refine s_cons (s_asg ?_)
  refine WE.mono (Q := fun d => ∃ fams : Option (List Nat), d = .tup ((o2l fams).map nI) ∧ ∀ l, fams = some l → l.length = n ∧ ∀ x ∈ l, x ≤ 3) ?_ (fun d hd => ?_)
  · refine d_ifE ?_
    refine t_eq hr.u64 ?_
    refine d_call (c__law_draw G) hr ?_
    refine a_cons ?_
    refine d_name 0 rfl ?_
    refine a_cons ?_
    refine d_int ?_
    refine a_nil ⟨2, rfl, by omega, by omega, fun r r0 r1 => ?_⟩
    refine d_int ?_
    refine .inl ⟨_, rfl, ?_⟩
    refine if_x (fun h45 => ?_) (fun h45 => ?_)
    · refine d_tuple G.b_tuple ?_
      refine d_lc (own := [("_law_name", 9)]) (is := [9]) rfl HN (by kernel_rfl) ?_
      refine i_seq ?_
      refine d_name 5 rfl ?_
      refine lcq_rel (h := nI) (R := fun (_ : Str) (x : Nat) => x ≤ 3) (by omega) trivial (fun i z ez Y N y => ?_) (fun fl hfl => ?_)
      · intro s5 H5 C5 cl5 fp5
        refine n_name 9 ?_ HN
        intro s6 H6 C6 cl6 fp6
        refine ts_nil (if_t rfl ?_)
        intro s7 H7 C7 cl7 fp7
        refine d_call (c__law_draw G) hr ?_
        refine a_cons ?_
        refine d_name 0 rfl ?_
        refine a_cons ?_
        refine d_int ?_
        refine a_nil ⟨4, rfl, by omega, by omega, fun r r0 r1 => ?_⟩
        obtain ⟨x, rfl⟩ := Int.eq_ofNat_of_zero_le r0
        exact y x (by omega)
      exact ⟨some fl, rfl, fun l e => by cases e; exact ⟨by rw [← hfl.len]; exact hnl, hfl.allP⟩⟩
    · refine d_tup ?_
      refine a_nil ⟨by simp, ?_⟩
      exact ⟨none, rfl, fun l e => by cases e⟩
  obtain ⟨fams, rfl, hfams⟩ := hd
  have hmf := maxFo_le fun l e => (hfams l e).2
  obtain ⟨x0, xs, hx1, hx2⟩ := fams_max fams
  refine g_sub hr.u1 ?_
  refine d_own 6 rfl ?_
  refine d_str ?_
  refine .inr ⟨6, _, _, rfl, rfl, Nat.le_of_ble_eq_true rfl, ?_⟩
  refine s_cons (s_asg ?_)
  refine d_call (c__law_lags G) hr ?_
  refine a_cons ?_
  refine d_name 0 rfl ?_
  refine a_cons ?_
  refine d_name 2 rfl ?_
  refine a_nil ⟨n, rfl, n1, n3, fun lags hl1 hl2 => ?_⟩
  refine g_sub hr.u1 ?_
  refine d_own 6 rfl ?_
  refine d_str ?_
  refine .inr ⟨6, _, _, rfl, rfl, Nat.le_of_ble_eq_true rfl, ?_⟩
  refine s_cons (s_set 3 ?_ HN)
  refine WE.mono (Q := fun d => d = nI (maxFo fams + 1)) ?_ (fun d hd => ?_)
  · refine d_add ?_
    refine d_maxT rfl hr.u2 G.b_max ?_
    refine d_add ?_
    refine d_dsub hr.u1 ?_ (fun _ _ => rfl)
    refine d_own 6 rfl ?_
    refine d_str ?_
    refine ⟨_, rfl, 6, _, _, rfl, rfl, ?_⟩
    refine d_tup ?_
    refine a_cons ?_
    refine d_int ?_
    refine a_nil ⟨by simp, ?_⟩
    refine ⟨fams_len n3 hfams, ?_⟩
    refine ⟨x0, xs, hx1, ?_⟩
    refine d_int ?_
    rw [hx2]; rfl
  subst hd
  refine s_cons (s_asg ?_)
  refine d_tup ?_
  refine a_nil ⟨by simp, ?_⟩
  refine g_sub hr.u1 ?_
  refine d_own 6 rfl ?_
  refine d_str ?_
  refine .inr ⟨6, _, _, rfl, rfl, Nat.le_of_ble_eq_true rfl, ?_⟩
  refine s_cons (s_for rfl ?_)
  refine i_range1 G.b_range ?_
  refine d_mul ?_
  refine d_call (c__law_draw G) hr ?_
  refine a_cons ?_
  refine d_name 0 rfl ?_
  refine a_cons ?_
  refine d_int ?_
  refine a_nil ⟨3, rfl, by omega, by omega, fun r r0 r1 => ?_⟩
  refine d_int1 G.b_int ?_
  refine d_gt ?_
  refine d_name 2 rfl ?_
  refine d_int ?_
  refine ⟨trivial, ?_⟩
  refine ⟨.inl ⟨by omega, by omega⟩, ?_⟩
  obtain ⟨k, hk, k0, k2, k3⟩ : ∃ k : Int, r * (if decide ((n : Int) > 1) = true then 1 else 0) = k ∧ 0 ≤ k ∧ k ≤ 2 ∧ (n = 1 → k = 0) := by
    by_cases h : (n : Int) > 1
    · rw [if_pos (by simpa using h)]; exact ⟨_, rfl, by omega, by omega, fun e => by omega⟩
    · rw [if_neg (by simpa using h)]; exact ⟨_, rfl, by omega, by omega, fun e => by omega⟩
  rw [hk]
  refine ⟨_, rfl, by omega, by omega, ?_⟩
  refine ⟨fun i δ => ∃ (sg : List (List Nat × List (List Nat))) (dl : List Dat) (s4 s7 s8 s9 s10 s11 : Sl), δ = [.d .well, .d (nI 3), .d (nI n), .d (nI (maxFo fams + 1)), s4, .d (dNames n), .own p__law_p (.dct ((dctF ⟨n, hor, mach, stock, modes, cals, wins, fams, lags, [], false, 0, none⟩).take 9 ++ [(.inr "singles", .tup dl)])), s7, s8, s9, s10, s11] ∧ dl = sg.map dSingle ∧ sg.length ≤ i ∧ (∀ s ∈ sg, OkSS n (maxFo fams + 1) s) ∧ ∀ (i j : Nat) s t, i < j → sg[i]? = some s → sg[j]? = some t → (t.1.filter fun a => decide (a ∈ s.1)).length ≤ 1, ⟨[], _, _, _, _, _, _, _, rfl, rfl, by simp, by simp, fun i j s t h e => by simp at e⟩, fun i δ _ _ => trivial, fun i d δ ed hI => ?_, fun δ hI => ?_⟩
  · obtain ⟨sg, dl, s4, s7, s8, s9, s10, s11, rfl, hdl, hsl, hsg, hap⟩ := hI
    have hi := rangeD_lt ed
    have n2 : 2 ≤ n := by omega
    refine g_name 4 ?_ HN
    refine s_cons (s_set 7 ?_ HN)
    refine d_call (c__law_single G) hr ?_
    refine a_cons ?_
    refine d_name 0 rfl ?_
    refine a_cons ?_
    refine d_name 2 rfl ?_
    refine a_cons ?_
    refine d_name 3 rfl ?_
    refine a_nil ⟨n, maxFo fams + 1, rfl, n2, n3, by omega, by omega, fun s hs => ?_⟩
    subst hdl
    refine s_cons (s_setLc 8 (own := [("_law_row", 10)]) (is := [10]) rfl HN (by kernel_rfl) ?_)
    refine i_seq ?_
    refine d_dsub hr.u1 ?_ (fun _ _ => rfl)
    refine d_own 6 rfl ?_
    refine d_str ?_
    refine ⟨_, rfl, 6, _, _, rfl, rfl, ?_⟩
    refine lcq_filter (h := dSingle) (p := fun w => decide (1 < (w.1.filter fun a => decide (a ∈ s.1)).length)) (by omega) trivial (fun i z ez Y N y n => ?_) ?_
    · intro s5 H5 C5 cl5 fp5
      have hzs := hsg z (List.mem_of_getElem? ez)
      have hz3 := asc_len hzs.asc hzs.lt
      refine n_name 10 ?_ HN
      intro s6 H6 C6 cl6 fp6
      refine ts_one ?_
      refine t_gt ?_
      refine d_len G.b_len ?_
      refine d_lc (own := [("_law_a", 11)]) (is := [11]) rfl HN (by kernel_rfl) ?_
      refine i_seq ?_
      refine d_sub ?_
      refine d_name 10 rfl ?_
      refine d_int ?_
      refine ⟨_, rfl, ?_⟩
      refine lcq_filter (h := nI) (p := fun a => decide (a ∈ s.1)) (by omega) trivial (fun i z ez Y N y n => ?_) ?_
      · intro s5 H5 C5 cl5 fp5
        refine n_name 11 ?_ HN
        intro s6 H6 C6 cl6 fp6
        refine ts_one ?_
        refine t_in hr.u65 ?_
        refine d_name 11 rfl ?_
        refine d_sub ?_
        refine d_name 7 rfl ?_
        refine d_int ?_
        refine ⟨_, rfl, ?_⟩
        refine .inl ⟨_, .inr rfl, rfl, fl_nats, ?_⟩
        rw [any_nats]
        refine if_x (fun h68 => ?_) (fun h68 => ?_)
        · intro s7 H7 C7 cl7 fp7
          refine d_name 11 rfl ?_
          exact y (by simpa using h68)
        · exact n (by simpa using h68)
      refine d_int ?_
      refine ⟨trivial, ?_⟩
      refine q_b ?_
      refine if_x (fun h72 => ?_) (fun h72 => ?_)
      · intro s7 H7 C7 cl7 fp7
        refine d_name 10 rfl ?_
        exact y (by simp at h72 ⊢; omega)
      · exact n (by simp at h72 ⊢; omega)
    refine s_one (s_asg ?_)
    refine d_add ?_
    refine d_dsub hr.u1 ?_ (fun _ _ => rfl)
    refine d_own 6 rfl ?_
    refine d_str ?_
    refine ⟨_, rfl, 6, _, _, rfl, rfl, ?_⟩
    refine d_mul ?_
    refine d_tup ?_
    refine a_cons ?_
    refine d_name 7 rfl ?_
    refine a_nil ⟨by simp, ?_⟩
    refine d_int1 G.b_int ?_
    refine d_eq0 hr.u0 ?_
    refine d_name 8 rfl ?_
    refine d_lst ?_
    refine a_nil ⟨by simp, ?_⟩
    refine ⟨_, .inr ⟨rfl, rfl⟩, ?_⟩
    refine ⟨by simp, by split <;> decide, by split <;> decide, by simp, ?_⟩
    refine ⟨by rw [len_rep, List.length_map, List.length_singleton]; split <;> simp <;> omega, ?_⟩
    refine g_sub hr.u1 ?_
    refine d_own 6 rfl ?_
    refine d_str ?_
    refine .inr ⟨6, _, _, rfl, rfl, Nat.le_of_ble_eq_true rfl, ?_⟩
    obtain ⟨sg2, e1, e2, e3, e4⟩ := apart_step hs hap hsg hsl
    exact ⟨sg2, _, _, _, _, _, _, _, rfl, e1, e2, e3, e4⟩
  · obtain ⟨sg, dl, s4, s7, s8, s9, s10, s11, rfl, hdl, hsl, hsg, hap⟩ := hI
    have hkl : (rangeD 0 k.toNat).length = k.toNat := by unfold rangeD; simp
    rw [hkl] at hsl
    subst hdl
    refine s_cons (s_asg ?_)
    refine WE.mono (Q := fun d => ∃ ov : Nat, d = .tup [.tup [], .tup [], nI ov, .tup []] ∧ ov ≤ 3) ?_ (fun d hd => ?_)
    · refine d_tup ?_
      refine a_cons ?_
      refine d_tup ?_
      refine a_nil ⟨by simp, ?_⟩
      refine a_cons ?_
      refine d_tup ?_
      refine a_nil ⟨by simp, ?_⟩
      refine a_cons ?_
      refine d_call (c__law_draw G) hr ?_
      refine a_cons ?_
      refine d_name 0 rfl ?_
      refine a_cons ?_
      refine d_int ?_
      refine a_nil ⟨4, rfl, by omega, by omega, fun r r0 r1 => ?_⟩
      refine a_cons ?_
      refine d_tup ?_
      refine a_nil ⟨by simp, ?_⟩
      refine a_nil ⟨by simp, ?_⟩
      exact ⟨r.toNat, congrArg (fun i => Dat.tup [.tup [], .tup [], .int i, .tup []]) (show r = (r.toNat : Int) by omega), by omega⟩
    obtain ⟨ov, rfl, hov⟩ := hd
    refine g_tup (n := 4) rfl ⟨rfl, ?_⟩
    refine g_cons ?_
    refine g_sub hr.u1 ?_
    refine d_own 6 rfl ?_
    refine d_str ?_
    refine .inr ⟨6, _, _, rfl, rfl, Nat.le_of_ble_eq_true rfl, ?_⟩
    refine g_cons ?_
    refine g_sub hr.u1 ?_
    refine d_own 6 rfl ?_
    refine d_str ?_
    refine .inr ⟨6, _, _, rfl, rfl, Nat.le_of_ble_eq_true rfl, ?_⟩
    refine g_cons ?_
    refine g_sub hr.u1 ?_
    refine d_own 6 rfl ?_
    refine d_str ?_
    refine .inr ⟨6, _, _, rfl, rfl, Nat.le_of_ble_eq_true rfl, ?_⟩
    refine g_cons ?_
    refine g_sub hr.u1 ?_
    refine d_own 6 rfl ?_
    refine d_str ?_
    refine .inr ⟨6, _, _, rfl, rfl, Nat.le_of_ble_eq_true rfl, ?_⟩
    refine g_nil ?_
    refine s_join (fun δ => ∃ crew s4 s7 s8 s9 s10 s11, δ = [.d .well, .d (nI 3), .d (nI n), .d (nI (maxFo fams + 1)), s4, .d (dNames n), .own p__law_p (.dct (dctF ⟨n, hor, mach, stock, modes, cals, wins, fams, lags, sg, crew, ov, none⟩)), s7, s8, s9, s10, s11]) (s_if ?_) (fun δ hJ => ?_)
    · refine t_eq hr.u64 ?_
      refine d_call (c__law_draw G) hr ?_
      refine a_cons ?_
      refine d_name 0 rfl ?_
      refine a_cons ?_
      refine d_int ?_
      refine a_nil ⟨3, rfl, by omega, by omega, fun r r0 r1 => ?_⟩
      refine d_int ?_
      refine .inl ⟨_, rfl, ?_⟩
      refine if_x (fun h87 => ?_) (fun h87 => ?_)
      · refine s_one (s_asg ?_)
        refine WE.mono (Q := fun d => d = .tup [dCrew true, dAsks true n]) ?_ (fun d hd => ?_)
        · refine d_tup ?_
          refine a_cons ?_
          refine d_tup ?_
          refine a_cons ?_
          refine d_tup ?_
          refine a_cons ?_
          refine d_str ?_
          refine a_nil ⟨by simp, ?_⟩
          refine a_cons ?_
          refine d_tup ?_
          refine a_cons ?_
          refine d_str ?_
          refine a_cons ?_
          refine d_str ?_
          refine a_nil ⟨by simp, ?_⟩
          refine a_nil ⟨by simp, ?_⟩
          refine a_cons ?_
          refine d_tuple G.b_tuple ?_
          refine d_mul ?_
          refine d_lst ?_
          refine a_cons ?_
          refine d_tup ?_
          refine a_cons ?_
          refine d_tup ?_
          refine a_cons ?_
          refine d_str ?_
          refine a_cons ?_
          refine d_int ?_
          refine a_nil ⟨by simp, ?_⟩
          refine a_nil ⟨by simp, ?_⟩
          refine a_nil ⟨by simp, ?_⟩
          refine d_name 2 rfl ?_
          refine ⟨by omega, by omega, by simp, ?_⟩
          refine a_nil ⟨by simp, ?_⟩
          unfold dCrew dAsks
          rw [rep_one]
          rfl
        subst hd
        refine g_tup (n := 2) rfl ⟨rfl, ?_⟩
        refine g_cons ?_
        refine g_sub hr.u1 ?_
        refine d_own 6 rfl ?_
        refine d_str ?_
        refine .inr ⟨6, _, _, rfl, rfl, Nat.le_of_ble_eq_true rfl, ?_⟩
        refine g_cons ?_
        refine g_sub hr.u1 ?_
        refine d_own 6 rfl ?_
        refine d_str ?_
        refine .inr ⟨6, _, _, rfl, rfl, Nat.le_of_ble_eq_true rfl, ?_⟩
        refine g_nil ?_
        exact ⟨true, _, _, _, _, _, _, rfl⟩
      · refine s_nil ?_
        exact ⟨false, _, _, _, _, _, _, rfl⟩
    obtain ⟨crew, s4, s7, s8, s9, s10, s11, rfl⟩ := hJ
    refine s_join (fun δ => ∃ late s4 s7 s8 s9 s10 s11, δ = [.d .well, .d (nI 3), .d (nI n), .d (nI (maxFo fams + 1)), s4, .d (dNames n), .own p__law_p (.dct (dctF ⟨n, hor, mach, stock, modes, cals, wins, fams, lags, sg, crew, ov, late⟩)), s7, s8, s9, s10, s11] ∧ ∀ l : List (Option (Nat × Nat)), late = some l → l.length = n ∧ ∀ x y, some (x, y) ∈ l → x ≤ 2 ∧ y ≤ 3) (s_if ?_) (fun δ hJ => ?_)
    · refine t_eq hr.u64 ?_
      refine d_call (c__law_draw G) hr ?_
      refine a_cons ?_
      refine d_name 0 rfl ?_
      refine a_cons ?_
      refine d_int ?_
      refine a_nil ⟨3, rfl, by omega, by omega, fun r r0 r1 => ?_⟩
      refine d_int ?_
      refine .inl ⟨_, rfl, ?_⟩
      refine if_x (fun h96 => ?_) (fun h96 => ?_)
      · refine s_one (s_asg ?_)
        refine d_tuple G.b_tuple ?_
        refine d_lc (own := [("_law_name", 9)]) (is := [9]) rfl HN (by kernel_rfl) ?_
        refine i_seq ?_
        refine d_name 5 rfl ?_
        refine lcq_rel (h := dLateO) (R := fun (_ : Str) (o : Option (Nat × Nat)) => ∀ x y, o = some (x, y) → x ≤ 2 ∧ y ≤ 3) (by omega) trivial (fun i z ez Y N y => ?_) (fun ll hll => ?_)
        · intro s5 H5 C5 cl5 fp5
          refine n_name 9 ?_ HN
          intro s6 H6 C6 cl6 fp6
          refine ts_nil (if_t rfl ?_)
          intro s7 H7 C7 cl7 fp7
          refine d_call (c__law_one G) hr ?_
          refine a_cons ?_
          refine d_name 0 rfl ?_
          refine a_cons ?_
          refine d_lst ?_
          refine a_cons ?_
          refine d_non ?_
          refine a_cons ?_
          refine d_tup ?_
          refine a_cons ?_
          refine d_int ?_
          refine a_cons ?_
          refine d_int ?_
          refine a_nil ⟨by simp, ?_⟩
          refine a_cons ?_
          refine d_tup ?_
          refine a_cons ?_
          refine d_int ?_
          refine a_cons ?_
          refine d_int ?_
          refine a_nil ⟨by simp, ?_⟩
          refine a_nil ⟨by simp, ?_⟩
          refine a_nil ⟨_, rfl, by simp, by simp, fun dw hdw => ?_⟩
          obtain ⟨o, rfl, ho⟩ := one_late hdw
          exact y o ho
        refine g_sub hr.u1 ?_
        refine d_own 6 rfl ?_
        refine d_str ?_
        refine .inr ⟨6, _, _, rfl, rfl, Nat.le_of_ble_eq_true rfl, ?_⟩
        exact ⟨some ll, _, _, _, _, _, _, rfl, fun l e => by cases e; exact ⟨by rw [← hll.len]; exact hnl, fun x y h => hll.allP _ h x y rfl⟩⟩
      · refine s_nil ?_
        exact ⟨none, _, _, _, _, _, _, rfl, fun l e => by cases e⟩
    obtain ⟨late, s4, s7, s8, s9, s10, s11, rfl, hlate⟩ := hJ
    refine s_freeze 6 rfl ?_
    refine s_one (s_ret ?_)
    refine d_name 6 rfl ?_
    exact q _ (drawn_ok n1 n3 hr3 hr6 hmm hss hmo hcals hwins hfams ⟨hl1, hl2⟩ (by omega) hsg hap hov hlate)
end
end DL

/-! DfU -/
set_option Elab.async false
set_option linter.all false
set_option maxRecDepth 100000
set_option maxHeartbeats 4000000
set_option pp.maxSteps 300
set_option pp.deepTerms false
namespace DL
open PySem PySem.Spec PyProof.Rows L2
open NdefX (NTab TabsN TabN)
open Mth
section
variable {W : Wd} {ad : Ads}
theorem times_len {p : PrjM} {ch : List Nat} {rs : List RuleM} {m : Option Nat} {r : Option (List Nat × List Nat)} (h : TimesIs p ch rs m r) : ∀ l g, r = some (l, g) → l.length = p.n ∧ g.length = p.n := fun l g e => by
  subst e
  exact ⟨h.1.len, h.2.1.len⟩
theorem toPys_rows : ∀ rows : List (List Nat), toPys (rows.map dNats) = some (rows.map fun r => PyData.tuple (r.map fun n : Nat => PyData.int (n : Int)))
  | [] => rfl
  | r :: rows => by
    have e : toPy (dNats r) = some (.tuple (r.map fun n : Nat => PyData.int (n : Int))) := by
      have h := toPys_ints (r.map fun n : Nat => (n : Int))
      rw [List.map_map, List.map_map] at h
      show toPy (.tup (r.map nI)) = _
      rw [toPy, show r.map nI = r.map (Dat.int ∘ fun n : Nat => (n : Int)) from rfl, h]
      rfl
    rw [List.map_cons, toPys, e, toPys_rows rows]
    rfl
theorem lay_ints : ∀ r : List Nat, PyData.canLayAll0 (r.map fun n : Nat => PyData.int (n : Int)) = true
  | [] => rfl
  | n :: r => by
    rw [List.map_cons]
    unfold PyData.canLayAll0
    rw [lay_ints r]
    rfl
theorem lay_rows : ∀ rows : List (List Nat), PyData.canLayAll0 (rows.map fun r => PyData.tuple (r.map fun n : Nat => PyData.int (n : Int))) = true
  | [] => rfl
  | r :: rows => by
    rw [List.map_cons]
    unfold PyData.canLayAll0
    rw [lay_rows rows, Bool.and_true]
    unfold PyData.canLay0
    exact lay_ints r
theorem dep_ints (r : List Nat) : PyData.depthAll (r.map fun n : Nat => PyData.int (n : Int)) ≤ 1 := by
  have h := depth_ints (r.map fun n : Nat => (n : Int))
  rw [List.map_map] at h
  exact h
theorem dep_tup (r : List Nat) : (PyData.tuple (r.map fun n : Nat => PyData.int (n : Int))).depth ≤ 2 := by
  unfold PyData.depth
  have := dep_ints r
  omega
theorem dep_rows : ∀ rows : List (List Nat), PyData.depthAll (rows.map fun r => PyData.tuple (r.map fun n : Nat => PyData.int (n : Int))) ≤ 2
  | [] => Nat.zero_le _
  | r :: rows => by
    rw [List.map_cons]
    unfold PyData.depthAll
    exact Nat.max_le.mpr ⟨dep_tup r, dep_rows rows⟩
theorem in_rows {F : Bool → Prop} {l : List Nat} {rows : List (List Nat)} (h : l ∈ rows) (q : F true) : inQ (dNats l) (.lst (rows.map dNats)) F := by
  have h1 := toPys_rows [l]
  have h2 : toPy (dNats l) = some (.tuple (l.map fun n : Nat => PyData.int (n : Int))) := by
    rw [List.map_cons, toPys] at h1
    cases e : toPy (dNats l) with
    | none => rw [e] at h1; cases h1
    | some z =>
      rw [e] at h1
      have h1 := Option.some.inj h1
      simp only [List.map_cons] at h1
      injection h1 with h1 _
      rw [h1]
  have s1 : SeqAt.shaped (.tuple (l.map fun n : Nat => PyData.int (n : Int))) = true := by
    unfold SeqAt.shaped
    rw [Bool.and_eq_true]
    refine ⟨?_, decide_eq_true (by have := dep_tup l; omega)⟩
    unfold PyData.canLay0
    exact lay_ints l
  refine .inr (.inr ⟨_, rows.map dNats, _, rfl, h2, toPys_rows rows, s1, ?_, ?_⟩)
  · unfold SeqAt.shaped
    rw [Bool.and_eq_true]
    refine ⟨?_, decide_eq_true ?_⟩
    · unfold PyData.canLay0
      exact lay_rows rows
    · unfold PyData.depth
      have := dep_rows rows
      omega
  · have e : ((rows.map fun r => PyData.tuple (r.map fun n : Nat => PyData.int (n : Int))).any fun z => PyData.eqv z (.tuple (l.map fun n : Nat => PyData.int (n : Int)))) = true := by
      rw [List.any_eq_true]
      refine ⟨_, List.mem_map.mpr ⟨l, h, rfl⟩, ?_⟩
      exact SeqAt.eqv_refl _ (Bool.and_eq_true_iff.mp s1).1
    rw [e]
    exact q
theorem head_at {l : List Nat} (h : l ≠ []) : atI (l.map nI) 0 = some (nI (l.headD 0)) := by
  cases l with
  | nil => exact absurd rfl h
  | cons a r => exact atI_nat' (i := 0) (show (List.map nI (a :: r))[0]? = _ from rfl)
theorem getD_firsts {n a : Nat} {f : Nat → Nat} (h : a < n) : ((List.range n).map f).getD a 0 = f a := by
  simp [List.getD, h]
def S__law_project (ad : Ads) : Sc := fun ds Q => ∃ p : PrjM, ds = [dDct p] ∧ OkP p ∧ Q (dPrj ad p)
def S__law_right : Sc := fun ds Q => ds = [.well] ∧ Q (.bl true)
set_option maxHeartbeats 8000000 in
theorem c__law_right (G : Gl0 W ad) (hP : CalD W 13 "_law_project" (S__law_project ad) []) : CalD W 14 "_law_right" S__law_right [] := by
  refine cal_of (N := ["_law_well_here", "_law_p", "_law_turn", "_law_made", "_law_many", "_law_told", "_law_more", "_law_chosen", "_law_pairs_here", "_law_bound", "_law_some", "_law_firsts", "_law_at", "_law_one_here", "_law_first"]) (ps := ["_law_well_here"]) G.d__law_right (by decide +kernel) (fun _ _ _ _ _ _ us hl => match us, hl with | [_], _ => rfl) (fun ds Q hS => by obtain ⟨rfl, q⟩ := hS; rfl) fun f cdv A outer s H E md0 ds Q hr hS => ?_
  obtain ⟨rfl, q⟩ := hS
  have HN : (["_law_well_here", "_law_p", "_law_turn", "_law_made", "_law_many", "_law_told", "_law_more", "_law_chosen", "_law_pairs_here", "_law_bound", "_law_some", "_law_firsts", "_law_at", "_law_one_here", "_law_first"] : List Str).Nodup := by decide
  refine s_cons (s_set 1 ?_ HN)
  refine d_call (c__law_drawn G) hr ?_
  refine a_cons ?_
  refine d_name 0 rfl ?_
  refine a_cons ?_
  refine d_int ?_
  refine a_nil ⟨rfl, fun p ok => ?_⟩
  have n1 := ok.n1
  have n3 := ok.n3
  have hn : ((nameL.take p.n).map Dat.str).length = p.n := names_len (by omega)
  refine s_cons (s_asg ?_)
  refine d_tup ?_
  refine a_cons ?_
  refine d_call hP hr ?_
  refine a_cons ?_
  refine d_name 1 rfl ?_
  refine a_nil ⟨p, rfl, ok, ?_⟩
  refine a_cons ?_
  refine d_len G.b_len ?_
  refine d_dsub hr.u1 ?_ (fun _ _ => rfl)
  refine d_name 1 rfl ?_
  refine d_str ?_
  refine ⟨_, rfl, _, rfl, ?_⟩
  refine a_nil ⟨by simp, ?_⟩
  refine g_tup (n := 2) rfl ⟨rfl, ?_⟩
  refine g_cons ?_
  refine g_name 3 ?_ HN
  refine g_cons ?_
  refine g_name 4 ?_ HN
  refine g_nil ?_
  rw [hn]
  refine s_cons (s_for rfl ?_)
  refine i_range1 G.b_range ?_
  refine d_int ?_
  refine ⟨_, rfl, by omega, by omega, ?_⟩
  refine ⟨fun i δ => ∃ s2 s5 s6 s7 s8 s9 s10 s11 s12 s13 s14, δ = [.d .well, .d (dDct p), s2, .d (dPrj ad p), .d (nI p.n), s5, s6, s7, s8, s9, s10, s11, s12, s13, s14], ⟨_, _, _, _, _, _, _, _, _, _, _, rfl⟩, fun i δ _ _ => trivial, fun i d δ ed hI => ?_, fun δ hI => ?_⟩
  · obtain ⟨s2, s5, s6, s7, s8, s9, s10, s11, s12, s13, s14, rfl⟩ := hI
    refine g_name 2 ?_ HN
    refine s_cons (s_asg ?_)
    refine d_tup ?_
    refine a_cons ?_
    refine d_call (c__law_choice G) hr ?_
    refine a_cons ?_
    refine d_name 0 rfl ?_
    refine a_cons ?_
    refine d_name 1 rfl ?_
    refine a_nil ⟨p, rfl, ok, fun ch okc => ?_⟩
    refine a_cons ?_
    refine d_call (c__law_pairs G) hr ?_
    refine a_cons ?_
    refine d_name 0 rfl ?_
    refine a_cons ?_
    refine d_name 4 rfl ?_
    refine a_nil ⟨p.n, rfl, n1, n3, fun ps hps hpl => ?_⟩
    refine a_cons ?_
    refine d_add ?_
    refine d_int ?_
    refine d_call (c__law_draw G) hr ?_
    refine a_cons ?_
    refine d_name 0 rfl ?_
    refine a_cons ?_
    refine d_int ?_
    refine a_nil ⟨8, rfl, by omega, by omega, fun rb rb0 rb1 => ?_⟩
    refine a_nil ⟨by simp, ?_⟩
    refine g_tup (n := 3) rfl ⟨rfl, ?_⟩
    refine g_cons ?_
    refine g_name 7 ?_ HN
    refine g_cons ?_
    refine g_name 8 ?_ HN
    refine g_cons ?_
    refine g_name 9 ?_ HN
    refine g_nil ?_
    obtain ⟨rn, rfl⟩ := Int.eq_ofNat_of_zero_le rb0
    have hpi : ∀ x ∈ ps, x.1 < p.n ∧ x.2 < p.n := fun x hx => ⟨(hps x hx).1, (hps x hx).2.1⟩
    refine s_cons (s_set 5 ?_ HN)
    refine d_callK (c_times1 G) hr ?_
    refine a_cons ?_
    refine d_name 3 rfl ?_
    refine a_cons ?_
    refine d_name 7 rfl ?_
    refine a_nil ?_
    refine k_cons ?_
    refine d_name 8 rfl ?_
    refine k_nil ⟨rfl, rfl, ⟨p, ch, ps, none, rfl, ok, okc, hps, by omega, fun r1 hr1 => ?_⟩⟩
    refine s_cons (s_set 6 ?_ HN)
    refine d_callK (c_times2 G) hr ?_
    refine a_cons ?_
    refine d_name 3 rfl ?_
    refine a_cons ?_
    refine d_name 7 rfl ?_
    refine a_nil ?_
    refine k_cons ?_
    refine d_add ?_
    refine d_name 8 rfl ?_
    refine d_call (c__law_pairs G) hr ?_
    refine a_cons ?_
    refine d_name 0 rfl ?_
    refine a_cons ?_
    refine d_name 4 rfl ?_
    refine a_nil ⟨p.n, rfl, n1, n3, fun ps2 hps2 hpl2 => ?_⟩
    refine ⟨by rw [List.length_map, List.length_map]; omega, ?_⟩
    refine k_cons ?_
    refine d_name 9 rfl ?_
    refine k_nil ⟨rfl, rfl, ⟨p, ch, ps ++ ps2, some (2 + rn), congrArg (fun z => [dPrj ad p, dNats ch, Dat.tup z, nI (2 + rn)]) List.map_append.symm, ok, okc, fun x hx => (List.mem_append.mp hx).elim (hps x) (hps2 x), by rw [List.length_append]; omega, fun r2 hr2 => ?_⟩⟩
    refine s_cons (s_if ?_)
    refine t_bool ?_
    refine w_or ?_
    refine t_not ?_
    refine t_val ?_
    refine d_call (c__law_is_within G) hr ?_
    refine a_cons ?_
    refine d_name 6 rfl ?_
    refine a_cons ?_
    refine d_name 5 rfl ?_
    refine a_nil ⟨p.n, r2, r1, rfl, by omega, within_of hr2 hr1 fun row s => s.fewer, times_len hr2, times_len hr1, ?_⟩
    refine q_b ?_
    refine if_f (by decide) ?_
    refine w_or1 ?_
    refine t_not ?_
    refine t_val ?_
    refine d_call (c__law_is_within G) hr ?_
    refine a_cons ?_
    refine d_name 5 rfl ?_
    refine a_cons ?_
    refine d_call (c_times0 G) hr ?_
    refine a_cons ?_
    refine d_name 3 rfl ?_
    refine a_cons ?_
    refine d_name 7 rfl ?_
    refine a_nil ⟨p, ch, [], none, rfl, ok, okc, by simp, by simp, fun r0 hr0 => ?_⟩
    refine a_nil ⟨p.n, r1, r0, rfl, by omega, within_of hr1 hr0 fun row s => Sol.fewer (a := []) s, times_len hr1, times_len hr0, ?_⟩
    refine q_b ?_
    refine if_f (by decide) ?_
    refine s_nil ?_
    refine s_one (s_if ?_)
    refine t_notN ?_
    refine d_name 5 rfl ?_
    refine if_x (fun h18 => ?_) (fun h18 => ?_)
    · obtain ⟨l, g, rfl⟩ := res_some (by simpa using h18)
      have hl1 := (sol_iff ok).mp hr1.1
      have hg1 := (sol_iff ok).mp hr1.2.1
      have hll := hr1.1.len
      refine s_cons (s_set 10 ?_ HN)
      refine d_call (c__law_all G) hr ?_
      refine a_cons ?_
      refine d_name 1 rfl ?_
      refine a_cons ?_
      refine d_name 7 rfl ?_
      refine a_cons ?_
      refine d_name 8 rfl ?_
      refine a_cons ?_
      refine d_non ?_
      refine a_nil ⟨p, ch, ps, rfl, ok, okc, hpi, ?_⟩
      have hml : l ∈ (rowsN p ch p.n).filter (kept p ch ps) := List.mem_filter.mpr ⟨rows_row.mpr hl1.1, hl1.2⟩
      have hmg : g ∈ (rowsN p ch p.n).filter (kept p ch ps) := List.mem_filter.mpr ⟨rows_row.mpr hg1.1, hg1.2⟩
      have hrows : ((rowsN p ch p.n).filter (kept p ch ps)).length ≤ 1000 := Nat.le_trans (List.length_filter_le _ _) (Nat.le_trans (rowsN_len ok _) (Nat.le_trans (Nat.pow_le_pow_right (n := 7) (j := 3) (by decide) n3) (by decide)))
      refine s_cons (s_if ?_)
      refine t_bool ?_
      refine w_or ?_
      refine t_notin hr.u65 ?_
      refine d_sub ?_
      refine d_name 5 rfl ?_
      refine d_int ?_
      refine ⟨_, rfl, ?_⟩
      refine d_name 10 rfl ?_
      refine in_rows hml ?_
      refine if_f (by decide) ?_
      refine w_or ?_
      refine t_notin hr.u65 ?_
      refine d_sub ?_
      refine d_name 5 rfl ?_
      refine d_int ?_
      refine ⟨_, rfl, ?_⟩
      refine d_name 10 rfl ?_
      refine in_rows hmg ?_
      refine if_f (by decide) ?_
      refine w_or1 ?_
      refine t_not ?_
      refine t_val ?_
      refine d_call (c__law_closed G) hr ?_
      refine a_cons ?_
      refine d_name 0 rfl ?_
      refine a_cons ?_
      refine d_name 1 rfl ?_
      refine a_cons ?_
      refine d_name 7 rfl ?_
      refine a_cons ?_
      refine d_name 8 rfl ?_
      refine a_cons ?_
      refine d_name 10 rfl ?_
      refine a_nil ⟨p, ch, ps, _, rfl, ok, okc, hpi, List.ne_nil_of_mem hml, hrows, fun r hr2 => (sol_iff ok).mpr ⟨rows_row.mp (List.mem_filter.mp hr2).1, (List.mem_filter.mp hr2).2⟩, ?_⟩
      refine q_b ?_
      refine if_f (by decide) ?_
      refine s_nil ?_
      refine s_cons (s_if ?_)
      refine t_not ?_
      refine t_val ?_
      refine d_call (c__law_bound_right G) hr ?_
      refine a_cons ?_
      refine d_name 1 rfl ?_
      refine a_cons ?_
      refine d_name 3 rfl ?_
      refine a_cons ?_
      refine d_name 7 rfl ?_
      refine a_cons ?_
      refine d_name 8 rfl ?_
      refine a_cons ?_
      refine d_name 5 rfl ?_
      refine a_nil ⟨p, ch, ps, l, g, rfl, ok, okc, hps, by omega, hr1, ?_⟩
      refine q_b ?_
      refine if_f (by decide) ?_
      refine s_nil ?_
      refine s_cons (s_setLc 11 (own := [("_law_at", 12)]) (is := [12]) rfl HN (by kernel_rfl) ?_)
      refine i_range1 G.b_range ?_
      refine d_name 4 rfl ?_
      refine ⟨_, rfl, by omega, by omega, ?_⟩
      rw [range0_nat]
      refine lcq_map (h := fun i => nI ((poss p ch i none).headD 0)) (by rw [List.length_range]; omega) trivial (fun i z ez Y N y => ?_) ?_
      · intro s5 H5 C5 cl5 fp5
        obtain ⟨rfl, hz⟩ := range_get ez
        have hfl := first_le hr1.1 hz
        refine n_name 12 ?_ HN
        intro s6 H6 C6 cl6 fp6
        refine ts_nil (if_t rfl ?_)
        intro s7 H7 C7 cl7 fp7
        refine d_sub ?_
        refine d_call (c_possible_starts0 G) hr ?_
        refine a_cons ?_
        refine d_name 3 rfl ?_
        refine a_cons ?_
        refine d_name 7 rfl ?_
        refine a_cons ?_
        refine d_name 12 rfl ?_
        refine a_nil ⟨p, ch, z, none, rfl, ok, okc, hz, ?_⟩
        refine d_int ?_
        refine ⟨_, head_at hfl.1, ?_⟩
        exact y
      rw [show ((List.range p.n).map fun i => nI ((poss p ch i none).headD 0)) = ((List.range p.n).map fun i => (poss p ch i none).headD 0).map nI from by rw [List.map_map]; rfl]
      refine s_one (s_if ?_)
      refine t_ne0 hr.u0 ?_
      refine d_lc (own := [("_law_one_here", 13), ("_law_first", 14)]) (is := [13, 14]) rfl HN (by kernel_rfl) ?_
      refine i_zip G.b_zip ?_
      refine d_sub ?_
      refine d_name 5 rfl ?_
      refine d_int ?_
      refine ⟨_, rfl, ?_⟩
      refine d_name 11 rfl ?_
      refine q_zip (δ' := []) (xs := l.map nI) (ys := ((List.range p.n).map fun i => (poss p ch i none).headD 0).map nI) ?_
      rw [zip_nats]
      refine lcq_filter (h := fun _ => .int 1) (p := fun q => decide (q.1 < q.2)) (by rw [zip_len hll (by rw [List.length_map, List.length_range])]; omega) ⟨trivial, trivial⟩ (fun i z ez Y N y n => ?_) ?_
      · intro s5 H5 C5 cl5 fp5
        refine n_tup (n := 2) rfl ⟨rfl, ?_⟩
        refine n_cons1 ?_
        refine n_name 13 ?_ HN
        refine n_cons1 ?_
        refine n_name 14 ?_ HN
        refine n_nil ?_
        intro s6 H6 C6 cl6 fp6
        refine ts_one ?_
        refine t_lt ?_
        refine d_name 13 rfl ?_
        refine d_name 14 rfl ?_
        refine ⟨trivial, ?_⟩
        refine q_b ?_
        refine if_x (fun h36 => ?_) (fun h36 => ?_)
        · intro s7 H7 C7 cl7 fp7
          refine d_int ?_
          exact y (by simp at h36 ⊢; omega)
        · exact n (by simp at h36 ⊢; omega)
      refine d_lst ?_
      refine a_nil ⟨by simp, ?_⟩
      refine ⟨_, .inr ⟨rfl, rfl⟩, ?_⟩
      have hz1 : (l.zip ((List.range p.n).map fun i => (poss p ch i none).headD 0)).filter (fun q => decide (q.1 < q.2)) = [] := zip_fnone hll (by rw [List.length_map, List.length_range]) fun a ha => decide_eq_false (Nat.not_lt.mpr (by rw [getD_firsts ha]; exact (first_le hr1.1 ha).2))
      refine if_f (by rw [hz1]; decide) ?_
      refine s_nil ?_
      exact ⟨_, _, _, _, _, _, _, _, _, _, _, rfl⟩
    · refine s_nil ?_
      exact ⟨_, _, _, _, _, _, _, _, _, _, _, rfl⟩
  · obtain ⟨s2, s5, s6, s7, s8, s9, s10, s11, s12, s13, s14, rfl⟩ := hI
    refine s_one (s_ret ?_)
    refine d_bl ?_
    exact q
end
end DL

/-! DlR -/
set_option Elab.async false
set_option linter.all false
set_option maxRecDepth 100000
set_option maxHeartbeats 1000000
namespace DL
open PySem PySem.Spec PyProof.Rows L2
open NdefX (NTab TabsN TabN)
section
variable {X : Cx} {B : Bx} {K : PySem.W.Frag} {δ : List Sl} {σ : L2.St} {md : Addr → Md} {H H' : Hp} {E : DE} {Q Q' : Dat → Prop} {e a b c o i : Expr} {es : List Expr} {sts : List Stmt} {pos p p2 p3 : Pos} {x y z : Str}
/-! ### a def that makes a well -/
abbrev WB (x y z : Int) : Prop := 0 ≤ x ∧ 0 ≤ y ∧ y < 2147483647 ∧ 0 ≤ z
def spWell (T : List NTab) : Sp := fun vs H Q _ => ∃ (md : Addr → Md) (c : Int), vs = [.int c] ∧ TabsN T H ∧ Live md H ∧ ∀ (p : Addr) (H' : Hp) (x y z : Int), H p = none → TabsN T H' → Ex md H H' → H' p = some (.lst [.int x, .int y, .int z]) → WB x y z → Q (.ref p) H'
structure WellF (W : Wd) (k : Nat) (x : Str) : Prop where
  ex : ∃ (f : Addr) (fd : FuncData) (ps : List Str), FnOk W.P W.w W.K W.mg W.base C8.CX0 k f fd ps (spWell W.T) ∧ W.mg x = some (.ref f) ∧ PySem.W.keepIn W.K (.ref f) = true ∧ Binds W.K fd ps []
theorem well_of {W : Wd} {x c : Str} {st : Stmt} {N : List Str} {k : Nat} {es : List Expr} {p1 p2 : Pos} (D : DefF W x st) (C : C8.scC N [c] (defScope st) = true)
    (hbind : ∀ (kV doc pm : Value) (an : Option Addr) (cdv ct : Value) (us : List Value), us.length = 1 → bindArgs (PySem.W.fnOf x x (defArgs st) (defBody st) (defScope st) .none kV doc pm an cdv ct) ⟨us, []⟩ = pure ([c].zip us))
    (hbody : defBody st = [.Return (some (.List es p1)) p2])
    (hb : ∀ (f : Addr) (cdv : Value) (A : Around) (outer : List Env) (s : Shared) (H : Hp) (E : XK) (md0 : Addr → Md) (n : Int), Room k (cxD W N x (defScope st) f cdv A outer s H E).A →
      WA (cxD W N x (defScope st) f cdv A outer s H E) (bxD W md0 H) es (enterD N.length [.int n]) fun ds => ∃ x y z : Int, ds = [.int x, .int y, .int z] ∧ WB x y z) : WellF W (k + 1) x := by
  obtain ⟨f, fd, F, hm⟩ := D.ex
  refine ⟨f, fd, [c], ?_, hm, F.kp, F.bindsN hbind⟩
  refine F.ok (C8.fnScope_by C) (fun vs H Q E ⟨md, n, ev, _⟩ => by rw [ev]; rfl) fun cdv A outer s H vs Q E hr ⟨md, n, ev, t, l, kk⟩ => ⟨_, pss_can.nox, ?_⟩
  subst ev
  have R : Rep W.K (bxD W md H) md (enterD N.length [.int n]) (L2.start N [.int n]) H := Rep.enter (K := W.K) (B := bxD W md H) t l (.cons (.int n) .nil)
  rw [hbody]
  refine PSs.can (pss_one ps_can) (PS.can (ps_ret pe_can) (PE.can (pe_lst pa_can) (hb f cdv A outer s H E md n hr md _ H _ R fun vs' H1 ds x1 R1 r1 ⟨x, y, z, ed, hw⟩ => ?_)))
  subst ed
  have ev : vs' = [.int x, .int y, .int z] := by
    cases r1 with
    | cons h1 r1 => cases r1 with
      | cons h2 r1 => cases r1 with
        | cons h3 r1 => cases r1; rw [h1.intE, h2.intE, h3.intE]
  subst ev
  exact ⟨sz_of (by show 3 ≤ 100000; decide), fun p hp => kk p _ x y z (x1.dom p hp) (tabs_new R1.tabs hp) (x1.trans (ex_new hp)) upd_same hw⟩
theorem Rep.ownNew {p : Addr} {o : HO} (R : Rep K B md δ σ H) (hp : H p = none) (x : Ex md H H') (t : TabsN B.T H') (e : H' p = some o) (n : NT o) : Rep K B (mdSet md p .own) δ σ H' where
  tabs := t
  live0 := R.live0
  live := fun a => by
    by_cases q : a = p
    · subst q
      exact ⟨fun _ => ⟨o, e, n⟩, fun z => by rw [mdSet_same] at z; cases z⟩
    · rw [mdSet_ne q]
      exact R.live.grow x a
  ext := Ex.sub R.live0 R.sub R.ext x
  sub := fun a u e => by
    have q : a ≠ p := ne_of_none e (R.fresh0 hp)
    rw [mdSet_ne q]; exact R.sub a u e
  nw := fun a e => by
    by_cases q : a = p
    · subst q; rw [mdSet_same] at e; cases e
    · rw [mdSet_ne q] at e; exact R.nw a e
  sl := fun j s e => by
    obtain ⟨u, e1, z⟩ := R.sl j s e
    refine ⟨u, e1, z.mono (xd_fresh hp x) fun q oo h1 h2 n2 => ?_⟩
    have hq := ne_of_none h2 hp
    exact ⟨by rw [mdSet_ne hq]; exact h1, x.keep q oo (by rw [h1]; exact fun z => by cases z) h2 n2⟩
  len := R.len
  inj := R.inj
theorem f_well {k j : Nat} (c : WellF (wdOf X B) k x) (hr : Room j X.A) (h : WA X B (e :: es) δ fun ds => ∃ n : Int, ds = [.int n] ∧ ∀ x y z : Int, WB x y z → Q (.lst [.int x, .int y, .int z])) (hk : k ≤ j := by decide) (hg : Gl X x := by rfl) (hdb : (x == ("__debug__" : Str)) = false := by decide)
    (he : starEach (e :: es) X.env = (false, eval e X.env) :: starEach es X.env := by rfl) (hpl : (backTo pos (starEach es X.env)).any (·.1) = false := by rfl) : WF X B (.Call (.Name x p) (e :: es) [] pos) δ Q := by
  obtain ⟨f, fd, ps, F, hm, kp, b⟩ := c.ex
  refine fun md σ H Qc R kk => PE.can (pe_call F (hr.mono hk) hg hm kp b .nil (C8.pass0 (E := C8.E0)) pa_can hdb he hpl) (h md σ H _ R fun vs H1 ds x1 R1 r1 ⟨n, ed, q⟩ => ?_)
  subst ed
  obtain ⟨v, ev, r2⟩ := r1.one
  subst ev
  refine ⟨md, n, by rw [List.append_nil, r2.intE], R1.tabs, R1.live, fun p H' x y z hp t xx e w => ?_⟩
  exact kk p H' (.lst [.int x, .int y, .int z]) (x1.dom p hp) (x1.trans xx) (R1.ownNew hp xx t e nt_lst) ⟨_, e, .cons (.int x) (.cons (.int y) (.cons (.int z) .nil))⟩ (q x y z w)
/-- if not f(well): .. , where the own list is the well; it is forgotten then -/
theorem s_ifR (i : Nat) {k j : Nat} {S : Sc} {w : Str} {pp : Addr} {wx wy wz : Int} {p1 : Pos} (c : CalD (wdOf X B) k x S []) (hS : ∀ Q, Q (.bl true) → S [.well] Q) (hr : Room j X.A) (hδ : δ[i]? = some (.own pp (.lst [.int wx, .int wy, .int wz]))) (hw : WB wx wy wz) (q : E.nx (δ.set i .no)) (hk : k ≤ j := by decide)
    (hN : X.N[i]? = some w := by rfl) (hv : Vis X.env.scope w := by first | exact Or.inl rfl | exact Or.inr (Or.inl rfl) | exact Or.inr (Or.inr rfl)) (hd : (w == ("__debug__" : Str)) = false := by decide) (hcd : (w == ("__classdict__" : Str)) = false := by decide)
    (hg : Gl X x := by rfl) (hdb : (x == ("__debug__" : Str)) = false := by decide)
    (he : starEach [.Name w p1] X.env = (false, eval (.Name w p1) X.env) :: starEach [] X.env := by rfl) (hpl : (backTo p2 (starEach [] X.env)).any (·.1) = false := by rfl)
    (hee : ∀ whole, isTrue (.Call (.Name x p) [.Name w p1] [] p2) X.env whole = (do let v ← whole; standAt (Expr.Call (.Name x p) [.Name w p1] [] p2).pos; holding [v] (truthy v)) := by intro _; rfl) :
    WS X B (.If (.UnaryOp .Not (.Call (.Name x p) [.Name w p1] [] p2) p3) sts [] pos) δ E := fun md σ H D R F => by
  obtain ⟨f, fd, ps, vsd, dvs, Fn, hm, kp, b, d, gd⟩ := c.ex
  have ed : dvs = [] := by have := gd md H; cases this; rfl
  subst ed
  refine PS.can (ps_if (pt_not (pt_val (pe_call Fn (hr.mono hk) hg hm kp b d (C8.pass0 (E := C8.E0)) (pa_cons (pe_var hN hv hd hcd) pa_nil he) hdb he hpl) hee)) pss_can pss_can) ?_
  obtain ⟨u, e1, eu, hmd, h0, xs, e2, g⟩ := R.sl i _ hδ
  subst eu
  have exs : xs = [.int wx, .int wy, .int wz] := by
    cases g with
    | cons h1 r1 => cases r1 with
      | cons h2 r1 => cases r1 with
        | cons h3 r1 => cases r1; rw [h1.intE, h2.intE, h3.intE]
  subst exs
  have lv : Live (mdSet md pp .well) H := fun a => by
    by_cases qa : a = pp
    · subst qa
      exact ⟨fun z => (by rw [mdSet_same] at z; cases z), fun _ => ⟨wx, wy, wz, e2, hw⟩⟩
    · rw [mdSet_ne qa]; exact R.live a
  refine ⟨_, e1, ?_⟩
  refine ⟨mdSet md pp .well, _, QB fun k => k = true, R.tabs, lv, .cons (.well mdSet_same ⟨wx, wy, wz, e2, hw⟩) .nil, hS _ rfl, fun v H' d t xx r qd => ?_⟩
  cases d <;> first | exact qd.elim | skip
  rename_i kk
  have hkk : kk = true := qd
  subst hkk
  refine ⟨true, r.blE, ?_⟩
  have ne_p : ∀ a o, H a = some o → o ≠ .lst [.int wx, .int wy, .int wz] → a ≠ pp := fun a o e n z => by
    subst z; rw [e2] at e; exact n (Option.some.inj e).symm
  have hp0 : ∀ a o, B.H0 a = some o → a ≠ pp := fun a o e z => by subst z; rw [h0] at e; cases e
  have keep : ∀ a o, a ≠ pp → md a ≠ .well → H a = some o → NT o → H' a = some o := fun a o ha hm e n => xx.keep a o (by rw [mdSet_ne ha]; exact hm) e n
  have R2 : Rep X.K B (mdSet md pp .imm) (δ.set i .no) σ H' := by
    have Rf := R.forget i
    refine ⟨t, R.live0, fun a => ?_, ⟨fun a o hm e n => ?_, fun a hm hw => ?_, fun a e => R.ext.dom a (xx.dom a e)⟩, fun a o e => ?_, fun a e => ?_, fun j s e => ?_, Rf.len, Rf.inj⟩
    · by_cases qa : a = pp
      · subst qa
        rw [mdSet_same]
        exact ⟨fun z => (by cases z), fun z => (by cases z)⟩
      · rw [mdSet_ne qa]
        refine ⟨fun z => ?_, fun z => ?_⟩
        · obtain ⟨o, e, n⟩ := (R.live a).1 z
          exact ⟨o, keep a o qa (by rw [z]; exact fun z => by cases z) e n, n⟩
        · exact xx.well a (by rw [mdSet_ne qa]; exact z) ((R.live a).2 z)
    · have qa := hp0 a o e
      exact keep a o qa (by rw [R.sub a o e]; exact hm) (R.ext.keep a o hm e n) n
    · obtain ⟨_, _, _, e, _⟩ := id hw
      have qa := hp0 a _ e
      exact xx.well a (by rw [mdSet_ne qa, R.sub a _ e]; exact hm) (R.ext.well a hm hw)
    · rw [mdSet_ne (hp0 a o e)]; exact R.sub a o e
    · by_cases qa : a = pp
      · subst qa; rw [mdSet_same] at e; cases e
      · rw [mdSet_ne qa] at e; exact R.nw a e
    · obtain ⟨u, e1, z⟩ := Rf.sl j s e
      cases s with
      | no => exact ⟨u, e1, trivial⟩
      | d dd =>
        obtain ⟨v, ev, rd⟩ := z
        refine ⟨u, e1, v, ev, rd.monoX ⟨fun a o hm e n => ?_, fun a hm hw => ?_⟩⟩
        · have qa : a ≠ pp := fun z => by subst z; rw [hmd] at hm; cases hm
          exact ⟨by rw [mdSet_ne qa]; exact hm, keep a o qa (by rw [hm]; exact fun z => by cases z) e n⟩
        · have qa : a ≠ pp := fun z => by subst z; rw [hmd] at hm; cases hm
          exact ⟨by rw [mdSet_ne qa]; exact hm, xx.well a (by rw [mdSet_ne qa]; exact hm) hw⟩
      | own p2 dd =>
        obtain ⟨ev, hm2, h02, ow⟩ := z
        have qa : p2 ≠ pp := fun z => by
          subst z
          rcases get_set e with ⟨_, z, _⟩ | ⟨q1, e⟩
          · cases z
          · exact q1 (R.inj i j _ _ _ hδ e)
        refine ⟨u, e1, ev, by rw [mdSet_ne qa]; exact hm2, h02, ow.mono ⟨fun a o hm e n => ?_, fun a hm hw => ?_⟩ fun o e n => keep p2 o qa (by rw [hm2]; exact fun z => by cases z) e n⟩
        · have qb : a ≠ pp := fun z => by subst z; rw [hmd] at hm; cases hm
          exact ⟨by rw [mdSet_ne qb]; exact hm, keep a o qb (by rw [hm]; exact fun z => by cases z) e n⟩
        · have qb : a ≠ pp := fun z => by subst z; rw [hmd] at hm; cases hm
          exact ⟨by rw [mdSet_ne qb]; exact hm, xx.well a (by rw [mdSet_ne qb]; exact hm) hw⟩
  refine PSs.can pss_nil (F.nx (mdSet md pp .imm) (δ.set i .no) σ H' ⟨fun a o hm e n => ?_, fun a hm hw => ?_⟩ R2 q)
  · have qa : a ≠ pp := fun z => by subst z; rw [hmd] at hm; cases hm
    exact ⟨by rw [mdSet_ne qa]; exact hm, keep a o qa (by rw [hm]; exact fun z => by cases z) e n⟩
  · have qa : a ≠ pp := fun z => by subst z; rw [hmd] at hm; cases hm
    exact ⟨by rw [mdSet_ne qa]; exact hm, xx.well a (by rw [mdSet_ne qa]; exact hm) hw⟩
end
end DL

/-! DfV -/
set_option Elab.async false
set_option linter.all false
set_option maxRecDepth 100000
set_option maxHeartbeats 4000000
set_option pp.maxSteps 300
set_option pp.deepTerms false
namespace DL
open PySem PySem.Spec PyProof.Rows L2
open NdefX (NTab TabsN TabN)
open Mth
section
variable {W : Wd} {ad : Ads}
theorem cut_len {α : Type} {xs : List α} {lo hi : Option Int} : (cutD xs lo hi).length ≤ xs.length := by
  unfold cutD
  rw [List.length_take, List.length_drop]
  omega
theorem cut_mem {α : Type} {xs : List α} {lo hi : Option Int} {x : α} (h : x ∈ cutD xs lo hi) : x ∈ xs := List.mem_of_mem_drop (List.mem_of_mem_take h)
theorem da_ints {K : PySem.W.Frag} {lt : Nat → LT} {md : Addr → Md} {H : Hp} : ∀ ns : List Int, DA K lt md H (ns.map V.int) (ns.map Dat.int)
  | [] => .nil
  | n :: r => .cons (.int n) (da_ints r)
/-- a slice of the script -/
theorem d_slGl {X : Cx} {B : Bx} {δ : List Sl} {Q : Dat → Prop} {a : Expr} {lo hi : Option Expr} {pos p2 : Pos} {pp : Addr} {ns : List Int} (h0 : SqL X.K B.H0 pp (ns.map V.int)) (hm : B.md0 pp ≠ .well) (h : WE X B a δ fun x => x = .gl pp ∧ WO X B lo δ fun l => WO X B hi δ fun u => Q (.lst (cutD (ns.map Dat.int) l u))) : WE X B (.Subscript a (.Slice lo hi none p2) pos) δ Q := fun md σ H Qc R k =>
  PE.can (pe_slice (sl_tupA.or sl_list) pe_can po_can po_can) (h md σ H _ R fun vx H1 dx x1 R1 r1 ⟨ed, hb⟩ => hb.run R1 fun l H2 x2 R2 hc => hc.run R2 fun u H3 x3 R3 hr => by
    subst ed
    have x13 := x1.trans (x2.trans x3)
    have s3 : SqL X.K H3 pp (ns.map V.int) := by
      rcases h0 with (e | ⟨o, e⟩) | z
      · exact .inl (.inl (R3.ext.keep _ _ hm e nt_lst))
      · exact .inl (.inr ⟨o, R3.ext.keep _ _ hm e nt_frz⟩)
      · exact .inr z
    refine .inr ⟨pp, _, by rw [r1.glE], s3, fun p hp => ?_⟩
    obtain ⟨x4, R4, r⟩ := fin_lst R3 ((da_ints (K := X.K) (lt := B.lt) (md := md) (H := H3) ns).cut l u) hp
    exact k _ _ _ (x13.trans x4) R4 r hr)
theorem c__law_well (G : Gl0 W ad) : WellF W 1 "_law_well" := by
  refine well_of (N := ["_law_cell"]) (c := "_law_cell") (k := 0) G.d__law_well (by decide +kernel) (fun _ _ _ _ _ _ us hl => match us, hl with | [_], _ => rfl) rfl fun f cdv A outer s H E md0 n hr => ?_
  refine a_cons ?_
  refine d_mul ?_
  refine d_name 0 rfl ?_
  refine d_int1 G.b_int ?_
  refine d_ge ?_
  refine d_name 0 rfl ?_
  refine d_pow ?_
  refine d_int ?_
  refine d_int ?_
  refine ⟨by show (0 : Int) ≤ 18 ∧ (18 : Int) ≤ 1000000 ∧ (10 : Int).natAbs < 2 ^ 64; decide, ?_⟩
  refine ⟨trivial, ?_⟩
  refine ⟨.inr (by split <;> decide), ?_⟩
  refine a_cons ?_
  refine d_mod ?_
  refine d_int1 G.b_int ?_
  refine d_name 0 rfl ?_
  refine d_int ?_
  refine ⟨by show (0 : Int) < 2147483647; decide, ?_⟩
  refine a_cons ?_
  refine d_int ?_
  refine a_nil ⟨_, _, _, rfl, ?_, Int.emod_nonneg _ (by decide), Int.emod_lt_of_pos _ (by decide), by decide⟩
  split
  · rename_i h
    have h := of_decide_eq_true h
    have h2 : (0 : Int) ≤ 10 ^ (18 : Int).toNat := by decide
    omega
  · omega
def spLaw (K : PySem.W.Frag) (T : List NTab) : Sp := fun vs H Q _ => ∃ (a : Addr) (ns : List Int), vs = [.ref a] ∧ ns.length ≤ 63 ∧ SqL K H a (ns.map V.int) ∧ TabsN T H ∧ ∀ H', Q (.bl true) H'
theorem f_law (G : Gl0 W ad) (hP : CalD W 13 "_law_project" (S__law_project ad) []) {f : Addr} {fd : FuncData} {kws : List (Str × V)} (F : FunD W.K "law" "law" (defArgs (top 115)) (defBody (top 115)) (defScope (top 115)) [] kws f fd) : FnOk W.P W.w W.K W.mg W.base C8.CX0 16 f fd ["_law_script"] (spLaw W.K W.T) := by
  refine F.ok (C8.fnScope_by (N := ["_law_script", "_law_cell", "_law_well_here"]) (by decide +kernel)) (fun vs H Q E ⟨a, ns, ev, _⟩ => by rw [ev]; rfl) fun cdv A outer s H vs Q E hr ⟨a, ns, ev, hlen, hS, t, qq⟩ => ?_
  subst ev
  have R : Rep W.K (bxD W (fun _ => Md.imm) H) (fun _ => Md.imm) (enterD 3 [.gl a]) (L2.start ["_law_script", "_law_cell", "_law_well_here"] [.ref a]) H :=
    Rep.enter (K := W.K) (B := bxD W (fun _ => Md.imm) H) (N := ["_law_script", "_law_cell", "_law_well_here"]) t (fun b => ⟨fun z => (by cases z), fun z => (by cases z)⟩) (.cons (.gl a) .nil)
  have HN : (["_law_script", "_law_cell", "_law_well_here"] : List Str).Nodup := by decide
  have hb : WSs (cxD W ["_law_script", "_law_cell", "_law_well_here"] "law" (defScope (top 115)) f cdv A outer s H E) (bxD W (fun _ => Md.imm) H) (defBody (top 115)) (enterD 3 [.gl a]) { nx := fun _ => False, rt := fun d => d = .bl true } := by
    refine s_cons (s_for rfl ?_)
    refine i_seq ?_
    refine d_add ?_
    refine d_slGl (ns := ns) hS (fun z => by cases z) ?_
    refine d_name 0 rfl ?_
    refine ⟨rfl, ?_⟩
    refine id ?_
    refine d_int ?_
    refine ⟨_, rfl, ?_⟩
    refine d_lst ?_
    refine a_cons ?_
    refine d_int ?_
    refine a_nil ⟨by simp, ?_⟩
    refine ⟨by have := cut_len (xs := ns.map Dat.int) (lo := none) (hi := some 4); rw [List.length_map] at this; show _ + 1 ≤ 1000; omega, ?_⟩
    refine ⟨fun i δ => ∃ s1, δ = [.d (.gl a), s1, .no], ?_, fun i δ _ _ => trivial, fun i d δ ed hI => ?_, fun δ hI => ?_⟩
    · exact ⟨_, rfl⟩
    · obtain ⟨s1, rfl⟩ := hI
      have hd : ∃ n : Int, d = .int n := by
        rcases List.mem_append.mp (List.mem_of_getElem? ed) with h | h
        · obtain ⟨n, _, e⟩ := List.mem_map.mp (cut_mem h)
          exact ⟨n, e.symm⟩
        · exact ⟨0, List.mem_singleton.mp h⟩
      obtain ⟨n, rfl⟩ := hd
      refine g_name 1 ?_ HN
      refine s_cons (s_setF 2 (f_well (c__law_well G) hr ?_) HN)
      refine a_cons ?_
      refine d_name 1 rfl ?_
      refine a_nil ⟨n, rfl, fun x y z hw p => ?_⟩
      refine s_one (s_ifR 2 (c__law_right G hP) (fun Q q => ⟨rfl, q⟩) hr rfl hw ?_)
      exact ⟨_, rfl⟩
    · obtain ⟨s1, rfl⟩ := hI
      refine s_one (s_ret ?_)
      refine d_bl ?_
      rfl
  refine ⟨_, pss_can.nox, hb _ (L2.start ["_law_script", "_law_cell", "_law_well_here"] [.ref a]) H _ R ⟨fun _ _ _ _ _ _ z => z.elim, fun _ _ _ _ _ _ z => z.elim, fun _ _ _ _ _ _ z => z.elim, fun md' δ' σ' H' v d x R r q => ?_⟩⟩
  subst q
  rw [r.blE]
  exact qq H'
end
end DL

/-! DlS -/
set_option Elab.async false
set_option linter.all false
set_option maxRecDepth 100000
set_option maxHeartbeats 1000000
namespace DL
open PySem PySem.Spec PyProof.Rows L2
open NdefX (NTab TabsN TabN)
section
variable {X : Cx} {pins : List (Addr × Obj)} {σ : L2.St} {H : Hp} {s : Shared}
theorem tabsN_snoc {T : List NTab} {nm : Nat → Nat → Str} {P c' : Addr} {q : Str} {ps : Array Value} {pos : Pos} (hT : TabsN T H) (hP : H P = some (.tbl ps)) (ht : TriplesOk ps.toList) (hu : ∀ p ∈ T, p.1 = P → p.2 = nm) (hn : nm pos.line pos.col = q) (nC : H c' = none)
    (ha : ∀ (pos : Pos) (cv : Value), codeAmong pos ps.toList = some cv → ∃ c, cv = .ref c ∧ H c = some (LamX.CodeO c (nm pos.line pos.col))) :
    TabsN T (upd (upd H P (.tbl (ps ++ #[rawInt pos.line, rawInt pos.col, .ref c']))) c' (LamX.CodeO c' q)) := fun p hp => by
  have nPc : P ≠ c' := ne_of_none hP nC
  have up : ∀ b o, H b = some o → (∀ z, o ≠ .tbl z) → upd (upd H P (.tbl (ps ++ #[rawInt pos.line, rawInt pos.col, .ref c']))) c' (LamX.CodeO c' q) b = some o := fun b o e n => by
    rw [upd_ne (ne_of_none e nC), upd_ne (fun z => n ps (by rw [z, hP] at e; exact (Option.some.inj e).symm))]
    exact e
  by_cases hb : p.1 = P
  · have e := hu p hp hb
    rw [e, hb]
    have eL : (ps ++ #[rawInt pos.line, rawInt pos.col, Value.ref c']).toList = ps.toList ++ [rawInt pos.line, rawInt pos.col, Value.ref c'] := by simp
    refine ⟨_, by rw [upd_ne nPc, upd_same], by rw [eL]; exact PySem.TriplesOk_snoc _ _ _ _ ht, fun p' cv hc => ?_⟩
    rw [eL] at hc
    rcases NdefX.among_app2 _ ht hc with z | ⟨z, z1, z2⟩
    · obtain ⟨c0, e1, e2⟩ := ha p' cv z
      exact ⟨c0, e1, up _ _ e2 LamX.codeO_ne⟩
    · refine ⟨c', z, ?_⟩
      rw [← z1, ← z2, hn]
      exact upd_same
  · obtain ⟨qs, a1, a2, a3⟩ := hT p hp
    refine ⟨qs, by rw [upd_ne (ne_of_none a1 nC), upd_ne hb]; exact a1, a2, fun p' cv hc => ?_⟩
    obtain ⟨c0, e1, e2⟩ := a3 p' cv hc
    exact ⟨c0, e1, up _ _ e2 LamX.codeO_ne⟩
/-- a lambda is made; nothing that was tracked is gone -/
theorem lam_make3 {T : List NTab} {nm : Nat → Nat → Str} {c P : Addr} {params : Arguments} {body : Expr} {scope : Scope} {pos : Pos} {E : Value → Shared → Prop} {Q : Value → Shared → Prop} (I : Inv X pins σ H s) (TB : LamX.TabB X.base X.mg c P) (hcode : X.env.code = .ref c)
    (hm : (P, nm) ∈ T) (hn : nm pos.line pos.col = X.env.qual ++ "<lambda>") (hu : ∀ p ∈ T, p.1 = P → p.2 = nm) (hT : TabsN T H) (hdef : defaultsOf params X.env = ([], [])) (hfree : ∀ y ∈ scope.names, y.2 = .free → ∃ c, X.env.cells.lookup y.1 = some c)
    (h : ∀ (f c' : Addr) (pm ctv : Value) (H1 : Hp) (s' : Shared), Inv X pins σ H1 s' → LamX.ExtN H H1 → (∀ b, H1 b = none → H b = none) → TabsN T H1 →
      s'.heap.get? f = some (PySem.W.kla_obj "<lambda>" (X.env.qual ++ "<lambda>") params body scope (cloFrom X.env.cells scope.names []) pm c' ctv) → H1 f = none → f ∉ frs X.stack → H1 c' = some (LamX.CodeO c' (X.env.qual ++ "<lambda>")) → Q (.ref f) s') :
    wpAny (model X.prog X.w) X.A (eval (.Lambda params body scope pos) X.env) Q E s := by
  obtain ⟨ps, hP, ht, ha⟩ := (show TabN H P nm from hT _ hm)
  have bP : s.heap.BuiltinsAt X.mg P := TB.bm.keeps I.bk
  have hP' : s.heap.get? P = some { cls := .none, data := .fields ps } := I.hok P _ hP
  have nofr : ∀ f, s.heap.objs.size ≤ f → f ∉ frs X.stack := fun f hf z => by
    rcases List.mem_cons.mp (I.stkSub _ z) with e | e
    · have h1 := I.lt
      rw [← e] at h1
      exact Nat.lt_irrefl _ (Nat.lt_of_lt_of_le h1 hf)
    · exact I.nofs hf e
  refine PySem.W.kla_eval hdef ?_
  cases hc : codeAmong pos ps.toList with
  | none =>
    refine PySem.W.kla_makeFunction (mg := X.mg) (c := c) (P := P) (ps := ps) (closure_ok hfree) I.ok.glob (I.mod.glob.keeps I.bk) hcode (TB.code.keeps I.bk) hP' ht hc TB.gP bP fun c' ctv h' tk hx hge hlt ⟨c2, oc, vs, t, e2, hoc, hd, hv⟩ htb => ?_
    cases e2
    have nC : H c' = none := I.hok.fresh hge
    have hsz := Nat.le_trans hge (Nat.le_of_lt hlt)
    have I1 := LamX.inv_table (t' := tk) (more := #[rawInt pos.line, rawInt pos.col, .ref c']) (h' := h'.push (PySem.W.kla_obj "<lambda>" (X.env.qual ++ "<lambda>") params body scope (cloFrom X.env.cells scope.names []) ((X.mg "__name__").getD .none) c' ctv)) I hP
      (fun b o hb e => Heap.get?_push_of_some _ (hx b o hb e)) (Heap.get?_push_of_some _ htb) hge ⟨oc, vs, t, Heap.get?_push_of_some _ hoc, hd, hv⟩
    refine h h'.objs.size c' ((X.mg "__name__").getD .none) ctv _ _ I1 (fun b o e n => ?_) (fun b e => NdefX.upd_none (NdefX.upd_none e)) (tabsN_snoc hT hP ht hu hn nC ha) (Heap.get?_push_size _ rfl) ?_ (nofr _ hsz) upd_same
    · rw [upd_ne (ne_of_none e nC), upd_ne (fun z => n ps (by rw [z, hP] at e; exact (Option.some.inj e).symm))]
      exact e
    · rw [upd_ne (Nat.ne_of_gt hlt), upd_ne (Nat.ne_of_gt (Nat.lt_of_lt_of_le (Heap.lt_size hP') hsz))]
      exact I.hok.fresh hsz
  | some cv =>
    obtain ⟨c', e, hco⟩ := ha pos cv hc
    subst e
    rw [hn] at hco
    refine PySem.W.kla_makeFunctionHit (mg := X.mg) (c := c) (P := P) (ps := ps) (closure_ok hfree) I.ok.glob (I.mod.glob.keeps I.bk) hcode (TB.code.keeps I.bk) hP' ht hc bP fun ctv h' tk hx hsz => ?_
    have I1 : Inv X pins σ H { s with heap := h'.push (PySem.W.kla_obj "<lambda>" (X.env.qual ++ "<lambda>") params body scope (cloFrom X.env.cells scope.names []) ((X.mg "__name__").getD .none) c' ctv), toks := tk } := I.kept fun b o e => Heap.get?_push_of_some _ (hx b o e)
    exact h h'.objs.size c' ((X.mg "__name__").getD .none) ctv H _ I1 (LamX.ExtN.refl H) (fun _ e => e) hT (Heap.get?_push_size _ rfl) (I.hok.fresh hsz) (nofr _ hsz) hco
end
end DL

/-! DlT -/
set_option Elab.async false
set_option linter.all false
set_option maxRecDepth 100000
set_option maxHeartbeats 1000000
namespace DL
open PySem PySem.Spec PyProof.Rows L2
open NdefX (NTab TabsN TabN NF NScope CellsAt startF ncx envF inv_startN)
abbrev lamF (qual : Str) (params : Arguments) (scope : Scope) (cl : List (Str × Addr)) (c' : Addr) : NF := ⟨"<lambda>", qual, params, [], scope, cl, c'⟩
section
variable {P : Program} {w : World} {K : PySem.W.Frag} {mg : Str → Option Value} {base : Heap} {N ps fr : List Str} {f c' : Addr} {k : Nat} {qual : Str} {params : Arguments} {body : Expr} {scope : Scope} {cl : List (Str × Addr)} {pm ctv : Value} {A : Around} {outer : List Env} {s : Shared} {H : Hp} {us : List Value} {vs : List V} {ws : List (Option V)} {Q : VK} {E : XK}
/-- a lambda with parameters is called -/
theorem lam_run (S : NScope N ps fr scope) (hbind : bindArgs (PySem.W.kla_fn "<lambda>" qual params body scope cl pm (.ref c') ctv) ⟨us, []⟩ = pure (ps.zip us)) (hr : Room (k + 1) A) (e0 : Env0 P w K mg base A outer s H)
    (ho : s.heap.get? f = some (PySem.W.kla_obj "<lambda>" qual params body scope cl pm c' ctv)) (hc : H c' = some (LamX.CodeO c' qual)) (C : CellsAt cl fr ws s.heap H) (r : Vals vs us) (hl : vs.length = ps.length)
    (hbody : Room k (A.deeper (envF (lamF qual params scope cl c') f s.heap.objs.size)) → tCan (ncx C8.CX0 P w K mg base N (lamF qual params scope cl c') f A outer s H E) body (startF N vs ws) H Q) :
    codeAny (model P w) A (.call (.ref f) ⟨us, []⟩) (CR C8.CX0 outer P w H s Q E) s := by
  have lim : s.heap.NoLimit := e0.mod.nolimit.keeps fun b o e => (e0.bs b o e).1
  refine PySem.W.kla_callFunE hr.depth ho rfl S.co S.gen rfl (NdefX.codeO_at e0.hok hc) ?_
  rw [hbind]
  refine wpAny_pure (wpAny_newFunctionEnv S.nocell (fun ⟨n, _⟩ hy => S.par n (List.of_mem_zip hy).1) (fun h₁ hns hsb => ⟨lim.fresh _ hsb, ?_⟩) S.kind)
  show codeAny _ _ (.expr body (envF (lamF qual params scope cl c') f s.heap.objs.size)) _ _
  have kp : ∀ b o, s.heap.get? b = some o → h₁.get? b = some o := fun b o e => hsb.extBut b o (Nat.ne_of_lt (Heap.lt_size e)) (Heap.get?_push_of_some _ e)
  have J : Inv (ncx C8.CX0 P w K mg base N (lamF qual params scope cl c') f A outer s H E) [] (startF N vs ws) H { s with heap := h₁, toks := s.toks + (ps.zip us).length } := inv_startN S hr.hd e0 hl r C hns kp
  refine PySem.W.kla_codeExpr (wpAny_mono (hbody (hr.deeper _) [] _ J) (fun v s' hq => ?_) fun e s' hq => hq)
  obtain ⟨w', H', J', rv, q⟩ := hq
  exact ⟨w', H', J'.os, J'.bare, J'.base, J'.hok, rv, q⟩
end
end DL

/-! DlU -/
set_option Elab.async false
set_option linter.all false
set_option maxRecDepth 100000
set_option maxHeartbeats 1000000
namespace DL
open PySem PySem.Spec PyProof.Rows L2
open NdefX (NTab TabsN TabN NF NScope CellsAt startF ncx envF inv_startN)
theorem startF_start {N : List Str} {vs wv : List V} : startF N vs (wv.map some) = L2.start N (vs ++ wv) := by
  unfold startF L2.start
  rw [List.map_append, List.length_map, List.append_assoc, List.length_append, Nat.sub_sub]
theorem cells_un {l : List Addr} {H H' : Hp} {h h' : Heap} {cl : List (Str × Addr)} {fr : List Str} {ws : List (Option V)} (un : Un l [] H H' h h') (C : CellsAt cl fr ws h H) : CellsAt cl fr ws h' H' := by
  have cellK : ∀ {c : Addr} {v : Option Value}, H c = none → h.IsCell c v → h'.IsCell c v := fun {c v} n ⟨o, ho, hd⟩ => by
    obtain ⟨sl, q⟩ := un.any ho n (by simp)
    exact ⟨_, q, hd⟩
  refine ⟨C.len, fun y c e => ?_, C.inj, fun i y e => ?_⟩
  · obtain ⟨hn, v, hv⟩ := C.all y c e
    obtain ⟨o, ho, hd⟩ := id hv
    exact ⟨un.free c o ho hn (by simp), v, cellK hn hv⟩
  · obtain ⟨c, h1, h2⟩ := C.has i y e
    refine ⟨c, h1, fun v hv => ?_⟩
    obtain ⟨u, ru, hu⟩ := h2 v hv
    exact ⟨u, ru, cellK (C.all y c h1).1 hu⟩
/-- a lambda that stands, its cells too, at the state (s, H) -/
structure LamAt (W : Wd) (qual : Str) (params : Arguments) (body : Expr) (scope : Scope) (fr : List Str) (f : Addr) (wv : List V) (stk : List Env) (s : Shared) (H : Hp) : Prop where
  ex : ∃ (cl : List (Str × Addr)) (c' : Addr) (pm ctv : Value), s.heap.get? f = some (PySem.W.kla_obj "<lambda>" qual params body scope cl pm c' ctv) ∧ H f = none ∧ f ∉ frs stk ∧ H c' = some (LamX.CodeO c' qual) ∧ CellsAt cl fr (wv.map some) s.heap H
section
variable {W : Wd} {Nz Nl fr : List Str} {xz qual : Str} {sc scope : Scope} {g f : Addr} {cdv : Value} {A : Around} {outer : List Env} {s : Shared} {H : Hp} {E : XK} {md0 : Addr → Md} {params : Arguments} {body e : Expr} {δ : List Sl} {Q : Dat → Prop} {a pn : Str} {p1 p2 : Pos} {k j i : Nat} {wv : List V} {dws : List Dat}
theorem d_lamcall (L : LamAt W qual params body scope fr f wv outer s H) (S : NScope Nl [pn] fr scope) (hbind : ∀ (cl : List (Str × Addr)) (pm cv ctv u : Value), bindArgs (PySem.W.kla_fn "<lambda>" qual params body scope cl pm cv ctv) ⟨[u], []⟩ = pure ([pn].zip [u]))
    (hr : Room j (cxD W Nz xz sc g cdv A outer s H E).A) (hk : k + 1 ≤ j) (gw : DA W.K W.lt md0 H wv dws) (hδ : δ[i]? = some (.d (.gl f)))
    (h : WA (cxD W Nz xz sc g cdv A outer s H E) (bxD W md0 H) [e] δ fun ds => ∃ d, ds = [d] ∧ ∀ (A' : Around) (outer' : List Env) (s' : Shared) (H' : Hp) (E' : XK) (cl : List (Str × Addr)) (c' : Addr) (md' : Addr → Md), Room k (ncx C8.CX0 W.P W.w W.K W.mg W.base Nl (lamF qual params scope cl c') f A' outer' s' H' E').A →
      WE (ncx C8.CX0 W.P W.w W.K W.mg W.base Nl (lamF qual params scope cl c') f A' outer' s' H' E') (bxD W md' H') body (enterD Nl.length (d :: dws)) Q)
    (hN : Nz[i]? = some a) (hv : Vis sc a) (hd : (a == ("__debug__" : Str)) = false := by decide) (hcd : (a == ("__classdict__" : Str)) = false := by decide)
    (he : starEach [e] (cxD W Nz xz sc g cdv A outer s H E).env = (false, eval e (cxD W Nz xz sc g cdv A outer s H E).env) :: starEach [] (cxD W Nz xz sc g cdv A outer s H E).env := by rfl) :
    WE (cxD W Nz xz sc g cdv A outer s H E) (bxD W md0 H) (.Call (.Name a p1) [e] [] p2) δ Q := fun md σ HZ Qc RZ kk => by
  obtain ⟨cl, c', pm, ctv, hf, hfn, hfr, hco, C⟩ := L.ex
  obtain ⟨o, e1, v, e2, r⟩ := RZ.sl i _ hδ
  subst e2
  have ev := r.glE
  subst ev
  intro pins sZ IZ
  refine wpAny_Call_Name_kw (thn ((pe_var (X := cxD W Nz xz sc g cdv A outer s H E) (pos := p1) (i := i) hN hv hd hcd).run pins sZ σ HZ (fun v H1 => v = .ref f ∧ H1 = HZ) IZ ⟨.ref f, e1, rfl, rfl⟩) fun u s1 ⟨v, H1, I1, r1, q1⟩ => ?_)
  obtain ⟨ev, eH⟩ := q1
  subst ev
  rw [eH] at I1
  obtain rfl : u = Value.ref f := r1
  have at_ : ∀ {σ' H' s'}, Inv (cxD W Nz xz sc g cdv A outer s H E) pins σ' H' s' → s'.heap.get? f = some (PySem.W.kla_obj "<lambda>" qual params body scope cl pm c' ctv) := fun I => I.base.keep f _ hf hfn hfr (fun z => nomatch (show f ∈ ([] : List Addr) from z))
  refine PySem.W.callWith_F ⟨_, _, _, _, at_ I1⟩ ?_ he rfl
  refine wpAny_mono ((pa_can (X := cxD W Nz xz sc g cdv A outer s H E) (es := [e])).run p2 pins s1 σ HZ (fun vs H2 => ∃ ds, Ex md HZ H2 ∧ Rep W.K (bxD W md0 H) md δ σ H2 ∧ DA W.K W.lt md H2 vs ds ∧ _) I1 (h md σ HZ _ RZ fun vs H2 ds x R2 r q => ⟨ds, x, R2, r, q⟩)) (fun us s2 ⟨vs, H2, I2, r, ds, x, R2, rd, d, ed, hb⟩ => ?_) fun _ _ h => h
  subst ed
  obtain ⟨v, ev, rv⟩ := rd.one
  subst ev
  obtain ⟨u, eu, ru⟩ := vals1 r
  subst eu
  refine ⟨⟨_, _, _, _, at_ I2⟩, ?_⟩
  have un : Un (frs outer) [] H H2 s.heap s2.heap := I2.base
  have hmc : md0 c' ≠ .well := fun z => by
    obtain ⟨_, _, _, e, _⟩ := (R2.live0 c').2 z
    rw [show (bxD W md0 H).H0 c' = H c' from rfl, hco] at e
    unfold LamX.CodeO at e
    cases e
  have hco2 : H2 c' = some (LamX.CodeO c' qual) := R2.ext.keep c' _ hmc hco LamX.codeO_ne
  have xw : XD md0 H md H2 := ⟨fun a o q e n => ⟨by rw [R2.sub a o e]; exact q, R2.ext.keep a o (by rw [show (bxD W md0 H).md0 a = md0 a from rfl, q]; exact fun z => by cases z) e n⟩, fun a q w => by
    obtain ⟨_, _, _, e, _⟩ := id w
    exact ⟨by rw [R2.sub a _ e]; exact q, R2.ext.well a q w⟩⟩
  have rc := lam_run (N := Nl) (Q := Qc) (E := C8.E0) S (hbind cl pm (.ref c') ctv u) (hr.mono hk) I2.env0 (at_ I2) hco2 (cells_un un C) (.cons ru .nil) rfl fun hr' => by
    rw [startF_start]
    exact hb _ _ _ _ _ cl c' md hr' md _ H2 Qc (Rep.enter (K := W.K) (B := bxD W md H2) R2.tabs R2.live (.cons rv (gw.monoX xw))) fun v' H3 d' x3 R3 r3 q3 => kk v' H3 d' (x.trans x3) (R2.grow x3 R3.tabs) r3 q3
  refine wpAny_call (codeAny_mono rc fun r s' hq => ?_)
  cases r with
  | error e => exact (show False from hq).elim
  | ok fl =>
    cases fl with
    | ret u => exact I2.after hq
    | next => exact False.elim hq
    | brk => exact False.elim hq
    | cont => exact False.elim hq
end
end DL

/-! DlV -/
set_option Elab.async false
set_option linter.all false
set_option maxRecDepth 100000
set_option maxHeartbeats 1000000
namespace DL
open PySem PySem.Spec PyProof.Rows L2
open NdefX (NTab TabsN TabN)
/-- a def that makes lambdas: its code object is known, its table too -/
structure DefC (W : Wd) (x : Str) (st : Stmt) (c P : Addr) (nm : Nat → Nat → Str) : Prop where
  ex : ∃ (f : Addr) (oc : Value) (od : Option Addr) (kV doc pm : Value) (an : Option Addr) (ct : Value) (osl : Array (Option Value)), W.mg x = some (.ref f) ∧ PySem.W.keepIn W.K (.ref f) = true ∧
    W.K.lookup f = some ⟨oc, od, .func (PySem.W.fnOf x x (defArgs st) (defBody st) (defScope st) .none kV doc pm an (.ref c) ct), osl⟩ ∧ PySem.W.codeIn W.K (.ref c) x = true
  tb : LamX.TabB W.base W.mg c P
  mem : (P, nm) ∈ W.T
  uniq : ∀ p ∈ W.T, p.1 = P → p.2 = nm
theorem calC_of {W : Wd} {x : Str} {st : Stmt} {N ps : List Str} {k : Nat} {S : Sc} {c P : Addr} {nm : Nat → Nat → Str} (D : DefC W x st c P nm) (C : C8.scC N ps (defScope st) = true)
    (hbind : ∀ (kV doc pm : Value) (an : Option Addr) (cdv ct : Value) (us : List Value), us.length = ps.length → bindArgs (PySem.W.fnOf x x (defArgs st) (defBody st) (defScope st) .none kV doc pm an cdv ct) ⟨us, []⟩ = pure (ps.zip us))
    (hl : ∀ ds Q, S ds Q → ds.length = ps.length)
    (hb : ∀ (f : Addr) (A : Around) (outer : List Env) (s : Shared) (H : Hp) (E : XK) (md0 : Addr → Md) (ds : List Dat) (Q : Dat → Prop), Room k (cxD W N x (defScope st) f (.ref c) A outer s H E).A → S ds Q →
      WSs (cxD W N x (defScope st) f (.ref c) A outer s H E) (bxD W md0 H) (defBody st) (enterD N.length ds) { nx := fun _ => Q .non, rt := Q }) : CalD W (k + 1) x S [] := by
  obtain ⟨f, oc, od, kV, doc, pm, an, ct, osl, hm, kp, lk, hcd⟩ := D.ex
  refine ⟨f, _, ps, [], [], ?_, hm, kp, .all (hbind kV doc pm an (.ref c) ct), .nil, fun _ _ => .nil⟩
  refine fn_of lk hcd (C8.fnScope_by C) (fun vs H Q E ⟨md, ds, Qd, _, _, g, s, _⟩ => by rw [g.len]; exact hl ds Qd s) fun A outer s H vs Q E hr ⟨md, ds, Qd, t, l, g, hs, kk⟩ => ?_
  refine ⟨_, pss_can.nox, hb f A outer s H E md ds Qd hr hs md (L2.start N vs) H _ (Rep.enter (K := W.K) (B := bxD W md H) t l g) ?_⟩
  exact ⟨fun md' δ' σ' H' x R q => kk .non H' .non R.tabs R.ext .non q, fun _ _ _ _ _ _ z => z.elim, fun _ _ _ _ _ _ z => z.elim, fun md' δ' σ' H' v d x R r q => kk v H' d R.tabs R.ext (DL.D.monoX R.back r) q⟩
end DL

/-! DfW -/
set_option Elab.async false
set_option linter.all false
set_option maxRecDepth 100000
set_option maxHeartbeats 4000000
set_option pp.maxSteps 300
set_option pp.deepTerms false
namespace DL
open PySem PySem.Spec PyProof.Rows L2
open NdefX (NTab TabsN TabN)
open Mth
section
variable {W : Wd} {ad : Ads}
def S_Calendar___init__ : Si := fun ds Q => ∃ c : CalM, ds = [dCyc c, dChs c] ∧ OkC c ∧ Q [("cycle", dCyc c), ("changes", dChs c)]
set_option maxHeartbeats 8000000 in
theorem i_Calendar {f : Addr} {fd : FuncData} {kws : List (Str × V)} (G : Gl0 W ad) (F : FunD W.K "__init__" "Calendar.__init__" (defArgs (clsTop 18 0)) (defBody (clsTop 18 0)) (defScope (clsTop 18 0)) [] kws f fd) : FnOk W.P W.w W.K W.mg W.base C8.CX0 5 f fd ["self", "cycle", "changes"] (Si.sp S_Calendar___init__ W.K W.lt W.T ad.calendar) := by
  refine init_ok (N := ["self", "cycle", "changes"]) F (by decide +kernel) (fun ds Q hS => by obtain ⟨c, rfl, ok, q⟩ := hS; rfl) (by decide) (fun cdv A outer s H H' E md0 pp ds Q hr hS => ?_)
  obtain ⟨c, rfl, ok, q⟩ := hS
  have HN : (["self", "cycle", "changes"] : List Str).Nodup := by decide
  refine s_cons (s_expr ?_)
  refine d_call (c_check_cycle G) hr ?_
  refine a_cons ?_
  refine d_name 1 rfl ?_
  refine a_nil ⟨c.cyc, rfl, ok.l1, by have := ok.l4; omega, ok.tr, ?_⟩
  refine s_cons (s_expr ?_)
  refine d_call (c_check_changes G) hr ?_
  refine a_cons ?_
  refine d_name 2 rfl ?_
  refine a_nil ⟨c.chg, rfl, by have := ok.m; omega, ok.asc, ?_⟩
  refine s_cons (s_fld 0 rfl G.ci_calendar.cl G.na_calendar_cycle (Nat.le_of_ble_eq_true rfl) ?_)
  refine d_tuple G.b_tuple ?_
  refine d_name 1 rfl ?_
  refine d_own 0 rfl ?_
  refine ⟨rfl, ?_⟩
  refine s_one (s_fld 0 rfl G.ci_calendar.cl G.na_calendar_changes (Nat.le_of_ble_eq_true rfl) ?_)
  refine d_tuple G.b_tuple ?_
  refine d_name 2 rfl ?_
  refine d_own 0 rfl ?_
  refine ⟨rfl, ?_⟩
  exact ⟨_, rfl, q⟩
theorem m_Calendar (G : Gl0 W ad) : MakK W 5 "Calendar" ad.calendar S_Calendar___init__ 1 ["changes"] (fun ds zs => ds ++ zs) := by
  obtain ⟨f, fd, kws, M, F, hk⟩ := G.mk_calendar
  obtain ⟨mv, hb⟩ := F.kbinds0 (ps := ["self", "cycle", "changes"]) 2 ["changes"] [] (fun vs ms zs => vs ++ zs) hk (by simp) (fun r1 r2 r3 => r1.append r3) fun D doc pm an cdv ct us mv ws hu hmv hws => by
    match us, hu, mv, hmv, ws, hws with
    | [x, y], _, [], _, [u], _ => exact rfl
  exact ⟨f, fd, _, _, _, M, i_Calendar G F, G.r_Calendar, hb, fun md H v vs zs ds es h1 h2 => ⟨vs ++ zs, rfl, h1.app h2⟩⟩
theorem cals_len {p : PrjM} (ok : OkP p) : (o2l p.cals).length ≤ 3 := by
  cases e : p.cals with
  | none => exact Nat.zero_le _
  | some l => have := (ok.cals l e).1; have := ok.n3; show l.length ≤ 3; omega
theorem cal_mem {p : PrjM} (ok : OkP p) {i : Nat} {c : CalM} (e : (o2l p.cals)[i]? = some (some c)) : OkC c := by
  cases h : p.cals with
  | none => rw [h] at e; simp [o2l] at e
  | some l =>
    rw [h] at e
    exact (ok.cals l h).2 c (List.mem_of_getElem? e)
def S__law_calendars_of (ad : Ads) : Sc := fun ds Q => ∃ p : PrjM, ds = [dDct p] ∧ OkP p ∧ Q (dCals ad p)
set_option maxHeartbeats 8000000 in
theorem c__law_calendars_of (G : Gl0 W ad) : CalD W 7 "_law_calendars_of" (S__law_calendars_of ad) [] := by
  refine cal_of (N := ["_law_p", "_law_one_here"]) (ps := ["_law_p"]) G.d__law_calendars_of (by decide +kernel) (fun _ _ _ _ _ _ us hl => match us, hl with | [_], _ => rfl) (fun ds Q hS => by obtain ⟨p, rfl, ok, q⟩ := hS; rfl) fun f cdv A outer s H E md0 ds Q hr hS => ?_
  obtain ⟨p, rfl, ok, q⟩ := hS
  have HN : (["_law_p", "_law_one_here"] : List Str).Nodup := by decide
  refine s_one (s_ret ?_)
  refine d_tuple G.b_tuple ?_
  refine d_lc (own := [("_law_one_here", 1)]) (is := [1]) rfl HN (by kernel_rfl) ?_
  refine i_seq ?_
  refine d_dsub hr.u1 ?_ (fun _ _ => rfl)
  refine d_name 0 rfl ?_
  refine d_str ?_
  refine ⟨_, rfl, _, rfl, ?_⟩
  refine lcq_map (h := dCalO ad) (by have := cals_len ok; omega) trivial (fun i z ez Y N y => ?_) ?_
  · intro s5 H5 C5 cl5 fp5
    
    refine n_name 1 ?_ HN
    intro s6 H6 C6 cl6 fp6
    refine ts_nil (if_t rfl ?_)
    intro s7 H7 C7 cl7 fp7
    refine d_ifE ?_
    refine t_isN ?_
    refine d_name 1 rfl ?_
    refine if_x (fun h2 => ?_) (fun h2 => ?_)
    · have ez2 := raw_none h2
      subst ez2
      refine d_non ?_
      exact y
    · obtain ⟨c, rfl⟩ := raw_some h2
      have okc := cal_mem ok ez
      refine d_makeK (m_Calendar G) hr ?_
      refine a_cons ?_
      refine d_sub ?_
      refine d_name 1 rfl ?_
      refine d_int ?_
      refine ⟨_, rfl, ?_⟩
      refine a_nil ?_
      refine k_cons ?_
      refine d_ptp ?_
      refine d_sub ?_
      refine d_name 1 rfl ?_
      refine d_int ?_
      refine ⟨_, rfl, _, rfl, ?_⟩
      refine k_nil ⟨rfl, rfl, ⟨c, rfl, okc, ?_⟩⟩
      exact y
  exact q
end
end DL

/-! DfX -/
set_option Elab.async false
set_option linter.all false
set_option maxRecDepth 100000
set_option maxHeartbeats 4000000
set_option pp.maxSteps 300
set_option pp.deepTerms false
namespace DL
open PySem PySem.Spec PyProof.Rows L2
open NdefX (NTab TabsN TabN)
open Mth
section
variable {W : Wd} {ad : Ads}
theorem all_map {α : Type} {l : List α} : Dat.lst (l.map (fun _ => Dat.bl true)) = .lst ((l.map fun _ => true).map Dat.bl) := by rw [List.map_map]; rfl
theorem all_true {α : Type} {l : List α} : ((l.map fun _ => true).all fun x => x) = true := by
  rw [List.all_eq_true]
  intro x hx
  obtain ⟨_, _, rfl⟩ := List.mem_map.mp hx
  rfl
theorem late_some {o : Option (Nat × Nat)} (h : ¬ isNon (dLateO o) = true) : ∃ x y, o = some (x, y) := by
  cases o with
  | none => simp [dLateO, isNon] at h
  | some q => exact ⟨q.1, q.2, rfl⟩
theorem asc_step : ∀ {l : List Nat} {z : Nat}, ascN l → z + 1 < l.length → l.getD z 0 < l.getD (z + 1) 0
  | [], _, _, h => by simp at h
  | [a], _, _, h => by simp at h
  | a :: b :: r, 0, h, _ => h.1
  | a :: b :: r, z + 1, h, hl => asc_step (l := b :: r) (z := z) h.2 (by simpa using hl)
theorem dem_le {mach dem : List Nat} (h : F2 (fun c d => d ≤ c) mach dem) (hm : ∀ x ∈ mach, x ≤ 2) : ∀ x ∈ dem, x ≤ 2 := fun x hx => by
  obtain ⟨c, hc, hd⟩ := h.mem hx
  have := hm c hc
  omega
theorem zip_le : ∀ {mach dem : List Nat}, F2 (fun c d => d ≤ c) mach dem → ∀ {q : Nat × Nat}, q ∈ dem.zip mach → q.1 ≤ q.2
  | _, _, .nil, q, h => by simp at h
  | _, _, .cons h1 r, q, h => by
    rw [List.zip_cons_cons] at h
    rcases List.mem_cons.mp h with rfl | h
    · exact h1
    · exact zip_le r h
def S_are_between : Sc := fun ds Q => ∃ (xs : List Nat) (n : Nat) (a b : Int), ds = [dNats xs, nI n, .int a, .int b] ∧ xs.length = n ∧ n ≤ 1000 ∧ (∀ x ∈ xs, a ≤ (x : Int) ∧ (x : Int) ≤ b) ∧ Q (.bl true)
set_option maxHeartbeats 8000000 in
theorem c_are_between (G : Gl0 W ad) : CalD W 3 "are_between" S_are_between [] := by
  refine cal_of (N := ["value", "many", "low", "high", "one"]) (ps := ["value", "many", "low", "high"]) G.d_are_between (by decide +kernel) (fun _ _ _ _ _ _ us hl => match us, hl with | [_, _, _, _], _ => rfl) (fun ds Q hS => by obtain ⟨xs, n, a, b, rfl, hl, hn, hx, q⟩ := hS; rfl) fun f cdv A outer s H E md0 ds Q hr hS => ?_
  obtain ⟨xs, n, a, b, rfl, hl, hn, hx, q⟩ := hS
  have HN : (["value", "many", "low", "high", "one"] : List Str).Nodup := by decide
  refine s_cons (s_if ?_)
  refine t_bool ?_
  refine w_or ?_
  refine t_not ?_
  refine t_val ?_
  refine d_isi G.b_isinstance ?_
  refine d_name 0 rfl ?_
  refine d_blt (n := "tuple") G.b_tuple boot_tuple ?_
  refine isiQ_ty rfl kb_tup_tup ?_
  refine q_b ?_
  refine if_f (by decide) ?_
  refine w_or1 ?_
  refine t_ne hr.u64 ?_
  refine d_len G.b_len ?_
  refine d_name 0 rfl ?_
  refine d_name 1 rfl ?_
  refine .inl ⟨_, rfl, ?_⟩
  refine if_f (by rw [List.length_map, hl]; simp) ?_
  refine s_nil ?_
  refine s_one (s_ret ?_)
  refine d_all rfl G.b_all ?_
  refine d_lc (own := [("one", 4)]) (is := [4]) rfl HN (by kernel_rfl) ?_
  refine i_seq ?_
  refine d_name 0 rfl ?_
  refine lcq_map (h := fun _ => .bl true) (by omega) trivial (fun i z ez Y N y => ?_) ?_
  · intro s5 H5 C5 cl5 fp5
    have hz := hx z (List.mem_of_getElem? ez)
    refine n_name 4 ?_ HN
    intro s6 H6 C6 cl6 fp6
    refine ts_nil (if_t rfl ?_)
    intro s7 H7 C7 cl7 fp7
    refine d_call (c_is_between G) hr ?_
    refine a_cons ?_
    refine d_name 4 rfl ?_
    refine a_cons ?_
    refine d_name 2 rfl ?_
    refine a_cons ?_
    refine d_name 3 rfl ?_
    refine a_nil ⟨z, a, b, rfl, hz.1, hz.2, ?_⟩
    exact y
  refine ⟨_, all_map, ?_⟩
  exact q_tt all_true q
def S_is_late : Sc := fun ds Q => ∃ o : Option (Nat × Nat), ds = [dLateO o] ∧ (∀ x y, o = some (x, y) → x ≤ 2 ∧ y ≤ 3) ∧ Q (.bl true)
set_option maxHeartbeats 8000000 in
theorem c_is_late (G : Gl0 W ad) : CalD W 3 "is_late" S_is_late [] := by
  refine cal_of (N := ["value"]) (ps := ["value"]) G.d_is_late (by decide +kernel) (fun _ _ _ _ _ _ us hl => match us, hl with | [_], _ => rfl) (fun ds Q hS => by obtain ⟨o, rfl, ho, q⟩ := hS; rfl) fun f cdv A outer s H E md0 ds Q hr hS => ?_
  obtain ⟨o, rfl, ho, q⟩ := hS
  have HN : (["value"] : List Str).Nodup := by decide
  refine s_cons (s_if ?_)
  refine t_isN ?_
  refine d_name 0 rfl ?_
  refine if_x (fun h1 => ?_) (fun h1 => ?_)
  · refine s_one (s_ret ?_)
    refine d_bl ?_
    exact q
  · obtain ⟨x, y, rfl⟩ := late_some h1
    have hb := ho x y rfl
    refine s_nil ?_
    refine s_cons (s_if ?_)
    refine t_bool ?_
    refine w_or ?_
    refine t_not ?_
    refine t_val ?_
    refine d_isi G.b_isinstance ?_
    refine d_name 0 rfl ?_
    refine d_blt (n := "tuple") G.b_tuple boot_tuple ?_
    refine isiQ_ty rfl kb_tup_tup ?_
    refine q_b ?_
    refine if_f (by decide) ?_
    refine w_or1 ?_
    refine t_ne hr.u64 ?_
    refine d_len G.b_len ?_
    refine d_name 0 rfl ?_
    refine d_int ?_
    refine .inl ⟨_, rfl, ?_⟩
    refine if_f (by simp) ?_
    refine s_nil ?_
    refine s_one (s_ret ?_)
    refine d_and ?_
    refine d_call (c_is_between G) hr ?_
    refine a_cons ?_
    refine d_sub ?_
    refine d_name 0 rfl ?_
    refine d_int ?_
    refine ⟨_, rfl, ?_⟩
    refine a_cons ?_
    refine d_int ?_
    refine a_cons ?_
    refine d_gint G.i_MAX_TIME ?_
    refine a_nil ⟨_, _, _, rfl, by omega, by omega, ?_⟩
    refine q_b (if_t (rfl) ?_)
    refine d_one ?_
    refine d_call (c_is_between G) hr ?_
    refine a_cons ?_
    refine d_sub ?_
    refine d_name 0 rfl ?_
    refine d_int ?_
    refine ⟨_, rfl, ?_⟩
    refine a_cons ?_
    refine d_int ?_
    refine a_cons ?_
    refine d_gint G.i_MAX_AMOUNT ?_
    refine a_nil ⟨_, _, _, rfl, by omega, by omega, ?_⟩
    exact q
def S_is_window : Sc := fun ds Q => ∃ w : Nat × Option Nat, ds = [dWin w] ∧ w.1 ≤ 3 ∧ (∀ d, w.2 = some d → d ≤ 8) ∧ Q (.bl true)
set_option maxHeartbeats 8000000 in
theorem c_is_window (G : Gl0 W ad) : CalD W 3 "is_window" S_is_window [] := by
  refine cal_of (N := ["value"]) (ps := ["value"]) G.d_is_window (by decide +kernel) (fun _ _ _ _ _ _ us hl => match us, hl with | [_], _ => rfl) (fun ds Q hS => by obtain ⟨w, rfl, h1, h2, q⟩ := hS; rfl) fun f cdv A outer s H E md0 ds Q hr hS => ?_
  obtain ⟨w, rfl, h1, h2, q⟩ := hS
  have HN : (["value"] : List Str).Nodup := by decide
  refine s_cons (s_if ?_)
  refine t_bool ?_
  refine w_or ?_
  refine t_not ?_
  refine t_val ?_
  refine d_isi G.b_isinstance ?_
  refine d_name 0 rfl ?_
  refine d_blt (n := "tuple") G.b_tuple boot_tuple ?_
  refine isiQ_ty rfl kb_tup_tup ?_
  refine q_b ?_
  refine if_f (by decide) ?_
  refine w_or ?_
  refine t_ne hr.u64 ?_
  refine d_len G.b_len ?_
  refine d_name 0 rfl ?_
  refine d_int ?_
  refine .inl ⟨_, rfl, ?_⟩
  refine if_f (by simp) ?_
  refine w_or1 ?_
  refine t_not ?_
  refine t_val ?_
  refine d_call (c_is_between G) hr ?_
  refine a_cons ?_
  refine d_sub ?_
  refine d_name 0 rfl ?_
  refine d_int ?_
  refine ⟨_, rfl, ?_⟩
  refine a_cons ?_
  refine d_int ?_
  refine a_cons ?_
  refine d_gint G.i_MAX_TIME ?_
  refine a_nil ⟨_, _, _, rfl, by omega, by omega, ?_⟩
  refine q_b ?_
  refine if_f (by decide) ?_
  refine s_nil ?_
  refine s_one (s_ret ?_)
  refine d_or ?_
  refine d_isN ?_
  refine d_sub ?_
  refine d_name 0 rfl ?_
  refine d_int ?_
  refine ⟨_, rfl, ?_⟩
  refine q_b (if_x (fun h10 => ?_) (fun h10 => ?_))
  · exact q
  · obtain ⟨dd, edd⟩ := opt_some (by simpa using h10)
    have hdd := h2 dd edd
    refine d_one ?_
    refine d_call (c_is_between G) hr ?_
    refine a_cons ?_
    refine d_sub ?_
    refine d_name 0 rfl ?_
    refine d_int ?_
    refine ⟨_, (show atI [nI w.1, dOpt w.2] 1 = some (nI dd) from by rw [edd]; rfl), ?_⟩
    refine a_cons ?_
    refine d_int ?_
    refine a_cons ?_
    refine d_gint G.i_MAX_TIME ?_
    refine a_nil ⟨_, _, _, rfl, by omega, by omega, ?_⟩
    exact q
def S_is_set : Sc := fun ds Q => ∃ (xs : List Nat) (n : Nat), ds = [dNats xs, nI n] ∧ ascN xs ∧ (∀ x ∈ xs, x < n) ∧ n ≤ 1000 ∧ 1 ≤ xs.length ∧ Q (.bl true)
set_option maxHeartbeats 8000000 in
theorem c_is_set (G : Gl0 W ad) : CalD W 3 "is_set" S_is_set [] := by
  refine cal_of (N := ["value", "many", "at", "one"]) (ps := ["value", "many"]) G.d_is_set (by decide +kernel) (fun _ _ _ _ _ _ us hl => match us, hl with | [_, _], _ => rfl) (fun ds Q hS => by obtain ⟨xs, n, rfl, ha, hx, hn, h1, q⟩ := hS; rfl) fun f cdv A outer s H E md0 ds Q hr hS => ?_
  obtain ⟨xs, n, rfl, ha, hx, hn, h1, q⟩ := hS
  have HN : (["value", "many", "at", "one"] : List Str).Nodup := by decide
  have hl := asc_len ha hx
  have hlm : (List.map nI xs).length = xs.length := List.length_map ..
  refine s_cons (s_if ?_)
  refine t_bool ?_
  refine w_or ?_
  refine t_not ?_
  refine t_val ?_
  refine d_isi G.b_isinstance ?_
  refine d_name 0 rfl ?_
  refine d_blt (n := "tuple") G.b_tuple boot_tuple ?_
  refine isiQ_ty rfl kb_tup_tup ?_
  refine q_b ?_
  refine if_f (by decide) ?_
  refine w_or1 ?_
  refine t_not ?_
  refine t_val ?_
  refine d_all rfl G.b_all ?_
  refine d_lc (own := [("one", 3)]) (is := [3]) rfl HN (by kernel_rfl) ?_
  refine i_seq ?_
  refine d_name 0 rfl ?_
  refine lcq_map (h := fun _ => .bl true) (by omega) trivial (fun i z ez Y N y => ?_) ?_
  · intro s5 H5 C5 cl5 fp5
    have hz := hx z (List.mem_of_getElem? ez)
    refine n_name 3 ?_ HN
    intro s6 H6 C6 cl6 fp6
    refine ts_nil (if_t rfl ?_)
    intro s7 H7 C7 cl7 fp7
    refine d_call (c_is_index G) hr ?_
    refine a_cons ?_
    refine d_name 3 rfl ?_
    refine a_cons ?_
    refine d_name 1 rfl ?_
    refine a_nil ⟨_, _, rfl, by omega, by omega, ?_⟩
    exact y
  refine ⟨_, all_map, ?_⟩
  refine q_b ?_
  refine if_f (by rw [all_true]; decide) ?_
  refine s_nil ?_
  refine s_one (s_ret ?_)
  refine d_all rfl G.b_all ?_
  refine d_lc (own := [("at", 2)]) (is := [2]) rfl HN (by kernel_rfl) ?_
  refine i_range1 G.b_range ?_
  refine d_sub2 ?_
  refine d_len G.b_len ?_
  refine d_name 0 rfl ?_
  refine d_int ?_
  refine ⟨trivial, ?_⟩
  refine ⟨_, rfl, by omega, by omega, ?_⟩
  rw [rangeD0 (n := xs.length - 1) (by rw [List.length_map]; omega)]
  refine lcq_map (h := fun _ => .bl true) (by rw [List.length_range]; omega) trivial (fun i z ez Y N y => ?_) ?_
  · intro s5 H5 C5 cl5 fp5
    obtain ⟨rfl, hz⟩ := range_get ez
    refine n_name 2 ?_ HN
    intro s6 H6 C6 cl6 fp6
    refine ts_nil (if_t rfl ?_)
    intro s7 H7 C7 cl7 fp7
    refine d_lt ?_
    refine d_sub ?_
    refine d_name 0 rfl ?_
    refine d_name 2 rfl ?_
    refine ⟨_, at_map 0 (by omega), ?_⟩
    refine d_sub ?_
    refine d_name 0 rfl ?_
    refine d_add ?_
    refine d_name 2 rfl ?_
    refine d_int ?_
    refine ⟨_, show atI (xs.map nI) ((z : Int) + 1) = _ from at_map (a := z + 1) 0 (by omega), ?_⟩
    refine ⟨trivial, ?_⟩
    exact q_tt (decide_eq_true (by have := asc_step ha (show z + 1 < xs.length by omega); omega)) y
  refine ⟨_, all_map, ?_⟩
  exact q_tt all_true q
def S_is_mode : Sc := fun ds Q => ∃ (mach stock : List Nat) (m : ModeM), ds = [dMode m, dNats mach, dNats stock] ∧ mach.length ≤ 3 ∧ stock.length ≤ 2 ∧ (∀ x ∈ mach, x ≤ 2) ∧ OkMM mach stock m ∧ Q (.bl true)
set_option maxHeartbeats 8000000 in
theorem c_is_mode (G : Gl0 W ad) : CalD W 4 "is_mode" S_is_mode [] := by
  refine cal_of (N := ["value", "machines", "stocks", "work", "demands", "uses", "cost", "one", "capacity"]) (ps := ["value", "machines", "stocks"]) G.d_is_mode (by decide +kernel) (fun _ _ _ _ _ _ us hl => match us, hl with | [_, _, _], _ => rfl) (fun ds Q hS => by obtain ⟨mach, stock, m, rfl, hml, hsl, hm2, ok, q⟩ := hS; rfl) fun f cdv A outer s H E md0 ds Q hr hS => ?_
  obtain ⟨mach, stock, m, rfl, hml, hsl, hm2, ok, q⟩ := hS
  have HN : (["value", "machines", "stocks", "work", "demands", "uses", "cost", "one", "capacity"] : List Str).Nodup := by decide
  have w1 := ok.work
  have w2 := ok.cost
  have dl := ok.dem.len
  have ul := ok.uses.len
  refine s_cons (s_if ?_)
  refine t_bool ?_
  refine w_or ?_
  refine t_not ?_
  refine t_val ?_
  refine d_isi G.b_isinstance ?_
  refine d_name 0 rfl ?_
  refine d_blt (n := "tuple") G.b_tuple boot_tuple ?_
  refine isiQ_ty rfl kb_tup_tup ?_
  refine q_b ?_
  refine if_f (by decide) ?_
  refine w_or1 ?_
  refine t_ne hr.u64 ?_
  refine d_len G.b_len ?_
  refine d_name 0 rfl ?_
  refine d_int ?_
  refine .inl ⟨_, rfl, ?_⟩
  refine if_f (by simp) ?_
  refine s_nil ?_
  refine s_cons (s_asg ?_)
  refine d_name 0 rfl ?_
  refine g_tup (n := 4) rfl ⟨rfl, ?_⟩
  refine g_cons ?_
  refine g_name 3 ?_ HN
  refine g_cons ?_
  refine g_name 4 ?_ HN
  refine g_cons ?_
  refine g_name 5 ?_ HN
  refine g_cons ?_
  refine g_name 6 ?_ HN
  refine g_nil ?_
  refine s_cons (s_if ?_)
  refine t_bool ?_
  refine w_or ?_
  refine t_not ?_
  refine t_val ?_
  refine d_call (c_is_between G) hr ?_
  refine a_cons ?_
  refine d_name 3 rfl ?_
  refine a_cons ?_
  refine d_int ?_
  refine a_cons ?_
  refine d_gint G.i_MAX_TIME ?_
  refine a_nil ⟨_, _, _, rfl, by omega, by omega, ?_⟩
  refine q_b ?_
  refine if_f (by decide) ?_
  refine w_or1 ?_
  refine t_not ?_
  refine t_val ?_
  refine d_call (c_are_between G) hr ?_
  refine a_cons ?_
  refine d_name 4 rfl ?_
  refine a_cons ?_
  refine d_len G.b_len ?_
  refine d_name 1 rfl ?_
  refine a_cons ?_
  refine d_int ?_
  refine a_cons ?_
  refine d_gint G.i_MAX_AMOUNT ?_
  refine a_nil ⟨m.dem, mach.length, _, _, by rw [List.length_map]; rfl, dl.symm, by omega, fun x hx => by have := dem_le ok.dem hm2 x hx; omega, ?_⟩
  refine q_b ?_
  refine if_f (by decide) ?_
  refine s_nil ?_
  refine s_cons (s_if ?_)
  refine t_not ?_
  refine t_val ?_
  refine d_all rfl G.b_all ?_
  refine d_lc (own := [("one", 7), ("capacity", 8)]) (is := [7, 8]) rfl HN (by kernel_rfl) ?_
  refine i_zip G.b_zip ?_
  refine d_name 4 rfl ?_
  refine d_name 1 rfl ?_
  refine q_zip (xs := m.dem.map nI) (ys := mach.map nI) ?_
  rw [zip_nats]
  refine lcq_map (h := fun _ => .bl true) (by rw [zip_len dl.symm rfl]; omega) ⟨trivial, trivial⟩ (fun i z ez Y N y => ?_) ?_
  · intro s5 H5 C5 cl5 fp5
    refine n_tup (n := 2) rfl ⟨rfl, ?_⟩
    refine n_cons1 ?_
    refine n_name 7 ?_ HN
    refine n_cons1 ?_
    refine n_name 8 ?_ HN
    refine n_nil ?_
    intro s6 H6 C6 cl6 fp6
    refine ts_nil (if_t rfl ?_)
    intro s7 H7 C7 cl7 fp7
    refine d_le ?_
    refine d_name 7 rfl ?_
    refine d_name 8 rfl ?_
    refine ⟨trivial, ?_⟩
    exact q_tt (by have := zip_le ok.dem (List.mem_of_getElem? ez); simp; omega) y
  refine ⟨_, all_map, ?_⟩
  refine q_b ?_
  refine if_f (by rw [all_true]; decide) ?_
  refine s_nil ?_
  refine s_one (s_ret ?_)
  refine d_and ?_
  refine d_call (c_are_between G) hr ?_
  refine a_cons ?_
  refine d_name 5 rfl ?_
  refine a_cons ?_
  refine d_len G.b_len ?_
  refine d_name 2 rfl ?_
  refine a_cons ?_
  refine d_int ?_
  refine a_cons ?_
  refine d_gint G.i_MAX_AMOUNT ?_
  refine a_nil ⟨m.uses, stock.length, _, _, by rw [List.length_map]; rfl, ul.symm, by omega, fun x hx => by have := ok.uses.allP x hx; omega, ?_⟩
  refine q_b (if_t (rfl) ?_)
  refine d_one ?_
  refine d_call (c_is_between G) hr ?_
  refine a_cons ?_
  refine d_name 6 rfl ?_
  refine a_cons ?_
  refine d_int ?_
  refine a_cons ?_
  refine d_gint G.i_MAX_AMOUNT ?_
  refine a_nil ⟨_, _, _, rfl, by omega, by omega, ?_⟩
  exact q
def S_are_modes : Sc := fun ds Q => ∃ (mach stock : List Nat) (ms : List ModeM), ds = [dModeL ms, dNats mach, dNats stock] ∧ 1 ≤ ms.length ∧ ms.length ≤ 3 ∧ mach.length ≤ 3 ∧ stock.length ≤ 2 ∧ (∀ x ∈ mach, x ≤ 2) ∧ (∀ m ∈ ms, OkMM mach stock m) ∧ Q (.bl true)
set_option maxHeartbeats 8000000 in
theorem c_are_modes (G : Gl0 W ad) : CalD W 5 "are_modes" S_are_modes [] := by
  refine cal_of (N := ["value", "machines", "stocks", "one"]) (ps := ["value", "machines", "stocks"]) G.d_are_modes (by decide +kernel) (fun _ _ _ _ _ _ us hl => match us, hl with | [_, _, _], _ => rfl) (fun ds Q hS => by obtain ⟨mach, stock, ms, rfl, h1, h3, hml, hsl, hm2, hms, q⟩ := hS; rfl) fun f cdv A outer s H E md0 ds Q hr hS => ?_
  obtain ⟨mach, stock, ms, rfl, h1, h3, hml, hsl, hm2, hms, q⟩ := hS
  have HN : (["value", "machines", "stocks", "one"] : List Str).Nodup := by decide
  refine s_cons (s_if ?_)
  refine t_bool ?_
  refine w_or ?_
  refine t_not ?_
  refine t_val ?_
  refine d_isi G.b_isinstance ?_
  refine d_name 0 rfl ?_
  refine d_blt (n := "tuple") G.b_tuple boot_tuple ?_
  refine isiQ_ty rfl kb_tup_tup ?_
  refine q_b ?_
  refine if_f (by decide) ?_
  refine w_or1 ?_
  refine t_not ?_
  refine t_chLL ?_
  refine d_int ?_
  refine d_len G.b_len ?_
  refine d_name 0 rfl ?_
  refine ⟨trivial, ?_⟩
  refine q_b (if_t (by rw [List.length_map]; simp; omega) ?_)
  refine d_gint G.i_MAX_MODES ?_
  refine ⟨trivial, ?_⟩
  refine q_b ?_
  refine if_f (by rw [List.length_map]; simp; omega) ?_
  refine s_nil ?_
  refine s_one (s_ret ?_)
  refine d_all rfl G.b_all ?_
  refine d_lc (own := [("one", 3)]) (is := [3]) rfl HN (by kernel_rfl) ?_
  refine i_seq ?_
  refine d_name 0 rfl ?_
  refine lcq_map (h := fun _ => .bl true) (by omega) trivial (fun i z ez Y N y => ?_) ?_
  · intro s5 H5 C5 cl5 fp5
    refine n_name 3 ?_ HN
    intro s6 H6 C6 cl6 fp6
    refine ts_nil (if_t rfl ?_)
    intro s7 H7 C7 cl7 fp7
    refine d_call (c_is_mode G) hr ?_
    refine a_cons ?_
    refine d_name 3 rfl ?_
    refine a_cons ?_
    refine d_name 1 rfl ?_
    refine a_cons ?_
    refine d_name 2 rfl ?_
    refine a_nil ⟨mach, stock, z, rfl, hml, hsl, hm2, hms z (List.mem_of_getElem? ez), ?_⟩
    exact y
  refine ⟨_, all_map, ?_⟩
  exact q_tt all_true q
end
end DL

/-! DfY -/
set_option Elab.async false
set_option linter.all false
set_option maxRecDepth 100000
set_option maxHeartbeats 4000000
set_option pp.maxSteps 300
set_option pp.deepTerms false
namespace DL
open PySem PySem.Spec PyProof.Rows L2
open NdefX (NTab TabsN TabN)
open Mth
section
variable {W : Wd} {ad : Ads}
theorem d_events {W : Wd} {ad : Ads} {X : Cx} {B : Bx} {δ : List Sl} {Q : Dat → Prop} {pos : Pos} (G : Gl0 W ad) (q : Q (.tup [.str "start", .str "end"])) (hmg : X.mg = W.mg := by rfl) (hK : X.K = W.K := by rfl) (hg : Gl X "EVENTS" := by rfl) : WE X B (.Name "EVENTS" pos) δ Q := by
  obtain ⟨a, h1, h2⟩ := G.ev
  exact d_glob (v := .ref a) (x := "EVENTS") (by rw [hmg]; exact h1) rfl (fun md H => .tupK (by rw [hK]; exact h2) (.cons (.str _) (.cons (.str _) .nil))) q hg (by decide)
def S_is_lag : Sc := fun ds Q => ∃ (n : Nat) (l : LagM), ds = [dLag l, nI n] ∧ OkL n l ∧ n ≤ 3 ∧ Q (.bl true)
set_option maxHeartbeats 8000000 in
theorem c_is_lag (G : Gl0 W ad) : CalD W 3 "is_lag" S_is_lag [] := by
  refine cal_of (N := ["value", "many", "one", "first", "other", "second", "low", "high", "word"]) (ps := ["value", "many"]) G.d_is_lag (by decide +kernel) (fun _ _ _ _ _ _ us hl => match us, hl with | [_, _], _ => rfl) (fun ds Q hS => by obtain ⟨n, l, rfl, ok, hn, q⟩ := hS; rfl) fun f cdv A outer s H E md0 ds Q hr hS => ?_
  obtain ⟨n, l, rfl, ok, hn, q⟩ := hS
  have HN : (["value", "many", "one", "first", "other", "second", "low", "high", "word"] : List Str).Nodup := by decide
  have o1 := ok.first
  have o2 := ok.second
  have o3 := ok.lo
  have o4 := ok.lo2
  refine s_cons (s_if ?_)
  refine t_bool ?_
  refine w_or ?_
  refine t_not ?_
  refine t_val ?_
  refine d_isi G.b_isinstance ?_
  refine d_name 0 rfl ?_
  refine d_blt (n := "tuple") G.b_tuple boot_tuple ?_
  refine isiQ_ty rfl kb_tup_tup ?_
  refine q_b ?_
  refine if_f (by decide) ?_
  refine w_or1 ?_
  refine t_ne hr.u64 ?_
  refine d_len G.b_len ?_
  refine d_name 0 rfl ?_
  refine d_int ?_
  refine .inl ⟨_, rfl, ?_⟩
  refine if_f (by simp) ?_
  refine s_nil ?_
  refine s_cons (s_asg ?_)
  refine d_name 0 rfl ?_
  refine g_tup (n := 6) rfl ⟨rfl, ?_⟩
  refine g_cons ?_
  refine g_name 2 ?_ HN
  refine g_cons ?_
  refine g_name 3 ?_ HN
  refine g_cons ?_
  refine g_name 4 ?_ HN
  refine g_cons ?_
  refine g_name 5 ?_ HN
  refine g_cons ?_
  refine g_name 6 ?_ HN
  refine g_cons ?_
  refine g_name 7 ?_ HN
  refine g_nil ?_
  refine s_cons (s_if ?_)
  refine t_not ?_
  refine t_val ?_
  refine d_all rfl G.b_all ?_
  refine d_lc (own := [("word", 8)]) (is := [8]) rfl HN (by kernel_rfl) ?_
  refine i_seq ?_
  refine d_tup ?_
  refine a_cons ?_
  refine d_name 2 rfl ?_
  refine a_cons ?_
  refine d_name 4 rfl ?_
  refine a_nil ⟨by simp, ?_⟩
  show LcQ _ _ _ _ _ _ _ _ _ _ ([l.one, l.oth].map dWord) _
  refine lcq_map (h := fun _ => .bl true) (by simp) trivial (fun i z ez Y N y => ?_) ?_
  · intro s5 H5 C5 cl5 fp5
    refine n_name 8 ?_ HN
    intro s6 H6 C6 cl6 fp6
    refine ts_nil (if_t rfl ?_)
    intro s7 H7 C7 cl7 fp7
    refine d_and ?_
    refine d_isi G.b_isinstance ?_
    refine d_name 8 rfl ?_
    refine d_blt (n := "str") G.b_str boot_str ?_
    refine isiQ_ty rfl kb_str_str ?_
    refine q_b (if_t (rfl) ?_)
    refine d_one ?_
    refine d_in hr.u65 ?_
    refine d_name 8 rfl ?_
    refine d_events G ?_
    refine .inl ⟨_, .inr rfl, rfl, rfl, ?_⟩
    cases z <;> exact y
  refine ⟨_, all_map, ?_⟩
  refine q_b ?_
  refine if_f (by rw [all_true]; decide) ?_
  refine s_nil ?_
  refine s_cons (s_if ?_)
  refine t_bool ?_
  refine w_or ?_
  refine t_not ?_
  refine t_val ?_
  refine d_call (c_is_index G) hr ?_
  refine a_cons ?_
  refine d_name 3 rfl ?_
  refine a_cons ?_
  refine d_name 1 rfl ?_
  refine a_nil ⟨_, _, rfl, by omega, by omega, ?_⟩
  refine q_b ?_
  refine if_f (by decide) ?_
  refine w_or ?_
  refine t_not ?_
  refine t_val ?_
  refine d_call (c_is_index G) hr ?_
  refine a_cons ?_
  refine d_name 5 rfl ?_
  refine a_cons ?_
  refine d_name 1 rfl ?_
  refine a_nil ⟨_, _, rfl, by omega, by omega, ?_⟩
  refine q_b ?_
  refine if_f (by decide) ?_
  refine w_or1 ?_
  refine t_not ?_
  refine t_val ?_
  refine d_call (c_is_between G) hr ?_
  refine a_cons ?_
  refine d_name 6 rfl ?_
  refine a_cons ?_
  refine d_negE ?_
  refine d_gint G.i_MAX_TIME ?_
  refine ⟨_, rfl, ?_⟩
  refine a_cons ?_
  refine d_gint G.i_MAX_TIME ?_
  refine a_nil ⟨_, _, _, rfl, by omega, by omega, ?_⟩
  refine q_b ?_
  refine if_f (by decide) ?_
  refine s_nil ?_
  refine s_one (s_ret ?_)
  refine d_or ?_
  refine d_isN ?_
  refine d_name 7 rfl ?_
  refine q_b (if_x (fun h19 => ?_) (fun h19 => ?_))
  · exact q
  · obtain ⟨hv, eh⟩ := oi_some (by simpa using h19)
    have hh := ok.hi hv eh
    refine d_one ?_
    refine d_call (c_is_between G) hr ?_
    refine a_cons ?_
    refine d_name 7 rfl ?_
    refine a_cons ?_
    refine d_name 6 rfl ?_
    refine a_cons ?_
    refine d_gint G.i_MAX_TIME ?_
    refine a_nil ⟨hv, l.low, 60, by rw [eh]; rfl, hh.1, by omega, ?_⟩
    exact q
def S_is_single : Sc := fun ds Q => ∃ (s : List Nat × List (List Nat)) (n : Nat) (fams : Option (List Nat)), ds = [dSingle s, nI n, .tup ((o2l fams).map nI)] ∧ OkSS n (maxFo fams + 1) s ∧ n ≤ 3 ∧ (∀ l, fams = some l → l.length = n ∧ ∀ x ∈ l, x ≤ 3) ∧ Q (.bl true)
set_option maxHeartbeats 8000000 in
theorem c_is_single (G : Gl0 W ad) : CalD W 4 "is_single" S_is_single [] := by
  refine cal_of (N := ["value", "many", "families", "size", "row"]) (ps := ["value", "many", "families"]) G.d_is_single (by decide +kernel) (fun _ _ _ _ _ _ us hl => match us, hl with | [_, _, _], _ => rfl) (fun ds Q hS => by obtain ⟨s, n, fams, rfl, ok, hn, hf, q⟩ := hS; rfl) fun f cdv A outer s H E md0 ds Q hr hS => ?_
  obtain ⟨s, n, fams, rfl, ok, hn, hf, q⟩ := hS
  have HN : (["value", "many", "families", "size", "row"] : List Str).Nodup := by decide
  have hmf := maxFo_le fun l e => (hf l e).2
  obtain ⟨x0, xs, hx1, hx2⟩ := fams_max fams
  have h2 := ok.two
  have hl3 := asc_len ok.asc ok.lt
  have hsq := ok.sq
  have hlm : (List.map dNats s.2).length = s.2.length := List.length_map ..
  have hlm1 : (List.map nI s.1).length = s.1.length := List.length_map ..
  refine s_cons (s_if ?_)
  refine t_bool ?_
  refine w_or ?_
  refine t_not ?_
  refine t_val ?_
  refine d_isi G.b_isinstance ?_
  refine d_name 0 rfl ?_
  refine d_blt (n := "tuple") G.b_tuple boot_tuple ?_
  refine isiQ_ty rfl kb_tup_tup ?_
  refine q_b ?_
  refine if_f (by decide) ?_
  refine w_or ?_
  refine t_ne hr.u64 ?_
  refine d_len G.b_len ?_
  refine d_name 0 rfl ?_
  refine d_int ?_
  refine .inl ⟨_, rfl, ?_⟩
  refine if_f (by simp) ?_
  refine w_or ?_
  refine t_not ?_
  refine t_val ?_
  refine d_call (c_is_set G) hr ?_
  refine a_cons ?_
  refine d_sub ?_
  refine d_name 0 rfl ?_
  refine d_int ?_
  refine ⟨_, rfl, ?_⟩
  refine a_cons ?_
  refine d_name 1 rfl ?_
  refine a_nil ⟨s.1, n, rfl, ok.asc, ok.lt, by omega, by omega, ?_⟩
  refine q_b ?_
  refine if_f (by decide) ?_
  refine w_or1 ?_
  refine t_lt ?_
  refine d_len G.b_len ?_
  refine d_sub ?_
  refine d_name 0 rfl ?_
  refine d_int ?_
  refine ⟨_, rfl, ?_⟩
  refine d_int ?_
  refine ⟨trivial, ?_⟩
  refine q_b ?_
  refine if_f (by rw [decide_eq_true_iff]; omega) ?_
  refine s_nil ?_
  refine s_cons (s_set 3 ?_ HN)
  refine WE.mono (Q := fun d => d = nI (maxFo fams + 1)) ?_ (fun d hd => ?_)
  · refine d_add ?_
    refine d_maxT rfl hr.u2 G.b_max ?_
    refine d_add ?_
    refine d_name 2 rfl ?_
    refine d_tup ?_
    refine a_cons ?_
    refine d_int ?_
    refine a_nil ⟨by simp, ?_⟩
    refine ⟨fams_len hn hf, ?_⟩
    refine ⟨x0, xs, hx1, ?_⟩
    refine d_int ?_
    rw [hx2]; rfl
  subst hd
  refine s_cons (s_if ?_)
  refine t_bool ?_
  refine w_or ?_
  refine t_not ?_
  refine t_val ?_
  refine d_isi G.b_isinstance ?_
  refine d_sub ?_
  refine d_name 0 rfl ?_
  refine d_int ?_
  refine ⟨_, rfl, ?_⟩
  refine d_blt (n := "tuple") G.b_tuple boot_tuple ?_
  refine isiQ_ty rfl kb_tup_tup ?_
  refine q_b ?_
  refine if_f (by decide) ?_
  refine w_or1 ?_
  refine t_ne hr.u64 ?_
  refine d_len G.b_len ?_
  refine d_sub ?_
  refine d_name 0 rfl ?_
  refine d_int ?_
  refine ⟨_, rfl, ?_⟩
  refine d_name 3 rfl ?_
  refine .inl ⟨_, rfl, ?_⟩
  refine if_f (by rw [hlm, hsq]; simp) ?_
  refine s_nil ?_
  refine s_one (s_ret ?_)
  refine d_all rfl G.b_all ?_
  refine d_lc (own := [("row", 4)]) (is := [4]) rfl HN (by kernel_rfl) ?_
  refine i_seq ?_
  refine d_sub ?_
  refine d_name 0 rfl ?_
  refine d_int ?_
  refine ⟨_, rfl, ?_⟩
  refine lcq_map (h := fun _ => .bl true) (by omega) trivial (fun i z ez Y N y => ?_) ?_
  · intro s5 H5 C5 cl5 fp5
    have hz := ok.row z (List.mem_of_getElem? ez)
    refine n_name 4 ?_ HN
    intro s6 H6 C6 cl6 fp6
    refine ts_nil (if_t rfl ?_)
    intro s7 H7 C7 cl7 fp7
    refine d_call (c_are_between G) hr ?_
    refine a_cons ?_
    refine d_name 4 rfl ?_
    refine a_cons ?_
    refine d_name 3 rfl ?_
    refine a_cons ?_
    refine d_int ?_
    refine a_cons ?_
    refine d_gint G.i_MAX_TIME ?_
    refine a_nil ⟨z, maxFo fams + 1, _, _, rfl, hz.1, by omega, fun x hx => by have := hz.2 x hx; omega, ?_⟩
    exact y
  refine ⟨_, all_map, ?_⟩
  exact q_tt all_true q
end
end DL

/-! DfZ -/
set_option Elab.async false
set_option linter.all false
set_option maxRecDepth 100000
set_option maxHeartbeats 4000000
set_option pp.maxSteps 300
set_option pp.deepTerms false
namespace DL
open PySem PySem.Spec PyProof.Rows L2
open NdefX (NTab TabsN TabN)
open Mth
section
variable {W : Wd} {ad : Ads}
def nameB (z : Str) : Bool := decide (1 ≤ z.length) && decide (z.length ≤ 12) && (match z.cps.toList with
  | c :: _ => decide (c ∈ ("abcdefghijklmnopqrstuvwxyz" : Str).cps.toList)
  | [] => false) && z.cps.toList.all fun c => decide (c ∈ ("abcdefghijklmnopqrstuvwxyz0123456789-" : Str).cps.toList)
theorem name_of {z : Str} (h : nameB z = true) : 1 ≤ z.length ∧ z.length ≤ 12 ∧ ∃ c, atI z.cps.toList 0 = some c ∧ c ∈ ("abcdefghijklmnopqrstuvwxyz" : Str).cps.toList ∧ ∀ c ∈ z.cps.toList, c ∈ ("abcdefghijklmnopqrstuvwxyz0123456789-" : Str).cps.toList := by
  unfold nameB at h
  rw [Bool.and_eq_true, Bool.and_eq_true, Bool.and_eq_true] at h
  obtain ⟨⟨⟨h1, h2⟩, h3⟩, h4⟩ := h
  refine ⟨of_decide_eq_true h1, of_decide_eq_true h2, ?_⟩
  cases e : z.cps.toList with
  | nil => rw [e] at h3; cases h3
  | cons c r =>
    rw [e] at h3 h4
    refine ⟨c, atI_nat' (i := 0) rfl, of_decide_eq_true h3, fun x hx => ?_⟩
    exact of_decide_eq_true (List.all_eq_true.mp h4 x hx)
def S_is_name : Sc := fun ds Q => ∃ z : Str, ds = [.str z] ∧ nameB z = true ∧ Q (.bl true)
set_option maxHeartbeats 8000000 in
theorem c_is_name (G : Gl0 W ad) : CalD W 1 "is_name" S_is_name [] := by
  refine cal_of (N := ["value", "sign"]) (ps := ["value"]) G.d_is_name (by decide +kernel) (fun _ _ _ _ _ _ us hl => match us, hl with | [_], _ => rfl) (fun ds Q hS => by obtain ⟨z0, rfl, hb, q⟩ := hS; rfl) fun f cdv A outer s H E md0 ds Q hr hS => ?_
  obtain ⟨z0, rfl, hb, q⟩ := hS
  have HN : (["value", "sign"] : List Str).Nodup := by decide
  obtain ⟨h1, h12, c, hc, hcl, hs⟩ := name_of hb
  refine s_cons (s_if ?_)
  refine t_bool ?_
  refine w_or ?_
  refine t_not ?_
  refine t_val ?_
  refine d_isi G.b_isinstance ?_
  refine d_name 0 rfl ?_
  refine d_blt (n := "str") G.b_str boot_str ?_
  refine isiQ_ty rfl kb_str_str ?_
  refine q_b ?_
  refine if_f (by decide) ?_
  refine w_or ?_
  refine t_not ?_
  refine t_chLL ?_
  refine d_int ?_
  refine d_len G.b_len ?_
  refine d_name 0 rfl ?_
  refine ⟨by omega, ?_⟩
  refine ⟨trivial, ?_⟩
  refine q_b (if_t (by simp; omega) ?_)
  refine d_gint G.i_MAX_NAME ?_
  refine ⟨trivial, ?_⟩
  refine q_b ?_
  refine if_f (by simp; omega) ?_
  refine w_or1 ?_
  refine t_notin hr.u65 ?_
  refine d_sub ?_
  refine d_name 0 rfl ?_
  refine d_int ?_
  refine ⟨by omega, c, hc, ?_⟩
  refine d_gstr G.s_LETTERS ?_
  refine .inr (.inl ⟨c, _, rfl, rfl, ?_⟩)
  refine if_f (by rw [decide_eq_true hcl]; decide) ?_
  refine s_nil ?_
  refine s_one (s_ret ?_)
  refine d_all rfl G.b_all ?_
  refine d_lc (own := [("sign", 1)]) (is := [1]) rfl HN (by kernel_rfl) ?_
  refine i_seq ?_
  refine d_name 0 rfl ?_
  show LcQ _ _ _ _ _ _ _ _ _ _ (z0.cps.toList.map fun c => Dat.str ⟨#[c]⟩) _
  refine lcq_map (h := fun _ => .bl true) (by rw [Array.length_toList]; show z0.length ≤ _; omega) trivial (fun i z ez Y N y => ?_) ?_
  · intro s5 H5 C5 cl5 fp5
    have hz := hs z (List.mem_of_getElem? ez)
    refine n_name 1 ?_ HN
    intro s6 H6 C6 cl6 fp6
    refine ts_nil (if_t rfl ?_)
    intro s7 H7 C7 cl7 fp7
    refine d_in hr.u65 ?_
    refine d_name 1 rfl ?_
    refine d_gstr G.s_SIGNS ?_
    refine .inr (.inl ⟨z, _, rfl, rfl, ?_⟩)
    exact q_tt (decide_eq_true hz) y
  refine ⟨_, all_map, ?_⟩
  exact q_tt all_true q
end
end DL

/-! DfZa -/
set_option Elab.async false
set_option linter.all false
set_option maxRecDepth 100000
set_option maxHeartbeats 4000000
set_option pp.maxSteps 300
set_option pp.deepTerms false
namespace DL
open PySem PySem.Spec PyProof.Rows L2
open NdefX (NTab TabsN TabN)
open Mth
section
variable {W : Wd} {ad : Ads}
theorem fl_int : ∀ {l : List Int}, (l.map Dat.int).all fl? = true
  | [] => rfl
  | a :: r => by rw [List.map_cons, List.all_cons, fl_int]; rfl
theorem w_check_row (G : Gl0 W ad) {f : Addr} {cdv : Value} {A : Around} {outer : List Env} {s : Shared} {H : Hp} {E : XK} {md0 : Addr → Md} {k : Nat} {part : Str} {dv dz g : Dat} {vals : List Dat} {sz : List Int} {Q : Dat → Prop}
    (hr : Room k (cxD W ["part", "value", "sizes", "is_good", "index", "one"] "check_row" (defScope (top 62)) f cdv A outer s H E).A) (hv : dv = .tup vals) (hz : dz = .tup (sz.map .int) ∨ dz = .lst (sz.map .int)) (hin : ((sz.map Dat.int).any fun z => eqS z (.int vals.length)) = true)
    (hgood : ∀ (δ : List Sl) (d : Dat) (Q : Dat → Prop) (p1 p2 p3 : Pos), d ∈ vals → δ[3]? = some (.d g) → δ[5]? = some (.d d) → Q (.bl true) → WE (cxD W ["part", "value", "sizes", "is_good", "index", "one"] "check_row" (defScope (top 62)) f cdv A outer s H E) (bxD W md0 H) (.Call (.Name "is_good" p1) [.Name "one" p2] [] p3) δ Q)
    (q : Q .non) : WSs (cxD W ["part", "value", "sizes", "is_good", "index", "one"] "check_row" (defScope (top 62)) f cdv A outer s H E) (bxD W md0 H) (defBody (top 62)) (enterD 6 [.str part, dv, dz, g]) { nx := fun _ => Q .non, rt := Q } := by
  subst hv
  have HN : (["part", "value", "sizes", "is_good", "index", "one"] : List Str).Nodup := by decide
  refine s_cons (s_if ?_)
  refine t_bool ?_
  refine w_or ?_
  refine t_not ?_
  refine t_val ?_
  refine d_isi G.b_isinstance ?_
  refine d_name 1 rfl ?_
  refine d_tup ?_
  refine a_cons ?_
  refine d_blt (n := "list") G.b_list boot_list ?_
  refine a_cons ?_
  refine d_blt (n := "tuple") G.b_tuple boot_tuple ?_
  refine a_nil ⟨by simp, ?_⟩
  refine isiQ_lt rfl (.inl rfl) ?_
  refine q_b ?_
  refine if_f (by decide) ?_
  refine w_or1 ?_
  refine t_notin hr.u65 ?_
  refine d_len G.b_len ?_
  refine d_name 1 rfl ?_
  refine d_name 2 rfl ?_
  refine .inl ⟨sz.map .int, hz.symm.imp (fun e => e) (fun e => e) |>.elim (fun e => .inl e) (fun e => .inr e), rfl, fl_int, ?_⟩
  refine if_f (by rw [hin]; decide) ?_
  refine s_nil ?_
  refine s_one (s_for rfl ?_)
  refine i_enum G.b_enumerate ?_
  refine d_name 1 rfl ?_
  refine ⟨fun i δ => ∃ s4 s5, δ = [.d (.str part), .d (.tup vals), .d dz, .d g, s4, s5], ⟨_, _, rfl⟩, fun i δ _ _ => trivial, fun i d δ ed hI => ?_, fun δ hI => ?_⟩
  · obtain ⟨s4, s5, rfl⟩ := hI
    obtain ⟨x, ex, rfl⟩ := enum_get ed
    refine g_tup (n := 2) rfl ⟨rfl, ?_⟩
    refine g_cons ?_
    refine g_name 4 ?_ HN
    refine g_cons ?_
    refine g_name 5 ?_ HN
    refine g_nil ?_
    refine s_one (s_if ?_)
    refine t_not ?_
    refine t_val ?_
    refine hgood _ _ _ _ _ _ (List.mem_of_getElem? ex) rfl rfl ?_
    refine q_b ?_
    refine if_f (by decide) ?_
    refine s_nil ?_
    exact ⟨_, _, rfl⟩
  · obtain ⟨s4, s5, rfl⟩ := hI
    exact q
end
end DL

/-! DfZb -/
set_option Elab.async false
set_option linter.all false
set_option maxRecDepth 100000
set_option maxHeartbeats 4000000
set_option pp.maxSteps 300
set_option pp.deepTerms false
namespace DL
open PySem PySem.Spec PyProof.Rows L2
open NdefX (NTab TabsN TabN)
open Mth
section
variable {W : Wd} {ad : Ads}
theorem d_callL {X : Cx} {B : Bx} {δ : List Sl} {Q : Dat → Prop} {e : Expr} {es : List Expr} {p pos : Pos} {x y : Str} {S : Sc} {k j : Nat} {g : Addr} {dd : List Dat} (i : Nat) (c : CalD (wdOf X B) k y S dd) (hy : X.mg y = some (.ref g)) (hr : Room j X.A) (hδ : δ[i]? = some (.d (.gl g))) (h : WA X B (e :: es) δ fun ds => S (ds ++ dd) Q) (hk : k ≤ j) (hN : X.N[i]? = some x := by rfl)
    (hv : Vis X.env.scope x := by first | exact Or.inl rfl | exact Or.inr (Or.inl rfl) | exact Or.inr (Or.inr rfl)) (hdb : (x == ("__debug__" : Str)) = false := by decide) (hcd : (x == ("__classdict__" : Str)) = false := by decide)
    (he : starEach (e :: es) X.env = (false, eval e X.env) :: starEach es X.env := by rfl) (hpl : (backTo pos (starEach es X.env)).any (·.1) = false := by rfl) : WE X B (.Call (.Name x p) (e :: es) [] pos) δ Q := by
  obtain ⟨f, fd, ps, vsd, dvs, F, hm, kp, b, d, gd⟩ := c.ex
  have hm : X.mg y = some (.ref f) := hm
  rw [hy] at hm
  cases hm
  refine fun md σ H Qc R kk => PE.can (pe_callL (i := i) F (hr.mono hk) hN hv kp b d (C8.pass0 (E := C8.E0)) pa_can hdb hcd he hpl) ⟨?_, h md σ H _ R fun vs H1 ds x1 R1 r1 q =>
    ⟨md, _, Q, R1.tabs, R1.live, r1.app (gd md H1), q, fun v H' d t x r qd => kk v H' d (x1.trans x) (R1.grow x t) r qd⟩⟩
  obtain ⟨o, e1, v, e2, r⟩ := R.sl i _ hδ
  subst e2
  rw [e1, r.glE]
/-- check_row with a def as its test -/
def S_check_row_d (y : Str) (mg : Str → Option Value) (S : Sc) : Sc := fun ds Q => ∃ (part : Str) (dz : Dat) (g : Addr) (vals : List Dat) (sz : List Int), ds = [.str part, .tup vals, dz, .gl g] ∧ (dz = .tup (sz.map .int) ∨ dz = .lst (sz.map .int)) ∧ ((sz.map Dat.int).any fun z => eqS z (.int vals.length)) = true ∧ mg y = some (.ref g) ∧
  (∀ d ∈ vals, ∀ Q' : Dat → Prop, Q' (.bl true) → S [d] Q') ∧ Q .non
theorem c_check_row_d (G : Gl0 W ad) {y : Str} {S : Sc} (c : CalD W 3 y S []) : CalD W 4 "check_row" (S_check_row_d y W.mg S) [] := by
  refine cal_of (N := ["part", "value", "sizes", "is_good", "index", "one"]) (ps := ["part", "value", "sizes", "is_good"]) G.d_check_row (by decide +kernel) (fun _ _ _ _ _ _ us hl => match us, hl with | [_, _, _, _], _ => rfl) (fun ds Q hS => by obtain ⟨part, dz, g, vals, sz, rfl, _⟩ := hS; rfl) fun f cdv A outer s H E md0 ds Q hr hS => ?_
  obtain ⟨part, dz, g, vals, sz, rfl, hz, hin, hy, hall, q⟩ := hS
  refine w_check_row G hr rfl hz hin (fun δ d Q' p1 p2 p3 hd h3 h5 q' => ?_) q
  refine d_callL 3 c hy hr h3 ?_ (by decide)
  refine a_cons ?_
  refine d_name 5 h5 ?_
  exact a_nil (hall d hd _ q')
end
end DL

/-! DlW -/
set_option Elab.async false
set_option linter.all false
set_option maxRecDepth 100000
set_option maxHeartbeats 4000000
namespace DL
open PySem PySem.Spec PyProof.Rows L2
open NdefX (NTab TabsN TabN NF NScope CellsAt startF ncx envF inv_startN)
/-- the captured slots hold data -/
inductive CapD (δ : List Sl) : List Nat → List Dat → Prop
  | nil : CapD δ [] []
  | cons {j : Nat} {js : List Nat} {d : Dat} {ds : List Dat} : δ[j]? = some (.d d) → CapD δ js ds → CapD δ (j :: js) (d :: ds)
theorem CapD.slots {K : PySem.W.Frag} {B : Bx} {md : Addr → Md} {δ : List Sl} {σ : L2.St} {H : Hp} (R : Rep K B md δ σ H) : ∀ {js : List Nat} {ds : List Dat}, CapD δ js ds → ∃ wv : List V, js.map (NdefX.slotAt σ) = wv.map some ∧ DA K B.lt md H wv ds
  | _, _, .nil => ⟨[], rfl, .nil⟩
  | _, _, .cons h r => by
    obtain ⟨wv, e, g⟩ := CapD.slots R r
    obtain ⟨o, e1, v, e2, rd⟩ := R.sl _ _ h
    subst e2
    exact ⟨v :: wv, by rw [List.map_cons, List.map_cons, NdefX.slotAt_of e1, e], .cons rd g⟩
theorem ex_lam {md : Addr → Md} {H H1 : Hp} (eN : LamX.ExtN H H1) (dom : ∀ b, H1 b = none → H b = none) : Ex md H H1 :=
  ⟨fun a o _ e n => eN a o e n, fun a _ ⟨x, y, z, e, r⟩ => ⟨x, y, z, eN a _ e nt_lst, r⟩, dom⟩
section
variable {W : Wd} {ad : Ads}
abbrev NRow : List Str := ["part", "value", "sizes", "is_good", "index", "one"]
theorem d_rowL (G : Gl0 W ad) {N Nl fr : List Str} {x : Str} {st : Stmt} {sc scope : Scope} {fX c P : Addr} {nm : Nat → Nat → Str} {A : Around} {outer : List Env} {s : Shared} {H0 : Hp} {E : XK} {md0 : Addr → Md} {params : Arguments} {body e1 e2 e3 : Expr} {δ : List Sl} {Q : Dat → Prop} {pn : Str} {p pos lpos : Pos} {k j : Nat} {js : List Nat} {dws : List Dat}
    (Dc : DefC W x st c P nm) (hn : nm lpos.line lpos.col = (cxD W N x sc fX (.ref c) A outer s H0 E).env.qual ++ "<lambda>") (S : NScope Nl [pn] fr scope) (hbind : ∀ (q : Str) (cl : List (Str × Addr)) (pm cv ctv u : Value), bindArgs (PySem.W.kla_fn "<lambda>" q params body scope cl pm cv ctv) ⟨[u], []⟩ = pure ([pn].zip [u]))
    (hfree : ∀ y ∈ scope.names, y.2 = .free → sc.names.lookup y.1 = some .cell ∨ sc.names.lookup y.1 = some .free) (hfr : ∀ y ∈ fr, (y, NameKind.free) ∈ scope.names) (hjs : js.map (fun j => N[j]?) = fr.map some) (hdef : defaultsOf params (cxD W N x sc fX (.ref c) A outer s H0 E).env = ([], []))
    (hr : Room j (cxD W N x sc fX (.ref c) A outer s H0 E).A) (hk : k + 2 ≤ j) (hcap : CapD δ js dws)
    (h : WE (cxD W N x sc fX (.ref c) A outer s H0 E) (bxD W md0 H0) e1 δ fun d1 => WE (cxD W N x sc fX (.ref c) A outer s H0 E) (bxD W md0 H0) e2 δ fun d2 => WE (cxD W N x sc fX (.ref c) A outer s H0 E) (bxD W md0 H0) e3 δ fun d3 => ∃ (part : Str) (vals : List Dat) (sz : List Int), d1 = .str part ∧ d2 = .tup vals ∧
      (d3 = .tup (sz.map .int) ∨ d3 = .lst (sz.map .int)) ∧ ((sz.map Dat.int).any fun z => eqS z (.int vals.length)) = true ∧
      (∀ d ∈ vals, ∀ (Q' : Dat → Prop) (A' : Around) (outer' : List Env) (s' : Shared) (H' : Hp) (E' : XK) (cl : List (Str × Addr)) (c' f : Addr) (md' : Addr → Md), Q' (.bl true) → Room k (ncx C8.CX0 W.P W.w W.K W.mg W.base Nl (lamF ((cxD W N x sc fX (.ref c) A outer s H0 E).env.qual ++ "<lambda>") params scope cl c') f A' outer' s' H' E').A →
        WE (ncx C8.CX0 W.P W.w W.K W.mg W.base Nl (lamF ((cxD W N x sc fX (.ref c) A outer s H0 E).env.qual ++ "<lambda>") params scope cl c') f A' outer' s' H' E') (bxD W md' H') body (enterD Nl.length (d :: dws)) Q') ∧ Q .non)
    (hg : Gl (cxD W N x sc fX (.ref c) A outer s H0 E) "check_row" := by rfl)
    (he1 : starEach [e1, e2, e3, .Lambda params body scope lpos] (cxD W N x sc fX (.ref c) A outer s H0 E).env = (false, eval e1 (cxD W N x sc fX (.ref c) A outer s H0 E).env) :: starEach [e2, e3, .Lambda params body scope lpos] (cxD W N x sc fX (.ref c) A outer s H0 E).env := by rfl)
    (he2 : starEach [e2, e3, .Lambda params body scope lpos] (cxD W N x sc fX (.ref c) A outer s H0 E).env = (false, eval e2 (cxD W N x sc fX (.ref c) A outer s H0 E).env) :: starEach [e3, .Lambda params body scope lpos] (cxD W N x sc fX (.ref c) A outer s H0 E).env := by rfl)
    (he3 : starEach [e3, .Lambda params body scope lpos] (cxD W N x sc fX (.ref c) A outer s H0 E).env = (false, eval e3 (cxD W N x sc fX (.ref c) A outer s H0 E).env) :: starEach [.Lambda params body scope lpos] (cxD W N x sc fX (.ref c) A outer s H0 E).env := by rfl)
    (hpl : (backTo pos (starEach [e2, e3, .Lambda params body scope lpos] (cxD W N x sc fX (.ref c) A outer s H0 E).env)).any (·.1) = false := by rfl) :
    WE (cxD W N x sc fX (.ref c) A outer s H0 E) (bxD W md0 H0) (.Call (.Name "check_row" p) [e1, e2, e3, .Lambda params body scope lpos] [] pos) δ Q := fun md σ H Qc R kk => by
  obtain ⟨g, fd, Fg, hm⟩ := G.d_check_row.ex
  obtain ⟨oc, od, dV, kV, doc, pm0, an, cdv, ct, osl, efd, lk, hcg, hD, hK⟩ := Fg.ex
  intro pins s0 I
  refine wpAny_Call_Name_kw (ld_glob I hg hm ?_ (by decide))
  refine PySem.W.callWith_K (h₀ := W.base) I.ok.mod.kin Fg.kp ?_ he1 hpl
  refine args_cons (thn (h md σ H (fun v H1 => ∃ d, Ex md H H1 ∧ Rep W.K (bxD W md0 H0) md δ σ H1 ∧ D W.K W.lt md H1 v d ∧ _) R (fun v H1 d x1 R1 r1 q => ⟨d, x1, R1, r1, q⟩) pins s0 I) fun v1 s1 ⟨w1, H1, I1, q1, d1, x1, R1, r1, h2⟩ => ?_) he1
  refine args_cons (thn (h2 md σ H1 (fun v H2 => ∃ d, Ex md H1 H2 ∧ Rep W.K (bxD W md0 H0) md δ σ H2 ∧ D W.K W.lt md H2 v d ∧ _) R1 (fun v H2 d x2 R2 r2 q => ⟨d, x2, R2, r2, q⟩) pins s1 I1) fun v2 s2 ⟨w2, H2, I2, q2, d2, x2, R2, r2, h3⟩ => ?_) he2
  refine args_cons (thn (h3 md σ H2 (fun v H3 => ∃ d, Ex md H2 H3 ∧ Rep W.K (bxD W md0 H0) md δ σ H3 ∧ D W.K W.lt md H3 v d ∧ _) R2 (fun v H3 d x3 R3 r3 q => ⟨d, x3, R3, r3, q⟩) pins s2 I2) fun v3 s3 ⟨w3, H3, I3, q3, d3, x3, R3, r3, part, vals, sz, ed1, ed2, hz, hin, hbody, q⟩ => ?_) he3
  subst ed1 ed2
  have hf0 : ∀ y ∈ scope.names, y.2 = .free → ∃ c0, (cxD W N x sc fX (.ref c) A outer s H0 E).env.cells.lookup y.1 = some c0 := fun y hy e => (hfree y hy e).elim (fun z => I3.ok.has _ (.inl z)) (fun z => I3.ok.has _ (.inr z))
  refine args_cons (lam_make3 I3 Dc.tb rfl Dc.mem hn Dc.uniq R3.tabs hdef hf0 fun f c' pm ctv H4 s4 I4 eN dom T4 hf hfn hfr2 hco => args_nil ⟨I4.kIn, ?_⟩) rfl
  have x4 : Ex md H3 H4 := ex_lam eN dom
  have R4 := R3.grow x4 T4
  obtain ⟨wv, ewv, gw⟩ := hcap.slots R4
  have C := NdefX.cells_of I4 (NdefX.Caps.made I4.ok hfree hfr hjs)
  rw [ewv] at C
  have L : LamAt W ((cxD W N x sc fX (.ref c) A outer s H0 E).env.qual ++ "<lambda>") params body scope fr f wv (cxD W N x sc fX (.ref c) A outer s H0 E).stack s4 H4 := ⟨_, c', pm, ctv, hf, hfn, hfr2, hco, C⟩
  have hb := (Fg.bindsN (ps := ["part", "value", "sizes", "is_good"]) fun _ _ _ _ _ _ us hl => match us, hl with | [_, _, _, _], _ => rfl) s4 [v1, v2, v3, .ref f] I4.kIn rfl
  rw [List.append_nil] at hb
  subst efd
  have rc : codeAny (model W.P W.w) (cxD W N x sc fX (.ref c) A outer s H0 E).A (.call (.ref g) ⟨[v1, v2, v3, .ref f], []⟩) (CR C8.CX0 (cxD W N x sc fX (.ref c) A outer s H0 E).stack W.P W.w H4 s4 Qc C8.E0) s4 := by
    refine LamX.run_ofS (k := k + 1) (N := NRow) (ps := ["part", "value", "sizes", "is_good"]) (us := [v1, v2, v3, .ref f]) (vs := [w1, w2, w3, .ref f]) lk hcg (C8.fnScope_by (by decide +kernel)) (hr.mono hk) I4.env0 hb (.cons q1 (.cons q2 (.cons q3 (.cons rfl .nil)))) rfl fun hr2 => ⟨_, pss_can.nox, ?_⟩
    have g4 : DA W.K W.lt md H4 [w1, w2, w3, .ref f] [.str part, .tup vals, d3, .gl f] := .cons (r1.mono (x2.trans (x3.trans x4))) (.cons (r2.mono (x3.trans x4)) (.cons (r3.mono x4) (.cons (.gl f) .nil)))
    refine w_check_row (W := W) (ad := ad) (Q := Q) (md0 := md) G hr2 rfl hz hin (fun δ' d Q' p1 p2 p3 hd h3 h5 q' => ?_) q md (L2.start NRow [w1, w2, w3, .ref f]) H4 _ (Rep.enter (K := W.K) (B := bxD W md H4) (N := NRow) R4.tabs R4.live g4) ?_
    · refine d_lamcall (i := 3) (k := k) L S (fun cl pm cv ctv u => hbind _ cl pm cv ctv u) hr2 (Nat.le_refl _) gw h3 ?_ rfl (by first | exact Or.inl rfl | exact Or.inr (Or.inl rfl) | exact Or.inr (Or.inr rfl))
      refine a_cons ?_
      refine d_name 5 h5 ?_
      exact a_nil ⟨d, rfl, fun A' outer' s' H' E' cl c' md' hr3 => hbody d hd Q' A' outer' s' H' E' cl c' f md' q' hr3⟩
    · refine ⟨fun md' δ' σ' H' x' R' qn => kk .non H' .non ?_ ?_ .non qn, fun _ _ _ _ _ _ z => z.elim, fun _ _ _ _ _ _ z => z.elim, fun md' δ' σ' H' v d x' R' r' qd => kk v H' d ?_ ?_ (DL.D.monoX R'.back r') qd⟩
      · exact x1.trans (x2.trans (x3.trans (x4.trans R'.ext)))
      · exact R4.grow R'.ext R'.tabs
      · exact x1.trans (x2.trans (x3.trans (x4.trans R'.ext)))
      · exact R4.grow R'.ext R'.tabs
  refine wpAny_call (codeAny_mono rc fun r s' hq => ?_)
  cases r with
  | error e => exact (show False from hq).elim
  | ok fl =>
    cases fl with
    | ret u => exact I4.after hq
    | next => exact False.elim hq
    | brk => exact False.elim hq
    | cont => exact False.elim hq
end
end DL

/-! DfZc -/
set_option Elab.async false
set_option linter.all false
set_option maxRecDepth 100000
set_option maxHeartbeats 4000000
set_option pp.maxSteps 300
set_option pp.deepTerms false
namespace DL
open PySem PySem.Spec PyProof.Rows L2
open NdefX (NTab TabsN TabN)
open Mth
section
variable {W : Wd} {ad : Ads}
/-- the defs that make lambdas -/
structure Gl1 (W : Wd) : Prop where
  n_check_names : ∃ c P, DefC W "check_names" (top 63) c P (fun _ _ => "check_names.<locals>.<lambda>")
  n_check_frame : ∃ c P, DefC W "check_frame" (top 64) c P (fun _ _ => "check_frame.<locals>.<lambda>")
  n_check_rest : ∃ c P, DefC W "check_rest" (top 65) c P (fun _ _ => "check_rest.<locals>.<lambda>")
  n_check_singles : ∃ c P, DefC W "check_singles" (top 66) c P (fun _ _ => "check_singles.<locals>.<lambda>")
  n_sets_of : ∃ c P, DefC W "sets_of" (top 39) c P (fun _ _ => "sets_of.<locals>.<lambda>")
theorem okmm_of {p : PrjM} {m : ModeM} (h : OkM p m) : OkMM p.mach p.stock m := by
  refine ⟨h.work, ?_, ?_, h.cost⟩
  · have : ∀ {ms dm : List Nat}, dm.length = ms.length → (∀ (i d c : Nat), dm[i]? = some d → ms[i]? = some c → d ≤ c) → F2 (fun c d => d ≤ c) ms dm := by
      intro ms
      induction ms with
      | nil => intro dm hl _; cases dm with | nil => exact .nil | cons _ _ => simp at hl
      | cons c r ih =>
        intro dm hl h
        cases dm with
        | nil => simp at hl
        | cons d t => exact .cons (h 0 d c rfl rfl) (ih (by simpa using hl) fun i d c e e' => h (i + 1) d c (by simpa using e) (by simpa using e'))
    exact this h.dl h.dm
  · have : ∀ {ss us : List Nat}, us.length = ss.length → (∀ u ∈ us, u ≤ 3) → F2 (fun _ u => u ≤ 3) ss us := by
      intro ss
      induction ss with
      | nil => intro us hl _; cases us with | nil => exact .nil | cons _ _ => simp at hl
      | cons c r ih =>
        intro us hl h
        cases us with
        | nil => simp at hl
        | cons d t => exact .cons (h d (by simp)) (ih (by simpa using hl) fun u hu => h u (by simp [hu]))
    exact this h.ul h.um
def rngI (a : Int) (n : Nat) : List Int := (List.range n).map fun i => a + (i : Nat)
theorem rng_int {a : Int} {n : Nat} : Dat.lst (rangeD a n) = .lst ((rngI a n).map Dat.int) := by
  unfold rangeD rngI
  rw [List.map_map]
  rfl
theorem in_rng {a : Int} {n l : Nat} (h1 : a ≤ l) (h2 : (l : Int) < a + n) : (((rngI a n).map Dat.int).any fun z => eqS z (.int l)) = true := by
  rw [List.any_eq_true]
  refine ⟨.int l, List.mem_map.mpr ⟨(l : Int), List.mem_map.mpr ⟨((l : Int) - a).toNat, List.mem_range.mpr (by omega), by omega⟩, rfl⟩, ?_⟩
  show ((l : Int) == (l : Int)) = true
  exact beq_self_eq_true _
theorem in_one {m l : Nat} (h : l = m) : (([(m : Int)].map Dat.int).any fun z => eqS z (.int l)) = true := by
  subst h
  show (((l : Int) == (l : Int)) || false) = true
  rw [beq_self_eq_true]; rfl
theorem names_new {n i : Nat} {z : Str} (h : n ≤ 3) (e : (nameL.take n)[i]? = some z) : nameB z = true ∧ (cutD ((nameL.take n).map Dat.str) none (some (i : Int))).all fl? = true ∧ ((cutD ((nameL.take n).map Dat.str) none (some (i : Int))).any fun y => eqS y (.str z)) = false := by
  match n, i, h with
  | 0, i, _ => simp at e
  | 1, 0, _ => cases e; decide +kernel
  | 1, i + 1, _ => simp [nameL] at e
  | 2, 0, _ => cases e; decide +kernel
  | 2, 1, _ => cases e; decide +kernel
  | 2, i + 2, _ => simp [nameL] at e
  | 3, 0, _ => cases e; decide +kernel
  | 3, 1, _ => cases e; decide +kernel
  | 3, 2, _ => cases e; decide +kernel
  | 3, i + 3, _ => simp [nameL] at e
end
end DL

/-! DfZd -/
set_option Elab.async false
set_option linter.all false
set_option maxRecDepth 100000
set_option maxHeartbeats 4000000
set_option pp.maxSteps 300
set_option pp.deepTerms false
namespace DL
open PySem PySem.Spec PyProof.Rows L2
open NdefX (NTab TabsN TabN)
open Mth
section
variable {W : Wd} {ad : Ads}
def S_check_names : Sc := fun ds Q => ∃ n : Nat, ds = [dNames n] ∧ 1 ≤ n ∧ n ≤ 3 ∧ Q .non
set_option maxHeartbeats 8000000 in
theorem c_check_names (G : Gl0 W ad) (L : Gl1 W) : CalD W 7 "check_names" S_check_names [] := by
  obtain ⟨c, P, Dc⟩ := L.n_check_names
  refine calC_of (N := ["names", "index", "name"]) (ps := ["names"]) Dc (by decide +kernel) (fun _ _ _ _ _ _ us hl => match us, hl with | [_], _ => rfl) (fun ds Q hS => by obtain ⟨n, rfl, n1, n3, q⟩ := hS; rfl) fun f A outer s H E md0 ds Q hr hS => ?_
  obtain ⟨n, rfl, n1, n3, q⟩ := hS
  have HN : (["names", "index", "name"] : List Str).Nodup := by decide
  have hn : ((nameL.take n).map Dat.str).length = n := names_len (by omega)
  refine s_cons (s_expr ?_)
  refine d_rowL (Nl := ["one"]) (fr := []) (pn := "one") (js := []) (k := 4) G (Dc) (show ("check_names.<locals>.<lambda>" : Str) = (("check_names" : Str) ++ ".<locals>.") ++ "<lambda>" by decide +kernel) (NdefX.nscope_by (by decide +kernel)) (fun _ _ _ _ _ _ => rfl) (by decide +kernel) (by decide +kernel) rfl rfl hr (by decide) (.nil) ?_
  refine d_str ?_
  refine d_name 0 rfl ?_
  refine d_listRg rfl G.b_list G.b_range ?_
  refine d_int ?_
  refine d_add ?_
  refine d_gint G.i_MAX_MANY_projects ?_
  refine d_int ?_
  refine ⟨_, _, rfl, rfl, by omega, ?_⟩
  refine ⟨_, _, _, rfl, rfl, .inr rng_int, in_rng (by omega) (by rw [hn]; omega), fun d hd Q' A' outer' s' H' E' cl c' f' md' q' hr => ?_, ?_⟩
  · refine d_bl ?_
    exact q'
  refine s_one (s_for rfl ?_)
  refine i_enum G.b_enumerate ?_
  refine d_name 0 rfl ?_
  refine ⟨fun i δ => ∃ s1 s2, δ = [.d (dNames n), s1, s2], ⟨_, _, rfl⟩, fun i δ _ _ => trivial, fun i d δ ed hI => ?_, fun δ hI => ?_⟩
  · obtain ⟨s1, s2, rfl⟩ := hI
    obtain ⟨x, ex, rfl⟩ := enum_get ed
    obtain ⟨z, ez, rfl⟩ := map_get ex
    obtain ⟨nb, nf, nn⟩ := names_new n3 ez
    refine g_tup (n := 2) rfl ⟨rfl, ?_⟩
    refine g_cons ?_
    refine g_name 1 ?_ HN
    refine g_cons ?_
    refine g_name 2 ?_ HN
    refine g_nil ?_
    refine s_one (s_if ?_)
    refine t_bool ?_
    refine w_or ?_
    refine t_not ?_
    refine t_val ?_
    refine d_call (c_is_name G) hr ?_
    refine a_cons ?_
    refine d_name 2 rfl ?_
    refine a_nil ⟨z, rfl, nb, ?_⟩
    refine q_b ?_
    refine if_f (by decide) ?_
    refine w_or1 ?_
    refine t_in hr.u65 ?_
    refine d_name 2 rfl ?_
    refine d_slice ?_
    refine d_name 0 rfl ?_
    refine id ?_
    refine d_name 1 rfl ?_
    refine ⟨_, rfl, ?_⟩
    refine .inl ⟨_, .inr rfl, rfl, nf, ?_⟩
    refine if_f (by rw [nn]; decide) ?_
    refine s_nil ?_
    exact ⟨_, _, rfl⟩
  · obtain ⟨s1, s2, rfl⟩ := hI
    exact q
end
end DL

/-! DfZe -/
set_option Elab.async false
set_option linter.all false
set_option maxRecDepth 100000
set_option maxHeartbeats 4000000
set_option pp.maxSteps 300
set_option pp.deepTerms false
namespace DL
open PySem PySem.Spec PyProof.Rows L2
open NdefX (NTab TabsN TabN)
open Mth
section
variable {W : Wd} {ad : Ads}
def S_check_frame : Sc := fun ds Q => ∃ p : PrjM, ds = [dNames p.n, nI p.hor, dNats p.mach, dNats p.stock, dModes p] ∧ OkP p ∧ Q .non
set_option maxHeartbeats 8000000 in
theorem c_check_frame (G : Gl0 W ad) (L : Gl1 W) : CalD W 8 "check_frame" S_check_frame [] := by
  obtain ⟨c, P, Dc⟩ := L.n_check_frame
  refine calC_of (N := ["names", "horizon", "machines", "stocks", "modes"]) (ps := ["names", "horizon", "machines", "stocks", "modes"]) Dc (by decide +kernel) (fun _ _ _ _ _ _ us hl => match us, hl with | [_, _, _, _, _], _ => rfl) (fun ds Q hS => by obtain ⟨p, rfl, ok, q⟩ := hS; rfl) fun f A outer s H E md0 ds Q hr hS => ?_
  obtain ⟨p, rfl, ok, q⟩ := hS
  have HN : (["names", "horizon", "machines", "stocks", "modes"] : List Str).Nodup := by decide
  have n3 := ok.n3
  have hn : ((nameL.take p.n).map Dat.str).length = p.n := names_len (by omega)
  have hh3 := ok.h3
  have hh6 := ok.h6
  have hm := ok.mach
  have hs := ok.stock
  refine s_cons (s_expr ?_)
  refine d_call (c_check_names G L) hr ?_
  refine a_cons ?_
  refine d_name 0 rfl ?_
  refine a_nil ⟨p.n, rfl, ok.n1, n3, ?_⟩
  refine s_cons (s_if ?_)
  refine t_not ?_
  refine t_val ?_
  refine d_call (c_is_between G) hr ?_
  refine a_cons ?_
  refine d_name 1 rfl ?_
  refine a_cons ?_
  refine d_int ?_
  refine a_cons ?_
  refine d_gint G.i_MAX_TIME ?_
  refine a_nil ⟨_, _, _, rfl, by omega, by omega, ?_⟩
  refine q_b ?_
  refine if_f (by decide) ?_
  refine s_nil ?_
  refine s_cons (s_expr ?_)
  refine d_rowL (Nl := ["one"]) (fr := []) (pn := "one") (js := []) (k := 5) G (Dc) (show ("check_frame.<locals>.<lambda>" : Str) = (("check_frame" : Str) ++ ".<locals>.") ++ "<lambda>" by decide +kernel) (NdefX.nscope_by (by decide +kernel)) (fun _ _ _ _ _ _ => rfl) (by decide +kernel) (by decide +kernel) rfl rfl hr (by decide) (.nil) ?_
  refine d_str ?_
  refine d_name 2 rfl ?_
  refine d_listRg1 rfl G.b_list G.b_range ?_
  refine d_add ?_
  refine d_gint G.i_MAX_MACHINES ?_
  refine d_int ?_
  refine ⟨_, rfl, by omega, ?_⟩
  refine ⟨_, _, _, rfl, rfl, .inr rng_int, in_rng (by omega) (by rw [List.length_map]; omega), fun d hd Q' A' outer' s' H' E' cl c' f' md' q' hr => ?_, ?_⟩
  · obtain ⟨z, hz, rfl⟩ := List.mem_map.mp hd
    have hz2 := hm.2 z hz
    refine d_call (c_is_between G) hr ?_
    refine a_cons ?_
    refine d_name 0 rfl ?_
    refine a_cons ?_
    refine d_int ?_
    refine a_cons ?_
    refine d_gint G.i_MAX_AMOUNT ?_
    refine a_nil ⟨_, _, _, rfl, by omega, by omega, ?_⟩
    exact q'
  refine s_cons (s_expr ?_)
  refine d_rowL (Nl := ["one"]) (fr := []) (pn := "one") (js := []) (k := 5) G (Dc) (show ("check_frame.<locals>.<lambda>" : Str) = (("check_frame" : Str) ++ ".<locals>.") ++ "<lambda>" by decide +kernel) (NdefX.nscope_by (by decide +kernel)) (fun _ _ _ _ _ _ => rfl) (by decide +kernel) (by decide +kernel) rfl rfl hr (by decide) (.nil) ?_
  refine d_str ?_
  refine d_name 3 rfl ?_
  refine d_listRg1 rfl G.b_list G.b_range ?_
  refine d_add ?_
  refine d_gint G.i_MAX_STOCKS ?_
  refine d_int ?_
  refine ⟨_, rfl, by omega, ?_⟩
  refine ⟨_, _, _, rfl, rfl, .inr rng_int, in_rng (by omega) (by rw [List.length_map]; omega), fun d hd Q' A' outer' s' H' E' cl c' f' md' q' hr => ?_, ?_⟩
  · obtain ⟨z, hz, rfl⟩ := List.mem_map.mp hd
    have hz2 := hs.2 z hz
    refine d_call (c_is_between G) hr ?_
    refine a_cons ?_
    refine d_name 0 rfl ?_
    refine a_cons ?_
    refine d_int ?_
    refine a_cons ?_
    refine d_gint G.i_MAX_AMOUNT ?_
    refine a_nil ⟨_, _, _, rfl, by omega, by omega, ?_⟩
    exact q'
  refine s_one (s_expr ?_)
  refine d_rowL (Nl := ["one", "machines", "stocks"]) (fr := ["machines", "stocks"]) (pn := "one") (js := [2, 3]) (k := 5) G (Dc) (show ("check_frame.<locals>.<lambda>" : Str) = (("check_frame" : Str) ++ ".<locals>.") ++ "<lambda>" by decide +kernel) (NdefX.nscope_by (by decide +kernel)) (fun _ _ _ _ _ _ => rfl) (by decide +kernel) (by decide +kernel) rfl rfl hr (by decide) (.cons rfl (.cons rfl (.nil))) ?_
  refine d_str ?_
  refine d_name 4 rfl ?_
  refine d_lst ?_
  refine a_cons ?_
  refine d_len G.b_len ?_
  refine d_name 0 rfl ?_
  refine a_nil ⟨by simp, ?_⟩
  refine ⟨_, _, _, rfl, rfl, .inr rfl, in_one (by rw [hn, List.length_map, ok.modes.1]), fun d hd Q' A' outer' s' H' E' cl c' f' md' q' hr => ?_, ?_⟩
  · obtain ⟨z, hz, rfl⟩ := List.mem_map.mp hd
    have hz2 := ok.modes.2 z hz
    refine d_call (c_are_modes G) hr ?_
    refine a_cons ?_
    refine d_name 0 rfl ?_
    refine a_cons ?_
    refine d_name 1 rfl ?_
    refine a_cons ?_
    refine d_name 2 rfl ?_
    refine a_nil ⟨p.mach, p.stock, z, rfl, hz2.1.1, hz2.1.2, hm.1, hs.1, hm.2, fun m hm2 => okmm_of (hz2.2 m hm2), ?_⟩
    exact q'
  exact q
end
end DL

/-! DfZf -/
set_option Elab.async false
set_option linter.all false
set_option maxRecDepth 100000
set_option maxHeartbeats 4000000
set_option pp.maxSteps 300
set_option pp.deepTerms false
namespace DL
open PySem PySem.Spec PyProof.Rows L2
open NdefX (NTab TabsN TabN)
open Mth
section
variable {W : Wd} {ad : Ads}
theorem in_two {α : Type} {f : α → Dat} {m : Nat} {o : List α} (h : o.length = 0 ∨ o.length = m) : (([0, (m : Int)].map Dat.int).any fun z => eqS z (.int (o.map f).length)) = true := by
  rw [List.length_map]
  show (((0 : Int) == (o.length : Int)) || (((m : Int) == (o.length : Int)) || false)) = true
  rcases h with h | h
  · rw [h]; rfl
  · rw [h]; simp
theorem o_len {α : Type} {o : Option (List α)} {m : Nat} (h : ∀ l, o = some l → l.length = m) : (o2l o).length = 0 ∨ (o2l o).length = m := by
  cases o with
  | none => exact .inl rfl
  | some l => exact .inr (h l rfl)
theorem calo_some {ad : Ads} {o : Option CalM} (h : ¬ isNon (dCalO ad o) = true) : ∃ c, o = some c := by
  cases o with
  | none => simp [dCalO, isNon] at h
  | some c => exact ⟨c, rfl⟩
theorem win_mem {p : PrjM} (ok : OkP p) {z : Nat × Option Nat} (h : z ∈ o2l p.wins) : z.1 ≤ 3 ∧ ∀ d, z.2 = some d → d ≤ 8 := by
  cases e : p.wins with
  | none => rw [e] at h; cases h
  | some l => rw [e] at h; exact (ok.wins l e).2 z h
theorem fam_mem {p : PrjM} (ok : OkP p) {z : Nat} (h : z ∈ o2l p.fams) : z ≤ 3 := by
  cases e : p.fams with
  | none => rw [e] at h; cases h
  | some l => rw [e] at h; exact (ok.fams l e).2 z h
def S_check_rest (ad : Ads) : Sc := fun ds Q => ∃ p : PrjM, ds = [nI p.n, dCals ad p, dWins p, dFams p, dLags p] ∧ OkP p ∧ Q .non
set_option maxHeartbeats 8000000 in
theorem c_check_rest (G : Gl0 W ad) (L : Gl1 W) : CalD W 8 "check_rest" (S_check_rest ad) [] := by
  obtain ⟨c, P, Dc⟩ := L.n_check_rest
  refine calC_of (N := ["many", "calendars", "windows", "families", "lags"]) (ps := ["many", "calendars", "windows", "families", "lags"]) Dc (by decide +kernel) (fun _ _ _ _ _ _ us hl => match us, hl with | [_, _, _, _, _], _ => rfl) (fun ds Q hS => by obtain ⟨p, rfl, ok, q⟩ := hS; rfl) fun f A outer s H E md0 ds Q hr hS => ?_
  obtain ⟨p, rfl, ok, q⟩ := hS
  have HN : (["many", "calendars", "windows", "families", "lags"] : List Str).Nodup := by decide
  have n3 := ok.n3
  have hll := ok.lags.1
  obtain ⟨gw, fdw, Fw, hm_is_window⟩ := G.d_is_window.ex
  refine s_cons (s_expr ?_)
  refine d_rowL (Nl := ["one"]) (fr := []) (pn := "one") (js := []) (k := 5) G (Dc) (show ("check_rest.<locals>.<lambda>" : Str) = (("check_rest" : Str) ++ ".<locals>.") ++ "<lambda>" by decide +kernel) (NdefX.nscope_by (by decide +kernel)) (fun _ _ _ _ _ _ => rfl) (by decide +kernel) (by decide +kernel) rfl rfl hr (by decide) (.nil) ?_
  refine d_str ?_
  refine d_name 1 rfl ?_
  refine d_tup ?_
  refine a_cons ?_
  refine d_int ?_
  refine a_cons ?_
  refine d_name 0 rfl ?_
  refine a_nil ⟨by simp, ?_⟩
  refine ⟨_, _, _, rfl, rfl, .inl rfl, in_two (o_len fun l e => (ok.cals l e).1), fun d hd Q' A' outer' s' H' E' cl c' f' md' q' hr => ?_, ?_⟩
  · obtain ⟨z, hz, rfl⟩ := List.mem_map.mp hd
    refine d_or ?_
    refine d_isN ?_
    refine d_name 0 rfl ?_
    refine q_b (if_x (fun h2 => ?_) (fun h2 => ?_))
    · exact q'
    · obtain ⟨cc, rfl⟩ := calo_some (by simpa using h2)
      refine d_one ?_
      refine d_isi G.b_isinstance ?_
      refine d_name 0 rfl ?_
      refine d_gref G.r_Calendar ?_
      refine isiQ_ins G.ci_calendar ?_
      exact q'
  refine s_cons (s_expr ?_)
  refine d_call (c_check_row_d G (c_is_window G)) hr ?_
  refine a_cons ?_
  refine d_str ?_
  refine a_cons ?_
  refine d_name 2 rfl ?_
  refine a_cons ?_
  refine d_tup ?_
  refine a_cons ?_
  refine d_int ?_
  refine a_cons ?_
  refine d_name 0 rfl ?_
  refine a_nil ⟨by simp, ?_⟩
  refine a_cons ?_
  refine d_gref hm_is_window ?_
  refine a_nil ⟨_, _, gw, (o2l p.wins).map dWin, [0, (p.n : Int)], rfl, .inl rfl, in_two (o_len fun l e => (ok.wins l e).1), hm_is_window, fun d hd Q' q' => by obtain ⟨z, hz, rfl⟩ := List.mem_map.mp hd; have hw := win_mem ok hz; exact ⟨z, rfl, hw.1, hw.2, q'⟩, ?_⟩
  refine s_cons (s_expr ?_)
  refine d_rowL (Nl := ["one"]) (fr := []) (pn := "one") (js := []) (k := 5) G (Dc) (show ("check_rest.<locals>.<lambda>" : Str) = (("check_rest" : Str) ++ ".<locals>.") ++ "<lambda>" by decide +kernel) (NdefX.nscope_by (by decide +kernel)) (fun _ _ _ _ _ _ => rfl) (by decide +kernel) (by decide +kernel) rfl rfl hr (by decide) (.nil) ?_
  refine d_str ?_
  refine d_name 3 rfl ?_
  refine d_tup ?_
  refine a_cons ?_
  refine d_int ?_
  refine a_cons ?_
  refine d_name 0 rfl ?_
  refine a_nil ⟨by simp, ?_⟩
  refine ⟨_, _, _, rfl, rfl, .inl rfl, in_two (o_len fun l e => (ok.fams l e).1), fun d hd Q' A' outer' s' H' E' cl c' f' md' q' hr => ?_, ?_⟩
  · obtain ⟨z, hz, rfl⟩ := List.mem_map.mp hd
    have hf := fam_mem ok hz
    refine d_call (c_is_between G) hr ?_
    refine a_cons ?_
    refine d_name 0 rfl ?_
    refine a_cons ?_
    refine d_int ?_
    refine a_cons ?_
    refine d_gint G.i_MAX_FAMILY ?_
    refine a_nil ⟨_, _, _, rfl, by omega, by omega, ?_⟩
    exact q'
  refine s_one (s_expr ?_)
  refine d_rowL (Nl := ["one", "many"]) (fr := ["many"]) (pn := "one") (js := [0]) (k := 5) G (Dc) (show ("check_rest.<locals>.<lambda>" : Str) = (("check_rest" : Str) ++ ".<locals>.") ++ "<lambda>" by decide +kernel) (NdefX.nscope_by (by decide +kernel)) (fun _ _ _ _ _ _ => rfl) (by decide +kernel) (by decide +kernel) rfl rfl hr (by decide) (.cons rfl (.nil)) ?_
  refine d_str ?_
  refine d_name 4 rfl ?_
  refine d_listRg1 rfl G.b_list G.b_range ?_
  refine d_add ?_
  refine d_gint G.i_MAX_LAGS ?_
  refine d_int ?_
  refine ⟨_, rfl, by omega, ?_⟩
  refine ⟨_, _, _, rfl, rfl, .inr rng_int, in_rng (by omega) (by rw [List.length_map]; omega), fun d hd Q' A' outer' s' H' E' cl c' f' md' q' hr => ?_, ?_⟩
  · obtain ⟨z, hz, rfl⟩ := List.mem_map.mp hd
    refine d_call (c_is_lag G) hr ?_
    refine a_cons ?_
    refine d_name 0 rfl ?_
    refine a_cons ?_
    refine d_name 1 rfl ?_
    refine a_nil ⟨p.n, z, rfl, ok.lags.2 z hz, n3, ?_⟩
    exact q'
  exact q
end
end DL

/-! HdB -/
set_option Elab.async false
set_option linter.all false
set_option maxRecDepth 100000
set_option maxHeartbeats 0
set_option pp.maxSteps 300
set_option pp.deepTerms false
namespace DL
open PySem PySem.Spec PyProof.Rows L2
open NdefX (NTab TabsN TabN)
section
variable {P : Program} {w : World} {K : PySem.W.Frag} {mg : Str → Option Value} {base h : Heap}
theorem hex_ok (e : hex K = true) : clsIB K (He.ga K "Calendar") = true ∧ clsIB K (He.ga K "Project") = true ∧ clsIB K (He.ga K "Rule") = true ∧ He.tupB K "EVENTS" [.str "start", .str "end"] = true ∧ tupA K (kwdAt ("times", none) "ahead" K) = true ∧ (htf.map fun p => (He.cT K p).2).Nodup := by
  unfold hex at e
  obtain ⟨h1, e⟩ := Bool.and_eq_true_iff.mp e
  obtain ⟨h2, e⟩ := Bool.and_eq_true_iff.mp e
  obtain ⟨h3, e⟩ := Bool.and_eq_true_iff.mp e
  obtain ⟨h4, e⟩ := Bool.and_eq_true_iff.mp e
  obtain ⟨h5, h6⟩ := Bool.and_eq_true_iff.mp e
  exact ⟨h1, h2, h3, h4, h5, of_decide_eq_true h6⟩
theorem gl0_of (X : K.In h) (G : h.Ns mainGlobals mg) (c : He.SaysX hfa hfn [] htf hex w h K) : Gl0 (wdW P w K mg base) (adOf K) := by
  obtain ⟨e_calendar, e_project, e_rule, e_ev, e_ah, _⟩ := hex_ok c.more
  exact {
    b_len := He.free_ok X G (c.t.d.fact 0 rfl)
    b_int := He.free_ok X G (c.t.d.fact 1 rfl)
    b_tuple := He.free_ok X G (c.t.d.fact 2 rfl)
    b_list := He.free_ok X G (c.t.d.fact 3 rfl)
    b_sum := He.free_ok X G (c.t.d.fact 4 rfl)
    b_max := He.free_ok X G (c.t.d.fact 5 rfl)
    b_min := He.free_ok X G (c.t.d.fact 6 rfl)
    b_all := He.free_ok X G (c.t.d.fact 7 rfl)
    b_any := He.free_ok X G (c.t.d.fact 8 rfl)
    b_divmod := He.free_ok X G (c.t.d.fact 9 rfl)
    b_isinstance := He.free_ok X G (c.t.d.fact 10 rfl)
    b_range := He.free_ok X G (c.t.d.fact 11 rfl)
    b_enumerate := He.free_ok X G (c.t.d.fact 12 rfl)
    b_zip := He.free_ok X G (c.t.d.fact 13 rfl)
    b_sorted := He.free_ok X G (c.t.d.fact 14 rfl)
    b_set := He.free_ok X G (c.t.d.fact 15 rfl)
    b_dict := He.free_ok X G (c.t.d.fact 16 rfl)
    b_bool := He.free_ok X G (c.t.d.fact 17 rfl)
    b_str := He.free_ok X G (c.t.d.fact 18 rfl)
    i_MAX_CYCLE := He.int_ok X G (c.t.d.fact 19 rfl)
    i_MAX_CHANGES := He.int_ok X G (c.t.d.fact 20 rfl)
    i_MAX_MANY_shapes := He.int_ok X G (c.t.d.fact 21 rfl)
    i_MAX_WORKERS := He.int_ok X G (c.t.d.fact 22 rfl)
    i_MAX_SKILLS := He.int_ok X G (c.t.d.fact 23 rfl)
    i_MAX_ASKS := He.int_ok X G (c.t.d.fact 24 rfl)
    i_MAX_NAME := He.int_ok X G (c.t.d.fact 25 rfl)
    i_MAX_MANY_projects := He.int_ok X G (c.t.d.fact 26 rfl)
    i_MAX_TIME := He.int_ok X G (c.t.d.fact 27 rfl)
    i_MAX_AMOUNT := He.int_ok X G (c.t.d.fact 28 rfl)
    i_MAX_MACHINES := He.int_ok X G (c.t.d.fact 29 rfl)
    i_MAX_STOCKS := He.int_ok X G (c.t.d.fact 30 rfl)
    i_MAX_MODES := He.int_ok X G (c.t.d.fact 31 rfl)
    i_MAX_LAGS := He.int_ok X G (c.t.d.fact 32 rfl)
    i_MAX_SINGLES := He.int_ok X G (c.t.d.fact 33 rfl)
    i_MAX_FAMILY := He.int_ok X G (c.t.d.fact 34 rfl)
    i_MAX_AHEAD := He.int_ok X G (c.t.d.fact 35 rfl)
    s_LETTERS := He.str_ok X G (c.t.d.fact 36 rfl)
    s_SIGNS := He.str_ok X G (c.t.d.fact 37 rfl)
    r_Calendar := He.glo_ok X G (c.t.d.fact 38 rfl)
    ci_calendar := clsI_ok (He.cls_ok (c.t.d.fact 39 rfl)) e_calendar
    mk_calendar := by obtain ⟨fd, F⟩ := c.t.d.def_ 0 (d := dfn 0) rfl; exact ⟨_, fd, _, He.mkr_ok (c.t.d.fact 40 rfl), F, by intro z; cases z⟩
    r_Project := He.glo_ok X G (c.t.d.fact 41 rfl)
    ci_project := clsI_ok (He.cls_ok (c.t.d.fact 42 rfl)) e_project
    mk_project := by obtain ⟨fd, F⟩ := c.t.d.def_ 1 (d := dfn 1) rfl; exact ⟨_, fd, _, He.mkr_ok (c.t.d.fact 43 rfl), F, by intro z; cases z⟩
    r_Rule := He.glo_ok X G (c.t.d.fact 44 rfl)
    ci_rule := clsI_ok (He.cls_ok (c.t.d.fact 45 rfl)) e_rule
    mk_rule := by obtain ⟨fd, F⟩ := c.t.d.def_ 2 (d := dfn 2) rfl; exact ⟨_, fd, _, He.mkr_ok (c.t.d.fact 46 rfl), F, rfl⟩
    me_is_met := by obtain ⟨fd, F⟩ := c.t.d.def_ 3 (d := dfn 3) rfl; exact ⟨_, fd, He.meth_ok (c.t.d.fact 47 rfl), F⟩
    na_calendar_cycle := He.noat_ok (c.t.d.fact 48 rfl)
    na_calendar_changes := He.noat_ok (c.t.d.fact 49 rfl)
    na_project_names := He.noat_ok (c.t.d.fact 50 rfl)
    na_project_horizon := He.noat_ok (c.t.d.fact 51 rfl)
    na_project_machines := He.noat_ok (c.t.d.fact 52 rfl)
    na_project_stocks := He.noat_ok (c.t.d.fact 53 rfl)
    na_project_modes := He.noat_ok (c.t.d.fact 54 rfl)
    na_project_calendars := He.noat_ok (c.t.d.fact 55 rfl)
    na_project_windows := He.noat_ok (c.t.d.fact 56 rfl)
    na_project_families := He.noat_ok (c.t.d.fact 57 rfl)
    na_project_lags := He.noat_ok (c.t.d.fact 58 rfl)
    na_project_singles := He.noat_ok (c.t.d.fact 59 rfl)
    na_project_crew := He.noat_ok (c.t.d.fact 60 rfl)
    na_project_asks := He.noat_ok (c.t.d.fact 61 rfl)
    na_project_overhead := He.noat_ok (c.t.d.fact 62 rfl)
    na_project_late := He.noat_ok (c.t.d.fact 63 rfl)
    na_rule_source := He.noat_ok (c.t.d.fact 64 rfl)
    na_rule_target := He.noat_ok (c.t.d.fact 65 rfl)
    na_rule_gap := He.noat_ok (c.t.d.fact 66 rfl)
    na_rule_words := He.noat_ok (c.t.d.fact 67 rfl)
    na_rule_reason := He.noat_ok (c.t.d.fact 68 rfl)
    ev := ⟨_, He.glo_ok X G (c.t.d.fact 69 rfl), He.tupB_ok (vs := [.str "start", .str "end"]) e_ev _⟩
    d_is_int := ⟨_, _, (c.t.d.def_ 4 (d := dfn 4) rfl).choose_spec, He.glo_ok X G (c.t.d.fact 70 rfl)⟩
    d_is_slot := ⟨_, _, (c.t.d.def_ 5 (d := dfn 5) rfl).choose_spec, He.glo_ok X G (c.t.d.fact 71 rfl)⟩
    d_check_cycle := ⟨_, _, (c.t.d.def_ 6 (d := dfn 6) rfl).choose_spec, He.glo_ok X G (c.t.d.fact 72 rfl)⟩
    d_is_change := ⟨_, _, (c.t.d.def_ 7 (d := dfn 7) rfl).choose_spec, He.glo_ok X G (c.t.d.fact 73 rfl)⟩
    d_check_changes := ⟨_, _, (c.t.d.def_ 8 (d := dfn 8) rfl).choose_spec, He.glo_ok X G (c.t.d.fact 74 rfl)⟩
    d_planned := ⟨_, _, (c.t.d.def_ 9 (d := dfn 9) rfl).choose_spec, He.glo_ok X G (c.t.d.fact 75 rfl)⟩
    d_works := ⟨_, _, (c.t.d.def_ 10 (d := dfn 10) rfl).choose_spec, He.glo_ok X G (c.t.d.fact 76 rfl)⟩
    d_counted := ⟨_, _, (c.t.d.def_ 11 (d := dfn 11) rfl).choose_spec, He.glo_ok X G (c.t.d.fact 77 rfl)⟩
    d_reached := ⟨_, _, (c.t.d.def_ 12 (d := dfn 12) rfl).choose_spec, He.glo_ok X G (c.t.d.fact 78 rfl)⟩
    d_end_in := ⟨_, _, (c.t.d.def_ 13 (d := dfn 13) rfl).choose_spec, He.glo_ok X G (c.t.d.fact 79 rfl)⟩
    d_is_name := ⟨_, _, (c.t.d.def_ 14 (d := dfn 14) rfl).choose_spec, He.glo_ok X G (c.t.d.fact 80 rfl)⟩
    d_is_index := ⟨_, _, (c.t.d.def_ 15 (d := dfn 15) rfl).choose_spec, He.glo_ok X G (c.t.d.fact 81 rfl)⟩
    d_is_pair := ⟨_, _, (c.t.d.def_ 16 (d := dfn 16) rfl).choose_spec, He.glo_ok X G (c.t.d.fact 82 rfl)⟩
    d_is_row := ⟨_, _, (c.t.d.def_ 17 (d := dfn 17) rfl).choose_spec, He.glo_ok X G (c.t.d.fact 83 rfl)⟩
    d_are_skills := ⟨_, _, (c.t.d.def_ 18 (d := dfn 18) rfl).choose_spec, He.glo_ok X G (c.t.d.fact 84 rfl)⟩
    d_are_asks := ⟨_, _, (c.t.d.def_ 19 (d := dfn 19) rfl).choose_spec, He.glo_ok X G (c.t.d.fact 85 rfl)⟩
    d_skills_among := ⟨_, _, (c.t.d.def_ 20 (d := dfn 20) rfl).choose_spec, He.glo_ok X G (c.t.d.fact 86 rfl)⟩
    d_sets_of := ⟨_, _, (c.t.d.def_ 21 (d := dfn 21) rfl).choose_spec, He.glo_ok X G (c.t.d.fact 87 rfl)⟩
    d_lacking_skills := ⟨_, _, (c.t.d.def_ 22 (d := dfn 22) rfl).choose_spec, He.glo_ok X G (c.t.d.fact 88 rfl)⟩
    d_check_crew := ⟨_, _, (c.t.d.def_ 23 (d := dfn 23) rfl).choose_spec, He.glo_ok X G (c.t.d.fact 89 rfl)⟩
    d_is_set := ⟨_, _, (c.t.d.def_ 24 (d := dfn 24) rfl).choose_spec, He.glo_ok X G (c.t.d.fact 90 rfl)⟩
    d_is_between := ⟨_, _, (c.t.d.def_ 25 (d := dfn 25) rfl).choose_spec, He.glo_ok X G (c.t.d.fact 91 rfl)⟩
    d_are_between := ⟨_, _, (c.t.d.def_ 26 (d := dfn 26) rfl).choose_spec, He.glo_ok X G (c.t.d.fact 92 rfl)⟩
    d_is_mode := ⟨_, _, (c.t.d.def_ 27 (d := dfn 27) rfl).choose_spec, He.glo_ok X G (c.t.d.fact 93 rfl)⟩
    d_are_modes := ⟨_, _, (c.t.d.def_ 28 (d := dfn 28) rfl).choose_spec, He.glo_ok X G (c.t.d.fact 94 rfl)⟩
    d_is_window := ⟨_, _, (c.t.d.def_ 29 (d := dfn 29) rfl).choose_spec, He.glo_ok X G (c.t.d.fact 95 rfl)⟩
    d_is_lag := ⟨_, _, (c.t.d.def_ 30 (d := dfn 30) rfl).choose_spec, He.glo_ok X G (c.t.d.fact 96 rfl)⟩
    d_is_single := ⟨_, _, (c.t.d.def_ 31 (d := dfn 31) rfl).choose_spec, He.glo_ok X G (c.t.d.fact 97 rfl)⟩
    d_is_late := ⟨_, _, (c.t.d.def_ 32 (d := dfn 32) rfl).choose_spec, He.glo_ok X G (c.t.d.fact 98 rfl)⟩
    d_check_row := ⟨_, _, (c.t.d.def_ 33 (d := dfn 33) rfl).choose_spec, He.glo_ok X G (c.t.d.fact 99 rfl)⟩
    d_check_names := ⟨_, _, (c.t.d.def_ 34 (d := dfn 34) rfl).choose_spec, He.glo_ok X G (c.t.d.fact 100 rfl)⟩
    d_check_frame := ⟨_, _, (c.t.d.def_ 35 (d := dfn 35) rfl).choose_spec, He.glo_ok X G (c.t.d.fact 101 rfl)⟩
    d_check_rest := ⟨_, _, (c.t.d.def_ 36 (d := dfn 36) rfl).choose_spec, He.glo_ok X G (c.t.d.fact 102 rfl)⟩
    d_check_singles := ⟨_, _, (c.t.d.def_ 37 (d := dfn 37) rfl).choose_spec, He.glo_ok X G (c.t.d.fact 103 rfl)⟩
    d_check_people := ⟨_, _, (c.t.d.def_ 38 (d := dfn 38) rfl).choose_spec, He.glo_ok X G (c.t.d.fact 104 rfl)⟩
    d_check_project := ⟨_, _, (c.t.d.def_ 39 (d := dfn 39) rfl).choose_spec, He.glo_ok X G (c.t.d.fact 105 rfl)⟩
    d_check_choice := ⟨_, _, (c.t.d.def_ 40 (d := dfn 40) rfl).choose_spec, He.glo_ok X G (c.t.d.fact 106 rfl)⟩
    d_mode_of := ⟨_, _, (c.t.d.def_ 41 (d := dfn 41) rfl).choose_spec, He.glo_ok X G (c.t.d.fact 107 rfl)⟩
    d_window_of := ⟨_, _, (c.t.d.def_ 42 (d := dfn 42) rfl).choose_spec, He.glo_ok X G (c.t.d.fact 108 rfl)⟩
    d_setup_of := ⟨_, _, (c.t.d.def_ 43 (d := dfn 43) rfl).choose_spec, He.glo_ok X G (c.t.d.fact 109 rfl)⟩
    d_end_at := ⟨_, _, (c.t.d.def_ 44 (d := dfn 44) rfl).choose_spec, He.glo_ok X G (c.t.d.fact 110 rfl)⟩
    d_event_at := ⟨_, _, (c.t.d.def_ 45 (d := dfn 45) rfl).choose_spec, He.glo_ok X G (c.t.d.fact 111 rfl)⟩
    d_is_kept := ⟨_, _, (c.t.d.def_ 46 (d := dfn 46) rfl).choose_spec, He.glo_ok X G (c.t.d.fact 112 rfl)⟩
    d_starts_in := ⟨_, _, (c.t.d.def_ 47 (d := dfn 47) rfl).choose_spec, He.glo_ok X G (c.t.d.fact 113 rfl)⟩
    d_rules_of := ⟨_, _, (c.t.d.def_ 48 (d := dfn 48) rfl).choose_spec, He.glo_ok X G (c.t.d.fact 114 rfl)⟩
    d_check_times := ⟨_, _, (c.t.d.def_ 49 (d := dfn 49) rfl).choose_spec, He.glo_ok X G (c.t.d.fact 115 rfl)⟩
    d_check_most := ⟨_, _, (c.t.d.def_ 50 (d := dfn 50) rfl).choose_spec, He.glo_ok X G (c.t.d.fact 116 rfl)⟩
    d_all_starts := ⟨_, _, (c.t.d.def_ 52 (d := dfn 52) rfl).choose_spec, He.glo_ok X G (c.t.d.fact 118 rfl)⟩
    d_led := ⟨_, _, (c.t.d.def_ 53 (d := dfn 53) rfl).choose_spec, He.glo_ok X G (c.t.d.fact 119 rfl)⟩
    d_greatest_in := ⟨_, _, (c.t.d.def_ 54 (d := dfn 54) rfl).choose_spec, He.glo_ok X G (c.t.d.fact 120 rfl)⟩
    d_times_in := ⟨_, _, (c.t.d.def_ 55 (d := dfn 55) rfl).choose_spec, He.glo_ok X G (c.t.d.fact 121 rfl)⟩
    d__law_well := ⟨_, _, (c.t.d.def_ 57 (d := dfn 57) rfl).choose_spec, He.glo_ok X G (c.t.d.fact 123 rfl)⟩
    d__law_draw := ⟨_, _, (c.t.d.def_ 58 (d := dfn 58) rfl).choose_spec, He.glo_ok X G (c.t.d.fact 124 rfl)⟩
    d__law_one := ⟨_, _, (c.t.d.def_ 59 (d := dfn 59) rfl).choose_spec, He.glo_ok X G (c.t.d.fact 125 rfl)⟩
    d__law_calendar := ⟨_, _, (c.t.d.def_ 60 (d := dfn 60) rfl).choose_spec, He.glo_ok X G (c.t.d.fact 126 rfl)⟩
    d__law_modes := ⟨_, _, (c.t.d.def_ 61 (d := dfn 61) rfl).choose_spec, He.glo_ok X G (c.t.d.fact 127 rfl)⟩
    d__law_lags := ⟨_, _, (c.t.d.def_ 62 (d := dfn 62) rfl).choose_spec, He.glo_ok X G (c.t.d.fact 128 rfl)⟩
    d__law_single := ⟨_, _, (c.t.d.def_ 63 (d := dfn 63) rfl).choose_spec, He.glo_ok X G (c.t.d.fact 129 rfl)⟩
    d__law_drawn := ⟨_, _, (c.t.d.def_ 64 (d := dfn 64) rfl).choose_spec, He.glo_ok X G (c.t.d.fact 130 rfl)⟩
    d__law_calendars_of := ⟨_, _, (c.t.d.def_ 65 (d := dfn 65) rfl).choose_spec, He.glo_ok X G (c.t.d.fact 131 rfl)⟩
    d__law_project := ⟨_, _, (c.t.d.def_ 66 (d := dfn 66) rfl).choose_spec, He.glo_ok X G (c.t.d.fact 132 rfl)⟩
    d__law_choice := ⟨_, _, (c.t.d.def_ 67 (d := dfn 67) rfl).choose_spec, He.glo_ok X G (c.t.d.fact 133 rfl)⟩
    d__law_end := ⟨_, _, (c.t.d.def_ 68 (d := dfn 68) rfl).choose_spec, He.glo_ok X G (c.t.d.fact 134 rfl)⟩
    d__law_event := ⟨_, _, (c.t.d.def_ 69 (d := dfn 69) rfl).choose_spec, He.glo_ok X G (c.t.d.fact 135 rfl)⟩
    d__law_lag_kept := ⟨_, _, (c.t.d.def_ 70 (d := dfn 70) rfl).choose_spec, He.glo_ok X G (c.t.d.fact 136 rfl)⟩
    d__law_possible := ⟨_, _, (c.t.d.def_ 71 (d := dfn 71) rfl).choose_spec, He.glo_ok X G (c.t.d.fact 137 rfl)⟩
    d__law_setup := ⟨_, _, (c.t.d.def_ 72 (d := dfn 72) rfl).choose_spec, He.glo_ok X G (c.t.d.fact 138 rfl)⟩
    d__law_pairs := ⟨_, _, (c.t.d.def_ 73 (d := dfn 73) rfl).choose_spec, He.glo_ok X G (c.t.d.fact 139 rfl)⟩
    d__law_is_kept := ⟨_, _, (c.t.d.def_ 74 (d := dfn 74) rfl).choose_spec, He.glo_ok X G (c.t.d.fact 140 rfl)⟩
    d__law_all := ⟨_, _, (c.t.d.def_ 75 (d := dfn 75) rfl).choose_spec, He.glo_ok X G (c.t.d.fact 141 rfl)⟩
    d__law_longer := ⟨_, _, (c.t.d.def_ 76 (d := dfn 76) rfl).choose_spec, He.glo_ok X G (c.t.d.fact 142 rfl)⟩
    d__law_closed := ⟨_, _, (c.t.d.def_ 77 (d := dfn 77) rfl).choose_spec, He.glo_ok X G (c.t.d.fact 143 rfl)⟩
    d__law_is_within := ⟨_, _, (c.t.d.def_ 78 (d := dfn 78) rfl).choose_spec, He.glo_ok X G (c.t.d.fact 144 rfl)⟩
    d__law_bound_right := ⟨_, _, (c.t.d.def_ 79 (d := dfn 79) rfl).choose_spec, He.glo_ok X G (c.t.d.fact 145 rfl)⟩
    d__law_right := ⟨_, _, (c.t.d.def_ 80 (d := dfn 80) rfl).choose_spec, He.glo_ok X G (c.t.d.fact 146 rfl)⟩
    d_law := ⟨_, _, (c.t.d.def_ 81 (d := dfn 81) rfl).choose_spec, He.glo_ok X G (c.t.d.fact 147 rfl)⟩
    d_times := ⟨_, _, _, (c.t.d.def_ 56 (d := dfn 56) rfl).choose_spec, He.glo_ok X G (c.t.d.fact 122 rfl), tupA_ok e_ah⟩
    d_possible_starts := ⟨_, _, (c.t.d.def_ 51 (d := dfn 51) rfl).choose_spec, He.glo_ok X G (c.t.d.fact 117 rfl)⟩
  }
theorem defC_of (X : K.In h) (G : h.Ns mainGlobals mg) {x : Str} {i : Nat} (F : ∃ fd, FunD K x x (defArgs (top i)) (defBody (top i)) (defScope (top i)) [] [] (He.ga K x) fd) (g : mg x = some (.ref (He.ga K x)))
    (tb : LamX.TabB base mg (He.cT K (x, none)).1 (He.cT K (x, none)).2) {nm : Nat → Nat → Str} (mem : ((He.cT K (x, none)).2, nm) ∈ tabsW K) (nd : (htf.map fun p => (He.cT K p).2).Nodup) : DefC (wdW P w K mg base) x (top i) (He.cT K (x, none)).1 (He.cT K (x, none)).2 nm := by
  obtain ⟨fd, F⟩ := F
  obtain ⟨oc, od, dV, kV, doc, pm, an, cdv, ct, osl, e, lk, hc, hD, hK⟩ := F.ex
  have eD : dV = .none := by
    rcases hD with ⟨_, z⟩ | ⟨z, _⟩
    · exact z
    · exact absurd rfl z
  subst eD e
  obtain ⟨c, ec⟩ := He.codeIn_ref hc
  subst ec
  have e2 : He.codeOf K (x, none) = c := He.codeOf_eq lk rfl
  have e3 : (He.cT K (x, none)).1 = c := e2
  refine ⟨⟨He.ga K x, oc, od, kV, doc, pm, an, ct, osl, g, F.kp, by rw [e3]; exact lk, by rw [e3]; exact hc⟩, tb, mem, fun p hp ep => ?_⟩
  have nd2 : (tabsW K).map (·.1) = htf.map fun p => (He.cT K p).2 := rfl
  rw [← nd2] at nd
  have go : ∀ (l : List NTab), (l.map (·.1)).Nodup → ∀ p ∈ l, ∀ q ∈ l, p.1 = q.1 → p = q := fun l => by
    induction l with
    | nil => intro _ p hp; cases hp
    | cons a r ih =>
      intro hn p hp q hq e
      rw [List.map_cons, List.nodup_cons] at hn
      rcases List.mem_cons.mp hp with rfl | hp2
      · rcases List.mem_cons.mp hq with rfl | hq2
        · rfl
        · exact absurd (show p.1 ∈ r.map (·.1) from List.mem_map.mpr ⟨q, hq2, e.symm⟩) hn.1
      · rcases List.mem_cons.mp hq with rfl | hq2
        · exact absurd (show q.1 ∈ r.map (·.1) from List.mem_map.mpr ⟨p, hp2, e⟩) hn.1
        · exact ih hn.2 p hp2 q hq2 e
  have := go _ nd p hp _ mem ep
  rw [this]
theorem gl1_of (X : K.In h) (G : h.Ns mainGlobals mg) (c : He.SaysX hfa hfn [] htf hex w h K) (TB : ∀ p ∈ htf, LamX.TabB base mg (He.cT K p).1 (He.cT K p).2) : Gl1 (wdW P w K mg base) := by
  have nd := (hex_ok c.more).2.2.2.2.2
  exact {
    n_check_names := ⟨_, _, defC_of X G (c.t.d.def_ 34 (d := dfn 34) rfl) (He.glo_ok X G (c.t.d.fact 100 rfl)) (TB ("check_names", none) (by simp [htf])) (by simp) nd⟩
    n_check_frame := ⟨_, _, defC_of X G (c.t.d.def_ 35 (d := dfn 35) rfl) (He.glo_ok X G (c.t.d.fact 101 rfl)) (TB ("check_frame", none) (by simp [htf])) (by simp) nd⟩
    n_check_rest := ⟨_, _, defC_of X G (c.t.d.def_ 36 (d := dfn 36) rfl) (He.glo_ok X G (c.t.d.fact 102 rfl)) (TB ("check_rest", none) (by simp [htf])) (by simp) nd⟩
    n_check_singles := ⟨_, _, defC_of X G (c.t.d.def_ 37 (d := dfn 37) rfl) (He.glo_ok X G (c.t.d.fact 103 rfl)) (TB ("check_singles", none) (by simp [htf])) (by simp) nd⟩
    n_sets_of := ⟨_, _, defC_of X G (c.t.d.def_ 21 (d := dfn 21) rfl) (He.glo_ok X G (c.t.d.fact 87 rfl)) (TB ("sets_of", none) (by simp [htf])) (by simp) nd⟩
  }
end
theorem runL (w : World) : HandSHeadRun.RunEq R0 (PySem.W.view R0.prog [115]) hkL obL 6000 hnames w := fun os => by
  show (endL w os).map _ = _
  obtain ⟨s, hs, a⟩ := Option.map_eq_some_iff.mp (runA w os)
  have b := runB w os
  have c := runC w os
  have d := runD w os
  rw [hs] at b c d ⊢
  have b : (hfa.all fun f => f.ok (kL (HandSHeadRun.getT s)), hex (kL (HandSHeadRun.getT s)) && He.tabsB (HandSHeadRun.getT s) htf (kL (HandSHeadRun.getT s))) = (true, true) := Option.some.inj b
  have c : (hfn.map fun d => He.fnW (kL (HandSHeadRun.getT s)) d.at_) = hfn.map He.DefD.val := Option.some.inj c
  have d : (hfn.all fun d => d.ok (kL (HandSHeadRun.getT s))) = true := Option.some.inj d
  obtain ⟨a1, a2⟩ := Prod.mk.inj a
  obtain ⟨b1, b2⟩ := Prod.mk.inj b
  show some (_, _, ((_, _), _, _)) = some (_, _, ((_, _), _, _))
  rw [a1, a2, b1, b2, c, d]
end DL

/-! DfZg -/
set_option Elab.async false
set_option linter.all false
set_option maxRecDepth 100000
set_option maxHeartbeats 4000000
set_option pp.maxSteps 300
set_option pp.deepTerms false
namespace DL
open PySem PySem.Spec PyProof.Rows L2
open NdefX (NTab TabsN TabN)
open Mth
section
variable {W : Wd} {ad : Ads}
theorem okss_of {p : PrjM} (ok : OkP p) {s : List Nat × List (List Nat)} (h : s ∈ p.singles) : OkSS p.n (maxFo p.fams + 1) s := by
  have z : maxF p = maxFo p.fams := by unfold maxF maxFo; cases p.fams <;> rfl
  have o := ok.singles s h
  refine ⟨o.two, o.asc, o.lt, ?_, ?_⟩
  · rw [← z]; exact o.sq
  · intro r hr
    rw [← z]; exact o.row r hr
theorem cut_get {α β : Type} {l : List α} {f : α → β} {n i : Nat} {d : β} (h : (cutD (l.map f) none (some (n : Int)))[i]? = some d) : ∃ x, i < n ∧ l[i]? = some x ∧ d = f x := by
  rw [cut_take (by omega), Int.toNat_natCast, List.getElem?_take] at h
  split at h
  · rename_i hl
    obtain ⟨x, e, ed⟩ := map_get h
    exact ⟨x, hl, e, ed⟩
  · cases h
def S_check_singles : Sc := fun ds Q => ∃ p : PrjM, ds = [nI p.n, dFams p, dSingles p] ∧ OkP p ∧ Q .non
set_option maxHeartbeats 8000000 in
theorem c_check_singles (G : Gl0 W ad) (L : Gl1 W) : CalD W 8 "check_singles" S_check_singles [] := by
  obtain ⟨c, P, Dc⟩ := L.n_check_singles
  refine calC_of (N := ["many", "families", "singles", "rows", "index", "members", "table", "earlier", "other", "one"]) (ps := ["many", "families", "singles"]) Dc (by decide +kernel) (fun _ _ _ _ _ _ us hl => match us, hl with | [_, _, _], _ => rfl) (fun ds Q hS => by obtain ⟨p, rfl, ok, q⟩ := hS; rfl) fun f A outer s H E md0 ds Q hr hS => ?_
  obtain ⟨p, rfl, ok, q⟩ := hS
  have HN : (["many", "families", "singles", "rows", "index", "members", "table", "earlier", "other", "one"] : List Str).Nodup := by decide
  have n3 := ok.n3
  have hsl := ok.sl
  refine s_cons (s_set 3 ?_ HN)
  refine d_listRg1 rfl G.b_list G.b_range ?_
  refine d_add ?_
  refine d_gint G.i_MAX_SINGLES ?_
  refine d_int ?_
  refine ⟨_, rfl, by omega, ?_⟩
  refine s_cons (s_expr ?_)
  refine d_rowL (Nl := ["one", "many", "families"]) (fr := ["many", "families"]) (pn := "one") (js := [0, 1]) (k := 5) G (Dc) (show ("check_singles.<locals>.<lambda>" : Str) = (("check_singles" : Str) ++ ".<locals>.") ++ "<lambda>" by decide +kernel) (NdefX.nscope_by (by decide +kernel)) (fun _ _ _ _ _ _ => rfl) (by decide +kernel) (by decide +kernel) rfl rfl hr (by decide) (.cons rfl (.cons rfl (.nil))) ?_
  refine d_str ?_
  refine d_name 2 rfl ?_
  refine d_name 3 rfl ?_
  refine ⟨_, _, _, rfl, rfl, .inr rng_int, in_rng (by omega) (by rw [List.length_map]; omega), fun d hd Q' A' outer' s' H' E' cl c' f' md' q' hr => ?_, ?_⟩
  · obtain ⟨z, hz, rfl⟩ := List.mem_map.mp hd
    refine d_call (c_is_single G) hr ?_
    refine a_cons ?_
    refine d_name 0 rfl ?_
    refine a_cons ?_
    refine d_name 1 rfl ?_
    refine a_cons ?_
    refine d_name 2 rfl ?_
    refine a_nil ⟨z, p.n, p.fams, rfl, okss_of ok hz, n3, fun l e => ok.fams l e, ?_⟩
    exact q'
  refine s_one (s_for rfl ?_)
  refine i_enum G.b_enumerate ?_
  refine d_name 2 rfl ?_
  refine ⟨fun i δ => ∃ s4 s5 s6 s7 s8 s9, δ = [.d (nI p.n), .d (dFams p), .d (dSingles p), .d (.lst (rangeD 0 3)), s4, s5, s6, s7, s8, s9], ⟨_, _, _, _, _, _, rfl⟩, fun i δ _ _ => trivial, fun i d δ ed hI => ?_, fun δ hI => ?_⟩
  · obtain ⟨s4, s5, s6, s7, s8, s9, rfl⟩ := hI
    obtain ⟨x, ex, rfl⟩ := enum_get ed
    obtain ⟨t, et, rfl⟩ := map_get ex
    refine g_tup (n := 2) rfl ⟨rfl, ?_⟩
    refine g_cons ?_
    refine g_name 4 ?_ HN
    refine g_cons ?_
    refine g_tup (n := 2) rfl ⟨rfl, ?_⟩
    refine g_cons ?_
    refine g_name 5 ?_ HN
    refine g_cons ?_
    refine g_name 6 ?_ HN
    refine g_nil ?_
    refine g_nil ?_
    refine s_one (s_for rfl ?_)
    refine i_seq ?_
    refine d_slice ?_
    refine d_name 2 rfl ?_
    refine id ?_
    refine d_name 4 rfl ?_
    refine ⟨_, rfl, ?_⟩
    refine ⟨fun i δ => ∃ s4 s7 s8 s9, δ = [.d (nI p.n), .d (dFams p), .d (dSingles p), .d (.lst (rangeD 0 3)), s4, .d (dNats t.1), .d (.tup (t.2.map dNats)), s7, s8, s9], ⟨_, _, _, _, rfl⟩, fun i δ _ _ => trivial, fun i d δ ed hI => ?_, fun δ hI => ?_⟩
    · obtain ⟨s4, s7, s8, s9, rfl⟩ := hI
      obtain ⟨s, hj, es, rfl⟩ := cut_get ed
      have hap := ok.apart _ _ s t hj es et
      have ht := ok.singles t (List.mem_of_getElem? et)
      have htl := asc_len ht.asc ht.lt
      refine g_tup (n := 2) rfl ⟨rfl, ?_⟩
      refine g_cons ?_
      refine g_name 7 ?_ HN
      refine g_cons ?_
      refine g_name 8 ?_ HN
      refine g_nil ?_
      refine s_one (s_if ?_)
      refine t_gt ?_
      refine d_len G.b_len ?_
      refine d_lc (own := [("one", 9)]) (is := [9]) rfl HN (by kernel_rfl) ?_
      refine i_seq ?_
      refine d_name 5 rfl ?_
      refine lcq_filter (h := nI) (p := fun a => decide (a ∈ s.1)) (by omega) trivial (fun i z ez Y N y n => ?_) ?_
      · intro s5 H5 C5 cl5 fp5
        refine n_name 9 ?_ HN
        intro s6 H6 C6 cl6 fp6
        refine ts_one ?_
        refine t_in hr.u65 ?_
        refine d_name 9 rfl ?_
        refine d_name 7 rfl ?_
        refine .inl ⟨_, .inr rfl, rfl, fl_nats, ?_⟩
        rw [any_nats]
        refine if_x (fun h10 => ?_) (fun h10 => ?_)
        · intro s7 H7 C7 cl7 fp7
          refine d_name 9 rfl ?_
          exact y (by simpa using h10)
        · exact n (by simpa using h10)
      refine d_int ?_
      refine ⟨trivial, ?_⟩
      refine q_b ?_
      refine if_f (by rw [List.length_map, decide_eq_true_iff]; omega) ?_
      refine s_nil ?_
      exact ⟨_, _, _, _, rfl⟩
    · obtain ⟨s4, s7, s8, s9, rfl⟩ := hI
      exact ⟨_, _, _, _, _, _, rfl⟩
  · obtain ⟨s4, s5, s6, s7, s8, s9, rfl⟩ := hI
    exact q
end
end DL

/-! DlX -/
set_option Elab.async false
set_option linter.all false
set_option maxRecDepth 100000
set_option maxHeartbeats 1000000
namespace DL
open PySem PySem.Spec PyProof.Rows L2
open NdefX (NTab TabsN TabN)
/-! ### comprehensions of two clauses -/
def iBlk (X : Cx) (sc : Scope) (tg it : Expr) : TI := fun σ H R => ∀ (s : Shared) (H0 : Hp) (C : Addr) (cl : List (Str × Addr)) (fp : List Addr), tCanI (X.blk s H0 sc (compEnvC sc cl C X.env) fp) tg it σ H R
section
variable {X : Cx} {B : Bx} {K : PySem.W.Frag} {δ : List Sl} {σ : L2.St} {md md' : Addr → Md} {H H' : Hp} {E : DE} {Q : Dat → Prop} {tg it tg1 it1 elt : Expr} {ifs1 : List Expr} {pos spos : Pos} {x y z : Str} {sc : Scope} {own : List (Str × Nat)} {is is1 vs1 : List Nat}
theorem pi_blk (s : Shared) (H0 : Hp) (C : Addr) (cl : List (Str × Addr)) (fp : List Addr) : PI (X.blk s H0 sc (compEnvC sc cl C X.env) fp) tg it (iBlk X sc tg it) := ⟨fun pins s' _ _ _ I h => h s H0 C cl fp pins s' I⟩
/-- the inner clause, over δ2 -/
def LcIn (X : Cx) (B : Bx) (sc : Scope) (tg1 elt : Expr) (ifs1 : List Expr) (is1 vs1 : List Nat) (δ2 : List Sl) (acc0 : List Dat) (Fi : List Dat → Prop) : List Dat → (List Sl → Prop) → Prop := fun ds kp =>
  ds.length ≤ 100 ∧ kp (wipeD δ2 vs1) ∧ ∃ Rl : Nat → List Dat → Prop, Rl 0 acc0 ∧
    (∀ j d acc, ds[j]? = some d → Rl j acc → InBlk X sc fun Z => WN Z B tg1 d (wipeD δ2 vs1) is1 fun δ3 => InBlk X sc fun Z => WTs Z B ifs1 δ3 fun b => if b = true then InBlk X sc fun Z => WE Z B elt δ3 (fun y => Rl (j + 1) (acc ++ [y])) else Rl (j + 1) acc) ∧ ∀ acc, Rl ds.length acc → Fi acc
/-- no slot tells of an own object that no slot told of before -/
def OwnSub (δ2 δ : List Sl) : Prop := ∀ (j : Nat) q y, δ2[j]? = some (.own q y) → ∃ (j' : Nat) (y' : Dat), δ[j']? = some (.own q y')
def LcQ2 (X : Cx) (B : Bx) (sc : Scope) (own : List (Str × Nat)) (tg it1 tg1 elt : Expr) (ifs1 : List Expr) (is is1 vs1 : List Nat) (δ : List Sl) (Q : List Dat → Prop) : List Dat → (List Sl → Prop) → Prop := fun ds kp =>
  ds.length ≤ 1000 ∧ kp (wipeD δ (own.map (·.2))) ∧ ∃ Rl : Nat → List Dat → Prop, Rl 0 [] ∧
    (∀ i d acc, ds[i]? = some d → Rl i acc → InBlk X sc fun Z => WN Z B tg d (wipeD δ (own.map (·.2))) is fun δ2 => OwnSub δ2 δ ∧ InBlk X sc fun Z => WI Z B tg1 it1 δ2 (LcIn X B sc tg1 elt ifs1 is1 vs1 δ2 acc (Rl (i + 1)))) ∧ ∀ acc, Rl ds.length acc → Q acc
theorem lc_read2 (his : ∀ i ∈ is, i ∈ own.map (·.2)) (his1 : ∀ i ∈ is1, i ∈ vs1) {Ql : List Dat → Prop} (h : WI X B tg it δ (LcQ2 X B sc own tg it1 tg1 elt ifs1 is is1 vs1 δ Ql)) {Qc : VK} (R : Rep X.K B md δ σ H)
    (k : ∀ D H' acc accV, H D = none → Ex md H H' → Rep X.K B (mdSet md D .own) δ σ H' → TabsN B.T H' → H' D = some (.lst accV) → DA X.K B.lt (mdSet md D .own) H' accV acc → Ql acc → Qc (.ref D) H') :
    tLc2 (tCanI X tg it) (gBlk X sc tg) (pBlk X sc []) (iBlk X sc tg1 it1) (gBlk X sc tg1) (pBlk X sc ifs1) (eBlk X sc elt) (own.map (·.2)) vs1 σ H Qc := by
  refine h md σ H _ R fun J H1 ds kp x1 R1 w ⟨hlen, hkp, Rl, r0, step, done⟩ D hD => ?_
  have hmi := R1.live.imm hD
  have hB := R1.fresh0 hD
  have hno := R1.notIn hD
  refine ⟨fun i m H' => m = ds.length - i ∧ i ≤ ds.length ∧ Rep X.K B (mdSet md D .own) δ σ H' ∧ Ex md H1 H' ∧ ∃ accV acc, H' D = some (.lst accV) ∧ DA X.K B.lt (mdSet md D .own) H' accV acc ∧ acc.length ≤ 100 * i ∧ Rl i acc,
    ⟨_, rfl, Nat.zero_le _, R1.mkOwn hD nt_lst, ex_new hD, [], [], upd_same, .nil, Nat.zero_le _, r0⟩, ?_⟩
  rintro i m H2 ⟨rfl, hi, R2, x2, accV, acc, eD, g, hl, rl⟩
  by_cases hlt : i < ds.length
  · refine .inr ⟨w.goes i _ _ _ H2 hlt (xd_fresh hD x2) (R2.wiped (own.map (·.2))) hkp, fun H' => Rep X.K B (mdSet md D .own) δ σ H' ∧ Ex md H1 H' ∧ ∃ accV acc, H' D = some (.lst accV) ∧ DA X.K B.lt (mdSet md D .own) H' accV acc ∧ acc.length ≤ 100 * (i + 1) ∧ Rl (i + 1) acc,
      fun H' p => ⟨ds.length - (i + 1), by omega, rfl, hlt, p⟩, fun v H3 y => ?_⟩
    obtain ⟨d, ed, xe, tb, r⟩ := w.yld i _ _ _ H2 v H3 hlt (xd_fresh hD x2) (R2.wiped (own.map (·.2))) hkp y
    have R3 := R2.grow xe tb
    intro s5 H5 C5 cl5 fp5
    refine step i d acc ed rl s5 H5 C5 cl5 fp5 _ _ H3 v _ (R3.wiped (own.map (·.2))) r fun δ2 σ2 hw R4 ⟨hos, q⟩ => ⟨?_, ?_⟩
    · rw [hw _ his]; exact wipe_idem fun i hi => hi
    · intro s6 H6 C6 cl6 fp6
      refine PTs.can pts_nil ?_
      unfold tYes
      dsimp only
      rw [if_pos rfl]
      intro s7 H7 C7 cl7 fp7
      have hno2 : ∀ (j : Nat) p y, δ2[j]? = some (.own p y) → p ≠ D := fun j p y e => by
        obtain ⟨j', y', e'⟩ := hos j p y e
        exact hno j' p y' e'
      refine q s7 H7 C7 cl7 fp7 _ σ2 H3 _ R4 fun J1 H4 ds1 kp1 x4 R5 w1 ⟨hlen1, hkp1, Rl1, r01, step1, done1⟩ => ?_
      have eD4 : H4 D = some (.lst accV) := (xe.trans x4).keep D _ (by rw [mdSet_same]; exact fun z => by cases z) eD nt_lst
      have acc4 : Ex md H1 H4 := by
        have z := ex_acc (o := .lst accV) hD x2 (xe.trans x4)
        have e : upd H4 D (.lst accV) = H4 := by
          funext a
          by_cases q : a = D
          · rw [q, upd_same, eD4]
          · rw [upd_ne q]
        rw [e] at z; exact z
      refine ⟨fun j m H' => m = ds1.length - j ∧ j ≤ ds1.length ∧ XD (mdSet md D .own) H4 (mdSet md D .own) H' ∧ Rep X.K B (mdSet md D .own) δ σ H' ∧ Rep X.K B (mdSet md D .own) δ2 σ2 H' ∧ Ex md H1 H' ∧
          ∃ accV acc, H' D = some (.lst accV) ∧ DA X.K B.lt (mdSet md D .own) H' accV acc ∧ acc.length ≤ 100 * i + j ∧ Rl1 j acc,
        ⟨_, rfl, Nat.zero_le _, XD.refl _ _, R3.grow x4 R5.tabs, R5, acc4, accV, acc, eD4, DA.mono (xe.trans x4) g, by omega, r01⟩, ?_⟩
      rintro j m G2 ⟨rfl, hj, xg, Ra, Rb, xa, accV1, acc1, eG, g1, hl1, rl1⟩
      by_cases hlt1 : j < ds1.length
      · refine .inr ⟨w1.goes j _ _ _ G2 hlt1 xg (Rb.wiped vs1) hkp1, fun H' => XD (mdSet md D .own) H4 (mdSet md D .own) H' ∧ Rep X.K B (mdSet md D .own) δ σ H' ∧ Rep X.K B (mdSet md D .own) δ2 σ2 H' ∧ Ex md H1 H' ∧
          ∃ accV acc, H' D = some (.lst accV) ∧ DA X.K B.lt (mdSet md D .own) H' accV acc ∧ acc.length ≤ 100 * i + (j + 1) ∧ Rl1 (j + 1) acc,
          fun H' p => ⟨ds1.length - (j + 1), by omega, rfl, hlt1, p⟩, fun v1 G3 y1 => ?_⟩
        obtain ⟨d1, ed1, xe1, tb1, rr1⟩ := w1.yld j _ _ _ G2 v1 G3 hlt1 xg (Rb.wiped vs1) hkp1 y1
        have Rb3 := Rb.grow xe1 tb1
        intro s8 H8 C8 cl8 fp8
        refine step1 j d1 acc1 ed1 rl1 s8 H8 C8 cl8 fp8 _ _ G3 v1 _ (Rb3.wiped vs1) rr1 fun δ3 σ3 hw1 R6 q1 => ⟨?_, ?_⟩
        · rw [hw1 _ his1]; exact wipe_idem fun i hi => hi
        · intro s9 H9 C9 cl9 fp9
          refine q1 s9 H9 C9 cl9 fp9 _ σ3 G3 _ R6 fun b G4 x6 R7 q2 => ?_
          cases b with
          | true =>
            rw [if_pos rfl] at q2 ⊢
            intro sA HA CA clA fpA
            refine q2 sA HA CA clA fpA _ σ3 G4 _ R7 fun u G8 d8 x8 R8 r8 q8 => ?_
            have xx := xe1.trans (x6.trans x8)
            have eD8 : G8 D = some (.lst accV1) := xx.keep D _ (by rw [mdSet_same]; exact fun z => by cases z) eG nt_lst
            refine ⟨accV1, eD8, ?_, xg.trans (xx.xd.trans (xd_mut mdSet_same)), ?_, ?_, ex_acc hD xa xx, accV1 ++ [u], acc1 ++ [d8], upd_same, ?_, by rw [List.length_append, List.length_singleton]; omega, q8⟩
            · rw [g1.len]; exact sz_lt (by have := Nat.mul_le_mul_left 100 (show i + 1 ≤ 1000 by omega); omega)
            · exact (Ra.grow xx R8.tabs).mutate mdSet_same hB eD8 trivial nt_lst hno
            · exact (Rb.grow xx R8.tabs).mutate mdSet_same hB eD8 trivial nt_lst hno2
            · exact DA.monoX (xd_mut mdSet_same) ((DA.mono xx g1).app (.cons r8 .nil))
          | false =>
            rw [if_neg Bool.false_ne_true] at q2 ⊢
            have xx := xe1.trans x6
            have eD8 : G4 D = some (.lst accV1) := xx.keep D _ (by rw [mdSet_same]; exact fun z => by cases z) eG nt_lst
            have xm : Ex md H1 G4 := by
              have z := ex_acc (o := .lst accV1) hD xa xx
              have e : upd G4 D (.lst accV1) = G4 := by
                funext a
                by_cases q : a = D
                · rw [q, upd_same, eD8]
                · rw [upd_ne q]
              rw [e] at z; exact z
            exact ⟨xg.trans xx.xd, Ra.grow xx R7.tabs, Rb.grow xx R7.tabs, xm, accV1, acc1, eD8, DA.mono xx g1, by omega, q2⟩
      · have e : j = ds1.length := by omega
        subst e
        exact .inl ⟨w1.stops _ _ _ G2 xg (Rb.wiped vs1) hkp1, Ra, xa, accV1, acc1, eG, g1, by omega, done1 acc1 rl1⟩
  · have e : i = ds.length := by omega
    subst e
    exact .inl ⟨w.stops _ _ _ H2 (xd_fresh hD x2) (R2.wiped (own.map (·.2))) hkp, k D H2 acc accV (x1.dom D hD) (x1.trans x2) R2 R2.tabs eD g (done acc rl)⟩
theorem d_lc2 (vs1 : List Nat) (hc : X.calm = true) (hN : X.N.Nodup) (ok : blkC X.N X.env.scope sc own = true) (h : WI X B tg it δ (LcQ2 X B sc own tg it1 tg1 elt ifs1 is is1 vs1 δ fun l => Q (.lst l)))
    (hv : ∀ i ∈ vs1, i ∈ own.map (·.2) := by decide) (his : ∀ i ∈ is, i ∈ own.map (·.2) := by decide) (his1 : ∀ i ∈ is1, i ∈ vs1 := by decide) (hs : ∀ x, foldedSetIterable it X.env x = pure x := by intro _; rfl) (hs1 : ∀ env x, foldedSetIterable it1 env x = pure x := by intro _ _; rfl) :
    WE X B (.ListComp elt [⟨tg, it, [], 0⟩, ⟨tg1, it1, ifs1, 0⟩] sc pos) δ Q := fun md σ H Qc R k =>
  PE.can (pe_lc2 hc hN pi_can (blkOk_by ok) hv pg_blk pts_blk pi_blk pg_blk pts_blk pe_blk hs hs1) (lc_read2 his his1 h R fun D H' acc accV hD x R' tb eD g q => let z := lc_data R hD x R' eD g; k _ H' _ x z.1 z.2 q)
theorem s_setLc2 (i : Nat) {py : Pos} (vs1 : List Nat) (hc : X.calm = true) (hN : X.N.Nodup) (ok : blkC X.N X.env.scope sc own = true) (h : WI X B tg it δ (LcQ2 X B sc own tg it1 tg1 elt ifs1 is is1 vs1 δ fun l => E.nx (δ.set i (.d (.lst l)))))
    (hy : X.N[i]? = some y := by rfl) (hyl : X.env.scope.names.lookup y = some .local := by rfl) (hsw : swapsWith (.ListComp elt [⟨tg, it, [], 0⟩, ⟨tg1, it1, ifs1, 0⟩] sc pos) (some (.Name y py)) spos.line X.env = pure true := by rfl)
    (hv : ∀ i ∈ vs1, i ∈ own.map (·.2) := by decide) (his : ∀ i ∈ is, i ∈ own.map (·.2) := by decide) (his1 : ∀ i ∈ is1, i ∈ vs1 := by decide) (hs : ∀ x, foldedSetIterable it X.env x = pure x := by intro _; rfl) (hs1 : ∀ env x, foldedSetIterable it1 env x = pure x := by intro _ _; rfl) :
    WS X B (.Assign [.Name y py] (.ListComp elt [⟨tg, it, [], 0⟩, ⟨tg1, it1, ifs1, 0⟩] sc pos) spos) δ E := fun md σ H D R F =>
  PS.can (ps_setLc2 hc hN hy hyl hsw pi_can (blkOk_by ok) hv pg_blk pts_blk pi_blk pg_blk pts_blk pe_blk hs hs1) (lc_read2 his his1 h R fun L H' acc accV hD x R' tb eD g q => let z := lc_data R hD x R' eD g; F.nx md _ _ H' x.xd (z.1.set i z.2) q)
/-- a name is the first target -/
theorem ownSub_name {vs : List Nat} {i : Nat} {d : Dat} : OwnSub ((wipeD δ vs).set i (.d d)) δ := fun j q y e => by
  rcases get_set e with ⟨_, z, _⟩ | ⟨_, e⟩
  · cases z
  · exact ⟨j, y, wipeD_own e⟩
/-- rows of rows, flattened -/
theorem lcq2_flat {α β : Type} {l : List α} {g : α → Dat} (m : α → List β) {g1 : β → Dat} {h : β → Dat} (p : β → Bool) {kp : List Sl → Prop} {Ql : List Dat → Prop} (hl : l.length ≤ 1000) (hk : kp (wipeD δ (own.map (·.2))))
    (st : ∀ x ∈ l, ∀ (F : List β → (List Sl → Prop) → List Sl → Prop), (∀ δ2 kp1, (m x).length ≤ 100 → kp1 (wipeD δ2 vs1) → (∀ z ∈ m x, ∀ (Y : Dat → Prop) (N : Prop), (p z = true → Y (h z)) → (p z = false → N) → InBlk X sc fun Z => WN Z B tg1 (g1 z) (wipeD δ2 vs1) is1 fun δ3 => InBlk X sc fun Z => WTs Z B ifs1 δ3 fun b => if b = true then InBlk X sc fun Z => WE Z B elt δ3 Y else N) → F (m x) kp1 δ2) →
      InBlk X sc fun Z => WN Z B tg (g x) (wipeD δ (own.map (·.2))) is fun δ2 => OwnSub δ2 δ ∧ InBlk X sc fun Z => WI Z B tg1 it1 δ2 fun ds1 kp1 => ds1 = (m x).map g1 ∧ F (m x) kp1 δ2) (q : Ql (l.flatMap fun x => ((m x).filter p).map h)) :
    LcQ2 X B sc own tg it1 tg1 elt ifs1 is is1 vs1 δ Ql (l.map g) kp := by
  refine ⟨by rw [List.length_map]; exact hl, hk, fun i acc => acc = (l.take i).flatMap fun x => ((m x).filter p).map h, by simp, fun i d acc ed rl => ?_, fun acc rl => ?_⟩
  · obtain ⟨x, ex, rfl⟩ := map_get ed
    have hx := List.mem_of_getElem? ex
    have z := st x hx (fun zs kp1 δ2 => LcIn X B sc tg1 elt ifs1 is1 vs1 δ2 acc (fun acc => acc = (l.take (i + 1)).flatMap fun x => ((m x).filter p).map h) (zs.map g1) kp1) fun δ2 kp1 hl1 hk1 stp => by
      refine ⟨by rw [List.length_map]; exact hl1, hk1, fun j a => a = acc ++ (((m x).take j).filter p).map h, by simp, fun j d1 a ed1 ra => ?_, fun a ra => ?_⟩
      · obtain ⟨z, ez, rfl⟩ := map_get ed1
        refine stp z (List.mem_of_getElem? ez) _ _ (fun hp => ?_) (fun hp => ?_)
        · subst ra
          show _ = _
          rw [take_snoc ez, List.filter_append, List.map_append]; simp [hp]
        · subst ra
          show _ = _
          rw [take_snoc ez, List.filter_append]; simp [hp]
      · show a = _
        rw [ra, List.length_map, List.take_length, rl, take_snoc ex, List.flatMap_append]; simp
    intro s5 H5 C5 cl5 fp5 md σ H v Q R r k
    refine z s5 H5 C5 cl5 fp5 md σ H v Q R r fun δ' σ' hw R' ⟨ho, hq⟩ => k δ' σ' hw R' ⟨ho, fun s6 H6 C6 cl6 fp6 md6 σ6 H7 Rc R6 k6 => hq s6 H6 C6 cl6 fp6 md6 σ6 H7 Rc R6 fun J H8 ds kp1 x8 R8 w8 ⟨eds, f⟩ => k6 J H8 ds kp1 x8 R8 w8 (by rw [eds]; exact f)⟩
  · rw [rl, List.length_map, List.take_length]; exact q
end
end DL

/-! DlY -/
set_option Elab.async false
set_option linter.all false
set_option maxRecDepth 100000
set_option maxHeartbeats 4000000
namespace DL
open PySem PySem.Spec PyProof.Rows L2
/-! ### sets of texts, that can be walked -/
def txtOf (e : Int × Value) : Str := match e.2 with
  | .str x _ => x
  | _ => Str.empty
/-- the set at a has just the texts ss, each once -/
structure TxtSet (P : Program) (w : World) (h : Heap) (a : Addr) (ss : List Str) : Prop where
  ex : ∃ o es ep t, h.get? a = some o ∧ o.ExactSet ∧ o.data = .set es ep t ∧ ElemsOf (PySem.strKind P w) es.toList ∧ (es.toList.map txtOf).Perm ss ∧ es.size < scanBound ∧ t.fits es.size = true ∧ Ris t.place.toList ∧ (w.params.followText "set-order" = true ∨ t.led = true)
  nd : ss.Nodup
def addTxt (ss : List Str) (x : Str) : List Str := if x ∈ ss then ss else x :: ss
section
variable {P : Program} {w : World} {A : Around} {E : Value → Shared → Prop} {s : Shared} {h h' : Heap} {a : Addr} {ss : List Str} {x : Str} {tk : Tok}
theorem TxtSet.keep (T : TxtSet P w h a ss) (k : ∀ o, h.get? a = some o → h'.get? a = some o) : TxtSet P w h' a ss := by
  obtain ⟨⟨o, es, ep, t, ho, r⟩, n⟩ := T
  exact ⟨⟨o, es, ep, t, k o ho, r⟩, n⟩
theorem txt_is {l : List (Int × Value)} (g : ElemsOf (PySem.strKind P w) l) {e : Int × Value} (he : e ∈ l) : ∃ t, e.2 = .str (txtOf e) t := by
  obtain ⟨⟨k, hk, _⟩, _⟩ := g e he
  obtain ⟨t, q⟩ := Value.isStrOf_shape (show Value.isStrOf k e.2 = true from hk)
  exact ⟨t, by unfold txtOf; rw [q]⟩
theorem txt_eq {l : List (Int × Value)} (g : ElemsOf (PySem.strKind P w) l) {e : Int × Value} (he : e ∈ l) : (PySem.strKind P w).is x e.2 = true ↔ txtOf e = x := by
  obtain ⟨t, q⟩ := txt_is g he
  constructor
  · intro z
    have i1 := strKind_is P w (txtOf e) t
    rw [← q] at i1
    exact (PySem.strKind P w).inj _ _ _ i1 z
  · intro z
    rw [q, z]; exact strKind_is P w x t
theorem txt_mem {l : List (Int × Value)} (g : ElemsOf (PySem.strKind P w) l) : (∃ e ∈ l, (PySem.strKind P w).is x e.2 = true) ↔ x ∈ l.map txtOf :=
  ⟨fun ⟨e, he, q⟩ => List.mem_map.mpr ⟨e, he, (txt_eq g he).1 q⟩, fun q => let ⟨e, he, z⟩ := List.mem_map.mp q; ⟨e, he, (txt_eq g he).2 z⟩⟩
/-- the table's part of an add: stored, and laid anew if it is too full -/
theorem txt_store {o : Obj} {es es1 : Array (Int × Value)} {ep : Nat} {t t1 : SetTable} {ss1 : List Str} {wd : Bool} {R : Option Bool → Shared → Prop} {gw : Bool → Sem Unit} (hgw : ∀ (b : Bool) (s1 : Shared) (Q1 : Unit → Shared → Prop), Q1 () s1 → wpAny (model P w) A (gw b) Q1 E s1)
    (ho : s.heap.get? a = some o) (hx : o.ExactSet) (hd : o.data = .set es ep t) (g : ElemsOf (PySem.strKind P w) es1.toList) (hp : (es1.toList.map txtOf).Perm ss1) (hn : ss1.Nodup) (hb : es1.size < scanBound) (hf : t1.fits es1.size = true) (hr : Ris t1.place.toList)
    (hl : w.params.followText "set-order" = true ∨ t1.led = true) (q : ∀ h', Heap.SameBut a s.heap h' → TxtSet P w h' a ss1 → R (some true) { s with heap := h' }) :
    wpAny (model P w) A (storeSet a es1 t1 >>= fun _ => if (!wd && t1.tooFull) = true then gw (relayAll t1 es1 (SetTable.grown es1.size)).2.2 >>= fun _ => storeSet a (relayAll t1 es1 (SetTable.grown es1.size)).1 (relayAll t1 es1 (SetTable.grown es1.size)).2.1 >>= fun _ => pure (some true) else pure (some true)) R E s := by
  have st : ∀ {h0 : Heap} {o0 : Obj} {es0 es' : Array (Int × Value)} {ep0 : Nat} {t0 t' : SetTable}, h0.get? a = some o0 → o0.data = .set es0 ep0 t0 → (h0.update a (Obj.putSet es' t')).get? a = some { o0 with data := .set es' (ep0 + 1) t' } := fun {h0 o0 es0 es' ep0 t0 t'} e d => by
    have z := Heap.get?_update_self (Obj.putSet es' t') e (by rw [putSet_of es' t' d]; rfl)
    rw [putSet_of es' t' d] at z; exact z
  refine wpAny_bind (wpAny_storeSet_of ho hd ?_ (fits_of_scanBound hb))
  have ho1 := st (es' := es1) (t' := t1) ho hd
  have b1 := Heap.SameBut.update s.heap a (Obj.putSet es1 t1)
  by_cases c : (!wd && t1.tooFull) = true
  · rw [if_pos c]
    refine wpAny_bind (hgw _ _ _ ?_)
    have r1 := relayAll_perm t1 es1 (SetTable.grown es1.size)
    have sz : (relayAll t1 es1 (SetTable.grown es1.size)).1.size = es1.size := by
      have := r1.length_eq
      rw [Array.length_toList, Array.length_toList] at this; exact this
    have hb2 : (relayAll t1 es1 (SetTable.grown es1.size)).1.size < scanBound := by rw [sz]; exact hb
    refine wpAny_bind (wpAny_storeSet_of ho1 rfl ?_ (fits_of_scanBound hb2))
    refine wpAny_pure (q _ (b1.trans (Heap.SameBut.update _ a _)) ⟨⟨_, _, _, _, st ho1 rfl, hx, rfl, g.perm r1, (r1.map txtOf).trans hp, hb2, relayAll_fits _ _ _, relayAll_ris _ _ _, hl.imp id fun z => by rw [relayAll_led]; exact z⟩, hn⟩)
  · rw [if_neg c]
    exact wpAny_pure (q _ b1 ⟨⟨_, _, _, _, ho1, hx, rfl, g, hp, hb, hf, hr, hl⟩, hn⟩)
theorem txt_add {Q : Bool → Shared → Prop} (T : TxtSet P w s.heap a ss) (room : ss.length + 1 < scanBound) (q : ∀ b h', Heap.SameBut a s.heap h' → TxtSet P w h' a (addTxt ss x) → Q b { s with heap := h' }) :
    wpAny (model P w) A (setAddHashed a (.str x tk) ((PySem.strKind P w).hash x)) Q E s := by
  obtain ⟨⟨o, es, ep, t, ho, hx, hd, g, hp, hb, hf, hr, hl⟩, hn⟩ := T
  have me : (PySem.strKind P w).is x (.str x tk) = true := strKind_is P w x tk
  have hsz : es.size = ss.length := by
    have := hp.length_eq
    rw [List.length_map, Array.length_toList] at this; exact this
  unfold setAddHashed setAddHashedIn
  refine wpAny_holding (wpAny_bind (wpAny_setState_of ho hd hf ?_))
  dsimp only
  rw [if_pos (byScan_of (knd := PySem.strKind P w) (x := .str x tk) rfl hb g)]
  unfold setAddByScan
  refine wpAny_bind (wpAny_bind (wpAny_rule (wpAny_bind (wpAny_setScan_of me ho hd hf g ?_))))
  cases c : es.toList.findIdx? (fun e => (PySem.strKind P w).is x e.2) with
  | some j =>
    obtain ⟨hj, pj, _⟩ := List.findIdx?_eq_some_iff_getElem.mp c
    have hm : x ∈ ss := hp.mem_iff.mp ((txt_mem g).1 ⟨_, List.getElem_mem hj, pj⟩)
    refine wpAny_pure (wpAny_pure (q _ s.heap (Heap.SameBut.refl a s.heap) ?_))
    unfold addTxt
    rw [if_pos hm]
    exact ⟨⟨o, es, ep, t, ho, hx, hd, g, hp, hb, hf, hr, hl⟩, hn⟩
  | none =>
    have hm : x ∉ ss := fun z => by
      obtain ⟨e, he, z⟩ := (txt_mem (P := P) (w := w) (x := x) g).2 (hp.mem_iff.mpr z)
      have := List.findIdx?_eq_none_iff.mp c e he
      rw [z] at this; cases this
    have ea : addTxt ss x = x :: ss := by unfold addTxt; rw [if_neg hm]
    rw [ea] at q
    have l1 := layNew_perm t es ((PySem.strKind P w).hash x) (.str x tk)
    have l2 := layNew_fits t es ((PySem.strKind P w).hash x) (.str x tk)
    have l3 := layNew_ris t es ((PySem.strKind P w).hash x) (.str x tk) hr
    have l4 := layNew_led t es ((PySem.strKind P w).hash x) (.str x tk)
    generalize layNew t es ((PySem.strKind P w).hash x) (.str x tk) = N at l1 l2 l3 l4 ⊢
    obtain ⟨es1, t1, wd, gv⟩ := N
    dsimp only at l1 l2 l3 l4 ⊢
    rw [Array.toList_push] at l1
    have g1 : ElemsOf (PySem.strKind P w) es1.toList := (g.push me rfl).perm l1
    have p1 : (es1.toList.map txtOf).Perm (x :: ss) := by
      have z := l1.map txtOf
      rw [List.map_append] at z
      exact z.trans ((List.perm_append_singleton _ _).trans (hp.cons _))
    have n1 : (x :: ss).Nodup := List.nodup_cons.mpr ⟨hm, hn⟩
    have b1 : es1.size < scanBound := by
      have := l1.length_eq
      rw [Array.length_toList, List.length_append, List.length_singleton, Array.length_toList] at this
      omega
    have gw : ∀ (b : Bool) (s1 : Shared) (Q1 : Unit → Shared → Prop), Q1 () s1 → wpAny (model P w) A (match b with | true => rule "set.scan.the-table-gave-way" | false => pure ()) Q1 E s1 := fun b s1 Q1 z => by
      cases b
      · exact wpAny_pure z
      · exact wpAny_rule z
    refine wpAny_bind (gw _ _ _ ?_)
    have fin : ∀ t2 : SetTable, t2.fits es1.size = true → Ris t2.place.toList → (w.params.followText "set-order" = true ∨ t2.led = true) → wpAny (model P w) A (storeSet a es1 t2 >>= fun _ => if (!wd && t2.tooFull) = true then (match (relayAll t2 es1 (SetTable.grown es1.size)).2.2 with | true => rule "set.scan.the-table-gave-way" | false => pure ()) >>= fun _ => storeSet a (relayAll t2 es1 (SetTable.grown es1.size)).1 (relayAll t2 es1 (SetTable.grown es1.size)).2.1 >>= fun _ => pure (some true) else pure (some true)) (fun r s' => wpAny (model P w) A (match r with | some added => pure added | none => setAddHashedIn a (.str x tk) ((PySem.strKind P w).hash x) 99999) Q E s') E s := fun t2 h1 h2 h3 =>
      txt_store gw ho hx hd g1 p1 n1 b1 h1 h2 h3 fun h' sb T => wpAny_pure (q _ h' sb T)
    have led1 : w.params.followText "set-order" = true ∨ t1.led = true := hl.imp id fun z => by rw [l4]; exact z
    by_cases pl : t1.plain = true
    · rw [if_pos pl, hashByValue_scannable 8 (x := .str x tk) rfl]
      refine wpAny_bind (wpAny_pure ?_)
      by_cases pk : plainKind (.str x tk) = true
      · rw [if_pos pk]; exact fin t1 l2 l3 led1
      · rw [if_neg pk]; exact fin _ (SetTable.fits_plain_off l2) l3 led1
    · rw [if_neg pl]
      refine wpAny_bind (wpAny_pure ?_)
      rw [if_pos rfl]
      exact fin t1 l2 l3 led1
end
end DL

/-! DlZ -/
set_option Elab.async false
set_option linter.all false
set_option maxRecDepth 100000
set_option maxHeartbeats 4000000
namespace DL
open PySem PySem.Spec PyProof.Rows L2
def txts (xs : List Str) : List Str := xs.foldl addTxt []
theorem addTxt_len {ss : List Str} {x : Str} : (addTxt ss x).length ≤ ss.length + 1 := by
  unfold addTxt; split
  · omega
  · rw [List.length_cons]; exact Nat.le_refl _
theorem txts_len : ∀ (xs acc : List Str), (xs.foldl addTxt acc).length ≤ acc.length + xs.length
  | [], acc => Nat.le_refl _
  | x :: r, acc => by
    rw [List.foldl_cons, List.length_cons]
    have h1 := txts_len r (addTxt acc x)
    have h2 := @addTxt_len acc x
    omega
section
variable {P : Program} {w : World} {A : Around} {E : Value → Shared → Prop} {s : Shared}
/-- set.update over texts -/
theorem txt_loop {R : Result → Shared → Prop} {I : Addr} {fp wr : List Addr} {G : Array GenState → Array GenState → Prop} {n : Nat} {Pv : Nat → Value → Prop} {St : Nat → Shared → Prop} (W : WalksS P w A.in1 I fp wr G n Pv St) (S : Addr) (hS : S ∉ fp) (xs : List Str) (hn : xs.length = n) (hb : n + 1 < scanBound)
    (hv : ∀ i v, Pv i v → ∃ t x, xs[i]? = some x ∧ v = .str x t) : ∀ (k i : Nat) (s : Shared), n - i = k → i ≤ n → St i s → TxtSet P w s.heap S (txts (xs.take i)) → (∀ s', Moved (S :: wr) G s s' → TxtSet P w s'.heap S (txts xs) → R (.ok (.ret .none)) s') →
      codeAny (model P w) A (.builtin "set.update.loop" ⟨[.ref S, .ref I], []⟩) R s := by
  have hw : S ∉ wr := fun h => hS (W.sub _ h)
  have up : ∀ b ∈ wr, b ∈ S :: wr := fun b h => List.mem_cons_of_mem _ h
  intro k
  induction k with
  | zero =>
    intro i s hk hi st T q
    obtain rfl : i = n := by omega
    refine codeAny_builtin PyProof.Rows.F.entry_set_update_loop ?_
    rw [Around.under_plainId PyProof.Rows.F.plain_set_update_loop _]
    rw [List.take_of_length_le (by omega)] at T
    exact wpAny_bind (m := pyNext (.ref I)) (W.done s _ _ st fun s' m => wpAny_pure (q s' (m.mono up) (T.keep fun o e => m.heap S o hw e)))
  | succ k ih =>
    intro i s hk hi st T q
    have lt : i < n := by omega
    refine codeAny_builtin PyProof.Rows.F.entry_set_update_loop ?_
    rw [Around.under_plainId PyProof.Rows.F.plain_set_update_loop _]
    refine wpAny_bind (m := pyNext (.ref I)) (W.item i s _ _ lt st fun v s' pv st' m => ?_)
    obtain ⟨t, x, ex, rfl⟩ := hv i v pv
    have T' : TxtSet P w s'.heap S (txts (xs.take i)) := T.keep fun o e => m.heap S o hw e
    refine wpAny_bind (m := holding [Value.str x t] (setAdd S (.str x t))) (wpAny_holding ?_)
    unfold setAdd
    refine wpAny_holding (wpAny_bind ((PySem.strKind P w).pyHash (strKind_is P w x t) ?_))
    have e1 : txts (xs.take (i + 1)) = addTxt (txts (xs.take i)) x := by
      unfold txts
      rw [List.take_succ, ex, List.foldl_append]; rfl
    have l1 := txts_len (xs.take i) []
    rw [List.length_nil, List.length_take] at l1
    refine txt_add (s := { s' with toks := s'.toks + 1 }) T' (by unfold txts; omega) fun b h' sb T2 => ?_
    rw [← e1] at T2
    refine wpAny_pure ⟨plainId_quiet PyProof.Rows.F.plain_set_update_loop _, ih (i + 1) _ (by omega) lt (W.frame _ s' _ _ st' (Nat.le_succ _) fun c hc o e => ?_) T2 fun s'' m2 T3 => ?_⟩
    · rw [sb.2 c fun z => hS (z ▸ hc)]; exact e
    · refine q s'' (Moved.trans W.gtrans ((m.mono up).then_heap (Nat.le_succ _) fun c o hc e => ?_) m2) T3
      rw [sb.2 c fun z => hc (z ▸ List.mem_cons_self)]; exact e
/-- set(v), v a thing of the type T that is walked by W: what stands at the end -/
abbrev newSet (w : World) : Obj := { cls := .type "set", dict := none, data := .set #[] 0 (.fresh 0 0 (!w.params.followText "set-order")) }
theorem txt_new {h : Heap} {a : Addr} (e : h.get? a = some (newSet w)) : TxtSet P w h a [] := by
  refine ⟨⟨_, #[], 0, _, e, ⟨rfl, rfl, rfl⟩, rfl, fun e he => by simp at he, .nil, by decide, by rfl, List.Pairwise.nil, ?_⟩, List.nodup_nil⟩
  show _ ∨ (!w.params.followText "set-order") = true
  cases w.params.followText "set-order" <;> simp
set_option maxHeartbeats 8000000 in
theorem call_txts {T : String} {l : Addr} {o io : Obj} {xs : List Str} {St : Addr → Nat → Heap → Prop} {Pv : Nat → Value → Prop} {Q : Value → Shared → Prop} (h0 : isSubtype (.type T) (.type "set") = pure false) (h00 : isSubtype (.type T) (.type "frozenset") = pure false) (hd : (Value.type T == Value.type "dict") = false)
    (ho : s.heap.get? l = some o) (hc : o.cls = .type T) (hb : xs.length + 1 < scanBound)
    (hit : ∀ (A' : Around) (h1 : Heap) (Q' : Value → Shared → Prop) (E' : Value → Shared → Prop) (s1 : Shared), s1.heap = h1 → h1.get? l = some o → Q' (.ref h1.objs.size) { s1 with heap := h1.push io } → wpAny (model P w) A' (pyIter (.ref l)) Q' E' s1)
    (hw : ∀ (A' : Around) (I : Addr), A'.handled = none → l ≠ I → Walks P w A' I [I, l] [I] xs.length Pv (St I)) (hs : ∀ (h1 : Heap), h1.get? l = some o → St h1.objs.size 0 (h1.push io)) (hv : ∀ i v, Pv i v → ∃ t x, xs[i]? = some x ∧ v = .str x t) (hh : A.handled = none)
    (h : ∀ (h' : Heap) (tk : Nat), TxtSet P w h' s.heap.objs.size (txts xs) → (∀ b u, s.heap.get? b = some u → h'.get? b = some u) → Q (.ref s.heap.objs.size) { s with heap := h', toks := tk }) :
    wpAny (model P w) A (call (.type "set") [.ref l]) Q E s := by
  obtain ⟨c, tl, hmro⟩ := PySem.F.called_set.mro
  have f1 := PySem.F.called_set.made
  have f2 := PySem.F.called_set.sub
  have f3 := PySem.F.called_set.notType
  have f4 := PySem.F.called_set.canCreate
  have f5 := PySem.F.typeCall_set_1 (.ref l)
  refine wpAny_call (codeAny_of_tree ?_)
  show wpAny _ _ (callAny (.type "set") _) _ _ _
  refine wpAny_pure ⟨Code.quiet_builtin _ (by decide +kernel), codeAny_builtin PySem.F.entry_type_call ?_⟩
  rw [Around.under_plain (weight_type_call_type "set" [.ref l] []) rfl]
  repeat (any_goals (first | assumption | wp_step))
  refine codeAny_mono (code_set_led1 (.ref l) (E := E) (Q₁ := fun x s₁ => x = .ref s.heap.objs.size ∧ s₁ = { s with heap := s.heap.push (newSet w) }) ⟨rfl, rfl⟩) fun r s₁ hr => ?_
  cases r with
  | error e => exact hr
  | ok fl =>
    cases fl with
    | ret x =>
      obtain ⟨rfl, rfl⟩ := hr
      have hS : (s.heap.push (newSet w)).get? s.heap.objs.size = some (newSet w) := Heap.get?_push_size _ rfl
      have hT : Shared.TypeIs { s with heap := s.heap.push (newSet w) } (.ref s.heap.objs.size) "set" := ⟨_, hS, rfl⟩
      have f6 := PySem.F.called_set.init.lookup
      have f7 := PySem.F.called_set.init.bind (.ref s.heap.objs.size)
      repeat (any_goals (first | assumption | wp_step))
      refine codeAny_mono (codeAny_call_builtin (R := wants (fun r s₂ => r = .none ∧ ∃ h' tk, s₂ = { s with heap := h', toks := tk } ∧ TxtSet P w h' s.heap.objs.size (txts xs) ∧ ∀ b u, s.heap.get? b = some u → h'.get? b = some u) E)
        PySem.F.called_set.init.plain PySem.F.entry_set_init (check_set_init_1 hT ?_)) fun r₂ s₂ hr₂ => ?_
      · obtain ⟨oc, od, odt, osl⟩ := o
        simp only at hc
        subst hc
        have hl : (s.heap.push (newSet w)).get? l = some ⟨.type T, od, odt, osl⟩ := Heap.get?_push_of_some _ ho
        have lt : l < s.heap.objs.size := Heap.lt_size ho
        have sz : (s.heap.push (newSet w)).objs.size = s.heap.objs.size + 1 := Heap.size_push ..
        have nI : l ≠ (s.heap.push (newSet w)).objs.size := by rw [sz]; exact Nat.ne_of_lt (Nat.lt_succ_of_lt lt)
        have nS : s.heap.objs.size ∉ [(s.heap.push (newSet w)).objs.size, l] := fun z => by
          rcases List.mem_cons.mp z with z | z
          · rw [sz] at z; exact Nat.ne_of_lt (Nat.lt_succ_self _) z
          · exact Nat.ne_of_gt lt (List.mem_singleton.mp z)
        unfold Builtin.«set.__init__» noKeywords Builtin.Frozenset.updateFrom
        generalize hPI : pyIter = PI
        wp_walk
        subst hPI
        refine hit _ _ _ _ _ rfl hl ?_
        refine wpAny_bind (wpAny_runValue ?_)
        refine txt_loop ((hw _ _ (by simp [hh]) nI).toS) s.heap.objs.size nS xs rfl hb hv (xs.length - 0) 0 _ rfl (Nat.zero_le _) (hs _ hl) (txt_new (Heap.get?_push_of_some _ hS)) fun s' m T => ?_
        obtain ⟨h', g', d', tk', os'⟩ := s'
        obtain rfl : g' = s.gens := m.gens
        obtain rfl : d' = s.drawn := m.drawn
        obtain rfl : os' = s.os := m.os
        refine wpAny_pure ?_
        show wpAny _ _ (ret Value.none) _ _ _
        refine wpAny_pure ⟨rfl, h', tk', rfl, T, fun b u e => ?_⟩
        have lb : b < s.heap.objs.size := Heap.lt_size e
        refine m.heap b u (fun z => ?_) (Heap.get?_push_of_some _ (Heap.get?_push_of_some _ e))
        rcases List.mem_cons.mp z with z | z
        · exact Nat.ne_of_lt lb z
        · have z := List.mem_singleton.mp z
          rw [sz] at z
          exact Nat.ne_of_lt (Nat.lt_succ_of_lt lb) z
      · cases r₂ with
        | error e => exact hr₂
        | ok fl₂ =>
          cases fl₂ with
          | ret r =>
            obtain ⟨rfl, h', tk, rfl, T, k⟩ := hr₂
            repeat (any_goals (first | assumption | wp_step))
            exact h _ _ T k
          | _ => exact hr₂.elim
    | _ => exact hr.elim
end
end DL

/-! DlZ2 -/
set_option Elab.async false
set_option linter.all false
set_option maxRecDepth 100000
set_option maxHeartbeats 4000000
namespace DL
open PySem PySem.Spec PyProof.Rows L2
section
variable {P : Program} {w : World} {A : Around} {E : Value → Shared → Prop} {s : Shared} {a : Addr} {ss : List Str}
theorem strs_some : ∀ vs : List Value, (∀ v ∈ vs, ∃ x t, v = Value.str x t) → ∃ xs, StrsAre vs xs
  | [], _ => ⟨[], .nil⟩
  | v :: vs, h => by
    obtain ⟨x, t, rfl⟩ := h v List.mem_cons_self
    obtain ⟨xs, r⟩ := strs_some vs fun u hu => h u (List.mem_cons_of_mem _ hu)
    exact ⟨x :: xs, .cons x t r⟩
/-- sorted of a set of texts -/
theorem sorted_txts {Q : Value → Shared → Prop} (T : TxtSet P w s.heap a ss) (hh : A.handled = none) (hf : ss.length < 64)
    (q : ∀ s' p (out : Array Value) (c : Nat) (ys : List Str), (∀ b o, s.heap.get? b = some o → s'.heap.get? b = some o) → s'.gens = s.gens → s'.os = s.os → s.heap.objs.size ≤ p → s'.heap.get? p = some (seqObj "list" out c) → StrsAre out.toList ys → ys.Perm ss → sortedS ys = true → Q (.ref p) s') :
    wpAny (model P w) A (call (.builtin "sorted") [.ref a]) Q E s := by
  obtain ⟨⟨o, es, ep, t, ho, hx, hd, g, hp, hb, hfit, hr, hl⟩, hn⟩ := T
  refine Calls.call_function_entry kind_sorted plain_sorted entry_sorted (args_sorted1 _) ?_
  unfold Builtin.«sorted»
  refine wpAny_bind (m := checkCount "sorted" 1 1 _) (wpAny_pure ?_)
  refine wpAny_bind (collect_set (A := A.in1) hh ⟨o, ho, hx.1, hd⟩ hfit hb hr hl fun s1 vs k1 hz g1 o1 pm => ?_)
  have len : vs.length = ss.length := by rw [pm.length_eq, List.length_map, ← hp.length_eq, List.length_map]
  have tx : ∀ v ∈ vs, ∃ x t, v = Value.str x t := fun v hv => by
    obtain ⟨e, he, ev⟩ := List.mem_map.mp (pm.mem_iff.mp hv)
    obtain ⟨t', z⟩ := txt_is g he
    exact ⟨_, t', by rw [← ev]; exact z⟩
  obtain ⟨xs, hxs⟩ := strs_some vs tx
  have pxs : xs.Perm ss := by
    have e1 : vs.map (fun v => txtOf (0, v)) = xs := by
      clear pm tx len
      induction hxs with
      | nil => rfl
      | cons n t r ih => rw [List.map_cons, ih]; rfl
    have z := pm.map fun v => txtOf (0, v)
    rw [e1, List.map_map] at z
    exact z.trans hp
  refine wpAny_bind (wpAny_newList ?_ (by rw [len, sizeLine_eq]; omega))
  have hoL : (s1.heap.push (seqObj "list" vs.toArray 0)).get? s1.heap.objs.size = some (seqObj "list" vs.toArray 0) := Heap.get?_push_size _ rfl
  refine wpAny_bind (wpAny_holding (wpAny_call_entry slot_list_sort ⟨_, hoL, rfl⟩ entry_list_sort (list_sort_treeK strKind_oneLt hoL hxs.keysOf (fun v₁ v₂ rest e => keyKind_strs (by rw [← e]; exact hxs)) (by rw [len]; exact hf) fun st' b1 b2 => ⟨_, rfl, ?_⟩) (args_list_sort _)))
  obtain ⟨ys, y1, y2, y3⟩ := sorted_out_str hxs b1 b2
  obtain ⟨c, hc⟩ := sortedHeap_at (vs := vs) (out := (arrOf st').map (·.2)) hoL
  refine wpAny_pure ⟨_, rfl, q _ s1.heap.objs.size _ c ys (fun b u e => ?_) g1 o1 hz hc y1 (y2.trans pxs) y3⟩
  have e1 := k1 b u e
  have lt := Heap.lt_size e1
  show (sortedHeap (s1.heap.push (seqObj "list" vs.toArray 0)) s1.heap.objs.size vs ((arrOf st').map (·.2))).get? b = some u
  rw [sortedHeap_old (Nat.ne_of_lt lt) (by rw [size_push']; exact Nat.lt_succ_of_lt lt)]
  exact Heap.get?_push_of_some _ e1
end
section
variable {X : Cx} {B : Bx} {δ : List Sl} {Q : Dat → Prop} {a : Expr} {p p2 q pos : Pos}
theorem da_strs {K : PySem.W.Frag} {lt : Nat → LT} {md : Addr → Md} {H : Hp} : ∀ xs : List Str, DA K lt md H (xs.map V.str) (xs.map Dat.str)
  | [] => .nil
  | x :: r => .cons (.str x) (da_strs r)
theorem da_strsE {K : PySem.W.Frag} {lt : Nat → LT} {md : Addr → Md} {H : Hp} : ∀ {xs : List Str} {vs : List V}, DA K lt md H vs (xs.map Dat.str) → vs = xs.map V.str
  | [], _, .nil => rfl
  | x :: r, _, .cons h t => by rw [h.strE, da_strsE t]; rfl
/-- set(xs) of texts, as an argument of another call -/
theorem set_arg {pins : List (Addr × Obj)} {s : Shared} {σ : L2.St} {H : Hp} {l : Addr} {xs : List Str} {Qf : Value → Shared → Prop} (hc : X.calm = true) (I : Inv X pins σ H s) (hq : SqL X.K H l (xs.map V.str) ∨ SqT X.K H l (xs.map V.str)) (hl : xs.length < 64)
    (h : ∀ (h' : Heap) (tk : Nat), TxtSet X.prog X.w h' s.heap.objs.size (txts xs) → Inv X pins σ H { s with heap := h', toks := tk } → Qf (.ref s.heap.objs.size) { s with heap := h', toks := tk }) : wpAny (model X.prog X.w) X.A (call (.type "set") [.ref l]) Qf X.xe s := by
  rcases hq with hq | hq
  · obtain ⟨its, r, pl, hz⟩ := I.list hq
    have hx := SS.strs_at (strsAre_of r)
    have ls : its.length = xs.length := by rw [← r.length, List.length_map]
    have pl := pl.isList
    obtain ⟨o, ho, hoc, n, hod⟩ := id pl
    refine call_txts (o := o) (T := "list") (io := { cls := .type "list_iterator", data := .fields #[.ref l, .int 0 0] }) (xs := xs) (St := fun I i h => h.IsListIter I l i ∧ h.IsList l its.toArray) (Pv := fun i v => its.toArray[i]? = some v) PySem.F.sub_list_set PySem.F.sub_list_frozenset (by decide) ho hoc (by unfold scanBound; omega)
      (fun A' h1 Q' E' s1 e1 e2 q => ?_) (fun A' I0 hA hne => ?_) (fun h1 e1 => ⟨⟨_, Heap.get?_push_size _ rfl, rfl, rfl⟩, ⟨o, Heap.get?_push_of_some _ e1, hoc, n, hod⟩⟩) (fun i v e => ?_) (I.ok.hd hc) fun h' tk T k => h h' tk T (I.kept k)
    · subst e1
      exact wpAny_pyIter_list (items := its.toArray) ⟨o, e2, hoc, n, hod⟩ q
    · have W := Walks.list (prog := X.prog) (w := X.w) (A := A') hA I0 l hne its.toArray
      rw [List.size_toArray, ls] at W
      exact W
    · have e : its[i]? = some v := by simpa using e
      obtain ⟨t, z⟩ := hx i v e
      have lt : i < xs.length := by rw [← ls]; exact (List.getElem?_eq_some_iff.mp e).1
      exact ⟨t, _, getD_get lt, z⟩
  · obtain ⟨its, r, pl, hz⟩ := I.tuple hq
    have hx := SS.strs_at (strsAre_of r)
    have ls : its.length = xs.length := by rw [← r.length, List.length_map]
    obtain ⟨o, ho, hoc, n, hod⟩ := id pl
    refine call_txts (o := o) (T := "tuple") (io := { cls := .type "tuple_iterator", data := .fields #[.ref l, .int 0 0] }) (xs := xs) (St := fun I i h => h.IsTupleIter I l i ∧ h.IsTuple l its.toArray) (Pv := fun i v => its.toArray[i]? = some v) PySem.F.sub_tuple_set PySem.F.sub_tuple_frozenset (by decide) ho hoc (by unfold scanBound; omega)
      (fun A' h1 Q' E' s1 e1 e2 q => ?_) (fun A' I0 hA hne => ?_) (fun h1 e1 => ⟨⟨_, Heap.get?_push_size _ rfl, rfl, rfl⟩, ⟨o, Heap.get?_push_of_some _ e1, hoc, n, hod⟩⟩) (fun i v e => ?_) (I.ok.hd hc) fun h' tk T k => h h' tk T (I.kept k)
    · subst e1
      exact wpAny_pyIter_tuple (items := its.toArray) ⟨o, e2, hoc, n, hod⟩ q
    · have W := Walks.tuple (prog := X.prog) (w := X.w) (A := A') hA I0 l hne its.toArray
      rw [List.size_toArray, ls] at W
      exact W
    · have e : its[i]? = some v := by simpa using e
      obtain ⟨t, z⟩ := hx i v e
      have lt : i < xs.length := by rw [← ls]; exact (List.getElem?_eq_some_iff.mp e).1
      exact ⟨t, _, getD_get lt, z⟩
theorem txt_dat {K : PySem.W.Frag} {md : Addr → Md} {H : Hp} {v : V} {d : Dat} {xs : List Str} (r : D K B.lt md H v d) (e : d = .lst (xs.map .str) ∨ d = .tup (xs.map .str)) : ∃ l, v = .ref l ∧ (SqL K H l (xs.map V.str) ∨ SqT K H l (xs.map V.str)) := by
  rcases e with rfl | rfl
  · obtain ⟨l, ys, e1, s1, _, g⟩ := r.atL
    exact ⟨l, e1, .inl (by rw [← da_strsE g]; exact SqL.of s1)⟩
  · obtain ⟨l, ys, e1, s1, g⟩ := r.sqT
    exact ⟨l, e1, .inr (by rw [← da_strsE g]; exact s1)⟩
/-- len(set(xs)) -/
theorem d_lenSet (hc : X.calm = true) (hm : X.mg "len" = none) (hm2 : X.mg "set" = none) (h : WE X B a δ fun d => ∃ xs : List Str, (d = .lst (xs.map .str) ∨ d = .tup (xs.map .str)) ∧ xs.length < 64 ∧ Q (.int (txts xs).length)) (hg : Gl X "len" := by rfl) (hg2 : Gl X "set" := by rfl)
    (na : starEach [a] X.env = (false, eval a X.env) :: starEach [] X.env := by rfl) : WE X B (.Call (.Name "len" p) [.Call (.Name "set" p2) [a] [] q] [] pos) δ Q := fun md σ H Qc R k => by
  intro pins s I
  refine Call_ (ld_blt I hg hm boot_len ?_)
  refine PyProof.Rows.callWith_builtin1 (PyProof.Rows.args_cons ?_ rfl) rfl rfl
  refine Call_ (ld_blt I hg2 hm2 boot_set ?_)
  refine PyProof.Rows.callWith_type1 (PyProof.Rows.args_cons (thn (h md σ H (fun v H1 => ∃ d, Ex md H H1 ∧ Rep X.K B md δ σ H1 ∧ D X.K B.lt md H1 v d ∧ _) R (fun v H1 d x R r q => ⟨d, x, R, r, q⟩) pins s I) fun u s1 ⟨v, H1, I1, rv, d, x1, R1, r1, xs, ed, hl, qq⟩ => PyProof.Rows.args_nil ?_) na) na rfl
  obtain ⟨l, ev, sq⟩ := txt_dat r1 ed
  subst ev
  obtain rfl : u = Value.ref l := rv
  refine set_arg hc I1 sq hl fun h' tk T I2 => PyProof.Rows.args_nil ?_
  obtain ⟨⟨o, es, ep, t, ho, hx, hd, g, hp, hb, hf, _⟩, hn⟩ := T
  have n1 : es.size = (txts xs).length := by rw [← hp.length_eq, List.length_map, Array.length_toList]
  have l2 := txts_len xs []
  refine call_len_set ho hx hd hf (by have := line63; unfold txts at n1; rw [n1]; rw [List.length_nil] at l2; omega) ⟨.int (txts xs).length, H1, I2.tok _, ⟨_, by rw [n1]⟩, ?_⟩
  exact k _ H1 _ x1 R1 (.int _) qq
/-- sorted(set(xs)) -/
theorem d_sortSet (hc : X.calm = true) (hm : X.mg "sorted" = none) (hm2 : X.mg "set" = none) (h : WE X B a δ fun d => ∃ xs : List Str, (d = .lst (xs.map .str) ∨ d = .tup (xs.map .str)) ∧ xs.length < 64 ∧ ∀ ys : List Str, ys.Perm (txts xs) → sortedS ys = true → Q (.lst (ys.map .str))) (hg : Gl X "sorted" := by rfl) (hg2 : Gl X "set" := by rfl)
    (na : starEach [a] X.env = (false, eval a X.env) :: starEach [] X.env := by rfl) : WE X B (.Call (.Name "sorted" p) [.Call (.Name "set" p2) [a] [] q] [] pos) δ Q := fun md σ H Qc R k => by
  intro pins s I
  refine Call_ (ld_blt I hg hm boot_sorted ?_)
  refine PyProof.Rows.callWith_builtin1 (PyProof.Rows.args_cons ?_ rfl) rfl rfl
  refine Call_ (ld_blt I hg2 hm2 boot_set ?_)
  refine PyProof.Rows.callWith_type1 (PyProof.Rows.args_cons (thn (h md σ H (fun v H1 => ∃ d, Ex md H H1 ∧ Rep X.K B md δ σ H1 ∧ D X.K B.lt md H1 v d ∧ _) R (fun v H1 d x R r q => ⟨d, x, R, r, q⟩) pins s I) fun u s1 ⟨v, H1, I1, rv, d, x1, R1, r1, xs, ed, hl, qq⟩ => PyProof.Rows.args_nil ?_) na) na rfl
  obtain ⟨l, ev, sq⟩ := txt_dat r1 ed
  subst ev
  obtain rfl : u = Value.ref l := rv
  refine set_arg hc I1 sq hl fun h' tk T I2 => PyProof.Rows.args_nil ?_
  have l2 := txts_len xs []
  rw [List.length_nil] at l2
  refine sorted_txts T (I2.ok.hd hc) (by unfold txts; omega) fun s' pp out c ys k1 g1 o1 hp hget hS pm hs => ?_
  have hn : H1 pp = none := I2.hok.fresh hp
  have hlen : (ys.map V.str).length ≤ sizeLine := by rw [List.length_map, pm.length_eq, sizeLine_eq]; unfold txts; omega
  have J : Inv X pins σ (upd H1 pp (.lst (ys.map V.str))) { ({ s1 with heap := h', toks := tk } : Shared) with heap := s'.heap, gens := s'.gens, drawn := s'.drawn, toks := s'.toks } :=
    I2.call (ch := []) (Un.laid k1 hp hn) (I2.hok.laid k1 hp ⟨hlen, out.toList, c, vals_of_strs hS, by simpa using hget⟩) (by rw [g1]; exact I2.bare) (fun _ z => nomatch z)
  have e : s' = { ({ s1 with heap := h', toks := tk } : Shared) with heap := s'.heap, gens := s'.gens, drawn := s'.drawn, toks := s'.toks } := by
    cases s'
    cases s1
    cases o1
    rfl
  rw [e]
  obtain ⟨x2, R2, r2⟩ := fin_lst R1 (da_strs (K := X.K) (lt := B.lt) (md := md) (H := H1) ys) hn
  exact ⟨.ref pp, _, J, rfl, k _ _ _ (x1.trans x2) R2 r2 (qq ys pm hs)⟩
end
end DL

/-! DlZ3 -/
set_option Elab.async false
set_option linter.all false
set_option maxRecDepth 100000
set_option maxHeartbeats 4000000
namespace DL
open PySem PySem.Spec PyProof.Rows L2
open NdefX (NTab TabsN TabN NF NScope CellsAt startF ncx envF inv_startN)
section
variable {P : Program} {w : World} {K : PySem.W.Frag} {mg : Str → Option Value} {base : Heap} {N ps fr : List Str} {f c' : Addr} {k : Nat} {qual : Str} {params : Arguments} {body : Expr} {scope : Scope} {cl : List (Str × Addr)} {pm ctv : Value} {A : Around} {outer : List Env} {s : Shared} {H : Hp} {us : List Value} {vs : List V} {ws : List (Option V)}
/-- a lambda with parameters is called: its body at the very heap -/
theorem lam_runX {Qf : Value → Shared → Prop} (S : NScope N ps fr scope) (hbind : bindArgs (PySem.W.kla_fn "<lambda>" qual params body scope cl pm (.ref c') ctv) ⟨us, []⟩ = pure (ps.zip us)) (hr : Room (k + 1) A) (e0 : Env0 P w K mg base A outer s H)
    (ho : s.heap.get? f = some (PySem.W.kla_obj "<lambda>" qual params body scope cl pm c' ctv)) (hc : s.heap.CodeRec (.ref c') qual) (C : CellsAt cl fr ws s.heap H) (r : Vals vs us) (hl : vs.length = ps.length)
    (hbody : Room k (A.deeper (envF (lamF qual params scope cl c') f s.heap.objs.size)) → ∀ (h₁ : Heap) (tk : Nat), (∀ b o, s.heap.get? b = some o → h₁.get? b = some o) → Inv (ncx C8.CX0 P w K mg base N (lamF qual params scope cl c') f A outer s H (fun _ _ _ => False)) [] (startF N vs ws) H { s with heap := h₁, toks := tk } →
      wpAny (model P w) (A.deeper (envF (lamF qual params scope cl c') f s.heap.objs.size)) (eval body (envF (lamF qual params scope cl c') f s.heap.objs.size)) Qf (fun _ _ => False) { s with heap := h₁, toks := tk }) :
    codeAny (model P w) A (.call (.ref f) ⟨us, []⟩) (fun r s' => ∃ v, r = .ok (.ret v) ∧ Qf v s') s := by
  have lim : s.heap.NoLimit := e0.mod.nolimit.keeps fun b o e => (e0.bs b o e).1
  refine PySem.W.kla_callFunE hr.depth ho rfl S.co S.gen rfl hc ?_
  rw [hbind]
  refine wpAny_pure (wpAny_newFunctionEnv S.nocell (fun ⟨n, _⟩ hy => S.par n (List.of_mem_zip hy).1) (fun h₁ hns hsb => ⟨lim.fresh _ hsb, ?_⟩) S.kind)
  show codeAny _ _ (.expr body (envF (lamF qual params scope cl c') f s.heap.objs.size)) _ _
  have kp : ∀ b o, s.heap.get? b = some o → h₁.get? b = some o := fun b o e => hsb.extBut b o (Nat.ne_of_lt (Heap.lt_size e)) (Heap.get?_push_of_some _ e)
  have J := inv_startN (CX := C8.CX0) (P := P) (w := w) (K := K) (mg := mg) (base := base) (N := N) (F := lamF qual params scope cl c') (f := f) (A := A) (outer := outer) (s := s) (H := H) (E := fun _ _ _ => False) (h₁ := h₁) (tk := s.toks + (ps.zip us).length) S hr.hd e0 hl r C hns kp
  exact PySem.W.kla_codeExpr (wpAny_mono (hbody (hr.deeper _) _ _ kp J) (fun v s' hq => ⟨v, rfl, hq⟩) fun e s' hq => hq.elim)
end
/-- a slot's reference is read, nothing changes -/
theorem name_ref {X : Cx} {pins : List (Addr × Obj)} {σ : L2.St} {H : Hp} {s : Shared} {i : Nat} {x : Str} {t : Addr} {pos : Pos} {Q : Value → Shared → Prop} {E : Value → Shared → Prop} (I : Inv X pins σ H s) (hN : X.N[i]? = some x) (hσ : σ[i]? = some (some (.ref t))) (hv : Vis X.env.scope x) (q : Q (.ref t) s)
    (hd : (x == ("__debug__" : Str)) = false := by decide) (hcd : (x == ("__classdict__" : Str)) = false := by decide) : wpAny (model X.prog X.w) X.A (eval (.Name x pos) X.env) Q E s := by
  obtain ⟨m, hn, hl⟩ := I.loc
  obtain ⟨u, r, l⟩ := hl i x (.ref t) hN hσ hv
  obtain rfl : u = Value.ref t := r
  rcases l with ⟨hk, hm⟩ | ⟨hk, c, hc, hcell⟩
  · exact wpAny_Name (wpAny_loadName_local I.ok.kind hk hn hm q) hd
  · rcases hk with hk | hk
    · exact wpAny_Name (wpAny_loadName_cell I.ok.kind hk hc hcell q) hd
    · exact wpAny_Name (wpAny_loadName_free I.ok.kind hk hc hcell q hcd) hd
/-- the key (len(r), r) of a row of texts -/
abbrev keyR (r : List Str) : PyData := .tuple [.int r.length, .tuple (r.map .str)]
theorem reads_strs {h : Heap} : ∀ {us : List Value} {xs : List Str}, StrsAre us xs → ReadsAll h us (xs.map PyData.str) []
  | _, _, .nil => .nil
  | _, _, .cons x t r => .cons (as := []) (bs := []) (.str x t) (reads_strs r)
theorem alike_strs : ∀ xs ys : List Str, PySem.W.alikeAll (xs.map .str) (ys.map .str) = true
  | [], _ => by cases ‹List Str› <;> rfl
  | _ :: _, [] => rfl
  | x :: xs, y :: ys => by
    rw [List.map_cons, List.map_cons]
    unfold PySem.W.alikeAll
    rw [alike_strs xs ys]
    rfl
theorem dep_strs : ∀ xs : List Str, PyData.depthAll (xs.map .str) ≤ 1
  | [] => Nat.zero_le _
  | x :: xs => by
    have := dep_strs xs
    rw [List.map_cons]
    unfold PyData.depthAll
    exact Nat.max_le.mpr ⟨by show 0 ≤ 1; decide, this⟩
theorem dep_keyR (r : List Str) : (keyR r).depth ≤ 4 := by
  have := dep_strs r
  simp only [PyData.depth, PyData.depthAll]
  omega
abbrev rowD (r : List Str) : Dat := .tup (r.map .str)
theorem rows_out {K : PySem.W.Frag} {lt : Nat → LT} {md : Addr → Md} {H : Hp} : ∀ {out : List Value} {rows : List (List Str)}, PySem.W.EachIs (fun v r => ∃ t, v = Value.ref t ∧ D K lt md H (.ref t) (rowD r)) out rows → ∃ vs : List V, Vals vs out ∧ DA K lt md H vs (rows.map rowD)
  | _, _, .nil => ⟨[], .nil, .nil⟩
  | _, _, .cons ⟨t, e, d⟩ r => by
    obtain ⟨vs, h1, h2⟩ := rows_out r
    subst e
    exact ⟨.ref t :: vs, .cons rfl h1, .cons d h2⟩
theorem rows_in {K : PySem.W.Frag} {lt : Nat → LT} {md : Addr → Md} {H : Hp} : ∀ {vs : List V} {its : List Value} {rows : List (List Str)}, DA K lt md H vs (rows.map rowD) → Vals vs its → PySem.W.EachIs (fun v r => ∃ t, v = Value.ref t ∧ D K lt md H (.ref t) (rowD r)) its rows
  | _, _, [], .nil, .nil => .nil
  | _, _, r :: rows, .cons h t, .cons q u => by
    obtain ⟨a, xs, e, s1, g⟩ := h.sqT
    subst e
    exact .cons ⟨a, q, h⟩ (rows_in t u)
section
variable {W : Wd}
theorem d_sortKeyL {N : List Str} {x : Str} {st : Stmt} {sc scope : Scope} {fX c P : Addr} {nm : Nat → Nat → Str} {A : Around} {outer : List Env} {s : Shared} {H0 : Hp} {E : XK} {md0 : Addr → Md} {params : Arguments} {e1 : Expr} {δ : List Sl} {Q : Dat → Prop} {p pos lpos kpos q1 q2 q3 q4 q5 : Pos} {kk j : Nat}
    (Dc : DefC W x st c P nm) (hn : nm lpos.line lpos.col = (cxD W N x sc fX (.ref c) A outer s H0 E).env.qual ++ "<lambda>") (S : NScope ["one"] ["one"] [] scope)
    (hbind : ∀ (q : Str) (cl : List (Str × Addr)) (pm cv ctv u : Value), bindArgs (PySem.W.kla_fn "<lambda>" q params (.Tuple [.Call (.Name "len" q1) [.Name "one" q2] [] q3, .Name "one" q4] kk q5) scope cl pm cv ctv) ⟨[u], []⟩ = pure ([("one" : Str)].zip [u]))
    (hfree : ∀ y ∈ scope.names, y.2 ≠ .free) (hlen : scope.names.lookup ("len" : Str) = some .globalImplicit) (hdef : defaultsOf params (cxD W N x sc fX (.ref c) A outer s H0 E).env = ([], [])) (b1 : W.mg "sorted" = none) (b2 : W.mg "len" = none)
    (hr : Room j (cxD W N x sc fX (.ref c) A outer s H0 E).A) (hj : 4 ≤ j)
    (h : WE (cxD W N x sc fX (.ref c) A outer s H0 E) (bxD W md0 H0) e1 δ fun d => ∃ rows : List (List Str), d = .lst (rows.map rowD) ∧ rows.length < 64 ∧ (rows.Pairwise fun r r' => PySem.W.dataLe false keyR r r' = true) ∧ Q (.lst (rows.map rowD)))
    (hg : Gl (cxD W N x sc fX (.ref c) A outer s H0 E) "sorted" := by rfl)
    (he : starEach [e1] (cxD W N x sc fX (.ref c) A outer s H0 E).env = (false, eval e1 (cxD W N x sc fX (.ref c) A outer s H0 E).env) :: starEach [] (cxD W N x sc fX (.ref c) A outer s H0 E).env := by rfl) :
    WE (cxD W N x sc fX (.ref c) A outer s H0 E) (bxD W md0 H0) (.Call (.Name "sorted" p) [e1] [⟨some "key", .Lambda params (.Tuple [.Call (.Name "len" q1) [.Name "one" q2] [] q3, .Name "one" q4] kk q5) scope lpos, kpos⟩] pos) δ Q := fun md σ H Qc R k => by
  intro pins s0 I
  refine wpAny_Call_Name_kw (ld_blt I hg b1 boot_sorted ?_)
  refine PyProof.Rows.callWith_kw (PyProof.Rows.args_cons (thn (h md σ H (fun v H1 => ∃ d, Ex md H H1 ∧ Rep W.K (bxD W md0 H0) md δ σ H1 ∧ D W.K W.lt md H1 v d ∧ _) R (fun v H1 d x R r q => ⟨d, x, R, r, q⟩) pins s0 I) fun u s1 ⟨v, H1, I1, rv, d, x1, R1, r1, rows, ed, hl, hs, qq⟩ => PyProof.Rows.args_nil ?_) he) (by rw [he]; rfl) (by rw [he]; rfl) (by rfl) (by rfl)
  subst ed
  show wpAny _ _ (evalAll ((do let v ← eval (.Lambda params (.Tuple [.Call (.Name "len" q1) [.Name "one" q2] [] q3, .Name "one" q4] kk q5) scope lpos) (cxD W N x sc fX (.ref c) A outer s H0 E).env; standAt pos; pure v) :: [])) _ _ s1
  refine wpAny_evalAll_cons (wpAny_bind (lam_make3 I1 Dc.tb rfl Dc.mem hn Dc.uniq R1.tabs hdef (fun y hy e => absurd e (hfree y hy)) fun f c' pm ctv H4 s4 I4 eN dom T4 hf hfn hfr2 hco => wpAny_bind (wpAny_standAt (wpAny_pure (wpAny_evalAll_nil ?_)))))
  have x4 : Ex md H1 H4 := ⟨fun a o _ e n => eN a o e n, fun a _ ⟨x, y, z, e, r⟩ => ⟨x, y, z, eN a _ e nt_lst, r⟩, dom⟩
  have R4 := R1.grow x4 T4
  have r4 := r1.mono x4
  obtain ⟨l, xs, el, s4l, _, g4⟩ := r4.atL
  subst el
  obtain rfl : u = Value.ref l := rv
  obtain ⟨its, rvs, pl, hz⟩ := I4.list (SqL.of s4l)
  have ei := rows_in g4 rvs
  show wpAny _ _ (call (.builtin "sorted") [.ref l] [("key", .ref f)]) _ _ s4
  have hC := NdefX.cells_of I4 (NdefX.Caps.made (scope := scope) (fr := []) (js := []) I4.ok (fun y hy e => absurd e (hfree y hy)) (fun y hy => by cases hy) rfl)
  have len0 : its.length = rows.length := ei.length
  have u4 := hr.un
  refine PySem.W.sorted_key_data (kw := [("key", .ref f)]) (b := false) (vs := its) (bs := rows) (R := fun v r => ∃ t, v = Value.ref t ∧ D W.K W.lt md H4 (.ref t) (rowD r)) keyR pl.isList ei ?_ ?_ (by rw [sizeLine_eq]; omega) (fun r _ => by have := dep_keyR r; omega) (PyProof.Rows.ksk_s1 _ _) (fun _ => PyProof.Rows.ksk_l1 _ _) (fun x => PyProof.Rows.ksk_t1 f x) ?_ ?_
  · intro d hd d' hd'
    obtain ⟨r, _, rfl⟩ := List.mem_map.mp hd
    obtain ⟨r', _, rfl⟩ := List.mem_map.mp hd'
    show (true && (PySem.W.alikeAll (r.map .str) (r'.map .str) && true)) = true
    rw [alike_strs]; rfl
  · refine .inl fun d hd => ?_
    obtain ⟨r, _, rfl⟩ := List.mem_map.mp hd
    exact ⟨_, _, rfl⟩
  · intro v r ⟨t, ev, dt⟩ hrm h tk kp
    subst ev
    have I5 : Inv (cxD W N x sc fX (.ref c) A outer s H0 E) pins σ H4 { s4 with heap := h, toks := tk } := I4.kept kp
    obtain ⟨t2, xs2, et, st2, g2⟩ := dt.sqT
    cases et
    have sq2 : SqT W.K H4 t (r.map V.str) := by rw [← da_strsE g2]; exact st2
    have e0 : Env0 W.P W.w W.K W.mg W.base (cxD W N x sc fX (.ref c) A outer s H0 E).A.in1.in1 (cxD W N x sc fX (.ref c) A outer s H0 E).stack { s4 with heap := h, toks := tk } H4 := let z := I5.env0; ⟨z.frames, z.mod, z.bs, z.bsz, z.funs, z.frf, z.hok, z.bare⟩
    have hr3 : Room 2 (cxD W N x sc fX (.ref c) A outer s H0 E).A.in1.in1 := (show Room 3 _ from (hr.mono hj).in1).in1
    have hC5 := NdefX.cells_of I5 (NdefX.Caps.made (scope := scope) (fr := []) (js := []) I5.ok (fun y hy e => absurd e (hfree y hy)) (fun y hy => by cases hy) rfl)
    refine wpAny_call (codeAny_mono (lam_runX (Qf := PySem.W.KeyPure (keyR r) { s4 with heap := h, toks := tk }) (k := 1) (N := ["one"]) (us := [.ref t]) (vs := [.ref t]) S (hbind _ _ _ _ _ _) hr3 e0 (kp _ _ hf) (NdefX.codeO_at I5.hok hco) hC5 (.cons rfl .nil) rfl fun hr2 h₁ tk1 kp1 J => ?_) fun rr s' ⟨v, er, q⟩ => ?_) 
    · have lk : ∀ y : Str, Loc scope y → y = "one" → True := fun _ _ _ => trivial
      have vz : Vis scope ("one" : Str) := .inl (S.par "one" (by simp))
      obtain ⟨its2, rr2, pl2, hz2⟩ := J.tuple (a := t) (xs := r.map V.str) sq2
      have hx2 := strsAre_of rr2
      have len2 : its2.length = r.length := by rw [← rr2.length, List.length_map]
      refine wpAny_Tuple_spliced (PyProof.Rows.args_cons (Call_ (ld_blt J (show scope.names.lookup _ = _ from hlen) b2 boot_len (PyProof.Rows.callWith_builtin1 (PyProof.Rows.args_cons (name_ref (i := 0) J rfl rfl vz (PyProof.Rows.args_nil ?_)) rfl) rfl rfl))) rfl)
      refine len_tuple pl2 (by simp only [List.size_toArray]; have := line63; rw [List.length_map] at hz2; omega) ?_
      refine PyProof.Rows.args_cons (name_ref (i := 0) (s := { s4 with heap := h₁, toks := _ }) (J.tok _) rfl rfl vz (PyProof.Rows.args_nil ⟨?_, ?_⟩)) rfl
      · show 2 ≤ sizeLine; decide
      · refine ⟨_, _, rfl, fun b o e => Heap.get?_push_of_some _ (kp1 b o e), ?_⟩
        refine .tuple (Heap.get?_push_size _ rfl) rfl rfl (.cons (as := []) (bs := []) ?_ (.cons (as := []) (bs := []) ?_ .nil))
        · have e : (r.length : Int) = ((its2.toArray.size : Nat) : Int) := by simp [len2]
          rw [e]; exact .int _ _
        · obtain ⟨o2, ho2, hc2, n2, hd2⟩ := pl2
          exact .tuple (Heap.get?_push_of_some _ ho2) hc2 hd2 (by simpa using reads_strs hx2)
    · subst er
      exact q
  · intro out cc h' tk kp _ hget hlen2 eo
    obtain ⟨vs, hv, dv⟩ := rows_out (by rw [List.mergeSort_of_pairwise hs] at eo; exact eo)
    have hpp : H4 (s4.heap.objs.size + 1) = none := I4.hok.fresh (Nat.le_succ _)
    have hz2 : vs.length ≤ sizeLine := by rw [dv.len, List.length_map, sizeLine_eq]; omega
    have J : Inv (cxD W N x sc fX (.ref c) A outer s H0 E) pins σ (upd H4 (s4.heap.objs.size + 1) (.lst vs)) { s4 with heap := h', toks := tk } := I4.laid (t' := tk) kp (Nat.le_succ _) ⟨hz2, out, cc, hv, hget⟩
    obtain ⟨x5, R5, r5⟩ := fin_lst R4 dv hpp
    exact ⟨.ref _, _, J, rfl, k _ _ _ (x1.trans (x4.trans x5)) R5 r5 qq⟩
end
end DL

/-! DlZ4 -/
set_option Elab.async false
set_option linter.all false
set_option maxRecDepth 100000
set_option maxHeartbeats 1000000
namespace DL
open PySem PySem.Spec PyProof.Rows L2
/-- a try whose body raises nothing -/
theorem s_try {X : Cx} {B : Bx} {δ : List Sl} {E : DE} {body : List Stmt} {h₀ : ExceptHandler} {hs : List ExceptHandler} {pos : Pos} (hx : ∀ e s, X.xe e s → False) (h : WSs X B body δ E) : WS X B (.Try body (h₀ :: hs) [] [] pos) δ E := fun md σ H D R F => by
  intro pins s I
  refine wpAny_Try_except (wpAny_mono (h md σ H D R F pins s I) (fun f s1 q => ?_) fun e s1 z => (hx e s1 z).elim)
  cases f with
  | next => exact wpAny_pure q
  | _ => exact q
end DL

/-! DfZh -/
set_option Elab.async false
set_option linter.all false
set_option maxRecDepth 100000
set_option maxHeartbeats 4000000
set_option pp.maxSteps 300
set_option pp.deepTerms false
namespace DL
open PySem PySem.Spec PyProof.Rows L2
open NdefX (NTab TabsN TabN)
open Mth
section
variable {W : Wd} {ad : Ads}
abbrev dAsk (w : List (Str × Int)) : Dat := .tup (w.map fun o => .tup [.str o.1, .int o.2])
def subsL (l : List Str) : List (List Str) := l.foldl (fun acc t => acc ++ acc.map fun r => r ++ [t]) [[]]
theorem subsL_snoc {l : List Str} {t : Str} : subsL (l ++ [t]) = subsL l ++ (subsL l).map fun r => r ++ [t] := by
  unfold subsL
  rw [List.foldl_append]; rfl
theorem subsL_take {l : List Str} {i : Nat} {t : Str} (h : l[i]? = some t) : subsL (l.take (i + 1)) = subsL (l.take i) ++ (subsL (l.take i)).map fun r => r ++ [t] := by
  rw [take_snoc h, subsL_snoc]
theorem subsL_row {l : List Str} : ∀ {i : Nat} {r : List Str}, r ∈ subsL (l.take i) → r.length ≤ i
  | 0, r, h => by
    rw [List.take_zero] at h
    have : r = [] := List.mem_singleton.mp h
    rw [this]; exact Nat.le_refl _
  | i + 1, r, h => by
    cases e : l[i]? with
    | none =>
      rw [List.take_succ, e] at h
      have := subsL_row (l := l) (i := i) (r := r) (by simpa using h)
      omega
    | some t =>
      rw [subsL_take e] at h
      rcases List.mem_append.mp h with h | h
      · have := subsL_row h; omega
      · obtain ⟨r', h', rfl⟩ := List.mem_map.mp h
        have := subsL_row h'
        rw [List.length_append, List.length_singleton]; omega
theorem subsL_len {l : List Str} : ∀ {i : Nat}, (subsL (l.take i)).length ≤ 2 ^ i
  | 0 => by rw [List.take_zero]; exact Nat.le_refl _
  | i + 1 => by
    have ih := subsL_len (l := l) (i := i)
    have p : 2 ^ (i + 1) = 2 ^ i + 2 ^ i := by rw [Nat.pow_succ]; omega
    cases e : l[i]? with
    | none =>
      rw [List.take_succ, e]
      simp only [Option.toList_none, List.append_nil]
      omega
    | some t => rw [subsL_take e, List.length_append, List.length_map]; omega
theorem pow5 {i : Nat} (h : i ≤ 5) : 2 ^ i ≤ 32 := Nat.pow_le_pow_right (n := 2) (by decide) h
theorem flat_len {α : Type} : ∀ {l : List (List α)} {n k : Nat}, (∀ w ∈ l, w.length ≤ k) → l.length ≤ n → l.flatten.length ≤ n * k
  | [], n, k, _, _ => Nat.zero_le _
  | w :: l, 0, k, _, h => by simp at h
  | w :: l, n + 1, k, h, hn => by
    rw [List.flatten_cons, List.length_append, Nat.succ_mul]
    have h1 := h w (by simp)
    have h2 := flat_len (l := l) (n := n) (k := k) (fun v hv => h v (by simp [hv])) (by simpa using hn)
    omega
theorem flat_crew {α β : Type} {f : α → β} : ∀ {l : List (List α)}, (l.flatMap fun x => (x.filter fun _ => true).map f) = l.flatten.map f
  | [] => rfl
  | w :: l => by
    rw [List.flatMap_cons, List.flatten_cons, List.map_append, flat_crew, List.filter_eq_self.mpr fun _ _ => rfl]
theorem flat_fst {asks : List (List (Str × Int))} : asks.flatten.map (·.1) = asks.flatMap fun s => s.map (·.1) := by
  rw [List.flatMap_def, List.map_flatten]
theorem flat_known {crew : List (List Str)} {asks : List (List (Str × Int))} : (crew.flatMap fun x => (x.filter fun _ => true).map Dat.str) ++ (asks.flatMap fun x => (x.filter fun _ => true).map fun z => Dat.str z.1) = (crew.flatten ++ asks.flatMap fun s => s.map (·.1)).map Dat.str := by
  rw [flat_crew, flat_crew, List.map_append]
  rw [← flat_fst, List.map_map]
  rfl
theorem flat_crewE {α : Type} {l : List (List α)} : (l.flatMap fun x => x) = l.flatten := by rw [List.flatMap_def, List.map_id']
theorem one_get {x d : Dat} {i : Nat} (h : [x][i]? = some d) : d = x := by
  cases i with
  | zero => simp at h; exact h.symm
  | succ i => simp at h
def S_are_skills : Sc := fun ds Q => ∃ ss : List Str, ds = [rowD ss] ∧ ss.length ≤ 5 ∧ (∀ z ∈ ss, nameB z = true) ∧ (txts ss).length = ss.length ∧ Q (.bl true)
set_option maxHeartbeats 8000000 in
theorem c_are_skills (G : Gl0 W ad) : CalD W 2 "are_skills" S_are_skills [] := by
  refine cal_of (N := ["value", "one"]) (ps := ["value"]) G.d_are_skills (by decide +kernel) (fun _ _ _ _ _ _ us hl => match us, hl with | [_], _ => rfl) (fun ds Q hS => by obtain ⟨ss, rfl, h5, hn, hu, q⟩ := hS; rfl) fun f cdv A outer s H E md0 ds Q hr hS => ?_
  obtain ⟨ss, rfl, h5, hn, hu, q⟩ := hS
  have HN : (["value", "one"] : List Str).Nodup := by decide
  refine s_cons (s_if ?_)
  refine t_bool ?_
  refine w_or ?_
  refine t_not ?_
  refine t_val ?_
  refine d_isi G.b_isinstance ?_
  refine d_name 0 rfl ?_
  refine d_blt (n := "tuple") G.b_tuple boot_tuple ?_
  refine isiQ_ty rfl kb_tup_tup ?_
  refine q_b ?_
  refine if_f (by decide) ?_
  refine w_or ?_
  refine t_gt ?_
  refine d_len G.b_len ?_
  refine d_name 0 rfl ?_
  refine d_gint G.i_MAX_SKILLS ?_
  refine ⟨trivial, ?_⟩
  refine q_b ?_
  refine if_f (by rw [List.length_map]; simp; omega) ?_
  refine w_or1 ?_
  refine t_not ?_
  refine t_val ?_
  refine d_all rfl G.b_all ?_
  refine d_lc (own := [("one", 1)]) (is := [1]) rfl HN (by kernel_rfl) ?_
  refine i_seq ?_
  refine d_name 0 rfl ?_
  refine lcq_map (h := fun _ => .bl true) (by omega) trivial (fun i z ez Y N y => ?_) ?_
  · intro s5 H5 C5 cl5 fp5
    have hz := hn z (List.mem_of_getElem? ez)
    refine n_name 1 ?_ HN
    intro s6 H6 C6 cl6 fp6
    refine ts_nil (if_t rfl ?_)
    intro s7 H7 C7 cl7 fp7
    refine d_call (c_is_name G) hr ?_
    refine a_cons ?_
    refine d_name 1 rfl ?_
    refine a_nil ⟨z, rfl, hz, ?_⟩
    exact y
  refine ⟨_, all_map, ?_⟩
  refine q_b ?_
  refine if_f (by rw [all_true]; decide) ?_
  refine s_nil ?_
  refine s_one (s_ret ?_)
  refine d_eq hr.u64 ?_
  refine d_lenSet rfl G.b_len G.b_set ?_
  refine d_name 0 rfl ?_
  refine ⟨ss, .inr rfl, by omega, ?_⟩
  refine d_len G.b_len ?_
  refine d_name 0 rfl ?_
  refine .inl ⟨_, rfl, ?_⟩
  exact q_tt (by rw [hu, List.length_map]; simp) q
def S_are_asks : Sc := fun ds Q => ds = [.tup [.tup [.str "weld", .int 1]]] ∧ Q (.bl true)
set_option maxHeartbeats 8000000 in
theorem c_are_asks (G : Gl0 W ad) : CalD W 2 "are_asks" S_are_asks [] := by
  refine cal_of (N := ["value", "one"]) (ps := ["value"]) G.d_are_asks (by decide +kernel) (fun _ _ _ _ _ _ us hl => match us, hl with | [_], _ => rfl) (fun ds Q hS => by obtain ⟨rfl, q⟩ := hS; rfl) fun f cdv A outer s H E md0 ds Q hr hS => ?_
  obtain ⟨rfl, q⟩ := hS
  have HN : (["value", "one"] : List Str).Nodup := by decide
  refine s_cons (s_if ?_)
  refine t_bool ?_
  refine w_or ?_
  refine t_not ?_
  refine t_val ?_
  refine d_isi G.b_isinstance ?_
  refine d_name 0 rfl ?_
  refine d_blt (n := "tuple") G.b_tuple boot_tuple ?_
  refine isiQ_ty rfl kb_tup_tup ?_
  refine q_b ?_
  refine if_f (by decide) ?_
  refine w_or1 ?_
  refine t_gt ?_
  refine d_len G.b_len ?_
  refine d_name 0 rfl ?_
  refine d_gint G.i_MAX_ASKS ?_
  refine ⟨trivial, ?_⟩
  refine q_b ?_
  refine if_f (by decide) ?_
  refine s_nil ?_
  refine s_cons (s_for rfl ?_)
  refine i_seq ?_
  refine d_name 0 rfl ?_
  refine ⟨fun i δ => ∃ s1, δ = [.d (.tup [.tup [.str "weld", .int 1]]), s1], ⟨_, rfl⟩, fun i δ _ _ => trivial, fun i d δ ed hI => ?_, fun δ hI => ?_⟩
  · obtain ⟨s1, rfl⟩ := hI
    have ed1 := one_get ed
    subst ed1
    refine g_name 1 ?_ HN
    refine s_cons (s_if ?_)
    refine t_bool ?_
    refine w_or ?_
    refine t_not ?_
    refine t_val ?_
    refine d_isi G.b_isinstance ?_
    refine d_name 1 rfl ?_
    refine d_blt (n := "tuple") G.b_tuple boot_tuple ?_
    refine isiQ_ty rfl kb_tup_tup ?_
    refine q_b ?_
    refine if_f (by decide) ?_
    refine w_or ?_
    refine t_ne hr.u64 ?_
    refine d_len G.b_len ?_
    refine d_name 1 rfl ?_
    refine d_int ?_
    refine .inl ⟨_, rfl, ?_⟩
    refine if_f (by decide) ?_
    refine w_or ?_
    refine t_not ?_
    refine t_val ?_
    refine d_call (c_is_name G) hr ?_
    refine a_cons ?_
    refine d_sub ?_
    refine d_name 1 rfl ?_
    refine d_int ?_
    refine ⟨_, rfl, ?_⟩
    refine a_nil ⟨"weld", rfl, by decide, ?_⟩
    refine q_b ?_
    refine if_f (by decide) ?_
    refine w_or1 ?_
    refine t_not ?_
    refine t_val ?_
    refine d_call (c_is_int G) hr ?_
    refine a_cons ?_
    refine d_sub ?_
    refine d_name 1 rfl ?_
    refine d_int ?_
    refine ⟨_, rfl, ?_⟩
    refine a_nil ⟨1, rfl, ?_⟩
    refine q_b ?_
    refine if_f (by decide) ?_
    refine s_nil ?_
    refine s_one (s_if ?_)
    refine t_not ?_
    refine t_chLL ?_
    refine d_int ?_
    refine d_sub ?_
    refine d_name 1 rfl ?_
    refine d_int ?_
    refine ⟨_, rfl, ?_⟩
    refine ⟨trivial, ?_⟩
    refine q_b (if_t (by decide) ?_)
    refine d_gint G.i_MAX_WORKERS ?_
    refine ⟨trivial, ?_⟩
    refine q_b ?_
    refine if_f (by decide) ?_
    refine s_nil ?_
    exact ⟨_, rfl⟩
  · obtain ⟨s1, rfl⟩ := hI
    refine s_one (s_ret ?_)
    refine d_eq hr.u64 ?_
    refine d_lenSet rfl G.b_len G.b_set ?_
    refine d_lc (own := [("one", 1)]) (is := [1]) rfl HN (by kernel_rfl) ?_
    refine i_seq ?_
    refine d_name 0 rfl ?_
    show LcQ _ _ _ _ _ _ _ _ _ _ ([("weld" : Str)].map fun x => .tup [.str x, .int 1]) _
    refine lcq_map (h := fun x => .str x) (by decide) trivial (fun i z ez Y N y => ?_) ?_
    · intro s5 H5 C5 cl5 fp5
      refine n_name 1 ?_ HN
      intro s6 H6 C6 cl6 fp6
      refine ts_nil (if_t rfl ?_)
      intro s7 H7 C7 cl7 fp7
      refine d_sub ?_
      refine d_name 1 rfl ?_
      refine d_int ?_
      refine ⟨_, rfl, ?_⟩
      exact y
    refine ⟨["weld"], .inl rfl, by decide, ?_⟩
    refine d_len G.b_len ?_
    refine d_name 0 rfl ?_
    refine .inl ⟨_, rfl, ?_⟩
    exact q_tt (by decide +kernel) q
end
end DL

/-! DfZi -/
set_option Elab.async false
set_option linter.all false
set_option maxRecDepth 100000
set_option maxHeartbeats 4000000
set_option pp.maxSteps 300
set_option pp.deepTerms false
namespace DL
open PySem PySem.Spec PyProof.Rows L2
open NdefX (NTab TabsN TabN)
open Mth
section
variable {W : Wd} {ad : Ads}
def S_skills_among : Sc := fun ds Q => ∃ (crew : List (List Str)) (asks : List (List (Str × Int))), ds = [.tup (crew.map rowD), .tup (asks.map dAsk)] ∧ crew.length ≤ 5 ∧ asks.length ≤ 5 ∧ (∀ w ∈ crew, w.length ≤ 5) ∧ (∀ w ∈ asks, w.length ≤ 5) ∧ ∀ ys : List Str, ys.Perm (txts (crew.flatten ++ asks.flatMap fun s => s.map (·.1))) → sortedS ys = true → Q (.lst (ys.map .str))
set_option maxHeartbeats 8000000 in
theorem c_skills_among (G : Gl0 W ad) : CalD W 1 "skills_among" S_skills_among [] := by
  refine cal_of (N := ["crew", "asks", "known", "worker", "skill", "some", "one"]) (ps := ["crew", "asks"]) G.d_skills_among (by decide +kernel) (fun _ _ _ _ _ _ us hl => match us, hl with | [_, _], _ => rfl) (fun ds Q hS => by obtain ⟨crew, asks, rfl, hc5, ha5, hw, ha, q⟩ := hS; rfl) fun f cdv A outer s H E md0 ds Q hr hS => ?_
  obtain ⟨crew, asks, rfl, hc5, ha5, hw, ha, q⟩ := hS
  have HN : (["crew", "asks", "known", "worker", "skill", "some", "one"] : List Str).Nodup := by decide
  refine s_cons (s_setLc2 2 (own := [("worker", 3), ("skill", 4)]) (is := [3]) (is1 := [4]) [4] rfl HN (by kernel_rfl) ?_)
  refine i_seq ?_
  refine d_name 0 rfl ?_
  refine lcq2_flat (g := rowD) (m := fun w => w) (g1 := Dat.str) (h := fun z => .str z) (p := fun _ => true) (by omega) trivial (fun x hx F fn => ?_) ?_
  · intro s5 H5 C5 cl5 fp5
    refine n_name 3 ⟨ownSub_name, ?_⟩ HN
    intro s6 H6 C6 cl6 fp6
    refine i_seq ?_
    refine d_name 3 rfl ?_
    refine ⟨rfl, fn _ _ (by have := hw x hx; omega) trivial fun z hz Y N y n => ?_⟩
    intro s7 H7 C7 cl7 fp7
    refine n_name 4 ?_ HN
    intro s8 H8 C8 cl8 fp8
    refine ts_nil (if_t rfl ?_)
    intro s9 H9 C9 cl9 fp9
    refine d_name 4 rfl ?_
    exact y rfl
  refine s_one (s_ret ?_)
  refine d_sortSet rfl G.b_sorted G.b_set ?_
  refine d_add ?_
  refine d_name 2 rfl ?_
  refine d_lc2 (own := [("some", 5), ("one", 6)]) (is := [5]) (is1 := [6]) [6] rfl HN (by kernel_rfl) ?_
  refine i_seq ?_
  refine d_name 1 rfl ?_
  refine lcq2_flat (g := dAsk) (m := fun w => w) (g1 := fun o => .tup [.str o.1, .int o.2]) (h := fun z => .str z.1) (p := fun _ => true) (by omega) trivial (fun x hx F fn => ?_) ?_
  · intro s5 H5 C5 cl5 fp5
    refine n_name 5 ⟨ownSub_name, ?_⟩ HN
    intro s6 H6 C6 cl6 fp6
    refine i_seq ?_
    refine d_name 5 rfl ?_
    refine ⟨rfl, fn _ _ (by have := ha x hx; omega) trivial fun z hz Y N y n => ?_⟩
    intro s7 H7 C7 cl7 fp7
    refine n_name 6 ?_ HN
    intro s8 H8 C8 cl8 fp8
    refine ts_nil (if_t rfl ?_)
    intro s9 H9 C9 cl9 fp9
    refine d_sub ?_
    refine d_name 6 rfl ?_
    refine d_int ?_
    refine ⟨_, rfl, ?_⟩
    exact y rfl
  refine ⟨by rw [flat_crew, flat_crew, List.length_map, List.length_map]; have := flat_len hw hc5; have := flat_len ha ha5; omega, ?_⟩
  refine ⟨_, .inl (congrArg Dat.lst flat_known), by rw [← flat_fst, List.length_append, List.length_map]; have := flat_len hw hc5; have := flat_len ha ha5; omega, fun ys hp hs => ?_⟩
  exact q ys hp hs
def S_sets_of : Sc := fun ds Q => ∃ things : List Str, ds = [.lst (things.map .str)] ∧ things.length ≤ 5 ∧ ((subsL things).Pairwise fun r r' => PySem.W.dataLe false keyR r r' = true) ∧ Q (.lst ((subsL things).map rowD))
set_option maxHeartbeats 8000000 in
theorem c_sets_of (G : Gl0 W ad) (L : Gl1 W) : CalD W 5 "sets_of" S_sets_of [] := by
  obtain ⟨c, P, Dc⟩ := L.n_sets_of
  refine calC_of (N := ["things", "found", "thing", "one"]) (ps := ["things"]) Dc (by decide +kernel) (fun _ _ _ _ _ _ us hl => match us, hl with | [_], _ => rfl) (fun ds Q hS => by obtain ⟨things, rfl, h5, hp, q⟩ := hS; rfl) fun f A outer s H E md0 ds Q hr hS => ?_
  obtain ⟨things, rfl, h5, hp, q⟩ := hS
  have HN : (["things", "found", "thing", "one"] : List Str).Nodup := by decide
  refine s_cons (s_set 1 ?_ HN)
  refine d_lst ?_
  refine a_cons ?_
  refine d_tup ?_
  refine a_nil ⟨by simp, ?_⟩
  refine a_nil ⟨by simp, ?_⟩
  refine s_cons (s_for rfl ?_)
  refine i_seq ?_
  refine d_name 0 rfl ?_
  refine ⟨fun i δ => ∃ s2 s3, δ = [.d (.lst (things.map .str)), .d (.lst ((subsL (things.take i)).map rowD)), s2, s3], ⟨_, _, rfl⟩, fun i δ _ _ => trivial, fun i d δ ed hI => ?_, fun δ hI => ?_⟩
  · obtain ⟨s2, s3, rfl⟩ := hI
    obtain ⟨t, et, rfl⟩ := map_get ed
    have hi : i < things.length := (List.getElem?_eq_some_iff.mp et).1
    have hl := @subsL_len things i
    have h32 := pow5 (show i ≤ 5 by omega)
    refine g_name 2 ?_ HN
    refine s_one (s_set 1 ?_ HN)
    refine d_add ?_
    refine d_name 1 rfl ?_
    refine d_lc (own := [("one", 3)]) (is := [3]) rfl HN (by kernel_rfl) ?_
    refine i_seq ?_
    refine d_name 1 rfl ?_
    refine lcq_map (h := fun r => rowD (r ++ [t])) (by omega) trivial (fun i z ez Y N y => ?_) ?_
    · intro s5 H5 C5 cl5 fp5
      have hz := subsL_row (List.mem_of_getElem? ez)
      refine n_name 3 ?_ HN
      intro s6 H6 C6 cl6 fp6
      refine ts_nil (if_t rfl ?_)
      intro s7 H7 C7 cl7 fp7
      refine d_add ?_
      refine d_name 3 rfl ?_
      refine d_tup ?_
      refine a_cons ?_
      refine d_name 2 rfl ?_
      refine a_nil ⟨by simp, ?_⟩
      refine ⟨by rw [List.length_map]; simp; omega, ?_⟩
      exact q_to (congrArg Dat.tup (by simp)) y
    refine ⟨by rw [List.length_map, List.length_map]; omega, ?_⟩
    exact ⟨_, _, by rw [subsL_take et, List.map_append, List.map_map]; rfl⟩
  · obtain ⟨s2, s3, rfl⟩ := hI
    rw [List.length_map, List.take_length]
    have hl := @subsL_len things things.length
    rw [List.take_length] at hl
    have h32 := pow5 h5
    refine s_one (s_ret ?_)
    refine d_sortKeyL (Dc) (show ("sets_of.<locals>.<lambda>" : Str) = (("sets_of" : Str) ++ ".<locals>.") ++ "<lambda>" by decide +kernel) (NdefX.nscope_by (by decide +kernel)) (fun _ _ _ _ _ _ => rfl) (by decide +kernel) (by decide +kernel) rfl G.b_sorted G.b_len hr (by decide) ?_
    refine d_name 1 rfl ?_
    refine ⟨subsL things, rfl, by omega, hp, ?_⟩
    exact q
end
end DL

/-! DfZj -/
set_option Elab.async false
set_option linter.all false
set_option maxRecDepth 100000
set_option maxHeartbeats 4000000
set_option pp.maxSteps 300
set_option pp.deepTerms false
namespace DL
open PySem PySem.Spec PyProof.Rows L2
open NdefX (NTab TabsN TabN)
open Mth
section
variable {W : Wd} {ad : Ads}
def crewL : List (List Str) := [["weld"], ["weld", "lift"]]
def askL : List (Str × Int) := [("weld", 1)]
theorem str_lt2 {a b : Str} (ha : a = "lift" ∨ a = "weld") (hb : b = "lift" ∨ b = "weld") (hn : a ≠ b) (hs : sortedS [a, b] = true) : [a, b] = (["lift", "weld"] : List Str) := by
  rcases ha with rfl | rfl <;> rcases hb with rfl | rfl
  · exact absurd rfl hn
  · rfl
  · exact absurd hs (by decide +kernel)
  · exact absurd rfl hn
theorem ys_two {ys : List Str} (hp : ys.Perm (txts (crewL.flatten ++ [askL].flatMap fun s => s.map (·.1)))) (hs : sortedS ys = true) : ys = (["lift", "weld"] : List Str) := by
  have e : txts (crewL.flatten ++ [askL].flatMap fun s => s.map (·.1)) = (["lift", "weld"] : List Str) := by decide +kernel
  rw [e] at hp
  have l := hp.length_eq
  match ys, l with
  | [a, b], _ =>
    have ha := hp.mem_iff.mp (show a ∈ [a, b] by simp)
    have hb := hp.mem_iff.mp (show b ∈ [a, b] by simp)
    have hn := hp.nodup_iff.mpr (show (["lift", "weld"] : List Str).Nodup by decide +kernel)
    exact str_lt2 (by simpa using ha) (by simpa using hb) (by simpa using hn) hs
theorem fl_strs {l : List Str} : (l.map Dat.str).all fl? = true := by
  rw [List.all_map, List.all_eq_true]; intro x _; rfl
theorem any_strs {l : List Str} {a : Str} : ((l.map Dat.str).any fun z => eqS z (.str a)) = decide (a ∈ l) := by
  induction l with
  | nil => simp
  | cons b r ih =>
    rw [List.map_cons, List.any_cons, ih]
    have e : eqS (.str b) (.str a) = decide (a = b) := by
      show (b == a) = _
      by_cases q : a = b
      · rw [q]; simp
      · rw [decide_eq_false q]; exact beq_eq_false_iff_ne.mpr fun z => q z.symm
    rw [e]
    by_cases q : a = b
    · simp [q]
    · simp [q]
theorem ask_sum {p : Str × Int → Bool} : Dat.lst ([askL].flatMap fun x => (x.filter p).map fun z => Dat.int z.2) = .lst (((askL.filter p).map (·.2)).map Dat.int) := by
  rw [List.flatMap_cons, List.flatMap_nil, List.append_nil, List.map_map]; rfl
theorem all_mapB {α : Type} {l : List α} {f : α → Bool} : Dat.lst (l.map fun u => Dat.bl (f u)) = .lst ((l.map f).map Dat.bl) := by rw [List.map_map]; rfl
theorem crew_len {w : List Str} (h : w ∈ crewL) : w.length ≤ 2 := by
  have : ∀ w ∈ crewL, w.length ≤ 2 := by decide
  exact this w h
theorem lack_no {r : List Str} (h : r ∈ subsL ["lift", "weld"]) : ¬ decide (((askL.filter fun z => decide (z.1 ∈ r)).map (·.2)).sum > (((crewL.filter fun w => w.any fun z => decide (z ∈ r)).map rowD).length : Nat)) = true := by
  rw [List.length_map]
  have : ∀ r ∈ subsL ["lift", "weld"], ¬ decide (((askL.filter fun z => decide (z.1 ∈ r)).map (·.2)).sum > ((crewL.filter fun w => w.any fun z => decide (z ∈ r)).length : Nat)) = true := by decide +kernel
  exact this r h
def S_lacking_skills : Sc := fun ds Q => ds = [.tup (crewL.map rowD), .tup ([askL].map dAsk)] ∧ Q .non
set_option maxHeartbeats 8000000 in
theorem c_lacking_skills (G : Gl0 W ad) (L : Gl1 W) : CalD W 6 "lacking_skills" S_lacking_skills [] := by
  refine cal_of (N := ["crew", "asks", "skills", "asked", "some", "one", "worker", "skill"]) (ps := ["crew", "asks"]) G.d_lacking_skills (by decide +kernel) (fun _ _ _ _ _ _ us hl => match us, hl with | [_, _], _ => rfl) (fun ds Q hS => by obtain ⟨rfl, q⟩ := hS; rfl) fun f cdv A outer s H E md0 ds Q hr hS => ?_
  obtain ⟨rfl, q⟩ := hS
  have HN : (["crew", "asks", "skills", "asked", "some", "one", "worker", "skill"] : List Str).Nodup := by decide
  refine s_cons (s_for rfl ?_)
  refine i_seq ?_
  refine d_call (c_sets_of G L) hr ?_
  refine a_cons ?_
  refine d_call (c_skills_among G) hr ?_
  refine a_cons ?_
  refine d_name 0 rfl ?_
  refine a_cons ?_
  refine d_name 1 rfl ?_
  refine a_nil ⟨crewL, [askL], rfl, by decide, by decide, by decide, by decide, fun ys hp hs => ?_⟩
  obtain rfl := ys_two hp hs
  refine a_nil ⟨["lift", "weld"], rfl, by decide, by decide +kernel, ?_⟩
  refine ⟨fun i δ => ∃ s2 s3 s4 s5 s6 s7, δ = [.d (.tup (crewL.map rowD)), .d (.tup ([askL].map dAsk)), s2, s3, s4, s5, s6, s7], ⟨_, _, _, _, _, _, rfl⟩, fun i δ _ _ => trivial, fun i d δ ed hI => ?_, fun δ hI => ?_⟩
  · obtain ⟨s2, s3, s4, s5, s6, s7, rfl⟩ := hI
    obtain ⟨r, er, rfl⟩ := map_get ed
    have hr4 := List.mem_of_getElem? er
    refine g_name 2 ?_ HN
    refine s_cons (s_set 3 ?_ HN)
    refine d_sum rfl G.b_sum ?_
    refine d_lc2 (own := [("some", 4), ("one", 5)]) (is := [4]) (is1 := [5]) [5] rfl HN (by kernel_rfl) ?_
    refine i_seq ?_
    refine d_name 1 rfl ?_
    refine lcq2_flat (g := dAsk) (m := fun w => w) (g1 := fun o => .tup [.str o.1, .int o.2]) (h := fun z => .int z.2) (p := fun z => decide (z.1 ∈ r)) (by decide) trivial (fun x hx F fn => ?_) ?_
    · intro s5 H5 C5 cl5 fp5
      refine n_name 4 ⟨ownSub_name, ?_⟩ HN
      intro s6 H6 C6 cl6 fp6
      refine i_seq ?_
      refine d_name 4 rfl ?_
      refine ⟨rfl, fn _ _ (by rw [List.mem_singleton.mp hx]; decide) trivial fun z hz Y N y n => ?_⟩
      intro s7 H7 C7 cl7 fp7
      refine n_name 5 ?_ HN
      intro s8 H8 C8 cl8 fp8
      refine ts_one ?_
      refine t_in hr.u65 ?_
      refine d_sub ?_
      refine d_name 5 rfl ?_
      refine d_int ?_
      refine ⟨_, rfl, ?_⟩
      refine d_name 2 rfl ?_
      refine .inl ⟨_, .inr rfl, rfl, fl_strs, ?_⟩
      rw [any_strs]
      refine if_x (fun h7 => ?_) (fun h7 => ?_)
      · intro s9 H9 C9 cl9 fp9
        refine d_sub ?_
        refine d_name 5 rfl ?_
        refine d_int ?_
        refine ⟨_, rfl, ?_⟩
        exact y (by simpa using h7)
      · exact n (by simpa using h7)
    refine ⟨_, ask_sum, ?_⟩
    refine s_one (s_if ?_)
    refine t_gt ?_
    refine d_name 3 rfl ?_
    refine d_len G.b_len ?_
    refine d_lc (own := [("worker", 6)]) (is := [6]) rfl HN (by kernel_rfl) ?_
    refine i_seq ?_
    refine d_name 0 rfl ?_
    refine lcq_filter (h := rowD) (p := fun w => w.any fun z => decide (z ∈ r)) (by decide) trivial (fun i z ez Y N y n => ?_) ?_
    · intro s5 H5 C5 cl5 fp5
      have hz := crew_len (List.mem_of_getElem? ez)
      refine n_name 6 ?_ HN
      intro s6 H6 C6 cl6 fp6
      refine ts_one ?_
      refine t_val ?_
      refine d_any rfl G.b_any ?_
      refine d_lc (own := [("skill", 7)]) (is := [7]) rfl HN (by kernel_rfl) ?_
      refine i_seq ?_
      refine d_name 6 rfl ?_
      refine lcq_map (h := fun u => .bl (decide (u ∈ r))) (by omega) trivial (fun i z ez Y N y => ?_) ?_
      · intro s5 H5 C5 cl5 fp5
        refine n_name 7 ?_ HN
        intro s6 H6 C6 cl6 fp6
        refine ts_nil (if_t rfl ?_)
        intro s7 H7 C7 cl7 fp7
        refine d_in hr.u65 ?_
        refine d_name 7 rfl ?_
        refine d_name 2 rfl ?_
        refine .inl ⟨_, .inr rfl, rfl, fl_strs, ?_⟩
        rw [any_strs]
        exact y
      refine ⟨_, all_mapB, ?_⟩
      refine q_b ?_
      rw [List.any_map]
      refine if_x (fun h17 => ?_) (fun h17 => ?_)
      · intro s7 H7 C7 cl7 fp7
        refine d_name 6 rfl ?_
        exact y h17
      · exact n (by simpa using h17)
    refine ⟨trivial, ?_⟩
    refine q_b ?_
    refine if_f (lack_no hr4) ?_
    refine s_nil ?_
    exact ⟨_, _, _, _, _, _, rfl⟩
  · obtain ⟨s2, s3, s4, s5, s6, s7, rfl⟩ := hI
    refine s_one (s_ret ?_)
    refine d_non ?_
    exact q
end
end DL

/-! DfZk -/
set_option Elab.async false
set_option linter.all false
set_option maxRecDepth 100000
set_option maxHeartbeats 4000000
set_option pp.maxSteps 300
set_option pp.deepTerms false
namespace DL
open PySem PySem.Spec PyProof.Rows L2
open NdefX (NTab TabsN TabN)
open Mth
section
variable {W : Wd} {ad : Ads}
def crewB (b : Bool) : List (List Str) := if b = true then crewL else []
def asksB (b : Bool) (n : Nat) : List (List (Str × Int)) := if b = true then List.replicate n askL else []
theorem dCrew_eq {b : Bool} : dCrew b = .tup ((crewB b).map rowD) := by cases b <;> rfl
theorem dAsks_eq {b : Bool} {n : Nat} : dAsks b n = .tup ((asksB b n).map dAsk) := by
  cases b
  · rfl
  · show Dat.tup (List.replicate n _) = .tup ((List.replicate n askL).map dAsk)
    rw [List.map_replicate]; rfl
theorem crewB_len {b : Bool} : (crewB b).length ≤ 2 := by cases b <;> decide
theorem asksB_len {b : Bool} {n : Nat} : (asksB b n).length = 0 ∨ (asksB b n).length = n := by
  cases b
  · exact .inl rfl
  · exact .inr (List.length_replicate ..)
theorem crew_w {b : Bool} {w : List Str} (h : w ∈ crewB b) : w.length ≤ 5 ∧ (∀ z ∈ w, nameB z = true) ∧ (txts w).length = w.length := by
  cases b
  · cases h
  · have : ∀ w ∈ crewL, w.length ≤ 5 ∧ (∀ z ∈ w, nameB z = true) ∧ (txts w).length = w.length := by decide +kernel
    exact this w h
theorem crew_z {b : Bool} {w : List Str} (h : w ∈ crewB b) : ∀ z ∈ w, z = "weld" ∨ z = "lift" := by
  cases b
  · cases h
  · have : ∀ w ∈ crewL, ∀ z ∈ w, z = "weld" ∨ z = "lift" := by decide +kernel
    exact this w h
theorem asks_w {b : Bool} {n : Nat} {w : List (Str × Int)} (h : w ∈ asksB b n) : w = askL ∧ b = true := by
  cases b
  · cases h
  · exact ⟨List.eq_of_mem_replicate h, rfl⟩
def WL (l : List Str) : Prop := l = [] ∨ l = [("weld" : Str)] ∨ l = [("lift" : Str)] ∨ l = [("weld" : Str), "lift"] ∨ l = [("lift" : Str), "weld"]
theorem two_tup {a a' b b' : List Dat} (h : a = a') (g : b = b') : [Dat.tup a, Dat.tup b] = [Dat.tup a', Dat.tup b'] := by rw [h, g]
theorem wl_add {l : List Str} {x : Str} (h : WL l) (hx : x = "weld" ∨ x = "lift") : WL (addTxt l x) := by
  rcases h with rfl | rfl | rfl | rfl | rfl <;> rcases hx with rfl | rfl <;> (unfold WL; decide +kernel)
theorem wl_txts : ∀ {xs acc : List Str}, WL acc → (∀ z ∈ xs, z = "weld" ∨ z = "lift") → WL (xs.foldl addTxt acc)
  | [], _, h, _ => h
  | x :: xs, acc, h, hx => by
    rw [List.foldl_cons]
    exact wl_txts (wl_add h (hx x (by simp))) fun z hz => hx z (by simp [hz])
theorem txts_le2 {xs : List Str} (h : ∀ z ∈ xs, z = "weld" ∨ z = "lift") : (txts xs).length ≤ 2 := by
  have := wl_txts (xs := xs) (acc := []) (.inl rfl) h
  rcases this with e | e | e | e | e <;> (unfold txts; rw [e]; decide)
theorem cut_takeS {α β : Type} {l : List α} {f : α → β} {i : Nat} : cutD (l.map f) none (some ((i : Int) + 1)) = (l.take (i + 1)).map f := by
  rw [cut_take (by omega), show ((i : Int) + 1).toNat = i + 1 by omega, List.map_take]
theorem known_two {b : Bool} {n : Nat} {i j : Nat} : ∀ z ∈ ((crewB b).take i).flatten ++ ((asksB b n).take j).flatMap fun s => s.map (·.1), z = "weld" ∨ z = "lift" := fun z hz => by
  rcases List.mem_append.mp hz with h | h
  · obtain ⟨w, hw, hz⟩ := List.mem_flatten.mp h
    exact crew_z (List.mem_of_mem_take hw) z hz
  · obtain ⟨w, hw, hz⟩ := List.mem_flatMap.mp h
    obtain ⟨rfl, _⟩ := asks_w (List.mem_of_mem_take hw)
    exact .inl (by simpa [askL] using hz)
theorem in_asks {n : Nat} {l : List (List (Str × Int))} (h : l.length = 0 ∨ l.length = n) : ([Dat.int 0, nI n].any fun z => eqS z (.int ((l.map dAsk).length : Nat))) = true := by
  rw [List.length_map]
  show (((0 : Int) == (l.length : Int)) || (((n : Int) == (l.length : Int)) || false)) = true
  rcases h with h | h
  · rw [h]; rfl
  · rw [h]; simp
def S_check_crew : Sc := fun ds Q => ∃ (b : Bool) (n : Nat), ds = [nI n, dCrew b, dAsks b n] ∧ 1 ≤ n ∧ n ≤ 3 ∧ Q .non
set_option maxHeartbeats 8000000 in
theorem c_check_crew (G : Gl0 W ad) (L : Gl1 W) : CalD W 7 "check_crew" S_check_crew [] := by
  refine cal_of (N := ["many", "crew", "asks", "index", "worker", "some"]) (ps := ["many", "crew", "asks"]) G.d_check_crew (by decide +kernel) (fun _ _ _ _ _ _ us hl => match us, hl with | [_, _, _], _ => rfl) (fun ds Q hS => by obtain ⟨b, n, rfl, n1, n3, q⟩ := hS; rfl) fun f cdv A outer s H E md0 ds Q hr hS => ?_
  obtain ⟨b, n, rfl, n1, n3, q⟩ := hS
  have HN : (["many", "crew", "asks", "index", "worker", "some"] : List Str).Nodup := by decide
  rw [dCrew_eq, dAsks_eq]
  refine s_cons (s_if ?_)
  refine t_not ?_
  refine t_val ?_
  refine d_call (c_is_row G) hr ?_
  refine a_cons ?_
  refine d_name 1 rfl ?_
  refine a_cons ?_
  refine d_gint G.i_MAX_WORKERS ?_
  refine a_nil ⟨(crewB b).map rowD, 8, _, rfl, .inl rfl, by have := @crewB_len b; rw [List.length_map]; omega, ?_⟩
  refine q_b ?_
  refine if_f (by decide) ?_
  refine s_nil ?_
  refine s_cons (s_for rfl ?_)
  refine i_enum G.b_enumerate ?_
  refine d_name 1 rfl ?_
  refine ⟨fun i δ => ∃ s3 s4 s5, δ = [.d (nI n), .d (.tup ((crewB b).map rowD)), .d (.tup ((asksB b n).map dAsk)), s3, s4, s5], ⟨_, _, _, rfl⟩, fun i δ _ _ => trivial, fun i d δ ed hI => ?_, fun δ hI => ?_⟩
  · obtain ⟨s3, s4, s5, rfl⟩ := hI
    obtain ⟨x, ex, rfl⟩ := enum_get ed
    obtain ⟨w, ew, rfl⟩ := map_get ex
    have hw := crew_w (List.mem_of_getElem? ew)
    refine g_tup (n := 2) rfl ⟨rfl, ?_⟩
    refine g_cons ?_
    refine g_name 3 ?_ HN
    refine g_cons ?_
    refine g_name 4 ?_ HN
    refine g_nil ?_
    refine s_one (s_if ?_)
    refine t_bool ?_
    refine w_or ?_
    refine t_not ?_
    refine t_val ?_
    refine d_call (c_are_skills G) hr ?_
    refine a_cons ?_
    refine d_name 4 rfl ?_
    refine a_nil ⟨w, rfl, hw.1, hw.2.1, hw.2.2, ?_⟩
    refine q_b ?_
    refine if_f (by decide) ?_
    refine w_or1 ?_
    refine t_gt ?_
    refine d_len G.b_len ?_
    refine d_call (c_skills_among G) hr ?_
    refine a_cons ?_
    refine d_slice ?_
    refine d_name 1 rfl ?_
    refine id ?_
    refine d_add ?_
    refine d_name 3 rfl ?_
    refine d_int ?_
    refine ⟨_, rfl, ?_⟩
    refine a_cons ?_
    refine d_tup ?_
    refine a_nil ⟨by simp, ?_⟩
    refine a_nil ⟨(crewB b).take (i + 1), [], two_tup cut_takeS rfl, by have := @crewB_len b; rw [List.length_take]; omega, by decide, fun w h => (crew_w (List.mem_of_mem_take h)).1, by simp, fun ys hp hs => ?_⟩
    refine d_gint G.i_MAX_SKILLS ?_
    refine ⟨trivial, ?_⟩
    refine q_b ?_
    refine if_f (by have h1 := hp.length_eq; have h2 := txts_le2 (known_two (b := b) (n := 0) (i := i + 1) (j := 0)); rw [List.length_map]; simp at h1 h2 ⊢; omega) ?_
    refine s_nil ?_
    exact ⟨_, _, _, rfl⟩
  · obtain ⟨s3, s4, s5, rfl⟩ := hI
    refine s_cons (s_if ?_)
    refine t_bool ?_
    refine w_or ?_
    refine t_not ?_
    refine t_val ?_
    refine d_call (c_is_row G) hr ?_
    refine a_cons ?_
    refine d_name 2 rfl ?_
    refine a_cons ?_
    refine d_gint G.i_MAX_MANY_shapes ?_
    refine a_nil ⟨(asksB b n).map dAsk, 7, _, rfl, .inl rfl, by rcases @asksB_len b n with h | h <;> (rw [List.length_map]; omega), ?_⟩
    refine q_b ?_
    refine if_f (by decide) ?_
    refine w_or1 ?_
    refine t_notin hr.u65 ?_
    refine d_len G.b_len ?_
    refine d_name 2 rfl ?_
    refine d_tup ?_
    refine a_cons ?_
    refine d_int ?_
    refine a_cons ?_
    refine d_name 0 rfl ?_
    refine a_nil ⟨by simp, ?_⟩
    refine .inl ⟨_, .inr rfl, rfl, rfl, ?_⟩
    refine if_f (by rw [in_asks asksB_len]; decide) ?_
    refine s_nil ?_
    refine s_one (s_for rfl ?_)
    refine i_enum G.b_enumerate ?_
    refine d_name 2 rfl ?_
    refine ⟨fun i δ => ∃ s3 s4 s5, δ = [.d (nI n), .d (.tup ((crewB b).map rowD)), .d (.tup ((asksB b n).map dAsk)), s3, s4, s5], ⟨_, _, _, rfl⟩, fun i δ _ _ => trivial, fun i d δ ed hI => ?_, fun δ hI => ?_⟩
    · obtain ⟨s3, s4, s5, rfl⟩ := hI
      obtain ⟨x, ex, rfl⟩ := enum_get ed
      obtain ⟨w, ew, rfl⟩ := map_get ex
      obtain ⟨rfl, rfl⟩ := asks_w (List.mem_of_getElem? ew)
      refine g_tup (n := 2) rfl ⟨rfl, ?_⟩
      refine g_cons ?_
      refine g_name 3 ?_ HN
      refine g_cons ?_
      refine g_name 5 ?_ HN
      refine g_nil ?_
      refine s_cons (s_if ?_)
      refine t_bool ?_
      refine w_or ?_
      refine t_not ?_
      refine t_val ?_
      refine d_call (c_are_asks G) hr ?_
      refine a_cons ?_
      refine d_name 5 rfl ?_
      refine a_nil ⟨rfl, ?_⟩
      refine q_b ?_
      refine if_f (by decide) ?_
      refine w_or1 ?_
      refine t_gt ?_
      refine d_len G.b_len ?_
      refine d_call (c_skills_among G) hr ?_
      refine a_cons ?_
      refine d_name 1 rfl ?_
      refine a_cons ?_
      refine d_slice ?_
      refine d_name 2 rfl ?_
      refine id ?_
      refine d_add ?_
      refine d_name 3 rfl ?_
      refine d_int ?_
      refine ⟨_, rfl, ?_⟩
      refine a_nil ⟨crewB true, (asksB true n).take (i + 1), two_tup rfl cut_takeS, by decide, by rcases @asksB_len true n with h | h <;> (rw [List.length_take]; omega), fun w h => (crew_w h).1, fun w h => by rw [(asks_w (List.mem_of_mem_take h)).1]; decide, fun ys hp hs => ?_⟩
      refine d_gint G.i_MAX_SKILLS ?_
      refine ⟨trivial, ?_⟩
      refine q_b ?_
      refine if_f (by have h1 := hp.length_eq; have h2 := txts_le2 (known_two (b := true) (n := n) (i := 2) (j := i + 1)); rw [List.length_map]; simp [crewB, crewL] at h1 h2 ⊢; omega) ?_
      refine s_nil ?_
      refine s_one (s_if ?_)
      refine t_notN ?_
      refine d_call (c_lacking_skills G L) hr ?_
      refine a_cons ?_
      refine d_name 1 rfl ?_
      refine a_cons ?_
      refine d_tup ?_
      refine a_cons ?_
      refine d_name 5 rfl ?_
      refine a_nil ⟨by simp, ?_⟩
      refine a_nil ⟨rfl, ?_⟩
      refine if_f (by decide) ?_
      refine s_nil ?_
      exact ⟨_, _, _, rfl⟩
    · obtain ⟨s3, s4, s5, rfl⟩ := hI
      exact q
def S_check_people : Sc := fun ds Q => ∃ (b : Bool) (n : Nat), ds = [nI n, dCrew b, dAsks b n] ∧ 1 ≤ n ∧ n ≤ 3 ∧ Q .non
set_option maxHeartbeats 8000000 in
theorem c_check_people (G : Gl0 W ad) (L : Gl1 W) : CalD W 8 "check_people" S_check_people [] := by
  refine cal_of (N := ["many", "crew", "asks", "error"]) (ps := ["many", "crew", "asks"]) G.d_check_people (by decide +kernel) (fun _ _ _ _ _ _ us hl => match us, hl with | [_, _, _], _ => rfl) (fun ds Q hS => by obtain ⟨b, n, rfl, n1, n3, q⟩ := hS; rfl) fun f cdv A outer s H E md0 ds Q hr hS => ?_
  obtain ⟨b, n, rfl, n1, n3, q⟩ := hS
  have HN : (["many", "crew", "asks", "error"] : List Str).Nodup := by decide
  refine s_one (s_try (fun _ _ z => z) ?_)
  refine s_one (s_expr ?_)
  refine d_call (c_check_crew G L) hr ?_
  refine a_cons ?_
  refine d_name 0 rfl ?_
  refine a_cons ?_
  refine d_name 1 rfl ?_
  refine a_cons ?_
  refine d_name 2 rfl ?_
  refine a_nil ⟨b, n, rfl, n1, n3, ?_⟩
  exact q
end
end DL

/-! DfZl -/
set_option Elab.async false
set_option linter.all false
set_option maxRecDepth 100000
set_option maxHeartbeats 4000000
set_option pp.maxSteps 300
set_option pp.deepTerms false
namespace DL
open PySem PySem.Spec PyProof.Rows L2
open NdefX (NTab TabsN TabN)
open Mth
section
variable {W : Wd} {ad : Ads}
theorem late_mem {p : PrjM} (ok : OkP p) {z : Option (Nat × Nat)} (h : z ∈ o2l p.late) : ∀ x y, z = some (x, y) → x ≤ 2 ∧ y ≤ 3 := fun x y e => by
  cases e2 : p.late with
  | none => rw [e2] at h; cases h
  | some l =>
    rw [e2] at h
    subst e
    exact (ok.late l e2).2 x y h
def S_Project___init__ (ad : Ads) : Si := fun ds Q => ∃ p : PrjM, ds = [dNames p.n, nI p.hor, dNats p.mach, dNats p.stock, dModes p, dCals ad p, dWins p, dFams p, dLags p, dSingles p, dCrew p.crew, dAsks p.crew p.n, nI p.overhead, dLate p] ∧ OkP p ∧ Q (prjF ad p)
set_option maxHeartbeats 8000000 in
theorem i_Project {f : Addr} {fd : FuncData} {kws : List (Str × V)} (G : Gl0 W ad) (L : Gl1 W) (F : FunD W.K "__init__" "Project.__init__" (defArgs (clsTop 68 0)) (defBody (clsTop 68 0)) (defScope (clsTop 68 0)) [] kws f fd) : FnOk W.P W.w W.K W.mg W.base C8.CX0 9 f fd ["self", "names", "horizon", "machines", "stocks", "modes", "calendars", "windows", "families", "lags", "singles", "crew", "asks", "overhead", "late"] (Si.sp (S_Project___init__ ad) W.K W.lt W.T ad.project) := by
  refine init_ok (N := ["self", "names", "horizon", "machines", "stocks", "modes", "calendars", "windows", "families", "lags", "singles", "crew", "asks", "overhead", "late", "many"]) F (by decide +kernel) (fun ds Q hS => by obtain ⟨p, rfl, ok, q⟩ := hS; rfl) (by decide) (fun cdv A outer s H H' E md0 pp ds Q hr hS => ?_)
  obtain ⟨p, rfl, ok, q⟩ := hS
  have HN : (["self", "names", "horizon", "machines", "stocks", "modes", "calendars", "windows", "families", "lags", "singles", "crew", "asks", "overhead", "late", "many"] : List Str).Nodup := by decide
  have n1 := ok.n1
  have n3 := ok.n3
  have hn : ((nameL.take p.n).map Dat.str).length = p.n := names_len (by omega)
  have ho := ok.overhead
  obtain ⟨gw, fdw, Fw, hm_is_late⟩ := G.d_is_late.ex
  refine s_cons (s_expr ?_)
  refine d_call (c_check_frame G L) hr ?_
  refine a_cons ?_
  refine d_name 1 rfl ?_
  refine a_cons ?_
  refine d_name 2 rfl ?_
  refine a_cons ?_
  refine d_name 3 rfl ?_
  refine a_cons ?_
  refine d_name 4 rfl ?_
  refine a_cons ?_
  refine d_name 5 rfl ?_
  refine a_nil ⟨p, rfl, ok, ?_⟩
  refine s_cons (s_set 15 ?_ HN)
  refine WE.mono (Q := fun d => d = nI p.n) ?_ (fun d hd => ?_)
  · refine d_len G.b_len ?_
    refine d_name 1 rfl ?_
    show Dat.int _ = _
    rw [hn]
  subst hd
  refine s_cons (s_expr ?_)
  refine d_call (c_check_rest G L) hr ?_
  refine a_cons ?_
  refine d_name 15 rfl ?_
  refine a_cons ?_
  refine d_name 6 rfl ?_
  refine a_cons ?_
  refine d_name 7 rfl ?_
  refine a_cons ?_
  refine d_name 8 rfl ?_
  refine a_cons ?_
  refine d_name 9 rfl ?_
  refine a_nil ⟨p, rfl, ok, ?_⟩
  refine s_cons (s_expr ?_)
  refine d_call (c_check_singles G L) hr ?_
  refine a_cons ?_
  refine d_name 15 rfl ?_
  refine a_cons ?_
  refine d_tuple G.b_tuple ?_
  refine d_name 8 rfl ?_
  refine a_cons ?_
  refine d_name 10 rfl ?_
  refine a_nil ⟨p, rfl, ok, ?_⟩
  refine s_cons (s_expr ?_)
  refine d_call (c_check_people G L) hr ?_
  refine a_cons ?_
  refine d_name 15 rfl ?_
  refine a_cons ?_
  refine d_name 11 rfl ?_
  refine a_cons ?_
  refine d_name 12 rfl ?_
  refine a_nil ⟨p.crew, p.n, rfl, n1, n3, ?_⟩
  refine s_cons (s_if ?_)
  refine t_not ?_
  refine t_val ?_
  refine d_call (c_is_between G) hr ?_
  refine a_cons ?_
  refine d_name 13 rfl ?_
  refine a_cons ?_
  refine d_int ?_
  refine a_cons ?_
  refine d_gint G.i_MAX_AMOUNT ?_
  refine a_nil ⟨_, _, _, rfl, by omega, by omega, ?_⟩
  refine q_b ?_
  refine if_f (by decide) ?_
  refine s_nil ?_
  refine s_cons (s_expr ?_)
  refine d_call (c_check_row_d G (c_is_late G)) hr ?_
  refine a_cons ?_
  refine d_str ?_
  refine a_cons ?_
  refine d_name 14 rfl ?_
  refine a_cons ?_
  refine d_tup ?_
  refine a_cons ?_
  refine d_int ?_
  refine a_cons ?_
  refine d_name 15 rfl ?_
  refine a_nil ⟨by simp, ?_⟩
  refine a_cons ?_
  refine d_gref hm_is_late ?_
  refine a_nil ⟨_, _, gw, (o2l p.late).map dLateO, [0, (p.n : Int)], rfl, .inl rfl, in_two (o_len fun l e => (ok.late l e).1), hm_is_late, fun d hd Q' q' => by obtain ⟨z, hz, rfl⟩ := List.mem_map.mp hd; exact ⟨z, rfl, late_mem ok hz, q'⟩, ?_⟩
  refine s_cons (s_fld 0 rfl G.ci_project.cl G.na_project_names (Nat.le_of_ble_eq_true rfl) ?_)
  refine d_tuple G.b_tuple ?_
  refine d_name 1 rfl ?_
  refine d_own 0 rfl ?_
  refine ⟨rfl, ?_⟩
  show WSs _ _ _ [.own pp (.ins ad.project [("names", dNames p.n)]), .d (dNames p.n), .d (nI p.hor), .d (dNats p.mach), .d (dNats p.stock), .d (dModes p), .d (dCals ad p), .d (dWins p), .d (dFams p), .d (dLags p), .d (dSingles p), .d (dCrew p.crew), .d (dAsks p.crew p.n), .d (nI p.overhead), .d (dLate p), .d (nI p.n)] _
  refine s_cons (s_fld 0 rfl G.ci_project.cl G.na_project_horizon (Nat.le_of_ble_eq_true rfl) ?_)
  refine d_name 2 rfl ?_
  refine d_own 0 rfl ?_
  refine ⟨rfl, ?_⟩
  show WSs _ _ _ [.own pp (.ins ad.project [("names", dNames p.n), ("horizon", nI p.hor)]), .d (dNames p.n), .d (nI p.hor), .d (dNats p.mach), .d (dNats p.stock), .d (dModes p), .d (dCals ad p), .d (dWins p), .d (dFams p), .d (dLags p), .d (dSingles p), .d (dCrew p.crew), .d (dAsks p.crew p.n), .d (nI p.overhead), .d (dLate p), .d (nI p.n)] _
  refine s_cons (s_fld 0 rfl G.ci_project.cl G.na_project_machines (Nat.le_of_ble_eq_true rfl) ?_)
  refine d_tuple G.b_tuple ?_
  refine d_name 3 rfl ?_
  refine d_own 0 rfl ?_
  refine ⟨rfl, ?_⟩
  show WSs _ _ _ [.own pp (.ins ad.project [("names", dNames p.n), ("horizon", nI p.hor), ("machines", dNats p.mach)]), .d (dNames p.n), .d (nI p.hor), .d (dNats p.mach), .d (dNats p.stock), .d (dModes p), .d (dCals ad p), .d (dWins p), .d (dFams p), .d (dLags p), .d (dSingles p), .d (dCrew p.crew), .d (dAsks p.crew p.n), .d (nI p.overhead), .d (dLate p), .d (nI p.n)] _
  refine s_cons (s_fld 0 rfl G.ci_project.cl G.na_project_stocks (Nat.le_of_ble_eq_true rfl) ?_)
  refine d_tuple G.b_tuple ?_
  refine d_name 4 rfl ?_
  refine d_own 0 rfl ?_
  refine ⟨rfl, ?_⟩
  show WSs _ _ _ [.own pp (.ins ad.project [("names", dNames p.n), ("horizon", nI p.hor), ("machines", dNats p.mach), ("stocks", dNats p.stock)]), .d (dNames p.n), .d (nI p.hor), .d (dNats p.mach), .d (dNats p.stock), .d (dModes p), .d (dCals ad p), .d (dWins p), .d (dFams p), .d (dLags p), .d (dSingles p), .d (dCrew p.crew), .d (dAsks p.crew p.n), .d (nI p.overhead), .d (dLate p), .d (nI p.n)] _
  refine s_cons (s_fld 0 rfl G.ci_project.cl G.na_project_modes (Nat.le_of_ble_eq_true rfl) ?_)
  refine d_tuple G.b_tuple ?_
  refine d_name 5 rfl ?_
  refine d_own 0 rfl ?_
  refine ⟨rfl, ?_⟩
  show WSs _ _ _ [.own pp (.ins ad.project [("names", dNames p.n), ("horizon", nI p.hor), ("machines", dNats p.mach), ("stocks", dNats p.stock), ("modes", dModes p)]), .d (dNames p.n), .d (nI p.hor), .d (dNats p.mach), .d (dNats p.stock), .d (dModes p), .d (dCals ad p), .d (dWins p), .d (dFams p), .d (dLags p), .d (dSingles p), .d (dCrew p.crew), .d (dAsks p.crew p.n), .d (nI p.overhead), .d (dLate p), .d (nI p.n)] _
  refine s_cons (s_fld 0 rfl G.ci_project.cl G.na_project_calendars (Nat.le_of_ble_eq_true rfl) ?_)
  refine d_tuple G.b_tuple ?_
  refine d_name 6 rfl ?_
  refine d_own 0 rfl ?_
  refine ⟨rfl, ?_⟩
  show WSs _ _ _ [.own pp (.ins ad.project [("names", dNames p.n), ("horizon", nI p.hor), ("machines", dNats p.mach), ("stocks", dNats p.stock), ("modes", dModes p), ("calendars", dCals ad p)]), .d (dNames p.n), .d (nI p.hor), .d (dNats p.mach), .d (dNats p.stock), .d (dModes p), .d (dCals ad p), .d (dWins p), .d (dFams p), .d (dLags p), .d (dSingles p), .d (dCrew p.crew), .d (dAsks p.crew p.n), .d (nI p.overhead), .d (dLate p), .d (nI p.n)] _
  refine s_cons (s_fld 0 rfl G.ci_project.cl G.na_project_windows (Nat.le_of_ble_eq_true rfl) ?_)
  refine d_tuple G.b_tuple ?_
  refine d_name 7 rfl ?_
  refine d_own 0 rfl ?_
  refine ⟨rfl, ?_⟩
  show WSs _ _ _ [.own pp (.ins ad.project [("names", dNames p.n), ("horizon", nI p.hor), ("machines", dNats p.mach), ("stocks", dNats p.stock), ("modes", dModes p), ("calendars", dCals ad p), ("windows", dWins p)]), .d (dNames p.n), .d (nI p.hor), .d (dNats p.mach), .d (dNats p.stock), .d (dModes p), .d (dCals ad p), .d (dWins p), .d (dFams p), .d (dLags p), .d (dSingles p), .d (dCrew p.crew), .d (dAsks p.crew p.n), .d (nI p.overhead), .d (dLate p), .d (nI p.n)] _
  refine s_cons (s_fld 0 rfl G.ci_project.cl G.na_project_families (Nat.le_of_ble_eq_true rfl) ?_)
  refine d_tuple G.b_tuple ?_
  refine d_name 8 rfl ?_
  refine d_own 0 rfl ?_
  refine ⟨rfl, ?_⟩
  show WSs _ _ _ [.own pp (.ins ad.project [("names", dNames p.n), ("horizon", nI p.hor), ("machines", dNats p.mach), ("stocks", dNats p.stock), ("modes", dModes p), ("calendars", dCals ad p), ("windows", dWins p), ("families", dFams p)]), .d (dNames p.n), .d (nI p.hor), .d (dNats p.mach), .d (dNats p.stock), .d (dModes p), .d (dCals ad p), .d (dWins p), .d (dFams p), .d (dLags p), .d (dSingles p), .d (dCrew p.crew), .d (dAsks p.crew p.n), .d (nI p.overhead), .d (dLate p), .d (nI p.n)] _
  refine s_cons (s_fld 0 rfl G.ci_project.cl G.na_project_lags (Nat.le_of_ble_eq_true rfl) ?_)
  refine d_tuple G.b_tuple ?_
  refine d_name 9 rfl ?_
  refine d_own 0 rfl ?_
  refine ⟨rfl, ?_⟩
  show WSs _ _ _ [.own pp (.ins ad.project [("names", dNames p.n), ("horizon", nI p.hor), ("machines", dNats p.mach), ("stocks", dNats p.stock), ("modes", dModes p), ("calendars", dCals ad p), ("windows", dWins p), ("families", dFams p), ("lags", dLags p)]), .d (dNames p.n), .d (nI p.hor), .d (dNats p.mach), .d (dNats p.stock), .d (dModes p), .d (dCals ad p), .d (dWins p), .d (dFams p), .d (dLags p), .d (dSingles p), .d (dCrew p.crew), .d (dAsks p.crew p.n), .d (nI p.overhead), .d (dLate p), .d (nI p.n)] _
  refine s_cons (s_fld 0 rfl G.ci_project.cl G.na_project_singles (Nat.le_of_ble_eq_true rfl) ?_)
  refine d_tuple G.b_tuple ?_
  refine d_name 10 rfl ?_
  refine d_own 0 rfl ?_
  refine ⟨rfl, ?_⟩
  show WSs _ _ _ [.own pp (.ins ad.project [("names", dNames p.n), ("horizon", nI p.hor), ("machines", dNats p.mach), ("stocks", dNats p.stock), ("modes", dModes p), ("calendars", dCals ad p), ("windows", dWins p), ("families", dFams p), ("lags", dLags p), ("singles", dSingles p)]), .d (dNames p.n), .d (nI p.hor), .d (dNats p.mach), .d (dNats p.stock), .d (dModes p), .d (dCals ad p), .d (dWins p), .d (dFams p), .d (dLags p), .d (dSingles p), .d (dCrew p.crew), .d (dAsks p.crew p.n), .d (nI p.overhead), .d (dLate p), .d (nI p.n)] _
  refine s_cons (s_fld 0 rfl G.ci_project.cl G.na_project_crew (Nat.le_of_ble_eq_true rfl) ?_)
  refine d_tuple G.b_tuple ?_
  refine d_name 11 rfl ?_
  refine d_own 0 rfl ?_
  refine ⟨rfl, ?_⟩
  show WSs _ _ _ [.own pp (.ins ad.project [("names", dNames p.n), ("horizon", nI p.hor), ("machines", dNats p.mach), ("stocks", dNats p.stock), ("modes", dModes p), ("calendars", dCals ad p), ("windows", dWins p), ("families", dFams p), ("lags", dLags p), ("singles", dSingles p), ("crew", dCrew p.crew)]), .d (dNames p.n), .d (nI p.hor), .d (dNats p.mach), .d (dNats p.stock), .d (dModes p), .d (dCals ad p), .d (dWins p), .d (dFams p), .d (dLags p), .d (dSingles p), .d (dCrew p.crew), .d (dAsks p.crew p.n), .d (nI p.overhead), .d (dLate p), .d (nI p.n)] _
  refine s_cons (s_fld 0 rfl G.ci_project.cl G.na_project_asks (Nat.le_of_ble_eq_true rfl) ?_)
  refine d_tuple G.b_tuple ?_
  refine d_name 12 rfl ?_
  refine d_own 0 rfl ?_
  refine ⟨rfl, ?_⟩
  show WSs _ _ _ [.own pp (.ins ad.project [("names", dNames p.n), ("horizon", nI p.hor), ("machines", dNats p.mach), ("stocks", dNats p.stock), ("modes", dModes p), ("calendars", dCals ad p), ("windows", dWins p), ("families", dFams p), ("lags", dLags p), ("singles", dSingles p), ("crew", dCrew p.crew), ("asks", dAsks p.crew p.n)]), .d (dNames p.n), .d (nI p.hor), .d (dNats p.mach), .d (dNats p.stock), .d (dModes p), .d (dCals ad p), .d (dWins p), .d (dFams p), .d (dLags p), .d (dSingles p), .d (dCrew p.crew), .d (dAsks p.crew p.n), .d (nI p.overhead), .d (dLate p), .d (nI p.n)] _
  refine s_cons (s_fld 0 rfl G.ci_project.cl G.na_project_overhead (Nat.le_of_ble_eq_true rfl) ?_)
  refine d_name 13 rfl ?_
  refine d_own 0 rfl ?_
  refine ⟨rfl, ?_⟩
  show WSs _ _ _ [.own pp (.ins ad.project [("names", dNames p.n), ("horizon", nI p.hor), ("machines", dNats p.mach), ("stocks", dNats p.stock), ("modes", dModes p), ("calendars", dCals ad p), ("windows", dWins p), ("families", dFams p), ("lags", dLags p), ("singles", dSingles p), ("crew", dCrew p.crew), ("asks", dAsks p.crew p.n), ("overhead", nI p.overhead)]), .d (dNames p.n), .d (nI p.hor), .d (dNats p.mach), .d (dNats p.stock), .d (dModes p), .d (dCals ad p), .d (dWins p), .d (dFams p), .d (dLags p), .d (dSingles p), .d (dCrew p.crew), .d (dAsks p.crew p.n), .d (nI p.overhead), .d (dLate p), .d (nI p.n)] _
  refine s_one (s_fld 0 rfl G.ci_project.cl G.na_project_late (Nat.le_of_ble_eq_true rfl) ?_)
  refine d_tuple G.b_tuple ?_
  refine d_name 14 rfl ?_
  refine d_own 0 rfl ?_
  refine ⟨rfl, ?_⟩
  exact ⟨_, rfl, q⟩
end
end DL

/-! DfZm -/
set_option Elab.async false
set_option linter.all false
set_option maxRecDepth 100000
set_option maxHeartbeats 4000000
set_option pp.maxSteps 300
set_option pp.deepTerms false
namespace DL
open PySem PySem.Spec PyProof.Rows L2
open NdefX (NTab TabsN TabN)
open Mth
section
variable {W : Wd} {ad : Ads}
theorem m_Project (G : Gl0 W ad) (L : Gl1 W) : MakK W 9 "Project" ad.project (S_Project___init__ ad) 5 ["calendars", "windows", "families", "lags", "singles", "crew", "asks", "overhead", "late"] (fun ds zs => ds ++ zs) := by
  obtain ⟨f, fd, kws, M, F, hk⟩ := G.mk_project
  obtain ⟨mv, hb⟩ := F.kbinds0 (ps := ["self", "names", "horizon", "machines", "stocks", "modes", "calendars", "windows", "families", "lags", "singles", "crew", "asks", "overhead", "late"]) 6 ["calendars", "windows", "families", "lags", "singles", "crew", "asks", "overhead", "late"] [] (fun vs ms zs => vs ++ zs) hk (by simp) (fun r1 r2 r3 => r1.append r3) fun D doc pm an cdv ct us mv ws hu hmv hws => by
    match us, hu, mv, hmv, ws, hws with
    | [x0, x1, x2, x3, x4, x5], _, [], _, [u0, u1, u2, u3, u4, u5, u6, u7, u8], _ =>
      show bindArgs _ _ = pure _
      kernel_rfl
  exact ⟨f, fd, _, _, _, M, i_Project G L F, G.r_Project, hb, fun md H v vs zs ds es h1 h2 => ⟨vs ++ zs, rfl, h1.app h2⟩⟩

set_option maxHeartbeats 8000000 in
theorem c__law_project (G : Gl0 W ad) (L : Gl1 W) : CalD W 13 "_law_project" (S__law_project ad) [] := by
  refine cal_of (N := ["_law_p"]) (ps := ["_law_p"]) G.d__law_project (by decide +kernel) (fun _ _ _ _ _ _ us hl => match us, hl with | [_], _ => rfl) (fun ds Q hS => by obtain ⟨p, rfl, ok, q⟩ := hS; rfl) fun f cdv A outer s H E md0 ds Q hr hS => ?_
  obtain ⟨p, rfl, ok, q⟩ := hS
  have HN : (["_law_p"] : List Str).Nodup := by decide
  refine s_one (s_ret ?_)
  refine d_makeK (m_Project G L) hr ?_
  refine a_cons ?_
  refine d_dsub hr.u1 ?_ (fun _ _ => rfl)
  refine d_name 0 rfl ?_
  refine d_str ?_
  refine ⟨_, rfl, _, rfl, ?_⟩
  refine a_cons ?_
  refine d_dsub hr.u1 ?_ (fun _ _ => rfl)
  refine d_name 0 rfl ?_
  refine d_str ?_
  refine ⟨_, rfl, _, rfl, ?_⟩
  refine a_cons ?_
  refine d_dsub hr.u1 ?_ (fun _ _ => rfl)
  refine d_name 0 rfl ?_
  refine d_str ?_
  refine ⟨_, rfl, _, rfl, ?_⟩
  refine a_cons ?_
  refine d_dsub hr.u1 ?_ (fun _ _ => rfl)
  refine d_name 0 rfl ?_
  refine d_str ?_
  refine ⟨_, rfl, _, rfl, ?_⟩
  refine a_cons ?_
  refine d_dsub hr.u1 ?_ (fun _ _ => rfl)
  refine d_name 0 rfl ?_
  refine d_str ?_
  refine ⟨_, rfl, _, rfl, ?_⟩
  refine a_nil ?_
  refine k_cons ?_
  refine d_call (c__law_calendars_of G) hr ?_
  refine a_cons ?_
  refine d_name 0 rfl ?_
  refine a_nil ⟨p, rfl, ok, ?_⟩
  refine k_cons ?_
  refine d_dsub hr.u1 ?_ (fun _ _ => rfl)
  refine d_name 0 rfl ?_
  refine d_str ?_
  refine ⟨_, rfl, _, rfl, ?_⟩
  refine k_cons ?_
  refine d_dsub hr.u1 ?_ (fun _ _ => rfl)
  refine d_name 0 rfl ?_
  refine d_str ?_
  refine ⟨_, rfl, _, rfl, ?_⟩
  refine k_cons ?_
  refine d_dsub hr.u1 ?_ (fun _ _ => rfl)
  refine d_name 0 rfl ?_
  refine d_str ?_
  refine ⟨_, rfl, _, rfl, ?_⟩
  refine k_cons ?_
  refine d_dsub hr.u1 ?_ (fun _ _ => rfl)
  refine d_name 0 rfl ?_
  refine d_str ?_
  refine ⟨_, rfl, _, rfl, ?_⟩
  refine k_cons ?_
  refine d_dsub hr.u1 ?_ (fun _ _ => rfl)
  refine d_name 0 rfl ?_
  refine d_str ?_
  refine ⟨_, rfl, _, rfl, ?_⟩
  refine k_cons ?_
  refine d_dsub hr.u1 ?_ (fun _ _ => rfl)
  refine d_name 0 rfl ?_
  refine d_str ?_
  refine ⟨_, rfl, _, rfl, ?_⟩
  refine k_cons ?_
  refine d_dsub hr.u1 ?_ (fun _ _ => rfl)
  refine d_name 0 rfl ?_
  refine d_str ?_
  refine ⟨_, rfl, _, rfl, ?_⟩
  refine k_cons ?_
  refine d_dsub hr.u1 ?_ (fun _ _ => rfl)
  refine d_name 0 rfl ?_
  refine d_str ?_
  refine ⟨_, rfl, _, rfl, ?_⟩
  refine k_nil ⟨rfl, rfl, ⟨p, rfl, ok, q⟩⟩
  
end
end DL

/-! HdC -/
set_option Elab.async false
set_option linter.all false
set_option maxRecDepth 100000
set_option maxHeartbeats 0
set_option pp.maxSteps 300
set_option pp.deepTerms false
namespace DL
open PySem PySem.Spec PyProof.Rows L2
open NdefX (NTab TabsN TabN)
abbrev lawR : PySem.W.OpenLaw := PySem.Challenge.rw_crewlags_k65_whole_starts_that_are_close
theorem lawAt {w : World} {K : PySem.W.Frag} {mg : Str → Option Value} {h : Heap} {f : Addr} (X : K.In h) (G : h.Ns mainGlobals mg) (hm : mg "law" = some (.ref f)) (c : He.SaysX hfa hfn [] htf hex w h K) : LamX.LawAtS lawR w K C8.CX0 16 63 "_law_script" mg f h := by
  obtain ⟨fd, F⟩ := c.t.d.def_ 81 (d := dfn 81) rfl
  have e := hm.symm.trans (He.glo_ok X G (c.t.d.fact 147 (f := .glo "law") rfl))
  cases e
  have F : FunD K "law" "law" (defArgs (top 115)) (defBody (top 115)) (defScope (top 115)) [] [] (He.ga K "law") fd := F
  have b := F.bindsA (ps := ["_law_script"]) fun _ _ _ _ _ _ us hl => match us, hl with | [_], _ => rfl
  have tabs : ∀ p ∈ tabsW K, ∃ q ∈ htf, p.1 = (He.cT K q).2 := fun p hp => by
    have e : (tabsW K).map (·.1) = htf.map fun q => (He.cT K q).2 := rfl
    have : p.1 ∈ (tabsW K).map (·.1) := List.mem_map.mpr ⟨p, hp, rfl⟩
    rw [e] at this
    obtain ⟨q, hq, z⟩ := List.mem_map.mp this
    exact ⟨q, hq, z.symm⟩
  refine ⟨fd, htf.map (He.cT K), spLaw K (tabsW K), fun p hp => ?_, fun p hp => ?_, fun p hp => ?_, fun s u => b s [u] rfl, fun H a ns hl _ hH hS => ⟨a, ns, rfl, hl, hS, fun p hp => ?_, fun _ => rfl⟩, fun base _ _ TB => ?_⟩
  · obtain ⟨q, hq, rfl⟩ := List.mem_map.mp hp
    exact c.empty q hq
  · obtain ⟨q, hq, rfl⟩ := List.mem_map.mp hp
    exact c.out q hq
  · obtain ⟨q, hq, rfl⟩ := List.mem_map.mp hp
    exact PySem.W.codeHd_of_K X (c.hd q hq)
  · obtain ⟨q, hq, e⟩ := tabs p hp
    rw [e]
    exact TabN.nil (hH _ (List.mem_map.mpr ⟨q, hq, rfl⟩))
  · have G0 := gl0_of (P := lawR.prog) (base := base) X G c
    exact f_law (W := wdW lawR.prog w K mg base) G0 (c__law_project G0 (gl1_of (P := lawR.prog) (base := base) X G c fun p hp => TB _ (List.mem_map.mpr ⟨p, hp, rfl⟩))) F
end DL
open PySem PySem.W PySem.Calls PyProof.Rows
theorem PySem.Challenge.cw_crewlags_k65_whole_starts_that_are_close_holds : PySem.Challenge.rw_crewlags_k65_whole_starts_that_are_close.Holds := by
  w_on; o_law
  refine HandSHeadRun.head_any (r := DL.R0) (q := view DL.R0.prog [115]) (H := DL.hkL) (ob := DL.obL) (M := 6000) (loose := DL.hnames) (d := HandSHeadRun.topDef DL.R0.prog 115) (kwd := []) DL.obL_eq
    (by kernel_rfl) (fun s => by kernel_rfl) DL.runL (by kernel_rfl) (by kernel_rfl) (by kernel_rfl) (by rfl) (by first | assumption | decide +kernel) (by decide +kernel) ⟨rfl, rfl, rfl, rfl, rfl, by decide +kernel⟩ ?hw ?hc
  case hw => w_witness2
  case hc =>
    refine LamX.walk_ofTsE (l := PySem.Challenge.rw_crewlags_k65_whole_starts_that_are_close) (n := 63) (k := 16) (x := "_law_script") (CX := fun _ => C8.CX0) rfl (by decide) (by kernel_rfl) ⟨rfl, by decide, by decide⟩ ?F (fun _ _ _ _ _ z => z)
    intro w mg fa h Y G hmg0
    obtain ⟨K, KX, c⟩ := Y
    have hmg : mg ("law" : PySem.Str) = some (.ref fa) := by
      have e : (HandSHeadRun.topDef DL.R0.prog 115).name = ("law" : PySem.Str) := by kernel_rfl
      rw [← e]
      exact hmg0
    exact ⟨K, KX, DL.lawAt KX G hmg c⟩
