import PyProof.Rows.All
import Wide.All
import OpenK.AllK
import Wide.FinOn
import HandS.ForMost
import HandS.ForExc
import HandS.CallSlots
import HandS.Wide
import HandS.Lambda
import PyProof.NeKinds
import HandS.DeepEq
import HandS.TupAny
import HandS.Style
import HandS.IsInst
import HandS.Deep
import HandS.More
import HandS.SortInts
import HandS.SetFor
import HandS.Finally
import HandS.Conv
import HandS.TupMul
import HandS.Keys
import HandS.Remove
import PyProof.Rows.SetFrom
import HandS.SetKeys
import HandS.Strs
import HandS.Zip
import HandS.SetBool
import HandS.WordsDict
import HandS.Small
import KE.GoesNew
import HandS.DictComp
import KE.KDictSum
import HandS.ListItems
import KE.KUnpackStar
import HandS.Defaults
import HandS.MakeKwOnly
import HandS.Text
import HandS.SortRule
import HandS.Flow
import HandS.Iter
import PyProof.Rows.StrInSeq3
import KE.KExcIs
import HandS.ExcIs
import HandS.ExcInit
import PyProof.AutoSeq1
import KE.KDictZip
import HandS.RaiseMore
import HandS.EndTab
import PyProof.ReprRoads
import PySem.Challenge.RW_rolltally_k53_what_cannot_be_dealt
set_option Elab.async false
set_option linter.all false
set_option maxRecDepth 100000
set_option maxHeartbeats 4000000
section
/-! D-layer, part 0: data without addresses, a store of mutable cells, how both lie in the abstract heap. -/
namespace DL
open PySem L2

inductive D where
  | non
  | bl (b : Bool)
  | int (i : Int)
  | str (x : Str)
  | tup (ds : List D)
  | lst (ds : List D)
  | dic (ks : List Key) (ds : List D)
  | obj (c : Str) (ks : List Str) (ds : List D)
  | loc (l : Nat)
  | dct (ks : List (List Key)) (ds : List D)
  | exn (c : Str) (ks : List Str) (ds : List D)
  | tpl (ds : List D)

inductive Cell where
  | lst (ds : List D)
  | dic (kvs : List (Key × D))
  | ins (c : Str) (fs : List (Str × D))
  | dct (kvs : List (List Key × D))

abbrev Store := List Cell
abbrev EnvD := List (Option D)

/-- where the cells lie; what is hidden (a list that a comprehension fills) -/
structure Fi where
  c : List Addr
  h : List Addr
def Fi.out (φ : Fi) (a : Addr) : Prop := a ∉ φ.c ∧ a ∉ φ.h

/-- the written classes -/
structure Glb where
  K : PySem.W.Frag
  ca : Str → Option Addr
  ce : Str → Option Addr
  T : List (Addr × Str)

/-- a caught exception that is kept -/
def ExH (cls : Value) (d : Option Addr) (a : Addr) : HO := .ext fun h => ∃ (oe : Obj) (vs : Array Value), h.get? a = some oe ∧ Zc cls d oe ∧ oe.data = .fields vs
def RdL (G : Glb) (φ : Fi) (H : Hp) (a : Addr) (xs : List V) : Prop := (φ.out a ∧ Rd H a (.lst xs)) ∨
  ∃ (o : Obj) (its : Array Value) (n : Nat), G.K.lookup a = some o ∧ o.cls = .type "list" ∧ o.dict = none ∧ o.data = .seq its n ∧ its.size ≤ sizeLine ∧ Vals xs its.toList
def RdT (G : Glb) (φ : Fi) (H : Hp) (a : Addr) (xs : List V) : Prop := (φ.out a ∧ Rd H a (.tup xs)) ∨
  ∃ (o : Obj) (its : Array Value) (n : Nat), G.K.lookup a = some o ∧ o.cls = .type "tuple" ∧ o.data = .seq its n ∧ its.size ≤ sizeLine ∧ Vals xs its.toList

mutual
def Is (G : Glb) (φ : Fi) (H : Hp) : D → V → Prop
  | .non, v => v = .non
  | .bl b, v => v = .bl b
  | .int i, v => v = .int i
  | .str x, v => v = .str x
  | .tup ds, v => ∃ a xs, v = .ref a ∧ RdT G φ H a xs ∧ IsL G φ H ds xs
  | .lst ds, v => ∃ a xs, v = .ref a ∧ RdL G φ H a xs ∧ IsL G φ H ds xs
  | .dic ks ds, v => ∃ a kvs, v = .ref a ∧ (φ.out a ∧ Rd H a (.dK kvs)) ∧ kvs.map (·.1) = ks ∧ IsL G φ H ds (kvs.map (·.2))
  | .obj c ks ds, v => ∃ a C dx fs, v = .ref a ∧ (φ.out a ∧ H a = some (.ins C dx fs)) ∧ G.ca c = some C ∧ fs.map (·.1) = ks ∧ IsL G φ H ds (fs.map (·.2))
  | .loc l, v => ∃ a, φ.c[l]? = some a ∧ v = .ref a
  | .dct ks ds, v => ∃ a kvs, v = .ref a ∧ (φ.out a ∧ Rd H a (.dT kvs)) ∧ kvs.map (·.1) = ks ∧ IsL G φ H ds (kvs.map (·.2))
  | .exn c ks ds, v => ∃ a C d, v = .ref a ∧ (φ.out a ∧ H a = some (ExH (.ref C) d a)) ∧ G.ce c = some C ∧ ((d = none ∧ ks = [] ∧ ds = []) ∨ ∃ b fs, d = some b ∧ (φ.out b ∧ H b = some (.xd fs)) ∧ fs.map (·.1) = ks ∧ IsL G φ H ds (fs.map (·.2)))
  | .tpl ds, v => ∃ a xs o, v = .ref a ∧ (φ.out a ∧ H a = some (.frz o (.tup xs)) ∧ o.cls = .type "tuple" ∧ o.dict = none) ∧ IsL G φ H ds xs
def IsL (G : Glb) (φ : Fi) (H : Hp) : List D → List V → Prop
  | [], xs => xs = []
  | d :: ds, xs => ∃ x r, xs = x :: r ∧ Is G φ H d x ∧ IsL G φ H ds r
end

/-- the name that the code objects of a table bear -/
class Nm where
  nm : Addr → Str
/-- the names of a law whose defs make no lambdas; of the tables of a list -/
@[reducible] def nm0 : Nm := ⟨fun _ => Str.empty⟩
@[reducible] def nmOf (l : List (Addr × Str)) : Nm := ⟨fun P => (l.lookup P).getD Str.empty⟩
variable [Nm]
/-- a table of code objects: each that it tells bears the name q -/
def TabX (φ : Fi) (H : Hp) (P : Addr) (q : Str) : Prop := q = Nm.nm P ∧ φ.out P ∧ ∃ ps : Array Value, H P = some (.tbl ps) ∧ TriplesOk ps.toList ∧ ∀ (pos : Pos) (cv : Value), codeAmong pos ps.toList = some cv → ∃ c, cv = .ref c ∧ φ.out c ∧ H c = some (LamX.CodeO c q)
/-- a dict -/
def Dt (o : HO) : Prop := (∃ kvs, o = .dK kvs) ∨ ∃ kvs, o = .dT kvs
/-- what a state may become -/
structure Ext (φ : Fi) (H : Hp) (φ' : Fi) (H' : Hp) : Prop where
  pre : ∃ ψ, φ'.c = φ.c ++ ψ ∧ ∀ a ∈ ψ, a ∉ φ.c ∧ H a = none
  hid : φ'.h = φ.h
  keep : ∀ a o, a ∉ φ.c → H a = some o → (H' a = some o ∨ ∃ od, a ∉ φ.h ∧ Dt o ∧ H' a = some (.frz od o)) ∨ ∃ ps ps', a ∉ φ.h ∧ o = .tbl ps ∧ H' a = some (.tbl ps') ∧ ∀ q, TabX φ H a q → TabX φ' H' a q
/-- neither a dict nor a table -/
def Firm (o : HO) : Prop := ¬ Dt o ∧ ∀ ps, o ≠ .tbl ps
theorem firm_ext {p : Heap → Prop} : Firm (.ext p) := ⟨(by rintro (⟨_, z⟩ | ⟨_, z⟩) <;> cases z), (fun _ z => by cases z)⟩

/-- all but dicts stay; a dict may be locked for good -/
theorem Ext.keepE {φ φ' : Fi} {H H' : Hp} (e : Ext φ H φ' H') {a : Addr} {o : HO} (n : a ∉ φ.c) (h : H a = some o) (hd : Firm o := by exact ⟨(by rintro (⟨_, z⟩ | ⟨_, z⟩) <;> cases z), (fun _ z => by cases z)⟩) : H' a = some o :=
  (e.keep a o n h).elim (fun q => q.elim id fun ⟨_, _, z, _⟩ => absurd z hd.1) fun ⟨ps, _, _, z, _⟩ => absurd z (hd.2 ps)
theorem Ext.keepH {φ φ' : Fi} {H H' : Hp} (e : Ext φ H φ' H') {a : Addr} {o : HO} (n : a ∉ φ.c) (h : H a = some o) (hh : a ∈ φ.h) : H' a = some o :=
  (e.keep a o n h).elim (fun q => q.elim id fun ⟨_, z, _⟩ => absurd hh z) fun ⟨_, _, z, _⟩ => absurd hh z
theorem Ext.keepT {φ φ' : Fi} {H H' : Hp} (e : Ext φ H φ' H') {a : Addr} {o : HO} (n : a ∉ φ.c) (h : H a = some o) : ∃ o', H' a = some o' :=
  (e.keep a o n h).elim (fun q => q.elim (fun z => ⟨_, z⟩) fun ⟨_, _, _, z⟩ => ⟨_, z⟩) fun ⟨_, _, _, _, z, _⟩ => ⟨_, z⟩
theorem Ext.refl {φ : Fi} {H : Hp} : Ext φ H φ H := ⟨⟨[], by simp, fun _ h => by simp at h⟩, rfl, fun _ _ _ h => .inl (.inl h)⟩
theorem Ext.outc {φ φ' : Fi} {H H' : Hp} (e : Ext φ H φ' H') {a : Addr} {o : HO} (n : a ∉ φ.c) (h : H a = some o) : a ∉ φ'.c := by
  obtain ⟨ψ, e1, p⟩ := e.pre
  rw [e1]
  intro q
  rcases List.mem_append.mp q with q | q
  · exact n q
  · have z := (p a q).2
    rw [h] at z; cases z
theorem Ext.out {φ φ' : Fi} {H H' : Hp} (e : Ext φ H φ' H') {a : Addr} {o : HO} (n : φ.out a) (h : H a = some o) : φ'.out a :=
  ⟨e.outc n.1 h, by rw [e.hid]; exact n.2⟩
theorem Ext.tab {φ φ' : Fi} {H H' : Hp} (e : Ext φ H φ' H') {P : Addr} {q : Str} (t : TabX φ H P q) : TabX φ' H' P q := by
  obtain ⟨nq, n, ps, h, ht, ha⟩ := id t
  rcases e.keep P _ n.1 h with (z | ⟨od, _, z, _⟩) | ⟨_, _, _, _, _, z⟩
  · refine ⟨nq, e.out n h, ps, z, ht, fun pos cv hc => ?_⟩
    obtain ⟨c, e1, n1, e2⟩ := ha pos cv hc
    exact ⟨c, e1, e.out n1 e2, e.keepE n1.1 e2 firm_ext⟩
  · rcases z with ⟨_, z⟩ | ⟨_, z⟩ <;> cases z
  · exact z q t
theorem TabX.mono {φ φ' : Fi} {H : Hp} {P : Addr} {q : Str} (no : ∀ a, φ.out a → φ'.out a) (t : TabX φ H P q) : TabX φ' H P q := by
  obtain ⟨nq, n, ps, h, ht, ha⟩ := t
  refine ⟨nq, no _ n, ps, h, ht, fun pos cv hc => ?_⟩
  obtain ⟨c, e1, n1, e2⟩ := ha pos cv hc
  exact ⟨c, e1, no _ n1, e2⟩
/-- what stays, told of fewer cells or hidden things -/
theorem Ext.keepTo {φ φ1 φ2 : Fi} {H H' : Hp} (e : Ext φ H φ1 H') (no : ∀ a, φ1.out a → φ2.out a) : ∀ a o, a ∉ φ.c → H a = some o → (H' a = some o ∨ ∃ od, a ∉ φ.h ∧ Dt o ∧ H' a = some (.frz od o)) ∨ ∃ ps ps', a ∉ φ.h ∧ o = .tbl ps ∧ H' a = some (.tbl ps') ∧ ∀ q, TabX φ H a q → TabX φ2 H' a q :=
  fun a o n h => (e.keep a o n h).imp id fun ⟨ps, ps', z1, z2, z3, z4⟩ => ⟨ps, ps', z1, z2, z3, fun q t => (z4 q t).mono no⟩
theorem Ext.trans {φ φ1 φ2 : Fi} {H H1 H2 : Hp} (a : Ext φ H φ1 H1) (b : Ext φ1 H1 φ2 H2) : Ext φ H φ2 H2 := by
  refine ⟨?_, b.hid.trans a.hid, fun c o n h => ?_⟩
  case refine_2 =>
    rcases a.keep c o n h with (q | ⟨od, nh, z, q⟩) | ⟨ps, ps', nh, z, q, t⟩
    · rw [← a.hid]
      rcases b.keep c o (a.outc n h) q with z | ⟨ps, ps', nh, z, q2, t⟩
      · exact .inl z
      · refine .inr ⟨ps, ps', nh, z, q2, fun q' t' => t q' (a.tab t')⟩
    · exact .inl (.inr ⟨od, nh, z, b.keepE (a.outc n h) q⟩)
    · have nc : c ∉ φ1.c := a.outc n h
      rcases b.keep c _ nc q with (q2 | ⟨od, _, z2, _⟩) | ⟨ps1, ps2, nh2, z2, q2, t2⟩
      · exact .inr ⟨ps, ps', nh, z, q2, fun q' t' => b.tab (t q' t')⟩
      · rcases z2 with ⟨_, z2⟩ | ⟨_, z2⟩ <;> cases z2
      · exact .inr ⟨ps, ps2, nh, z, q2, fun q' t' => b.tab (t q' t')⟩
  obtain ⟨ψ, e1, p⟩ := a.pre
  obtain ⟨χ, e2, q⟩ := b.pre
  refine ⟨ψ ++ χ, by rw [e2, e1, List.append_assoc], fun c hc => ?_⟩
  rcases List.mem_append.mp hc with hc | hc
  · exact p c hc
  · obtain ⟨n1, n2⟩ := q c hc
    have nφ : c ∉ φ.c := fun z => n1 (by rw [e1]; exact List.mem_append_left _ z)
    refine ⟨nφ, ?_⟩
    cases hq : H c with
    | none => rfl
    | some o => obtain ⟨o', q⟩ := a.keepT nφ hq; rw [q] at n2; cases n2
theorem Ext.get {φ φ' : Fi} {H H' : Hp} (e : Ext φ H φ' H') {l : Nat} {a : Addr} (h : φ.c[l]? = some a) : φ'.c[l]? = some a := by
  obtain ⟨ψ, e1, _⟩ := e.pre
  rw [e1, List.getElem?_append_left (List.getElem?_eq_some_iff.mp h).1]; exact h
theorem Ext.rd {φ φ' : Fi} {H H' : Hp} (e : Ext φ H φ' H') {a : Addr} {u : HO} (n : φ.out a) (h : Rd H a u) (hu : ∀ ps, u ≠ .tbl ps := by exact fun _ z => by cases z) : φ'.out a ∧ Rd H' a u := by
  rcases h with h | ⟨o, h⟩
  · refine ⟨e.out n h, ?_⟩
    rcases e.keep _ _ n.1 h with (q | ⟨od, _, _, q⟩) | ⟨ps, ps', _, rfl, q, _⟩
    · exact .inl q
    · exact .inr ⟨od, q⟩
    · exact absurd rfl (hu ps)
  · exact ⟨e.out n h, .inr ⟨o, e.keepE n.1 h⟩⟩

/-- on from a state with more that is hidden -/
theorem Ext.transL {φ1 φ2 φ3 : Fi} {H1 H2 H3 : Hp} (a : Ext φ1 H1 ⟨φ2.c, φ1.h⟩ H2) (ta : ∀ P q, TabX φ1 H1 P q → TabX φ2 H2 P q) (hh : ∀ x ∈ φ1.h, x ∈ φ2.h) (e : Ext φ2 H2 φ3 H3) : Ext φ1 H1 ⟨φ3.c, φ1.h⟩ H3 := by
  have hh3 : ∀ x, φ3.out x → (Fi.mk φ3.c φ1.h).out x := fun x n => ⟨n.1, fun m => n.2 (by rw [e.hid]; exact hh _ m)⟩
  have tb : ∀ P q, TabX φ1 H1 P q → TabX ⟨φ3.c, φ1.h⟩ H3 P q := fun P q t => (e.tab (ta P q t)).mono hh3
  refine ⟨?_, rfl, fun x o n h => ?_⟩
  · obtain ⟨ψ, e1, p⟩ := a.pre
    obtain ⟨χ, e2, q⟩ := e.pre
    have e1' : φ2.c = φ1.c ++ ψ := e1
    refine ⟨ψ ++ χ, by show φ3.c = _; rw [e2, e1', List.append_assoc], fun c hc => ?_⟩
    rcases List.mem_append.mp hc with hc | hc
    · exact p c hc
    · obtain ⟨n1, n2⟩ := q c hc
      have nφ : c ∉ φ1.c := fun z => n1 (by rw [e1']; exact List.mem_append_left _ z)
      refine ⟨nφ, ?_⟩
      cases hq : H1 c with
      | none => rfl
      | some o => obtain ⟨o', q⟩ := a.keepT nφ hq; rw [q] at n2; cases n2
  · have nc : x ∉ φ2.c := a.outc n h
    rcases a.keep x o n h with (q | ⟨od, nh, z, q⟩) | ⟨ps, ps', nh, z, q, _⟩
    · rcases e.keep x o nc q with (z | ⟨od, nh, z, q2⟩) | ⟨ps, ps', nh, z, q2, _⟩
      · exact .inl (.inl z)
      · exact .inl (.inr ⟨od, fun m => nh (hh _ m), z, q2⟩)
      · exact .inr ⟨ps, ps', fun m => nh (hh _ m), z, q2, fun q' t' => tb _ _ t'⟩
    · exact .inl (.inr ⟨od, nh, z, e.keepE nc q⟩)
    · rcases e.keep x _ nc q with (q2 | ⟨od, _, z2, _⟩) | ⟨ps1, ps2, nh2, z2, q2, _⟩
      · exact .inr ⟨ps, ps', nh, z, q2, fun q' t' => tb _ _ t'⟩
      · rcases z2 with ⟨_, z2⟩ | ⟨_, z2⟩ <;> cases z2
      · exact .inr ⟨ps, ps2, nh, z, q2, fun q' t' => tb _ _ t'⟩
/-- how readings are kept -/
structure Kept (φ : Fi) (H : Hp) (φ' : Fi) (H' : Hp) : Prop where
  get : ∀ (l : Nat) (a : Addr), φ.c[l]? = some a → φ'.c[l]? = some a
  rd : ∀ a u, φ.out a → Rd H a u → (hu : ∀ ps, u ≠ .tbl ps := by exact fun _ z => by cases z) → φ'.out a ∧ Rd H' a u
  ins : ∀ a C dx fs, φ.out a → H a = some (.ins C dx fs) → φ'.out a ∧ H' a = some (.ins C dx fs)
  frz : ∀ a o u, φ.out a → H a = some (.frz o u) → φ'.out a ∧ H' a = some (.frz o u)
  ext : ∀ a p, φ.out a → H a = some (.ext p) → φ'.out a ∧ H' a = some (.ext p)
  xd : ∀ a fs, φ.out a → H a = some (.xd fs) → φ'.out a ∧ H' a = some (.xd fs)
  tab : ∀ P q, TabX φ H P q → TabX φ' H' P q
theorem Ext.kept {φ φ' : Fi} {H H' : Hp} (e : Ext φ H φ' H') : Kept φ H φ' H' :=
  ⟨fun _ _ => e.get, fun _ _ n h hu => e.rd n h hu, fun _ _ _ _ n h => ⟨e.out n h, e.keepE n.1 h⟩, fun _ _ _ n h => ⟨e.out n h, e.keepE n.1 h⟩, fun _ _ n h => ⟨e.out n h, e.keepE n.1 h⟩, fun _ _ n h => ⟨e.out n h, e.keepE n.1 h⟩, fun _ _ t => e.tab t⟩

section
variable {G : Glb} {φ φ' : Fi} {H H' : Hp}
theorem RdL.kept (k : Kept φ H φ' H') {a : Addr} {xs : List V} (h : RdL G φ H a xs) : RdL G φ' H' a xs := by
  rcases h with ⟨n, h⟩ | h
  · exact .inl (k.rd _ _ n h)
  · exact .inr h
theorem RdT.kept (k : Kept φ H φ' H') {a : Addr} {xs : List V} (h : RdT G φ H a xs) : RdT G φ' H' a xs := by
  rcases h with ⟨n, h⟩ | h
  · exact .inl (k.rd _ _ n h)
  · exact .inr h
mutual
theorem Is.kept (k : Kept φ H φ' H') : ∀ {d : D} {v : V}, Is G φ H d v → Is G φ' H' d v
  | .non, v, h => h
  | .bl b, v, h => h
  | .int i, v, h => h
  | .str x, v, h => h
  | .tup ds, v, h => by
    obtain ⟨a, xs, e, r, q⟩ := h
    exact ⟨a, xs, e, r.kept k, IsL.kept k q⟩
  | .lst ds, v, h => by
    obtain ⟨a, xs, e, r, q⟩ := h
    exact ⟨a, xs, e, r.kept k, IsL.kept k q⟩
  | .dic ks ds, v, h => by
    obtain ⟨a, kvs, e, ⟨n, r⟩, z, q⟩ := h
    exact ⟨a, kvs, e, k.rd _ _ n r, z, IsL.kept k q⟩
  | .obj c ks ds, v, h => by
    obtain ⟨a, C, dx, fs, e, ⟨n, r⟩, c, z, q⟩ := h
    exact ⟨a, C, dx, fs, e, k.ins _ _ _ _ n r, c, z, IsL.kept k q⟩
  | .loc l, v, h => by
    obtain ⟨a, p, e⟩ := h
    exact ⟨a, k.get _ _ p, e⟩
  | .dct ks ds, v, h => by
    obtain ⟨a, kvs, e, ⟨n, r⟩, z, q⟩ := h
    exact ⟨a, kvs, e, k.rd _ _ n r, z, IsL.kept k q⟩
  | .exn c ks ds, v, h => by
    obtain ⟨a, C, d, e, ⟨n, r⟩, c, z⟩ := h
    refine ⟨a, C, d, e, k.ext _ _ n r, c, ?_⟩
    rcases z with z | ⟨b, fs, e1, ⟨n1, r1⟩, e2, q⟩
    · exact .inl z
    · exact .inr ⟨b, fs, e1, k.xd _ _ n1 r1, e2, IsL.kept k q⟩
  | .tpl ds, v, h => by
    obtain ⟨a, xs, o, e, ⟨n, r, r2⟩, q⟩ := h
    have z := k.frz _ _ _ n r
    exact ⟨a, xs, o, e, ⟨z.1, z.2, r2⟩, IsL.kept k q⟩
theorem IsL.kept (k : Kept φ H φ' H') : ∀ {ds : List D} {xs : List V}, IsL G φ H ds xs → IsL G φ' H' ds xs
  | [], xs, h => h
  | d :: ds, xs, h => by
    obtain ⟨x, r, e, p, q⟩ := h
    exact ⟨x, r, e, Is.kept k p, IsL.kept k q⟩
end
theorem Is.ext (e : Ext φ H φ' H') {d : D} {v : V} (h : Is G φ H d v) : Is G φ' H' d v := Is.kept e.kept h
theorem IsL.ext (e : Ext φ H φ' H') {ds : List D} {xs : List V} (h : IsL G φ H ds xs) : IsL G φ' H' ds xs := IsL.kept e.kept h
theorem RdL.seq {a : Addr} {xs : List V} (h : RdL G φ H a xs) : SqL G.K H a xs := by
  rcases h with ⟨_, h⟩ | h
  · exact .inl h
  · exact .inr h
theorem RdT.seq {a : Addr} {xs : List V} (h : RdT G φ H a xs) : SqT G.K H a xs := by
  rcases h with ⟨_, h⟩ | h
  · exact .inl h
  · exact .inr h
theorem IsL.length : ∀ {ds : List D} {xs : List V}, IsL G φ H ds xs → ds.length = xs.length
  | [], xs, h => by cases (show xs = [] from h); rfl
  | d :: ds, xs, h => by
    obtain ⟨x, r, rfl, _, q⟩ := h
    simp [IsL.length q]
theorem IsL.get : ∀ {ds : List D} {xs : List V} {i : Nat} {d : D}, IsL G φ H ds xs → ds[i]? = some d → ∃ x, xs[i]? = some x ∧ Is G φ H d x
  | [], _, _, _, _, e => by simp at e
  | d :: ds, xs, 0, d', h, e => by
    obtain ⟨x, r, rfl, p, q⟩ := h
    simp at e; subst e
    exact ⟨x, rfl, p⟩
  | d :: ds, xs, i + 1, d', h, e => by
    obtain ⟨x, r, rfl, p, q⟩ := h
    simpa using IsL.get q (by simpa using e)
theorem IsL.append : ∀ {ds es : List D} {xs ys : List V}, IsL G φ H ds xs → IsL G φ H es ys → IsL G φ H (ds ++ es) (xs ++ ys)
  | [], es, xs, ys, h, k => by cases (show xs = [] from h); exact k
  | d :: ds, es, xs, ys, h, k => by
    obtain ⟨x, r, rfl, p, q⟩ := h
    exact ⟨x, r ++ ys, rfl, p, IsL.append q k⟩
theorem IsL.set : ∀ {ds : List D} {xs : List V} {d : D} {x : V} (i : Nat), IsL G φ H ds xs → Is G φ H d x → IsL G φ H (ds.set i d) (xs.set i x)
  | [], xs, _, _, _, h, _ => by cases (show xs = [] from h); exact rfl
  | _ :: _, xs, d', x', 0, h, k => by
    obtain ⟨x, r, rfl, p, q⟩ := h
    exact ⟨x', r, rfl, k, q⟩
  | _ :: _, xs, d', x', i + 1, h, k => by
    obtain ⟨x, r, rfl, p, q⟩ := h
    exact ⟨x, _, rfl, p, IsL.set i q k⟩
theorem IsL.take : ∀ {ds : List D} {xs : List V} (n : Nat), IsL G φ H ds xs → IsL G φ H (ds.take n) (xs.take n)
  | _, _, 0, _ => by simp [IsL]
  | [], xs, n + 1, h => by cases (show xs = [] from h); exact rfl
  | _ :: _, xs, n + 1, h => by
    obtain ⟨x, r, rfl, p, q⟩ := h
    exact ⟨x, _, rfl, p, IsL.take n q⟩
theorem IsL.drop : ∀ {ds : List D} {xs : List V} (n : Nat), IsL G φ H ds xs → IsL G φ H (ds.drop n) (xs.drop n)
  | _, _, 0, h => h
  | [], xs, n + 1, h => by cases (show xs = [] from h); exact rfl
  | _ :: _, xs, n + 1, h => by
    obtain ⟨x, r, rfl, p, q⟩ := h
    exact IsL.drop n q
theorem IsL.one {d : D} {x : V} (h : Is G φ H d x) : IsL G φ H [d] [x] := ⟨x, [], rfl, h, rfl⟩
theorem IsL.cons {d : D} {x : V} {ds : List D} {xs : List V} (h : Is G φ H d x) (k : IsL G φ H ds xs) : IsL G φ H (d :: ds) (x :: xs) := ⟨x, xs, rfl, h, k⟩
theorem IsL.reverse : ∀ {ds : List D} {xs : List V}, IsL G φ H ds xs → IsL G φ H ds.reverse xs.reverse
  | [], xs, h => by cases (show xs = [] from h); exact rfl
  | d :: ds, xs, h => by
    obtain ⟨x, r, rfl, p, q⟩ := h
    rw [List.reverse_cons, List.reverse_cons]
    exact IsL.append (IsL.reverse q) (.one p)
theorem IsL.ints : ∀ {ns : List Int} {xs : List V}, IsL G φ H (ns.map D.int) xs → xs = ns.map V.int
  | [], xs, h => h
  | n :: ns, xs, h => by
    obtain ⟨x, r, rfl, p, q⟩ := h
    rw [IsL.ints q, show x = V.int n from p]; rfl
theorem IsL.of_ints : ∀ {ns : List Int}, IsL G φ H (ns.map D.int) (ns.map V.int)
  | [] => rfl
  | n :: ns => ⟨_, _, rfl, rfl, IsL.of_ints⟩
theorem IsL.bls : ∀ {ns : List Bool} {xs : List V}, IsL G φ H (ns.map D.bl) xs → xs = ns.map V.bl
  | [], xs, h => h
  | n :: ns, xs, h => by
    obtain ⟨x, r, rfl, p, q⟩ := h
    rw [IsL.bls q, show x = V.bl n from p]; rfl
end

/-- a cell as it lies at its address -/
def CellOk (G : Glb) (φ : Fi) (H : Hp) (a : Addr) : Cell → Prop
  | .lst ds => ∃ xs, H a = some (.lst xs) ∧ IsL G φ H ds xs
  | .dic kvs => ∃ ws, H a = some (.dK ws) ∧ ws.map (·.1) = kvs.map (·.1) ∧ IsL G φ H (kvs.map (·.2)) (ws.map (·.2))
  | .dct kvs => ∃ ws, H a = some (.dT ws) ∧ ws.map (·.1) = kvs.map (·.1) ∧ IsL G φ H (kvs.map (·.2)) (ws.map (·.2))
  | .ins c fs => ∃ C dx ws, G.ca c = some C ∧ H a = some (.ins C dx ws) ∧ ws.map (·.1) = fs.map (·.1) ∧ IsL G φ H (fs.map (·.2)) (ws.map (·.2))
/-- no tuple, locked or not -/
def NoTup : HO → Prop
  | .tup _ => False
  | .frz _ (.tup _) => False
  | _ => True
structure SOk (G : Glb) (φ : Fi) (S : Store) (H : Hp) : Prop where
  len : φ.c.length = S.length
  nd : φ.c.Nodup
  hid : ∀ a ∈ φ.h, a ∉ φ.c ∧ ∃ o, H a = some o ∧ NoTup o
  cell : ∀ (l : Nat) (c : Cell), S[l]? = some c → ∃ a, φ.c[l]? = some a ∧ CellOk G φ H a c
  tab : ∀ p ∈ G.T, TabX φ H p.1 p.2

section
variable {G : Glb} {φ φ' : Fi} {H H' : Hp} {S : Store}
theorem CellOk.some {a : Addr} {c : Cell} (h : CellOk G φ H a c) : ∃ o, H a = some o := by
  cases c with
  | lst ds => obtain ⟨xs, h, _⟩ := h; exact ⟨_, h⟩
  | dic kvs => obtain ⟨xs, h, _⟩ := h; exact ⟨_, h⟩
  | ins c fs => obtain ⟨C, dx, ws, _, h, _⟩ := h; exact ⟨_, h⟩
  | dct kvs => obtain ⟨xs, h, _⟩ := h; exact ⟨_, h⟩
theorem CellOk.move {a : Addr} {c : Cell} (k : Kept φ H φ' H') (e : H' a = H a) (h : CellOk G φ H a c) : CellOk G φ' H' a c := by
  cases c with
  | lst ds => obtain ⟨xs, h, q⟩ := h; exact ⟨xs, by rw [e]; exact h, q.kept k⟩
  | dic kvs => obtain ⟨xs, h, z, q⟩ := h; exact ⟨xs, by rw [e]; exact h, z, q.kept k⟩
  | ins c fs => obtain ⟨C, dx, ws, z, h, y, q⟩ := h; exact ⟨C, dx, ws, z, by rw [e]; exact h, y, q.kept k⟩
  | dct kvs => obtain ⟨xs, h, z, q⟩ := h; exact ⟨xs, by rw [e]; exact h, z, q.kept k⟩
theorem SOk.there (s : SOk G φ S H) {a : Addr} (h : a ∈ φ.c) : ∃ o, H a = some o := by
  obtain ⟨l, hl, e⟩ := List.getElem_of_mem h
  have hS : l < S.length := by rw [← s.len]; exact hl
  obtain ⟨b, hb, c⟩ := s.cell l S[l] (List.getElem?_eq_getElem hS)
  rw [List.getElem?_eq_getElem hl, e] at hb
  cases hb
  exact c.some
theorem SOk.freshc (s : SOk G φ S H) {a : Addr} (h : H a = none) : a ∉ φ.c := fun q => by
  obtain ⟨o, e⟩ := s.there q
  rw [h] at e; cases e
theorem SOk.freshh (s : SOk G φ S H) {a : Addr} (h : H a = none) : a ∉ φ.h := fun q => by
  obtain ⟨_, o, e, _⟩ := s.hid a q
  rw [h] at e; cases e
theorem SOk.fresh (s : SOk G φ S H) {a : Addr} (h : H a = none) : φ.out a := ⟨s.freshc h, s.freshh h⟩
/-- a new object that is not of the store -/
theorem Ext.laid {a : Addr} {o : HO} (h : H a = none) : Ext φ H φ (upd H a o) :=
  ⟨⟨[], by simp, fun _ q => by simp at q⟩, rfl, fun b u _ e => .inl (.inl (by rw [upd_ne (ne_of_none e h)]; exact e))⟩
theorem Ext.keepN (e : Ext φ H φ' H') {a : Addr} (n : a ∉ φ.c) (h : ∃ o, H a = some o ∧ NoTup o) : ∃ o, H' a = some o ∧ NoTup o := by
  obtain ⟨o, h, t⟩ := h
  rcases e.keep a o n h with (z | ⟨od, _, dt, z⟩) | ⟨_, _, _, _, z, _⟩
  · exact ⟨o, z, t⟩
  · refine ⟨_, z, ?_⟩
    rcases dt with ⟨_, rfl⟩ | ⟨_, rfl⟩ <;> exact trivial
  · exact ⟨_, z, trivial⟩
theorem SOk.step (s : SOk G φ S H) (e : Ext φ H φ H') (k : ∀ a ∈ φ.c, H' a = H a) : SOk G φ S H' :=
  ⟨s.len, s.nd, fun a ha => let ⟨n, q⟩ := s.hid a ha; ⟨n, e.keepN n q⟩, fun l c h => by
    obtain ⟨a, ha, hc⟩ := s.cell l c h
    exact ⟨a, ha, hc.move e.kept (k a (List.mem_of_getElem? ha))⟩, fun p hp => e.tab (s.tab p hp)⟩
theorem SOk.laid (s : SOk G φ S H) {a : Addr} {o : HO} (h : H a = none) : SOk G φ S (upd H a o) :=
  s.step (.laid h) fun b hb => upd_ne fun q => by subst q; exact s.freshc h hb
/-- a new cell -/
def Fi.add (φ : Fi) (a : Addr) : Fi := ⟨φ.c ++ [a], φ.h⟩
theorem Ext.newCell {a : Addr} {o : HO} (s : SOk G φ S H) (h : H a = none) : Ext φ H (φ.add a) (upd H a o) :=
  ⟨⟨[a], rfl, fun b hb => by simp at hb; subst hb; exact ⟨s.freshc h, h⟩⟩, rfl, fun b u _ e => .inl (.inl (by rw [upd_ne (ne_of_none e h)]; exact e))⟩
theorem SOk.newCell (s : SOk G φ S H) {a : Addr} {o : HO} {c : Cell} (h : H a = none) (hc : CellOk G (φ.add a) (upd H a o) a c) : SOk G (φ.add a) (S ++ [c]) (upd H a o) := by
  refine ⟨by simp [Fi.add, s.len], ?_, fun b hb => ?_, fun l d hl => ?_, fun p hp => (Ext.newCell s h).tab (s.tab p hp)⟩
  · refine List.nodup_append.mpr ⟨s.nd, by simp, fun x hx y hy => ?_⟩
    simp at hy; subst hy
    intro e; subst e; exact s.freshc h hx
  · obtain ⟨n, u, e, t⟩ := s.hid b hb
    have nb : b ≠ a := ne_of_none e h
    exact ⟨fun z => (List.mem_append.mp z).elim n fun z => nb (by simpa using z), u, by rw [upd_ne nb]; exact e, t⟩
  · by_cases q : l < S.length
    · rw [List.getElem?_append_left q] at hl
      obtain ⟨b, hb, kb⟩ := s.cell l d hl
      refine ⟨b, (Ext.newCell (o := o) s h).get hb, kb.move (Ext.newCell (o := o) s h).kept (upd_ne fun z => ?_)⟩
      subst z; exact s.freshc h (List.mem_of_getElem? hb)
    · rw [List.getElem?_append_right (Nat.le_of_not_lt q)] at hl
      have e : l = S.length := by
        have := (List.getElem?_eq_some_iff.mp hl).1
        simp at this; omega
      subst e
      simp at hl; subst hl
      exact ⟨a, by rw [← s.len]; simp [Fi.add], hc⟩
/-- a cell is written -/
theorem Ext.put {a : Addr} {o : HO} (h : a ∈ φ.c) : Ext φ H φ (upd H a o) :=
  ⟨⟨[], by simp, fun _ q => by simp at q⟩, rfl, fun b u n e => .inl (.inl (by rw [upd_ne (fun z => n (by rw [z]; exact h))]; exact e))⟩
theorem SOk.put (s : SOk G φ S H) {l : Nat} {a : Addr} {o : HO} {c : Cell} (ha : φ.c[l]? = some a) (hc : CellOk G φ (upd H a o) a c) : SOk G φ (S.set l c) (upd H a o) := by
  have hl : l < S.length := by rw [← s.len]; exact (List.getElem?_eq_some_iff.mp ha).1
  refine ⟨by simp [s.len], s.nd, fun b hb => ?_, fun i d hd => ?_, fun p hp => (Ext.put (List.mem_of_getElem? ha)).tab (s.tab p hp)⟩
  · obtain ⟨n, u, e, t⟩ := s.hid b hb
    exact ⟨n, u, by rw [upd_ne (fun z => n (by rw [z]; exact List.mem_of_getElem? ha))]; exact e, t⟩
  · by_cases q : i = l
    · subst q
      rw [List.getElem?_set_self hl] at hd
      cases hd
      exact ⟨a, ha, hc⟩
    · rw [List.getElem?_set_ne (fun z => q z.symm)] at hd
      obtain ⟨b, hb, kb⟩ := s.cell i d hd
      refine ⟨b, hb, kb.move (Ext.put (List.mem_of_getElem? ha)).kept (upd_ne fun z => ?_)⟩
      subst z
      exact q (nd_ix s.nd hb ha)
theorem SOk.at_ (s : SOk G φ S H) {l : Nat} {c : Cell} {a : Addr} (h : S[l]? = some c) (ha : φ.c[l]? = some a) : CellOk G φ H a c := by
  obtain ⟨b, hb, k⟩ := s.cell l c h
  rw [ha] at hb; cases hb; exact k
/-- a hidden object -/
def Fi.hide (φ : Fi) (a : Addr) : Fi := ⟨φ.c, a :: φ.h⟩
theorem Kept.hide {a : Addr} {o : HO} (h : H a = none) : Kept φ H (φ.hide a) (upd H a o) := by
  have no : ∀ {b : Addr} {u : HO}, φ.out b → Rd H b u → (φ.hide a).out b := fun {b u} n r => ⟨n.1, fun q => (List.mem_cons.mp q).elim (fun z => by
    subst z
    rcases r with r | ⟨_, r⟩ <;> rw [h] at r <;> cases r) n.2⟩
  refine ⟨fun _ _ q => q, fun b u n r _ => ⟨no n r, ?_⟩, fun b C dx fs n r => ⟨no (u := .ins C dx fs) n (.inl r), ?_⟩, fun b o u n r => ⟨no (u := .frz o u) n (.inl r), ?_⟩, fun b p n r => ⟨no (u := .ext p) n (.inl r), ?_⟩, fun b p n r => ⟨no (u := .xd p) n (.inl r), ?_⟩, fun P q t => ?_⟩
  · rcases r with r | ⟨w, r⟩
    · exact .inl (by rw [upd_ne (ne_of_none r h)]; exact r)
    · exact .inr ⟨w, by rw [upd_ne (ne_of_none r h)]; exact r⟩
  · rw [upd_ne (ne_of_none r h)]; exact r
  · rw [upd_ne (ne_of_none r h)]; exact r
  · rw [upd_ne (ne_of_none r h)]; exact r
  · rw [upd_ne (ne_of_none r h)]; exact r
  · obtain ⟨nq, n, ps, r, ht, ha⟩ := t
    refine ⟨nq, no (u := .tbl ps) n (.inl r), ps, by rw [upd_ne (ne_of_none r h)]; exact r, ht, fun pos cv hc => ?_⟩
    obtain ⟨c, e1, n1, e2⟩ := ha pos cv hc
    exact ⟨c, e1, no (u := LamX.CodeO c q) n1 (.inl e2), by rw [upd_ne (ne_of_none e2 h)]; exact e2⟩
theorem Kept.show_ {a : Addr} : Kept (φ.hide a) H φ H :=
  ⟨fun _ _ q => q, fun b u n r _ => ⟨⟨n.1, fun z => n.2 (List.mem_cons_of_mem _ z)⟩, r⟩, fun b C dx fs n r => ⟨⟨n.1, fun z => n.2 (List.mem_cons_of_mem _ z)⟩, r⟩, fun b o u n r => ⟨⟨n.1, fun z => n.2 (List.mem_cons_of_mem _ z)⟩, r⟩, fun b p n r => ⟨⟨n.1, fun z => n.2 (List.mem_cons_of_mem _ z)⟩, r⟩, fun b p n r => ⟨⟨n.1, fun z => n.2 (List.mem_cons_of_mem _ z)⟩, r⟩, fun P q ⟨nq, n, ps, r, ht, ha⟩ => ⟨nq, ⟨n.1, fun z => n.2 (List.mem_cons_of_mem _ z)⟩, ps, r, ht, fun pos cv hc => let ⟨c, e1, n1, e2⟩ := ha pos cv hc; ⟨c, e1, ⟨n1.1, fun z => n1.2 (List.mem_cons_of_mem _ z)⟩, e2⟩⟩⟩
/-- the hidden object changes -/
theorem Kept.hidden {a : Addr} {o : HO} (hm : a ∈ φ.h) : Kept φ H φ (upd H a o) := by
  have nb : ∀ {b : Addr}, φ.out b → b ≠ a := fun n z => n.2 (by rw [z]; exact hm)
  refine ⟨fun _ _ q => q, fun b u n r _ => ⟨n, ?_⟩, fun b C dx fs n r => ⟨n, by rw [upd_ne (nb n)]; exact r⟩, fun b o u n r => ⟨n, by rw [upd_ne (nb n)]; exact r⟩, fun b p n r => ⟨n, by rw [upd_ne (nb n)]; exact r⟩, fun b p n r => ⟨n, by rw [upd_ne (nb n)]; exact r⟩, fun P q ⟨nq, n, ps, r, ht, ha⟩ => ⟨nq, n, ps, by rw [upd_ne (nb n)]; exact r, ht, fun pos cv hc => let ⟨c, e1, n1, e2⟩ := ha pos cv hc; ⟨c, e1, n1, by rw [upd_ne (nb n1)]; exact e2⟩⟩⟩
  rcases r with r | ⟨w, r⟩
  · exact .inl (by rw [upd_ne (nb n)]; exact r)
  · exact .inr ⟨w, by rw [upd_ne (nb n)]; exact r⟩
theorem SOk.hide (s : SOk G φ S H) {a : Addr} {o : HO} (h : H a = none) (ho : NoTup o := by exact trivial) : SOk G (φ.hide a) S (upd H a o) := by
  refine ⟨s.len, s.nd, fun b hb => ?_, fun l c hl => ?_, fun p hp => (Kept.hide h).tab _ _ (s.tab p hp)⟩
  · rcases List.mem_cons.mp hb with rfl | hb
    · exact ⟨s.freshc h, o, upd_same, ho⟩
    · obtain ⟨n, u, e, t⟩ := s.hid b hb
      exact ⟨n, u, by rw [upd_ne (ne_of_none e h)]; exact e, t⟩
  · obtain ⟨b, hb, kb⟩ := s.cell l c hl
    exact ⟨b, hb, kb.move (Kept.hide h) (upd_ne fun z => by subst z; exact s.freshc h (List.mem_of_getElem? hb))⟩
theorem SOk.show_ {a : Addr} (s : SOk G (φ.hide a) S H) : SOk G φ S H :=
  ⟨s.len, s.nd, fun b hb => s.hid b (List.mem_cons_of_mem _ hb), fun l c hl => let ⟨b, hb, kb⟩ := s.cell l c hl; ⟨b, hb, kb.move Kept.show_ rfl⟩, fun p hp => Kept.show_.tab _ _ (s.tab p hp)⟩
theorem SOk.hidden (s : SOk G φ S H) {a : Addr} {o : HO} (hm : a ∈ φ.h) (ho : NoTup o := by exact trivial) : SOk G φ S (upd H a o) := by
  refine ⟨s.len, s.nd, fun b hb => ?_, fun l c hl => ?_, fun p hp => (Kept.hidden hm).tab _ _ (s.tab p hp)⟩
  · obtain ⟨n, u, e, t⟩ := s.hid b hb
    by_cases q : b = a
    · subst q; exact ⟨n, o, upd_same, ho⟩
    · exact ⟨n, u, by rw [upd_ne q]; exact e, t⟩
  · obtain ⟨b, hb, kb⟩ := s.cell l c hl
    exact ⟨b, hb, kb.move (Kept.hidden hm) (upd_ne fun z => by subst z; exact (s.hid _ hm).1 (List.mem_of_getElem? hb))⟩
end
end DL
end
section
/-! D-layer, part 1: what expressions and statements give, the judgements. -/
namespace DL
open PySem L2
variable [DL.Nm]

structure Exc where
  cls : Str
  fld : Option (Str × D)

inductive ER where
  | ok (d : D) (S : Store)
  | ex (x : Exc) (S : Store)
  | bad
inductive LR where
  | ok (ds : List D) (S : Store)
  | ex (x : Exc) (S : Store)
  | bad
inductive SR where
  | nx (e : EnvD) (S : Store)
  | rt (d : D) (S : Store)
  | bk (e : EnvD) (S : Store)
  | ct (e : EnvD) (S : Store)
  | ex (x : Exc) (e : EnvD) (S : Store)
  | bad
abbrev EM := EnvD → Store → ER
abbrev LM := EnvD → Store → LR
abbrev SM := EnvD → Store → SR
abbrev FD := List D → Store → ER

def ER.bind (r : ER) (g : D → Store → ER) : ER := match r with
  | .ok d S => g d S
  | .ex x S => .ex x S
  | .bad => .bad
def ER.bindL (r : ER) (g : D → Store → LR) : LR := match r with
  | .ok d S => g d S
  | .ex x S => .ex x S
  | .bad => .bad
def LR.bind (r : LR) (g : List D → Store → LR) : LR := match r with
  | .ok d S => g d S
  | .ex x S => .ex x S
  | .bad => .bad
def LR.bindE (r : LR) (g : List D → Store → ER) : ER := match r with
  | .ok d S => g d S
  | .ex x S => .ex x S
  | .bad => .bad
def ER.bindS (r : ER) (e : EnvD) (g : D → Store → SR) : SR := match r with
  | .ok d S => g d S
  | .ex x S => .ex x e S
  | .bad => .bad
def LR.bindS (r : LR) (e : EnvD) (g : List D → Store → SR) : SR := match r with
  | .ok d S => g d S
  | .ex x S => .ex x e S
  | .bad => .bad
def SR.seq (r : SR) (g : EnvD → Store → SR) : SR := match r with
  | .nx e S => g e S
  | r => r

/-- an exception as it lies -/
def IsX (G : Glb) (φ : Fi) (H : Hp) (x : Exc) (cls : Value) (dx : Option Addr) : Prop :=
  ∃ C, G.ce x.cls = some C ∧ cls = .ref C ∧ match x.fld with
    | none => dx = none
    | some (f, d) => ∃ a v, dx = some a ∧ φ.out a ∧ H a = some (.xd [(f, v)]) ∧ Is G φ H d v
theorem IsX.ext {G : Glb} {φ φ' : Fi} {H H' : Hp} (e : Ext φ H φ' H') {x : Exc} {cls : Value} {dx : Option Addr} (h : IsX G φ H x cls dx) : IsX G φ' H' x cls dx := by
  obtain ⟨C, a, b, q⟩ := h
  refine ⟨C, a, b, ?_⟩
  cases hx : x.fld with
  | none => rw [hx] at q; exact q
  | some p =>
    rw [hx] at q
    obtain ⟨a', v, e1, n, e2, i⟩ := q
    exact ⟨a', v, e1, e.out n e2, e.keepE n.1 e2, i.ext e⟩

def RepE (G : Glb) (φ : Fi) (H : Hp) (σ : St) (env : EnvD) : Prop :=
  σ.length = env.length ∧ ∀ (i : Nat) (d : D), env[i]? = some (some d) → ∃ v, σ[i]? = some (some v) ∧ Is G φ H d v
theorem RepE.kept {G : Glb} {φ φ' : Fi} {H H' : Hp} {σ : St} {env : EnvD} (k : Kept φ H φ' H') (h : RepE G φ H σ env) : RepE G φ' H' σ env :=
  ⟨h.1, fun i d e => let ⟨v, a, b⟩ := h.2 i d e; ⟨v, a, b.kept k⟩⟩
theorem RepE.ext {G : Glb} {φ φ' : Fi} {H H' : Hp} {σ : St} {env : EnvD} (e : Ext φ H φ' H') (h : RepE G φ H σ env) : RepE G φ' H' σ env := h.kept e.kept
theorem RepE.set {G : Glb} {φ : Fi} {H : Hp} {σ : St} {env : EnvD} (h : RepE G φ H σ env) {d : D} {v : V} (k : Is G φ H d v) (i : Nat) : RepE G φ H (σ.set i (some v)) (env.set i (some d)) := by
  refine ⟨by simp [h.1], fun j d' e => ?_⟩
  by_cases q : i = j
  · subst q
    by_cases hl : i < env.length
    · rw [List.getElem?_set_self hl] at e
      cases e
      exact ⟨v, by rw [List.getElem?_set_self (by rw [h.1]; exact hl)], k⟩
    · rw [List.getElem?_eq_none (by simpa using hl)] at e; cases e
  · rw [List.getElem?_set_ne q] at e
    obtain ⟨w, a, b⟩ := h.2 j d' e
    exact ⟨w, by rw [List.getElem?_set_ne q]; exact a, b⟩
def wipeD (env : EnvD) : List Nat → EnvD
  | [] => env
  | v :: vs => (wipeD env vs).set v none
theorem RepE.wipe {G : Glb} {φ : Fi} {H : Hp} {σ : St} {env : EnvD} (h : RepE G φ H σ env) : ∀ vs : List Nat, RepE G φ H (wipe σ vs) (wipeD env vs)
  | [] => h
  | w :: vs => by
    have ih := RepE.wipe h vs
    refine ⟨by simp [L2.wipe, wipeD, ih.1], fun j d' e => ?_⟩
    unfold wipeD at e
    unfold L2.wipe
    by_cases q : w = j
    · subst q
      by_cases hl : w < (wipeD env vs).length
      · rw [List.getElem?_set_self hl] at e; cases e
      · rw [List.getElem?_eq_none (by simpa using hl)] at e; cases e
    · rw [List.getElem?_set_ne q] at e ⊢
      exact ih.2 j d' e

section
variable (G : Glb) (W : WX) (φ : Fi) (H : Hp) (σ : St)
def PostE (r : ER) (Q : VK) : Prop := match r with
  | .ok d S => ∀ φ' H' v, Ext φ H φ' H' → SOk G φ' S H' → Is G φ' H' d v → Q v H'
  | .ex x S => ∀ φ' H' cls dx, Ext φ H φ' H' → SOk G φ' S H' → IsX G φ' H' x cls dx → W cls dx σ H'
  | .bad => False
def PostL (r : LR) (Q : List V → Hp → Prop) : Prop := match r with
  | .ok d S => ∀ φ' H' v, Ext φ H φ' H' → SOk G φ' S H' → IsL G φ' H' d v → Q v H'
  | .ex x S => ∀ φ' H' cls dx, Ext φ H φ' H' → SOk G φ' S H' → IsX G φ' H' x cls dx → W cls dx σ H'
  | .bad => False
def PostS (r : SR) (N : Ends) : Prop := match r with
  | .nx e S => ∀ φ' H' σ', Ext φ H φ' H' → SOk G φ' S H' → RepE G φ' H' σ' e → N.nx σ' H'
  | .rt d S => ∀ φ' H' v, Ext φ H φ' H' → SOk G φ' S H' → Is G φ' H' d v → N.rt v H'
  | .bk e S => ∀ φ' H' σ', Ext φ H φ' H' → SOk G φ' S H' → RepE G φ' H' σ' e → N.bk σ' H'
  | .ct e S => ∀ φ' H' σ', Ext φ H φ' H' → SOk G φ' S H' → RepE G φ' H' σ' e → N.ct σ' H'
  | .ex x e S => ∀ φ' H' σ' cls dx, Ext φ H φ' H' → SOk G φ' S H' → RepE G φ' H' σ' e → IsX G φ' H' x cls dx → W cls dx σ' H'
  | .bad => False
end

section
variable {G : Glb} {W : WX} {φ φ' : Fi} {H H' : Hp} {σ : St}
theorem PostE.ext (e : Ext φ H φ' H') {r : ER} {Q : VK} (h : PostE G W φ H σ r Q) : PostE G W φ' H' σ r Q := by
  cases r with
  | ok d S => exact fun φ2 H2 v e2 s i => h φ2 H2 v (e.trans e2) s i
  | ex x S => exact fun φ2 H2 c d e2 s i => h φ2 H2 c d (e.trans e2) s i
  | bad => exact h
theorem PostL.ext (e : Ext φ H φ' H') {r : LR} {Q : List V → Hp → Prop} (h : PostL G W φ H σ r Q) : PostL G W φ' H' σ r Q := by
  cases r with
  | ok d S => exact fun φ2 H2 v e2 s i => h φ2 H2 v (e.trans e2) s i
  | ex x S => exact fun φ2 H2 c d e2 s i => h φ2 H2 c d (e.trans e2) s i
  | bad => exact h
theorem PostS.ext (e : Ext φ H φ' H') {r : SR} {N : Ends} (h : PostS G W φ H r N) : PostS G W φ' H' r N := by
  cases r with
  | nx d S => exact fun φ2 H2 v e2 s i => h φ2 H2 v (e.trans e2) s i
  | rt d S => exact fun φ2 H2 v e2 s i => h φ2 H2 v (e.trans e2) s i
  | bk d S => exact fun φ2 H2 v e2 s i => h φ2 H2 v (e.trans e2) s i
  | ct d S => exact fun φ2 H2 v e2 s i => h φ2 H2 v (e.trans e2) s i
  | ex x d S => exact fun φ2 H2 v c dx e2 s i => h φ2 H2 v c dx (e.trans e2) s i
  | bad => exact h
/-- the ways on -/
theorem PostE.bind {r : ER} {g : D → Store → ER} {Q Q' : VK} (h : PostE G W φ H σ (r.bind g) Q)
    (k : ∀ d S φ' H' v, Ext φ H φ' H' → SOk G φ' S H' → Is G φ' H' d v → PostE G W φ' H' σ (g d S) Q → Q' v H') : PostE G W φ H σ r Q' := by
  cases r with
  | ok d S => exact fun φ2 H2 v e s i => k d S φ2 H2 v e s i (PostE.ext (r := g d S) e h)
  | ex x S => exact h
  | bad => exact h
theorem PostE.bindL {r : ER} {g : D → Store → LR} {Q : List V → Hp → Prop} {Q' : VK} (h : PostL G W φ H σ (r.bindL g) Q)
    (k : ∀ d S φ' H' v, Ext φ H φ' H' → SOk G φ' S H' → Is G φ' H' d v → PostL G W φ' H' σ (g d S) Q → Q' v H') : PostE G W φ H σ r Q' := by
  cases r with
  | ok d S => exact fun φ2 H2 v e s i => k d S φ2 H2 v e s i (PostL.ext (r := g d S) e h)
  | ex x S => exact h
  | bad => exact h
theorem PostL.bind {r : LR} {g : List D → Store → LR} {Q Q' : List V → Hp → Prop} (h : PostL G W φ H σ (r.bind g) Q)
    (k : ∀ d S φ' H' v, Ext φ H φ' H' → SOk G φ' S H' → IsL G φ' H' d v → PostL G W φ' H' σ (g d S) Q → Q' v H') : PostL G W φ H σ r Q' := by
  cases r with
  | ok d S => exact fun φ2 H2 v e s i => k d S φ2 H2 v e s i (PostL.ext (r := g d S) e h)
  | ex x S => exact h
  | bad => exact h
theorem PostL.bindE {r : LR} {g : List D → Store → ER} {Q : VK} {Q' : List V → Hp → Prop} (h : PostE G W φ H σ (r.bindE g) Q)
    (k : ∀ d S φ' H' v, Ext φ H φ' H' → SOk G φ' S H' → IsL G φ' H' d v → PostE G W φ' H' σ (g d S) Q → Q' v H') : PostL G W φ H σ r Q' := by
  cases r with
  | ok d S => exact fun φ2 H2 v e s i => k d S φ2 H2 v e s i (PostE.ext (r := g d S) e h)
  | ex x S => exact h
  | bad => exact h
theorem PostE.bindS {r : ER} {env : EnvD} (re : RepE G φ H σ env) {g : D → Store → SR} {N : Ends} {Q' : VK} (h : PostS G W φ H (r.bindS env g) N)
    (k : ∀ d S φ' H' v, Ext φ H φ' H' → SOk G φ' S H' → Is G φ' H' d v → PostS G W φ' H' (g d S) N → Q' v H') : PostE G W φ H σ r Q' := by
  cases r with
  | ok d S => exact fun φ2 H2 v e s i => k d S φ2 H2 v e s i (PostS.ext (r := g d S) e h)
  | ex x S => exact fun φ2 H2 c d e s i => h φ2 H2 σ c d e s (re.ext e) i
  | bad => exact h
theorem PostL.bindS {r : LR} {env : EnvD} (re : RepE G φ H σ env) {g : List D → Store → SR} {N : Ends} {Q' : List V → Hp → Prop} (h : PostS G W φ H (r.bindS env g) N)
    (k : ∀ d S φ' H' v, Ext φ H φ' H' → SOk G φ' S H' → IsL G φ' H' d v → PostS G W φ' H' (g d S) N → Q' v H') : PostL G W φ H σ r Q' := by
  cases r with
  | ok d S => exact fun φ2 H2 v e s i => k d S φ2 H2 v e s i (PostS.ext (r := g d S) e h)
  | ex x S => exact fun φ2 H2 c d e s i => h φ2 H2 σ c d e s (re.ext e) i
  | bad => exact h
theorem PostE.now {d : D} {S : Store} {v : V} {Q : VK} (h : PostE G W φ H σ (.ok d S) Q) (s : SOk G φ S H) (i : Is G φ H d v) : Q v H := h φ H v .refl s i
theorem PostL.now {d : List D} {S : Store} {v : List V} {Q : List V → Hp → Prop} (h : PostL G W φ H σ (.ok d S) Q) (s : SOk G φ S H) (i : IsL G φ H d v) : Q v H := h φ H v .refl s i
end

/-! ### the judgements -/
def DE (G : Glb) (X : Cx) (W : WX) (e : Expr) (f : EM) : Prop :=
  ∃ t, PE X e t ∧ ∀ σ H env φ S Q, SOk G φ S H → RepE G φ H σ env → PostE G W φ H σ (f env S) Q → t σ H Q
/-- a test -/
def PostT (G : Glb) (W : WX) (φ : Fi) (H : Hp) (σ : St) (r : ER) (Q : Bool → Hp → Prop) : Prop := PostE G W φ H σ (r.bind fun d S => match d with | .bl b => .ok (.bl b) S | _ => .bad) (fun v H' => ∀ b, v = .bl b → Q b H')
def DT (G : Glb) (X : Cx) (W : WX) (e : Expr) (f : EM) : Prop :=
  ∃ t, PT X e t ∧ ∀ σ H env φ S Q, SOk G φ S H → RepE G φ H σ env → PostT G W φ H σ (f env S) Q → t σ H Q
def DW (G : Glb) (X : Cx) (W : WX) (e : Expr) (f : EM) : Prop :=
  ∃ t, PW X e t ∧ ∀ σ H env φ S Q, SOk G φ S H → RepE G φ H σ env → PostT G W φ H σ (f env S) Q → t σ H Q
def DA (G : Glb) (X : Cx) (W : WX) (es : List Expr) (f : LM) : Prop :=
  ∃ t, PA X es t ∧ ∀ σ H env φ S Q, SOk G φ S H → RepE G φ H σ env → PostL G W φ H σ (f env S) Q → t σ H Q
def DS (G : Glb) (X : Cx) (W : WX) (st : Stmt) (f : SM) : Prop :=
  ∃ t, PS X st t ∧ ∀ σ H env φ S N, SOk G φ S H → RepE G φ H σ env → PostS G W φ H (f env S) N → t N σ H
def DSs (G : Glb) (X : Cx) (W : WX) (st : List Stmt) (f : SM) : Prop :=
  ∃ t, PSs X st t ∧ ∀ σ H env φ S N, SOk G φ S H → RepE G φ H σ env → PostS G W φ H (f env S) N → t N σ H
/-- alike but at some slots -/
def Off (vs : List Nat) (σ σ' : St) : Prop := σ'.length = σ.length ∧ ∀ j, j ∉ vs → σ'[j]? = σ[j]?
/-- a target; vs: the slots that it binds -/
def DG (G : Glb) (X : Cx) (tg : Expr) (b : D → EnvD → Option EnvD) (vs : List Nat) : Prop :=
  ∃ g, PG X tg g ∧ ∀ v d σ H env env' φ Q, Is G φ H d v → RepE G φ H σ env → b d env = some env' → (∀ σ', RepE G φ H σ' env' → Off vs σ σ' → Q σ' H) → g v σ H Q
def DGs (G : Glb) (X : Cx) (tgs : List Expr) (b : List D → EnvD → Option EnvD) (vs : List Nat) : Prop :=
  ∃ g, PGs X tgs g ∧ ∀ v d σ H env env' φ Q, IsL G φ H d v → RepE G φ H σ env → b d env = some env' → (∀ σ', RepE G φ H σ' env' → Off vs σ σ' → Q σ' H) → g v σ H Q

section
variable {G : Glb} {X : Cx} {W : WX}

/-! ### names and constants -/
def eVar (i : Nat) : EM := fun env S => match env[i]? with
  | some (some d) => .ok d S
  | _ => .bad
def eC (d : D) : EM := fun _ S => .ok d S
theorem de_var (i : Nat) {x : Str} {pos : Pos} (hN : X.N[i]? = some x := by rfl) (hv : Vis X.env.scope x := by first | exact Or.inl rfl | exact Or.inr (Or.inl rfl) | exact Or.inr (Or.inr rfl)) (hd : (x == ("__debug__" : Str)) = false := by decide)
    (hcd : (x == ("__classdict__" : Str)) = false := by decide) : DE G X W (.Name x pos) (eVar i) :=
  ⟨_, pe_var hN hv hd hcd, fun σ H env φ S Q s r h => by
    unfold eVar at h
    cases e : env[i]? with
    | none => rw [e] at h; exact h.elim
    | some o =>
      cases o with
      | none => rw [e] at h; exact h.elim
      | some d =>
        rw [e] at h
        obtain ⟨v, hv, k⟩ := r.2 i d e
        exact ⟨v, hv, h.now s k⟩⟩
theorem de_int {i : Int} {j pos} : DE G X W (.Constant (.int i) j pos) (eC (.int i)) := ⟨_, pe_int, fun _ _ _ _ _ _ s _ h => h.now s rfl⟩
theorem de_bl {i : Bool} {j pos} : DE G X W (.Constant (.bool i) j pos) (eC (.bl i)) := ⟨_, pe_bl, fun _ _ _ _ _ _ s _ h => h.now s rfl⟩
theorem de_non {j pos} : DE G X W (.Constant .none j pos) (eC .non) := ⟨_, pe_non, fun _ _ _ _ _ _ s _ h => h.now s rfl⟩
theorem de_str {x : Str} {j pos} : DE G X W (.Constant (.str x) j pos) (eC (.str x)) := ⟨_, pe_str, fun _ _ _ _ _ _ s _ h => h.now s rfl⟩
/-- a constant of the module: a number, a text, a truth, a tuple or list of such -/
theorem de_glob {x : Str} {d : D} {v : V} {u : Value} {pos : Pos} (hg : Gl X x) (hm : X.mg x = some u) (r : RelV v u) (hi : ∀ φ H, Is G φ H d v) (hd : (x == ("__debug__" : Str)) = false := by decide) : DE G X W (.Name x pos) (eC d) :=
  ⟨_, pe_glob hg hm r hd, fun _ _ _ _ _ _ s _ h => h.now s (hi _ _)⟩

/-! ### arguments -/
def lNil : LM := fun _ S => .ok [] S
def lCons (f : EM) (g : LM) : LM := fun env S => (f env S).bindL fun d S => (g env S).bind fun ds S => .ok (d :: ds) S
theorem da_nil : DA G X W [] lNil := ⟨_, pa_nil, fun _ _ _ _ _ _ s _ h => h.now s rfl⟩
theorem da_cons {e : Expr} {es : List Expr} {f : EM} {g : LM} (ha : DE G X W e f) (hb : DA G X W es g) (hs : starEach (e :: es) X.env = (false, eval e X.env) :: starEach es X.env := by rfl) : DA G X W (e :: es) (lCons f g) := by
  obtain ⟨ta, pa, qa⟩ := ha
  obtain ⟨tb, pb, qb⟩ := hb
  refine ⟨_, pa_cons pa pb hs, fun σ H env φ S Q s r h => ?_⟩
  refine qa σ H env φ S _ s r (PostE.bindL h fun d S1 φ1 H1 v e1 s1 i1 h1 => ?_)
  refine qb σ H1 env φ1 S1 _ s1 (r.ext e1) (PostL.bind h1 fun ds S2 φ2 H2 vs e2 s2 i2 h2 => ?_)
  exact h2.now s2 (.cons (i1.ext e2) i2)

/-! ### operators -/
/-- an operator by values -/
def DOp (G : Glb) (X : Cx) (f : Value → Value → Sem Value) (g : D → D → Store → ER) : Prop :=
  ∃ r, OpR X f r ∧ ∀ W φ S H σ dx dy x y Q, SOk G φ S H → Is G φ H dx x → Is G φ H dy y → PostE G W φ H σ (g dx dy S) Q → r x y H Q
def eOp (g : D → D → Store → ER) (a b : EM) : EM := fun env S => (a env S).bind fun x S => (b env S).bind fun y S => g x y S
theorem op_of {t ta tb : TE} {r : R2} {g : D → D → Store → ER} {fa fb : EM} (ha : ∀ σ H env φ S Q, SOk G φ S H → RepE G φ H σ env → PostE G W φ H σ (fa env S) Q → ta σ H Q)
    (hb : ∀ σ H env φ S Q, SOk G φ S H → RepE G φ H σ env → PostE G W φ H σ (fb env S) Q → tb σ H Q)
    (hr : ∀ W φ S H σ dx dy x y Q, SOk G φ S H → Is G φ H dx x → Is G φ H dy y → PostE G W φ H σ (g dx dy S) Q → r x y H Q) :
    ∀ σ H env φ S Q, SOk G φ S H → RepE G φ H σ env → PostE G W φ H σ (eOp g fa fb env S) Q → tOp r ta tb σ H Q := fun σ H env φ S Q s re h => by
  refine ha σ H env φ S _ s re (PostE.bind h fun d S1 φ1 H1 v e1 s1 i1 h1 => ?_)
  refine hb σ H1 env φ1 S1 _ s1 (re.ext e1) (PostE.bind h1 fun d2 S2 φ2 H2 v2 e2 s2 i2 h2 => ?_)
  exact hr W φ2 S2 H2 σ d d2 v v2 Q s2 (i1.ext e2) i2 h2
theorem de_op {op : Operator} {a b : Expr} {pos : Pos} {g : D → D → Store → ER} {fa fb : EM} (ho : DOp G X (binaryOp op) g) (ha : DE G X W a fa) (hb : DE G X W b fb) : DE G X W (.BinOp a op b pos) (eOp g fa fb) := by
  obtain ⟨r, hr, q⟩ := ho
  obtain ⟨ta, pa, qa⟩ := ha
  obtain ⟨tb, pb, qb⟩ := hb
  exact ⟨_, pe_op hr pa pb, op_of (t := ta) qa qb q⟩
theorem de_cmp {op : CmpOp} {a b : Expr} {pos : Pos} {g : D → D → Store → ER} {fa fb : EM} (ho : DOp G X (compareOp op) g) (ha : DE G X W a fa) (hb : DE G X W b fb) (hm : behindInMarks op b = false := by first | exact nomark _ | rfl) : DE G X W (.Compare a [op] [b] pos) (eOp g fa fb) := by
  obtain ⟨r, hr, q⟩ := ho
  obtain ⟨ta, pa, qa⟩ := ha
  obtain ⟨tb, pb, qb⟩ := hb
  exact ⟨_, pe_cmpR hr pa pb hm, op_of (t := ta) qa qb q⟩
theorem PostT.of {r : ER} {φ : Fi} {H : Hp} {σ : St} {Q : Bool → Hp → Prop} (h : PostT G W φ H σ r Q) : PostE G W φ H σ r fun x H' => ∃ k, x = .bl k ∧ Q k H' := by
  unfold PostT at h
  refine PostE.bind h fun d S φ' H' v e s i k => ?_
  cases d with
  | bl b =>
    have q := k.now s (show Is G φ' H' (.bl b) (.bl b) from rfl)
    exact ⟨b, i, q b rfl⟩
  | _ => exact False.elim k
theorem dt_cmp {op : CmpOp} {a b : Expr} {pos : Pos} {g : D → D → Store → ER} {fa fb : EM} (ho : DOp G X (compareOp op) g) (ha : DE G X W a fa) (hb : DE G X W b fb) (hm : behindInMarks op b = false := by first | exact nomark _ | rfl) : DT G X W (.Compare a [op] [b] pos) (eOp g fa fb) := by
  obtain ⟨r, hr, q⟩ := ho
  obtain ⟨ta, pa, qa⟩ := ha
  obtain ⟨tb, pb, qb⟩ := hb
  exact ⟨_, pt_cmpR hr pa pb hm, fun σ H env φ S Q s re h => op_of (t := ta) qa qb q σ H env φ S _ s re h.of⟩
/-- any expression that gives a truth, as a test -/
theorem dt_val {e : Expr} {f : EM} (h : DE G X W e f) (he : ∀ whole, isTrue e X.env whole = (do let v ← whole; standAt e.pos; holding [v] (truthy v)) := by intro _; rfl) : DT G X W e f := by
  obtain ⟨t, p, q⟩ := h
  refine ⟨_, pt_val p he, fun σ H env φ S Q s re hq => ?_⟩
  exact q σ H env φ S _ s re hq.of
theorem IsL.empty {φ : Fi} {H : Hp} {ds : List D} {xs : List V} (h : IsL G φ H ds xs) : (!ds.isEmpty) = !xs.isEmpty := by
  cases ds with
  | nil => cases (show xs = [] from h); rfl
  | cons d ds => obtain ⟨x, r, rfl, _⟩ := h; rfl
/-! ### and, or, not, if else -/
def eAnd (a b : EM) : EM := fun env S => (a env S).bind fun d S => match d with | .bl true => b env S | .bl false => .ok (.bl false) S | _ => .bad
def eOr (a b : EM) : EM := fun env S => (a env S).bind fun d S => match d with | .bl true => .ok (.bl true) S | .bl false => b env S | _ => .bad
def eNot (a : EM) : EM := fun env S => (a env S).bind fun d S => match d with | .bl b => .ok (.bl (!b)) S | _ => .bad
def eIf (c a b : EM) : EM := fun env S => (c env S).bind fun d S => match d with | .bl true => a env S | .bl false => b env S | _ => .bad
theorem de_one {op : BoolOp} {a : Expr} {pos : Pos} {f : EM} (h : DE G X W a f) : DE G X W (.BoolOp op [a] pos) f := let ⟨_, p, q⟩ := h; ⟨_, pe_one p, q⟩
theorem de_and {a b : Expr} {rest : List Expr} {pos : Pos} {fa fb : EM} (ha : DE G X W a fa) (hb : DE G X W (.BoolOp .And (b :: rest) pos) fb) : DE G X W (.BoolOp .And (a :: b :: rest) pos) (eAnd fa fb) := by
  obtain ⟨ta, pa, qa⟩ := ha
  obtain ⟨tb, pb, qb⟩ := hb
  refine ⟨_, pe_and pa pb, fun σ H env φ S Q s re h => ?_⟩
  refine qa σ H env φ S _ s re (PostE.bind h fun d S1 φ1 H1 v e1 s1 i1 h1 => ?_)
  cases d with
  | bl k =>
    refine ⟨k, i1, ?_⟩
    cases k with
    | true => exact iteT (qb σ H1 env φ1 S1 _ s1 (re.ext e1) h1)
    | false => exact iteF (h1.now s1 rfl)
  | _ => exact False.elim h1
theorem de_not {a : Expr} {pos : Pos} {fa : EM} (ha : DE G X W a fa) : DE G X W (.UnaryOp .Not a pos) (eNot fa) := by
  obtain ⟨ta, pa, qa⟩ := ha
  refine ⟨_, pe_not pa, fun σ H env φ S Q s re h => ?_⟩
  refine qa σ H env φ S _ s re (PostE.bind h fun d S1 φ1 H1 v e1 s1 i1 h1 => ?_)
  cases d with
  | bl k => exact ⟨k, i1, h1.now s1 rfl⟩
  | _ => exact False.elim h1
theorem PostT.bind {r : ER} {g : D → Store → ER} {φ : Fi} {H : Hp} {σ : St} {Q Q' : Bool → Hp → Prop} (h : PostT G W φ H σ (r.bind g) Q)
    (k : ∀ b S φ' H', Ext φ H φ' H' → SOk G φ' S H' → PostT G W φ' H' σ (g (.bl b) S) Q → Q' b H') (nb : ∀ d S, (∀ b, d ≠ .bl b) → g d S = .bad) : PostT G W φ H σ r Q' := by
  cases r with
  | ok d S =>
    cases d with
    | bl b =>
      intro φ2 H2 v e s i b' eb
      cases (show v = .bl b from i)
      cases eb
      exact k b S φ2 H2 e s (PostE.ext e h)
    | _ =>
      have z : PostT G W φ H σ (g _ S) Q := h
      rw [nb _ _ (fun b q => by cases q)] at z
      exact False.elim z
  | ex x S => exact h
  | bad => exact h
theorem PostT.now {b : Bool} {S : Store} {φ : Fi} {H : Hp} {σ : St} {Q : Bool → Hp → Prop} (h : PostT G W φ H σ (.ok (.bl b) S) Q) (s : SOk G φ S H) : Q b H := h φ H (.bl b) .refl s rfl b rfl
theorem dt_not {a : Expr} {pos : Pos} {fa : EM} (ha : DT G X W a fa) : DT G X W (.UnaryOp .Not a pos) (eNot fa) := by
  obtain ⟨ta, pa, qa⟩ := ha
  refine ⟨_, pt_not pa, fun σ H env φ S Q s re h => ?_⟩
  refine qa σ H env φ S _ s re (PostT.bind h (fun b S1 φ1 H1 e1 s1 h1 => PostT.now h1 s1) fun d S q => ?_)
  cases d with
  | bl b => exact absurd rfl (q b)
  | _ => rfl
theorem dw_and1 {a : Expr} {pos : Pos} {f : EM} (h : DT G X W a f) : DW G X W (.BoolOp .And [a] pos) f := let ⟨_, p, q⟩ := h; ⟨_, pw_and1 p, q⟩
theorem dw_or1 {a : Expr} {pos : Pos} {f : EM} (h : DT G X W a f) : DW G X W (.BoolOp .Or [a] pos) f := let ⟨_, p, q⟩ := h; ⟨_, pw_or1 p, q⟩
theorem dw_and {a b : Expr} {rest : List Expr} {pos : Pos} {fa fb : EM} (ha : DT G X W a fa) (hb : DW G X W (.BoolOp .And (b :: rest) pos) fb) : DW G X W (.BoolOp .And (a :: b :: rest) pos) (eAnd fa fb) := by
  obtain ⟨ta, pa, qa⟩ := ha
  obtain ⟨tb, pb, qb⟩ := hb
  refine ⟨_, pw_and pa pb, fun σ H env φ S Q s re h => ?_⟩
  refine qa σ H env φ S _ s re (PostT.bind h (fun b S1 φ1 H1 e1 s1 h1 => ?_) fun d S q => ?_)
  · cases b with
    | true => exact iteT (qb σ H1 env φ1 S1 _ s1 (re.ext e1) h1)
    | false => exact iteF (h1.now s1)
  · cases d with
    | bl b => exact absurd rfl (q b)
    | _ => rfl
theorem dw_or {a b : Expr} {rest : List Expr} {pos : Pos} {fa fb : EM} (ha : DT G X W a fa) (hb : DW G X W (.BoolOp .Or (b :: rest) pos) fb) : DW G X W (.BoolOp .Or (a :: b :: rest) pos) (eOr fa fb) := by
  obtain ⟨ta, pa, qa⟩ := ha
  obtain ⟨tb, pb, qb⟩ := hb
  refine ⟨_, pw_or pa pb, fun σ H env φ S Q s re h => ?_⟩
  refine qa σ H env φ S _ s re (PostT.bind h (fun b S1 φ1 H1 e1 s1 h1 => ?_) fun d S q => ?_)
  · cases b with
    | true => exact iteT (h1.now s1)
    | false => exact iteF (qb σ H1 env φ1 S1 _ s1 (re.ext e1) h1)
  · cases d with
    | bl b => exact absurd rfl (q b)
    | _ => rfl
theorem DW.t {e : Expr} {f : EM} (h : DW G X W e f) : DT G X W e f := let ⟨_, p, q⟩ := h; ⟨_, p.pt, q⟩
theorem de_if {c a b : Expr} {pos : Pos} {fc fa fb : EM} (hc : DT G X W c fc) (ha : DE G X W a fa) (hb : DE G X W b fb) : DE G X W (.IfExp c a b pos) (eIf fc fa fb) := by
  obtain ⟨tc, pc, qc⟩ := hc
  obtain ⟨ta, pa, qa⟩ := ha
  obtain ⟨tb, pb, qb⟩ := hb
  refine ⟨_, pe_ifExp pc pa pb, fun σ H env φ S Q s re h => ?_⟩
  unfold eIf at h
  refine qc σ H env φ S _ s re ?_
  cases hr : fc env S with
  | ok d S1 =>
    rw [hr] at h
    cases d with
    | bl k =>
      intro φ1 H1 v e s1 i b eb
      cases (show v = .bl k from i)
      cases eb
      cases k with
      | true => exact iteT (qa σ H1 env φ1 S1 _ s1 (re.ext e) (PostE.ext e h))
      | false => exact iteF (qb σ H1 env φ1 S1 _ s1 (re.ext e) (PostE.ext e h))
    | _ => exact False.elim h
  | ex x S1 => rw [hr] at h; exact h
  | bad => rw [hr] at h; exact h

/-! ### tuples and lists -/
/-- a length that may be; how it is decided stays shut (the kernel would count) -/
def sz (n : Nat) : Prop := n ≤ 16777216
noncomputable instance {n : Nat} : Decidable (sz n) := Classical.propDecidable _
noncomputable def eTup (f : LM) : EM := fun env S => (f env S).bindE fun ds S => if sz ds.length then .ok (.tup ds) S else .bad
noncomputable def eLst (f : LM) : EM := fun env S => (f env S).bindE fun ds S => if sz ds.length then .ok (.lst ds) S else .bad
/-- a list that is kept as a cell -/
noncomputable def eLstM (f : LM) : EM := fun env S => (f env S).bindE fun ds S => if sz ds.length then .ok (.loc S.length) (S ++ [.lst ds]) else .bad
theorem tup_new {φ : Fi} {H : Hp} {S : Store} {σ : St} {ds : List D} {xs : List V} {Q : VK} (s : SOk G φ S H) (i : IsL G φ H ds xs) (h : PostE G W φ H σ (.ok (.tup ds) S) Q) {p : Addr} (hp : H p = none) : Q (.ref p) (upd H p (.tup xs)) :=
  h φ _ _ (.laid hp) (s.laid hp) ⟨p, xs, rfl, .inl ⟨s.fresh hp, .inl upd_same⟩, i.ext (.laid hp)⟩
theorem lst_new {φ : Fi} {H : Hp} {S : Store} {σ : St} {ds : List D} {xs : List V} {Q : VK} (s : SOk G φ S H) (i : IsL G φ H ds xs) (h : PostE G W φ H σ (.ok (.lst ds) S) Q) {p : Addr} (hp : H p = none) : Q (.ref p) (upd H p (.lst xs)) :=
  h φ _ _ (.laid hp) (s.laid hp) ⟨p, xs, rfl, .inl ⟨s.fresh hp, .inl upd_same⟩, i.ext (.laid hp)⟩
theorem lst_newM {φ : Fi} {H : Hp} {S : Store} {σ : St} {ds : List D} {xs : List V} {Q : VK} (s : SOk G φ S H) (i : IsL G φ H ds xs) (h : PostE G W φ H σ (.ok (.loc S.length) (S ++ [.lst ds])) Q) {p : Addr} (hp : H p = none) : Q (.ref p) (upd H p (.lst xs)) :=
  h (φ.add p) _ _ (.newCell s hp) (s.newCell hp ⟨xs, upd_same, i.ext (.newCell s hp)⟩) ⟨p, by rw [← s.len]; simp [Fi.add], rfl⟩
theorem sizeLine_is {n : Nat} (h : n ≤ 16777216) : n ≤ sizeLine := by rw [sizeLine_eq]; exact h
theorem de_tup {es : List Expr} {x1} {pos : Pos} {f : LM} (h : DA G X W es f) : DE G X W (.Tuple es x1 pos) (eTup f) := by
  obtain ⟨t, p, q⟩ := h
  refine ⟨_, pe_tup p, fun σ H env φ S Q s re hq => ?_⟩
  refine q σ H env φ S _ s re (PostL.bindE hq fun ds S1 φ1 H1 xs e1 s1 i1 h1 => ?_)
  by_cases hl : sz ds.length
  · rw [if_pos hl] at h1
    exact ⟨by rw [← i1.length]; exact sizeLine_is hl, fun p hp => tup_new s1 i1 h1 hp⟩
  · rw [if_neg hl] at h1; exact h1.elim
theorem de_lst {es : List Expr} {pos : Pos} {f : LM} (h : DA G X W es f) : DE G X W (.List es pos) (eLst f) := by
  obtain ⟨t, p, q⟩ := h
  refine ⟨_, pe_lst p, fun σ H env φ S Q s re hq => ?_⟩
  refine q σ H env φ S _ s re (PostL.bindE hq fun ds S1 φ1 H1 xs e1 s1 i1 h1 => ?_)
  by_cases hl : sz ds.length
  · rw [if_pos hl] at h1
    exact ⟨by rw [← i1.length]; exact sizeLine_is hl, fun p hp => lst_new s1 i1 h1 hp⟩
  · rw [if_neg hl] at h1; exact h1.elim
theorem de_lstM {es : List Expr} {pos : Pos} {f : LM} (h : DA G X W es f) : DE G X W (.List es pos) (eLstM f) := by
  obtain ⟨t, p, q⟩ := h
  refine ⟨_, pe_lst p, fun σ H env φ S Q s re hq => ?_⟩
  refine q σ H env φ S _ s re (PostL.bindE hq fun ds S1 φ1 H1 xs e1 s1 i1 h1 => ?_)
  by_cases hl : sz ds.length
  · rw [if_pos hl] at h1
    exact ⟨by rw [← i1.length]; exact sizeLine_is hl, fun p hp => lst_newM s1 i1 h1 hp⟩
  · rw [if_neg hl] at h1; exact h1.elim

/-! ### statements -/
def sSkip : SM := fun e S => .nx e S
def sSeq (a b : SM) : SM := fun e S => (a e S).seq b
theorem dss_nil : DSs G X W [] sSkip := ⟨_, pss_nil, fun σ H env φ S N s re h => h φ H σ .refl s re⟩
theorem dss_cons {st : Stmt} {rest : List Stmt} {f g : SM} (ha : DS G X W st f) (hb : DSs G X W rest g) : DSs G X W (st :: rest) (sSeq f g) := by
  obtain ⟨t, p, q⟩ := ha
  obtain ⟨u, p', q'⟩ := hb
  refine ⟨_, pss_cons p p', fun σ H env φ S N s re h => ?_⟩
  refine q σ H env φ S _ s re ?_
  unfold sSeq at h
  cases hr : f env S with
  | nx e S1 =>
    rw [hr] at h
    exact fun φ1 H1 σ1 e1 s1 r1 => q' σ1 H1 e φ1 S1 _ s1 r1 (PostS.ext e1 h)
  | rt d S1 => rw [hr] at h; exact h
  | bk d S1 => rw [hr] at h; exact h
  | ct d S1 => rw [hr] at h; exact h
  | ex x d S1 => rw [hr] at h; exact h
  | bad => rw [hr] at h; exact h
theorem dss_one {st : Stmt} {f : SM} (ha : DS G X W st f) : DSs G X W [st] f := let ⟨_, p, q⟩ := ha; ⟨_, pss_one p, q⟩
def sBk : SM := fun e S => .bk e S
def sCt : SM := fun e S => .ct e S
def sRet (f : EM) : SM := fun e S => (f e S).bindS e fun d S => .rt d S
def sRetN : SM := fun e S => .rt .non S
def sDrop (f : EM) : SM := fun e S => (f e S).bindS e fun _ S => .nx e S
theorem ds_ret {e : Expr} {pos : Pos} {f : EM} (h : DE G X W e f) : DS G X W (.Return (some e) pos) (sRet f) := by
  obtain ⟨t, p, q⟩ := h
  refine ⟨_, ps_ret p, fun σ H env φ S N s re h => ?_⟩
  exact q σ H env φ S _ s re (PostE.bindS re h fun d S1 φ1 H1 v e1 s1 i1 h1 => h1 φ1 H1 v .refl s1 i1)
theorem ds_expr {e : Expr} {pos : Pos} {f : EM} (h : DE G X W e f) (hs : swapsWith e none pos.line X.env = pure false := by rfl) : DS G X W (.Expr e pos) (sDrop f) := by
  obtain ⟨t, p, q⟩ := h
  refine ⟨_, ps_expr p hs, fun σ H env φ S N s re h => ?_⟩
  exact q σ H env φ S _ s re (PostE.bindS re h fun d S1 φ1 H1 v e1 s1 i1 h1 => h1 φ1 H1 σ .refl s1 (re.ext e1))
def sIf (c : EM) (a b : SM) : SM := fun e S => (c e S).bindS e fun d S => match d with | .bl true => a e S | .bl false => b e S | _ => .bad
theorem ds_if {c : Expr} {a b : List Stmt} {pos : Pos} {fc : EM} {fa fb : SM} (hc : DT G X W c fc) (ha : DSs G X W a fa) (hb : DSs G X W b fb) : DS G X W (.If c a b pos) (sIf fc fa fb) := by
  obtain ⟨tc, pc, qc⟩ := hc
  obtain ⟨ta, pa, qa⟩ := ha
  obtain ⟨tb, pb, qb⟩ := hb
  refine ⟨_, ps_if pc pa pb, fun σ H env φ S N s re h => ?_⟩
  unfold sIf at h
  refine qc σ H env φ S _ s re ?_
  cases hr : fc env S with
  | ok d S1 =>
    rw [hr] at h
    cases d with
    | bl k =>
      intro φ1 H1 v e s1 i b eb
      cases (show v = .bl k from i)
      cases eb
      cases k with
      | true => exact iteT (qa σ H1 env φ1 S1 _ s1 (re.ext e) (PostS.ext e h))
      | false => exact iteF (qb σ H1 env φ1 S1 _ s1 (re.ext e) (PostS.ext e h))
    | _ => exact False.elim h
  | ex x S1 =>
    rw [hr] at h
    exact fun φ2 H2 c d e s i => h φ2 H2 σ c d e s (re.ext e) i
  | bad => rw [hr] at h; exact h

/-! ### targets, assignments -/
def bName (i : Nat) : D → EnvD → Option EnvD := fun d env => some (env.set i (some d))
theorem dg_name {i : Nat} {x : Str} {pos : Pos} (hN : X.N.Nodup) (hi : X.N[i]? = some x) (hx : Loc X.env.scope x) (hf : X.fn x = true ∨ X.env.scope.names.lookup x = some .local := by first | exact .inl rfl | exact .inr rfl) : DG G X (.Name x pos) (bName i) [i] :=
  ⟨_, pg_name hN hi hx hf, fun v d σ H env env' φ Q i1 r e k => by
    cases e
    refine k _ (r.set i1 i) ⟨by simp, fun j hj => ?_⟩
    rw [List.getElem?_set_ne (fun z => hj (by simp [z]))]⟩
def bNil : List D → EnvD → Option EnvD := fun ds env => match ds with | [] => some env | _ => none
def bCons (b : D → EnvD → Option EnvD) (c : List D → EnvD → Option EnvD) : List D → EnvD → Option EnvD := fun ds env => match ds with | [] => none | d :: ds => (b d env).bind (c ds)
def bTup (b : List D → EnvD → Option EnvD) : D → EnvD → Option EnvD := fun d env => match d with | .tup ds => b ds env | _ => none
theorem dgs_nil : DGs G X [] bNil [] := ⟨_, pgs_nil, fun v d σ H env env' φ Q i1 r e k => by
  cases d with
  | nil =>
    cases (show v = [] from i1)
    cases e
    exact ⟨rfl, k σ r ⟨rfl, fun _ _ => rfl⟩⟩
  | cons _ _ => cases e⟩
theorem dgs_cons {e : Expr} {es : List Expr} {b : D → EnvD → Option EnvD} {c : List D → EnvD → Option EnvD} {vs ws : List Nat} (h1 : DG G X e b vs) (h2 : DGs G X es c ws) (hs : List.map (fun x => x.snd) (assignEach (e :: es) X.env) = assign e X.env :: List.map (fun x => x.snd) (assignEach es X.env) := by rfl) : DGs G X (e :: es) (bCons b c) (vs ++ ws) := by
  obtain ⟨g, p, q⟩ := h1
  obtain ⟨g', p', q'⟩ := h2
  refine ⟨_, pgs_cons p p' hs, fun v d σ H env env' φ Q i1 r e k => ?_⟩
  cases d with
  | nil => cases e
  | cons d ds =>
    obtain ⟨x, xs, rfl, i2, i3⟩ := i1
    obtain ⟨env1, e1, e2⟩ := Option.bind_eq_some_iff.mp (show (b d env).bind (c ds) = some env' from e)
    refine ⟨x, xs, rfl, q x d σ H env env1 φ _ i2 r e1 fun σ1 r1 o1 => ?_⟩
    exact q' xs ds σ1 H env1 env' φ Q i3 r1 e2 fun σ2 r2 o2 => k σ2 r2 ⟨o2.1.trans o1.1, fun j hj => (o2.2 j fun z => hj (List.mem_append_right _ z)).trans (o1.2 j fun z => hj (List.mem_append_left _ z))⟩
def BLen (n : Nat) (b : List D → EnvD → Option EnvD) : Prop := ∀ ds env env', b ds env = some env' → ds.length = n
theorem blen_nil : BLen 0 bNil := fun ds env env' e => by
  cases ds with
  | nil => rfl
  | cons _ _ => cases e
theorem blen_cons {n : Nat} {b : D → EnvD → Option EnvD} {c : List D → EnvD → Option EnvD} (h : BLen n c) : BLen (n + 1) (bCons b c) := fun ds env env' e => by
  cases ds with
  | nil => cases e
  | cons d ds =>
    obtain ⟨env1, e1, e2⟩ := Option.bind_eq_some_iff.mp (show (b d env).bind (c ds) = some env' from e)
    simp [h _ _ _ e2]
theorem dg_tup {es : List Expr} {k n : Nat} {pos : Pos} {b : List D → EnvD → Option EnvD} {vs : List Nat} (hc : X.calm = true) (hK : X.K = G.K) (h : DGs G X es b vs) (hb : BLen n b)
    (hn : (assignEach es X.env).length = n := by rfl) (hst : (assignEach es X.env).findIdx? (·.1) = none := by rfl) : DG G X (.Tuple es k pos) (bTup b) vs := by
  obtain ⟨g, p, q⟩ := h
  refine ⟨_, pg_tup (n := n) hc p hn hst, fun v d σ H env env' φ Q i1 r e k => ?_⟩
  cases d with
  | tup ds =>
    obtain ⟨a, xs, rfl, rt, il⟩ := i1
    exact ⟨a, xs, rfl, by rw [hK]; exact rt.seq, by rw [← il.length]; exact hb _ _ _ e, q xs ds σ H env env' φ Q il r e k⟩
  | _ => cases e
def sAsg (f : EM) (b : D → EnvD → Option EnvD) : SM := fun e S => (f e S).bindS e fun d S => match b d e with | some e' => .nx e' S | none => .bad
theorem ds_asg {tg e : Expr} {pos : Pos} {f : EM} {b : D → EnvD → Option EnvD} {vs : List Nat} (he : DE G X W e f) (hg : DG G X tg b vs) (hs : swapsWithSole [tg] e pos.line X.env = pure false := by rfl) (hw : swappedStores [tg] e X.env = pure none := by rfl)
    (h1 : List.map (fun x => x.snd) (assignEach [tg] X.env) = [assign tg X.env] := by rfl) : DS G X W (.Assign [tg] e pos) (sAsg f b) := by
  obtain ⟨t, p, q⟩ := he
  obtain ⟨g, p', q'⟩ := hg
  refine ⟨_, ps_asg p p' hs hw h1, fun σ H env φ S N s re h => ?_⟩
  refine q σ H env φ S _ s re (PostE.bindS re h fun d S1 φ1 H1 v e1 s1 i1 h1 => ?_)
  cases hb : b d env with
  | none => rw [hb] at h1; exact h1.elim
  | some env' =>
    rw [hb] at h1
    exact q' v d σ H1 env env' φ1 _ i1 (re.ext e1) hb fun σ' r' _ => h1 φ1 H1 σ' .refl s1 r'
/-- x = e -/
theorem ds_set {i : Nat} {x : Str} {e : Expr} {pos pos' : Pos} {f : EM} (hN : X.N.Nodup) (hi : X.N[i]? = some x) (hx : Loc X.env.scope x) (he : DE G X W e f) (hs : swapsWith e (some (.Name x pos')) pos.line X.env = pure false := by rfl)
    (hf : X.fn x = true ∨ X.env.scope.names.lookup x = some .local := by first | exact .inl rfl | exact .inr rfl) : DS G X W (.Assign [.Name x pos'] e pos) (sAsg f (bName i)) := by
  obtain ⟨t, p, q⟩ := he
  refine ⟨_, ps_set hN hi hx p hs hf, fun σ H env φ S N s re h => ?_⟩
  refine q σ H env φ S _ s re (PostE.bindS re h fun d S1 φ1 H1 v e1 s1 i1 h1 => ?_)
  exact h1 φ1 H1 _ .refl s1 ((re.ext e1).set i1 i)
end
end DL
end
section
/-! == and != of nested lists and dicts that hold the same. -/
namespace PySem.SeqAt
open AutoSeq1 (wpAny_loadPart')
open MeetsSeq MeetsSeq2 MeetsSeq3 SeqRoads2
section
variable {prog : Program} {w : World}
theorem own_ne_loopIn (l b : Addr) (items items2 : Array Value) (n n2 : Nat) (dd dd2 : Option Addr) (sl sl2 : Array (Option Value)) (hsz : items.size = items2.size) (e : Nat → Bool) (k : Nat) :
    ∀ i : Nat, items.size - i = k → MeetsIn prog w (Builtin.«list.__eq__.loop» ⟨[.ref l, .ref b, rawInt i, rawInt 3], []⟩)
      (fun A R s => s.heap.get? l = some { cls := .type "list", dict := dd, data := .seq items n, slots := sl } ∧ s.heap.get? b = some { cls := .type "list", dict := dd2, data := .seq items2 n2, slots := sl2 } ∧
        (∀ j (h1 : j < items.size) (h2 : j < items2.size), EqP prog w A.in1 s items[j] items2[j] (e j)) ∧
        R (.ok (.ret (.bool (!((List.range items.size).drop i).all e)))) s) := by
  induction k with
  | zero =>
    intro i hk A R s h
    obtain ⟨hp, g, d, tk, os⟩ := s; obtain ⟨hl, hb, he, h⟩ := h
    wp_walk using wpAny_loadPart' hl, wpAny_loadPart' hb
    have hi1 : items[((i : Nat) : Int).toNat]? = none := by simp; omega
    have hi2 : items2[((i : Nat) : Int).toNat]? = none := by simp; omega
    have hd : (List.range items.size).drop i = [] := by simp; omega
    rw [hd] at h
    rw [hi1, hi2]
    wp_walk using wpAny_loadPart' hl, wpAny_loadPart' hb
    show R (.ok (.ret (.bool (items.size != items2.size)))) _
    rw [hsz]
    simpa using h
  | succ k ih =>
    intro i hk A R s h
    obtain ⟨hp, g, d, tk, os⟩ := s; obtain ⟨hl, hb, he, h⟩ := h
    wp_walk using wpAny_loadPart' hl, wpAny_loadPart' hb
    have hlt : i < items.size := by omega
    have hlt2 : i < items2.size := by omega
    have hi1 : items[((i : Nat) : Int).toNat]? = some items[i] := by simp [hlt]
    have hi2 : items2[((i : Nat) : Int).toNat]? = some items2[i] := by simp [hlt2]
    have hd : (List.range items.size).drop i = i :: (List.range items.size).drop (i + 1) := by simp [List.drop_eq_getElem_cons, hlt]
    have hc : ((i : Int) + 1) = ((i + 1 : Nat) : Int) := by push_cast; rfl
    rw [hd, List.all_cons] at h
    rw [hi1, hi2]
    refine wpAny_bind (he i hlt hlt2 _ _ ?_)
    cases hb' : e i with
    | true =>
      rw [hb'] at h
      wp_walk
      rw [hc]
      exact ⟨plainId_quiet plain_eq_loop _, codeAny_builtin entry_eq_loop (by
        rw [Around.under_plainId plain_eq_loop _]
        exact ih (i + 1) (by omega) A R _ ⟨hl, hb, he, by simpa using h⟩)⟩
    | false =>
      rw [hb'] at h
      wp_walk using wpAny_loadPart' hl, wpAny_loadPart' hb
      rw [hi1, hi2]
      wp_walk
      simpa using h
theorem own_list_neIn (l b : Addr) (items items2 : Array Value) (n n2 : Nat) (dd dd2 : Option Addr) (sl sl2 : Array (Option Value)) (hsz : items.size = items2.size) (e : Nat → Bool) :
    MeetsIn prog w (Builtin.«list.__ne__» ⟨[.ref l, .ref b], []⟩)
      (fun A R s => s.heap.get? l = some { cls := .type "list", dict := dd, data := .seq items n, slots := sl } ∧ s.heap.get? b = some { cls := .type "list", dict := dd2, data := .seq items2 n2, slots := sl2 } ∧
        (∀ j (h1 : j < items.size) (h2 : j < items2.size), EqP prog w A.in1 s items[j] items2[j] (e j)) ∧
        R (.ok (.ret (.bool (!(List.range items.size).all e)))) s) := by
  intro A R s h
  obtain ⟨hp, g, d, tk, os⟩ := s; obtain ⟨hl, hb, he, h⟩ := h
  have f3 := AutoSeq1.sub_list_list
  have hne : ¬ (items.size != items2.size) = true := by simp [hsz]
  wp_walk using wpAny_loadPart' hl, wpAny_loadPart' hb
  exact ⟨plainId_quiet plain_eq_loop _, codeAny_builtin entry_eq_loop (by
    rw [Around.under_plainId plain_eq_loop _]
    exact own_ne_loopIn l b items items2 n n2 dd dd2 sl sl2 hsz e _ 0 rfl A R _ ⟨hl, hb, he, by simpa using h⟩)⟩
theorem rcNeP_lists {A : Around} {s : Shared} {l b : Addr} {items items2 : Array Value} {e : Nat → Bool} (hl : s.heap.IsList l items) (hb : s.heap.IsList b items2) (hsz : items.size = items2.size) (hu : A.units < cLine)
    (he : ∀ j (h1 : j < items.size) (h2 : j < items2.size), EqP prog w A.in1 s items[j] items2[j] (e j)) (E Q : Value → Shared → Prop) (h : Q (.bool (!(List.range items.size).all e)) s) : wpAny (model prog w) A (richCompare .NotEq (.ref l) (.ref b)) Q E s := by
  obtain ⟨⟨cls, dd, data, sl⟩, ho, hc, n, hd⟩ := id hl
  obtain ⟨⟨cls2, dd2, data2, sl2⟩, ho2, hc2, n2, hd2⟩ := id hb
  simp only at hc hd hc2 hd2
  subst hc hd hc2 hd2
  have ta : s.TypeIs (.ref l) "list" := ⟨_, ho, rfl⟩
  have tb : s.TypeIs (.ref b) "list" := ⟨_, ho2, rfl⟩
  exact wpAny_richCompare_same_room (op := .NotEq) ta tb F.slot_list_ne (call_meetsIn F.slot_list_ne ta F.entry_list_ne (F.args_list_ne_2 _ _) (own_list_neIn l b items items2 n n2 dd dd2 sl sl2 hsz e)
    ⟨ho, ho2, he, show Value.bool (!(List.range items.size).all e) ≠ Value.notImplemented ∧ Q (.bool (!(List.range items.size).all e)) s from ⟨(fun x => nomatch x), h⟩⟩) hu
end
end PySem.SeqAt
namespace PySem.W
open PySem PySem.SeqAt PyProof.Rows
section
variable {prog : Program} {w : World} {A : Around} {s : Shared} {K : Type} [DecidableEq K] {knd : KeyKind prog w K}
theorem rcNeP_dicts {a b : Addr} {ka kb : List (K × Value)} {r : Bool} (ha : (a == sysModules) = false) (hb : (b == sysModules) = false)
    (da : s.heap.DictOf knd a ka) (db : s.heap.DictOf knd b kb) (hu : A.units < cLine) (hits : ka.length = kb.length → KeqHitsP prog w A.in1 s kb ka r) (E Q : Value → Shared → Prop) (h : Q (.bool (!(ka.length == kb.length && r))) s) : wpAny (model prog w) A (richCompare .NotEq (.ref a) (.ref b)) Q E s := by
  refine wpAny_richCompare_same_room (op := .NotEq) da.typeIs db.typeIs PySem.F.slot_dict_ne (wpAny_call_entry PySem.F.slot_dict_ne da.typeIs PySem.F.entry_dict_ne ?_ (PySem.F.args_dict_ne_2 _ _)) hu
  show wpAny _ _ (Builtin.Dict.dictSlotArgs "__ne__" ⟨[.ref a, .ref b], []⟩ >>= _) _ _ s
  refine wpAny_bind ?_
  unfold Builtin.Dict.dictSlotArgs
  refine wpAny_bind (wpAny_notOrdered_dict da.typeIs ?_)
  show wpAny _ _ (pure (Value.ref a, Value.ref b)) _ _ s
  refine wpAny_pure ?_
  refine wpAny_bind (wpAny_isInstance (T := "dict") db.typeIs PySem.F.sub_dict_dict ?_)
  simp only [Bool.not_true, Bool.false_eq_true, if_false]
  refine wpAny_bind (wpAny_pure (wpAny_bind (wpAny_pure ?_)))
  refine wpAny_bind (samePairsP ha hb da db hits ?_)
  refine wpAny_pure ⟨_, rfl, ?_, ?_⟩
  · exact fun x => nomatch x
  · simpa using h
end
end PySem.W
namespace L2
open PySem PySem.Spec PyProof.Rows
/-- two things that hold the same, of nesting below n -/
def EqW (K : PySem.W.Frag) (H : Hp) : Nat → V → V → Prop
  | 0 => fun _ _ => False
  | n + 1 => fun x y => (∃ p, Dp K H x p ∧ Dp K H y p ∧ SeqAt.shaped p = true ∧ PyData.eqv p p = true) ∨ (∃ a b xs ys, x = .ref a ∧ y = .ref b ∧ SqL K H a xs ∧ SqL K H b ys ∧ Paired (EqW K H n) xs ys) ∨
      ∃ a b ks ls, x = .ref a ∧ y = .ref b ∧ Rd H a (.dK ks) ∧ Rd H b (.dK ls) ∧ ks.map (·.1) = ls.map (·.1) ∧ Paired (EqW K H n) (ks.map (·.2)) (ls.map (·.2))
/-- two lists, two dicts -/
def EqT (K : PySem.W.Frag) (H : Hp) (n : Nat) (x y : V) : Prop := (∃ a b xs ys, x = .ref a ∧ y = .ref b ∧ SqL K H a xs ∧ SqL K H b ys ∧ Paired (EqW K H n) xs ys) ∨
      ∃ a b ks ls, x = .ref a ∧ y = .ref b ∧ Rd H a (.dK ks) ∧ Rd H b (.dK ls) ∧ ks.map (·.1) = ls.map (·.1) ∧ Paired (EqW K H n) (ks.map (·.2)) (ls.map (·.2))
theorem valV_mem {ls : List (Key × V)} (nd : (ls.map (·.1)).Nodup) : ∀ {k : Key} {u : V}, (k, u) ∈ ls → valV ls k = some u := by
  induction ls with
  | nil => intro k u h; simp at h
  | cons p ls ih =>
    intro k u h
    rw [List.map_cons, List.nodup_cons] at nd
    rcases List.mem_cons.mp h with e | h
    · subst e
      exact valV_pos rfl
    · rw [valV_neg fun e => nd.1 (by rw [e]; exact List.mem_map.mpr ⟨_, h, rfl⟩)]
      exact ih nd.2 h
theorem paired_zip {F : V → V → Prop} : ∀ {ks ls : List (Key × V)}, ks.map (·.1) = ls.map (·.1) → Paired F (ks.map (·.2)) (ls.map (·.2)) → ∀ p ∈ ks, ∃ u, (p.1, u) ∈ ls ∧ F p.2 u
  | [], _, _, _, p, h => by simp at h
  | k :: ks, [], e, _, _, _ => by simp at e
  | k :: ks, l :: ls, e, q, p, h => by
    simp only [List.map_cons, List.cons.injEq] at e
    cases q with
    | cons r t =>
      rcases List.mem_cons.mp h with e2 | h
      · subst e2
        exact ⟨l.2, by rw [e.1]; simp, r⟩
      · obtain ⟨u, h1, h2⟩ := paired_zip e.2 t p h
        exact ⟨u, List.mem_cons_of_mem _ h1, h2⟩
theorem KV.keysV {ls : List (Key × V)} {vb : List (Key × Value)} (r : KV ls vb) : ls.map (·.1) = vb.map (·.1) := by
  unfold KV at r
  induction r with
  | nil => rfl
  | cons h _ ih => simp [h.1, ih]
section
variable {X : Cx} {pins : List (Addr × Obj)} {σ : St} {H : Hp} {s : Shared}
theorem eqT_dicts (I : Inv X pins σ H s) {A : Around} {F : V → V → Prop} (hu : A.units < cLine) (ih : ∀ x y v u, F x y → RelV x v → RelV y u → SeqAt.EqP X.prog X.w A.in1 s v u true) {a b : Addr} {ks ls : List (Key × V)} (ha : Rd H a (.dK ks)) (hb : Rd H b (.dK ls)) (ek : ks.map (·.1) = ls.map (·.1))
    (hp : Paired F (ks.map (·.2)) (ls.map (·.2))) : ∃ (ka kb : List (Key × Value)), (a == sysModules) = false ∧ (b == sysModules) = false ∧ s.heap.DictOf (mixKind X.prog X.w) a ka ∧ s.heap.DictOf (mixKind X.prog X.w) b kb ∧ PySem.W.KeqHitsP X.prog X.w A.in1 s kb ka true ∧ (ka.length == kb.length && true) = true := by
  obtain ⟨_, ya, va, ra, da⟩ := (show ObjOk X.prog X.w H s.heap a (.dK ks) from ha.ok I.hok)
  obtain ⟨_, yb, vb, rb, db⟩ := (show ObjOk X.prog X.w H s.heap b (.dK ls) from hb.ok I.hok)
  have nd : (ls.map (·.1)).Nodup := by
    obtain ⟨_, _, _, _, _, _, _, _, nd⟩ := id db
    rw [KV.keysV rb]; exact nd
  refine ⟨va, vb, ya, yb, da, db, hits_run ih rb ra (fun p hm => ?_), ?_⟩
  · obtain ⟨u, h1, h2⟩ := paired_zip ek hp p hm
    exact ⟨u, valV_mem nd h1, h2⟩
  · have e : va.length = vb.length := by
      rw [← ra.length, ← rb.length]
      simpa using congrArg List.length ek
    rw [e]; simp
theorem eqW_run (I : Inv X pins σ H s) : ∀ (n : Nat) (A : Around), A.units + n + 65 < cLine → ∀ (x y : V) (v u : Value), EqW X.K H n x y → RelV x v → RelV y u → SeqAt.EqP X.prog X.w A s v u true
  | 0, _, _, _, _, _, _, h, _, _ => (show False from h).elim
  | n + 1, A, hu, x, y, v, u, h, rx, ry => by
    have ih := eqW_run I n A.in1 (by show A.units + 1 + n + 65 < cLine; omega)
    rcases h with ⟨p, dx, dy, hs, he⟩ | ⟨a, b, xs, ys, rfl, rfl, ha, hb, hp⟩ | ⟨a, b, ks, ls, rfl, rfl, ha, hb, ek, hp⟩
    · obtain ⟨as, r1⟩ := Dp.reads I p x v dx rx
      obtain ⟨bs, r2⟩ := Dp.reads I p y u dy ry
      have q := SeqAt.eqAt_reads p p A s v u as bs r1 r2 (SeqAt.canLay_of_shaped hs) (SeqAt.canLay_of_shaped hs) (SeqAt.room_of_shaped hs (by omega))
      rw [he] at q
      exact q.eqP
    · cases (show v = Value.ref a from rx)
      cases (show u = Value.ref b from ry)
      by_cases e : a = b
      · subst e; exact (SeqAt.EqAt.same _).eqP
      · refine SeqAt.eqP_refs e fun E Q q => ?_
        obtain ⟨us, r1, p1, _⟩ := I.list ha
        obtain ⟨ws, r2, p2, _⟩ := I.list hb
        have hsz : us.toArray.size = ws.toArray.size := by
          rw [List.size_toArray, List.size_toArray, ← r1.length, ← r2.length]
          exact Paired.length hp
        refine SeqAt.rcP_lists (e := fun _ => true) p1.isList p2.isList hsz (by omega) (fun j h1 h2 => ?_) E Q ?_
        · have k := items_run ih hp r1 r2 j (by simpa using h1) (by simpa using h2)
          simpa using k
        · rw [show ((List.range us.toArray.size).all fun _ => true) = true from List.all_eq_true.mpr fun _ _ => rfl]
          exact q
    · cases (show v = Value.ref a from rx)
      cases (show u = Value.ref b from ry)
      by_cases e : a = b
      · subst e; exact (SeqAt.EqAt.same _).eqP
      · refine SeqAt.eqP_refs e fun E Q q => ?_
        obtain ⟨va, vb, ya, yb, da, db, hits, hl⟩ := eqT_dicts I (A := A) (by omega) ih ha hb ek hp
        refine PySem.W.rcP_dicts (knd := mixKind X.prog X.w) (r := true) ya yb da db (by omega) (fun _ => hits) E Q ?_
        rw [hl]; exact q
theorem eqT_run (I : Inv X pins σ H s) {A : Around} {n : Nat} (hn : n ≤ 20) (hu : A.units + 100 < cLine) {x y : V} {v u : Value} (h : EqT X.K H n x y) (rx : RelV x v) (ry : RelV y u) (E Q : Value → Shared → Prop) :
    (Q (.bool true) s → wpAny (model X.prog X.w) A (richCompare .Eq v u) Q E s) ∧ (Q (.bool false) s → wpAny (model X.prog X.w) A (richCompare .NotEq v u) Q E s) := by
  have ih := eqW_run I n A.in1 (by show A.units + 1 + n + 65 < cLine; omega)
  rcases h with ⟨a, b, xs, ys, rfl, rfl, ha, hb, hp⟩ | ⟨a, b, ks, ls, rfl, rfl, ha, hb, ek, hp⟩
  · cases (show v = Value.ref a from rx)
    cases (show u = Value.ref b from ry)
    obtain ⟨us, r1, p1, _⟩ := I.list ha
    obtain ⟨ws, r2, p2, _⟩ := I.list hb
    have hsz : us.toArray.size = ws.toArray.size := by
      rw [List.size_toArray, List.size_toArray, ← r1.length, ← r2.length]
      exact Paired.length hp
    have it : ∀ j (h1 : j < us.toArray.size) (h2 : j < ws.toArray.size), SeqAt.EqP X.prog X.w A.in1 s us.toArray[j] ws.toArray[j] true := fun j h1 h2 => by
      have k := items_run ih hp r1 r2 j (by simpa using h1) (by simpa using h2)
      simpa using k
    have al : ((List.range us.toArray.size).all fun _ => true) = true := List.all_eq_true.mpr fun _ _ => rfl
    exact ⟨fun q => SeqAt.rcP_lists (e := fun _ => true) p1.isList p2.isList hsz (by omega) it E Q (by rw [al]; exact q), fun q => SeqAt.rcNeP_lists (e := fun _ => true) p1.isList p2.isList hsz (by omega) it E Q (by rw [al]; exact q)⟩
  · cases (show v = Value.ref a from rx)
    cases (show u = Value.ref b from ry)
    obtain ⟨va, vb, ya, yb, da, db, hits, hl⟩ := eqT_dicts I (A := A) (by omega) ih ha hb ek hp
    exact ⟨fun q => PySem.W.rcP_dicts (knd := mixKind X.prog X.w) (r := true) ya yb da db (by omega) (fun _ => hits) E Q (by rw [hl]; exact q), fun q => PySem.W.rcNeP_dicts (knd := mixKind X.prog X.w) (r := true) ya yb da db (by omega) (fun _ => hits) E Q (by rw [hl]; exact q)⟩
end
section
variable {X : Cx}
def rEqT (K : PySem.W.Frag) (r : Bool) : R2 := fun x y H Q => ∃ n, n ≤ 20 ∧ EqT K H n x y ∧ Q (.bl r) H
theorem op_eqT (hu : X.A.units + 100 < cLine) : OpR X (compareOp .Eq) (rEqT X.K true) := by
  intro pins s σ H x y v u Q I rx ry ⟨n, hn, h, q⟩
  exact (eqT_run I hn hu h rx ry _ _).1 ⟨.bl true, H, I, rfl, q⟩
theorem op_neT (hu : X.A.units + 100 < cLine) : OpR X (compareOp .NotEq) (rEqT X.K false) := by
  intro pins s σ H x y v u Q I rx ry ⟨n, hn, h, q⟩
  exact (eqT_run I hn hu h rx ry _ _).2 ⟨.bl false, H, I, rfl, q⟩
end
end L2
end
section
/-! D-layer, part 2: operators, subscripts, calls of built-ins. -/
namespace DL
open PySem L2
variable [DL.Nm]

/-- the items of a list, be it a value or a cell -/
def listD (S : Store) : D → Option (List D)
  | .lst ds => some ds
  | .loc l => match S[l]? with
    | some (.lst ds) => some ds
    | _ => none
  | _ => none
def tupD : D → Option (List D)
  | .tup ds => some ds
  | _ => none
section
variable {G : Glb} {X : Cx} {W : WX} {φ : Fi} {S : Store} {H : Hp} {σ : St}
theorem listD_sq {d : D} {v : V} {ds : List D} (s : SOk G φ S H) (i : Is G φ H d v) (e : listD S d = some ds) : ∃ a xs, v = .ref a ∧ SqL G.K H a xs ∧ IsL G φ H ds xs := by
  cases d with
  | lst es =>
    cases e
    obtain ⟨a, xs, e1, r, q⟩ := i
    exact ⟨a, xs, e1, r.seq, q⟩
  | loc l =>
    obtain ⟨a, ha, e1⟩ := i
    simp only [listD] at e
    cases hc : S[l]? with
    | none => rw [hc] at e; cases e
    | some c =>
      rw [hc] at e
      have k := s.at_ hc ha
      cases c with
      | lst es =>
        cases e
        obtain ⟨xs, hx, q⟩ := k
        exact ⟨a, xs, e1, SqL.of hx, q⟩
      | _ => cases e
  | _ => cases e
theorem tupD_sq {d : D} {v : V} {ds : List D} (i : Is G φ H d v) (e : tupD d = some ds) : ∃ a xs, v = .ref a ∧ SqT G.K H a xs ∧ IsL G φ H ds xs := by
  cases d with
  | tup es =>
    cases e
    obtain ⟨a, xs, e1, r, q⟩ := i
    exact ⟨a, xs, e1, r.seq, q⟩
  | _ => cases e

/-! ### + - * // % ** -/
theorem add_lst_any {pins : List (Addr × Obj)} {s : Shared} {xs ys : List V} {a b : Addr} {E : Value → Shared → Prop} {Q : VK} (I : Inv X pins σ H s) (ha : SqL X.K H a xs) (hb : SqL X.K H b ys) (hz : xs.length + ys.length ≤ sizeLine)
    (q : ∀ p, H p = none → Q (.ref p) (upd H p (.lst (xs ++ ys)))) : wpAny (model X.prog X.w) X.A (binaryOp .Add (.ref a) (.ref b)) (EP X pins σ Q) E s := by
  obtain ⟨i1, r1, ⟨⟨c1, d1, t1, sl1⟩, n1, g1, hc1, hd1, ht1⟩, _⟩ := I.list ha
  obtain ⟨i2, r2, ⟨⟨c2, d2, t2, sl2⟩, n2, g2, hc2, hd2, ht2⟩, _⟩ := I.list hb
  simp only at hc1 hd1 ht1 hc2 hd2 ht2
  subst hc1 hd1 ht1 hc2 hd2 ht2
  have l1 := r1.length
  have l2 := r2.length
  have hj : i1.toArray ++ i2.toArray = (i1 ++ i2).toArray := by simp
  refine concat_meets ⟨_, g1, rfl⟩ ⟨_, g2, rfl⟩ noFill_list_add seq_list_add PySem.F.slot_list_add PySem.F.entry_list_add (PySem.F.args_list_add_2 _ _) (PyProof.Rows.list_addW a b i1.toArray i2.toArray n1 n2 none none sl1 sl2 (by simp; omega)) ⟨g1, g2, ?_⟩
  rw [hj]
  exact ⟨.ref _, _, I.lnew (t' := s.toks) (r1.append r2) (by rw [List.length_append]; omega), rfl, q _ I.fresh⟩
def rCatL (K : PySem.W.Frag) : R2 := fun x y H Q => ∃ l b xs zs, x = .ref l ∧ y = .ref b ∧ SqL K H l xs ∧ SqL K H b zs ∧ xs.length + zs.length ≤ sizeLine ∧ ∀ p, H p = none → Q (.ref p) (upd H p (.lst (xs ++ zs)))
theorem op_catL : OpR X (binaryOp .Add) (rCatL X.K) := by
  rintro pins s σ H x y v u Q I rx ry ⟨l, b, xs, zs, rfl, rfl, h1, h2, hz, q⟩
  cases rx
  cases ry
  exact add_lst_any I h1 h2 hz q
noncomputable def opAdd (x y : D) (S : Store) : ER := match x, y with
  | .int i, .int j => .ok (.int (i + j)) S
  | .str a, .str b => if sz (a.length + b.length) then .ok (.str (a ++ b)) S else .bad
  | .tup a, .tup b => if sz (a.length + b.length) then .ok (.tup (a ++ b)) S else .bad
  | x, y => match listD S x, listD S y with
    | some a, some b => if sz (a.length + b.length) then .ok (.lst (a ++ b)) S else .bad
    | _, _ => .bad
theorem bad_no {φ : Fi} {H : Hp} {Q : VK} {P : Prop} (h : PostE G W φ H σ .bad Q) : P := False.elim h
theorem do_add (hK : X.K = G.K) : DOp G X (binaryOp .Add) opAdd := by
  refine ⟨_, (op_add.or op_add_str).or (op_catA.or op_catL), fun W φ S H σ dx dy x y Q s ix iy h => ?_⟩
  unfold opAdd at h
  split at h
  · cases (show x = _ from ix); cases (show y = _ from iy)
    exact .inl (.inl ⟨_, _, rfl, rfl, h.now s rfl⟩)
  · cases (show x = _ from ix); cases (show y = _ from iy)
    split at h
    · exact .inl (.inr ⟨_, _, rfl, rfl, sizeLine_is (by assumption), h.now s rfl⟩)
    · exact bad_no h
  · split at h
    · rename_i a b hl
      obtain ⟨p, xs, rfl, r1, q1⟩ := ix
      obtain ⟨p2, ys, rfl, r2, q2⟩ := iy
      refine .inr (.inl ⟨p, p2, xs, ys, rfl, rfl, by rw [hK]; exact r1.seq, by rw [hK]; exact r2.seq, by rw [← q1.length, ← q2.length]; exact sizeLine_is hl, fun e => ?_, fun _ e => ?_, fun _ _ p hp => tup_new s (q1.append q2) h hp⟩)
      · subst e
        have z : a = [] := List.eq_nil_of_length_eq_zero (by simpa using q1.length)
        subst z
        exact h.now s ⟨p2, ys, rfl, r2, q2⟩
      · subst e
        have z : b = [] := List.eq_nil_of_length_eq_zero (by simpa using q2.length)
        subst z
        rw [List.append_nil] at h
        exact h.now s ⟨p, xs, rfl, r1, q1⟩
    · exact bad_no h
  · split at h
    · split at h
      · rename_i a b e1 e2 hl
        obtain ⟨p, xs, rfl, r1, q1⟩ := listD_sq s ix e1
        obtain ⟨p2, ys, rfl, r2, q2⟩ := listD_sq s iy e2
        exact .inr (.inr ⟨p, p2, xs, ys, rfl, rfl, by rw [hK]; exact r1, by rw [hK]; exact r2, by rw [← q1.length, ← q2.length]; exact sizeLine_is hl, fun p hp => lst_new s (q1.append q2) h hp⟩)
      · exact bad_no h
    · exact bad_no h
def opI (g : Int → Int → ER) (x y : D) : ER := match x, y with
  | .int i, .int j => g i j
  | _, _ => .bad
def opSub (x y : D) (S : Store) : ER := opI (fun i j => .ok (.int (i - j)) S) x y
theorem do_sub : DOp G X (binaryOp .Sub) opSub := by
  refine ⟨_, op_sub, fun W φ S H σ dx dy x y Q s ix iy h => ?_⟩
  unfold opSub opI at h
  dsimp only at h
  split at h
  · cases (show x = _ from ix); cases (show y = _ from iy)
    exact ⟨_, _, rfl, rfl, h.now s rfl⟩
  · exact bad_no h
/-- a factor within 64 bits, or both together within a million bits -/
def mulOk (i j : Int) : Prop := i.natAbs < 18446744073709551616 ∨ j.natAbs < 18446744073709551616 ∨ i.natAbs.log2 + j.natAbs.log2 < 1000000
noncomputable instance {i j : Int} : Decidable (mulOk i j) := Classical.propDecidable _
noncomputable def opMul (x y : D) (S : Store) : ER := opI (fun i j => if mulOk i j then .ok (.int (i * j)) S else .bad) x y
theorem do_mul : DOp G X (binaryOp .Mult) opMul := by
  refine ⟨_, op_mul.or op_mulW, fun W φ S H σ dx dy x y Q s ix iy h => ?_⟩
  unfold opMul opI at h
  dsimp only at h
  split at h
  · rename_i i j
    cases (show x = _ from ix); cases (show y = _ from iy)
    split at h
    · rename_i hm
      rcases hm with hm | hm | hm
      · exact .inl ⟨_, _, rfl, rfl, .inl (by omega), h.now s rfl⟩
      · exact .inl ⟨_, _, rfl, rfl, .inr (by omega), h.now s rfl⟩
      · exact .inr ⟨_, _, rfl, rfl, hm, h.now s rfl⟩
    · exact bad_no h
  · exact bad_no h
def opMod (x y : D) (S : Store) : ER := opI (fun i j => if 0 < j then .ok (.int (i % j)) S else .bad) x y
theorem do_mod : DOp G X (binaryOp .Mod) opMod := by
  refine ⟨_, op_mod, fun W φ S H σ dx dy x y Q s ix iy h => ?_⟩
  unfold opMod opI at h
  dsimp only at h
  split at h
  · cases (show x = _ from ix); cases (show y = _ from iy)
    split at h
    · rename_i hj
      exact ⟨_, _, rfl, rfl, hj, h.now s rfl⟩
    · exact bad_no h
  · exact bad_no h
def divOk (j : Int) : Prop := 0 < j ∧ (j < 1073741824 ∨ j.natAbs.log2 < 9000)
noncomputable instance {j : Int} : Decidable (divOk j) := Classical.propDecidable _
noncomputable def opFdiv (x y : D) (S : Store) : ER := opI (fun i j => if divOk j then .ok (.int (i / j)) S else .bad) x y
theorem do_fdiv : DOp G X (binaryOp .FloorDiv) opFdiv := by
  refine ⟨_, op_fdiv.or op_fdivW, fun W φ S H σ dx dy x y Q s ix iy h => ?_⟩
  unfold opFdiv opI at h
  dsimp only at h
  split at h
  · cases (show x = _ from ix); cases (show y = _ from iy)
    split at h
    · rename_i hj
      obtain ⟨h1, h2 | h2⟩ := hj
      · exact .inl ⟨_, _, rfl, rfl, ⟨h1, h2⟩, h.now s rfl⟩
      · exact .inr ⟨_, _, rfl, rfl, ⟨h1, h2⟩, h.now s rfl⟩
    · exact bad_no h
  · exact bad_no h
def powOk (i j : Int) : Prop := 0 ≤ j ∧ j ≤ 1000000 ∧ i.natAbs < 18446744073709551616
noncomputable instance {i j : Int} : Decidable (powOk i j) := Classical.propDecidable _
noncomputable def opPow (x y : D) (S : Store) : ER := opI (fun i j => if powOk i j then .ok (.int (i ^ j.toNat)) S else .bad) x y
theorem do_pow : DOp G X (binaryOp .Pow) opPow := by
  refine ⟨_, op_pow, fun W φ S H σ dx dy x y Q s ix iy h => ?_⟩
  unfold opPow opI at h
  dsimp only at h
  split at h
  · cases (show x = _ from ix); cases (show y = _ from iy)
    split at h
    · rename_i hj
      exact ⟨_, _, rfl, rfl, ⟨hj.1, hj.2.1, Nat.lt_of_lt_of_le hj.2.2 (by decide)⟩, h.now s rfl⟩
    · exact bad_no h
  · exact bad_no h
def mulSOk (i j : Int) : Prop := i.natAbs < 18446744073709551616 ∨ j.natAbs < 18446744073709551616
noncomputable instance {i j : Int} : Decidable (mulSOk i j) := Classical.propDecidable _
noncomputable def opMulS (x y : D) (S : Store) : ER := opI (fun i j => if mulSOk i j then .ok (.int (i * j)) S else .bad) x y
def opAddI (x y : D) (S : Store) : ER := opI (fun i j => .ok (.int (i + j)) S) x y
def eNeg (f : EM) : EM := fun env S => (f env S).bind fun d S => match d with | .int i => .ok (.int (-i)) S | _ => .bad
theorem de_neg {a : Expr} {pos : Pos} {f : EM} (ha : DE G X W a f) : DE G X W (.UnaryOp .USub a pos) (eNeg f) := by
  obtain ⟨ta, pa, qa⟩ := ha
  refine ⟨_, pe_un un_neg pa, fun σ H env φ S Q s re h => ?_⟩
  refine qa σ H env φ S _ s re (PostE.bind h fun d S1 φ1 H1 v e1 s1 i1 h1 => ?_)
  cases d with
  | int i => exact ⟨i, i1, h1.now s1 rfl⟩
  | _ => exact False.elim h1

/-! ### comparisons -/
def opCmp (g : Int → Int → Bool) (x y : D) (S : Store) : ER := opI (fun i j => .ok (.bl (g i j)) S) x y
theorem do_cmp {f : Value → Value → Sem Value} {g : Int → Int → Bool} (ho : OpR X f (rI0 fun i j => .bl (g i j))) : DOp G X f (opCmp g) := by
  refine ⟨_, ho, fun W φ S H σ dx dy x y Q s ix iy h => ?_⟩
  unfold opCmp opI at h
  dsimp only at h
  split at h
  · cases (show x = _ from ix); cases (show y = _ from iy)
    exact ⟨_, _, rfl, rfl, h.now s rfl⟩
  · exact bad_no h
def opLt := opCmp fun i j => decide (i < j)
def opLe := opCmp fun i j => decide (i ≤ j)
def opGt := opCmp fun i j => decide (j < i)
def opGe := opCmp fun i j => decide (j ≤ i)
theorem do_lt : DOp G X (compareOp .Lt) opLt := do_cmp op_lt
theorem do_le : DOp G X (compareOp .LtE) opLe := do_cmp op_le
theorem do_gt : DOp G X (compareOp .Gt) opGt := do_cmp op_gt
theorem do_ge : DOp G X (compareOp .GtE) opGe := do_cmp op_ge
/-- a list of plain things -/
def pyFs : List D → Option (List PyData)
  | [] => some []
  | .non :: ds => (pyFs ds).map (.none :: ·)
  | .bl b :: ds => (pyFs ds).map (.bool b :: ·)
  | .int i :: ds => (pyFs ds).map (.int i :: ·)
  | .str x :: ds => (pyFs ds).map (.str x :: ·)
  | _ :: _ => none
theorem pyFs_dp : ∀ {ds : List D} {vs : List V} {ps : List PyData}, IsL G φ H ds vs → pyFs ds = some ps → DpAll G.K H vs ps
  | [], vs, ps, i, e => by cases (show vs = [] from i); cases e; exact .nil
  | .non :: ds, vs, ps, i, e => by
    obtain ⟨x, r, rfl, p, q⟩ := i
    obtain ⟨b, e3, e4⟩ := Option.map_eq_some_iff.mp (show (pyFs ds).map (PyData.none :: ·) = some ps from e)
    subst e4; cases (show x = _ from p); exact .cons .non (pyFs_dp q e3)
  | .bl k :: ds, vs, ps, i, e => by
    obtain ⟨x, r, rfl, p, q⟩ := i
    obtain ⟨b, e3, e4⟩ := Option.map_eq_some_iff.mp (show (pyFs ds).map (PyData.bool k :: ·) = some ps from e)
    subst e4; cases (show x = _ from p); exact .cons (.bl k) (pyFs_dp q e3)
  | .int k :: ds, vs, ps, i, e => by
    obtain ⟨x, r, rfl, p, q⟩ := i
    obtain ⟨b, e3, e4⟩ := Option.map_eq_some_iff.mp (show (pyFs ds).map (PyData.int k :: ·) = some ps from e)
    subst e4; cases (show x = _ from p); exact .cons (.int k) (pyFs_dp q e3)
  | .str k :: ds, vs, ps, i, e => by
    obtain ⟨x, r, rfl, p, q⟩ := i
    obtain ⟨b, e3, e4⟩ := Option.map_eq_some_iff.mp (show (pyFs ds).map (PyData.str k :: ·) = some ps from e)
    subst e4; cases (show x = _ from p); exact .cons (.str k) (pyFs_dp q e3)
  | .tup _ :: _, _, _, _, e => nomatch e
  | .lst _ :: _, _, _, _, e => nomatch e
  | .dic _ _ :: _, _, _, _, e => nomatch e
  | .obj _ _ _ :: _, _, _, _, e => nomatch e
  | .loc _ :: _, _, _, _, e => nomatch e
  | .dct _ _ :: _, _, _, _, e => nomatch e
  | .exn _ _ _ :: _, _, _, _, e => nomatch e
  | .tpl _ :: _, _, _, _, e => nomatch e
mutual
/-- data for == -/
def D.py (S : Store) : D → Option PyData
  | .non => some .none
  | .bl b => some (.bool b)
  | .int i => some (.int i)
  | .str x => some (.str x)
  | .tup ds => (D.pys S ds).map .tuple
  | .lst ds => (D.pys S ds).map .list
  | .loc l => match S[l]? with
    | some (.lst ds) => (pyFs ds).map .list
    | _ => none
  | _ => none
def D.pys (S : Store) : List D → Option (List PyData)
  | [] => some []
  | d :: ds => (D.py S d).bind fun a => (D.pys S ds).map (a :: ·)
end
mutual
theorem D.py_dp (s : SOk G φ S H) : ∀ {d : D} {v : V} {p : PyData}, Is G φ H d v → D.py S d = some p → Dp G.K H v p
  | .non, v, p, i, e => by cases (show v = _ from i); cases e; exact .non
  | .bl b, v, p, i, e => by cases (show v = _ from i); cases e; exact .bl b
  | .int b, v, p, i, e => by cases (show v = _ from i); cases e; exact .int b
  | .str b, v, p, i, e => by cases (show v = _ from i); cases e; exact .str b
  | .tup ds, v, p, i, e => by
    obtain ⟨a, xs, rfl, r, q⟩ := i
    obtain ⟨ps, e1, e2⟩ := Option.map_eq_some_iff.mp (show (D.pys S ds).map PyData.tuple = some p from e)
    subst e2
    exact .tup r.seq (D.pys_dp s q e1)
  | .lst ds, v, p, i, e => by
    obtain ⟨a, xs, rfl, r, q⟩ := i
    obtain ⟨ps, e1, e2⟩ := Option.map_eq_some_iff.mp (show (D.pys S ds).map PyData.list = some p from e)
    subst e2
    exact .lst r.seq (D.pys_dp s q e1)
  | .dic _ _, _, _, _, e => nomatch e
  | .obj _ _ _, _, _, _, e => nomatch e
  | .dct _ _, _, _, _, e => nomatch e
  | .exn _ _ _, _, _, _, e => nomatch e
  | .tpl _, _, _, _, e => nomatch e
  | .loc l, v, p, i, e => by
    simp only [D.py] at e
    split at e
    · rename_i h
      obtain ⟨ps, e1, e2⟩ := Option.map_eq_some_iff.mp e
      subst e2
      obtain ⟨a, xs, e3, r, q⟩ := listD_sq s (show Is G φ H (.loc l) v from i) (show listD S (.loc l) = some _ by simp only [listD]; rw [h])
      subst e3
      exact .lst r (pyFs_dp q e1)
    · cases e
theorem D.pys_dp (s : SOk G φ S H) : ∀ {ds : List D} {vs : List V} {ps : List PyData}, IsL G φ H ds vs → D.pys S ds = some ps → DpAll G.K H vs ps
  | [], vs, ps, i, e => by cases (show vs = [] from i); cases e; exact .nil
  | d :: ds, vs, ps, i, e => by
    obtain ⟨x, r, rfl, p, q⟩ := i
    obtain ⟨a, e1, e2⟩ := Option.bind_eq_some_iff.mp (show ((D.py S d).bind fun a => (D.pys S ds).map (a :: ·)) = some ps from e)
    obtain ⟨b, e3, e4⟩ := Option.map_eq_some_iff.mp e2
    subst e4
    exact .cons (D.py_dp s p e1) (D.pys_dp s q e3)
end
/-- a list's cell at the outside -/
def D.pyO (S : Store) : D → Option PyData
  | .loc l => match S[l]? with
    | some (.lst ds) => (D.pys S ds).map .list
    | _ => none
  | d => D.py S d
theorem D.pyO_dp {d : D} {v : V} {p : PyData} (s : SOk G φ S H) (i : Is G φ H d v) (e : D.pyO S d = some p) : Dp G.K H v p := by
  cases d with
  | loc l =>
    simp only [D.pyO] at e
    split at e
    · rename_i h
      obtain ⟨ps, e1, e2⟩ := Option.map_eq_some_iff.mp e
      subst e2
      obtain ⟨a, xs, e3, r, q⟩ := listD_sq s (show Is G φ H (.loc l) v from i) (show listD S (.loc l) = some _ by simp only [listD]; rw [h])
      subst e3
      exact .lst r (D.pys_dp s q e1)
    · cases e
  | _ => exact D.py_dp s i e
/-- data that may be compared with the same data: lists and dicts of such, too -/
def niceE (S : Store) : Nat → D → Bool
  | 0, _ => false
  | n + 1, d => match D.py S d with
    | some p => SeqAt.shaped p && PyData.eqv p p
    | none => match d with
      | .lst ds => ds.all (niceE S n)
      | .dic _ ds => ds.all (niceE S n)
      | _ => false
theorem paired_same {F : V → V → Prop} (f : D → Bool) (st : ∀ d x y, f d = true → Is G φ H d x → Is G φ H d y → F x y) : ∀ {ds : List D} {xs ys : List V}, ds.all f = true → IsL G φ H ds xs → IsL G φ H ds ys → Paired F xs ys
  | [], xs, ys, _, i, j => by cases (show xs = [] from i); cases (show ys = [] from j); exact .nil
  | d :: ds, xs, ys, h, i, j => by
    rw [List.all_cons, Bool.and_eq_true] at h
    obtain ⟨x, r, rfl, p, q⟩ := i
    obtain ⟨y, r', rfl, p', q'⟩ := j
    exact .cons (st d x y h.1 p p') (paired_same f st h.2 q q')
theorem niceE_is (s : SOk G φ S H) : ∀ (n : Nat) (d : D) (x y : V), niceE S n d = true → Is G φ H d x → Is G φ H d y → EqW G.K H n x y
  | 0, _, _, _, h, _, _ => by cases h
  | n + 1, d, x, y, h, i, j => by
    unfold niceE at h
    cases hp : D.py S d with
    | some p =>
      rw [hp] at h
      simp only [Bool.and_eq_true] at h
      exact .inl ⟨p, D.py_dp s i hp, D.py_dp s j hp, h.1, h.2⟩
    | none =>
      rw [hp] at h
      cases d with
      | lst ds =>
        obtain ⟨a, xs, rfl, r, q⟩ := i
        obtain ⟨b, ys, rfl, r', q'⟩ := j
        exact .inr (.inl ⟨a, b, xs, ys, rfl, rfl, r.seq, r'.seq, paired_same _ (niceE_is s n) h q q'⟩)
      | dic ks ds =>
        obtain ⟨a, xs, rfl, ⟨_, r⟩, e, q⟩ := i
        obtain ⟨b, ys, rfl, ⟨_, r'⟩, e', q'⟩ := j
        exact .inr (.inr ⟨a, b, xs, ys, rfl, rfl, r, r', e.trans e'.symm, paired_same _ (niceE_is s n) h q q'⟩)
      | _ => cases h
def niceT (S : Store) (d : D) : Bool := match d with
  | .lst ds => ds.all (niceE S 8)
  | .dic _ ds => ds.all (niceE S 8)
  | _ => false
theorem niceT_is (s : SOk G φ S H) {d : D} {x y : V} (h : niceT S d = true) (i : Is G φ H d x) (j : Is G φ H d y) : EqT G.K H 8 x y := by
  cases d with
  | lst ds =>
    obtain ⟨a, xs, rfl, r, q⟩ := i
    obtain ⟨b, ys, rfl, r', q'⟩ := j
    exact .inl ⟨a, b, xs, ys, rfl, rfl, r.seq, r'.seq, paired_same _ (niceE_is s 8) h q q'⟩
  | dic ks ds =>
    obtain ⟨a, xs, rfl, ⟨_, r⟩, e, q⟩ := i
    obtain ⟨b, ys, rfl, ⟨_, r'⟩, e', q'⟩ := j
    exact .inr ⟨a, b, xs, ys, rfl, rfl, r, r', e.trans e'.symm, paired_same _ (niceE_is s 8) h q q'⟩
  | _ => cases h
open Classical in
noncomputable def eqSame (neg : Bool) (x y : D) (S : Store) : ER := if x = y ∧ niceT S x = true then .ok (.bl (!neg)) S else .bad
noncomputable def opEqB (neg : Bool) (x y : D) (S : Store) : ER := match x, y with
  | .str a, .str b => .ok (.bl (if neg then !decide (a = b) else decide (a = b))) S
  | x, y => match x.pyO S, y.pyO S with
    | some p, some q => if SeqAt.shaped p && SeqAt.shaped q then .ok (.bl (if neg then !PyData.eqv p q else PyData.eqv p q)) S else .bad
    | _, _ => eqSame neg x y S
noncomputable def opEq := opEqB false
noncomputable def opNe := opEqB true
theorem units100 {k : Nat} {A : Around} (r : Room k A) : A.units + 100 < cLine := by have := r.un; omega
theorem dec_s {a b : Str} : decide (V.str a = V.str b) = decide (a = b) := by
  by_cases e : a = b
  · subst e; simp
  · rw [decide_eq_false e, decide_eq_false (fun z => e (V.str.inj z))]
theorem do_eq (hK : X.K = G.K) (hu : X.A.units + 100 < cLine) : DOp G X (compareOp .Eq) opEq := by
  refine ⟨_, (op_eq.or (op_eqD (by omega))).or (op_eqT hu), fun W φ S H σ dx dy x y Q s ix iy h => ?_⟩
  unfold opEq opEqB at h
  split at h
  · cases (show x = _ from ix); cases (show y = _ from iy)
    exact .inl (.inl ⟨rfl, by rw [dec_s]; exact h.now s rfl⟩)
  · split at h
    · rename_i p q e1 e2
      split at h
      · rename_i hs
        simp only [Bool.and_eq_true] at hs
        exact .inl (.inr ⟨p, q, by rw [hK]; exact D.pyO_dp s ix e1, by rw [hK]; exact D.pyO_dp s iy e2, hs.1, hs.2, h.now s rfl⟩)
      · exact bad_no h
    · unfold eqSame at h
      split at h
      · rename_i hx
        obtain ⟨e, hn⟩ := hx
        subst e
        exact .inr ⟨8, by decide, by rw [hK]; exact niceT_is s hn ix iy, h.now s rfl⟩
      · exact bad_no h
theorem do_ne (hK : X.K = G.K) (hu : X.A.units + 100 < cLine) : DOp G X (compareOp .NotEq) opNe := by
  refine ⟨_, (op_ne.or (op_neD (by omega))).or (op_neT hu), fun W φ S H σ dx dy x y Q s ix iy h => ?_⟩
  unfold opNe opEqB at h
  split at h
  · cases (show x = _ from ix); cases (show y = _ from iy)
    exact .inl (.inl ⟨rfl, by rw [dec_s]; exact h.now s rfl⟩)
  · split at h
    · rename_i p q e1 e2
      split at h
      · rename_i hs
        simp only [Bool.and_eq_true] at hs
        exact .inl (.inr ⟨p, q, by rw [hK]; exact D.pyO_dp s ix e1, by rw [hK]; exact D.pyO_dp s iy e2, hs.1, hs.2, h.now s rfl⟩)
      · exact bad_no h
    · unfold eqSame at h
      split at h
      · rename_i hx
        obtain ⟨e, hn⟩ := hx
        subst e
        exact .inr ⟨8, by decide, by rw [hK]; exact niceT_is s hn ix iy, h.now s rfl⟩
      · exact bad_no h
def D.isN : D → Bool
  | .non => true
  | _ => false
theorem isN_iff {d : D} {v : V} (i : Is G φ H d v) : decide (v = .non) = d.isN := by
  cases d with
  | non => cases (show v = _ from i); rfl
  | bl b => cases (show v = _ from i); rfl
  | int b => cases (show v = _ from i); rfl
  | str b => cases (show v = _ from i); rfl
  | tup ds => obtain ⟨a, xs, rfl, _⟩ := i; rfl
  | lst ds => obtain ⟨a, xs, rfl, _⟩ := i; rfl
  | dic ks ds => obtain ⟨a, xs, rfl, _⟩ := i; rfl
  | obj c ks ds => obtain ⟨a, C, dx, fs, rfl, _⟩ := i; rfl
  | loc l => obtain ⟨a, _, rfl⟩ := i; rfl
  | dct ks ds => obtain ⟨a, xs, rfl, _⟩ := i; rfl
  | exn c ks ds => obtain ⟨a, C, d, rfl, _⟩ := i; rfl
  | tpl ds => obtain ⟨a, xs, o, rfl, _⟩ := i; rfl
def opIsN (x y : D) (S : Store) : ER := match y with | .non => .ok (.bl x.isN) S | _ => .bad
def opNotN (x y : D) (S : Store) : ER := match y with | .non => .ok (.bl (!x.isN)) S | _ => .bad
theorem do_isN : DOp G X (compareOp .Is) opIsN := by
  refine ⟨_, op_isN, fun W φ S H σ dx dy x y Q s ix iy h => ?_⟩
  cases dy with
  | non => exact ⟨iy, by rw [isN_iff ix]; exact h.now s rfl⟩
  | _ => exact bad_no h
/-- a < b < c -/
def eChain (g g' : D → D → Store → ER) (a b c : EM) : EM := fun env S => (a env S).bind fun x S => (b env S).bind fun y S => (g x y S).bind fun z S => match z with
  | .bl true => (c env S).bind fun w S => g' y w S
  | .bl false => .ok (.bl false) S
  | _ => .bad

/-! ### subscripts -/
def seqD (S : Store) (d : D) : Option (List D) := match d with
  | .tup ds => some ds
  | d => listD S d
def strAt (x : Str) (i : Int) : Option D := (atI x.cps.toList i).map fun c => .str ⟨#[c]⟩
noncomputable def opIx (x y : D) (S : Store) : ER := match x, y with
  | .str x, .int i => if sz x.length then (match strAt x i with | some d => .ok d S | none => .bad) else .bad
  | .tup ds, .int i => match atI ds i with | some d => .ok d S | none => .bad
  | x, .int i => match listD S x with
    | some ds => (match atI ds i with | some d => .ok d S | none => .bad)
    | none => .bad
  | _, _ => .bad
theorem atI_is {ds : List D} {xs : List V} {i : Int} {d : D} (q : IsL G φ H ds xs) (e : atI ds i = some d) : ∃ v, atI xs i = some v ∧ Is G φ H d v := by
  unfold atI at e ⊢
  rw [q.length] at e
  obtain ⟨j, e1, e2⟩ := Option.bind_eq_some_iff.mp e
  obtain ⟨v, e3, k⟩ := q.get e2
  exact ⟨v, by rw [e1]; exact e3, k⟩
/-! ### calls of built-ins -/
/-- a built-in by values -/
def DCall (G : Glb) (X : Cx) (f : Value) (g : List D → Store → ER) : Prop :=
  ∃ r, CallR X f r ∧ ∀ W φ S H σ ds xs Q, SOk G φ S H → IsL G φ H ds xs → PostE G W φ H σ (g ds S) Q → r xs H Q
def eCallB (g : List D → Store → ER) (f : LM) : EM := fun env S => (f env S).bindE g
theorem de_callB {id : String} {x : Str} {e : Expr} {es : List Expr} {p pos : Pos} {g : List D → Store → ER} {f : LM} (hc : DCall G X (.builtin id) g) (hg : Gl X x) (hm : X.mg x = none) (hv : bootBuiltins x = some (.builtin id)) (ha : DA G X W (e :: es) f) (hn : x ≠ "__name__" := by decide) (hdb : (x == ("__debug__" : Str)) = false := by decide)
    (he : starEach (e :: es) X.env = (false, eval e X.env) :: starEach es X.env := by rfl) (hpl : (backTo pos (starEach es X.env)).any (·.1) = false := by rfl) : DE G X W (.Call (.Name x p) (e :: es) [] pos) (eCallB g f) := by
  obtain ⟨r, hr, q⟩ := hc
  obtain ⟨t, pt, qt⟩ := ha
  refine ⟨_, pe_callB hr hg hm hv pt hn hdb he hpl, fun σ H env φ S Q s re h => ?_⟩
  exact qt σ H env φ S _ s re (PostL.bindE h fun ds S1 φ1 H1 xs e1 s1 i1 h1 => q W φ1 S1 H1 σ ds xs Q s1 i1 h1)
theorem de_callTy {T : String} {x : Str} {e : Expr} {es : List Expr} {p pos : Pos} {g : List D → Store → ER} {f : LM} (hc : DCall G X (.type T) g) (hg : Gl X x) (hm : X.mg x = none) (hv : bootBuiltins x = some (.type T)) (ha : DA G X W (e :: es) f) (hn : x ≠ "__name__" := by decide) (hdb : (x == ("__debug__" : Str)) = false := by decide)
    (he : starEach (e :: es) X.env = (false, eval e X.env) :: starEach es X.env := by rfl) (hpl : (backTo pos (starEach es X.env)).any (·.1) = false := by rfl) : DE G X W (.Call (.Name x p) (e :: es) [] pos) (eCallB g f) := by
  obtain ⟨r, hr, q⟩ := hc
  obtain ⟨t, pt, qt⟩ := ha
  refine ⟨_, pe_callTy hr hg hm hv pt hn hdb he hpl, fun σ H env φ S Q s re h => ?_⟩
  exact qt σ H env φ S _ s re (PostL.bindE h fun ds S1 φ1 H1 xs e1 s1 i1 h1 => q W φ1 S1 H1 σ ds xs Q s1 i1 h1)
theorem IsL.inv1 {d : D} {xs : List V} (h : IsL G φ H [d] xs) : ∃ x, xs = [x] ∧ Is G φ H d x := by
  obtain ⟨x, r, rfl, p, q⟩ := h
  cases (show r = [] from q)
  exact ⟨x, rfl, p⟩
theorem IsL.inv2 {d e : D} {xs : List V} (h : IsL G φ H [d, e] xs) : ∃ x y, xs = [x, y] ∧ Is G φ H d x ∧ Is G φ H e y := by
  obtain ⟨x, r, rfl, p, q⟩ := h
  obtain ⟨y, rfl, k⟩ := IsL.inv1 q
  exact ⟨x, y, rfl, p, k⟩
noncomputable def bLen (ds : List D) (S : Store) : ER := match ds with
  | [.str x] => if sz x.length then .ok (.int x.length) S else .bad
  | [d] => match seqD S d with
    | some es => .ok (.int es.length) S
    | none => .bad
  | _ => .bad
theorem seqD_sq {d : D} {v : V} {ds : List D} (s : SOk G φ S H) (i : Is G φ H d v) (e : seqD S d = some ds) : ∃ a xs, v = .ref a ∧ (SqL G.K H a xs ∨ SqT G.K H a xs) ∧ IsL G φ H ds xs := by
  unfold seqD at e
  split at e
  · obtain ⟨a, xs, e1, r, q⟩ := tupD_sq i e
    exact ⟨a, xs, e1, .inr r, q⟩
  · obtain ⟨a, xs, e1, r, q⟩ := listD_sq s i e
    exact ⟨a, xs, e1, .inl r, q⟩
theorem dc_len (hK : X.K = G.K) : DCall G X (.builtin "len") bLen := by
  refine ⟨_, call_len_seq.or call_len_str, fun W φ S H σ ds xs Q s i h => ?_⟩
  unfold bLen at h
  split at h
  · obtain ⟨x, rfl, k⟩ := IsL.inv1 i
    cases (show x = _ from k)
    split at h
    · exact .inr ⟨_, rfl, sizeLine_is (by assumption), h.now s rfl⟩
    · exact bad_no h
  · obtain ⟨x, rfl, k⟩ := IsL.inv1 i
    split at h
    · rename_i es e
      obtain ⟨a, ys, rfl, r, q⟩ := seqD_sq s k e
      refine .inl ⟨a, ys, rfl, by rw [hK]; exact r, ?_⟩
      rw [← q.length]
      exact h.now s rfl
    · exact bad_no h
  · exact bad_no h
def bII (g : Int → Int → Int) (ds : List D) (S : Store) : ER := match ds with
  | [.int i, .int j] => .ok (.int (g i j)) S
  | _ => .bad
def maxII (i j : Int) : Int := if j > i then j else i
def minII (i j : Int) : Int := if j < i then j else i
theorem dc_max2 (hc : X.calm = true) : DCall G X (.builtin "max") (bII maxII) := by
  refine ⟨_, call_max2 hc, fun W φ S H σ ds xs Q s i h => ?_⟩
  unfold bII at h
  split at h
  · obtain ⟨x, y, rfl, k, l⟩ := IsL.inv2 i
    cases (show x = _ from k); cases (show y = _ from l)
    exact ⟨_, _, rfl, h.now s rfl⟩
  · exact bad_no h
theorem dc_min2 (hc : X.calm = true) : DCall G X (.builtin "min") (bII minII) := by
  refine ⟨_, call_min2 hc, fun W φ S H σ ds xs Q s i h => ?_⟩
  unfold bII at h
  split at h
  · obtain ⟨x, y, rfl, k, l⟩ := IsL.inv2 i
    cases (show x = _ from k); cases (show y = _ from l)
    exact ⟨_, _, rfl, h.now s rfl⟩
  · exact bad_no h
def bAbs (ds : List D) (S : Store) : ER := match ds with
  | [.int i] => .ok (.int (if i < 0 then -i else i)) S
  | _ => .bad
def bInt (ds : List D) (S : Store) : ER := match ds with
  | [.int i] => .ok (.int i) S
  | [.bl b] => .ok (.int (if b then 1 else 0)) S
  | _ => .bad
theorem dc_int : DCall G X (.type "int") bInt := by
  refine ⟨_, call_int1, fun W φ S H σ ds xs Q s i h => ?_⟩
  unfold bInt at h
  split at h
  · obtain ⟨x, rfl, k⟩ := IsL.inv1 i
    cases (show x = _ from k)
    exact .inl ⟨_, rfl, h.now s rfl⟩
  · obtain ⟨x, rfl, k⟩ := IsL.inv1 i
    cases (show x = _ from k)
    exact .inr ⟨_, rfl, h.now s rfl⟩
  · exact bad_no h
def bList (ds : List D) (S : Store) : ER := match ds with
  | [d] => match seqD S d with
    | some es => .ok (.lst es) S
    | none => .bad
  | _ => .bad
theorem dc_list (hK : X.K = G.K) : DCall G X (.type "list") bList := by
  refine ⟨_, call_list_of, fun W φ S H σ ds xs Q s i h => ?_⟩
  unfold bList at h
  split at h
  · obtain ⟨x, rfl, k⟩ := IsL.inv1 i
    split at h
    · rename_i es e
      obtain ⟨a, ys, rfl, r, q⟩ := seqD_sq s k e
      exact ⟨a, ys, rfl, by rw [hK]; exact r, fun l hl => lst_new s q h hl⟩
    · exact bad_no h
  · exact bad_no h
def bListM (ds : List D) (S : Store) : ER := match ds with
  | [d] => match seqD S d with
    | some es => .ok (.loc S.length) (S ++ [.lst es])
    | none => .bad
  | _ => .bad
theorem dc_listM (hK : X.K = G.K) : DCall G X (.type "list") bListM := by
  refine ⟨_, call_list_of, fun W φ S H σ ds xs Q s i h => ?_⟩
  unfold bListM at h
  split at h
  · obtain ⟨x, rfl, k⟩ := IsL.inv1 i
    split at h
    · rename_i es e
      obtain ⟨a, ys, rfl, r, q⟩ := seqD_sq s k e
      exact ⟨a, ys, rfl, by rw [hK]; exact r, fun l hl => lst_newM s q h hl⟩
    · exact bad_no h
  · exact bad_no h
def bTuple (ds : List D) (S : Store) : ER := match ds with
  | [d] => match seqD S d with
    | some es => .ok (.tup es) S
    | none => .bad
  | _ => .bad
theorem dc_tuple (hK : X.K = G.K) : DCall G X (.type "tuple") bTuple := by
  refine ⟨_, call_tuple_of, fun W φ S H σ ds xs Q s i h => ?_⟩
  unfold bTuple at h
  split at h
  · obtain ⟨x, rfl, k⟩ := IsL.inv1 i
    split at h
    · rename_i es e
      unfold seqD at e
      split at e
      · obtain ⟨a, ys, rfl, r, q⟩ := id k
        cases e
        exact ⟨a, ys, rfl, .inr ⟨by rw [hK]; exact r.seq, h.now s ⟨a, ys, rfl, r, q⟩⟩⟩
      · obtain ⟨a, ys, rfl, r, q⟩ := listD_sq s k e
        exact ⟨a, ys, rfl, .inl ⟨by rw [hK]; exact r, fun l hl => tup_new s q h hl⟩⟩
    · exact bad_no h
  · exact bad_no h
/-- lists of one kind -/
def intsD : List D → Option (List Int)
  | [] => some []
  | .int i :: ds => (intsD ds).map (i :: ·)
  | _ :: _ => none
theorem intsD_map : ∀ ns : List Int, intsD (ns.map D.int) = some ns
  | [] => rfl
  | n :: ns => by simp [intsD, intsD_map ns]
def blsD : List D → Option (List Bool)
  | [] => some []
  | .bl i :: ds => (blsD ds).map (i :: ·)
  | _ :: _ => none
theorem blsD_is : ∀ {ds : List D} {ns : List Bool}, blsD ds = some ns → ds = ns.map D.bl
  | [], ns, e => by cases e; rfl
  | d :: ds, ns, e => by
    cases d with
    | bl i =>
      obtain ⟨a, e1, e2⟩ := Option.map_eq_some_iff.mp (show (blsD ds).map (i :: ·) = some ns from e)
      subst e2
      rw [blsD_is e1]; rfl
    | _ => cases e
theorem blsD_map : ∀ ns : List Bool, blsD (ns.map D.bl) = some ns
  | [] => rfl
  | n :: ns => by simp [blsD, blsD_map ns]
def bAll (ds : List D) (S : Store) : ER := match ds with
  | [d] => match (listD S d).bind blsD with
    | some bs => .ok (.bl (bs.all id)) S
    | none => .bad
  | _ => .bad
def bAny (ds : List D) (S : Store) : ER := match ds with
  | [d] => match (listD S d).bind blsD with
    | some bs => .ok (.bl (bs.any id)) S
    | none => .bad
  | _ => .bad
theorem dc_all (hc : X.calm = true) (hK : X.K = G.K) : DCall G X (.builtin "all") bAll := by
  refine ⟨_, cr_all hc, fun W φ S H σ ds xs Q s i h => ?_⟩
  unfold bAll at h
  split at h
  · obtain ⟨x, rfl, k⟩ := IsL.inv1 i
    split at h
    · rename_i bs e
      obtain ⟨es, e1, e2⟩ := Option.bind_eq_some_iff.mp e
      obtain ⟨a, ys, rfl, r, q⟩ := listD_sq s k e1
      rw [blsD_is e2] at q
      exact ⟨a, bs, rfl, by rw [hK, ← q.bls]; exact r, h.now s rfl⟩
    · exact bad_no h
  · exact bad_no h
def bSum (ds : List D) (S : Store) : ER := match ds with
  | [d] => match (listD S d).bind intsD with
    | some ns => .ok (.int ns.sum) S
    | none => .bad
  | _ => .bad
end
end DL
end
section
/-! D-layer, part 3: loops, comprehensions, more assignments, defs and their calls. -/
namespace DL
open PySem L2
variable [DL.Nm]

section
variable {G : Glb} {X : Cx} {W : WX}
/-! ### more assignments -/
/-- a, b = e1, e2 -/
def sPar (i j : Nat) (f : LM) : SM := fun e S => (f e S).bindS e fun ds S => match ds with
  | [a, b] => .nx ((e.set i (some a)).set j (some b)) S
  | _ => .bad
theorem ds_par {i j : Nat} {x y : Str} {a b : Expr} {f : LM} {px py pt pos : Pos} {kt k2 pt2} (hc : X.calm = true) (hN : X.N.Nodup) (hi : X.N[i]? = some x) (hj : X.N[j]? = some y) (hij : i ≠ j)
    (hx : X.env.scope.names.lookup x = some .local) (hy : X.env.scope.names.lookup y = some .local) (ha : DA G X W [a, b] f)
    (hw : swappedStores [.Tuple [.Name x px, .Name y py] kt pt] (.Tuple [a, b] k2 pt2) X.env = pure (some [x, y]))
    (hs : swapsWithSole [.Tuple [.Name x px, .Name y py] kt pt] (.Tuple [a, b] k2 pt2) pos.line X.env = pure false := by rfl) :
    DS G X W (.Assign [.Tuple [.Name x px, .Name y py] kt pt] (.Tuple [a, b] k2 pt2) pos) (sPar i j f) := by
  obtain ⟨t, p, q⟩ := ha
  refine ⟨_, ps_par hc hN hi hj hij hx hy p hw hs, fun σ H env φ S N s re h => ?_⟩
  refine q σ H env φ S _ s re (PostL.bindS re h fun ds S1 φ1 H1 vs e1 s1 i1 h1 => ?_)
  match ds, h1, i1 with
  | [d, d2], h1, i1 =>
    obtain ⟨v, w, rfl, k1, k2⟩ := IsL.inv2 i1
    exact ⟨v, w, rfl, h1 φ1 H1 _ .refl s1 (((re.ext e1).set k1 i).set k2 j)⟩
  | [], h1, _ => exact False.elim h1
  | [_], h1, _ => exact False.elim h1
  | _ :: _ :: _ :: _, h1, _ => exact False.elim h1
def sPar3 (i j l : Nat) (f : LM) : SM := fun e S => (f e S).bindS e fun ds S => match ds with
  | [a, b, c] => .nx (((e.set i (some a)).set j (some b)).set l (some c)) S
  | _ => .bad
theorem ds_par3 {i j l : Nat} {x y z : Str} {a b c : Expr} {f : LM} {px py pz pt pos : Pos} {kt k2 pt2} (hc : X.calm = true) (hN : X.N.Nodup) (hi : X.N[i]? = some x) (hj : X.N[j]? = some y) (hl : X.N[l]? = some z) (hij : i ≠ j) (hil : i ≠ l) (hjl : j ≠ l)
    (hx : X.env.scope.names.lookup x = some .local) (hy : X.env.scope.names.lookup y = some .local) (hz : X.env.scope.names.lookup z = some .local) (ha : DA G X W [a, b, c] f)
    (hw : swappedStores [.Tuple [.Name x px, .Name y py, .Name z pz] kt pt] (.Tuple [a, b, c] k2 pt2) X.env = pure (some [x, y, z]))
    (hs : swapsWithSole [.Tuple [.Name x px, .Name y py, .Name z pz] kt pt] (.Tuple [a, b, c] k2 pt2) pos.line X.env = pure false := by rfl) :
    DS G X W (.Assign [.Tuple [.Name x px, .Name y py, .Name z pz] kt pt] (.Tuple [a, b, c] k2 pt2) pos) (sPar3 i j l f) := by
  obtain ⟨t, p, q⟩ := ha
  refine ⟨_, ps_par3 hc hN hi hj hl hij hil hjl hx hy hz p hw hs, fun σ H env φ S N s re h => ?_⟩
  refine q σ H env φ S _ s re (PostL.bindS re h fun ds S1 φ1 H1 vs e1 s1 i1 h1 => ?_)
  match ds, h1, i1 with
  | [d, d2, d3], h1, i1 =>
    obtain ⟨v, r, rfl, k1, i2⟩ := i1
    obtain ⟨w, u, rfl, k2, k3⟩ := IsL.inv2 i2
    exact ⟨v, w, u, rfl, h1 φ1 H1 _ .refl s1 ((((re.ext e1).set k1 i).set k2 j).set k3 l)⟩
  | [], h1, _ => exact False.elim h1
  | [_], h1, _ => exact False.elim h1
  | [_, _], h1, _ => exact False.elim h1
  | _ :: _ :: _ :: _ :: _, h1, _ => exact False.elim h1
/-- x op= e -/
def sAug (i : Nat) (g : D → D → Store → ER) (f : EM) : SM := fun e S => (eOp g (eVar i) f e S).bindS e fun d S => .nx (e.set i (some d)) S
/-! ### what is walked -/
structure Feeds (G : Glb) (φ0 : Fi) (H0 : Hp) (J : It) (ds : List D) : Prop where
  go : ∀ φ S H (i : Nat) d, Kept φ0 H0 φ H → SOk G φ S H → ds[i]? = some d → J.go i H ∧ ∀ x H', J.yld i H x H' → Ext φ H φ H' ∧ SOk G φ S H' ∧ Is G φ H' d x
  stop : ∀ φ S H, Kept φ0 H0 φ H → SOk G φ S H → J.stop ds.length H
theorem Kept.trans {φ φ1 φ2 : Fi} {H H1 H2 : Hp} (a : Kept φ H φ1 H1) (b : Kept φ1 H1 φ2 H2) : Kept φ H φ2 H2 :=
  ⟨fun l x q => b.get l x (a.get l x q), fun x u n r hu => let ⟨n1, r1⟩ := a.rd x u n r hu; b.rd x u n1 r1 hu, fun x C dx fs n r => let ⟨n1, r1⟩ := a.ins x C dx fs n r; b.ins x C dx fs n1 r1, fun x o u n r => let ⟨n1, r1⟩ := a.frz x o u n r; b.frz x o u n1 r1, fun x u n r => let ⟨n1, r1⟩ := a.ext x u n r; b.ext x u n1 r1, fun x u n r => let ⟨n1, r1⟩ := a.xd x u n r; b.xd x u n1 r1, fun P q t => b.tab P q (a.tab P q t)⟩
def PostI (G : Glb) (W : WX) (φ : Fi) (H : Hp) (σ : St) (r : LR) (R : It → Hp → Prop) : Prop := match r with
  | .ok ds S => ∀ φ' H' J, Ext φ H φ' H' → SOk G φ' S H' → Feeds G φ' H' J ds → R J H'
  | .ex x S => ∀ φ' H' cls dx, Ext φ H φ' H' → SOk G φ' S H' → IsX G φ' H' x cls dx → W cls dx σ H'
  | .bad => False
def DI (G : Glb) (X : Cx) (W : WX) (tg e : Expr) (f : LM) : Prop :=
  ∃ wi, PI X tg e wi ∧ ∀ σ H env φ S R, SOk G φ S H → RepE G φ H σ env → PostI G W φ H σ (f env S) R → wi σ H R
theorem feeds_list {φ : Fi} {H : Hp} {a : Addr} {xs : List V} {ds : List D} (r : RdL G φ H a xs) (q : IsL G φ H ds xs) : Feeds G φ H (Itl G.K a) ds := by
  refine ⟨fun φ2 S2 H2 i d e s hd => ?_, fun φ2 S2 H2 e s => ⟨xs, (r.kept e).seq, by rw [q.length]; exact Nat.le_refl _⟩⟩
  obtain ⟨x, hx, k⟩ := q.get hd
  refine ⟨⟨xs, x, (r.kept e).seq, hx⟩, fun y H3 ⟨e3, hy⟩ => ?_⟩
  subst e3
  have z := hy xs (r.kept e).seq
  rw [hx] at z; cases z
  exact ⟨.refl, s, k.kept e⟩
theorem feeds_tup {φ : Fi} {H : Hp} {a : Addr} {xs : List V} {ds : List D} (r : RdT G φ H a xs) (q : IsL G φ H ds xs) : Feeds G φ H (Itt G.K a) ds := by
  refine ⟨fun φ2 S2 H2 i d e s hd => ?_, fun φ2 S2 H2 e s => ⟨xs, (r.kept e).seq, by rw [q.length]; exact Nat.le_refl _⟩⟩
  obtain ⟨x, hx, k⟩ := q.get hd
  refine ⟨⟨xs, x, (r.kept e).seq, hx⟩, fun y H3 ⟨e3, hy⟩ => ?_⟩
  subst e3
  have z := hy xs (r.kept e).seq
  rw [hx] at z; cases z
  exact ⟨.refl, s, k.kept e⟩
theorem PI.or {tg e : Expr} {w1 w2 : TI} (h1 : PI X tg e w1) (h2 : PI X tg e w2) : PI X tg e (fun σ H R => w1 σ H R ∨ w2 σ H R) :=
  ⟨fun pins s σ H R I h => h.elim (h1.run pins s σ H R I) (h2.run pins s σ H R I)⟩
/-- a text's signs -/
def signsD (x : Str) : List D := x.cps.toList.map fun c => .str ⟨#[c]⟩
theorem feeds_str {φ : Fi} {H : Hp} (x : Str) : Feeds G φ H (Its x) (signsD x) := by
  refine ⟨fun φ2 S2 H2 i d e s hd => ?_, fun φ2 S2 H2 e s => by show x.cps.size ≤ (signsD x).length; simp [signsD]⟩
  unfold signsD at hd
  rw [List.getElem?_map] at hd
  obtain ⟨c, e1, e2⟩ := Option.map_eq_some_iff.mp hd
  subst e2
  rw [Array.getElem?_toList] at e1
  refine ⟨(Array.getElem?_eq_some_iff.mp e1).1, fun y H3 ⟨e3, c', e4, e5⟩ => ?_⟩
  rw [e1] at e4
  cases e4
  subst e3 e5
  exact ⟨.refl, s, rfl⟩
def iSeq (f : EM) : LM := fun env S => (f env S).bindL fun d S => match d with
  | .lst ds => .ok ds S
  | .tup ds => .ok ds S
  | .str x => .ok (signsD x) S
  | _ => .bad
theorem di_seq {tg e : Expr} {f : EM} (hK : X.K = G.K) (he : DE G X W e f) : DI G X W tg e (iSeq f) := by
  obtain ⟨t, p, q⟩ := he
  refine ⟨_, PI.or (PI.or (pi_list p) (pi_tup p)) (pi_str p), fun σ H env φ S R s re h => ?_⟩
  unfold iSeq at h
  cases hr : f env S with
  | bad => rw [hr] at h; exact False.elim h
  | ex x S1 =>
    rw [hr] at h
    exact .inl (.inl (q σ H env φ S _ s re (by rw [hr]; exact h)))
  | ok d S1 =>
    rw [hr] at h
    cases d with
    | str x =>
      refine .inr (q σ H env φ S _ s re ?_)
      rw [hr]
      intro φ1 H1 v e1 s1 i1
      exact ⟨x, i1, h φ1 H1 _ e1 s1 (feeds_str x)⟩
    | lst ds =>
      refine .inl (.inl (q σ H env φ S _ s re ?_))
      rw [hr]
      intro φ1 H1 v e1 s1 i1
      obtain ⟨a, xs, rfl, r, il⟩ := i1
      refine ⟨a, rfl, ⟨xs, by rw [hK]; exact r.seq⟩, ?_⟩
      rw [hK]
      exact h φ1 H1 _ e1 s1 (feeds_list r il)
    | tup ds =>
      refine .inl (.inr (q σ H env φ S _ s re ?_))
      rw [hr]
      intro φ1 H1 v e1 s1 i1
      obtain ⟨a, xs, rfl, r, il⟩ := i1
      refine ⟨a, rfl, ⟨xs, by rw [hK]; exact r.seq⟩, ?_⟩
      rw [hK]
      exact h φ1 H1 _ e1 s1 (feeds_tup r il)
    | _ => exact False.elim h
def rangeD (lo : Int) (n : Nat) : List D := (List.range n).map fun i => .int (lo + (i : Nat))
theorem feeds_range {φ : Fi} {H : Hp} (lo : Int) (n : Nat) : Feeds G φ H (Itr lo n) (rangeD lo n) := by
  refine ⟨fun φ2 S2 H2 i d e s hd => ?_, fun φ2 S2 H2 e s => by show n ≤ (rangeD lo n).length; simp [rangeD]⟩
  unfold rangeD at hd
  rw [List.getElem?_map] at hd
  obtain ⟨j, e1, e2⟩ := Option.map_eq_some_iff.mp hd
  obtain ⟨hl, e3⟩ := List.getElem?_eq_some_iff.mp e1
  simp at hl e3
  subst e3 e2
  refine ⟨hl, fun x H3 ⟨e4, e5⟩ => ?_⟩
  subst e4 e5
  exact ⟨.refl, s, rfl⟩
def rOk (i : Int) : Prop := -4611686018427387904 ≤ i ∧ i < 4611686018427387904
noncomputable instance {i : Int} : Decidable (rOk i) := Classical.propDecidable _
theorem rOk.lo {i : Int} (h : rOk i) : -(2 ^ 62) ≤ i := by have := h.1; omega
theorem rOk.hi {i : Int} (h : rOk i) : i < 2 ^ 62 := by have := h.2; omega
noncomputable def iRange1 (f : LM) : LM := fun env S => (f env S).bind fun ds S => match ds with
  | [.int j] => if rOk j then .ok (rangeD 0 j.toNat) S else .bad
  | _ => .bad
noncomputable def iRange2 (f : LM) : LM := fun env S => (f env S).bind fun ds S => match ds with
  | [.int i, .int j] => if rOk i ∧ rOk j then .ok (rangeD i (j - i).toNat) S else .bad
  | _ => .bad
theorem PostL.toI {φ : Fi} {H : Hp} {σ : St} {r : LR} {g : List D → Store → LR} {R : It → Hp → Prop} {Q : List V → Hp → Prop} (h : PostI G W φ H σ (r.bind g) R)
    (k : ∀ d S φ' H' v, Ext φ H φ' H' → SOk G φ' S H' → IsL G φ' H' d v → PostI G W φ' H' σ (g d S) R → Q v H') : PostL G W φ H σ r Q := by
  cases r with
  | ok d S =>
    refine fun φ2 H2 v e s i => k d S φ2 H2 v e s i ?_
    have h' : PostI G W φ H σ (g d S) R := h
    cases hg : g d S with
    | ok ds S2 => rw [hg] at h'; exact fun φ3 H3 J e3 s3 f => h' φ3 H3 J (e.trans e3) s3 f
    | ex x S2 => rw [hg] at h'; exact fun φ3 H3 c dx e3 s3 f => h' φ3 H3 c dx (e.trans e3) s3 f
    | bad => rw [hg] at h'; exact h'
  | ex x S => exact h
  | bad => exact h
theorem di_range1 {tg a : Expr} {p pos : Pos} {f : LM} (hg : Gl X "range") (hm : X.mg "range" = none) (ha : DA G X W [a] f) (hs : starEach [a] X.env = [(false, eval a X.env)] := by rfl) : DI G X W tg (.Call (.Name "range" p) [a] [] pos) (iRange1 f) := by
  obtain ⟨t, pt, q⟩ := ha
  refine ⟨_, pi_range1 hg hm pt hs, fun σ H env φ S R s re h => ?_⟩
  refine q σ H env φ S _ s re (PostL.toI h fun ds S1 φ1 H1 vs e1 s1 i1 h1 => ?_)
  split at h1
  · rename_i j
    obtain ⟨x, rfl, k⟩ := IsL.inv1 i1
    cases (show x = _ from k)
    split at h1
    · rename_i hj
      exact ⟨j, rfl, hj.lo, hj.hi, h1 φ1 H1 _ .refl s1 (feeds_range 0 j.toNat)⟩
    · exact False.elim h1
  · exact False.elim h1
theorem di_range2 {tg a b : Expr} {p pos : Pos} {f : LM} (hg : Gl X "range") (hm : X.mg "range" = none) (ha : DA G X W [a, b] f) (hs : starEach [a, b] X.env = [(false, eval a X.env), (false, eval b X.env)] := by rfl) (hs2 : starEach [b] X.env = [(false, eval b X.env)] := by rfl) : DI G X W tg (.Call (.Name "range" p) [a, b] [] pos) (iRange2 f) := by
  obtain ⟨t, pt, q⟩ := ha
  refine ⟨_, pi_range2 hg hm pt hs hs2, fun σ H env φ S R s re h => ?_⟩
  refine q σ H env φ S _ s re (PostL.toI h fun ds S1 φ1 H1 vs e1 s1 i1 h1 => ?_)
  split at h1
  · rename_i i j
    obtain ⟨x, y, rfl, k, l⟩ := IsL.inv2 i1
    cases (show x = _ from k); cases (show y = _ from l)
    split at h1
    · rename_i hij
      exact ⟨i, j, rfl, ⟨hij.1.lo, hij.1.hi, hij.2.lo, hij.2.hi⟩, h1 φ1 H1 _ .refl s1 (feeds_range i (j - i).toNat)⟩
    · exact False.elim h1
  · exact False.elim h1
/-- enumerate of a list -/
def enumD : Nat → List D → List D
  | _, [] => []
  | n, d :: ds => .tup [.int (n : Nat), d] :: enumD (n + 1) ds
theorem enumD_length : ∀ (n : Nat) (ds : List D), (enumD n ds).length = ds.length
  | _, [] => rfl
  | n, d :: ds => by simp [enumD, enumD_length (n + 1) ds]
theorem enumD_get : ∀ (n : Nat) (ds : List D) (i : Nat) (d : D), (enumD n ds)[i]? = some d → ∃ e, ds[i]? = some e ∧ d = .tup [.int ((n + i : Nat) : Int), e]
  | _, [], _, _, h => by simp [enumD] at h
  | n, d :: ds, 0, d', h => by
    simp [enumD] at h
    exact ⟨d, rfl, h.symm⟩
  | n, d :: ds, i + 1, d', h => by
    obtain ⟨e, e1, e2⟩ := enumD_get (n + 1) ds i d' (by simpa [enumD] using h)
    exact ⟨e, by simpa using e1, by rw [e2, show n + 1 + i = n + (i + 1) by omega]⟩
def iEnumD (f : LM) : LM := fun env S => (f env S).bind fun ds S => match ds with
  | [.lst ds] => .ok (enumD 0 ds) S
  | _ => .bad
/-- zip of two lists -/
def zipD : List D → List D → List D
  | d :: ds, e :: es => .tup [d, e] :: zipD ds es
  | _, _ => []
theorem zipD_length : ∀ (ds es : List D), (zipD ds es).length = min ds.length es.length
  | [], _ => by simp [zipD]
  | _ :: _, [] => by simp [zipD]
  | d :: ds, e :: es => by simp [zipD, zipD_length ds es]
theorem zipD_get : ∀ (ds es : List D) (i : Nat) (d : D), (zipD ds es)[i]? = some d → ∃ a b, ds[i]? = some a ∧ es[i]? = some b ∧ d = .tup [a, b]
  | [], _, _, _, h => by simp [zipD] at h
  | _ :: _, [], _, _, h => by simp [zipD] at h
  | d :: ds, e :: es, 0, d', h => by
    simp [zipD] at h
    exact ⟨d, e, rfl, rfl, h.symm⟩
  | d :: ds, e :: es, i + 1, d', h => by
    obtain ⟨a, b, e1, e2, e3⟩ := zipD_get ds es i d' (by simpa [zipD] using h)
    exact ⟨a, b, by simpa using e1, by simpa using e2, e3⟩
def iZipD (f : LM) : LM := fun env S => (f env S).bind fun ds S => match ds with
  | [.lst ds, .lst es] => .ok (zipD ds es) S
  | _ => .bad
/-! ### for, while -/
def forD (b : D → EnvD → Option EnvD) (body : SM) : List D → SM
  | [], e, S => .nx e S
  | d :: ds, e, S => match b d e with
    | none => .bad
    | some e1 => match body e1 S with
      | .nx e2 S2 => forD b body ds e2 S2
      | .ct e2 S2 => forD b body ds e2 S2
      | .bk e2 S2 => .nx e2 S2
      | .rt d S2 => .rt d S2
      | .ex x e2 S2 => .ex x e2 S2
      | .bad => .bad
def sFor (f : LM) (b : D → EnvD → Option EnvD) (body : SM) : SM := fun e S => (f e S).bindS e fun ds S => forD b body ds e S
theorem PostI.ofS {φ : Fi} {H : Hp} {σ : St} {env : EnvD} (re : RepE G φ H σ env) {r : LR} {g : List D → Store → SR} {N : Ends} {R : It → Hp → Prop} (h : PostS G W φ H (r.bindS env g) N)
    (k : ∀ ds S φ' H' J, Ext φ H φ' H' → SOk G φ' S H' → Feeds G φ' H' J ds → PostS G W φ' H' (g ds S) N → R J H') : PostI G W φ H σ r R := by
  cases r with
  | ok d S => exact fun φ2 H2 J e s i => k d S φ2 H2 J e s i (PostS.ext (r := g d S) e h)
  | ex x S => exact fun φ2 H2 c d e s i => h φ2 H2 σ c d e s (re.ext e) i
  | bad => exact h
theorem ds_for {tg iter : Expr} {body : List Stmt} {pos : Pos} {f : LM} {b : D → EnvD → Option EnvD} {vs : List Nat} {g : SM} (hp : PassesOwn (model X.prog X.w) X.A X.env X.xe) (hc : X.calm = true) (hi : DI G X W tg iter f) (hg : DG G X tg b vs) (hb : DSs G X W body g) (hs : ∀ x, foldedSetIterable iter X.env x = pure x := by intro _; rfl) : DS G X W (.For tg iter body [] pos) (sFor f b g) := by
  obtain ⟨wi, pI, qi⟩ := hi
  obtain ⟨tgd, pg, qg⟩ := hg
  obtain ⟨tb, pb, qb⟩ := hb
  refine ⟨_, ps_for hp hc pI pg pb hs, fun σ H env φ S N s re h => ?_⟩
  refine qi σ H env φ S _ s re (PostI.ofS re h fun ds S1 φ1 H1 J e1 s1 fd h1 => ?_)
  refine ⟨fun i m σ2 H2 => m = ds.length - i ∧ i ≤ ds.length ∧ ∃ env2 φ2 S2, Ext φ1 H1 φ2 H2 ∧ SOk G φ2 S2 H2 ∧ RepE G φ2 H2 σ2 env2 ∧ PostS G W φ2 H2 (forD b g (ds.drop i) env2 S2) N,
    ⟨ds.length, by simp, Nat.zero_le _, env, φ1, S1, .refl, s1, re.ext e1, h1⟩, ?_⟩
  rintro i m σ2 H2 ⟨rfl, hi, env2, φ2, S2, e2, s2, r2, h2⟩
  by_cases hl : i < ds.length
  · right
    have hd : ds[i]? = some ds[i] := List.getElem?_eq_getElem hl
    obtain ⟨go, gy⟩ := fd.go φ2 S2 H2 i ds[i] e2.kept s2 hd
    rw [List.drop_eq_getElem_cons hl] at h2
    refine ⟨go, fun σ' H' => i + 1 ≤ ds.length ∧ ∃ env3 φ3 S3, Ext φ1 H1 φ3 H' ∧ SOk G φ3 S3 H' ∧ RepE G φ3 H' σ' env3 ∧ PostS G W φ3 H' (forD b g (ds.drop (i + 1)) env3 S3) N, fun σ' H' w => ⟨ds.length - (i + 1), by omega, rfl, w⟩, fun x H' hy => ?_⟩
    obtain ⟨e3, s3, k3⟩ := gy x H' hy
    unfold forD at h2
    cases hb1 : b ds[i] env2 with
    | none => rw [hb1] at h2; exact False.elim h2
    | some env3 =>
      rw [hb1] at h2
      refine qg x ds[i] σ2 H' env2 env3 φ2 _ k3 (r2.ext e3) hb1 fun σ3 r3 _ => ?_
      refine qb σ3 H' env3 φ2 S2 _ s3 r3 ?_
      dsimp only at h2
      cases hg1 : g env3 S2 with
      | nx e S =>
        rw [hg1] at h2
        exact fun φ4 H4 σ4 e4 s4 r4 => ⟨by omega, _, φ4, _, (e2.trans e3).trans e4, s4, r4, PostS.ext (e3.trans e4) h2⟩
      | ct e S =>
        rw [hg1] at h2
        exact fun φ4 H4 σ4 e4 s4 r4 => ⟨by omega, _, φ4, _, (e2.trans e3).trans e4, s4, r4, PostS.ext (e3.trans e4) h2⟩
      | bk e S =>
        rw [hg1] at h2
        exact fun φ4 H4 σ4 e4 s4 r4 => h2 φ4 H4 σ4 (e3.trans e4) s4 r4
      | rt d S =>
        rw [hg1] at h2
        exact fun φ4 H4 v e4 s4 r4 => h2 φ4 H4 v (e3.trans e4) s4 r4
      | ex x e S =>
        rw [hg1] at h2
        exact fun φ4 H4 σ4 c dx e4 s4 r4 ix => h2 φ4 H4 σ4 c dx (e3.trans e4) s4 r4 ix
      | bad => rw [hg1] at h2; exact False.elim h2
  · left
    have e : i = ds.length := by omega
    subst e
    rw [List.drop_length] at h2
    exact ⟨fd.stop φ2 S2 H2 e2.kept s2, h2 φ2 H2 σ2 .refl s2 r2⟩

/-- the most turns of a while -/
def bigN : Nat := 2 ^ 64
def whileD (c : EM) (body : SM) : Nat → SM
  | 0, _, _ => .bad
  | n + 1, e, S => match c e S with
    | .ok (.bl true) S1 => match body e S1 with
      | .nx e2 S2 => whileD c body n e2 S2
      | .ct e2 S2 => whileD c body n e2 S2
      | .bk e2 S2 => .nx e2 S2
      | .rt d S2 => .rt d S2
      | .ex x e2 S2 => .ex x e2 S2
      | .bad => .bad
    | .ok (.bl false) S1 => .nx e S1
    | .ex x S1 => .ex x e S1
    | _ => .bad
def sWhile (c : EM) (body : SM) : SM := whileD c body bigN
theorem ds_while {c : Expr} {body : List Stmt} {pos : Pos} {f : EM} {g : SM} (hp : PassesOwn (model X.prog X.w) X.A X.env X.xe) (hc : DT G X W c f) (hb : DSs G X W body g) : DS G X W (.While c body [] pos) (sWhile f g) := by
  obtain ⟨tc, pc, qc⟩ := hc
  obtain ⟨tb, pb, qb⟩ := hb
  refine ⟨_, ps_while hp pc pb, fun σ H env φ S N s re h => ?_⟩
  refine ⟨fun m σ2 H2 => ∃ env2 φ2 S2, Ext φ H φ2 H2 ∧ SOk G φ2 S2 H2 ∧ RepE G φ2 H2 σ2 env2 ∧ PostS G W φ2 H2 (whileD f g m env2 S2) N, ⟨bigN, env, φ, S, .refl, s, re, h⟩, ?_⟩
  rintro m σ2 H2 ⟨env2, φ2, S2, e2, s2, r2, h2⟩
  cases m with
  | zero => exact False.elim h2
  | succ m =>
    unfold whileD at h2
    refine qc σ2 H2 env2 φ2 S2 _ s2 r2 ?_
    cases hr : f env2 S2 with
    | bad => rw [hr] at h2; exact False.elim h2
    | ex x S3 =>
      rw [hr] at h2
      exact fun φ4 H4 c d e s i => h2 φ4 H4 σ2 c d e s (r2.ext e) i
    | ok d S3 =>
      rw [hr] at h2
      cases d with
      | bl k =>
        intro φ3 H3 v e3 s3 i b eb
        cases (show v = .bl k from i)
        cases eb
        cases k with
        | false => exact iteF (h2 φ3 H3 σ2 e3 s3 (r2.ext e3))
        | true =>
          refine iteT ⟨fun σ' H' => ∃ env3 φ3 S3, Ext φ H φ3 H' ∧ SOk G φ3 S3 H' ∧ RepE G φ3 H' σ' env3 ∧ PostS G W φ3 H' (whileD f g m env3 S3) N, fun σ' H' w => ⟨m, by omega, w⟩, ?_⟩
          refine qb σ2 H3 env2 φ3 S3 _ s3 (r2.ext e3) ?_
          dsimp only at h2
          cases hg1 : g env2 S3 with
          | nx e S =>
            rw [hg1] at h2
            exact fun φ4 H4 σ4 e4 s4 r4 => ⟨_, φ4, _, (e2.trans e3).trans e4, s4, r4, PostS.ext (e3.trans e4) h2⟩
          | ct e S =>
            rw [hg1] at h2
            exact fun φ4 H4 σ4 e4 s4 r4 => ⟨_, φ4, _, (e2.trans e3).trans e4, s4, r4, PostS.ext (e3.trans e4) h2⟩
          | bk e S =>
            rw [hg1] at h2
            exact fun φ4 H4 σ4 e4 s4 r4 => h2 φ4 H4 σ4 (e3.trans e4) s4 r4
          | rt d S =>
            rw [hg1] at h2
            exact fun φ4 H4 v e4 s4 r4 => h2 φ4 H4 v (e3.trans e4) s4 r4
          | ex x e S =>
            rw [hg1] at h2
            exact fun φ4 H4 σ4 c dx e4 s4 r4 ix => h2 φ4 H4 σ4 c dx (e3.trans e4) s4 r4 ix
          | bad => rw [hg1] at h2; exact False.elim h2
      | _ => exact False.elim h2

/-! ### list comprehensions -/
def DTs (G : Glb) (X : Cx) (W : WX) (ifs : List Expr) (f : EM) : Prop :=
  ∃ t, PTs X ifs t ∧ ∀ σ H env φ S Q, SOk G φ S H → RepE G φ H σ env → PostT G W φ H σ (f env S) Q → t σ H Q
def eYes : EM := fun _ S => .ok (.bl true) S
theorem dts_nil : DTs G X W [] eYes := ⟨_, pts_nil, fun σ H env φ S Q s re h => h.now s⟩
theorem dts_one {c : Expr} {f : EM} (h : DT G X W c f) : DTs G X W [c] f := let ⟨_, p, q⟩ := h; ⟨_, pts_one p, q⟩
noncomputable def lcD (b : D → EnvD → Option EnvD) (tt elt : EM) (env : EnvD) : List D → List D → Store → LR
  | acc, [], S => .ok acc S
  | acc, d :: ds, S => match b d env with
    | none => .bad
    | some e1 => match tt e1 S with
      | .ok (.bl true) S1 => match elt e1 S1 with
        | .ok y S2 => if sz (acc.length + 1) then lcD b tt elt env (acc ++ [y]) ds S2 else .bad
        | _ => .bad
      | .ok (.bl false) S1 => lcD b tt elt env acc ds S1
      | _ => .bad
noncomputable def eLc (f : LM) (b : D → EnvD → Option EnvD) (tt elt : EM) (vs : List Nat) : EM := fun env S => (f env S).bindE fun ds S => (lcD b tt elt (wipeD env vs) [] ds S).bindE fun ys S => .ok (.lst ys) S
/-- kept as a cell -/
noncomputable def eLcM (f : LM) (b : D → EnvD → Option EnvD) (tt elt : EM) (vs : List Nat) : EM := fun env S => (f env S).bindE fun ds S => (lcD b tt elt (wipeD env vs) [] ds S).bindE fun ys S => .ok (.loc S.length) (S ++ [.lst ys])
theorem wipe_at {σ : St} {j : Nat} : ∀ {vs : List Nat}, j ∈ vs → j < σ.length → (wipe σ vs)[j]? = some none
  | v :: vs, h, hl => by
    unfold L2.wipe
    by_cases q : v = j
    · subst q
      rw [List.getElem?_set_self (by rw [wipe_length]; exact hl)]
    · rw [List.getElem?_set_ne q]
      exact wipe_at ((List.mem_cons.mp h).resolve_left fun z => q z.symm) hl
theorem wipe_off {σ σ2 : St} {vs ws : List Nat} (hs : ∀ j ∈ vs, j ∈ ws) (o : Off vs (wipe σ ws) σ2) : wipe σ2 ws = wipe σ ws := by
  apply List.ext_getElem?
  intro j
  by_cases hj : j ∈ ws
  · by_cases hl : j < σ.length
    · rw [wipe_at hj hl, wipe_at hj (by rw [o.1, wipe_length]; exact hl)]
    · rw [List.getElem?_eq_none (by rw [wipe_length, o.1, wipe_length]; omega), List.getElem?_eq_none (by rw [wipe_length]; omega)]
  · rw [wipe_out hj, o.2 j fun z => hj (hs j z)]
theorem lcD_noex {b : D → EnvD → Option EnvD} {tt elt : EM} {env : EnvD} {x : Exc} {S2 : Store} : ∀ {ds acc : List D} {S : Store}, lcD b tt elt env acc ds S = .ex x S2 → False
  | [], _, _, h => by cases h
  | d :: ds, acc, S, h => by
    unfold lcD at h
    split at h
    · cases h
    · split at h
      · split at h
        · split at h
          · exact lcD_noex h
          · cases h
        · cases h
      · exact lcD_noex h
      · cases h
/-- a state of a comprehension that fills D0, from the state ahead of it -/
structure Lk (φ1 : Fi) (H1 : Hp) (D0 : Addr) (φ2 : Fi) (H2 : Hp) : Prop where
  ext : Ext φ1 H1 ⟨φ2.c, φ1.h⟩ H2
  hid : φ2.h = D0 :: φ1.h
  tab : ∀ P q, TabX φ1 H1 P q → TabX φ2 H2 P q
theorem Lk.mem0 {φ1 φ2 : Fi} {H1 H2 : Hp} {D0 : Addr} (l : Lk φ1 H1 D0 φ2 H2) : D0 ∈ φ2.h := by rw [l.hid]; exact List.mem_cons_self
theorem Lk.ext' {φ1 φ2 φ3 : Fi} {H1 H2 H3 : Hp} {D0 : Addr} (l : Lk φ1 H1 D0 φ2 H2) (e : Ext φ2 H2 φ3 H3) : Lk φ1 H1 D0 φ3 H3 :=
  ⟨l.ext.transL l.tab (fun x m => by rw [l.hid]; exact List.mem_cons_of_mem _ m) e, e.hid.trans l.hid, fun P q t => e.tab (l.tab P q t)⟩
theorem Lk.put {φ1 φ2 : Fi} {H1 H2 : Hp} {D0 : Addr} {o : HO} (l : Lk φ1 H1 D0 φ2 H2) (hD : H1 D0 = none) : Lk φ1 H1 D0 φ2 (upd H2 D0 o) :=
  have tb : ∀ P q, TabX φ1 H1 P q → TabX φ2 (upd H2 D0 o) P q := fun P q t => (Kept.hidden l.mem0).tab P q (l.tab P q t)
  ⟨⟨l.ext.pre, rfl, fun a u n q => by
    rw [upd_ne (ne_of_none q hD)]
    exact (l.ext.keep a u n q).imp id fun ⟨ps, ps', z1, z2, z3, _⟩ => ⟨ps, ps', z1, z2, z3, fun q' t' => (tb _ _ t').mono fun x (n : φ2.out x) => ⟨n.1, fun m => n.2 (by rw [l.hid]; exact List.mem_cons_of_mem _ m)⟩⟩⟩, l.hid, tb⟩
theorem Lk.start {φ1 : Fi} {H1 : Hp} {D0 : Addr} {o : HO} (hD : H1 D0 = none) : Lk φ1 H1 D0 (φ1.hide D0) (upd H1 D0 o) := ⟨.laid hD, rfl, fun P q t => (Kept.hide hD).tab P q t⟩
theorem Lk.mem {φ1 φ2 : Fi} {H1 H2 : Hp} {D0 : Addr} (l : Lk φ1 H1 D0 φ2 H2) : D0 ∈ φ2.h := by rw [l.hid]; exact List.mem_cons_self
def PostLc (G : Glb) (φ1 : Fi) (H1 : Hp) (D0 : Addr) (r : LR) (Q : Hp → Prop) : Prop := match r with
  | .ok ds S => ∀ φ' H' xs, Lk φ1 H1 D0 φ' H' → SOk G φ' S H' → H' D0 = some (.lst xs) → IsL G φ' H' ds xs → Q H'
  | _ => False
theorem lc_loop {J : It} {g : TG} {tt : TT} {te : TE} {b : D → EnvD → Option EnvD} {ft fe : EM} {vs ws : List Nat} {σ : St} {env : EnvD} {φ1 : Fi} {H1 : Hp} {S1 : Store} {ds : List D} {D0 : Addr} {Qd : Hp → Prop} {WB WB' : WX}
    (qg : ∀ v d σ H env env' φ Q, Is G φ H d v → RepE G φ H σ env → b d env = some env' → (∀ σ', RepE G φ H σ' env' → Off vs σ σ' → Q σ' H) → g v σ H Q)
    (qt : ∀ σ H env φ S Q, SOk G φ S H → RepE G φ H σ env → PostT G WB φ H σ (ft env S) Q → tt σ H Q)
    (qe : ∀ σ H env φ S Q, SOk G φ S H → RepE G φ H σ env → PostE G WB' φ H σ (fe env S) Q → te σ H Q)
    (hs : ∀ j ∈ vs, j ∈ ws) (s1 : SOk G φ1 S1 H1) (re : RepE G φ1 H1 σ env) (fd : Feeds G φ1 H1 J ds) (hD : H1 D0 = none)
    (h : PostLc G φ1 H1 D0 (lcD b ft fe (wipeD env ws) [] ds S1) Qd) :
    ∃ Wt : Nat → Nat → Hp → Prop, (∃ m, Wt 0 m (upd H1 D0 (.lst []))) ∧ ∀ i m H, Wt i m H →
      (J.stop i H ∧ Qd H) ∨ (J.go i H ∧ ∃ Nx : Hp → Prop, (∀ H', Nx H' → ∃ m', m' < m ∧ Wt (i + 1) m' H') ∧ ∀ x H', J.yld i H x H' → g x (wipe σ ws) H' fun σ2 H2 => wipe σ2 ws = wipe σ ws ∧ tt σ2 H2 fun b H3 =>
        if b = true then te σ2 H3 fun y H4 => ∃ acc, H4 D0 = some (.lst acc) ∧ acc.length < sizeLine ∧ Nx (upd H4 D0 (.lst (acc ++ [y]))) else Nx H3) := by
  let Go : Nat → Hp → Prop := fun i H2 => i ≤ ds.length ∧ ∃ φ2 S2 accD acc, Kept φ1 H1 φ2 H2 ∧ Lk φ1 H1 D0 φ2 H2 ∧ SOk G φ2 S2 H2 ∧ H2 D0 = some (.lst acc) ∧ IsL G φ2 H2 accD acc ∧ PostLc G φ1 H1 D0 (lcD b ft fe (wipeD env ws) accD (ds.drop i) S2) Qd
  refine ⟨fun i m H2 => m = ds.length - i ∧ Go i H2, ⟨ds.length, by simp, Nat.zero_le _, φ1.hide D0, S1, [], [], Kept.hide hD, .start hD, s1.hide hD, upd_same, rfl, h⟩, ?_⟩
  rintro i m H2 ⟨rfl, hi, φ2, S2, accD, acc, k2, l2, s2, hacc, il, h2⟩
  by_cases hl : i < ds.length
  · right
    have hd : ds[i]? = some ds[i] := List.getElem?_eq_getElem hl
    obtain ⟨go, gy⟩ := fd.go φ2 S2 H2 i ds[i] k2 s2 hd
    rw [List.drop_eq_getElem_cons hl] at h2
    refine ⟨go, Go (i + 1), fun H' w => ⟨ds.length - (i + 1), by omega, rfl, w⟩, fun x H' hy => ?_⟩
    obtain ⟨e3, s3, k3⟩ := gy x H' hy
    have nc : D0 ∉ φ2.c := (s2.hid D0 l2.mem).1
    have r3 : RepE G φ2 H' (wipe σ ws) (wipeD env ws) := ((re.wipe ws).kept k2).ext e3
    unfold lcD at h2
    cases hb1 : b ds[i] (wipeD env ws) with
    | none => rw [hb1] at h2; exact False.elim h2
    | some env3 =>
      rw [hb1] at h2
      dsimp only at h2
      refine qg x ds[i] _ H' _ env3 φ2 _ k3 r3 hb1 fun σ3 r4 o3 => ⟨wipe_off hs o3, ?_⟩
      refine qt σ3 H' env3 φ2 S2 _ s3 r4 ?_
      cases ht : ft env3 S2 with
      | bad => rw [ht] at h2; exact False.elim h2
      | ex x S3 => rw [ht] at h2; exact False.elim h2
      | ok d S3 =>
        rw [ht] at h2
        cases d with
        | bl k =>
          intro φ4 H4 v e4 s4 i4 b' eb
          cases (show v = .bl k from i4)
          cases eb
          have e24 := e3.trans e4
          cases k with
          | false =>
            exact iteF ⟨by omega, φ4, S3, accD, acc, k2.trans e24.kept, l2.ext' e24, s4, e24.keepE nc hacc, il.ext e24, h2⟩
          | true =>
            refine iteT (qe σ3 H4 env3 φ4 S3 _ s4 (r4.ext e4) ?_)
            dsimp only at h2
            cases he : fe env3 S3 with
            | bad => rw [he] at h2; exact False.elim h2
            | ex x S5 => rw [he] at h2; exact False.elim h2
            | ok y S5 =>
              rw [he] at h2
              dsimp only at h2
              by_cases hz : sz (accD.length + 1)
              · rw [if_pos hz] at h2
                intro φ5 H5 v5 e5 s5 i5
                have e25 := e24.trans e5
                have l5 := l2.ext' e25
                have kh : Kept φ5 H5 φ5 (upd H5 D0 (.lst (acc ++ [v5]))) := .hidden l5.mem
                exact ⟨acc, e25.keepE nc hacc, by rw [← il.length, sizeLine_eq]; exact hz, by omega, φ5, S5, accD ++ [y], acc ++ [v5], (k2.trans e25.kept).trans kh, l5.put hD, s5.hidden l5.mem, upd_same, ((il.ext e25).append (.one i5)).kept kh, h2⟩
              · rw [if_neg hz] at h2; exact False.elim h2
        | _ => exact False.elim h2
  · left
    have e : i = ds.length := by omega
    subst e
    rw [List.drop_length] at h2
    exact ⟨fd.stop φ2 S2 H2 k2 s2, h2 φ2 H2 acc l2 s2 hacc il⟩
theorem PostI.ofE {φ : Fi} {H : Hp} {σ : St} {r : LR} {g : List D → Store → ER} {Q : VK} {R : It → Hp → Prop} (h : PostE G W φ H σ (r.bindE g) Q)
    (k : ∀ ds S φ' H' J, Ext φ H φ' H' → SOk G φ' S H' → Feeds G φ' H' J ds → PostE G W φ' H' σ (g ds S) Q → R J H') : PostI G W φ H σ r R := by
  cases r with
  | ok d S => exact fun φ2 H2 J e s i => k d S φ2 H2 J e s i (PostE.ext (r := g d S) e h)
  | ex x S => exact h
  | bad => exact h
/-- the finished list is no more hidden -/
theorem Lk.done {φ1 φ2 : Fi} {H1 H2 : Hp} {D0 : Addr} {S S0 : Store} {ds : List D} {xs : List V} (l : Lk φ1 H1 D0 φ2 H2) (s1 : SOk G φ1 S0 H1) (hD : H1 D0 = none) (s : SOk G φ2 S H2) (hx : H2 D0 = some (.lst xs)) (il : IsL G φ2 H2 ds xs) :
    SOk G ⟨φ2.c, φ1.h⟩ S H2 ∧ Is G ⟨φ2.c, φ1.h⟩ H2 (.lst ds) (.ref D0) := by
  have e : φ2 = (Fi.mk φ2.c φ1.h).hide D0 := by
    obtain ⟨c, h⟩ := φ2
    have := l.hid
    simp only at this
    subst this
    rfl
  have nc : D0 ∉ φ2.c := (s.hid D0 l.mem).1
  rw [e] at s il
  exact ⟨s.show_, D0, xs, rfl, .inl ⟨⟨nc, s1.freshh hD⟩, .inl hx⟩, il.kept Kept.show_⟩
/-! canonical readings: they hang on no context -/
def tOf (G : Glb) (W : WX) (f : EM) : TE := fun σ H Q => ∃ env φ S, SOk G φ S H ∧ RepE G φ H σ env ∧ PostE G W φ H σ (f env S) Q
def tOfT (G : Glb) (W : WX) (f : EM) : TT := fun σ H Q => ∃ env φ S, SOk G φ S H ∧ RepE G φ H σ env ∧ PostT G W φ H σ (f env S) Q
def gOf (G : Glb) (b : D → EnvD → Option EnvD) (vs : List Nat) : TG := fun v σ H Q => ∃ d env env' φ, Is G φ H d v ∧ RepE G φ H σ env ∧ b d env = some env' ∧ ∀ σ', RepE G φ H σ' env' → Off vs σ σ' → Q σ' H
theorem DE.can {e : Expr} {f : EM} (h : DE G X W e f) : PE X e (tOf G W f) := by
  obtain ⟨t, p, q⟩ := h
  exact ⟨fun pins s σ H Q I ⟨env, φ, S, so, r, z⟩ => p.run pins s σ H Q I (q σ H env φ S Q so r z)⟩
theorem DTs.can {e : List Expr} {f : EM} (h : DTs G X W e f) : PTs X e (tOfT G W f) := by
  obtain ⟨t, p, q⟩ := h
  exact ⟨fun pins s σ H Q I ⟨env, φ, S, so, r, z⟩ => p.run pins s σ H Q I (q σ H env φ S Q so r z)⟩
theorem DG.can {e : Expr} {b : D → EnvD → Option EnvD} {vs : List Nat} (h : DG G X e b vs) : PG X e (gOf G b vs) := by
  obtain ⟨g, p, q⟩ := h
  exact ⟨fun pins s σ H v u Q I r ⟨d, env, env', φ, i, re, z, k⟩ => p.run pins s σ H v u Q I r (q v d σ H env env' φ Q i re z k)⟩
/-- nothing leaves a comprehension -/
abbrev W0 : WX := fun _ _ _ _ => False
section
variable {elt tg iter : Expr} {ifs : List Expr} {scope : Scope} {own : List (Str × Nat)} {pos : Pos} {f : LM} {b : D → EnvD → Option EnvD} {ft fe : EM} {vs : List Nat}
theorem lc_read {wi : TI} (qi : ∀ σ H env φ S R, SOk G φ S H → RepE G φ H σ env → PostI G W φ H σ (f env S) R → wi σ H R) (hvs : ∀ j ∈ vs, j ∈ own.map (·.2)) {Q : VK} {R : ER → Prop}
    {σ : St} {H : Hp} {env : EnvD} {φ : Fi} {S : Store} (s : SOk G φ S H) (re : RepE G φ H σ env) (h : PostE G W φ H σ (eLc f b ft fe (own.map (·.2)) env S) Q) :
    tLc wi (gOf G b vs) (tOfT G W0 ft) (tOf G W0 fe) (own.map (·.2)) σ H Q := by
  refine qi σ H env φ S _ s re (PostI.ofE h fun ds S1 φ1 H1 J e1 s1 fd h1 D0 hD => ?_)
  refine lc_loop (env := env) (fun v d σ H env env' φ Q i r z k => ⟨d, env, env', φ, i, r, z, k⟩) (fun σ H env φ S Q s r z => ⟨env, φ, S, s, r, z⟩) (fun σ H env φ S Q s r z => ⟨env, φ, S, s, r, z⟩) hvs s1 (re.ext e1) fd hD ?_
  cases hr : lcD b ft fe (wipeD env (own.map (·.2))) [] ds S1 with
  | ok ys S2 =>
    rw [hr] at h1
    intro φ2 H2 xs l2 s2 hx il
    obtain ⟨s3, i3⟩ := l2.done s1 hD s2 hx il
    exact h1 _ H2 _ l2.ext s3 i3
  | ex x S2 => exact absurd hr (fun z => lcD_noex z)
  | bad => rw [hr] at h1; exact h1
theorem de_lc (hc : X.calm = true) (hN : X.N.Nodup) (hi : DI G X W tg iter f) (ok : BlkOk X.N X.env.scope scope own)
    (hg : ∀ (s : Shared) (H : Hp) (C : Addr) (cl : List (Str × Addr)) (fp : List Addr), DG G (X.blk s H scope (compEnvC scope cl C X.env) fp) tg b vs)
    (ht : ∀ (s : Shared) (H : Hp) (C : Addr) (cl : List (Str × Addr)) (fp : List Addr), DTs G (X.blk s H scope (compEnvC scope cl C X.env) fp) W0 ifs ft)
    (he : ∀ (s : Shared) (H : Hp) (C : Addr) (cl : List (Str × Addr)) (fp : List Addr), DE G (X.blk s H scope (compEnvC scope cl C X.env) fp) W0 elt fe)
    (hvs : ∀ j ∈ vs, j ∈ own.map (·.2)) (hs : ∀ x, foldedSetIterable iter X.env x = pure x := by intro _; rfl) : DE G X W (.ListComp elt [⟨tg, iter, ifs, 0⟩] scope pos) (eLc f b ft fe (own.map (·.2))) := by
  obtain ⟨wi, pI, qi⟩ := hi
  exact ⟨_, pe_lc hc hN pI ok (fun s H C cl fp => (hg s H C cl fp).can) (fun s H C cl fp => (ht s H C cl fp).can) (fun s H C cl fp => (he s H C cl fp).can) hs, fun σ H env φ S Q s re h => lc_read (R := fun _ => True) qi hvs s re h⟩
theorem ds_setLc {i : Nat} {y : Str} {py spos : Pos} (hc : X.calm = true) (hN : X.N.Nodup) (hi : DI G X W tg iter f) (ok : BlkOk X.N X.env.scope scope own)
    (hg : ∀ (s : Shared) (H : Hp) (C : Addr) (cl : List (Str × Addr)) (fp : List Addr), DG G (X.blk s H scope (compEnvC scope cl C X.env) fp) tg b vs)
    (ht : ∀ (s : Shared) (H : Hp) (C : Addr) (cl : List (Str × Addr)) (fp : List Addr), DTs G (X.blk s H scope (compEnvC scope cl C X.env) fp) W0 ifs ft)
    (he : ∀ (s : Shared) (H : Hp) (C : Addr) (cl : List (Str × Addr)) (fp : List Addr), DE G (X.blk s H scope (compEnvC scope cl C X.env) fp) W0 elt fe)
    (hvs : ∀ j ∈ vs, j ∈ own.map (·.2)) (hy : X.N[i]? = some y) (hyl : X.env.scope.names.lookup y = some .local)
    (hsw : swapsWith (.ListComp elt [⟨tg, iter, ifs, 0⟩] scope pos) (some (.Name y py)) spos.line X.env = pure true) (hs : ∀ x, foldedSetIterable iter X.env x = pure x := by intro _; rfl) :
    DS G X W (.Assign [.Name y py] (.ListComp elt [⟨tg, iter, ifs, 0⟩] scope pos) spos) (sAsg (eLc f b ft fe (own.map (·.2))) (bName i)) := by
  obtain ⟨wi, pI, qi⟩ := hi
  refine ⟨_, ps_setLc hc hN hy hyl hsw pI ok (fun s H C cl fp => (hg s H C cl fp).can) (fun s H C cl fp => (ht s H C cl fp).can) (fun s H C cl fp => (he s H C cl fp).can) hs, fun σ H env φ S N s re h => ?_⟩
  exact lc_read (R := fun _ => True) qi hvs s re (PostE.bindS re h fun d S1 φ1 H1 v e1 s1 i1 h1 => h1 φ1 H1 _ .refl s1 ((re.ext e1).set i1 i))
end
end
end DL
end
section
/-! D-layer, part 4: defs, their calls, what leaves a def; cells that are written; the law's end. -/
namespace DL
open PySem L2 PySem.Spec PyProof.Rows
variable [DL.Nm]

/-! ### what leaves a def: new cells become plain data -/
mutual
def frzD (ρ : Nat → Option D) : D → Option D
  | .non => some .non
  | .bl b => some (.bl b)
  | .int i => some (.int i)
  | .str x => some (.str x)
  | .tup ds => (frzDs ρ ds).map .tup
  | .lst ds => (frzDs ρ ds).map .lst
  | .dic ks ds => (frzDs ρ ds).map (.dic ks)
  | .obj c ks ds => (frzDs ρ ds).map (.obj c ks)
  | .loc l => ρ l
  | .dct ks ds => (frzDs ρ ds).map (.dct ks)
  | .exn c ks ds => (frzDs ρ ds).map (.exn c ks)
  | .tpl ds => (frzDs ρ ds).map .tpl
def frzDs (ρ : Nat → Option D) : List D → Option (List D)
  | [] => some []
  | d :: ds => (frzD ρ d).bind fun a => (frzDs ρ ds).map (a :: ·)
end
def resD (n : Nat) (S : Store) : Nat → Nat → Option D
  | 0, _ => none
  | k + 1, l => if l < n then some (.loc l) else match S[l]? with
    | some (.lst ds) => (frzDs (resD n S k) ds).map .lst
    | some (.dic kvs) => (frzDs (resD n S k) (kvs.map (·.2))).map (.dic (kvs.map (·.1)))
    | some (.ins c fs) => (frzDs (resD n S k) (fs.map (·.2))).map (.obj c (fs.map (·.1)))
    | some (.dct kvs) => (frzDs (resD n S k) (kvs.map (·.2))).map (.dct (kvs.map (·.1)))
    | none => none
mutual
def belD (n : Nat) : D → Bool
  | .tup ds => belDs n ds
  | .lst ds => belDs n ds
  | .dic _ ds => belDs n ds
  | .obj _ _ ds => belDs n ds
  | .dct _ ds => belDs n ds
  | .exn _ _ ds => belDs n ds
  | .tpl ds => belDs n ds
  | .loc l => decide (l < n)
  | _ => true
def belDs (n : Nat) : List D → Bool
  | [] => true
  | d :: ds => belD n d && belDs n ds
end
def Cell.bel (n : Nat) : Cell → Bool
  | .lst ds => belDs n ds
  | .dic kvs => belDs n (kvs.map (·.2))
  | .ins _ fs => belDs n (fs.map (·.2))
  | .dct kvs => belDs n (kvs.map (·.2))
inductive Mode where
  | keep
  | pure
  | upto (k : Nat)
open Classical in
/-- the end of a def that began at S0 -/
noncomputable def exitD (m : Mode) (S0 : Store) (d : D) (S : Store) : ER := match m with
  | .keep => .ok d S
  | .pure => match frzD (resD S0.length S 12) d with
    | some d' => if S.take S0.length = S0 ∨ (S.take S0.length).all (Cell.bel S0.length) = true then .ok d' (S.take S0.length) else .bad
    | none => .bad
  | .upto k => match frzD (resD (S0.length + k) S 12) d with
    | some d' => if (S.take (S0.length + k)).all (Cell.bel (S0.length + k)) = true then .ok d' (S.take (S0.length + k)) else .bad
    | none => .bad
section
variable {G : Glb} {φ : Fi} {H : Hp} {S : Store}
def Fi.cut (φ : Fi) (n : Nat) : Fi := ⟨φ.c.take n, φ.h⟩
theorem cut_out {φ : Fi} {n : Nat} {a : Addr} (h : φ.out a) : (φ.cut n).out a := ⟨fun z => h.1 (List.mem_of_mem_take z), h.2⟩
theorem RdL.cut {n : Nat} {a : Addr} {xs : List V} (h : RdL G φ H a xs) : RdL G (φ.cut n) H a xs := h.elim (fun z => .inl ⟨cut_out z.1, z.2⟩) .inr
theorem RdT.cut {n : Nat} {a : Addr} {xs : List V} (h : RdT G φ H a xs) : RdT G (φ.cut n) H a xs := h.elim (fun z => .inl ⟨cut_out z.1, z.2⟩) .inr
mutual
theorem frz_is {n : Nat} {ρ : Nat → Option D} (hρ : ∀ l d' a, ρ l = some d' → φ.c[l]? = some a → Is G (φ.cut n) H d' (.ref a)) : ∀ {d d' : D} {v : V}, Is G φ H d v → frzD ρ d = some d' → Is G (φ.cut n) H d' v
  | .non, _, v, i, e => by cases e; exact i
  | .bl _, _, v, i, e => by cases e; exact i
  | .int _, _, v, i, e => by cases e; exact i
  | .str _, _, v, i, e => by cases e; exact i
  | .tup ds, _, v, i, e => by
    obtain ⟨a, xs, e1, r, q⟩ := i
    obtain ⟨es, e2, e3⟩ := Option.map_eq_some_iff.mp (show (frzDs ρ ds).map D.tup = some _ from e)
    subst e3
    exact ⟨a, xs, e1, r.cut, frz_isL hρ q e2⟩
  | .lst ds, _, v, i, e => by
    obtain ⟨a, xs, e1, r, q⟩ := i
    obtain ⟨es, e2, e3⟩ := Option.map_eq_some_iff.mp (show (frzDs ρ ds).map D.lst = some _ from e)
    subst e3
    exact ⟨a, xs, e1, r.cut, frz_isL hρ q e2⟩
  | .dic ks ds, _, v, i, e => by
    obtain ⟨a, kvs, e1, ⟨n1, r⟩, z, q⟩ := i
    obtain ⟨es, e2, e3⟩ := Option.map_eq_some_iff.mp (show (frzDs ρ ds).map (D.dic ks) = some _ from e)
    subst e3
    exact ⟨a, kvs, e1, ⟨cut_out n1, r⟩, z, frz_isL hρ q e2⟩
  | .obj c ks ds, _, v, i, e => by
    obtain ⟨a, C, dx, fs, e1, ⟨n1, r⟩, hc, z, q⟩ := i
    obtain ⟨es, e2, e3⟩ := Option.map_eq_some_iff.mp (show (frzDs ρ ds).map (D.obj c ks) = some _ from e)
    subst e3
    exact ⟨a, C, dx, fs, e1, ⟨cut_out n1, r⟩, hc, z, frz_isL hρ q e2⟩
  | .loc l, d', v, i, e => by
    obtain ⟨a, ha, e1⟩ := i
    subst e1
    exact hρ l d' a e ha
  | .dct ks ds, _, v, i, e => by
    obtain ⟨a, kvs, e1, ⟨n1, r⟩, z, q⟩ := i
    obtain ⟨es, e2, e3⟩ := Option.map_eq_some_iff.mp (show (frzDs ρ ds).map (D.dct ks) = some _ from e)
    subst e3
    exact ⟨a, kvs, e1, ⟨cut_out n1, r⟩, z, frz_isL hρ q e2⟩
  | .exn c ks ds, _, v, i, e => by
    obtain ⟨a, C, d, e1, ⟨n1, r⟩, hc, z⟩ := i
    obtain ⟨es, e2, e3⟩ := Option.map_eq_some_iff.mp (show (frzDs ρ ds).map (D.exn c ks) = some _ from e)
    subst e3
    refine ⟨a, C, d, e1, ⟨cut_out n1, r⟩, hc, ?_⟩
    rcases z with ⟨z0, z1, z2⟩ | ⟨b, fs, e4, ⟨n2, r2⟩, e5, q⟩
    · subst z2; cases e2; exact .inl ⟨z0, z1, rfl⟩
    · exact .inr ⟨b, fs, e4, ⟨cut_out n2, r2⟩, e5, frz_isL hρ q e2⟩
  | .tpl ds, _, v, i, e => by
    obtain ⟨a, xs, o, e1, ⟨n1, r⟩, q⟩ := i
    obtain ⟨es, e2, e3⟩ := Option.map_eq_some_iff.mp (show (frzDs ρ ds).map D.tpl = some _ from e)
    subst e3
    exact ⟨a, xs, o, e1, ⟨cut_out n1, r⟩, frz_isL hρ q e2⟩
theorem frz_isL {n : Nat} {ρ : Nat → Option D} (hρ : ∀ l d' a, ρ l = some d' → φ.c[l]? = some a → Is G (φ.cut n) H d' (.ref a)) : ∀ {ds ds' : List D} {vs : List V}, IsL G φ H ds vs → frzDs ρ ds = some ds' → IsL G (φ.cut n) H ds' vs
  | [], _, v, i, e => by cases e; exact i
  | d :: ds, _, v, i, e => by
    obtain ⟨x, r, e1, p, q⟩ := i
    obtain ⟨a, e2, e3⟩ := Option.bind_eq_some_iff.mp (show ((frzD ρ d).bind fun a => (frzDs ρ ds).map (a :: ·)) = some _ from e)
    obtain ⟨b, e4, e5⟩ := Option.map_eq_some_iff.mp e3
    subst e5
    exact ⟨x, r, e1, frz_is hρ p e2, frz_isL hρ q e4⟩
end
theorem res_is (s : SOk G φ S H) (n : Nat) : ∀ (k l : Nat) (d' : D) (a : Addr), resD n S k l = some d' → φ.c[l]? = some a → Is G (φ.cut n) H d' (.ref a)
  | 0, _, _, _, e, _ => by cases e
  | k + 1, l, d', a, e, ha => by
    unfold resD at e
    have ih := res_is s n k
    by_cases hl : l < n
    · rw [if_pos hl] at e
      cases e
      exact ⟨a, by show (φ.c.take n)[l]? = _; rw [List.getElem?_take]; rw [if_pos hl]; exact ha, rfl⟩
    · rw [if_neg hl] at e
      have nc : a ∉ (φ.cut n).c := fun z => by
        obtain ⟨j, hj, e2⟩ := List.getElem_of_mem z
        have h1 : (φ.c.take n)[j]? = some a := by rw [← e2]; exact List.getElem?_eq_getElem hj
        rw [List.getElem?_take] at h1
        split at h1
        · exact hl (by rw [nd_ix s.nd ha h1]; assumption)
        · cases h1
      have nh : a ∉ φ.h := fun z => (s.hid a z).1 (List.mem_of_getElem? ha)
      split at e
      · rename_i ds hc
        obtain ⟨xs, hx, q⟩ := s.at_ hc ha
        obtain ⟨es, e2, e3⟩ := Option.map_eq_some_iff.mp e
        subst e3
        exact ⟨a, xs, rfl, .inl ⟨⟨nc, nh⟩, .inl hx⟩, frz_isL ih q e2⟩
      · rename_i kvs hc
        obtain ⟨ws, hx, z, q⟩ := s.at_ hc ha
        obtain ⟨es, e2, e3⟩ := Option.map_eq_some_iff.mp e
        subst e3
        exact ⟨a, ws, rfl, ⟨⟨nc, nh⟩, .inl hx⟩, z, frz_isL ih q e2⟩
      · rename_i c fs hc
        obtain ⟨C, dx, ws, hC, hx, z, q⟩ := s.at_ hc ha
        obtain ⟨es, e2, e3⟩ := Option.map_eq_some_iff.mp e
        subst e3
        exact ⟨a, C, dx, ws, rfl, ⟨⟨nc, nh⟩, hx⟩, hC, z, frz_isL ih q e2⟩
      · rename_i kvs hc
        obtain ⟨ws, hx, z, q⟩ := s.at_ hc ha
        obtain ⟨es, e2, e3⟩ := Option.map_eq_some_iff.mp e
        subst e3
        exact ⟨a, ws, rfl, ⟨⟨nc, nh⟩, .inl hx⟩, z, frz_isL ih q e2⟩
      · cases e
mutual
theorem bel_of {n : Nat} (hn : φ.c.length ≤ n) : ∀ {d : D} {v : V}, Is G φ H d v → belD n d = true
  | .non, _, _ => rfl
  | .bl _, _, _ => rfl
  | .int _, _, _ => rfl
  | .str _, _, _ => rfl
  | .tup ds, _, i => by obtain ⟨a, xs, e1, r, q⟩ := i; exact bel_ofL hn q
  | .lst ds, _, i => by obtain ⟨a, xs, e1, r, q⟩ := i; exact bel_ofL hn q
  | .dic _ ds, _, i => by obtain ⟨a, xs, e1, r, z, q⟩ := i; exact bel_ofL hn q
  | .obj _ _ ds, _, i => by obtain ⟨a, C, dx, xs, e1, r, c, z, q⟩ := i; exact bel_ofL hn q
  | .dct _ ds, _, i => by obtain ⟨a, xs, e1, r, z, q⟩ := i; exact bel_ofL hn q
  | .exn _ _ ds, _, i => by
    obtain ⟨a, C, d, e1, r, c, z⟩ := i
    rcases z with ⟨_, _, z⟩ | ⟨b, fs, _, _, _, q⟩
    · subst z; rfl
    · exact bel_ofL hn q
  | .tpl ds, _, i => by obtain ⟨a, xs, o, e1, r, q⟩ := i; exact bel_ofL hn q
  | .loc l, _, i => by
    obtain ⟨a, ha, _⟩ := i
    have := (List.getElem?_eq_some_iff.mp ha).1
    show decide (l < n) = true
    exact decide_eq_true (by omega)
theorem bel_ofL {n : Nat} (hn : φ.c.length ≤ n) : ∀ {ds : List D} {vs : List V}, IsL G φ H ds vs → belDs n ds = true
  | [], _, _ => rfl
  | d :: ds, _, i => by
    obtain ⟨x, r, e1, p, q⟩ := i
    show (belD n d && belDs n ds) = true
    rw [bel_of hn p, bel_ofL hn q]; rfl
end
mutual
theorem bel_is {n : Nat} : ∀ {d : D} {v : V}, belD n d = true → Is G φ H d v → Is G (φ.cut n) H d v
  | .non, _, _, i => i
  | .bl _, _, _, i => i
  | .int _, _, _, i => i
  | .str _, _, _, i => i
  | .tup ds, _, h, i => by obtain ⟨a, xs, e1, r, q⟩ := i; exact ⟨a, xs, e1, r.cut, bel_isL h q⟩
  | .lst ds, _, h, i => by obtain ⟨a, xs, e1, r, q⟩ := i; exact ⟨a, xs, e1, r.cut, bel_isL h q⟩
  | .dic _ ds, _, h, i => by obtain ⟨a, xs, e1, ⟨n1, r⟩, z, q⟩ := i; exact ⟨a, xs, e1, ⟨cut_out n1, r⟩, z, bel_isL h q⟩
  | .obj _ _ ds, _, h, i => by obtain ⟨a, C, dx, xs, e1, ⟨n1, r⟩, c, z, q⟩ := i; exact ⟨a, C, dx, xs, e1, ⟨cut_out n1, r⟩, c, z, bel_isL h q⟩
  | .dct _ ds, _, h, i => by obtain ⟨a, xs, e1, ⟨n1, r⟩, z, q⟩ := i; exact ⟨a, xs, e1, ⟨cut_out n1, r⟩, z, bel_isL h q⟩
  | .exn _ _ ds, _, h, i => by
    obtain ⟨a, C, d, e1, ⟨n1, r⟩, c, z⟩ := i
    refine ⟨a, C, d, e1, ⟨cut_out n1, r⟩, c, ?_⟩
    rcases z with z | ⟨b, fs, e4, ⟨n2, r2⟩, e5, q⟩
    · exact .inl z
    · exact .inr ⟨b, fs, e4, ⟨cut_out n2, r2⟩, e5, bel_isL h q⟩
  | .tpl _, _, h, i => by obtain ⟨a, xs, o, e1, ⟨n1, r⟩, q⟩ := i; exact ⟨a, xs, o, e1, ⟨cut_out n1, r⟩, bel_isL h q⟩
  | .loc l, _, h, i => by
    obtain ⟨a, ha, e⟩ := i
    have hl : l < n := of_decide_eq_true h
    exact ⟨a, by show (φ.c.take n)[l]? = _; rw [List.getElem?_take, if_pos hl]; exact ha, e⟩
theorem bel_isL {n : Nat} : ∀ {ds : List D} {vs : List V}, belDs n ds = true → IsL G φ H ds vs → IsL G (φ.cut n) H ds vs
  | [], _, _, i => i
  | d :: ds, _, h, i => by
    obtain ⟨x, r, e1, p, q⟩ := i
    have h' : (belD n d && belDs n ds) = true := h
    simp only [Bool.and_eq_true] at h'
    exact ⟨x, r, e1, bel_is h'.1 p, bel_isL h'.2 q⟩
end
theorem CellOk.bel {a : Addr} {c : Cell} {n : Nat} (hn : φ.c.length ≤ n) (h : CellOk G φ H a c) : c.bel n = true := by
  cases c with
  | lst ds => obtain ⟨xs, _, q⟩ := h; exact bel_ofL hn q
  | dic kvs => obtain ⟨xs, _, _, q⟩ := h; exact bel_ofL hn q
  | ins c fs => obtain ⟨C, dx, xs, _, _, _, q⟩ := h; exact bel_ofL hn q
  | dct kvs => obtain ⟨xs, _, _, q⟩ := h; exact bel_ofL hn q
theorem CellOk.cut {a : Addr} {c : Cell} {n : Nat} (hb : c.bel n = true) (h : CellOk G φ H a c) : CellOk G (φ.cut n) H a c := by
  cases c with
  | lst ds => obtain ⟨xs, k, q⟩ := h; exact ⟨xs, k, bel_isL hb q⟩
  | dic kvs => obtain ⟨xs, k, z, q⟩ := h; exact ⟨xs, k, z, bel_isL hb q⟩
  | ins c fs => obtain ⟨C, dx, xs, k, y, z, q⟩ := h; exact ⟨C, dx, xs, k, y, z, bel_isL hb q⟩
  | dct kvs => obtain ⟨xs, k, z, q⟩ := h; exact ⟨xs, k, z, bel_isL hb q⟩
theorem SOk.cut (s : SOk G φ S H) {n : Nat} (hb : ∀ c ∈ S.take n, c.bel n = true) : SOk G (φ.cut n) (S.take n) H := by
  refine ⟨by simp [Fi.cut, s.len], s.nd.sublist (List.take_sublist _ _), fun a ha => ?_, fun l c hc => ?_, fun p hp => (s.tab p hp).mono fun a n => cut_out n⟩
  · obtain ⟨n1, q⟩ := s.hid a ha
    exact ⟨fun z => n1 (List.mem_of_mem_take z), q⟩
  · have hm := hb c (List.mem_of_getElem? hc)
    rw [List.getElem?_take] at hc
    split at hc
    · rename_i hl
      obtain ⟨a, ha, k⟩ := s.cell l c hc
      exact ⟨a, by show (φ.c.take n)[l]? = _; rw [List.getElem?_take, if_pos hl]; exact ha, k.cut hm⟩
    · cases hc
/-- the way out -/
theorem exit_ok {m : Mode} {φ0 : Fi} {H0 : Hp} {S0 : Store} {d : D} {v : V} {W : WX} {σ : L2.St} {Q : VK} (s0 : SOk G φ0 S0 H0) (e : Ext φ0 H0 φ H) (s : SOk G φ S H) (i : Is G φ H d v) (h : PostE G W φ0 H0 σ (exitD m S0 d S) Q) : Q v H := by
  cases m with
  | keep => exact h φ H v e s i
  | pure =>
    unfold exitD at h
    dsimp only at h
    cases hd : frzD (resD S0.length S 12) d with
    | none => rw [hd] at h; exact False.elim h
    | some d' =>
      rw [hd] at h
      dsimp only at h
      split at h
      · rename_i hc
        have eφ : φ.cut S0.length = φ0 := by
          obtain ⟨ψ, e1, _⟩ := e.pre
          obtain ⟨c0, h0⟩ := φ0
          obtain ⟨c1, h1⟩ := φ
          have eh := e.hid
          simp only at e1 eh
          subst e1 eh
          have hl : c0.length = S0.length := s0.len
          show Fi.mk ((c0 ++ ψ).take S0.length) h1 = Fi.mk c0 h1
          rw [← hl, List.take_left]
        have hb : ∀ c ∈ S.take S0.length, c.bel S0.length = true := by
          rcases hc with hc | hc
          · intro c hm
            rw [hc] at hm
            obtain ⟨l, hl, e1⟩ := List.getElem_of_mem hm
            obtain ⟨a, ha, k⟩ := s0.cell l c (by rw [← e1]; exact List.getElem?_eq_getElem hl)
            exact k.bel (by rw [s0.len]; exact Nat.le_refl _)
          · exact fun c hm => List.all_eq_true.mp hc c hm
        have s2 := s.cut hb
        rw [eφ] at s2
        refine h φ0 H v ⟨⟨[], by simp, fun _ z => by simp at z⟩, rfl, e.keepTo (fun a n => by rw [← eφ]; exact cut_out n)⟩ s2 ?_
        have i2 := frz_is (n := S0.length) (res_is s S0.length 12) i hd
        rw [eφ] at i2
        exact i2
      · exact False.elim h
  | upto k =>
    unfold exitD at h
    dsimp only at h
    cases hd : frzD (resD (S0.length + k) S 12) d with
    | none => rw [hd] at h; exact False.elim h
    | some d' =>
      rw [hd] at h
      dsimp only at h
      split at h
      · rename_i hc
        have s2 := s.cut (n := S0.length + k) fun c hm => List.all_eq_true.mp hc c hm
        refine h (φ.cut (S0.length + k)) H v ⟨?_, e.hid, e.keepTo fun a n => cut_out n⟩ s2 (frz_is (n := S0.length + k) (res_is s (S0.length + k) 12) i hd)
        obtain ⟨ψ, e1, p⟩ := e.pre
        refine ⟨ψ.take k, ?_, fun a ha => p a (List.mem_of_mem_take ha)⟩
        show φ.c.take (S0.length + k) = φ0.c ++ ψ.take k
        rw [e1, ← s0.len, List.take_append, List.take_of_length_le (by omega)]
        congr 1
        congr 1
        omega
      · exact False.elim h
end

/-! ### a def's promise -/
def spD (G : Glb) (n : Nat) (F : FD) : Sp := fun vs H Q E => vs.length = n ∧ ∃ φ S ds, SOk G φ S H ∧ IsL G φ H ds vs ∧ PostE G (fun cls dx _ H => E cls dx H) φ H [] (F ds S) Q
def startD (n : Nat) (ds : List D) : EnvD := ds.map some ++ List.replicate (n - ds.length) none
noncomputable def fnF (m : Mode) (n : Nat) (g : SM) : FD := fun ds S => match g (startD n ds) S with
  | .nx _ S1 => exitD m S .non S1
  | .rt d S1 => exitD m S d S1
  | .ex x _ S1 => .ex x S1
  | _ => .bad
theorem rep_start {G : Glb} {φ : Fi} {H : Hp} {ds : List D} {vs : List V} (N : List Str) (i : IsL G φ H ds vs) : RepE G φ H (L2.start N vs) (startD N.length ds) := by
  refine ⟨by simp [L2.start, startD, i.length], fun j d e => ?_⟩
  unfold startD at e
  by_cases hj : j < ds.length
  · rw [List.getElem?_append_left (by simpa using hj), List.getElem?_map] at e
    obtain ⟨d1, e1, e2⟩ := Option.map_eq_some_iff.mp e
    cases e2
    obtain ⟨v, hv, k⟩ := i.get e1
    refine ⟨v, ?_, k⟩
    unfold L2.start
    rw [List.getElem?_append_left (by simpa [← i.length] using hj), List.getElem?_map, hv]
    rfl
  · rw [List.getElem?_append_right (by simpa using hj), List.getElem?_replicate] at e
    split at e <;> cases e
/-- a def of the module, called by its name -/
structure Def (G : Glb) (P : Program) (w : World) (mg : Str → Option Value) (base : Heap) (k : Nat) (x : Str) (n : Nat) (F : FD) : Prop where
  ex : ∃ f fd ps, FnOk P w G.K mg base (L2.CX P w) k f fd ps (spD G n F) ∧ mg x = some (.ref f) ∧ PySem.W.keepIn G.K (.ref f) = true ∧ Binds G.K fd ps []
section
variable {G : Glb} {X : Cx} {W : WX} {k n : Nat} {x : Str} {F : FD} {p pos : Pos} {e : Expr} {es : List Expr} {fa : LM}
def eCall (F : FD) (f : LM) : EM := fun env S => (f env S).bindE F
/-- how many arguments -/
theorem la_nil : ∀ env S ds S', lNil env S = .ok ds S' → ds.length = 0 := fun env S ds S' h => by cases h; rfl
theorem la_cons {f : EM} {g : LM} {m : Nat} (h : ∀ env S ds S', g env S = .ok ds S' → ds.length = m) : ∀ env S ds S', lCons f g env S = .ok ds S' → ds.length = m + 1 := fun env S ds S' q => by
  unfold lCons at q
  cases hf : f env S with
  | ok d S1 =>
    rw [hf] at q
    have q' : ((g env S1).bind fun ds S => .ok (d :: ds) S) = .ok ds S' := q
    cases hg : g env S1 with
    | ok es S2 =>
      rw [hg] at q'
      cases q'
      simp [h _ _ _ _ hg]
    | ex x S2 => rw [hg] at q'; cases q'
    | bad => rw [hg] at q'; cases q'
  | ex x S1 => rw [hf] at q; cases q
  | bad => rw [hf] at q; cases q

/-! ### cells that are written -/
/-- xs[i] = e of a list's cell -/
def putIx (i : Int) (ds : List D) (d : D) : Option (List D) := (ixN ds.length i).map fun j => ds.set j d
def setD (o i d : D) (S : Store) : Option Store := match o, i with
  | .loc l, .int i => match S[l]? with
    | some (.lst ds) => (putIx i ds d).map fun es => S.set l (.lst es)
    | _ => none
  | _, _ => none
/-- o[i] = e: e first, then o, i -/
def sPutL (o i f : EM) : SM := fun env S => (f env S).bindS env fun d S => (o env S).bindS env fun a S => (i env S).bindS env fun b S => match setD a b d S with
  | some S' => .nx env S'
  | none => .bad
theorem set_is {φ : Fi} {S S' : Store} {H : Hp} {o i d : D} {vo vi v : V} (s : SOk G φ S H) (io : Is G φ H o vo) (ii : Is G φ H i vi) (id : Is G φ H d v) (h : setD o i d S = some S') {Q : Hp → Prop} (k : ∀ H', Ext φ H φ H' → SOk G φ S' H' → Q H') : rSetL vo vi v H Q := by
  cases o with
  | loc l =>
    cases i with
    | int i =>
      obtain ⟨a, ha, rfl⟩ := io
      cases (show vi = _ from ii)
      simp only [setD] at h
      cases hc : S[l]? with
      | none => rw [hc] at h; cases h
      | some c =>
        rw [hc] at h
        cases c with
        | lst ds =>
          obtain ⟨es, e1, e2⟩ := Option.map_eq_some_iff.mp (show (putIx i ds d).map (fun es => S.set l (.lst es)) = some S' from h)
          obtain ⟨j, e3, e4⟩ := Option.map_eq_some_iff.mp (show (ixN ds.length i).map (fun j => ds.set j d) = some es from e1)
          subst e2 e4
          obtain ⟨xs, hx, q⟩ := s.at_ hc ha
          refine ⟨a, xs, i, j, rfl, rfl, hx, by rw [← q.length]; exact e3, k _ (.put (List.mem_of_getElem? ha)) (s.put ha ⟨_, upd_same, ?_⟩)⟩
          exact (q.set j id).ext (.put (List.mem_of_getElem? ha))
        | _ => cases h
    | _ => cases h
  | _ => cases h
/-- a built-in type's method by values -/
def DMeth (G : Glb) (X : Cx) (id : String) (g : D → List D → Store → ER) : Prop :=
  ∃ r, MtR X id r ∧ ∀ W φ S H σ dx ds x xs Q, SOk G φ S H → Is G φ H dx x → IsL G φ H ds xs → PostE G W φ H σ (g dx ds S) Q → r x xs H Q
/-- the types of which methods are asked -/
def tyD (T : String) (S : Store) : D → Bool
  | .str _ => T == "str"
  | d => T == "list" && (listD S d).isSome
theorem tyD_is {φ : Fi} {S : Store} {H : Hp} {T : String} {d : D} {v : V} (hK : X.K = G.K) (s : SOk G φ S H) (i : Is G φ H d v) (h : tyD T S d = true) : tyV X.K T v H := by
  have other : (T == "list" && (listD S d).isSome) = true → tyV X.K T v H := fun h => by
    simp only [Bool.and_eq_true, beq_iff_eq] at h
    obtain ⟨ds, e⟩ := Option.isSome_iff_exists.mp h.2
    obtain ⟨a, xs, rfl, r, _⟩ := listD_sq s i e
    exact .inl ⟨h.1, xs, by rw [hK]; exact r⟩
  cases d with
  | str x =>
    cases (show v = _ from i)
    exact beq_iff_eq.mp h
  | _ => exact other h
def eMeth (T : String) (g : D → List D → Store → ER) (o : EM) (f : LM) : EM := fun env S => (o env S).bind fun a S => if tyD T S a then (f env S).bindE fun ds S => g a ds S else .bad
theorem de_meth {T id : String} {name : Str} {g : D → List D → Store → ER} {o : Expr} {fo : EM} {apos cpos : Pos} (pa : PlainAttrs T) (slot : Slot T name id) (hty : typeOf (.builtin id) = pure (.type "method_descriptor")) (hm : DMeth G X id g) (hK : X.K = G.K) (ho : DE G X W o fo) (ha : DA G X W (e :: es) fa)
    (hbase : attributeBase o name X.env (eval o X.env) = eval o X.env := by rfl)
    (hfew : ((backTo cpos (starEach (e :: es) X.env)).all (fun x => !x.1) && (backToKw cpos (keywordEach [] X.env)).all (fun x => x.1.isSome) && decide ((e :: es).length + ([] : List Keyword).length + (if ([] : List Keyword).isEmpty then 0 else 1) < 30)) = true := by rfl)
    (hline : (apos.endLine == cpos.line) = true := by rfl) (hs : starEach (e :: es) X.env = (false, eval e X.env) :: starEach es X.env := by rfl) (hplain : (backTo cpos (starEach es X.env)).any (·.1) = false := by rfl) :
    DE G X W (.Call (.Attribute o name apos) (e :: es) [] cpos) (eMeth T g fo fa) := by
  obtain ⟨r, hr, q⟩ := hm
  obtain ⟨to, po, qo⟩ := ho
  obtain ⟨t, pt, qt⟩ := ha
  refine ⟨_, pe_bm pa slot hty hr po pt hbase hfew hline hs hplain, fun σ H env φ S Q s re h => ?_⟩
  refine qo σ H env φ S _ s re (PostE.bind h fun a S1 φ1 H1 v e1 s1 i1 h1 => ?_)
  split at h1
  · rename_i ht
    refine ⟨tyD_is hK s1 i1 ht, qt σ H1 env φ1 S1 _ s1 (re.ext e1) (PostL.bindE h1 fun ds S2 φ2 H2 vs e2 s2 i2 h2 => ?_)⟩
    exact q W φ2 S2 H2 σ a ds v vs Q s2 (i1.ext e2) i2 h2
  · exact False.elim h1
/-- a list's cell changes -/
def cellL (S : Store) (d : D) (g : Nat → List D → ER) : ER := match d with
  | .loc l => match S[l]? with
    | some (.lst ds) => g l ds
    | _ => .bad
  | _ => .bad
theorem cellL_is {φ : Fi} {S : Store} {H : Hp} {σ : L2.St} {d : D} {v : V} {g : Nat → List D → ER} {Q : VK} {P : Prop} (s : SOk G φ S H) (i : Is G φ H d v) (h : PostE G W φ H σ (cellL S d g) Q)
    (k : ∀ l ds a xs, d = .loc l → S[l]? = some (.lst ds) → v = .ref a → φ.c[l]? = some a → H a = some (.lst xs) → IsL G φ H ds xs → PostE G W φ H σ (g l ds) Q → P) : P := by
  cases d with
  | loc l =>
    obtain ⟨a, ha, rfl⟩ := i
    simp only [cellL] at h
    cases hc : S[l]? with
    | none => rw [hc] at h; exact False.elim h
    | some c =>
      rw [hc] at h
      cases c with
      | lst ds =>
        obtain ⟨xs, hx, q⟩ := s.at_ hc ha
        exact k l ds a xs rfl hc rfl ha hx q h
      | _ => exact False.elim h
  | _ => exact False.elim h
theorem cell_put {φ : Fi} {S : Store} {H : Hp} {σ : L2.St} {l : Nat} {a : Addr} {ds : List D} {xs : List V} {d : D} {v : V} {Q : VK} (s : SOk G φ S H) (ha : φ.c[l]? = some a) (q : IsL G φ H ds xs) (i : Is G φ H d v) (h : PostE G W φ H σ (.ok d (S.set l (.lst ds))) Q) : Q v (upd H a (.lst xs)) :=
  have e : Ext φ H φ (upd H a (.lst xs)) := .put (List.mem_of_getElem? ha)
  h φ _ v e (s.put ha ⟨xs, upd_same, q.ext e⟩) (i.ext e)
noncomputable def mAppend (o : D) (ds : List D) (S : Store) : ER := cellL S o fun l xs => match ds with
  | [d] => if sz (xs.length + 1) then .ok .non (S.set l (.lst (xs ++ [d]))) else .bad
  | _ => .bad
def mPop (o : D) (ds : List D) (S : Store) : ER := cellL S o fun l xs => match ds with
  | [] => match xs[xs.length - 1]? with
    | some d => .ok d (S.set l (.lst xs.dropLast))
    | none => .bad
  | _ => .bad
theorem IsL.dropLast {φ : Fi} {H : Hp} : ∀ {ds : List D} {xs : List V}, IsL G φ H ds xs → IsL G φ H ds.dropLast xs.dropLast := fun {ds xs} h => by
  rw [List.dropLast_eq_take, List.dropLast_eq_take, h.length]
  exact h.take _
end
/-! ### the law's end -/
theorem law_sp {G : Glb} {F : FD} {H : Hp} {a : Addr} {ns : List Int} (hS : SqL G.K H a (ns.map V.int)) (h : ∃ S, F [.lst (ns.map .int)] [] = .ok (.bl true) S) (hT : ∀ p ∈ G.T, p.2 = Nm.nm p.1 ∧ H p.1 = some (.tbl #[]) := by intro p hp; cases hp) :
    spD G 1 F [.ref a] H (fun v _ => v = .bl true) (fun _ _ _ => False) := by
  obtain ⟨S, e⟩ := h
  refine ⟨rfl, ⟨[], []⟩, [], [.lst (ns.map .int)], ⟨rfl, List.nodup_nil, fun _ z => by simp at z, fun _ _ z => by simp at z, fun p hp => ⟨(hT p hp).1, ⟨by simp, by simp⟩, #[], (hT p hp).2, True.intro, fun pos cv hc => ?_⟩⟩, ?_, ?_⟩
  · have z : codeAmong pos [] = some cv := hc
    simp [codeAmong] at z
  · refine .one ⟨a, _, rfl, ?_, IsL.of_ints⟩
    rcases hS with z | z
    · exact .inl ⟨⟨by simp, by simp⟩, z⟩
    · exact .inr z
  · rw [e]
    exact fun φ' H' v _ _ i => i
theorem no_CX {P : Program} {w : World} {H : Hp} {s s' : Shared} {e : Value} (h : L2.CX P w [] H s (fun _ _ _ => False) e s') : False := by
  obtain ⟨_, _, _, _, _, _, _, _, _, _, _, _, z⟩ := h
  exact z
end DL
end
section
/-! D-layer, part 5: isinstance, chains of comparisons, constants of the module. -/
namespace DL
open PySem L2 PySem.Spec PyProof.Rows
variable [DL.Nm]
section
variable {G : Glb} {X : Cx} {W : WX}
/-! ### isinstance of built-in types -/
inductive Ty where
  | int | bool | str | tuple | list | dict | none
  deriving DecidableEq
def Ty.nm : Ty → String
  | .int => "int" | .bool => "bool" | .str => "str" | .tuple => "tuple" | .list => "list" | .dict => "dict" | .none => "NoneType"
def Ty.isa (a b : Ty) : Bool := decide (a = b) || (decide (a = .bool) && decide (b = .int))
theorem ty_kit (a b : Ty) (h : b ≠ .none) : kitB a.nm b.nm = some (a.isa b) := by
  cases a <;> cases b <;> first | exact absurd rfl h | decide +kernel
def tyOf (S : Store) : D → Option Ty
  | .non => some .none
  | .bl _ => some .bool
  | .int _ => some .int
  | .str _ => some .str
  | .tup _ => some .tuple
  | .lst _ => some .list
  | .dic _ _ => some .dict
  | .obj _ _ _ => none
  | .dct _ _ => none
  | .exn _ _ _ => none
  | .tpl _ => some .tuple
  | .loc l => match S[l]? with
    | some (.lst _) => some .list
    | some (.dic _) => some .dict
    | some (.dct _) => some .dict
    | _ => none
theorem tyOf_is {φ : Fi} {S : Store} {H : Hp} {d : D} {v : V} {t : Ty} (s : SOk G φ S H) (i : Is G φ H d v) (e : tyOf S d = some t) : TyX G.K H v (.type t.nm) := by
  have lst : ∀ {a : Addr} {xs : List V}, SqL G.K H a xs → TyX G.K H (.ref a) (.type "list") := fun {a xs} r => by
    rcases r with (r | ⟨o, r⟩) | ⟨o, its, n, h1, h2, _⟩
    · exact .base (.lst r)
    · exact .base (.frz r)
    · exact .kList h1 h2
  cases d with
  | non => cases e; cases (show v = _ from i); exact .base .non
  | bl b => cases e; cases (show v = _ from i); exact .base (.bl b)
  | int b => cases e; cases (show v = _ from i); exact .base (.int b)
  | str b => cases e; cases (show v = _ from i); exact .base (.str b)
  | tup ds =>
    cases e
    obtain ⟨a, xs, rfl, r, _⟩ := i
    rcases r with ⟨_, r | ⟨o, r⟩⟩ | ⟨o, its, n, h1, h2, _⟩
    · exact .base (.tup r)
    · exact .fTuple r
    · exact .kTuple h1 h2
  | lst ds =>
    cases e
    obtain ⟨a, xs, rfl, r, _⟩ := i
    exact lst r.seq
  | dic ks ds =>
    cases e
    obtain ⟨a, xs, rfl, ⟨_, r | ⟨o, r⟩⟩, _⟩ := i
    · exact .base (.dK r)
    · exact .fDict r
  | obj c ks ds => cases e
  | exn c ks ds => cases e
  | tpl ds =>
    cases e
    obtain ⟨a, xs, o, rfl, ⟨_, r, _⟩, _⟩ := i
    exact .fTuple r
  | dct ks ds => cases e
  | loc l =>
    obtain ⟨a, ha, rfl⟩ := i
    simp only [tyOf] at e
    split at e
    · rename_i ds hc
      cases e
      obtain ⟨xs, hx, _⟩ := s.at_ hc ha
      exact .base (.lst hx)
    · rename_i ds hc
      cases e
      obtain ⟨xs, hx, _⟩ := s.at_ hc ha
      exact .base (.dK hx)
    · rename_i ds hc
      cases e
      obtain ⟨xs, hx, _⟩ := s.at_ hc ha
      exact .base (.dT hx)
    · cases e
def eIsi (b : Ty) (f : EM) : EM := fun env S => (f env S).bind fun d S => match tyOf S d with
  | some a => .ok (.bl (a.isa b)) S
  | none => .bad
/-- isinstance(e, (T1, T2)) -/
def eIsi2 (b c : Ty) (f : EM) : EM := fun env S => (f env S).bind fun d S => match tyOf S d with
  | some a => .ok (.bl (a.isa b || a.isa c)) S
  | none => .bad
/-! ### a < b < c -/
theorem chain_of {r r' : R2} {g g' : D → D → Store → ER} {ta tb tc : TE} {fa fb fc : EM}
    (hr : ∀ W φ S H σ dx dy x y Q, SOk G φ S H → Is G φ H dx x → Is G φ H dy y → PostE G W φ H σ (g dx dy S) Q → r x y H Q)
    (hr' : ∀ W φ S H σ dx dy x y Q, SOk G φ S H → Is G φ H dx x → Is G φ H dy y → PostE G W φ H σ (g' dx dy S) Q → r' x y H Q)
    (ha : ∀ σ H env φ S Q, SOk G φ S H → RepE G φ H σ env → PostE G W φ H σ (fa env S) Q → ta σ H Q)
    (hb : ∀ σ H env φ S Q, SOk G φ S H → RepE G φ H σ env → PostE G W φ H σ (fb env S) Q → tb σ H Q)
    (hc : ∀ σ H env φ S Q, SOk G φ S H → RepE G φ H σ env → PostE G W φ H σ (fc env S) Q → tc σ H Q) :
    ∀ σ H env φ S Q, SOk G φ S H → RepE G φ H σ env → PostE G W φ H σ (eChain g g' fa fb fc env S) Q → tChain r r' ta tb tc σ H Q := fun σ H env φ S Q s re h => by
  refine ha σ H env φ S _ s re (PostE.bind h fun d S1 φ1 H1 v e1 s1 i1 h1 => ?_)
  refine hb σ H1 env φ1 S1 _ s1 (re.ext e1) (PostE.bind h1 fun d2 S2 φ2 H2 v2 e2 s2 i2 h2 => ?_)
  refine hr W φ2 S2 H2 σ d d2 v v2 _ s2 (i1.ext e2) i2 (PostE.bind h2 fun z S3 φ3 H3 vz e3 s3 i3 h3 => ?_)
  cases z with
  | bl k =>
    refine ⟨k, i3, ?_⟩
    cases k with
    | true =>
      refine iteT (hc σ H3 env φ3 S3 _ s3 ((re.ext e1).ext (e2.trans e3)) (PostE.bind h3 fun d4 S4 φ4 H4 v4 e4 s4 i4 h4 => ?_))
      exact hr' W φ4 S4 H4 σ d2 d4 v2 v4 Q s4 (i2.ext (e3.trans e4)) i4 h4
    | false => exact iteF (h3.now s3 rfl)
  | _ => exact False.elim h3
theorem de_chain {op op' : CmpOp} {a b c : Expr} {pos : Pos} {g g' : D → D → Store → ER} {fa fb fc : EM} (ho : DOp G X (compareOp op) g) (ho' : DOp G X (compareOp op') g') (ha : DE G X W a fa) (hb : DE G X W b fb) (hc : DE G X W c fc)
    (h1 : lastMarks [op, op'] [b, c] = false := by rfl) : DE G X W (.Compare a [op, op'] [b, c] pos) (eChain g g' fa fb fc) := by
  obtain ⟨r, hr, q⟩ := ho
  obtain ⟨r', hr', q'⟩ := ho'
  obtain ⟨ta, pa, qa⟩ := ha
  obtain ⟨tb, pb, qb⟩ := hb
  obtain ⟨tc, pc, qc⟩ := hc
  exact ⟨_, pe_chain hr hr' pa pb pc h1, chain_of q q' qa qb qc⟩
/-! ### what is never reached; constants of the module -/
theorem de_gInt {x : Str} {i : Int} {pos : Pos} (h : ∃ t, X.mg x = some (.int i t)) (hg : Gl X x) (hd : (x == ("__debug__" : Str)) = false := by decide) : DE G X W (.Name x pos) (eC (.int i)) :=
  let ⟨t, e⟩ := h; de_glob hg e (v := .int i) ⟨t, rfl⟩ (fun _ _ => rfl) hd
end

/-! ### slices -/
section
variable {G : Glb} {X : Cx} {W : WX}
inductive OR where
  | ok (o : Option Int) (S : Store)
  | ex (x : Exc) (S : Store)
  | bad
abbrev OM := EnvD → Store → OR
def OR.bindE (r : OR) (g : Option Int → Store → ER) : ER := match r with
  | .ok d S => g d S
  | .ex x S => .ex x S
  | .bad => .bad
def PostO (G : Glb) (W : WX) (φ : Fi) (H : Hp) (σ : L2.St) (r : OR) (Q : Option Int → Hp → Prop) : Prop := match r with
  | .ok d S => ∀ φ' H', Ext φ H φ' H' → SOk G φ' S H' → Q d H'
  | .ex x S => ∀ φ' H' cls dx, Ext φ H φ' H' → SOk G φ' S H' → IsX G φ' H' x cls dx → W cls dx σ H'
  | .bad => False
def DO (G : Glb) (X : Cx) (W : WX) (e : Option Expr) (f : OM) : Prop :=
  ∃ t, PO X e t ∧ ∀ σ H env φ S Q, SOk G φ S H → RepE G φ H σ env → PostO G W φ H σ (f env S) Q → t σ H Q
def oNone : OM := fun _ S => .ok none S
def oSome (f : EM) : OM := fun env S => match f env S with
  | .ok (.int i) S => .ok (some i) S
  | .ex x S => .ex x S
  | _ => .bad
theorem do_none : DO G X W none oNone := ⟨_, po_none, fun σ H env φ S Q s re h => h φ H .refl s⟩
theorem do_some {e : Expr} {f : EM} (h : DE G X W e f) : DO G X W (some e) (oSome f) := by
  obtain ⟨t, p, q⟩ := h
  refine ⟨_, po_some p, fun σ H env φ S Q s re h => ?_⟩
  refine q σ H env φ S _ s re ?_
  unfold oSome at h
  cases hr : f env S with
  | ok d S1 =>
    rw [hr] at h
    cases d with
    | int i => exact fun φ1 H1 v e1 s1 i1 => ⟨i, i1, h φ1 H1 e1 s1⟩
    | _ => exact False.elim h
  | ex x S1 => rw [hr] at h; exact h
  | bad => rw [hr] at h; exact False.elim h
theorem PostO.bindE {φ : Fi} {H : Hp} {σ : L2.St} {r : OR} {g : Option Int → Store → ER} {Q : VK} {Q' : Option Int → Hp → Prop} (h : PostE G W φ H σ (r.bindE g) Q)
    (k : ∀ d S φ' H', Ext φ H φ' H' → SOk G φ' S H' → PostE G W φ' H' σ (g d S) Q → Q' d H') : PostO G W φ H σ r Q' := by
  cases r with
  | ok d S => exact fun φ2 H2 e s => k d S φ2 H2 e s (PostE.ext (r := g d S) e h)
  | ex x S => exact h
  | bad => exact h
def cutD {α : Type} (xs : List α) (lo hi : Option Int) : List α := (xs.drop (HT.sIx xs.length 0 lo)).take (HT.sIx xs.length xs.length hi - HT.sIx xs.length 0 lo)
theorem IsL.cut {φ : Fi} {H : Hp} {ds : List D} {xs : List V} (h : IsL G φ H ds xs) (lo hi : Option Int) : IsL G φ H (cutD ds lo hi) (cutV xs lo hi) := by
  unfold cutD cutV
  rw [h.length]
  exact (h.drop _).take _
def slD (x : D) (lo hi : Option Int) (S : Store) : ER := match x with
  | .tup ds => .ok (.tup (cutD ds lo hi)) S
  | x => match listD S x with
    | some ds => .ok (.lst (cutD ds lo hi)) S
    | none => .bad
def eSlice (f : EM) (lo hi : OM) : EM := fun env S => (f env S).bind fun x S => (lo env S).bindE fun l S => (hi env S).bindE fun u S => slD x l u S
theorem cut_whole {α : Type} {xs : List α} {lo hi : Option Int} (h : HT.sIx xs.length 0 lo = 0 ∧ HT.sIx xs.length xs.length hi = xs.length) : cutD xs lo hi = xs := by
  unfold cutD
  rw [h.1, h.2]; simp
theorem de_slice {e : Expr} {lo hi : Option Expr} {p2 pos : Pos} {f : EM} {fl fh : OM} (hK : X.K = G.K) (he : DE G X W e f) (hl : DO G X W lo fl) (hh : DO G X W hi fh) : DE G X W (.Subscript e (.Slice lo hi none p2) pos) (eSlice f fl fh) := by
  obtain ⟨t, p, q⟩ := he
  obtain ⟨tl, pl, ql⟩ := hl
  obtain ⟨th, ph, qh⟩ := hh
  refine ⟨_, pe_slice (sl_list.or sl_tupA) p pl ph, fun σ H env φ S Q s re h => ?_⟩
  refine q σ H env φ S _ s re (PostE.bind h fun x S1 φ1 H1 v e1 s1 i1 h1 => ?_)
  refine ql σ H1 env φ1 S1 _ s1 (re.ext e1) (PostO.bindE h1 fun l S2 φ2 H2 e2 s2 h2 => ?_)
  refine qh σ H2 env φ2 S2 _ s2 ((re.ext e1).ext e2) (PostO.bindE h2 fun u S3 φ3 H3 e3 s3 h3 => ?_)
  have i3 := (i1.ext e2).ext e3
  unfold slD at h3
  split at h3
  · rename_i ds
    obtain ⟨a, xs, rfl, r, il⟩ := i3
    refine .inr ⟨a, xs, rfl, by rw [hK]; exact r.seq, fun hw => ?_, fun _ p hp => tup_new s3 (il.cut l u) h3 hp⟩
    rw [← il.length] at hw
    rw [cut_whole hw] at h3
    exact h3.now s3 ⟨a, xs, rfl, r, il⟩
  · split at h3
    · rename_i ds e
      obtain ⟨a, xs, rfl, r, il⟩ := listD_sq s3 i3 e
      exact .inl ⟨a, xs, rfl, by rw [hK]; exact r, fun p hp => lst_new s3 (il.cut l u) h3 hp⟩
    · exact False.elim h3
end
end DL
end
section
/-! D-layer, part 6: how the values are reckoned (by simp). -/
namespace DL
open PySem L2
variable [DL.Nm]
section
variable {d : D} {S : Store} {x : Exc} {e env : EnvD} {i j : Int}
@[simp] theorem ER.bind_ok {g : D → Store → ER} : (ER.ok d S).bind g = g d S := rfl
@[simp] theorem ER.bind_ex {g : D → Store → ER} : (ER.ex x S).bind g = .ex x S := rfl
@[simp] theorem ER.bind_bad {g : D → Store → ER} : ER.bad.bind g = .bad := rfl
@[simp] theorem ER.bindL_ok {g : D → Store → LR} : (ER.ok d S).bindL g = g d S := rfl
@[simp] theorem ER.bindL_ex {g : D → Store → LR} : (ER.ex x S).bindL g = .ex x S := rfl
@[simp] theorem ER.bindL_bad {g : D → Store → LR} : ER.bad.bindL g = .bad := rfl
@[simp] theorem LR.bind_ok {ds : List D} {g : List D → Store → LR} : (LR.ok ds S).bind g = g ds S := rfl
@[simp] theorem LR.bind_ex {g : List D → Store → LR} : (LR.ex x S).bind g = .ex x S := rfl
@[simp] theorem LR.bind_bad {g : List D → Store → LR} : LR.bad.bind g = .bad := rfl
@[simp] theorem LR.bindE_ok {ds : List D} {g : List D → Store → ER} : (LR.ok ds S).bindE g = g ds S := rfl
@[simp] theorem LR.bindE_ex {g : List D → Store → ER} : (LR.ex x S).bindE g = .ex x S := rfl
@[simp] theorem LR.bindE_bad {g : List D → Store → ER} : LR.bad.bindE g = .bad := rfl
@[simp] theorem ER.bindS_ok {g : D → Store → SR} : (ER.ok d S).bindS e g = g d S := rfl
@[simp] theorem ER.bindS_ex {g : D → Store → SR} : (ER.ex x S).bindS e g = .ex x e S := rfl
@[simp] theorem ER.bindS_bad {g : D → Store → SR} : ER.bad.bindS e g = .bad := rfl
@[simp] theorem LR.bindS_ok {ds : List D} {g : List D → Store → SR} : (LR.ok ds S).bindS e g = g ds S := rfl
@[simp] theorem LR.bindS_ex {g : List D → Store → SR} : (LR.ex x S).bindS e g = .ex x e S := rfl
@[simp] theorem LR.bindS_bad {g : List D → Store → SR} : LR.bad.bindS e g = .bad := rfl
@[simp] theorem OR.bindE_ok {o : Option Int} {g : Option Int → Store → ER} : (OR.ok o S).bindE g = g o S := rfl
@[simp] theorem SR.seq_nx {g : EnvD → Store → SR} : (SR.nx e S).seq g = g e S := rfl
@[simp] theorem SR.seq_rt {g : EnvD → Store → SR} : (SR.rt d S).seq g = .rt d S := rfl
@[simp] theorem SR.seq_bk {g : EnvD → Store → SR} : (SR.bk e S).seq g = .bk e S := rfl
@[simp] theorem SR.seq_ct {g : EnvD → Store → SR} : (SR.ct e S).seq g = .ct e S := rfl
@[simp] theorem SR.seq_ex {g : EnvD → Store → SR} : (SR.ex x e S).seq g = .ex x e S := rfl
@[simp] theorem SR.seq_bad {g : EnvD → Store → SR} : SR.bad.seq g = .bad := rfl
@[simp] theorem eVar_at {i : Nat} (h : env[i]? = some (some d)) : eVar i env S = .ok d S := by unfold eVar; rw [h]
@[simp] theorem eC_is : eC d env S = .ok d S := rfl
@[simp] theorem lNil_is : lNil env S = .ok [] S := rfl
@[simp] theorem lCons_is {f : EM} {g : LM} : lCons f g env S = (f env S).bindL fun d S => (g env S).bind fun ds S => .ok (d :: ds) S := rfl
@[simp] theorem eOp_is {g : D → D → Store → ER} {a b : EM} : eOp g a b env S = (a env S).bind fun x S => (b env S).bind fun y S => g x y S := rfl
@[simp] theorem eCall_is {F : FD} {f : LM} : eCall F f env S = (f env S).bindE F := rfl
@[simp] theorem eCallB_is {g : List D → Store → ER} {f : LM} : eCallB g f env S = (f env S).bindE g := rfl
@[simp] theorem eTup_is {f : LM} : eTup f env S = (f env S).bindE fun ds S => if sz ds.length then .ok (.tup ds) S else .bad := rfl
@[simp] theorem eLst_is {f : LM} : eLst f env S = (f env S).bindE fun ds S => if sz ds.length then .ok (.lst ds) S else .bad := rfl
@[simp] theorem eLstM_is {f : LM} : eLstM f env S = (f env S).bindE fun ds S => if sz ds.length then .ok (.loc S.length) (S ++ [.lst ds]) else .bad := rfl
@[simp] theorem eAnd_is {a b : EM} : eAnd a b env S = (a env S).bind fun d S => match d with | .bl true => b env S | .bl false => .ok (.bl false) S | _ => .bad := rfl
@[simp] theorem eOr_is {a b : EM} : eOr a b env S = (a env S).bind fun d S => match d with | .bl true => .ok (.bl true) S | .bl false => b env S | _ => .bad := rfl
@[simp] theorem eNot_is {a : EM} : eNot a env S = (a env S).bind fun d S => match d with | .bl b => .ok (.bl (!b)) S | _ => .bad := rfl
@[simp] theorem eIf_is {c a b : EM} : eIf c a b env S = (c env S).bind fun d S => match d with | .bl true => a env S | .bl false => b env S | _ => .bad := rfl
@[simp] theorem eNeg_is {a : EM} : eNeg a env S = (a env S).bind fun d S => match d with | .int i => .ok (.int (-i)) S | _ => .bad := rfl
@[simp] theorem eChain_is {g g' : D → D → Store → ER} {a b c : EM} : eChain g g' a b c env S = (a env S).bind fun x S => (b env S).bind fun y S => (g x y S).bind fun z S => match z with
  | .bl true => (c env S).bind fun w S => g' y w S
  | .bl false => .ok (.bl false) S
  | _ => .bad := rfl
@[simp] theorem sSkip_is : sSkip e S = .nx e S := rfl
@[simp] theorem sBk_is : sBk e S = .bk e S := rfl
@[simp] theorem sCt_is : sCt e S = .ct e S := rfl
@[simp] theorem sSeq_is {a b : SM} : sSeq a b e S = (a e S).seq b := rfl
@[simp] theorem sRet_is {f : EM} : sRet f e S = (f e S).bindS e fun d S => .rt d S := rfl
@[simp] theorem sRetN_is : sRetN e S = .rt .non S := rfl
@[simp] theorem sDrop_is {f : EM} : sDrop f e S = (f e S).bindS e fun _ S => .nx e S := rfl
@[simp] theorem sIf_is {c : EM} {a b : SM} : sIf c a b e S = (c e S).bindS e fun d S => match d with | .bl true => a e S | .bl false => b e S | _ => .bad := rfl
@[simp] theorem sAsg_is {f : EM} {b : D → EnvD → Option EnvD} : sAsg f b e S = (f e S).bindS e fun d S => match b d e with | some e' => .nx e' S | none => .bad := rfl
@[simp] theorem sPar_is {i j : Nat} {f : LM} : sPar i j f e S = (f e S).bindS e fun ds S => match ds with | [a, b] => .nx ((e.set i (some a)).set j (some b)) S | _ => .bad := rfl
@[simp] theorem sPar3_is {i j l : Nat} {f : LM} : sPar3 i j l f e S = (f e S).bindS e fun ds S => match ds with | [a, b, c] => .nx (((e.set i (some a)).set j (some b)).set l (some c)) S | _ => .bad := rfl
@[simp] theorem sAug_is {i : Nat} {g : D → D → Store → ER} {f : EM} : sAug i g f e S = (eOp g (eVar i) f e S).bindS e fun d S => .nx (e.set i (some d)) S := rfl
@[simp] theorem sFor_is {f : LM} {b : D → EnvD → Option EnvD} {body : SM} : sFor f b body e S = (f e S).bindS e fun ds S => forD b body ds e S := rfl
@[simp] theorem sPutL_is {o i f : EM} : sPutL o i f env S = (f env S).bindS env fun d S => (o env S).bindS env fun a S => (i env S).bindS env fun b S => match setD a b d S with
  | some S' => .nx env S'
  | none => .bad := rfl
@[simp] theorem bName_is {i : Nat} : bName i d env = some (env.set i (some d)) := rfl
@[simp] theorem bTup_is {b : List D → EnvD → Option EnvD} {ds : List D} : bTup b (.tup ds) env = b ds env := rfl
@[simp] theorem bNil_is : bNil [] env = some env := rfl
@[simp] theorem bCons_is {b : D → EnvD → Option EnvD} {c : List D → EnvD → Option EnvD} {ds : List D} : bCons b c (d :: ds) env = (b d env).bind (c ds) := rfl
@[simp] theorem forD_nil {b : D → EnvD → Option EnvD} {body : SM} : forD b body [] e S = .nx e S := rfl
@[simp] theorem iSeq_is {f : EM} : iSeq f env S = (f env S).bindL fun d S => match d with
  | .lst ds => .ok ds S
  | .tup ds => .ok ds S
  | .str x => .ok (signsD x) S
  | _ => .bad := rfl
@[simp] theorem iRange1_is {f : LM} : iRange1 f env S = (f env S).bind fun ds S => match ds with
  | [.int j] => if rOk j then .ok (rangeD 0 j.toNat) S else .bad
  | _ => .bad := rfl
@[simp] theorem iRange2_is {f : LM} : iRange2 f env S = (f env S).bind fun ds S => match ds with
  | [.int i, .int j] => if rOk i ∧ rOk j then .ok (rangeD i (j - i).toNat) S else .bad
  | _ => .bad := rfl
theorem rOk_n {n : Nat} (h : n ≤ 1000000000) : rOk (n : Int) := ⟨by omega, by omega⟩
@[simp] theorem iEnumD_is {f : LM} : iEnumD f env S = (f env S).bind fun ds S => match ds with
  | [.lst ds] => .ok (enumD 0 ds) S
  | _ => .bad := rfl
@[simp] theorem iZipD_is {f : LM} : iZipD f env S = (f env S).bind fun ds S => match ds with
  | [.lst ds, .lst es] => .ok (zipD ds es) S
  | _ => .bad := rfl
@[simp] theorem eLc_is {f : LM} {b : D → EnvD → Option EnvD} {tt elt : EM} {vs : List Nat} : eLc f b tt elt vs env S = (f env S).bindE fun ds S => (lcD b tt elt (wipeD env vs) [] ds S).bindE fun ys S => .ok (.lst ys) S := rfl
@[simp] theorem eLcM_is {f : LM} {b : D → EnvD → Option EnvD} {tt elt : EM} {vs : List Nat} : eLcM f b tt elt vs env S = (f env S).bindE fun ds S => (lcD b tt elt (wipeD env vs) [] ds S).bindE fun ys S => .ok (.loc S.length) (S ++ [.lst ys]) := rfl
@[simp] theorem eYes_is : eYes env S = .ok (.bl true) S := rfl
@[simp] theorem wipeD_nil : wipeD env [] = env := rfl
@[simp] theorem wipeD_cons {v : Nat} {vs : List Nat} : wipeD env (v :: vs) = (wipeD env vs).set v none := rfl
@[simp] theorem lcD_nil {b : D → EnvD → Option EnvD} {tt elt : EM} {acc : List D} : lcD b tt elt env acc [] S = .ok acc S := rfl
/-! operators on known values -/
@[simp] theorem opAdd_ii : opAdd (.int i) (.int j) S = .ok (.int (i + j)) S := rfl
@[simp] theorem opAdd_tt {a b : List D} : opAdd (.tup a) (.tup b) S = if sz (a.length + b.length) then .ok (.tup (a ++ b)) S else .bad := rfl
@[simp] theorem opAdd_ll {a b : List D} : opAdd (.lst a) (.lst b) S = if sz (a.length + b.length) then .ok (.lst (a ++ b)) S else .bad := rfl
@[simp] theorem opAdd_ss {a b : Str} : opAdd (.str a) (.str b) S = if sz (a.length + b.length) then .ok (.str (a ++ b)) S else .bad := rfl
@[simp] theorem opSub_ii : opSub (.int i) (.int j) S = .ok (.int (i - j)) S := rfl
@[simp] theorem opMul_ii : opMul (.int i) (.int j) S = if mulOk i j then .ok (.int (i * j)) S else .bad := rfl
@[simp] theorem sz_is {n : Nat} (h : n ≤ 16777216) : sz n := h
@[simp] theorem mulOk_l (h : i.natAbs < 18446744073709551616) : mulOk i j := .inl h
@[simp] theorem mulOk_r (h : j.natAbs < 18446744073709551616) : mulOk i j := .inr (.inl h)
@[simp] theorem divOk_s (h0 : 0 < j) (h : j < 1073741824) : divOk j := ⟨h0, .inl h⟩
@[simp] theorem powOk_is (h0 : 0 ≤ j) (h : j ≤ 1000000) (h2 : i.natAbs < 18446744073709551616) : powOk i j := ⟨h0, h, h2⟩
@[simp] theorem mulSOk_l (h : i.natAbs < 18446744073709551616) : mulSOk i j := .inl h
@[simp] theorem mulSOk_r (h : j.natAbs < 18446744073709551616) : mulSOk i j := .inr h
@[simp] theorem opMod_ii : opMod (.int i) (.int j) S = if 0 < j then .ok (.int (i % j)) S else .bad := rfl
@[simp] theorem opFdiv_ii : opFdiv (.int i) (.int j) S = if divOk j then .ok (.int (i / j)) S else .bad := rfl
@[simp] theorem opPow_ii : opPow (.int i) (.int j) S = if powOk i j then .ok (.int (i ^ j.toNat)) S else .bad := rfl
@[simp] theorem opMulS_ii : opMulS (.int i) (.int j) S = if mulSOk i j then .ok (.int (i * j)) S else .bad := rfl
@[simp] theorem opAddI_ii : opAddI (.int i) (.int j) S = .ok (.int (i + j)) S := rfl
@[simp] theorem opLt_ii : opLt (.int i) (.int j) S = .ok (.bl (decide (i < j))) S := rfl
@[simp] theorem opLe_ii : opLe (.int i) (.int j) S = .ok (.bl (decide (i ≤ j))) S := rfl
@[simp] theorem opGt_ii : opGt (.int i) (.int j) S = .ok (.bl (decide (j < i))) S := rfl
@[simp] theorem opGe_ii : opGe (.int i) (.int j) S = .ok (.bl (decide (j ≤ i))) S := rfl
theorem shaped_int (i : Int) : SeqAt.shaped (.int i) = true := rfl
@[simp] theorem opEq_ii : opEq (.int i) (.int j) S = .ok (.bl (decide (i = j))) S := by
  unfold opEq opEqB
  simp only [D.pyO, D.py, shaped_int, Bool.and_self, if_true]
  show ER.ok (.bl (i == j)) S = _
  rw [Bool.beq_eq_decide_eq]
@[simp] theorem opNe_ii : opNe (.int i) (.int j) S = .ok (.bl (!decide (i = j))) S := by
  unfold opNe opEqB
  simp only [D.pyO, D.py, shaped_int, Bool.and_self, if_true]
  show ER.ok (.bl (!(i == j))) S = _
  rw [Bool.beq_eq_decide_eq]
@[simp] theorem opEq_ss {a b : Str} : opEq (.str a) (.str b) S = .ok (.bl (decide (a = b))) S := rfl
@[simp] theorem opNe_ss {a b : Str} : opNe (.str a) (.str b) S = .ok (.bl (!decide (a = b))) S := rfl
@[simp] theorem opEq_bb {a b : Bool} : opEq (.bl a) (.bl b) S = .ok (.bl (a == b)) S := rfl
@[simp] theorem opNe_bb {a b : Bool} : opNe (.bl a) (.bl b) S = .ok (.bl (!(a == b))) S := rfl
@[simp] theorem opIsN_non : opIsN d .non S = .ok (.bl d.isN) S := rfl
@[simp] theorem opNotN_non : opNotN d .non S = .ok (.bl (!d.isN)) S := rfl
@[simp] theorem isN_non : D.isN .non = true := rfl
@[simp] theorem isN_int : D.isN (.int i) = false := rfl
@[simp] theorem isN_str {z : Str} : D.isN (.str z) = false := rfl
@[simp] theorem isN_bl {b : Bool} : D.isN (.bl b) = false := rfl
@[simp] theorem isN_tup {ds : List D} : D.isN (.tup ds) = false := rfl
@[simp] theorem isN_lst {ds : List D} : D.isN (.lst ds) = false := rfl
@[simp] theorem isN_loc {l : Nat} : D.isN (.loc l) = false := rfl
@[simp] theorem isN_dic {ks ds} : D.isN (.dic ks ds) = false := rfl
@[simp] theorem isN_obj {c ks ds} : D.isN (.obj c ks ds) = false := rfl
@[simp] theorem atI_0 {α : Type} {a : α} {r : List α} : atI (a :: r) 0 = some a := by simp [atI, ixN]
@[simp] theorem atI_1 {α : Type} {a b : α} {r : List α} : atI (a :: b :: r) 1 = some b := by
  have : (1 : Int) < (r.length : Int) + 1 + 1 := by omega
  simp [atI, ixN, this]
@[simp] theorem atI_2 {α : Type} {a b c : α} {r : List α} : atI (a :: b :: c :: r) 2 = some c := by
  have : (2 : Int) < (r.length : Int) + 1 + 1 + 1 := by omega
  simp [atI, ixN, this]
@[simp] theorem opIx_ti {ds : List D} : opIx (.tup ds) (.int i) S = match atI ds i with | some d => .ok d S | none => .bad := rfl
@[simp] theorem opIx_li {ds : List D} : opIx (.lst ds) (.int i) S = match atI ds i with | some d => .ok d S | none => .bad := rfl
/-- a cell, by a name of its own -/
def cel (S : Store) (l : Nat) : Option Cell := S[l]?
theorem cel_lt {l : Nat} {c : Cell} (h : cel S l = some c) : l < S.length := (List.getElem?_eq_some_iff.mp h).1
@[simp] theorem cel_set_same {l : Nat} {c : Cell} (h : (cel S l).isSome = true) : cel (S.set l c) l = some c := by
  obtain ⟨c0, e⟩ := Option.isSome_iff_exists.mp h
  exact List.getElem?_set_self (cel_lt e)
@[simp] theorem cel_set_ne {l m : Nat} {c : Cell} (h : l ≠ m) : cel (S.set l c) m = cel S m := List.getElem?_set_ne h
@[simp] theorem cel_last {c : Cell} : cel (S ++ [c]) S.length = some c := by simp [cel]
@[simp] theorem opIx_c {l : Nat} : opIx (.loc l) (.int i) S = match cel S l with
  | some (.lst ds) => (match atI ds i with | some d => .ok d S | none => .bad)
  | _ => .bad := by
  simp only [opIx, listD, cel]
  cases S[l]? with
  | none => rfl
  | some c => cases c <;> first | rfl | (rename_i ds; cases atI ds i <;> rfl)
@[simp] theorem bLen_t {ds : List D} : bLen [.tup ds] S = .ok (.int ds.length) S := rfl
@[simp] theorem bLen_l {ds : List D} : bLen [.lst ds] S = .ok (.int ds.length) S := rfl
@[simp] theorem bLen_c {l : Nat} : bLen [.loc l] S = match cel S l with | some (.lst ds) => .ok (.int ds.length) S | _ => .bad := by
  simp only [bLen, seqD, listD, cel]
  cases S[l]? with
  | none => rfl
  | some c => cases c <;> rfl
@[simp] theorem bLen_s {z : Str} : bLen [.str z] S = if sz z.length then .ok (.int z.length) S else .bad := rfl
@[simp] theorem bII_is {g : Int → Int → Int} : bII g [.int i, .int j] S = .ok (.int (g i j)) S := rfl
@[simp] theorem bAbs_is : bAbs [.int i] S = .ok (.int (if i < 0 then -i else i)) S := rfl
@[simp] theorem bInt_i : bInt [.int i] S = .ok (.int i) S := rfl
@[simp] theorem bInt_b {b : Bool} : bInt [.bl b] S = .ok (.int (if b then 1 else 0)) S := rfl
@[simp] theorem bList_l {ds : List D} : bList [.lst ds] S = .ok (.lst ds) S := rfl
@[simp] theorem bList_t {ds : List D} : bList [.tup ds] S = .ok (.lst ds) S := rfl
@[simp] theorem bTuple_l {ds : List D} : bTuple [.lst ds] S = .ok (.tup ds) S := rfl
@[simp] theorem bTuple_t {ds : List D} : bTuple [.tup ds] S = .ok (.tup ds) S := rfl
@[simp] theorem bAll_is {bs : List Bool} : bAll [.lst (bs.map .bl)] S = .ok (.bl (bs.all id)) S := by simp [bAll, listD, blsD_map]
@[simp] theorem bAny_is {bs : List Bool} : bAny [.lst (bs.map .bl)] S = .ok (.bl (bs.any id)) S := by simp [bAny, listD, blsD_map]
@[simp] theorem bSum_is {ns : List Int} : bSum [.lst (ns.map .int)] S = .ok (.int ns.sum) S := by simp [bSum, listD, intsD_map]
@[simp] theorem oNone_is : oNone env S = .ok none S := rfl
@[simp] theorem oSome_is {f : EM} (h : f env S = .ok (.int i) S) : oSome f env S = .ok (some i) S := by unfold oSome; rw [h]
@[simp] theorem eSlice_is {f : EM} {lo hi : OM} : eSlice f lo hi env S = (f env S).bind fun x S => (lo env S).bindE fun l S => (hi env S).bindE fun u S => slD x l u S := rfl
@[simp] theorem slD_l {ds : List D} {a b : Option Int} : slD (.lst ds) a b S = .ok (.lst (cutD ds a b)) S := rfl
@[simp] theorem slD_t {ds : List D} {a b : Option Int} : slD (.tup ds) a b S = .ok (.tup (cutD ds a b)) S := rfl
@[simp] theorem eIsi_is {b : Ty} {f : EM} : eIsi b f env S = (f env S).bind fun d S => match tyOf S d with | some a => .ok (.bl (a.isa b)) S | none => .bad := rfl
@[simp] theorem eIsi2_is {b c : Ty} {f : EM} : eIsi2 b c f env S = (f env S).bind fun d S => match tyOf S d with | some a => .ok (.bl (a.isa b || a.isa c)) S | none => .bad := rfl
@[simp] theorem tyOf_int : tyOf S (.int i) = some .int := rfl
@[simp] theorem tyOf_bl {b : Bool} : tyOf S (.bl b) = some .bool := rfl
@[simp] theorem tyOf_str {z : Str} : tyOf S (.str z) = some .str := rfl
@[simp] theorem tyOf_non : tyOf S .non = some .none := rfl
@[simp] theorem tyOf_tup {ds : List D} : tyOf S (.tup ds) = some .tuple := rfl
@[simp] theorem tyOf_lst {ds : List D} : tyOf S (.lst ds) = some .list := rfl
@[simp] theorem tyOf_dic {ks ds} : tyOf S (.dic ks ds) = some .dict := rfl
@[simp] theorem setD_is {l : Nat} : setD (.loc l) (.int i) d S = match cel S l with | some (.lst ds) => (putIx i ds d).map fun es => S.set l (.lst es) | _ => none := rfl
@[simp] theorem putIx_0 {a : D} {r : List D} : putIx 0 (a :: r) d = some (d :: r) := by simp [putIx, ixN]
@[simp] theorem putIx_1 {a b : D} {r : List D} : putIx 1 (a :: b :: r) d = some (a :: d :: r) := by
  have : (1 : Int) < (r.length : Int) + 1 + 1 := by omega
  simp [putIx, ixN, this]
@[simp] theorem putIx_2 {a b c : D} {r : List D} : putIx 2 (a :: b :: c :: r) d = some (a :: b :: d :: r) := by
  have : (2 : Int) < (r.length : Int) + 1 + 1 + 1 := by omega
  simp [putIx, ixN, this]
@[simp] theorem fnF_is {m : Mode} {n : Nat} {g : SM} {ds : List D} : fnF m n g ds S = match g (startD n ds) S with
  | .nx _ S1 => exitD m S .non S1
  | .rt d S1 => exitD m S d S1
  | .ex x _ S1 => .ex x S1
  | _ => .bad := rfl
@[simp] theorem exitD_keep {S0 : Store} : exitD .keep S0 d S = .ok d S := rfl
/-- plain data: no cell within -/
theorem frz_ints {ρ : Nat → Option D} : ∀ ns : List Int, frzDs ρ (ns.map .int) = some (ns.map .int)
  | [] => rfl
  | n :: ns => by simp [frzDs, frzD, frz_ints ns]
theorem exit_of {S0 : Store} {d' : D} (h : frzD (resD S0.length S 12) d = some d') (h2 : S.take S0.length = S0) : exitD .pure S0 d S = .ok d' S0 := by
  unfold exitD
  simp only [h]
  rw [if_pos (.inl h2), h2]
theorem exit_same {S0 : Store} {d' : D} (h : frzD (resD S0.length S0 12) d = some d') : exitD .pure S0 d S0 = .ok d' S0 := exit_of h (by simp)
@[simp] theorem exit_int {S0 : Store} : exitD .pure S0 (.int i) S0 = .ok (.int i) S0 := exit_same rfl
@[simp] theorem exit_bl {S0 : Store} {b : Bool} : exitD .pure S0 (.bl b) S0 = .ok (.bl b) S0 := exit_same rfl
@[simp] theorem exit_str {S0 : Store} {z : Str} : exitD .pure S0 (.str z) S0 = .ok (.str z) S0 := exit_same rfl
@[simp] theorem exit_non {S0 : Store} : exitD .pure S0 .non S0 = .ok .non S0 := exit_same rfl
@[simp] theorem exit_int2 {S0 : Store} {j : Int} : exitD .pure S0 (.tup [.int i, .int j]) S0 = .ok (.tup [.int i, .int j]) S0 := exit_same rfl
@[simp] theorem startD1 {a : D} {n : Nat} : startD (n + 1) [a] = some a :: List.replicate n none := by simp [startD]
@[simp] theorem startD2 {a b : D} {n : Nat} : startD (n + 2) [a, b] = some a :: some b :: List.replicate n none := by simp [startD]
@[simp] theorem startD3 {a b c : D} {n : Nat} : startD (n + 3) [a, b, c] = some a :: some b :: some c :: List.replicate n none := by simp [startD]
end
end DL
end
section
/-! D-layer, part 7: more of sequences; dicts. -/
namespace L2
open PySem PySem.Spec PyProof.Rows
variable [DL.Nm]
section
variable {X : Cx}
end
end L2
namespace DL
open PySem L2 PySem.Spec PyProof.Rows
variable [DL.Nm]

/-! ### a list's cell changes -/
def w63 (i : Int) : Prop := -(2 ^ 63) ≤ i ∧ i < 2 ^ 63
noncomputable instance {i : Int} : Decidable (w63 i) := Classical.propDecidable _
section
variable {G : Glb} {X : Cx} {W : WX}
theorem IsL.eraseIdx {φ : Fi} {H : Hp} : ∀ {ds : List D} {xs : List V} (n : Nat), IsL G φ H ds xs → IsL G φ H (ds.eraseIdx n) (xs.eraseIdx n)
  | [], xs, n, h => by cases (show xs = [] from h); exact rfl
  | _ :: _, xs, 0, h => by
    obtain ⟨x, r, rfl, p, q⟩ := h
    exact q
  | _ :: _, xs, n + 1, h => by
    obtain ⟨x, r, rfl, p, q⟩ := h
    exact ⟨x, _, rfl, p, IsL.eraseIdx n q⟩
noncomputable def mPopAt (o : D) (ds : List D) (S : Store) : ER := cellL S o fun l xs => match ds with
  | [.int i] => if w63 i then (match seqIndex? i xs.length with
    | some k => (match xs[k]? with
      | some d => .ok d (S.set l (.lst (xs.eraseIdx k)))
      | none => .bad)
    | none => .bad) else .bad
  | _ => .bad
theorem dm_popAt : DMeth G X "list.pop" mPopAt := by
  refine ⟨_, mt_popAt, fun W φ S H σ dx ds x xs Q s ix ids h => ?_⟩
  refine cellL_is s ix h fun l es a ys e1 e2 e3 ha hx q h1 => ?_
  subst e1 e3
  split at h1
  · obtain ⟨y, rfl, k⟩ := IsL.inv1 ids
    cases (show y = _ from k)
    split at h1
    · rename_i hw
      split at h1
      · rename_i j hj
        split at h1
        · rename_i d hd
          obtain ⟨z, hz, iz⟩ := q.get hd
          exact ⟨a, ys, _, j, z, rfl, rfl, hx, hw.1, hw.2, by rw [← q.length]; exact hj, hz, cell_put s ha (q.eraseIdx j) iz h1⟩
        · exact False.elim h1
      · exact False.elim h1
    · exact False.elim h1
  · exact False.elim h1
noncomputable def mInsert (o : D) (ds : List D) (S : Store) : ER := cellL S o fun l xs => match ds with
  | [.int i, d] => if sz (xs.length + 1) ∧ 0 ≤ i ∧ w63 i then .ok .non (S.set l (.lst (xs.take i.toNat ++ [d] ++ xs.drop i.toNat))) else .bad
  | _ => .bad
def mClear (o : D) (ds : List D) (S : Store) : ER := cellL S o fun l xs => match ds with
  | [] => .ok .non (S.set l (.lst []))
  | _ => .bad
/-- xs.index(y): nested data -/
noncomputable def mIndex (o : D) (ds : List D) (S : Store) : ER := match ds with
  | [d] => match o.pyO S, d.pyO S with
    | some (.list ps), some p => if SeqAt.shaped (.list ps) && SeqAt.shaped p then (match ps.findIdx? fun z => PyData.eqv z p with
      | some j => .ok (.int j) S
      | none => .bad) else .bad
    | _, _ => .bad
  | _ => .bad
theorem Dp.isRef {K : PySem.W.Frag} {H : Hp} {v : V} {ps : List PyData} (h : Dp K H v (.list ps)) : ∃ a, v = .ref a := by
  cases h with
  | lst hs ha => exact ⟨_, rfl⟩
theorem dm_index (hK : X.K = G.K) (hu : X.A.units + 65 < cLine) : DMeth G X "list.index" mIndex := by
  refine ⟨_, mt_indexD hu, fun W φ S H σ dx ds x xs Q s ix ids h => ?_⟩
  unfold mIndex at h
  split at h
  · obtain ⟨y, rfl, k⟩ := IsL.inv1 ids
    split at h
    · rename_i ps p e1 e2
      split at h
      · rename_i hs
        simp only [Bool.and_eq_true] at hs
        split at h
        · rename_i j hj
          have d1 := D.pyO_dp s ix e1
          obtain ⟨a, rfl⟩ := Dp.isRef d1
          have ⟨hl, hp, hm⟩ := List.findIdx?_eq_some_iff_getElem.mp hj
          refine ⟨a, y, p, ps, j, ps[j], rfl, rfl, by rw [hK]; exact d1, by rw [hK]; exact D.pyO_dp s k e2, hs.1, hs.2, List.getElem?_eq_getElem hl, hp, fun m z hmj hz => ?_, h.now s rfl⟩
          have hml : m < ps.length := by omega
          rw [List.getElem?_eq_getElem hml] at hz
          cases hz
          have := hm m hmj
          simpa using this
        · exact False.elim h
      · exact False.elim h
    · exact False.elim h
  · exact False.elim h
def mRemove (o : D) (ds : List D) (S : Store) : ER := cellL S o fun l xs => match ds with
  | [.int k] => match intsD xs with
    | some ns => if k ∈ ns then .ok .non (S.set l (.lst ((ns.erase k).map .int))) else .bad
    | none => .bad
  | _ => .bad
/-! ### sorted -/
/-- whole numbers in order -/
def sortI (ns : List Int) : List Int := ns.mergeSort fun a b => decide (a ≤ b)
def bSorted (ds : List D) (S : Store) : ER := match ds with
  | [d] => match (listD S d).bind intsD with
    | some ns => .ok (.lst ((sortI ns).map .int)) S
    | none => .bad
  | _ => .bad
/-! ### list(range(..)) -/
/-- a range by its bounds -/
def DR (G : Glb) (X : Cx) (W : WX) (e : Expr) (f : LM) : Prop :=
  ∃ t, PRg X e t ∧ ∀ σ H env φ S (Q : Int → Int → Hp → Prop), SOk G φ S H → RepE G φ H σ env → PostL G W φ H σ (f env S) (fun vs H' => ∀ i j, vs = [.int i, .int j] → Q i j H') → t σ H Q
noncomputable def rg1 (f : EM) : LM := fun env S => (f env S).bindL fun d S => match d with
  | .int n => if rOk n ∧ sz n.toNat then .ok [.int 0, .int n] S else .bad
  | _ => .bad
noncomputable def rg2D (d d2 : D) (S : Store) : LR := match d, d2 with
  | .int i, .int j => if rOk i ∧ rOk j ∧ sz (j - i).toNat then .ok [.int i, .int j] S else .bad
  | _, _ => .bad
noncomputable def rg2 (f g : EM) : LM := fun env S => (f env S).bindL fun d S => (g env S).bindL fun d2 S => rg2D d d2 S
theorem dr_2 {a b : Expr} {p pos : Pos} {f g : EM} (hg : Gl X "range") (hm : X.mg "range" = none) (ha : DE G X W a f) (hb : DE G X W b g) (na : starEach [a, b] X.env = (false, eval a X.env) :: starEach [b] X.env := by rfl)
    (nb : starEach [b] X.env = (false, eval b X.env) :: starEach [] X.env := by rfl) (hp : (backTo pos (starEach [b] X.env)).any (·.1) = false := by rfl) : DR G X W (.Call (.Name "range" p) [a, b] [] pos) (rg2 f g) := by
  obtain ⟨t, pt, q⟩ := ha
  obtain ⟨t2, pt2, q2⟩ := hb
  refine ⟨_, prg_2 hg hm pt pt2 na nb hp, fun σ H env φ S Q s re h => ?_⟩
  refine q σ H env φ S _ s re (PostE.bindL h fun d S1 φ1 H1 v e1 s1 i1 h1 => ?_)
  refine q2 σ H1 env φ1 S1 _ s1 (re.ext e1) (PostE.bindL h1 fun d2 S2 φ2 H2 v2 e2 s2 i2 h2 => ?_)
  unfold rg2D at h2
  split at h2
  · cases (show v = _ from i1); cases (show v2 = _ from i2)
    split at h2
    · exact ⟨_, _, rfl, rfl, h2.now s2 (show IsL G φ2 H2 _ [.int _, .int _] from ⟨_, _, rfl, rfl, .one rfl⟩) _ _ rfl⟩
    · exact False.elim h2
  · exact False.elim h2
theorem rOk2 {i j : Int} (h1 : rOk i) (h2 : rOk j) (h3 : sz (j - i).toNat) : RgOk i j := ⟨h1.lo, h1.hi, h2.lo, h2.hi, h3⟩
/-- small bounds, for certain -/
def rgOk (f : LM) : Prop := ∀ env S ds S', f env S = .ok ds S' → ∃ i j, ds = [.int i, .int j] ∧ rOk i ∧ rOk j ∧ sz (j - i).toNat
theorem rgOk2 {f g : EM} : rgOk (rg2 f g) := fun env S ds S' h => by
  unfold rg2 at h
  cases hf : f env S with
  | ok d S1 =>
    rw [hf] at h
    have h' : ((g env S1).bindL fun d2 S => rg2D d d2 S) = .ok ds S' := h
    cases hg : g env S1 with
    | ok d2 S2 =>
      rw [hg] at h'
      have h2 : rg2D d d2 S2 = .ok ds S' := h'
      unfold rg2D at h2
      split at h2
      · rename_i i j
        split at h2
        · rename_i hn
          cases h2
          exact ⟨i, j, rfl, hn.1, hn.2.1, hn.2.2⟩
        · cases h2
      · cases h2
    | ex x S2 => rw [hg] at h'; cases h'
    | bad => rw [hg] at h'; cases h'
  | ex x S1 => rw [hf] at h; cases h
  | bad => rw [hf] at h; cases h
theorem isL_rg {φ : Fi} {H : Hp} (a b : Int) : IsL G φ H (rangeD a (b - a).toNat) (rgV a b) := by
  have : rangeD a (b - a).toNat = ((List.range (b - a).toNat).map fun i => a + ((i : Nat) : Int)).map D.int := by unfold rangeD; rw [List.map_map]; rfl
  rw [this]
  have e : rgV a b = ((List.range (b - a).toNat).map fun i => a + ((i : Nat) : Int)).map V.int := by unfold rgV; rw [List.map_map]; rfl
  rw [e]
  exact IsL.of_ints
def eLRg (f : LM) : EM := fun env S => (f env S).bindE fun ds S => match ds with
  | [.int i, .int j] => .ok (.lst (rangeD i (j - i).toNat)) S
  | _ => .bad
def eLRgM (f : LM) : EM := fun env S => (f env S).bindE fun ds S => match ds with
  | [.int i, .int j] => .ok (.loc S.length) (S ++ [.lst (rangeD i (j - i).toNat)])
  | _ => .bad
def eTRg (f : LM) : EM := fun env S => (f env S).bindE fun ds S => match ds with
  | [.int i, .int j] => .ok (.tup (rangeD i (j - i).toNat)) S
  | _ => .bad
theorem PostL.rg {φ : Fi} {H : Hp} {σ : L2.St} {f : LM} {env : EnvD} {S : Store} (ok : rgOk f) {g : List D → Store → ER} {Q : VK} {Q' : List V → Hp → Prop} (h : PostE G W φ H σ ((f env S).bindE g) Q)
    (k : ∀ i j S1 φ1 H1, Ext φ H φ1 H1 → SOk G φ1 S1 H1 → RgOk i j → PostE G W φ1 H1 σ (g [.int i, .int j] S1) Q → Q' [.int i, .int j] H1) : PostL G W φ H σ (f env S) Q' := by
  cases hf : f env S with
  | ok ds S1 =>
    rw [hf] at h
    obtain ⟨i, j, rfl, h1, h2, h3⟩ := ok _ _ _ _ hf
    intro φ1 H1 vs e s il
    obtain ⟨x, y, rfl, k1, k2⟩ := IsL.inv2 il
    cases (show x = _ from k1); cases (show y = _ from k2)
    exact k i j S1 φ1 H1 e s (rOk2 h1 h2 h3) (PostE.ext e h)
  | ex x S1 => rw [hf] at h; exact h
  | bad => rw [hf] at h; exact h
theorem de_listRg {e : Expr} {p pos : Pos} {f : LM} (hc : X.calm = true) (hg : Gl X "list") (hm : X.mg "list" = none) (ok : rgOk f) (he : DR G X W e f) (na : starEach [e] X.env = (false, eval e X.env) :: starEach [] X.env := by rfl) : DE G X W (.Call (.Name "list" p) [e] [] pos) (eLRg f) := by
  obtain ⟨t, pt, q⟩ := he
  refine ⟨_, pe_listRg hc hg hm pt na, fun σ H env φ S Q s re h => q σ H env φ S _ s re (PostL.rg ok h fun i j S1 φ1 H1 e1 s1 hr h1 i' j' e => ?_)⟩
  cases e
  exact ⟨hr, fun l hl => lst_new s1 (isL_rg i j) h1 hl⟩
/-! ### bits, xs * n -/
def opAnd (x y : D) (S : Store) : ER := opI (fun i j => .ok (.int (Builtin.bitAnd i j)) S) x y
def opOr (x y : D) (S : Store) : ER := opI (fun i j => .ok (.int (Builtin.bitOr i j)) S) x y
def opXor (x y : D) (S : Store) : ER := opI (fun i j => .ok (.int (Builtin.bitXor i j)) S) x y
def opShr (x y : D) (S : Store) : ER := opI (fun i j => if 0 ≤ j then .ok (.int (i / 2 ^ j.toNat)) S else .bad) x y
noncomputable def opShl (x y : D) (S : Store) : ER := opI (fun i j => if powOk i j then .ok (.int (i * 2 ^ j.toNat)) S else .bad) x y
/-- xs * n (a cell's list), tuple * n -/
noncomputable def opMulX (x y : D) (S : Store) : ER := match x, y with
  | .loc l, .int k => match S[l]? with
    | some (.lst ds) => if w63 k ∧ sz (ds.length * k.toNat) then .ok (.lst (List.replicate k.toNat ds).flatten) S else .bad
    | _ => .bad
  | x, y => opMul x y S
theorem IsL.rep {φ : Fi} {H : Hp} {ds : List D} {xs : List V} (q : IsL G φ H ds xs) : ∀ n, IsL G φ H (List.replicate n ds).flatten (List.replicate n xs).flatten
  | 0 => rfl
  | n + 1 => by
    rw [List.replicate_succ, List.replicate_succ, List.flatten_cons, List.flatten_cons]
    exact q.append (IsL.rep q n)
theorem do_mulX : DOp G X (binaryOp .Mult) opMulX := by
  obtain ⟨r, hr, q⟩ := do_mul (G := G) (X := X)
  refine ⟨_, op_rep.or hr, fun W φ S H σ dx dy x y Q s ix iy h => ?_⟩
  unfold opMulX at h
  split at h
  · rename_i l k
    obtain ⟨a, ha, rfl⟩ := ix
    cases (show y = _ from iy)
    split at h
    · rename_i ds hc
      obtain ⟨xs, hx, il⟩ := s.at_ hc ha
      split at h
      · rename_i hz
        exact .inl ⟨a, k, xs, rfl, rfl, hx, hz.1.1, hz.1.2, by rw [← il.length]; exact sizeLine_is hz.2, fun p hp => lst_new s (il.rep k.toNat) h hp⟩
      · exact bad_no h
    · exact bad_no h
  · exact .inr (q W φ S H σ dx dy x y Q s ix iy h)
/-! ### dicts as data -/
def keyD : D → Option Key
  | .int i => some (.inl i)
  | .str x => some (.inr x)
  | _ => none
def dKey : Key → D
  | .inl i => .int i
  | .inr x => .str x
def dicD (S : Store) : D → Option (List (Key × D))
  | .dic ks ds => some (ks.zip ds)
  | .loc l => match S[l]? with
    | some (.dic kvs) => some kvs
    | _ => none
  | _ => none
theorem keyD_is {φ : Fi} {H : Hp} {d : D} {v : V} {k : Key} (i : Is G φ H d v) (e : keyD d = some k) : v = kV k := by
  cases d with
  | int n => cases e; exact i
  | str x => cases e; exact i
  | _ => cases e
theorem is_dKey {φ : Fi} {H : Hp} (k : Key) : Is G φ H (dKey k) (kV k) := by cases k <;> rfl
/-- keys alike, values as data say -/
def KvIs (G : Glb) (φ : Fi) (H : Hp) (kds : List (Key × D)) (kvs : List (Key × V)) : Prop := kvs.map (·.1) = kds.map (·.1) ∧ IsL G φ H (kds.map (·.2)) (kvs.map (·.2))
theorem zip_fst {α β : Type} : ∀ {ks : List α} {ds : List β}, ks.length = ds.length → (ks.zip ds).map (·.1) = ks
  | [], _, _ => by simp
  | _ :: _, [], h => by simp at h
  | k :: ks, d :: ds, h => by simp [zip_fst (ks := ks) (ds := ds) (by simpa using h)]
theorem zip_snd {α β : Type} : ∀ {ks : List α} {ds : List β}, ks.length = ds.length → (ks.zip ds).map (·.2) = ds
  | [], [], _ => by simp
  | [], _ :: _, h => by simp at h
  | _ :: _, [], h => by simp at h
  | k :: ks, d :: ds, h => by simp [zip_snd (ks := ks) (ds := ds) (by simpa using h)]
theorem dicD_is {φ : Fi} {S : Store} {H : Hp} {d : D} {v : V} {kds : List (Key × D)} (s : SOk G φ S H) (i : Is G φ H d v) (e : dicD S d = some kds) : ∃ a kvs, v = .ref a ∧ Rd H a (.dK kvs) ∧ KvIs G φ H kds kvs := by
  cases d with
  | dic ks ds =>
    cases e
    obtain ⟨a, kvs, rfl, ⟨_, r⟩, z, q⟩ := i
    have hl : ks.length = ds.length := by rw [q.length, ← z]; simp
    exact ⟨a, kvs, rfl, r, by rw [zip_fst hl]; exact z, by rw [zip_snd hl]; exact q⟩
  | loc l =>
    obtain ⟨a, ha, rfl⟩ := i
    simp only [dicD] at e
    split at e
    · rename_i kvs hc
      cases e
      obtain ⟨ws, hw, z, q⟩ := s.at_ hc ha
      exact ⟨a, ws, rfl, .inl hw, z, q⟩
    · cases e
  | _ => cases e
/-- the value of a key -/
def valD (kds : List (Key × D)) (k : Key) : Option D := (kds.find? fun kv => decide (kv.1 = k)).map (·.2)
theorem val_is {φ : Fi} {H : Hp} : ∀ {kds : List (Key × D)} {kvs : List (Key × V)} (k : Key), KvIs G φ H kds kvs → (∀ d, valD kds k = some d → ∃ v, valV kvs k = some v ∧ Is G φ H d v) ∧ (valD kds k = none → valV kvs k = none)
  | [], kvs, k, h => by
    have : kvs = [] := by simpa using h.1
    subst this
    exact ⟨fun d e => (nomatch e), fun _ => rfl⟩
  | (k0, d0) :: kds, kvs, k, h => by
    obtain ⟨h1, h2⟩ := h
    cases kvs with
    | nil => simp at h1
    | cons p r =>
      obtain ⟨kp, vp⟩ := p
      simp only [List.map_cons, List.cons.injEq] at h1
      obtain ⟨e1, e2⟩ := h1
      subst e1
      obtain ⟨x, xs, e3, i1, i2⟩ := h2
      simp only [List.map_cons, List.cons.injEq] at e3
      obtain ⟨rfl, rfl⟩ := e3
      have ih := val_is k (show KvIs G φ H kds r from ⟨e2, i2⟩)
      by_cases hk : kp = k
      · subst hk
        refine ⟨fun d e => ⟨vp, valV_pos rfl, ?_⟩, fun e => ?_⟩
        · simp [valD] at e; subst e; exact i1
        · simp [valD] at e
      · have ed : valD ((kp, d0) :: kds) k = valD kds k := by simp [valD, hk]
        rw [ed, valV_neg (p := (kp, vp)) hk]
        exact ih
def flatD : D → Bool
  | .non => true
  | .bl _ => true
  | .int _ => true
  | .str _ => true
  | _ => false
def eqF : D → D → Bool
  | .non, .non => true
  | .bl a, .bl b => a == b
  | .bl a, .int b => (if a then 1 else 0) == b
  | .int a, .bl b => a == (if b then 1 else 0)
  | .int a, .int b => a == b
  | .str a, .str b => a == b
  | _, _ => false
/-- x in y: a sign in a text, a flat item in a list or tuple, an item in a list, a key in a dict -/
def opInB (neg : Bool) (x y : D) (S : Store) : ER := match y with
  | .str z => match x with
    | .str w => match w.cps.toList with
      | [c] => .ok (.bl (if neg then !decide (c ∈ z.cps.toList) else decide (c ∈ z.cps.toList))) S
      | _ => .bad
    | _ => .bad
  | y => match dicD S y with
    | some kds => match keyD x with
      | some k => .ok (.bl (if neg then !(valD kds k).isSome else (valD kds k).isSome)) S
      | none => .bad
    | none => match seqD S y with
      | some ds => if flatD x && ds.all flatD then .ok (.bl (if neg then !(ds.any fun y => eqF y x) else ds.any fun y => eqF y x)) S
        else match x.pyO S, y.pyO S with
          | some p, some (.list ps) => if SeqAt.shaped p && SeqAt.shaped (.list ps) then .ok (.bl (if neg then !(ps.any fun z => PyData.eqv z p) else ps.any fun z => PyData.eqv z p)) S else .bad
          | some p, some (.tuple ps) => if SeqAt.shaped p && SeqAt.shaped (.tuple ps) then .ok (.bl (if neg then !(ps.any fun z => PyData.eqv z p) else ps.any fun z => PyData.eqv z p)) S else .bad
          | _, _ => .bad
      | none => .bad
def opIn := opInB false
def opNotIn := opInB true
end
end DL
end
section
/-! sets of keys: how many unlike items a list or tuple has -/
namespace DL
open PySem L2 PySem.Spec PyProof.Rows
variable [DL.Nm]
open Classical in
/-- how many unlike ones -/
noncomputable def dcntR : List Key → Nat
  | [] => 0
  | k :: r => if k ∈ r then dcntR r else dcntR r + 1
noncomputable def dcnt (ks : List Key) : Nat := dcntR ks.reverse
open Classical in
/-- is it among them -/
noncomputable def memK (ks : List Key) (k : Key) : Bool := decide (k ∈ ks)
theorem memK_iff {ks : List Key} {k : Key} : memK ks k = true ↔ k ∈ ks := by unfold memK; simp
theorem dcnt_snoc (l : List Key) (k : Key) : dcnt (l ++ [k]) = if memK l k = true then dcnt l else dcnt l + 1 := by
  unfold dcnt
  rw [List.reverse_append]
  show dcntR (k :: l.reverse) = _
  rw [dcntR]
  by_cases h : k ∈ l
  · rw [if_pos (by simpa using h), if_pos (memK_iff.mpr h)]
  · rw [if_neg (by simpa using h), if_neg (fun z => h (memK_iff.mp z))]
theorem dcntR_le : ∀ (l : List Key), dcntR l ≤ l.length
  | [] => Nat.le_refl _
  | k :: r => by
    have := dcntR_le r
    unfold dcntR
    simp only [List.length_cons]
    split <;> omega
theorem dcnt_le (l : List Key) : dcnt l ≤ l.length := by have := dcntR_le l.reverse; simpa [dcnt] using this
theorem dcntR_eq : ∀ (l : List Key), dcntR l = l.length ↔ l.Nodup
  | [] => by simp [dcntR]
  | k :: r => by
    have h1 := dcntR_le r
    have ih := dcntR_eq r
    unfold dcntR
    rw [List.nodup_cons]
    simp only [List.length_cons]
    split
    · rename_i h
      exact ⟨fun e => by omega, fun e => absurd h e.1⟩
    · rename_i h
      exact ⟨fun e => ⟨h, ih.mp (by omega)⟩, fun e => by rw [ih.mpr e.2]⟩
theorem dcnt_eq (l : List Key) : dcnt l = l.length ↔ l.Nodup := by
  have := dcntR_eq l.reverse
  rw [List.length_reverse, (List.reverse_perm l).nodup_iff] at this
  exact this
theorem memK_nil (k : Key) : memK [] k = false := by
  cases h : memK [] k with
  | false => rfl
  | true => have := memK_iff.mp h; simp at this
theorem SetOf_re {P : Program} {w : World} {h : Heap} {a : Addr} {S S' : Key → Bool} {n n' : Nat} (R : h.SetOf (mixKind P w) a S n) (e : ∀ k, S k = S' k) (e2 : n = n') : h.SetOf (mixKind P w) a S' n' := by
  have : S = S' := funext e
  rw [← this, ← e2]; exact R
/-- each item a key -/
def KeysAre (P : Program) (w : World) (us : List Value) (ks : List Key) : Prop := us.length = ks.length ∧ ∀ (i : Nat) (u : Value), us[i]? = some u → ∃ k, ks[i]? = some k ∧ (mixKind P w).is k u = true ∧ u.scannable = true
section
variable {prog : Program} {w : World} {A : Around} {R : Result → Shared → Prop} {I : Addr} {fp wr : List Addr} {G : Array GenState → Array GenState → Prop} {n : Nat} {P : Nat → Value → Prop} {St : Nat → Shared → Prop}
theorem set_turns (W : WalksS prog w A.in1 I fp wr G n P St) (S : Addr) (off : S ∉ fp) (ks : List Key) (hk : ks.length = n) (small : n + 1 < scanBound)
    (each : ∀ i v, P i v → ∃ k, ks[i]? = some k ∧ (mixKind prog w).is k v = true ∧ v.scannable = true) :
    ∀ (m i : Nat) (s : Shared), n - i = m → i ≤ n → St i s → s.heap.SetOf (mixKind prog w) S (memK (ks.take i)) (dcnt (ks.take i)) →
      (∀ s', Moved (S :: wr) G s s' → s'.heap.SetOf (mixKind prog w) S (memK ks) (dcnt ks) → R (.ok (.ret .none)) s') →
      codeAny (model prog w) A (.builtin "set.update.loop" ⟨[.ref S, .ref I], []⟩) R s := by
  have away : S ∉ wr := fun z => off (W.sub _ z)
  have more : ∀ b ∈ wr, b ∈ S :: wr := fun b z => List.mem_cons_of_mem _ z
  intro m
  induction m with
  | zero =>
    intro i s hm hi hst hS fin
    obtain rfl : i = n := by omega
    refine codeAny_builtin PyProof.Rows.F.entry_set_update_loop ?_
    rw [Around.under_plainId PyProof.Rows.F.plain_set_update_loop _]
    show wpAny _ A.in1 (pyNext (.ref I) >>= _) _ _ s
    refine wpAny_bind (W.done s _ _ hst fun s' mv => ?_)
    show wpAny _ A.in1 (ret Value.none) _ _ s'
    refine wpAny_pure (fin s' (mv.mono more) ?_)
    obtain ⟨o, es, ep, t, ho, r⟩ := hS
    have R0 : s'.heap.SetOf (mixKind prog w) S (memK (ks.take i)) (dcnt (ks.take i)) := ⟨o, es, ep, t, mv.heap S _ away ho, r⟩
    rwa [List.take_of_length_le (by omega)] at R0
  | succ m ih =>
    intro i s hm hi hst hS fin
    have lt : i < n := by omega
    refine codeAny_builtin PyProof.Rows.F.entry_set_update_loop ?_
    rw [Around.under_plainId PyProof.Rows.F.plain_set_update_loop _]
    show wpAny _ A.in1 (pyNext (.ref I) >>= _) _ _ s
    refine wpAny_bind (W.item i s _ _ lt hst fun v s' hP hst' mv => ?_)
    obtain ⟨k, e1, e2, e3⟩ := each i v hP
    have hS' : s'.heap.SetOf (mixKind prog w) S (memK (ks.take i)) (dcnt (ks.take i)) := by
      obtain ⟨o, es, ep, t, ho, r⟩ := hS
      exact ⟨o, es, ep, t, mv.heap S _ away ho, r⟩
    show wpAny _ A.in1 (holding [v] (setAdd S v) >>= _) _ _ s'
    refine wpAny_bind (wpAny_holding ?_)
    unfold setAdd
    refine wpAny_holding ?_
    refine wpAny_bind ((mixKind prog w).pyHash (k := k) e2 ?_)
    have room : dcnt (ks.take i) + 1 < scanBound := by
      have h1 := dcnt_le (ks.take i)
      rw [List.length_take] at h1
      omega
    refine wpAny_setAddHashed_of (knd := mixKind prog w) (s := { s' with toks := s'.toks + 1 }) e2 e3 hS' room fun h' sb new => ?_
    have tk : ks.take (i + 1) = ks.take i ++ [k] := by rw [List.take_add_one, e1]; rfl
    have next : h'.SetOf (mixKind prog w) S (memK (ks.take (i + 1))) (dcnt (ks.take (i + 1))) := by
      refine SetOf_re new (fun j => ?_) ?_
      · rw [tk, Bool.eq_iff_iff, memK_iff]; simp [memK_iff]
      · rw [tk, dcnt_snoc]
    refine wpAny_pure ⟨plainId_quiet PyProof.Rows.F.plain_set_update_loop _, ih (i + 1) _ (by omega) lt (W.frame _ s' _ _ hst' (Nat.le_succ _) fun b hb o e => ?_) next fun s2 mv2 last => ?_⟩
    · rw [sb.2 b (fun z : b = S => off (by rw [← z]; exact hb))]; exact e
    · refine fin s2 (Moved.trans W.gtrans ((mv.mono more).then_heap (Nat.le_succ _) fun b o hb e => ?_) mv2) last
      rw [sb.2 b (fun z : b = S => hb (by rw [z]; exact List.mem_cons_self))]; exact e
end
section
variable {prog : Program} {w : World} {A : Around} {E : Value → Shared → Prop} {s : Shared}
/-- the new, empty set -/
abbrev set0 (led : Bool) : Obj := { cls := .type "set", dict := none, data := .set #[] 0 (.fresh 0 0 led) }
/-- what the set's start leaves -/
def SetMade (prog : Program) (w : World) (s : Shared) (ks : List Key) (h' : Heap) : Prop := h'.SetOf (mixKind prog w) s.heap.objs.size (memK ks) (dcnt ks) ∧ ∀ b o, b < s.heap.objs.size → s.heap.get? b = some o → h'.get? b = some o
theorem set_of_list {l : Addr} {xs : Array Value} {ks : List Key} {Q : Value → Shared → Prop} (free : A.handled = none) (hl : s.heap.IsList l xs) (each : KeysAre prog w xs.toList ks) (small : ks.length + 1 < scanBound)
    (fin : ∀ (h' : Heap) (tk : Nat), SetMade prog w s ks h' → Q (.ref s.heap.objs.size) { s with heap := h', toks := tk }) : wpAny (model prog w) A (call (.type "set") [.ref l]) Q E s := by
  obtain ⟨cl, more, order⟩ := PySem.F.called_set.mro
  have z1 := PySem.F.called_set.made
  have z2 := PySem.F.called_set.sub
  have z3 := PySem.F.called_set.notType
  have z4 := PySem.F.called_set.canCreate
  have z5 := PySem.F.typeCall_set_1 (.ref l)
  refine wpAny_call (codeAny_of_tree ?_)
  show wpAny _ _ (callAny (.type "set") _) _ _ _
  refine wpAny_pure ⟨Code.quiet_builtin _ (by decide +kernel), codeAny_builtin PySem.F.entry_type_call ?_⟩
  rw [Around.under_plain (weight_type_call_type "set" [.ref l] []) rfl]
  repeat (any_goals (first | assumption | wp_step))
  refine codeAny_mono (code_set_new_1 (.ref l) (E := E) (Q₁ := fun a s1 => ∃ led : Bool, a = .ref s.heap.objs.size ∧ s1 = { s with heap := s.heap.push (set0 led) }) fun led => ⟨led, rfl, rfl⟩) fun r s1 hr => ?_
  cases r with
  | error e => exact hr
  | ok fl =>
    cases fl with
    | ret a =>
      obtain ⟨led, rfl, rfl⟩ := hr
      have at0 : (s.heap.push (set0 led)).get? s.heap.objs.size = some (set0 led) := Heap.get?_push_size _ rfl
      have ty0 : Shared.TypeIs { s with heap := s.heap.push (set0 led) } (.ref s.heap.objs.size) "set" := ⟨_, at0, rfl⟩
      have z6 := PySem.F.called_set.init.lookup
      have z7 := PySem.F.called_set.init.bind (.ref s.heap.objs.size)
      repeat (any_goals (first | assumption | wp_step))
      refine codeAny_mono (codeAny_call_builtin (R := wants (fun r s2 => r = .none ∧ ∃ h' tk, s2 = { s with heap := h', toks := tk } ∧ SetMade prog w s ks h') E) PySem.F.called_set.init.plain PySem.F.entry_set_init (check_set_init_1 ty0 ?_)) fun r2 s2 hr2 => ?_
      · obtain ⟨⟨k1, k2, k3, k4⟩, hol, k5, nl, k6⟩ := hl
        simp only at k5 k6
        subst k5; subst k6
        have at1 : (s.heap.push (set0 led)).get? l = some { cls := .type "list", dict := k2, data := .seq xs nl, slots := k4 } := Heap.get?_push_of_some _ hol
        have z8 := PySem.F.sub_list_set
        have z9 := PySem.F.sub_list_frozenset
        have z10 : (Value.type "list" == Value.type "dict") = false := by decide
        have is1 : (s.heap.push (set0 led)).IsList l xs := ⟨_, at1, rfl, nl, rfl⟩
        unfold Builtin.«set.__init__» noKeywords Builtin.Frozenset.updateFrom
        generalize hPI : pyIter = PI
        wp_walk
        subst hPI
        refine wpAny_pyIter_list is1 ?_
        refine wpAny_bind (wpAny_runValue ?_)
        have under : l < s.heap.objs.size := Heap.lt_size hol
        have free3 : A.in1.in1.in1.handled = none := by simp [free]
        have apart : l ≠ (s.heap.push (set0 led)).objs.size := by rw [Heap.size_push]; exact Nat.ne_of_lt (Nat.lt_succ_of_lt under)
        have off : s.heap.objs.size ∉ [(s.heap.push (set0 led)).objs.size, l] := by
          rw [Heap.size_push]
          simp only [List.mem_cons, List.mem_singleton, List.not_mem_nil, or_false, not_or]
          exact ⟨Nat.ne_of_lt (Nat.lt_succ_self _), Nat.ne_of_gt under⟩
        have len : ks.length = xs.size := by rw [← each.1, Array.length_toList]
        refine set_turns ((Walks.list free3 _ l apart xs).toS) s.heap.objs.size off ks len (by rw [← len]; exact small)
          (fun i v hv => each.2 i v (by rw [Array.getElem?_toList]; exact hv)) (xs.size - 0) 0 _ (by omega) (Nat.zero_le _) ⟨⟨_, Heap.get?_push_size _ rfl, rfl, rfl⟩, (is1.push _)⟩ ?begin ?last
        case begin =>
          have at2 : ((s.heap.push (set0 led)).push { cls := .type "list_iterator", data := .fields #[.ref l, .int 0 0] }).get? s.heap.objs.size = some (set0 led) := Heap.get?_push_of_some _ at0
          have empty : ((s.heap.push (set0 led)).push { cls := .type "list_iterator", data := .fields #[.ref l, .int 0 0] }).SetOf (mixKind prog w) s.heap.objs.size (fun _ => false) 0 :=
            ⟨_, #[], 0, _, at2, ⟨rfl, rfl, rfl⟩, rfl, (fun e z => by simp at z), (fun k => by simp), (by decide), rfl, rfl⟩
          exact SetOf_re empty (fun k => (memK_nil k).symm) rfl
        case last =>
          intro s2 mv made
          obtain ⟨h2, g2, d2, tk2, os2⟩ := s2
          have e1 : g2 = s.gens := mv.gens
          have e2 : d2 = s.drawn := mv.drawn
          have e3 : os2 = s.os := mv.os
          subst e1; subst e2; subst e3
          show wpAny _ _ _ _ _ _
          refine wpAny_pure ?_
          show wpAny _ _ (ret Value.none) _ _ _
          refine wpAny_pure ⟨rfl, h2, tk2, rfl, made, fun b o hb e => ?_⟩
          refine mv.heap b o ?_ (Heap.get?_push_of_some _ (Heap.get?_push_of_some _ e))
          rw [Heap.size_push]
          simp only [List.mem_cons, List.mem_singleton, List.not_mem_nil, or_false, not_or]
          exact ⟨Nat.ne_of_lt hb, Nat.ne_of_lt (Nat.lt_succ_of_lt hb)⟩
      · cases r2 with
        | error e => exact hr2
        | ok fl2 =>
          cases fl2 with
          | ret r =>
            obtain ⟨rfl, h', tk, rfl, made⟩ := hr2
            repeat (any_goals (first | assumption | wp_step))
            exact fin _ _ made
          | _ => exact hr2.elim
    | _ => exact hr.elim
theorem set_of_tuple {l : Addr} {xs : Array Value} {ks : List Key} {Q : Value → Shared → Prop} (free : A.handled = none) (hl : s.heap.IsTuple l xs) (each : KeysAre prog w xs.toList ks) (small : ks.length + 1 < scanBound)
    (fin : ∀ (h' : Heap) (tk : Nat), SetMade prog w s ks h' → Q (.ref s.heap.objs.size) { s with heap := h', toks := tk }) : wpAny (model prog w) A (call (.type "set") [.ref l]) Q E s := by
  obtain ⟨cl, more, order⟩ := PySem.F.called_set.mro
  have z1 := PySem.F.called_set.made
  have z2 := PySem.F.called_set.sub
  have z3 := PySem.F.called_set.notType
  have z4 := PySem.F.called_set.canCreate
  have z5 := PySem.F.typeCall_set_1 (.ref l)
  refine wpAny_call (codeAny_of_tree ?_)
  show wpAny _ _ (callAny (.type "set") _) _ _ _
  refine wpAny_pure ⟨Code.quiet_builtin _ (by decide +kernel), codeAny_builtin PySem.F.entry_type_call ?_⟩
  rw [Around.under_plain (weight_type_call_type "set" [.ref l] []) rfl]
  repeat (any_goals (first | assumption | wp_step))
  refine codeAny_mono (code_set_new_1 (.ref l) (E := E) (Q₁ := fun a s1 => ∃ led : Bool, a = .ref s.heap.objs.size ∧ s1 = { s with heap := s.heap.push (set0 led) }) fun led => ⟨led, rfl, rfl⟩) fun r s1 hr => ?_
  cases r with
  | error e => exact hr
  | ok fl =>
    cases fl with
    | ret a =>
      obtain ⟨led, rfl, rfl⟩ := hr
      have at0 : (s.heap.push (set0 led)).get? s.heap.objs.size = some (set0 led) := Heap.get?_push_size _ rfl
      have ty0 : Shared.TypeIs { s with heap := s.heap.push (set0 led) } (.ref s.heap.objs.size) "set" := ⟨_, at0, rfl⟩
      have z6 := PySem.F.called_set.init.lookup
      have z7 := PySem.F.called_set.init.bind (.ref s.heap.objs.size)
      repeat (any_goals (first | assumption | wp_step))
      refine codeAny_mono (codeAny_call_builtin (R := wants (fun r s2 => r = .none ∧ ∃ h' tk, s2 = { s with heap := h', toks := tk } ∧ SetMade prog w s ks h') E) PySem.F.called_set.init.plain PySem.F.entry_set_init (check_set_init_1 ty0 ?_)) fun r2 s2 hr2 => ?_
      · obtain ⟨⟨k1, k2, k3, k4⟩, hol, k5, nl, k6⟩ := hl
        simp only at k5 k6
        subst k5; subst k6
        have at1 : (s.heap.push (set0 led)).get? l = some { cls := .type "tuple", dict := k2, data := .seq xs nl, slots := k4 } := Heap.get?_push_of_some _ hol
        have z8 := PySem.F.sub_tuple_set
        have z9 := PySem.F.sub_tuple_frozenset
        have z10 : (Value.type "tuple" == Value.type "dict") = false := by decide
        have is1 : (s.heap.push (set0 led)).IsTuple l xs := ⟨_, at1, rfl, nl, rfl⟩
        unfold Builtin.«set.__init__» noKeywords Builtin.Frozenset.updateFrom
        generalize hPI : pyIter = PI
        wp_walk
        subst hPI
        refine wpAny_pyIter_tuple is1 ?_
        refine wpAny_bind (wpAny_runValue ?_)
        have under : l < s.heap.objs.size := Heap.lt_size hol
        have free3 : A.in1.in1.in1.handled = none := by simp [free]
        have apart : l ≠ (s.heap.push (set0 led)).objs.size := by rw [Heap.size_push]; exact Nat.ne_of_lt (Nat.lt_succ_of_lt under)
        have off : s.heap.objs.size ∉ [(s.heap.push (set0 led)).objs.size, l] := by
          rw [Heap.size_push]
          simp only [List.mem_cons, List.mem_singleton, List.not_mem_nil, or_false, not_or]
          exact ⟨Nat.ne_of_lt (Nat.lt_succ_self _), Nat.ne_of_gt under⟩
        have len : ks.length = xs.size := by rw [← each.1, Array.length_toList]
        refine set_turns ((Walks.tuple free3 _ l apart xs).toS) s.heap.objs.size off ks len (by rw [← len]; exact small)
          (fun i v hv => each.2 i v (by rw [Array.getElem?_toList]; exact hv)) (xs.size - 0) 0 _ (by omega) (Nat.zero_le _) ⟨⟨_, Heap.get?_push_size _ rfl, rfl, rfl⟩, (is1.push _)⟩ ?begin ?last
        case begin =>
          have at2 : ((s.heap.push (set0 led)).push { cls := .type "tuple_iterator", data := .fields #[.ref l, .int 0 0] }).get? s.heap.objs.size = some (set0 led) := Heap.get?_push_of_some _ at0
          have empty : ((s.heap.push (set0 led)).push { cls := .type "tuple_iterator", data := .fields #[.ref l, .int 0 0] }).SetOf (mixKind prog w) s.heap.objs.size (fun _ => false) 0 :=
            ⟨_, #[], 0, _, at2, ⟨rfl, rfl, rfl⟩, rfl, (fun e z => by simp at z), (fun k => by simp), (by decide), rfl, rfl⟩
          exact SetOf_re empty (fun k => (memK_nil k).symm) rfl
        case last =>
          intro s2 mv made
          obtain ⟨h2, g2, d2, tk2, os2⟩ := s2
          have e1 : g2 = s.gens := mv.gens
          have e2 : d2 = s.drawn := mv.drawn
          have e3 : os2 = s.os := mv.os
          subst e1; subst e2; subst e3
          show wpAny _ _ _ _ _ _
          refine wpAny_pure ?_
          show wpAny _ _ (ret Value.none) _ _ _
          refine wpAny_pure ⟨rfl, h2, tk2, rfl, made, fun b o hb e => ?_⟩
          refine mv.heap b o ?_ (Heap.get?_push_of_some _ (Heap.get?_push_of_some _ e))
          rw [Heap.size_push]
          simp only [List.mem_cons, List.mem_singleton, List.not_mem_nil, or_false, not_or]
          exact ⟨Nat.ne_of_lt hb, Nat.ne_of_lt (Nat.lt_succ_of_lt hb)⟩
      · cases r2 with
        | error e => exact hr2
        | ok fl2 =>
          cases fl2 with
          | ret r =>
            obtain ⟨rfl, h', tk, rfl, made⟩ := hr2
            repeat (any_goals (first | assumption | wp_step))
            exact fin _ _ made
          | _ => exact hr2.elim
    | _ => exact hr.elim
end
end DL
end
section
/-! set comprehensions of keys -/
namespace DL
open PySem L2 PySem.Spec PyProof.Rows PpSet
variable [DL.Nm]
section
variable {X : Cx}
theorem set_key {pins : List (Addr × Obj)} {σ : L2.St} {H : Hp} {s : Shared} {E : Value → Shared → Prop} {D : Addr} {S : Key → Bool} {n : Nat} {k : Key} {u : Value} {Q : Value → Shared → Prop} (I : Inv X pins σ H s) (hD : H D = some (SetK X.prog X.w D S n)) (r : RelV (kV k) u) (room : n + 1 < scanBound)
    (fin : ∀ s', Inv X pins σ (upd H D (SetK X.prog X.w D (fun j => S j || decide (j = k)) (if S k = true then n else n + 1))) s' → Q .none s') : wpAny (model X.prog X.w) X.A (call (.builtin "set.add") [.ref D, u]) Q E s := by
  refine call_set_add (kV_is r) (key_scan r) (setK_get I hD) room fun h' sb new => ?_
  obtain ⟨o, es, ep, t, ho, rest⟩ := id new
  exact fin _ (I.write (e := D) (t' := s.toks + 1) (by rw [hD]; trivial) (.inl rfl) (fun b u hb hu => (sb.2 b hb).trans hu) ⟨o, ho⟩ (setK_new new))
/-- {elt for target in iter if ..}: keys; D the new set -/
def tScK (P : Program) (w : World) (wi : TI) (g : TG) (tt : TT) (te : TE) (vs : List Nat) : TE := fun σ H Q => wi σ H fun J H1 => ∀ D, H1 D = none → ∃ Wt : Nat → Nat → Hp → Prop, (∃ m, Wt 0 m (upd H1 D (SetK P w D (fun _ => false) 0))) ∧ ∀ i m H, Wt i m H →
  (J.stop i H ∧ Q (.ref D) H) ∨ (J.go i H ∧ ∃ Nx : Hp → Prop, (∀ H', Nx H' → ∃ m', m' < m ∧ Wt (i + 1) m' H') ∧ ∀ x H', J.yld i H x H' → g x (wipe σ vs) H' fun σ2 H2 => wipe σ2 vs = wipe σ vs ∧ tt σ2 H2 fun b H3 =>
    if b = true then te σ2 H3 fun y H4 => ∃ (k : Key) (S : Key → Bool) (n : Nat), y = kV k ∧ H4 D = some (SetK P w D S n) ∧ n + 1 < scanBound ∧ Nx (upd H4 D (SetK P w D (fun j => S j || decide (j = k)) (if S k = true then n else n + 1))) else Nx H3)
theorem pe_scK {elt tg iter : Expr} {ifs : List Expr} {scope : Scope} {own : List (PySem.Str × Nat)} {pos : Pos} {wi : TI} {g : TG} {tt : TT} {te : TE} (hc : X.calm = true) (hN : X.N.Nodup) (hi : PI X tg iter wi) (ok : BlkOk X.N X.env.scope scope own)
    (hg : ∀ (s : Shared) (H : Hp) (C : Addr) (cl : List (PySem.Str × Addr)) (fp : List Addr), PG (X.blk s H scope (compEnvC scope cl C X.env) fp) tg g)
    (ht : ∀ (s : Shared) (H : Hp) (C : Addr) (cl : List (PySem.Str × Addr)) (fp : List Addr), PTs (X.blk s H scope (compEnvC scope cl C X.env) fp) ifs tt)
    (he : ∀ (s : Shared) (H : Hp) (C : Addr) (cl : List (PySem.Str × Addr)) (fp : List Addr), PE (X.blk s H scope (compEnvC scope cl C X.env) fp) elt te) (hs : ∀ x, foldedSetIterable iter X.env x = pure x := by intro _; rfl) :
    PE X (.SetComp elt [⟨tg, iter, ifs, 0⟩] scope pos) (tScK X.prog X.w wi g tt te (own.map (·.2))) := by
  refine ⟨fun pins s σ H Q I h => ?_⟩
  rw [eval_SetComp]
  have closed : ∀ y ∈ scope.names, y.2 = .free → ∃ c, X.env.cells.lookup y.1 = some c := fun y hy e => (ok.free y hy e).elim (fun k => I.ok.has _ (.inl k)) fun k => I.ok.has _ (.inr k)
  refine wpAny_comprehension_free rfl hs (closure_ok closed) ok.kind (fun y hy e => by rw [ok.uniq y hy, e]) (thn (hi.run pins s σ H _ I h) fun xv s1 hx => thn hx fun itv s2 h2 => ?_)
  obtain ⟨it, fp, tn, J, H2, e, I2, T, st2, f2, q⟩ := h2
  subst e
  refine newSet_ok (newEnv_comp ?_)
  generalize nD : s2.heap.objs.size = D
  have fr : H2 D = none := I2.hok.fresh (Nat.le_of_eq nD)
  obtain ⟨Wt, ⟨m0, w0⟩, turn⟩ := q D fr
  generalize n3 : ({ s2 with heap := s2.heap.push { cls := .type "set", dict := none, data := .set #[] 0 (.fresh 0 0 (!X.w.params.followText "set-order")) } } : Shared) = s3
  have h3 : s3.heap = s2.heap.push (set0 (!X.w.params.followText "set-order")) := by rw [← n3]
  have I3 : Inv X pins σ (upd H2 D (SetK X.prog X.w D (fun _ => false) 0)) s3 := by
    rw [← n3]
    refine I2.laid (t' := s2.toks) (fun b o e => Heap.get?_push_of_some _ e) (Nat.le_of_eq nD) ?_
    rw [← nD]
    exact setK_new ⟨_, #[], 0, _, Heap.get?_push_size _ rfl, ⟨rfl, rfl, rfl⟩, rfl, (fun e z => by simp at z), (fun k => by simp), (by decide), rfl, rfl⟩
  have sz : ∀ b ∈ fp, b < s2.heap.objs.size := fun b hb => let ⟨_, e, _⟩ := T.obj _ _ st2 b hb; Heap.lt_size e
  have f3 : ∀ b ∈ fp, FpOk X pins (upd H2 D (SetK X.prog X.w D (fun _ => false) 0)) b ∧ b < s3.heap.objs.size := fun b hb => by
    have lt := sz b hb
    refine ⟨⟨?_, (f2 b hb).2⟩, by rw [h3, Heap.size_push]; exact Nat.lt_succ_of_lt lt⟩
    rw [upd_ne (by rw [← nD]; exact Nat.ne_of_lt lt)]
    exact (f2 b hb).1
  have st3 : tn 0 s3.heap := T.keep _ _ _ st2 fun b _ o e => by rw [h3]; exact Heap.get?_push_of_some _ e
  have I4 := block_start I3 ok hN f3
  generalize nH : upd H2 D (SetK X.prog X.w D (fun _ => false) 0) = H3 at I3 I4 w0 f3
  generalize ncl : cellsFrom (s3.heap.objs.size + 1) scope.names (cloFrom X.env.cells scope.names []) = cl at I4
  have pg := hg s3 H3 s3.heap.objs.size cl fp
  have pt := ht s3 H3 s3.heap.objs.size cl fp
  have pe := he s3 H3 s3.heap.objs.size cl fp
  show codeAny _ _ (.compStart (.SetComp elt [⟨tg, iter, ifs, 0⟩] scope pos) 0 (.ref it) (.ref D) (compEnvC scope cl s3.heap.objs.size X.env)) (compPost (model X.prog X.w) X.A X.xe none (EP X pins σ Q) (.ref D) s3.heap.objs.size) { s3 with heap := pushCells (s3.heap.push { cls := .type "dict", data := .dict #[] }) scope.names }
  generalize nce : compEnvC scope cl s3.heap.objs.size X.env = ce at I4 pg pt pe ⊢
  have cL : ce.locals = s3.heap.objs.size := by subst nce; rfl
  generalize n4 : ({ s3 with heap := pushCells (s3.heap.push { cls := .type "dict", data := .dict #[] }) scope.names } : Shared) = s4 at I4 ⊢
  have nfp : ∀ b ∈ fp, H3 b = none := fun b hb => (f3 b hb).1.1
  have st4 : tn 0 s4.heap := T.keep _ _ _ st3 fun b _ o e => by rw [← n4]; exact pushCells_keeps _ _ _ _ (Heap.get?_push_of_some _ e)
  have stat : ∀ {σ' : L2.St} {H' : Hp} {s' : Shared}, Inv (X.blk s3 H3 scope ce fp) [] σ' H' s' → (∀ b ∈ fp, H' b = none) → ∀ b ∈ fp, FpOk (X.blk s3 H3 scope ce fp) [] H' b := fun {σ' H' s'} J' hn b hb =>
    ⟨hn b hb, (J'.ok.exf b hb).1, J'.ok.exfs b hb, .inl hb, fun x c e => (J'.ok.exf b hb).2 x c e, fun p hp => by cases (show p ∈ ([] : List (Addr × Obj)) ++ [] from hp)⟩
  refine codeAny_compStart_set ?loop (T.self X.A 0 _ _ _ st4 ?loop)
  case loop =>
    refine compLoopS_any (fun n s' => ∃ i H', Inv (X.blk s3 H3 scope ce fp) [] (wipe σ (own.map (·.2))) H' s' ∧ tn i s'.heap ∧ (∀ b ∈ fp, H' b = none) ∧ Wt i n H') ?_ m0 ⟨0, H3, I4, st4, nfp, w0⟩
    rintro n s5 ⟨i, H5, I5, st5, n5, w5⟩
    rcases turn i n H5 w5 with ⟨stop, last⟩ | ⟨go, Nx, less, step⟩
    · refine thnF (T.done (X.blk s3 H3 scope ce fp) rfl rfl rfl hc i [] s5 _ H5 (fun _ _ => False) I5 (stat I5 n5) st5 stop) fun r s6 ⟨hr, I6⟩ => ?_
      subst hr
      have I7 : Inv X pins σ H5 s6 := I3.call' (ch := fp) I6.os I6.base I6.hok I6.bare fun b hb => let z := (f3 b hb).1; ⟨z.2.2.2.1, z.2.1, z.2.2.2.2.1, z.2.2.2.2.2⟩
      obtain ⟨m, hn, _⟩ := I6.loc
      have nC : H5 s3.heap.objs.size = none := by rw [← cL]; exact I6.free
      refine ⟨m, by rw [← cL]; exact hn, fun h'' sb => ?_⟩
      obtain ⟨g0, g1, g2, g3, g4, g5⟩ := I3.fpOk (Nat.le_refl _) nC
      exact ⟨.ref D, H5, I7.turned (t' := s6.toks) (fun b o hb e => (sb.2 b hb).trans e) g0 g1 g3 g4 g5, rfl, last⟩
    · refine thnF (T.item (X.blk s3 H3 scope ce fp) rfl rfl rfl hc i [] s5 _ H5 (fun _ _ => False) I5 (stat I5 n5) st5 go) fun r s6 ⟨u, hr, h6⟩ => ?_
      subst hr
      refine thnF h6 fun _ s7 ⟨x, H7, I7, r7, y7, st7, n7⟩ => ?_
      refine thnF (pg.run _ s7 _ H7 x u _ (I7.pinned (stat I7 n7) (T.obj _ _ st7)) r7 (step x H7 y7)) fun _ s8 ⟨σ8, H8, I8, hw, q8⟩ => ?_
      refine thnF (pt.run _ s8 σ8 H8 _ I8 q8) fun b s9 ⟨H9, I9, q9⟩ => ?_
      have back : ∀ {s' : Shared} {H' : Hp}, Inv (X.blk s3 H3 scope ce fp) ([] ++ pinsAt fp s7.heap) σ8 H' s' → Nx H' → ∃ m, m < n ∧ ∃ i H', Inv (X.blk s3 H3 scope ce fp) [] (wipe σ (own.map (·.2))) H' s' ∧ tn i s'.heap ∧ (∀ b ∈ fp, H' b = none) ∧ Wt i m H' := fun {s' H'} J' nx => by
        obtain ⟨m', hm, w'⟩ := less H' nx
        have held : ∀ b ∈ fp, ∀ o, s7.heap.get? b = some o → s'.heap.get? b = some o ∧ H' b = none := fun b hb o e =>
          let z := J'.pin (b, o) (List.mem_append_right _ (List.mem_append_right _ (mem_pinsAt hb e)))
          ⟨z.1, z.2.1⟩
        refine ⟨m', hm, i + 1, H', (J'.unpinned (pins := [])).weak (by rw [← hw, wipe_length]) (fun j v e => (wipe_some (by rw [← hw] at e; exact e)).1), T.keep _ _ _ st7 fun b hb o e => (held b hb o e).1, fun b hb => ?_, w'⟩
        obtain ⟨o, e, _⟩ := T.obj _ _ st7 b hb
        exact (held b hb o e).2
      cases b with
      | false =>
        simp only [Bool.false_eq_true, if_false] at q9 ⊢
        exact back I9 q9
      | true =>
        simp only [if_true] at q9 ⊢
        refine thnF (pe.run _ s9 σ8 H9 _ I9 q9) fun z s10 ⟨yv, H10, I10, r10, k, S0, n0, ey, at10, room, nx⟩ => ?_
        subst ey
        exact set_key (X := X.blk s3 H3 scope ce fp) I10 at10 r10 room fun s11 I11 => back I11 nx
/-- len of a set of keys -/
theorem call_lenSK : CallR X (.builtin "len") (fun xs H Q => ∃ (a : Addr) (S : Key → Bool) (n : Nat), xs = [.ref a] ∧ H a = some (SetK X.prog X.w a S n) ∧ Q (.int (n : Nat)) H) := by
  intro pins s σ H xs us Q I r h
  obtain ⟨a, S, n, rfl, ha, q⟩ := h
  cases r with
  | cons r1 rt =>
    cases rt
    cases r1
    obtain ⟨o, es, ep, t, ho, hex, hd, _, _, hb, hf, hn⟩ := setK_get I ha
    refine call_len_set ho hex hd hf (by unfold scanBound at hb; omega) ⟨.int n, H, I.tok _, ⟨_, by rw [hn]⟩, q⟩
end
end DL
end
section
/-! xs[::-1] of a list or a tuple -/
namespace DL
open PySem L2 PySem.Spec PyProof.Rows HT
variable [DL.Nm]
section
variable {prog : Program} {w : World} {A : Around} {E : Value → Shared → Prop} {s : Shared}
theorem back_adjust (n : Nat) : Builtin.Slice.sliceAdjust none none (-1) (n : Int) = ((n : Int) - 1, -1) := by
  unfold Builtin.Slice.sliceAdjust
  simp
theorem back_places (n : Nat) : Builtin.Slice.slicePlaces ((n : Int) - 1) (-1) (-1) = n := by
  unfold Builtin.Slice.slicePlaces
  have h1 : ¬ ((-1 : Int) > 0) := by omega
  rw [if_neg h1, show (-(-1) : Int) = 1 by omega, Int.ediv_one]
  split <;> omega
theorem back_pick (xs : Array Value) : ((List.range xs.size).filterMap fun (m : Nat) => xs[(((xs.size : Nat) : Int) - 1 + (m : Int) * (-1)).toNat]?).toArray = xs.toList.reverse.toArray := by
  have e : ∀ m : Nat, (((xs.size : Nat) : Int) - 1 + (m : Int) * (-1)).toNat = xs.size - 1 - m := fun m => by omega
  have h : (List.range xs.size).filterMap (fun (m : Nat) => xs[(((xs.size : Nat) : Int) - 1 + (m : Int) * (-1)).toNat]?) = xs.toList.reverse := by
    have e2 : (List.range xs.size).filterMap (fun (m : Nat) => xs[(((xs.size : Nat) : Int) - 1 + (m : Int) * (-1)).toNat]?) = ((List.range xs.size).map fun k => xs.size - 1 - k).filterMap (xs[·]?) := by
      rw [List.filterMap_map]
      have e3 : (fun (m : Nat) => xs[(((xs.size : Nat) : Int) - 1 + (m : Int) * (-1)).toNat]?) = ((xs[·]?) ∘ fun k => xs.size - 1 - k) := funext fun m => by rw [e m]; rfl
      rw [e3]
    rw [e2, PySem.W.krv_range, List.filterMap_reverse, PySem.W.krv_all]
  rw [h]
theorem back_applied {sl : Addr} {vl vu vs : Value} {n : Nat} {Q : Int × Int × Nat → Shared → Prop} (hs : s.heap.IsSliceOf sl vl vu vs) (pl : IsPart vl none) (pu : IsPart vu none) (ps : IsPart vs (some (-1))) (h : Q ((n : Int) - 1, -1, n) s) :
    wpAny (model prog w) A (Builtin.Slice.sliceApplied (.ref sl) (pure (n : Int))) Q E s := by
  obtain ⟨os, hos, hcs, hds⟩ := id hs
  unfold Builtin.Slice.sliceApplied Builtin.Slice.sliceFields
  refine wpAny_bind (wpAny_bind (wpAny_field hos hds (x := vl) rfl (wpAny_bind (wpAny_field hos hds (x := vu) rfl (wpAny_bind (wpAny_field hos hds (x := vs) rfl (wpAny_pure ?_)))))))
  refine wpAny_bind (slicePart_ ps ?_)
  show wpAny _ _ (if ((-1 : Int) == 0) = true then _ else _) _ _ s
  rw [if_neg (by decide)]
  refine wpAny_bind (slicePart_ pl (wpAny_bind (slicePart_ pu (wpAny_bind (wpAny_pure ?_)))))
  show wpAny _ _ (match Builtin.Slice.sliceAdjust none none (-1) (n : Int) with | (lo, hi) => pure (lo, (-1 : Int), Builtin.Slice.slicePlaces lo hi (-1))) _ _ s
  rw [back_adjust]
  show wpAny _ _ (pure ((n : Int) - 1, (-1 : Int), Builtin.Slice.slicePlaces ((n : Int) - 1) (-1) (-1))) _ _ s
  rw [back_places]
  exact wpAny_pure h
theorem back_tuple {t sl : Addr} {xs : Array Value} {vl vu vs : Value} {Q : Value → Shared → Prop} (ht : IsTup s.heap t xs) (hs : s.heap.IsSliceOf sl vl vu vs) (pl : IsPart vl none) (pu : IsPart vu none) (ps : IsPart vs (some (-1)))
    (h : Q (.ref s.heap.objs.size) { s with heap := s.heap.push { cls := .type "tuple", data := .seq xs.toList.reverse.toArray } }) (hz : xs.size ≤ sizeLine) : wpAny (model prog w) A (getItem (.ref t) (.ref sl)) Q E s := by
  have room : sizeOk (.seq xs.toList.reverse.toArray) := by
    show xs.toList.reverse.toArray.size ≤ sizeLine
    rw [List.size_toArray, List.length_reverse, Array.length_toList]
    exact hz
  obtain ⟨os, hos, hcs, hds⟩ := id hs
  have ty : s.TypeIs (.ref sl) "slice" := ⟨os, hos, hcs⟩
  unfold getItem
  try with_reducible refine wpAny_holding ?_
  first | refine wpAny_bind (wpAny_pure ?_) | skip
  refine wpAny_bind (wpAny_sequenceKey ht.typeIs (by decide) (wpAny_bind (wpAny_callSpecial?_slot (name := Str.ofString "__getitem__") ht.typeIs PyProof.Rows.slot_tuple_getitem (wpAny_call_entry PyProof.Rows.slot_tuple_getitem ht.typeIs entry_tuple_getitem ?_ (args_tuple_getitem _ _)))))
  show wpAny _ _ (Builtin.Tuple.tupleItemsOf (.ref t) >>= _) _ _ s
  refine wpAny_bind (tupleItemsOf_ ht (wpAny_bind (wpAny_typeOf ty ?_)))
  rw [if_pos (by decide)]
  refine wpAny_bind (back_applied hs pl pu ps ?_)
  have no : ¬ ((((xs.size : Nat) : Int) - 1 == 0 && (-1 : Int) == 1 && xs.size == xs.size) = true) := by
    intro q
    rw [Bool.and_eq_true, Bool.and_eq_true] at q
    exact absurd q.1.2 (by decide)
  show wpAny _ _ (if ((((xs.size : Nat) : Int) - 1) == 0 && (-1 : Int) == 1 && xs.size == xs.size) = true then _ else _) _ _ s
  rw [if_neg no, back_pick]
  first
    | exact wpAny_bind (m := Builtin.Tuple.tupleExact _) (wpAny_newObj_type (wpAny_pure ⟨_, rfl, wpAny_pure h⟩) room)
    | exact wpAny_bind (m := Builtin.Tuple.tupleExact _) (wpAny_newObj_type (wpAny_bind (wpAny_pure (wpAny_pure ⟨_, rfl, wpAny_pure h⟩))) room)
    | exact wpAny_bind (wpAny_bind (m := Builtin.Tuple.tupleExact _) (wpAny_newObj_type (wpAny_pure (wpAny_pure ⟨_, rfl, wpAny_pure h⟩)) room))
    | exact wpAny_bind (wpAny_bind (m := Builtin.Tuple.tupleExact _) (wpAny_newObj_type (wpAny_pure ⟨_, rfl, wpAny_pure h⟩) room))
end
section
variable {G : Glb} {X : Cx} {W : WX}
def tRevT (K : PySem.W.Frag) (te : TE) : TE := fun σ H Q => te σ H fun x H1 => ∃ a xs, x = .ref a ∧ SqT K H1 a xs ∧ ∀ p, H1 p = none → Q (.ref p) (upd H1 p (.tup xs.reverse))
theorem pe_revT {e : Expr} {te : TE} {k : Nat} {p1 p2 p3 pos : Pos} (he : PE X e te) : PE X (.Subscript e (.Slice none none (some (.UnaryOp .USub (.Constant (.int 1) k p1) p2)) p3) pos) (tRevT X.K te) := by
  refine ⟨fun pins s σ H Q I h => Subscript_ (thn (he.run pins s σ H _ I h) fun v s1 ⟨x, H1, I1, r1, a, xs, ex, hx, q⟩ => ?_)⟩
  subst ex
  cases r1
  have step : PO X (some (.UnaryOp .USub (.Constant (.int 1) k p1) p2)) (tPart (tUn (rU fun i => .int (-i)) (tC (.int 1)))) := po_some (pe_un un_neg pe_int)
  refine wpAny_Slice (thn (po_none.run pins s1 σ H1 (fun o H2 => o = none ∧ H2 = H1) I1 ⟨rfl, rfl⟩) fun vl s2 ⟨_, H2, I2, pl, e1, e2⟩ => ?_)
  subst e1 e2
  refine thn (po_none.run pins s2 σ H2 (fun o H3 => o = none ∧ H3 = H2) I2 ⟨rfl, rfl⟩) fun vu s3 ⟨_, H3, I3, pu, e1, e2⟩ => ?_
  subst e1 e2
  refine thn (step.run pins s3 σ H3 (fun o H4 => o = some (-1) ∧ H4 = H3) I3 ⟨1, rfl, -1, rfl, rfl, rfl⟩) fun vs s4 ⟨_, H4, I4, ps, e1, e2⟩ => ?_
  subst e1 e2
  have I5 : Inv X pins σ H4 { s4 with heap := s4.heap.push { cls := .type "slice", data := .fields #[vl, vu, vs] } } := I4.kept (t' := s4.toks) fun b ob q => Heap.get?_push_of_some _ q
  obtain ⟨its, r, ht, hz⟩ := I5.tuple hx
  have len := r.length
  refine tail_any (ops := [.ref a, .ref s4.heap.objs.size]) ht.typeIs PyProof.Rows.slot_tuple_getitem.lookup ?_ (by with_unfolding_all rfl)
  refine back_tuple ht (Heap.IsSliceOf.new _ vl vu vs) pl pu ps ?_ (by rw [List.size_toArray]; omega)
  refine ⟨.ref _, _, I5.laid (t' := s4.toks) (o := .tup xs.reverse) (fun b ob q => Heap.get?_push_of_some _ q) (Nat.le_refl _) ?_, rfl, q _ (I5.hok.fresh (Nat.le_refl _))⟩
  exact ⟨by rw [List.length_reverse]; exact hz, _, r.reverse, IsTup.new _ _⟩
theorem PE.or {e : Expr} {t t' : TE} (h : PE X e t) (h' : PE X e t') : PE X e (fun σ H Q => t σ H Q ∨ t' σ H Q) := ⟨fun pins s σ H Q I q => q.elim (h.run pins s σ H Q I) (h'.run pins s σ H Q I)⟩
/-- backwards -/
def revD (S : Store) (d : D) : ER := match d with
  | .tup ds => .ok (.tup ds.reverse) S
  | d => match listD S d with
    | some ds => .ok (.lst ds.reverse) S
    | none => .bad
def eRev (f : EM) : EM := fun env S => (f env S).bind revD'
  where revD' (d : D) (S : Store) : ER := revD S d
theorem de_rev {e : Expr} {f : EM} {k : Nat} {p1 p2 p3 pos : Pos} (hK : X.K = G.K) (he : DE G X W e f) : DE G X W (.Subscript e (.Slice none none (some (.UnaryOp .USub (.Constant (.int 1) k p1) p2)) p3) pos) (eRev f) := by
  obtain ⟨t, p, q⟩ := he
  refine ⟨_, PE.or (pe_revL p) (pe_revT p), fun σ H env φ S Q s re h => ?_⟩
  unfold eRev at h
  cases hr : f env S with
  | bad => rw [hr] at h; exact False.elim h
  | ex x S1 =>
    rw [hr] at h
    exact .inl (q σ H env φ S _ s re (by rw [hr]; exact h))
  | ok d S1 =>
    rw [hr] at h
    have h' : PostE G W φ H σ (revD S1 d) Q := h
    unfold revD at h'
    split at h'
    · rename_i ds
      refine .inr (q σ H env φ S _ s re ?_)
      rw [hr]
      intro φ1 H1 v e1 s1 i1
      obtain ⟨a, xs, rfl, r, il⟩ := i1
      exact ⟨a, xs, rfl, by rw [hK]; exact r.seq, fun l hl => tup_new s1 il.reverse (PostE.ext e1 h') hl⟩
    · split at h'
      · rename_i ds e
        refine .inl (q σ H env φ S _ s re ?_)
        rw [hr]
        intro φ1 H1 v e1 s1 i1
        obtain ⟨a, xs, rfl, r, il⟩ := listD_sq s1 i1 e
        exact ⟨a, xs, rfl, by rw [hK]; exact r, fun l hl => lst_new s1 il.reverse (PostE.ext e1 h') hl⟩
      · exact False.elim h'
end
end DL
end
section
/-! D-layer, part 8: how many unlike ones; dicts. -/
namespace DL
open PySem L2 PySem.Spec PyProof.Rows
variable [DL.Nm]
section
variable {G : Glb} {X : Cx} {W : WX}
def keysD : List D → Option (List Key)
  | [] => some []
  | d :: ds => (keyD d).bind fun k => (keysD ds).map (k :: ·)
theorem keysD_is {φ : Fi} {H : Hp} : ∀ {ds : List D} {vs : List V} {ks : List Key}, IsL G φ H ds vs → keysD ds = some ks → vs = ks.map kV
  | [], vs, ks, i, e => by cases e; exact i
  | d :: ds, vs, ks, i, e => by
    obtain ⟨x, r, rfl, p, q⟩ := i
    obtain ⟨k, e1, e2⟩ := Option.bind_eq_some_iff.mp (show ((keyD d).bind fun k => (keysD ds).map (k :: ·)) = some ks from e)
    obtain ⟨js, e3, e4⟩ := Option.map_eq_some_iff.mp e2
    subst e4
    rw [keysD_is q e3, keyD_is p e1]; rfl
theorem keysD_dKey : ∀ ks : List Key, keysD (ks.map dKey) = some ks
  | [] => rfl
  | k :: ks => by
    have ih := keysD_dKey ks
    cases k <;> simp [keysD, dKey, keyD, ih]
theorem vals_keys {P : Program} {w : World} : ∀ {ks : List Key} {us : List Value}, Vals (ks.map kV) us → KeysAre P w us ks
  | [], _, h => by cases h; exact ⟨rfl, fun i u e => by simp at e⟩
  | k :: ks, _, h => by
    cases h with
    | cons r t =>
      obtain ⟨h1, h2⟩ := vals_keys (P := P) (w := w) t
      refine ⟨by simp [h1], fun i u e => ?_⟩
      cases i with
      | zero => simp at e; subst e; exact ⟨k, rfl, kV_is r, key_scan r⟩
      | succ i => simp at e; simpa using h2 i u e
/-- few keys: a set of them is scanned -/
def few (n : Nat) : Prop := n + 1 < scanBound
noncomputable instance {n : Nat} : Decidable (few n) := Classical.propDecidable _
theorem few_is {n : Nat} (h : n < 4000) : few n := by unfold few scanBound; omega
/-! ### len(set(xs)) -/
def tLenSetK (K : PySem.W.Frag) (ta : TE) : TE := fun σ H Q => ta σ H fun x H1 => ∃ (l : Addr) (ks : List Key), x = .ref l ∧ (SqL K H1 l (ks.map kV) ∨ SqT K H1 l (ks.map kV)) ∧ few ks.length ∧ Q (.int (dcnt ks : Nat)) H1
theorem pe_lenSetK {a : Expr} {ta : TE} {p p2 q pos : Pos} (hc : X.calm = true) (hg : Gl X "len") (hm : X.mg "len" = none) (hg2 : Gl X "set") (hm2 : X.mg "set" = none) (ha : PE X a ta)
    (na : starEach [a] X.env = (false, eval a X.env) :: starEach [] X.env := by rfl) : PE X (.Call (.Name "len" p) [.Call (.Name "set" p2) [a] [] q] [] pos) (tLenSetK X.K ta) := by
  refine ⟨fun pins s σ H Q I h => Call_ (ld_blt I hg hm boot_len (PyProof.Rows.callWith_builtin1 (PyProof.Rows.args_cons (Call_ (ld_blt I hg2 hm2 boot_set (PyProof.Rows.callWith_type1 (PyProof.Rows.args_cons (thn (ha.run pins s σ H _ I h) fun v s1 ⟨x, H1, I1, r1, q1⟩ => PyProof.Rows.args_nil ?_) na) na rfl))) rfl) rfl rfl))⟩
  obtain ⟨l, ks, rfl, hq, hf, q1⟩ := q1
  cases r1
  have go : ∀ (h' : Heap) (tk : Nat), SetMade X.prog X.w s1 ks h' → wpAny (model X.prog X.w) X.A (call (.builtin "len") [.ref s1.heap.objs.size]) (EP X pins σ Q) X.xe { s1 with heap := h', toks := tk } := fun h' tk ⟨made, old⟩ => by
    obtain ⟨o, es, ep, t, ho, hex, hd, _, _, hb, hft, hn⟩ := made
    have I2 : Inv X pins σ H1 { s1 with heap := h', toks := tk } := I1.kept fun b o e => old b o (Heap.lt_size e) e
    exact call_len_set ho hex hd hft (by unfold scanBound at hb; omega) ⟨.int (dcnt ks : Nat), H1, I2.tok _, ⟨_, by rw [hn]⟩, q1⟩
  rcases hq with hq | hq
  · obtain ⟨its, r, pl, hz⟩ := I1.list hq
    exact set_of_list (I1.ok.hd hc) pl.isList (by simpa using vals_keys r) hf fun h' tk made => PyProof.Rows.args_nil (go h' tk made)
  · obtain ⟨its, r, pl, hz⟩ := I1.tuple hq
    exact set_of_tuple (I1.ok.hd hc) pl (by simpa using vals_keys r) hf fun h' tk made => PyProof.Rows.args_nil (go h' tk made)
noncomputable def eLenSet (f : EM) : EM := fun env S => (f env S).bind fun d S => match (seqD S d).bind keysD with
  | some ks => if few ks.length then .ok (.int (dcnt ks : Nat)) S else .bad
  | none => .bad
theorem de_lenSet {a : Expr} {f : EM} {p p2 q pos : Pos} (hc : X.calm = true) (hK : X.K = G.K) (hg : Gl X "len") (hm : X.mg "len" = none) (hg2 : Gl X "set") (hm2 : X.mg "set" = none) (ha : DE G X W a f)
    (na : starEach [a] X.env = (false, eval a X.env) :: starEach [] X.env := by rfl) : DE G X W (.Call (.Name "len" p) [.Call (.Name "set" p2) [a] [] q] [] pos) (eLenSet f) := by
  obtain ⟨t, pt, qt⟩ := ha
  refine ⟨_, pe_lenSetK hc hg hm hg2 hm2 pt na, fun σ H env φ S Q s re h => ?_⟩
  refine qt σ H env φ S _ s re (PostE.bind h fun d S1 φ1 H1 v e1 s1 i1 h1 => ?_)
  split at h1
  · rename_i ks e
    obtain ⟨ds, e2, e3⟩ := Option.bind_eq_some_iff.mp e
    obtain ⟨l, xs, rfl, r, il⟩ := seqD_sq s1 i1 e2
    split at h1
    · rename_i hf
      exact ⟨l, ks, rfl, by rw [← keysD_is il e3, hK]; exact r, hf, h1.now s1 rfl⟩
    · exact False.elim h1
  · exact False.elim h1
/-! ### len({e for ..}) -/
noncomputable def scD (b : D → EnvD → Option EnvD) (tt elt : EM) (env : EnvD) : List Key → List D → Store → Option (List Key × Store)
  | acc, [], S => some (acc, S)
  | acc, d :: ds, S => match b d env with
    | none => none
    | some e1 => match tt e1 S with
      | .ok (.bl true) S1 => match elt e1 S1 with
        | .ok y S2 => match keyD y with
          | some k => if few (acc.length + 1) then scD b tt elt env (acc ++ [k]) ds S2 else none
          | none => none
        | _ => none
      | .ok (.bl false) S1 => scD b tt elt env acc ds S1
      | _ => none
noncomputable def eLenSc (f : LM) (b : D → EnvD → Option EnvD) (tt elt : EM) (vs : List Nat) : EM := fun env S => (f env S).bindE fun ds S => match scD b tt elt (wipeD env vs) [] ds S with
  | some (ks, S') => .ok (.int (dcnt ks : Nat)) S'
  | none => .bad
def PostSc (G : Glb) (X : Cx) (φ1 : Fi) (H1 : Hp) (D0 : Addr) (r : Option (List Key × Store)) (Q : Hp → Prop) : Prop := match r with
  | some (ks, S) => ∀ φ' H', Lk φ1 H1 D0 φ' H' → SOk G φ' S H' → H' D0 = some (SetK X.prog X.w D0 (memK ks) (dcnt ks)) → Q H'
  | none => False
theorem memK_snoc (ks : List Key) (k : Key) : (fun j => memK ks j || decide (j = k)) = memK (ks ++ [k]) := by
  funext j
  rw [Bool.eq_iff_iff, memK_iff, Bool.or_eq_true, memK_iff, decide_eq_true_eq, List.mem_append]
  simp
theorem sc_loop {J : It} {g : TG} {tt : TT} {te : TE} {b : D → EnvD → Option EnvD} {ft fe : EM} {vs ws : List Nat} {σ : L2.St} {env : EnvD} {φ1 : Fi} {H1 : Hp} {S1 : Store} {ds : List D} {D0 : Addr} {Qd : Hp → Prop} {WB WB' : WX}
    (qg : ∀ v d σ H env env' φ Q, Is G φ H d v → RepE G φ H σ env → b d env = some env' → (∀ σ', RepE G φ H σ' env' → Off vs σ σ' → Q σ' H) → g v σ H Q)
    (qt : ∀ σ H env φ S Q, SOk G φ S H → RepE G φ H σ env → PostT G WB φ H σ (ft env S) Q → tt σ H Q)
    (qe : ∀ σ H env φ S Q, SOk G φ S H → RepE G φ H σ env → PostE G WB' φ H σ (fe env S) Q → te σ H Q)
    (hs : ∀ j ∈ vs, j ∈ ws) (s1 : SOk G φ1 S1 H1) (re : RepE G φ1 H1 σ env) (fd : Feeds G φ1 H1 J ds) (hD : H1 D0 = none)
    (h : PostSc G X φ1 H1 D0 (scD b ft fe (wipeD env ws) [] ds S1) Qd) :
    ∃ Wt : Nat → Nat → Hp → Prop, (∃ m, Wt 0 m (upd H1 D0 (SetK X.prog X.w D0 (fun _ => false) 0))) ∧ ∀ i m H, Wt i m H →
      (J.stop i H ∧ Qd H) ∨ (J.go i H ∧ ∃ Nx : Hp → Prop, (∀ H', Nx H' → ∃ m', m' < m ∧ Wt (i + 1) m' H') ∧ ∀ x H', J.yld i H x H' → g x (wipe σ ws) H' fun σ2 H2 => wipe σ2 ws = wipe σ ws ∧ tt σ2 H2 fun b H3 =>
        if b = true then te σ2 H3 fun y H4 => ∃ (k : Key) (S : Key → Bool) (n : Nat), y = kV k ∧ H4 D0 = some (SetK X.prog X.w D0 S n) ∧ n + 1 < scanBound ∧ Nx (upd H4 D0 (SetK X.prog X.w D0 (fun j => S j || decide (j = k)) (if S k = true then n else n + 1))) else Nx H3) := by
  let Go : Nat → Hp → Prop := fun i H2 => i ≤ ds.length ∧ ∃ φ2 S2 ks, Kept φ1 H1 φ2 H2 ∧ Lk φ1 H1 D0 φ2 H2 ∧ SOk G φ2 S2 H2 ∧ H2 D0 = some (SetK X.prog X.w D0 (memK ks) (dcnt ks)) ∧ PostSc G X φ1 H1 D0 (scD b ft fe (wipeD env ws) ks (ds.drop i) S2) Qd
  have e0 : (fun _ : Key => false) = memK [] := funext fun k => (memK_nil k).symm
  refine ⟨fun i m H2 => m = ds.length - i ∧ Go i H2, ⟨ds.length, by simp, Nat.zero_le _, φ1.hide D0, S1, [], Kept.hide hD, .start hD, s1.hide hD, by rw [e0]; exact upd_same, h⟩, ?_⟩
  rintro i m H2 ⟨rfl, hi, φ2, S2, ks, k2, l2, s2, hacc, h2⟩
  by_cases hl : i < ds.length
  · right
    have hd : ds[i]? = some ds[i] := List.getElem?_eq_getElem hl
    obtain ⟨go, gy⟩ := fd.go φ2 S2 H2 i ds[i] k2 s2 hd
    rw [List.drop_eq_getElem_cons hl] at h2
    refine ⟨go, Go (i + 1), fun H' w => ⟨ds.length - (i + 1), by omega, rfl, w⟩, fun x H' hy => ?_⟩
    obtain ⟨e3, s3, k3⟩ := gy x H' hy
    have nc : D0 ∉ φ2.c := (s2.hid D0 l2.mem).1
    have r3 : RepE G φ2 H' (wipe σ ws) (wipeD env ws) := ((re.wipe ws).kept k2).ext e3
    unfold scD at h2
    cases hb1 : b ds[i] (wipeD env ws) with
    | none => rw [hb1] at h2; exact False.elim h2
    | some env3 =>
      rw [hb1] at h2
      dsimp only at h2
      refine qg x ds[i] _ H' _ env3 φ2 _ k3 r3 hb1 fun σ3 r4 o3 => ⟨wipe_off hs o3, ?_⟩
      refine qt σ3 H' env3 φ2 S2 _ s3 r4 ?_
      cases ht : ft env3 S2 with
      | bad => rw [ht] at h2; exact False.elim h2
      | ex x S3 => rw [ht] at h2; exact False.elim h2
      | ok d S3 =>
        rw [ht] at h2
        cases d with
        | bl c =>
          intro φ4 H4 v e4 s4 i4 b' eb
          cases (show v = .bl c from i4)
          cases eb
          have e24 := e3.trans e4
          cases c with
          | false =>
            exact iteF ⟨by omega, φ4, S3, ks, k2.trans e24.kept, l2.ext' e24, s4, e24.keepE nc hacc (by unfold SetK; exact ⟨(by rintro (⟨_, z⟩ | ⟨_, z⟩) <;> cases z), (fun _ z => by cases z)⟩), h2⟩
          | true =>
            refine iteT (qe σ3 H4 env3 φ4 S3 _ s4 (r4.ext e4) ?_)
            dsimp only at h2
            cases he : fe env3 S3 with
            | bad => rw [he] at h2; exact False.elim h2
            | ex x S5 => rw [he] at h2; exact False.elim h2
            | ok y S5 =>
              rw [he] at h2
              dsimp only at h2
              cases hk : keyD y with
              | none => rw [hk] at h2; exact False.elim h2
              | some k =>
                rw [hk] at h2
                dsimp only at h2
                by_cases hz : few (ks.length + 1)
                · rw [if_pos hz] at h2
                  intro φ5 H5 v5 e5 s5 i5
                  have e25 := e24.trans e5
                  have l5 := l2.ext' e25
                  have eq : SetK X.prog X.w D0 (fun j => memK ks j || decide (j = k)) (if memK ks k = true then dcnt ks else dcnt ks + 1) = SetK X.prog X.w D0 (memK (ks ++ [k])) (dcnt (ks ++ [k])) := by
                    rw [memK_snoc, dcnt_snoc]
                  have kh : Kept φ5 H5 φ5 (upd H5 D0 (SetK X.prog X.w D0 (memK (ks ++ [k])) (dcnt (ks ++ [k])))) := .hidden l5.mem
                  refine ⟨k, memK ks, dcnt ks, keyD_is i5 hk, e25.keepE nc hacc (by unfold SetK; exact ⟨(by rintro (⟨_, z⟩ | ⟨_, z⟩) <;> cases z), (fun _ z => by cases z)⟩), ?_, ?_⟩
                  · have := dcnt_le ks
                    unfold few at hz
                    omega
                  · rw [eq]
                    exact ⟨by omega, φ5, S5, ks ++ [k], (k2.trans e25.kept).trans kh, l5.put hD, s5.hidden l5.mem, upd_same, h2⟩
                · rw [if_neg hz] at h2; exact False.elim h2
        | _ => exact False.elim h2
  · left
    have e : i = ds.length := by omega
    subst e
    rw [List.drop_length] at h2
    exact ⟨fd.stop φ2 S2 H2 k2 s2, h2 φ2 H2 l2 s2 hacc⟩
theorem Lk.past {φ1 φ2 : Fi} {H1 H2 : Hp} {D0 : Addr} {S : Store} (l : Lk φ1 H1 D0 φ2 H2) (s : SOk G φ2 S H2) : SOk G ⟨φ2.c, φ1.h⟩ S H2 := by
  have e : φ2 = (Fi.mk φ2.c φ1.h).hide D0 := by
    obtain ⟨c, h⟩ := φ2
    have := l.hid
    simp only at this
    subst this
    rfl
  rw [e] at s
  exact s.show_
section
variable {elt tg iter : Expr} {ifs : List Expr} {scope : Scope} {own : List (Str × Nat)} {pos : Pos} {f : LM} {b : D → EnvD → Option EnvD} {ft fe : EM} {vs : List Nat}
theorem de_lenSc {p lpos : Pos} (hc : X.calm = true) (hN : X.N.Nodup) (hg0 : Gl X "len") (hm0 : X.mg "len" = none) (hi : DI G X W tg iter f) (ok : BlkOk X.N X.env.scope scope own)
    (hg : ∀ (s : Shared) (H : Hp) (C : Addr) (cl : List (Str × Addr)) (fp : List Addr), DG G (X.blk s H scope (compEnvC scope cl C X.env) fp) tg b vs)
    (ht : ∀ (s : Shared) (H : Hp) (C : Addr) (cl : List (Str × Addr)) (fp : List Addr), DTs G (X.blk s H scope (compEnvC scope cl C X.env) fp) W0 ifs ft)
    (he : ∀ (s : Shared) (H : Hp) (C : Addr) (cl : List (Str × Addr)) (fp : List Addr), DE G (X.blk s H scope (compEnvC scope cl C X.env) fp) W0 elt fe)
    (hvs : ∀ j ∈ vs, j ∈ own.map (·.2)) (hs : ∀ x, foldedSetIterable iter X.env x = pure x := by intro _; rfl)
    (hst : starEach [.SetComp elt [⟨tg, iter, ifs, 0⟩] scope pos] X.env = (false, eval (.SetComp elt [⟨tg, iter, ifs, 0⟩] scope pos) X.env) :: starEach [] X.env := by rfl) (hpl : (backTo lpos (starEach ([] : List Expr) X.env)).any (·.1) = false := by rfl) :
    DE G X W (.Call (.Name "len" p) [.SetComp elt [⟨tg, iter, ifs, 0⟩] scope pos] [] lpos) (eLenSc f b ft fe (own.map (·.2))) := by
  obtain ⟨wi, pI, qi⟩ := hi
  refine ⟨_, pe_callB call_lenSK hg0 hm0 boot_len (pa_cons (pe_scK hc hN pI ok (fun s H C cl fp => (hg s H C cl fp).can) (fun s H C cl fp => (ht s H C cl fp).can) (fun s H C cl fp => (he s H C cl fp).can) hs) pa_nil hst) (by decide) (by decide) hst hpl, fun σ H env φ S Q s re h => ?_⟩
  refine qi σ H env φ S _ s re (PostI.ofE h fun ds S1 φ1 H1 J e1 s1 fd h1 D0 hD => ?_)
  refine sc_loop (env := env) (fun v d σ H env env' φ Q i r z k => ⟨d, env, env', φ, i, r, z, k⟩) (fun σ H env φ S Q s r z => ⟨env, φ, S, s, r, z⟩) (fun σ H env φ S Q s r z => ⟨env, φ, S, s, r, z⟩) hvs s1 (re.ext e1) fd hD ?_
  cases hr : scD b ft fe (wipeD env (own.map (·.2))) [] ds S1 with
  | some z =>
    obtain ⟨ks, S2⟩ := z
    rw [hr] at h1
    intro φ2 H2 l2 s2 hx
    exact ⟨D0, _, _, rfl, hx, h1 _ H2 _ l2.ext (l2.past s2) rfl⟩
  | none => rw [hr] at h1; exact h1
end
end
end DL
end
section
/-! D-layer, part 9: what is never met; dicts that are read and written. -/
namespace DL
open PySem L2 PySem.Spec PyProof.Rows
variable [DL.Nm]
theorem units65 {k : Nat} {A : Around} (r : Room k A) : A.units + 65 < cLine := by have := r.un; omega
theorem units1 {k : Nat} {A : Around} (r : Room k A) : A.units + 1 < cLine := by have := r.un; omega
section
variable {G : Glb} {X : Cx} {W : WX}
/-! ### x[i], x a list, a tuple, a text, a dict -/
def rIxDc : R2 := fun x y H Q => ∃ a v, x = .ref a ∧ DGet H a y (some v) ∧ Q v H
theorem ix_dic (hu : X.A.units + 1 < cLine) : IxR X rIxDc := by
  intro value slice pins s σ H x y v u Q I rx ry h hs
  obtain ⟨a, d, rfl, g, q⟩ := h
  cases rx
  exact tail_any (dict_typeIs I g) PySem.F.slot_dict_getitem.lookup (d_getItem hu I g ry fun w' s3 I3 rw' => ⟨d, H, I3, rw', q⟩) hs
noncomputable def opIxX (x y : D) (S : Store) : ER := match dicD S x with
  | some kds => match keyD y with
    | some k => match valD kds k with
      | some d => .ok d S
      | none => .bad
    | none => .bad
  | none => opIx x y S
theorem ix_is {φ : Fi} {S : Store} {H : Hp} {σ : L2.St} {dx dy : D} {x y : V} {Q : VK} (hK : X.K = G.K) (s : SOk G φ S H) (ix : Is G φ H dx x) (iy : Is G φ H dy y) (h : PostE G W φ H σ (opIx dx dy S) Q) : rIx X.K x y H Q := by
  unfold opIx at h
  split at h
  · cases (show x = _ from ix); cases (show y = _ from iy)
    split at h
    · rename_i hz
      split at h
      · rename_i d hd
        obtain ⟨c, e1, e2⟩ := Option.map_eq_some_iff.mp hd
        subst e2
        exact .inr (.inr ⟨_, _, c, rfl, rfl, sizeLine_is hz, e1, h.now s rfl⟩)
      · exact bad_no h
    · exact bad_no h
  · cases (show y = _ from iy)
    split at h
    · rename_i d hd
      obtain ⟨p, xs, rfl, r, q⟩ := tupD_sq ix rfl
      obtain ⟨v, e1, k⟩ := atI_is q hd
      exact .inr (.inl ⟨p, xs, _, v, rfl, rfl, by rw [hK]; exact r, e1, h.now s k⟩)
    · exact bad_no h
  · cases (show y = _ from iy)
    split at h
    · rename_i ds e
      obtain ⟨p, xs, rfl, r, q⟩ := listD_sq s ix e
      split at h
      · rename_i d hd
        obtain ⟨v, e1, k⟩ := atI_is q hd
        exact .inl ⟨p, xs, _, v, rfl, rfl, by rw [hK]; exact r, e1, h.now s k⟩
      · exact bad_no h
    · exact bad_no h
  · exact bad_no h
theorem de_ixX {a b : Expr} {pos : Pos} {fa fb : EM} (hK : X.K = G.K) (hu : X.A.units + 1 < cLine) (ha : DE G X W a fa) (hb : DE G X W b fb) (hs : PlainIx b := by intro _ _; rfl) : DE G X W (.Subscript a b pos) (eOp opIxX fa fb) := by
  obtain ⟨ta, pa, qa⟩ := ha
  obtain ⟨tb, pb, qb⟩ := hb
  refine ⟨_, pe_ix (ix_seq.or (ix_dic hu)) pa pb hs, op_of (t := ta) qa qb fun W φ S H σ dx dy x y Q s ix iy h => ?_⟩
  unfold opIxX at h
  split at h
  · rename_i kds e
    split at h
    · rename_i k ek
      split at h
      · rename_i d hd
        obtain ⟨a, kvs, rfl, r, q⟩ := dicD_is s ix e
        obtain ⟨v, e2, i2⟩ := (val_is k q).1 d hd
        exact .inr ⟨a, v, rfl, .inl ⟨kvs, k, r, keyD_is iy ek, e2.symm⟩, h.now s i2⟩
      · exact bad_no h
    · exact bad_no h
  · exact .inl (ix_is hK s ix iy h)
/-! ### o[i] = e of a list's or dict's cell -/
theorem PSet.or {t t' : TSet} (h : PSet X t) (h' : PSet X t') : PSet X (fun o i v H Q => t o i v H Q ∨ t' o i v H Q) := fun pins s σ H o i v ov iv u Q I ro ri rv q =>
  q.elim (h pins s σ H o i v ov iv u Q I ro ri rv) (h' pins s σ H o i v ov iv u Q I ro ri rv)
def putD (kds : List (Key × D)) (k : Key) (d : D) : List (Key × D) := if kds.any (fun kv => decide (kv.1 = k)) then kds.map (fun kv => if kv.1 = k then (kv.1, d) else kv) else kds ++ [(k, d)]
noncomputable def setX (o i d : D) (S : Store) : Option Store := match o with
  | .loc l => match S[l]? with
    | some (.dic kds) => match keyD i with
      | some k => if sz (kds.length + 1) then some (S.set l (.dic (putD kds k d))) else none
      | none => none
    | _ => setD o i d S
  | _ => none
theorem KvIs.length {φ : Fi} {H : Hp} {kds : List (Key × D)} {kvs : List (Key × V)} (q : KvIs G φ H kds kvs) : kds.length = kvs.length := by
  have := congrArg List.length q.1
  simpa using this.symm
theorem map_upd {α β : Type} (ks : List (Key × α)) (k : Key) (d : α) : (ks.map fun kv => if kv.1 = k then (kv.1, d) else kv).map (·.1) = ks.map (·.1) := by
  rw [List.map_map]
  apply List.map_congr_left
  intro kv _
  simp only [Function.comp]
  split <;> rfl
theorem any_keys {α β : Type} : ∀ {ks : List (Key × α)} {js : List (Key × β)} (k : Key), ks.map (·.1) = js.map (·.1) → (ks.any fun kv => decide (kv.1 = k)) = js.any fun kv => decide (kv.1 = k)
  | [], [], _, _ => rfl
  | [], _ :: _, _, h => by simp at h
  | _ :: _, [], _, h => by simp at h
  | a :: ks, b :: js, k, h => by
    simp only [List.map_cons, List.cons.injEq] at h
    rw [List.any_cons, List.any_cons, h.1, any_keys k h.2]
theorem isL_upd {φ : Fi} {H : Hp} {d : D} {v : V} (i : Is G φ H d v) (k : Key) : ∀ {kds : List (Key × D)} {kvs : List (Key × V)}, KvIs G φ H kds kvs →
    IsL G φ H ((kds.map fun kv => if kv.1 = k then (kv.1, d) else kv).map (·.2)) ((kvs.map fun kv => if kv.1 = k then (kv.1, v) else kv).map (·.2))
  | [], kvs, h => by
    have : kvs = [] := by simpa using h.1
    subst this
    exact rfl
  | (k0, d0) :: kds, kvs, h => by
    obtain ⟨h1, h2⟩ := h
    cases kvs with
    | nil => simp at h1
    | cons p r =>
      obtain ⟨kp, vp⟩ := p
      simp only [List.map_cons, List.cons.injEq] at h1
      obtain ⟨e1, e2⟩ := h1
      subst e1
      obtain ⟨x, xs, e3, i1, i2⟩ := h2
      simp only [List.map_cons, List.cons.injEq] at e3
      obtain ⟨rfl, rfl⟩ := e3
      have ih := isL_upd i k (show KvIs G φ H kds r from ⟨e2, i2⟩)
      simp only [List.map_cons]
      by_cases hk : kp = k
      · rw [if_pos hk, if_pos hk]; exact ⟨_, _, rfl, i, ih⟩
      · rw [if_neg hk, if_neg hk]; exact ⟨_, _, rfl, i1, ih⟩
theorem put_is {φ : Fi} {H : Hp} {kds : List (Key × D)} {kvs : List (Key × V)} {d : D} {v : V} (q : KvIs G φ H kds kvs) (i : Is G φ H d v) (k : Key) : KvIs G φ H (putD kds k d) (putK kvs k v) := by
  have ea := any_keys (α := D) (β := V) k q.1.symm
  unfold putD putK
  rw [ea]
  split
  · exact ⟨by rw [map_upd (β := V), map_upd (β := V)]; exact q.1, isL_upd i k q⟩
  · refine ⟨by simp [q.1], ?_⟩
    rw [List.map_append, List.map_append]
    exact q.2.append (.one i)
theorem KvIs.ext {φ φ' : Fi} {H H' : Hp} {kds : List (Key × D)} {kvs : List (Key × V)} (e : Ext φ H φ' H') (q : KvIs G φ H kds kvs) : KvIs G φ' H' kds kvs := ⟨q.1, q.2.ext e⟩
noncomputable def sPutX (o i f : EM) : SM := fun env S => (f env S).bindS env fun d S => (o env S).bindS env fun a S => (i env S).bindS env fun b S => match setX a b d S with
  | some S' => .nx env S'
  | none => .bad
theorem setX_is {φ : Fi} {S S' : Store} {H : Hp} {o i d : D} {vo vi v : V} (s : SOk G φ S H) (io : Is G φ H o vo) (ii : Is G φ H i vi) (id : Is G φ H d v) (h : setX o i d S = some S') {Q : Hp → Prop} (k : ∀ H', Ext φ H φ H' → SOk G φ S' H' → Q H') : rSetL vo vi v H Q ∨ rSetD vo vi v H Q := by
  unfold setX at h
  split at h
  · rename_i l
    split at h
    · rename_i kds hc
      split at h
      · rename_i key ek
        split at h
        · rename_i hz
          cases h
          obtain ⟨a, ha, rfl⟩ := io
          obtain ⟨ws, hx, z, q⟩ := s.at_ hc ha
          have kv : KvIs G φ H kds ws := ⟨z, q⟩
          have e := Ext.put (φ := φ) (H := H) (o := .dK (putK ws key v)) (List.mem_of_getElem? ha)
          refine .inr ⟨a, _, rfl, .inl ⟨ws, key, hx, keyD_is ii ek, ?_, rfl⟩, k _ e (s.put ha ?_)⟩
          · have hl := kv.length
            have hz' : kds.length + 1 ≤ 16777216 := hz
            rw [sizeLine_eq]; omega
          · obtain ⟨p1, p2⟩ := (put_is kv id key).ext e
            exact ⟨_, upd_same, p1, p2⟩
        · cases h
      · cases h
    · exact .inl (set_is s io ii id h k)
  · cases h
theorem ds_putX {o i e : Expr} {pos pos' : Pos} {fo fi fe : EM} (hu : X.A.units + 1 < cLine) (he : DE G X W e fe) (ho : DE G X W o fo) (hi : DE G X W i fi) (hs : swapsWithSole [.Subscript o i pos'] e pos.line X.env = pure false := by rfl) (hw : swappedStores [.Subscript o i pos'] e X.env = pure none := by rfl)
    (h1 : List.map (fun x => x.snd) (assignEach [.Subscript o i pos'] X.env) = [assign (.Subscript o i pos') X.env] := by rfl)
    (h2 : ∀ v, assign (.Subscript o i pos') X.env v = (do let ov ← holding [v] (eval o X.env); let iv ← holding [v, ov] (eval i X.env); standAt pos'; holding [v, ov, iv] (setItem ov iv v); release [v, ov, iv] []) := by intro _; rfl) : DS G X W (.Assign [.Subscript o i pos'] e pos) (sPutX fo fi fe) := by
  obtain ⟨to, po, qo⟩ := ho
  obtain ⟨ti, pi, qi⟩ := hi
  obtain ⟨te, pe, qe⟩ := he
  refine ⟨_, ps_asg pe (pg_sub po pi (PSet.or set_list (set_dict hu)) h2) hs hw h1, fun σ H env φ S N s re h => ?_⟩
  refine qe σ H env φ S _ s re (PostE.bindS re h fun d S1 φ1 H1 v e1 s1 i1 h1 => ?_)
  have r1 := re.ext e1
  refine qo σ H1 env φ1 S1 _ s1 r1 (PostE.bindS r1 h1 fun a S2 φ2 H2 va e2 s2 i2 h2 => ?_)
  have r2 := r1.ext e2
  refine qi σ H2 env φ2 S2 _ s2 r2 (PostE.bindS r2 h2 fun b S3 φ3 H3 vb e3 s3 i3 h3 => ?_)
  cases hS : setX a b d S3 with
  | none => rw [hS] at h3; exact False.elim h3
  | some S4 =>
    rw [hS] at h3
    exact setX_is s3 (i2.ext e3) i3 ((i1.ext e2).ext e3) hS fun H' e4 s4 => h3 φ3 H' σ e4 s4 ((r2.ext e3).ext e4)
/-! ### d[k] += n -/
/-! ### a new dict -/
def eDic0 : EM := fun _ S => .ok (.dic [] []) S
def eDic0M : EM := fun _ S => .ok (.loc S.length) (S ++ [.dic []])
theorem de_dic0 {pos : Pos} : DE G X W (.Dict [] [] pos) eDic0 := ⟨_, pe_dnewK, fun σ H env φ S Q s re h p hp => h φ _ _ (.laid hp) (s.laid hp) ⟨p, [], rfl, ⟨s.fresh hp, .inl upd_same⟩, rfl, rfl⟩⟩
theorem de_dic0M {pos : Pos} : DE G X W (.Dict [] [] pos) eDic0M := ⟨_, pe_dnewK, fun σ H env φ S Q s re h p hp =>
  h (φ.add p) _ _ (.newCell s hp) (s.newCell hp ⟨[], upd_same, rfl, rfl⟩) ⟨p, by rw [← s.len]; simp [Fi.add], rfl⟩⟩
/-! ### len, list, dict of a dict too -/
theorem call_lenDc : CallR X (.builtin "len") (fun xs H Q => ∃ a kvs, xs = [V.ref a] ∧ Rd H a (.dK kvs) ∧ Q (.int kvs.length) H) := by
  intro pins s σ H xs us Q I r h
  obtain ⟨a, kvs, rfl, ha, q⟩ := h
  obtain ⟨u, rfl, ru⟩ := vals1 r
  cases ru
  exact d_len I ha fun t s' I' => ⟨.int kvs.length, H, I', ⟨t, rfl⟩, q⟩
noncomputable def bLenX (ds : List D) (S : Store) : ER := match ds with
  | [d] => match dicD S d with
    | some kds => .ok (.int kds.length) S
    | none => bLen ds S
  | _ => .bad
theorem dc_lenX (hK : X.K = G.K) : DCall G X (.builtin "len") bLenX := by
  obtain ⟨r, hr, q⟩ := dc_len (G := G) (X := X) hK
  refine ⟨_, hr.or call_lenDc, fun W φ S H σ ds xs Q s i h => ?_⟩
  unfold bLenX at h
  split at h
  · split at h
    · rename_i kds e
      obtain ⟨x, rfl, k⟩ := IsL.inv1 i
      obtain ⟨a, kvs, rfl, r, kv⟩ := dicD_is s k e
      exact .inr ⟨a, kvs, rfl, r, by rw [← kv.length]; exact h.now s rfl⟩
    · exact .inl (q W φ S H σ _ xs Q s i h)
  · exact bad_no h
theorem isL_keys {φ : Fi} {H : Hp} {kds : List (Key × D)} {kvs : List (Key × V)} (q : KvIs G φ H kds kvs) : IsL G φ H (kds.map fun kv => dKey kv.1) (kvs.map fun kv => kV kv.1) := by
  have e1 : kds.map (fun kv => dKey kv.1) = (kds.map (·.1)).map dKey := by rw [List.map_map]; rfl
  have e2 : kvs.map (fun kv => kV kv.1) = (kvs.map (·.1)).map kV := by rw [List.map_map]; rfl
  rw [e1, e2, q.1]
  generalize kds.map (·.1) = ks
  induction ks with
  | nil => exact rfl
  | cons k ks ih => exact ⟨_, _, rfl, is_dKey k, ih⟩
def bListX (ds : List D) (S : Store) : ER := match ds with
  | [d] => match dicD S d with
    | some kds => .ok (.lst (kds.map fun kv => dKey kv.1)) S
    | none => bList ds S
  | _ => .bad
def bListXM (ds : List D) (S : Store) : ER := match ds with
  | [d] => match dicD S d with
    | some kds => .ok (.loc S.length) (S ++ [.lst (kds.map fun kv => dKey kv.1)])
    | none => bListM ds S
  | _ => .bad
theorem dc_listX (hc : X.calm = true) (hK : X.K = G.K) : DCall G X (.type "list") bListX := by
  obtain ⟨r, hr, q⟩ := dc_list (G := G) (X := X) hK
  refine ⟨_, hr.or (call_listD hc), fun W φ S H σ ds xs Q s i h => ?_⟩
  unfold bListX at h
  split at h
  · split at h
    · rename_i kds e
      obtain ⟨x, rfl, k⟩ := IsL.inv1 i
      obtain ⟨a, kvs, rfl, r, kv⟩ := dicD_is s k e
      exact .inr ⟨a, kvs, rfl, r, fun p hp => lst_new s (isL_keys kv) h hp⟩
    · exact .inl (q W φ S H σ _ xs Q s i h)
  · exact bad_no h
theorem dc_listXM (hc : X.calm = true) (hK : X.K = G.K) : DCall G X (.type "list") bListXM := by
  obtain ⟨r, hr, q⟩ := dc_listM (G := G) (X := X) hK
  refine ⟨_, hr.or (call_listD hc), fun W φ S H σ ds xs Q s i h => ?_⟩
  unfold bListXM at h
  split at h
  · split at h
    · rename_i kds e
      obtain ⟨x, rfl, k⟩ := IsL.inv1 i
      obtain ⟨a, kvs, rfl, r, kv⟩ := dicD_is s k e
      exact .inr ⟨a, kvs, rfl, r, fun p hp => lst_newM s (isL_keys kv) h hp⟩
    · exact .inl (q W φ S H σ _ xs Q s i h)
  · exact bad_no h
def bDict (ds : List D) (S : Store) : ER := match ds with
  | [d] => match dicD S d with
    | some kds => .ok (.dic (kds.map (·.1)) (kds.map (·.2))) S
    | none => .bad
  | _ => .bad
/-! ### d.get(k), d.get(k, x) -/
def getD (o b : D) (z : D) (S : Store) : ER := match dicD S o, keyD b with
  | some kds, some k => .ok ((valD kds k).getD z) S
  | _, _ => .bad
end
end DL
end
section
/-! D-layer, part 10: how the values of parts 7 to 9 are reckoned (by simp). -/
namespace DL
open PySem L2
variable [DL.Nm]
section
variable {d : D} {S : Store} {x : Exc} {e env : EnvD} {i j : Int}
@[simp] theorem opIxX_t {ds : List D} : opIxX (.tup ds) (.int i) S = match atI ds i with | some d => .ok d S | none => .bad := rfl
@[simp] theorem opIxX_l {ds : List D} : opIxX (.lst ds) (.int i) S = match atI ds i with | some d => .ok d S | none => .bad := rfl
@[simp] theorem opIxX_s {z : Str} : opIxX (.str z) (.int i) S = if sz z.length then (match strAt z i with | some d => .ok d S | none => .bad) else .bad := rfl
@[simp] theorem opIxX_di {ks ds} : opIxX (.dic ks ds) (.int i) S = match valD (ks.zip ds) (.inl i) with | some d => .ok d S | none => .bad := rfl
@[simp] theorem opIxX_ds {ks ds} {z : Str} : opIxX (.dic ks ds) (.str z) S = match valD (ks.zip ds) (.inr z) with | some d => .ok d S | none => .bad := rfl
@[simp] theorem opIxX_ci {l : Nat} : opIxX (.loc l) (.int i) S = match cel S l with
  | some (.lst ds) => (match atI ds i with | some d => .ok d S | none => .bad)
  | some (.dic kds) => (match valD kds (.inl i) with | some d => .ok d S | none => .bad)
  | _ => .bad := by
  simp only [opIxX, dicD, keyD, opIx, listD, cel]
  cases S[l]? with
  | none => rfl
  | some c => cases c <;> rfl
@[simp] theorem opIxX_cs {l : Nat} {z : Str} : opIxX (.loc l) (.str z) S = match cel S l with
  | some (.dic kds) => (match valD kds (.inr z) with | some d => .ok d S | none => .bad)
  | _ => .bad := by
  simp only [opIxX, dicD, keyD, opIx, listD, cel]
  cases S[l]? with
  | none => rfl
  | some c => cases c <;> rfl
@[simp] theorem bLenX_t {ds : List D} : bLenX [.tup ds] S = .ok (.int ds.length) S := rfl
@[simp] theorem bLenX_l {ds : List D} : bLenX [.lst ds] S = .ok (.int ds.length) S := rfl
@[simp] theorem bLenX_s {z : Str} : bLenX [.str z] S = if sz z.length then .ok (.int z.length) S else .bad := rfl
@[simp] theorem bLenX_d {ks ds} : bLenX [.dic ks ds] S = .ok (.int (ks.zip ds).length) S := rfl
@[simp] theorem bLenX_c {l : Nat} : bLenX [.loc l] S = match cel S l with | some (.lst ds) => .ok (.int ds.length) S | some (.dic kds) => .ok (.int kds.length) S | _ => .bad := by
  simp only [bLenX, dicD, bLen, seqD, listD, cel]
  cases S[l]? with
  | none => rfl
  | some c => cases c <;> rfl
@[simp] theorem bListX_t {ds : List D} : bListX [.tup ds] S = .ok (.lst ds) S := rfl
@[simp] theorem bListX_l {ds : List D} : bListX [.lst ds] S = .ok (.lst ds) S := rfl
@[simp] theorem bListX_d {ks ds} : bListX [.dic ks ds] S = .ok (.lst ((ks.zip ds).map fun kv => dKey kv.1)) S := rfl
@[simp] theorem bListX_c {l : Nat} : bListX [.loc l] S = match cel S l with | some (.lst ds) => .ok (.lst ds) S | some (.dic kds) => .ok (.lst (kds.map fun kv => dKey kv.1)) S | _ => .bad := by
  simp only [bListX, dicD, bList, seqD, listD, cel]
  cases S[l]? with
  | none => rfl
  | some c => cases c <;> rfl
@[simp] theorem bListXM_t {ds : List D} : bListXM [.tup ds] S = .ok (.loc S.length) (S ++ [.lst ds]) := rfl
@[simp] theorem bListXM_l {ds : List D} : bListXM [.lst ds] S = .ok (.loc S.length) (S ++ [.lst ds]) := rfl
@[simp] theorem bTuple_c {l : Nat} : bTuple [.loc l] S = match cel S l with | some (.lst ds) => .ok (.tup ds) S | _ => .bad := by
  simp only [bTuple, seqD, listD, cel]
  cases S[l]? with
  | none => rfl
  | some c => cases c <;> rfl
@[simp] theorem bSorted_l {ns : List Int} : bSorted [.lst (ns.map .int)] S = .ok (.lst ((sortI ns).map .int)) S := by simp [bSorted, listD, intsD_map]
@[simp] theorem eLenSet_is {f : EM} : eLenSet f env S = (f env S).bind fun d S => match (seqD S d).bind keysD with | some ks => if few ks.length then .ok (.int (dcnt ks : Nat)) S else .bad | none => .bad := rfl
@[simp] theorem eLenSc_is {f : LM} {b : D → EnvD → Option EnvD} {tt elt : EM} {vs : List Nat} : eLenSc f b tt elt vs env S = (f env S).bindE fun ds S => match scD b tt elt (wipeD env vs) [] ds S with | some (ks, S') => .ok (.int (dcnt ks : Nat)) S' | none => .bad := rfl
@[simp] theorem seqD_l {ds : List D} : seqD S (.lst ds) = some ds := rfl
@[simp] theorem seqD_t {ds : List D} : seqD S (.tup ds) = some ds := rfl
@[simp] theorem rg1_is {f : EM} : rg1 f env S = (f env S).bindL fun d S => match d with | .int n => if rOk n ∧ sz n.toNat then .ok [.int 0, .int n] S else .bad | _ => .bad := rfl
@[simp] theorem rg2_is {f g : EM} : rg2 f g env S = (f env S).bindL fun d S => (g env S).bindL fun d2 S => rg2D d d2 S := rfl
@[simp] theorem rg2D_is : rg2D (.int i) (.int j) S = if rOk i ∧ rOk j ∧ sz (j - i).toNat then .ok [.int i, .int j] S else .bad := rfl
@[simp] theorem eLRg_is {f : LM} : eLRg f env S = (f env S).bindE fun ds S => match ds with | [.int i, .int j] => .ok (.lst (rangeD i (j - i).toNat)) S | _ => .bad := rfl
@[simp] theorem eLRgM_is {f : LM} : eLRgM f env S = (f env S).bindE fun ds S => match ds with | [.int i, .int j] => .ok (.loc S.length) (S ++ [.lst (rangeD i (j - i).toNat)]) | _ => .bad := rfl
@[simp] theorem eTRg_is {f : LM} : eTRg f env S = (f env S).bindE fun ds S => match ds with | [.int i, .int j] => .ok (.tup (rangeD i (j - i).toNat)) S | _ => .bad := rfl
@[simp] theorem eRev_is {f : EM} : eRev f env S = (f env S).bind fun d S => revD S d := rfl
@[simp] theorem revD_t {ds : List D} : revD S (.tup ds) = .ok (.tup ds.reverse) S := rfl
@[simp] theorem revD_l {ds : List D} : revD S (.lst ds) = .ok (.lst ds.reverse) S := rfl
@[simp] theorem opAnd_ii : opAnd (.int i) (.int j) S = .ok (.int (Builtin.bitAnd i j)) S := rfl
@[simp] theorem opOr_ii : opOr (.int i) (.int j) S = .ok (.int (Builtin.bitOr i j)) S := rfl
@[simp] theorem opXor_ii : opXor (.int i) (.int j) S = .ok (.int (Builtin.bitXor i j)) S := rfl
@[simp] theorem opShr_ii : opShr (.int i) (.int j) S = if 0 ≤ j then .ok (.int (i / 2 ^ j.toNat)) S else .bad := rfl
@[simp] theorem opShl_ii : opShl (.int i) (.int j) S = if powOk i j then .ok (.int (i * 2 ^ j.toNat)) S else .bad := rfl
@[simp] theorem opMulX_ii : opMulX (.int i) (.int j) S = if mulOk i j then .ok (.int (i * j)) S else .bad := rfl
@[simp] theorem opMulX_c {l : Nat} : opMulX (.loc l) (.int i) S = match cel S l with | some (.lst ds) => if w63 i ∧ sz (ds.length * i.toNat) then .ok (.lst (List.replicate i.toNat ds).flatten) S else .bad | _ => .bad := rfl
@[simp] theorem w63_is (h : -9223372036854775808 ≤ i) (h2 : i < 9223372036854775808) : w63 i := ⟨by omega, by omega⟩
@[simp] theorem eMeth_is {T : String} {g : D → List D → Store → ER} {o : EM} {f : LM} : eMeth T g o f env S = (o env S).bind fun a S => if tyD T S a then (f env S).bindE fun ds S => g a ds S else .bad := rfl
@[simp] theorem tyD_c {l : Nat} : tyD "list" S (.loc l) = match cel S l with | some (.lst _) => true | _ => false := by
  simp only [tyD, listD, cel]
  cases S[l]? with
  | none => rfl
  | some c => cases c <;> rfl
@[simp] theorem tyD_l {ds : List D} : tyD "list" S (.lst ds) = true := rfl
@[simp] theorem cellL_c {l : Nat} {g : Nat → List D → ER} : cellL S (.loc l) g = match cel S l with | some (.lst ds) => g l ds | _ => .bad := rfl
@[simp] theorem mPopAt_is {o : D} : mPopAt o [.int i] S = cellL S o fun l xs => if w63 i then (match seqIndex? i xs.length with
    | some k => (match xs[k]? with | some d => .ok d (S.set l (.lst (xs.eraseIdx k))) | none => .bad)
    | none => .bad) else .bad := rfl
@[simp] theorem mPop_is {o : D} : mPop o [] S = cellL S o fun l xs => match xs[xs.length - 1]? with | some d => .ok d (S.set l (.lst xs.dropLast)) | none => .bad := rfl
@[simp] theorem mAppend_is {o : D} : mAppend o [d] S = cellL S o fun l xs => if sz (xs.length + 1) then .ok .non (S.set l (.lst (xs ++ [d]))) else .bad := rfl
@[simp] theorem mInsert_is {o : D} : mInsert o [.int i, d] S = cellL S o fun l xs => if sz (xs.length + 1) ∧ 0 ≤ i ∧ w63 i then .ok .non (S.set l (.lst (xs.take i.toNat ++ [d] ++ xs.drop i.toNat))) else .bad := rfl
@[simp] theorem mClear_is {o : D} : mClear o [] S = cellL S o fun l xs => .ok .non (S.set l (.lst [])) := rfl
@[simp] theorem opIn_ll {ds : List D} : opIn d (.lst ds) S = if flatD d && ds.all flatD then .ok (.bl (ds.any fun y => eqF y d)) S else match d.pyO S, (D.lst ds).pyO S with
    | some p, some (.list ps) => if SeqAt.shaped p && SeqAt.shaped (.list ps) then .ok (.bl (ps.any fun z => PyData.eqv z p)) S else .bad
    | some p, some (.tuple ps) => if SeqAt.shaped p && SeqAt.shaped (.tuple ps) then .ok (.bl (ps.any fun z => PyData.eqv z p)) S else .bad
    | _, _ => .bad := rfl
@[simp] theorem opIn_tt {ds : List D} : opIn d (.tup ds) S = if flatD d && ds.all flatD then .ok (.bl (ds.any fun y => eqF y d)) S else match d.pyO S, (D.tup ds).pyO S with
    | some p, some (.list ps) => if SeqAt.shaped p && SeqAt.shaped (.list ps) then .ok (.bl (ps.any fun z => PyData.eqv z p)) S else .bad
    | some p, some (.tuple ps) => if SeqAt.shaped p && SeqAt.shaped (.tuple ps) then .ok (.bl (ps.any fun z => PyData.eqv z p)) S else .bad
    | _, _ => .bad := rfl
@[simp] theorem opNotIn_ll {ds : List D} : opNotIn d (.lst ds) S = if flatD d && ds.all flatD then .ok (.bl (!(ds.any fun y => eqF y d))) S else match d.pyO S, (D.lst ds).pyO S with
    | some p, some (.list ps) => if SeqAt.shaped p && SeqAt.shaped (.list ps) then .ok (.bl (!(ps.any fun z => PyData.eqv z p))) S else .bad
    | some p, some (.tuple ps) => if SeqAt.shaped p && SeqAt.shaped (.tuple ps) then .ok (.bl (!(ps.any fun z => PyData.eqv z p))) S else .bad
    | _, _ => .bad := rfl
@[simp] theorem opNotIn_tt {ds : List D} : opNotIn d (.tup ds) S = if flatD d && ds.all flatD then .ok (.bl (!(ds.any fun y => eqF y d))) S else match d.pyO S, (D.tup ds).pyO S with
    | some p, some (.list ps) => if SeqAt.shaped p && SeqAt.shaped (.list ps) then .ok (.bl (!(ps.any fun z => PyData.eqv z p))) S else .bad
    | some p, some (.tuple ps) => if SeqAt.shaped p && SeqAt.shaped (.tuple ps) then .ok (.bl (!(ps.any fun z => PyData.eqv z p))) S else .bad
    | _, _ => .bad := rfl
@[simp] theorem flatD_int : flatD (.int i) = true := rfl
@[simp] theorem flatD_str {z : Str} : flatD (.str z) = true := rfl
@[simp] theorem flatD_bl {b : Bool} : flatD (.bl b) = true := rfl
@[simp] theorem flatD_non : flatD .non = true := rfl
@[simp] theorem flatD_tup {ds : List D} : flatD (.tup ds) = false := rfl
@[simp] theorem flatD_lst {ds : List D} : flatD (.lst ds) = false := rfl
@[simp] theorem flat_ints (ns : List Int) : (ns.map D.int).all flatD = true := by simp
@[simp] theorem eqF_ii : eqF (.int i) (.int j) = decide (i = j) := by show (i == j) = _; rw [Bool.beq_eq_decide_eq]
@[simp] theorem eqF_ss {a b : Str} : eqF (.str a) (.str b) = decide (a = b) := by show (a == b) = _; rw [Bool.beq_eq_decide_eq]
@[simp] theorem eDic0_is : eDic0 env S = .ok (.dic [] []) S := rfl
@[simp] theorem eDic0M_is : eDic0M env S = .ok (.loc S.length) (S ++ [.dic []]) := rfl
@[simp] theorem sPutX_is {o i f : EM} : sPutX o i f env S = (f env S).bindS env fun d S => (o env S).bindS env fun a S => (i env S).bindS env fun b S => match setX a b d S with | some S' => .nx env S' | none => .bad := rfl
@[simp] theorem setX_ci {l : Nat} : setX (.loc l) (.int i) d S = match cel S l with
  | some (.lst ds) => (putIx i ds d).map fun es => S.set l (.lst es)
  | some (.dic kds) => if sz (kds.length + 1) then some (S.set l (.dic (putD kds (.inl i) d))) else none
  | _ => none := by
  simp only [setX, setD, keyD, cel]
  cases S[l]? with
  | none => rfl
  | some c => cases c <;> rfl
@[simp] theorem setX_cs {l : Nat} {z : Str} : setX (.loc l) (.str z) d S = match cel S l with
  | some (.dic kds) => if sz (kds.length + 1) then some (S.set l (.dic (putD kds (.inr z) d))) else none
  | _ => none := by
  unfold cel
  show (match S[l]? with
    | some (.dic kds) => match keyD (.str z) with
      | some k => if sz (kds.length + 1) then some (S.set l (.dic (putD kds k d))) else none
      | none => none
    | _ => setD (.loc l) (.str z) d S) = _
  generalize S[l]? = o
  rcases o with _ | c
  · rfl
  · cases c <;> rfl
@[simp] theorem tyOf_obj {c ks ds} : tyOf S (.obj c ks ds) = none := rfl
@[simp] theorem tyOf_c {l : Nat} : tyOf S (.loc l) = match cel S l with | some (.lst _) => some .list | some (.dic _) => some .dict | some (.dct _) => some .dict | _ => none := rfl
/-- the way out where only the first cell (the draws) stays -/
theorem exit_draw {c c' : Cell} {T : Store} {d' : D} (h : frzD (resD 1 (c' :: T) 12) d = some d') (hb : c'.bel 1 = true) : exitD .pure [c] d (c' :: T) = .ok d' [c'] := by
  unfold exitD
  have e : frzD (resD [c].length (c' :: T) 12) d = some d' := h
  simp only [e]
  rw [if_pos (.inr (by simp [hb]))]
  rfl
end
end DL
end
section
/-! D-layer, part 11: dicts walked; enumerate and zip of lists and tuples in any mixture. -/
namespace DL
open PySem L2
variable [DL.Nm]
variable {G : Glb} {X : Cx} {W : WX}

/-! ### a dict is locked for good as soon as it is walked -/
def iValsD (f : EM) : LM := fun env S => (f env S).bindL fun d S => match d with
  | .dic _ ds => .ok ds S
  | _ => .bad
def itemsD (ks : List Key) (ds : List D) : List D := (ks.zip ds).map fun p => .tup [dKey p.1, p.2]
def iItemsD (f : EM) : LM := fun env S => (f env S).bindL fun d S => match d with
  | .dic ks ds => .ok (itemsD ks ds) S
  | _ => .bad
section
variable {tg e : Expr} {f : EM} {apos cpos : Pos}
/-- a list, a tuple, or a dict by its keys -/
def iAny (f : EM) : LM := fun env S => (f env S).bindL fun d S => match d with
  | .lst ds => .ok ds S
  | .tup ds => .ok ds S
  | .str x => .ok (signsD x) S
  | .dic ks _ => .ok (ks.map dKey) S
  | _ => .bad
end
end DL
end
section
/-! D-layer, part 12: enumerate and zip over lists and tuples in any mixture. -/
namespace DL
open PySem PySem.Spec PyProof.Rows L2
variable [DL.Nm]
variable {G : Glb} {X : Cx} {W : WX}
def SqG (K : PySem.W.Frag) : Bool → Hp → Addr → List V → Prop
  | false => SqL K
  | true => SqT K
def HasG : Bool → Heap → Addr → Array Value → Prop
  | false => fun h a its => h.IsList a its
  | true => fun h a its => h.IsTuple a its
def IterG : Bool → Heap → Addr → Addr → Nat → Prop
  | false => fun h it a i => h.IsListIter it a i
  | true => fun h it a i => h.IsTupleIter it a i
def begO : Bool → Addr → Obj
  | false => fun a => { cls := .type "list_iterator", data := .fields #[.ref a, .int 0 0] }
  | true => fun a => { cls := .type "tuple_iterator", data := .fields #[.ref a, .int 0 0] }
theorem begO_at : ∀ (t : Bool) {h : Heap} {it a : Addr}, h.get? it = some (begO t a) → IterG t h it a 0
  | false, _, _, _, e => ⟨_, e, rfl, rfl⟩
  | true, _, _, _, e => ⟨_, e, rfl, rfl⟩
theorem beginsG : ∀ (t : Bool) (a : Addr) (its : Array Value), Begins (.ref a) (begO t a) fun h => HasG t h a its
  | false, a, its => begins_list a its
  | true, a, its => begins_tuple a its
theorem drawsG {prog : Program} {w : World} {A : Around} (hh : A.handled = none) : ∀ (t : Bool) (it a : Addr) (hne : a ≠ it) (its : Array Value), Draws prog w A it [it, a] its.size (fun i v => its[i]? = some v) (fun i h => IterG t h it a i ∧ HasG t h a its)
  | false, it, a, hne, its => Draws.list hh it a hne its
  | true, it, a, hne, its => Draws.tuple hh it a hne its
theorem IterG.at : ∀ {t : Bool} {h h' : Heap} {it a : Addr} {i : Nat}, IterG t h it a i → (∀ o, h.get? it = some o → h'.get? it = some o) → IterG t h' it a i
  | false, _, _, _, _, _, st, k => Heap.IsListIter.at st k
  | true, _, _, _, _, _, st, k => let ⟨o, e, r⟩ := st; ⟨o, k o e, r⟩
theorem IterG.obj : ∀ {t : Bool} {h : Heap} {it a : Addr} {i : Nat}, IterG t h it a i → ∃ o, h.get? it = some o ∧ ∀ v, o.data ≠ .cell v
  | false, _, _, _, _, ⟨o, e, _, d⟩ => ⟨o, e, fun v q => by rw [d] at q; cases q⟩
  | true, _, _, _, _, ⟨o, e, _, d⟩ => ⟨o, e, fun v q => by rw [d] at q; cases q⟩
theorem HasG.cls : ∀ {t : Bool} {h : Heap} {a : Addr} {its : Array Value}, HasG t h a its → ∃ o, h.get? a = some o ∧ o.cls = .type (if t then "tuple" else "list")
  | false, _, _, _, p => let ⟨o, e, c, _⟩ := p; ⟨o, e, c⟩
  | true, _, _, _, p => let ⟨o, e, c, _⟩ := p; ⟨o, e, c⟩
theorem IterG.cls : ∀ {t : Bool} {h : Heap} {it a : Addr} {i : Nat}, IterG t h it a i → ∃ o, h.get? it = some o ∧ o.cls = .type (if t then "tuple_iterator" else "list_iterator")
  | false, _, _, _, _, p => let ⟨o, e, c, _⟩ := p; ⟨o, e, c⟩
  | true, _, _, _, _, p => let ⟨o, e, c, _⟩ := p; ⟨o, e, c⟩
theorem HasG.ne_cls {t : Bool} {h : Heap} {a b : Addr} {its : Array Value} (p : HasG t h a its) {o : Obj} {n : String} (e : h.get? b = some o) (c : o.cls = .type n) (h1 : n ≠ "tuple") (h2 : n ≠ "list") : a ≠ b := fun z => by
  subst z
  obtain ⟨o', e', c'⟩ := p.cls
  rw [e] at e'; cases e'
  rw [c] at c'
  have q := Value.type.inj c'
  cases t
  · exact h2 q
  · exact h1 q
theorem HasG.ne_it {t t' : Bool} {h : Heap} {a it a' : Addr} {i : Nat} {its : Array Value} (p : HasG t h a its) (q : IterG t' h it a' i) : a ≠ it := by
  obtain ⟨o, e, c⟩ := q.cls
  cases t'
  · exact p.ne_cls e c (by decide) (by decide)
  · exact p.ne_cls e c (by decide) (by decide)
theorem HasG.apart {t : Bool} {h : Heap} {a e it : Addr} {i : Nat} {j : Int} {old : Value} {its : Array Value} (p : HasG t h a its) (he : IsEnum h e it j old) (q : IterG t h it a i) : a ≠ e ∧ a ≠ it :=
  ⟨p.ne_cls he rfl (by decide) (by decide), p.ne_it q⟩
section
variable {pins : List (Addr × Obj)} {σ : L2.St} {H : Hp} {s : Shared} {a : Addr} {xs : List V}
theorem seqG (I : Inv X pins σ H s) : ∀ {t : Bool}, SqG X.K t H a xs → ∃ its : List Value, Vals xs its ∧ HasG t s.heap a its.toArray ∧ a < s.heap.objs.size
  | false, h => let ⟨its, r, p, _⟩ := I.list h; ⟨its, r, p.isList, p.lt⟩
  | true, h => let ⟨its, r, p, _⟩ := I.tuple h; ⟨its, r, p, by obtain ⟨_, q, _⟩ := p; exact Heap.lt_size q⟩
theorem seqG_inj (I : Inv X pins σ H s) {ys : List V} : ∀ {t : Bool}, SqG X.K t H a xs → SqG X.K t H a ys → xs = ys
  | false, h, h' => I.list_inj h h'
  | true, h, h' => I.tuple_inj h h'
end
/-! ### enumerate -/
def IteG (K : PySem.W.Frag) (t : Bool) (a : Addr) : It :=
  ⟨fun i H => ∃ (xs : List V) (x : V), SqG K t H a xs ∧ xs[i]? = some x, fun i H v H' => ∃ T x, v = .ref T ∧ H T = none ∧ H' = upd H T (.tup [.int (i : Nat), x]) ∧ ∀ xs, SqG K t H a xs → xs[i]? = some x, fun i H => ∃ xs : List V, SqG K t H a xs ∧ xs.length = i⟩
theorem turn_enumG {P : Program} {w : World} {K : PySem.W.Frag} {elts : List Expr} {kk : Nat} {tpos : Pos} (t : Bool) (a e it : Addr) :
    Turn P w K (.Tuple elts kk tpos) (IteG K t a) [e, it] e (fun i h => (∃ old, IsEnum h e it ((i : Nat) : Int) old) ∧ IterG t h it a i ∧ e ≠ it) where
  mem := by simp
  obj := fun i h st b hb => by
    obtain ⟨⟨old, he⟩, hi, _⟩ := st
    have e' : b = e ∨ b = it := by simpa using hb
    rcases e' with z | z
    · rw [z]; exact ⟨_, he, fun v q => nomatch q⟩
    · rw [z]; exact hi.obj
  keep := fun i h h' st k => let ⟨⟨old, he⟩, hi, hne⟩ := st; ⟨⟨old, k e (by simp) _ he⟩, hi.at fun o q => k it (by simp) o q, hne⟩
  item := by
    intro X hP hw hK hc i pins s σ H E I hf st hg
    subst hP hw hK
    obtain ⟨⟨old, he⟩, hit, hne⟩ := st
    obtain ⟨xs, x, hq, hx⟩ := hg
    obtain ⟨its, rv, p, hl⟩ := seqG I hq
    obtain ⟨u, hu, ru⟩ := rv.get hx
    have hel : e < s.heap.objs.size := Heap.lt_size he
    have hil : it < s.heap.objs.size := by obtain ⟨_, q, _⟩ := hit.obj; exact Heap.lt_size q
    have hab : a ≠ e ∧ a ≠ it := p.apart he hit
    have hi : i < its.toArray.size := by
      have := (List.getElem?_eq_some_iff.mp hu).1
      simpa using this
    have D := drawsG (prog := X.prog) (w := X.w) (A := X.A.in1) (I.ok.hd hc) t it a hab.2 its.toArray
    refine wpAny_pyNext_enum_itemD D he ⟨hit, p⟩ hi hne (fun z => by
      have z' : e = it ∨ e = a := by simpa using z
      exact z'.elim hne fun z => hab.1 z.symm) fun x' h' tk hPx ho hst' hT hsz hk => ?_
    have ex : x' = u := by
      have q : its.toArray[i]? = some u := by simpa using hu
      rw [q] at hPx; exact (Option.some.inj hPx).symm
    subst ex
    refine ⟨_, rfl, wpAny_letOwnedTupleGo_enum (s := { s with heap := h', toks := tk + 1 }) ho fun h'' he' sb => ?_⟩
    have hT2 : h''.get? s.heap.objs.size = some { cls := .type "tuple", data := .seq #[.int i tk, x'] } := (sb.2 _ (Nat.ne_of_gt hel)).trans hT
    have new : ObjOk X.prog X.w (upd H s.heap.objs.size (.tup [.int (i : Nat), x])) h'' s.heap.objs.size (.tup [.int (i : Nat), x]) :=
      ⟨by show 2 ≤ sizeLine; decide, [.int i tk, x'], .cons ⟨_, rfl⟩ (.cons ru .nil), ⟨_, hT2, rfl, _, rfl⟩⟩
    have I1 : Inv X pins σ (upd H s.heap.objs.size (.tup [.int (i : Nat), x])) { s with heap := h'', toks := tk + 1 } :=
      I.turnedNew (ch := [e, it]) (fun b ob hb q => (sb.2 b (fun z => hb (by simp [z]))).trans (hk b ob (fun z => hb (by simp [z])) (fun z => hb (by simp [z])) q)) hf (Nat.le_refl _) new
    refine ⟨.ref s.heap.objs.size, _, I1, rfl, ⟨_, x, rfl, I.hok.fresh (Nat.le_refl _), rfl, fun ys hy => by rw [seqG_inj I hy hq]; exact hx⟩, ⟨⟨x', ?_⟩, hst'.1.at fun o q => (sb.2 it (Ne.symm hne)).trans q, hne⟩, fun b hb => ?_⟩
    · have e1 : ((i + 1 : Nat) : Int) = (i : Int) + 1 := by omega
      rw [e1]; exact he'
    · have hb' : b < s.heap.objs.size := by
        have e' : b = e ∨ b = it := by simpa using hb
        rcases e' with z | z
        · rw [z]; exact hel
        · rw [z]; exact hil
      rw [upd_ne (Nat.ne_of_lt hb')]
      exact (hf b hb).1
  done := by
    intro X hP hw hK hc i pins s σ H E I hf st hg
    subst hP hw hK
    obtain ⟨⟨old, he⟩, hit, hne⟩ := st
    obtain ⟨xs, hq, hx⟩ := hg
    obtain ⟨its, rv, p, hl⟩ := seqG I hq
    obtain ⟨f0, f1, f2, f3, f4, f5⟩ := hf it (by simp)
    have hl := rv.length
    have hab : a ≠ e ∧ a ≠ it := p.apart he hit
    have D := drawsG (prog := X.prog) (w := X.w) (A := X.A.in1) (I.ok.hd hc) t it a hab.2 its.toArray
    have ei : i = its.toArray.size := by simp; omega
    subst ei
    exact wpAny_pyNext_enum_endD D he ⟨hit, p⟩ fun h' eb => ⟨rfl, I.turned (t' := s.toks) (fun b o hb q => eb b o hb q) f0 f1 f3 f4 f5⟩
  self := fun A i s Q E st h => let ⟨⟨_, he⟩, _⟩ := st; wpAny_pyIter_enum he h
/-! ### the call of enumerate -/
theorem meets_enumerate_new1 {v : Value} {o : Obj} {H : Heap → Prop} (B : Begins v o H) :
    Meets (Builtin.«enumerate.__new__» ⟨[.type "enumerate", v], []⟩) (fun _ R s => H s.heap ∧
      R (.ok (.ret (.ref (s.heap.push o).objs.size))) { s with heap := (s.heap.push o).push { cls := .type "enumerate", data := .fields #[.none, .bool false, .ref s.heap.objs.size, rawInt 0, .none, .none] } }) :=
  .of_wp fun prog w A R s h => by
    obtain ⟨hp, g, d, tk, os⟩ := s; obtain ⟨h1, h⟩ := h
    have hsub := sub_enumerate
    have q1 : ∀ {A' : Around} {E : Value → Shared → Prop} {Q : Value → Shared → Prop}, Q (.ref hp.objs.size) ⟨hp.push o, g, d, tk, os⟩ → wpAny (model prog w) A' (pyIter v) Q E ⟨hp, g, d, tk, os⟩ :=
      fun q => B.iter prog w _ _ ⟨hp, g, d, tk, os⟩ _ h1 q
    wp_walk using q1
    refine wpAny_stack_any fun st => wpAny_pure ?_
    split
    · rename_i c _ _ _ _ _
      cases (c == Value.type "enumerate")
      · wp_walk using q1
        exact ⟨_, rfl, h⟩
      · wp_walk using q1
        exact ⟨_, rfl, h⟩
    · wp_walk using q1
      exact ⟨_, rfl, h⟩
theorem enum_begins1 {prog : Program} {w : World} {A : Around} {E : Value → Shared → Prop} {s : Shared} {v : Value} {o : Obj} {H : Heap → Prop} {Q : Value → Shared → Prop} (B : Begins v o H) (h1 : H s.heap)
    (h : ∀ h', IsEnum h' (s.heap.objs.size + 1) s.heap.objs.size 0 .none → h'.get? s.heap.objs.size = some o → h'.objs.size = s.heap.objs.size + 2 →
      (∀ b o, s.heap.get? b = some o → h'.get? b = some o) → Q (.ref (s.heap.objs.size + 1)) { s with heap := h' }) :
    wpAny (model prog w) A (call (.type "enumerate") [v]) Q E s := by
  refine callType_new F.called_enumerate (by decide) (F.typeCall_enumerate_1 _) (F.newCall_enumerate_1 _) (fun obj => F.args_object_init_2 obj _) F.entry_enumerate_new
    (meets_enumerate_new1 B) ⟨h1, ?_⟩
  have hz : (s.heap.push o).objs.size = s.heap.objs.size + 1 := Heap.size_push ..
  show _ ∧ _
  rw [hz]
  have he : IsEnum ((s.heap.push o).push { cls := .type "enumerate", data := .fields #[.none, .bool false, .ref s.heap.objs.size, rawInt 0, .none, .none] }) (s.heap.objs.size + 1) s.heap.objs.size 0 .none := by
    have := Heap.get?_push_size (s.heap.push o) (o := { cls := .type "enumerate", data := .fields #[.none, .bool false, .ref s.heap.objs.size, rawInt 0, .none, .none] }) rfl
    rw [hz] at this; exact this
  refine ⟨⟨_, he, rfl⟩, h _ he (Heap.get?_push_of_some _ (Heap.get?_push_size _ B.free)) (by rw [Heap.size_push, hz]) fun b o x => Heap.get?_push_of_some _ (Heap.get?_push_of_some _ x)⟩
def iEnumG (K : PySem.W.Frag) (ta : TA) : TI := fun σ H R => ta σ H fun vs H1 => ∃ t a xs, vs = [.ref a] ∧ SqG K t H1 a xs ∧ R (IteG K t a) H1
theorem pi_enumG {e : Expr} {ta : TA} {p pos tpos : Pos} {elts : List Expr} {kk : Nat} (hg : Gl X "enumerate") (hm : X.mg "enumerate" = none) (ha : PA X [e] ta) (hs : starEach [e] X.env = [(false, eval e X.env)] := by rfl) :
    PI X (.Tuple elts kk tpos) (.Call (.Name "enumerate" p) [e] [] pos) (iEnumG X.K ta) := by
  refine ⟨fun pins s σ H R I h => ?_⟩
  refine Call_ (ld_blt I hg hm boot_enumerate (PyProof.Rows.callWith_type1 (thn (ha.run pos pins s σ H _ I h) fun us s1 ⟨vs, H1, I1, r1, q1⟩ => ?_) hs rfl))
  obtain ⟨t, a, xs, ex, hq, q⟩ := q1
  subst ex
  cases r1 with
  | cons r rr =>
    cases rr
    cases r
    obtain ⟨its, rv, p', hz⟩ := seqG I1 hq
    refine enum_begins1 (beginsG t a its.toArray) p' fun h' he hit hsz hk => wpAny_pyIter_enum he ?_
    have I2 : Inv X pins σ H1 { s1 with heap := h' } := I1.kept (t' := s1.toks) hk
    refine ⟨s1.heap.objs.size + 1, [s1.heap.objs.size + 1, s1.heap.objs.size], _, _, H1, rfl, I2, turn_enumG t a (s1.heap.objs.size + 1) s1.heap.objs.size, ⟨⟨.none, he⟩, begO_at t hit, Nat.succ_ne_self _⟩, fun b hb => ?_, q⟩
    have e' : b = s1.heap.objs.size + 1 ∨ b = s1.heap.objs.size := by simpa using hb
    have hle : s1.heap.objs.size ≤ b := by
      rcases e' with z | z
      · rw [z]; exact Nat.le_add_right _ _
      · rw [z]; exact Nat.le_refl _
    exact I1.fpOk hle (I1.hok.fresh hle)
/-! ### zip of 2 -/
def Itz2G (K : PySem.W.Frag) (t1 t2 : Bool) (a1 a2 : Addr) : It :=
  ⟨fun i H => ∃ (xs1 xs2 : List V) (x1 x2 : V), SqG K t1 H a1 xs1 ∧ xs1[i]? = some x1 ∧ SqG K t2 H a2 xs2 ∧ xs2[i]? = some x2,
    fun i H v H' => ∃ T x1 x2, v = .ref T ∧ H T = none ∧ H' = upd H T (.tup [x1, x2]) ∧ (∀ xs, SqG K t1 H a1 xs → xs[i]? = some x1) ∧ (∀ xs, SqG K t2 H a2 xs → xs[i]? = some x2),
    fun i H => ∃ xs1 xs2 : List V, SqG K t1 H a1 xs1 ∧ i ≤ xs1.length ∧ SqG K t2 H a2 xs2 ∧ i ≤ xs2.length ∧ (i = xs1.length ∨ i = xs2.length)⟩
theorem turn_zip2G {P : Program} {w : World} {K : PySem.W.Frag} {elts : List Expr} {kk : Nat} {tpos : Pos} {t1 t2 : Bool} {a1 a2 z TI TO i1 i2 : Addr} (D : ZipSep2 z TI TO i1 i2 [i1, a1] [i2, a2]) :
    Turn P w K (.Tuple elts kk tpos) (Itz2G K t1 t2 a1 a2) [z, TI, TO, i1, i2] z (fun i h => IsZip h z TI TO .none ∧ IsTupOf2 h TI (.ref i1) (.ref i2) ∧ (∃ x1 x2, IsTupOf2 h TO x1 x2) ∧ IterG t1 h i1 a1 i ∧ IterG t2 h i2 a2 i) where
  mem := by simp
  obj := fun i h st c hc => by
    obtain ⟨hz, hTI, ⟨x1, x2, hTO⟩, h1, h2⟩ := st
    have e' : c = z ∨ c = TI ∨ c = TO ∨ c = i1 ∨ c = i2 := by simpa using hc
    rcases e' with q | q | q | q | q
    · rw [q]; exact ⟨_, hz, fun v q => nomatch q⟩
    · rw [q]; exact ⟨_, hTI, fun v q => nomatch q⟩
    · rw [q]; exact ⟨_, hTO, fun v q => nomatch q⟩
    · rw [q]; exact h1.obj
    · rw [q]; exact h2.obj
  keep := fun i h h' st k => by
    obtain ⟨hz, hTI, ⟨x1, x2, hTO⟩, h1, h2⟩ := st
    exact ⟨k z (by simp) _ hz, k TI (by simp) _ hTI, ⟨x1, x2, k TO (by simp) _ hTO⟩, h1.at fun o q => k i1 (by simp) o q, h2.at fun o q => k i2 (by simp) o q⟩
  item := by
    intro X hP hw hK hc i pins s σ H E I hf st hg
    subst hP hw hK
    obtain ⟨hz, hTI, ⟨y1, y2, hTO⟩, h1, h2⟩ := st
    obtain ⟨xs1, xs2, x1, x2, q1, g1, q2, g2⟩ := hg
    obtain ⟨its1, rv1, p1, _⟩ := seqG I q1
    obtain ⟨u1, hu1, ru1⟩ := rv1.get g1
    have l1 : i < its1.toArray.size := by simpa using (List.getElem?_eq_some_iff.mp hu1).1
    have D1 := drawsG (prog := X.prog) (w := X.w) (A := X.A.in1) (I.ok.hd hc) t1 i1 a1 (p1.ne_it h1) its1.toArray
    obtain ⟨its2, rv2, p2, _⟩ := seqG I q2
    obtain ⟨u2, hu2, ru2⟩ := rv2.get g2
    have l2 : i < its2.toArray.size := by simpa using (List.getElem?_eq_some_iff.mp hu2).1
    have D2 := drawsG (prog := X.prog) (w := X.w) (A := X.A.in1) (I.ok.hd hc) t2 i2 a2 (p2.ne_it h2) its2.toArray
    have lt : ∀ {c o}, s.heap.get? c = some o → s.heap.objs.size ≠ c := fun e => Nat.ne_of_gt (Heap.lt_size e)
    refine wpAny_pyNext_zipD2_item D D1 D2 hz hTI hTO ⟨h1, p1⟩ ⟨h2, p2⟩ l1 l2 fun v1 v2 h' tk w1 w2 b1 b2 d1 d2 b5 b6 hk => ?_
    have ex1 : v1 = u1 := by
      have q : its1.toArray[i]? = some u1 := by simpa using hu1
      rw [q] at w1; exact (Option.some.inj w1).symm
    subst ex1
    have ex2 : v2 = u2 := by
      have q : its2.toArray[i]? = some u2 := by simpa using hu2
      rw [q] at w2; exact (Option.some.inj w2).symm
    subst ex2
    refine ⟨_, rfl, wpAny_letOwnedTupleGo_zip (s := { s with heap := h', toks := tk }) b1 fun h'' z'' sb => ?_⟩
    have hzl : z < s.heap.objs.size := Heap.lt_size hz
    have hT2 : h''.get? s.heap.objs.size = some { cls := .type "tuple", data := .seq #[v1, v2] } := (sb.2 _ (Nat.ne_of_gt hzl)).trans b5
    have new : ObjOk X.prog X.w (upd H s.heap.objs.size (.tup [x1, x2])) h'' s.heap.objs.size (.tup [x1, x2]) :=
      ⟨by show 2 ≤ sizeLine; decide, [v1, v2], .cons ru1 (.cons ru2 (.nil)), ⟨_, hT2, rfl, _, rfl⟩⟩
    have I1 : Inv X pins σ (upd H s.heap.objs.size (.tup [x1, x2])) { s with heap := h'', toks := tk } :=
      I.turnedNew (ch := [z, TI, TO, i1, i2]) (fun c o hb q => (sb.2 c (fun q' => hb (by simp [q']))).trans (hk c o (fun q' => hb (by simp [q'])) (fun q' => hb (by simp [q'])) (fun q' => hb (by simp [q'])) (fun q' => hb (by simp [q'])) q)) hf (Nat.le_refl _) new
    refine ⟨.ref s.heap.objs.size, _, I1, rfl, ⟨_, x1, x2, rfl, I.hok.fresh (Nat.le_refl _), rfl, fun l hl => by rw [seqG_inj I hl q1]; exact g1, fun l hl => by rw [seqG_inj I hl q2]; exact g2⟩, ⟨z'', ?_, ⟨v1, v2, ?_⟩, d1.1.at fun o q => (sb.2 _ (Ne.symm D.zi1)).trans q, d2.1.at fun o q => (sb.2 _ (Ne.symm D.zi2)).trans q⟩, fun c hcm => ?_⟩
    · exact (sb.2 _ D.TIz).trans (hk _ _ D.TIz D.TITO D.TIi1 D.TIi2 hTI)
    · exact (sb.2 _ D.TOz).trans b2
    · have hlt : c < s.heap.objs.size := by
        have e' : c = z ∨ c = TI ∨ c = TO ∨ c = i1 ∨ c = i2 := by simpa using hcm
        rcases e' with q | q | q | q | q
        · rw [q]; exact hzl
        · rw [q]; exact Heap.lt_size hTI
        · rw [q]; exact Heap.lt_size hTO
        · rw [q]; obtain ⟨_, e1, _⟩ := h1.obj; exact Heap.lt_size e1
        · rw [q]; obtain ⟨_, e1, _⟩ := h2.obj; exact Heap.lt_size e1
      rw [upd_ne (Nat.ne_of_lt hlt)]
      exact (hf c hcm).1
  done := by
    intro X hP hw hK hc i pins s σ H E I hf st hg
    subst hP hw hK
    obtain ⟨hz, hTI, ⟨y1, y2, hTO⟩, h1, h2⟩ := st
    obtain ⟨xs1, xs2, q1, g1, q2, g2, ge⟩ := hg
    obtain ⟨its1, rv1, p1, _⟩ := seqG I q1
    have l1 := rv1.length
    have D1 := drawsG (prog := X.prog) (w := X.w) (A := X.A.in1) (I.ok.hd hc) t1 i1 a1 (p1.ne_it h1) its1.toArray
    obtain ⟨its2, rv2, p2, _⟩ := seqG I q2
    have l2 := rv2.length
    have D2 := drawsG (prog := X.prog) (w := X.w) (A := X.A.in1) (I.ok.hd hc) t2 i2 a2 (p2.ne_it h2) its2.toArray
    exact wpAny_pyNext_zipD2_end D D1 D2 hz hTI hTO ⟨h1, p1⟩ ⟨h2, p2⟩ (by simp; omega) (by simp; omega) (by simp; omega) fun h' tk hk => ⟨rfl, I.turnedL (t' := tk) (ch := [z, TI, TO, i1, i2]) (fun c o hb q =>
      hk c o (fun q' => hb (by simp [q'])) (fun q' => hb (by simp [q'])) (fun q' => hb (by simp [q'])) (fun q' => hb (by simp [q'])) q) hf⟩
  self := fun A i s Q E st h => wpAny_pyIter_zip st.1 h
def iZip2G (K : PySem.W.Frag) (ta : TA) : TI := fun σ H R => ta σ H fun vs H1 => ∃ t1 t2 a1 a2 xs1 xs2, vs = [.ref a1, .ref a2] ∧ SqG K t1 H1 a1 xs1 ∧ SqG K t2 H1 a2 xs2 ∧ R (Itz2G K t1 t2 a1 a2) H1
theorem pi_zip2G {e1 e2 : Expr} {ta : TA} {p pos tpos : Pos} {elts : List Expr} {kk : Nat} (hg : Gl X "zip") (hm : X.mg "zip" = none) (ha : PA X [e1, e2] ta)
    (hs : starEach [e1, e2] X.env = (false, eval e1 X.env) :: starEach [e2] X.env := by rfl) (hpl : (backTo pos (starEach [e2] X.env)).any (·.1) = false := by rfl) :
    PI X (.Tuple elts kk tpos) (.Call (.Name "zip" p) [e1, e2] [] pos) (iZip2G X.K ta) := by
  refine ⟨fun pins s σ H R I h => ?_⟩
  refine Call_ (ld_blt I hg hm PyProof.Rows.boot_zip (PyProof.Rows.callWith_type1 (thn (ha.run pos pins s σ H _ I h) fun us s1 ⟨vs, H1, I1, r1, q1⟩ => ?_) hs hpl))
  obtain ⟨t1, t2, a1, a2, xs1, xs2, ex, q1, q2, q⟩ := q1
  subst ex
  obtain ⟨u1, u2, rfl, r1, r2⟩ : ∃ u1 u2, us = [u1, u2] ∧ RelV (.ref a1) u1 ∧ RelV (.ref a2) u2 := by
    cases r1 with
    | cons r rr =>
      cases rr with
      | cons r' rr =>
        cases rr; exact ⟨_, _, rfl, r, r'⟩
  cases r1
  cases r2
  obtain ⟨its1, rv1, p1, m1⟩ := seqG I1 q1
  obtain ⟨its2, rv2, p2, m2⟩ := seqG I1 q2
  refine zip_begins2 (beginsG t1 a1 its1.toArray) (beginsG t2 a2 its2.toArray) p1 p2 fun h' hz hTI hTO h1 h2 hsz hk => wpAny_pyIter_zip hz ?_
  have I2 : Inv X pins σ H1 { s1 with heap := h' } := I1.kept (t' := s1.toks) hk
  refine ⟨s1.heap.objs.size + 4, [s1.heap.objs.size + 4, s1.heap.objs.size + 2, s1.heap.objs.size + 3, s1.heap.objs.size, s1.heap.objs.size + 1], _, _, H1, rfl, I2, turn_zip2G (t1 := t1) (zip_sep2 (N := s1.heap.objs.size) (fp1 := [a1]) (fun b hb => by simp at hb; subst hb; exact m1) (fp2 := [a2]) (fun b hb => by simp at hb; subst hb; exact m2)), ⟨hz, hTI, ⟨_, _, hTO⟩, begO_at t1 h1, begO_at t2 h2⟩, fun c hcm => ?_, q⟩
  have hle : s1.heap.objs.size ≤ c := by
    simp at hcm
    show (s1.heap.objs.size : Nat) ≤ (c : Nat)
    rcases hcm with z | z | z | z | z <;> rw [z] <;> first | exact Nat.le_refl _ | exact Nat.le_add_right _ _
  exact I1.fpOk hle (I1.hok.fresh hle)
/-! ### zip of 3 -/
/-! ### as data -/
def RdG (G : Glb) (φ : Fi) (H : Hp) : Bool → Addr → List V → Prop
  | false => RdL G φ H
  | true => RdT G φ H
theorem RdG.kept {φ φ' : Fi} {H H' : Hp} (k : Kept φ H φ' H') : ∀ {t : Bool} {a : Addr} {xs : List V}, RdG G φ H t a xs → RdG G φ' H' t a xs
  | false, _, _, h => RdL.kept k h
  | true, _, _, h => RdT.kept k h
theorem RdG.seq {φ : Fi} {H : Hp} : ∀ {t : Bool} {a : Addr} {xs : List V}, RdG G φ H t a xs → SqG G.K t H a xs
  | false, _, _, h => RdL.seq h
  | true, _, _, h => RdT.seq h
/-- the items of a list or a tuple -/
def seqO (d : D) : Option (List D) := match d with
  | .lst ds => some ds
  | .tup ds => some ds
  | _ => none
@[simp] theorem seqO_lst {ds : List D} : seqO (.lst ds) = some ds := rfl
@[simp] theorem seqO_tup {ds : List D} : seqO (.tup ds) = some ds := rfl
theorem seqO_is {φ : Fi} {H : Hp} {d : D} {ds : List D} {v : V} (i : Is G φ H d v) (h : seqO d = some ds) : ∃ t a xs, v = .ref a ∧ RdG G φ H t a xs ∧ IsL G φ H ds xs := by
  cases d with
  | lst es => cases h; obtain ⟨a, xs, e, r, q⟩ := i; exact ⟨false, a, xs, e, r, q⟩
  | tup es => cases h; obtain ⟨a, xs, e, r, q⟩ := i; exact ⟨true, a, xs, e, r, q⟩
  | _ => cases h
theorem feeds_enumG {φ : Fi} {H : Hp} {t : Bool} {a : Addr} {xs : List V} {ds : List D} (r : RdG G φ H t a xs) (q : IsL G φ H ds xs) : Feeds G φ H (IteG G.K t a) (enumD 0 ds) := by
  refine ⟨fun φ2 S2 H2 i d e s hd => ?_, fun φ2 S2 H2 e s => ⟨xs, (r.kept e).seq, by rw [enumD_length, q.length]⟩⟩
  obtain ⟨d1, hd1, rfl⟩ := enumD_get 0 ds i d hd
  obtain ⟨x, hx, k⟩ := q.get hd1
  refine ⟨⟨xs, x, (r.kept e).seq, hx⟩, fun y H3 ⟨T, x', e3, hT, e4, hy⟩ => ?_⟩
  subst e3 e4
  have z := hy xs (r.kept e).seq
  rw [hx] at z; cases z
  refine ⟨.laid hT, s.laid hT, T, _, rfl, .inl ⟨s.fresh hT, .inl upd_same⟩, ?_⟩
  refine .cons ?_ (.one ((k.kept e).ext (.laid hT)))
  show V.int _ = V.int _
  rw [Nat.zero_add]
def iEnumX (f : LM) : LM := fun env S => (f env S).bind fun ds S => match ds with
  | [d] => match seqO d with
    | some ds => .ok (enumD 0 ds) S
    | none => .bad
  | _ => .bad
theorem di_enumX {e : Expr} {p pos tpos : Pos} {elts : List Expr} {kk : Nat} {f : LM} (hK : X.K = G.K) (hg : Gl X "enumerate") (hm : X.mg "enumerate" = none) (ha : DA G X W [e] f) (hs : starEach [e] X.env = [(false, eval e X.env)] := by rfl) : DI G X W (.Tuple elts kk tpos) (.Call (.Name "enumerate" p) [e] [] pos) (iEnumX f) := by
  obtain ⟨t, pt, q⟩ := ha
  refine ⟨_, pi_enumG hg hm pt hs, fun σ H env φ S R s re h => ?_⟩
  refine q σ H env φ S _ s re (PostL.toI h fun ds S1 φ1 H1 vs e1 s1 i1 h1 => ?_)
  split at h1
  · split at h1
    · rename_i d _ ds g1
      obtain ⟨x, rfl, k⟩ := IsL.inv1 i1
      obtain ⟨t, a, xs, rfl, rd, il⟩ := seqO_is k g1
      refine ⟨t, a, xs, rfl, by rw [hK]; exact rd.seq, ?_⟩
      rw [hK]
      exact h1 φ1 H1 _ .refl s1 (feeds_enumG rd il)
    · exact False.elim h1
  · exact False.elim h1
theorem feeds_zip2G {φ : Fi} {H : Hp} {t1 t2 : Bool} {a1 a2 : Addr} {xs1 xs2 : List V} {ds1 ds2 : List D} (r1 : RdG G φ H t1 a1 xs1) (q1 : IsL G φ H ds1 xs1) (r2 : RdG G φ H t2 a2 xs2) (q2 : IsL G φ H ds2 xs2) : Feeds G φ H (Itz2G G.K t1 t2 a1 a2) (zipD ds1 ds2) := by
  have l1 := q1.length
  have l2 := q2.length
  refine ⟨fun φ2 S2 H2 i d e s hd => ?_, fun φ2 S2 H2 e s => ⟨xs1, xs2, (r1.kept e).seq, by rw [zipD_length]; omega, (r2.kept e).seq, by rw [zipD_length]; omega, by rw [zipD_length]; omega⟩⟩
  obtain ⟨d1, d2, hd1, hd2, rfl⟩ := zipD_get ds1 ds2 i d hd
  obtain ⟨x1, hx1, k1⟩ := q1.get hd1
  obtain ⟨x2, hx2, k2⟩ := q2.get hd2
  refine ⟨⟨xs1, xs2, x1, x2, (r1.kept e).seq, hx1, (r2.kept e).seq, hx2⟩, fun v H3 ⟨T, y1, y2, e3, hT, e4, h1, h2⟩ => ?_⟩
  subst e3 e4
  have z := h1 xs1 (r1.kept e).seq
  rw [hx1] at z; cases z
  have z := h2 xs2 (r2.kept e).seq
  rw [hx2] at z; cases z
  exact ⟨.laid hT, s.laid hT, T, _, rfl, .inl ⟨s.fresh hT, .inl upd_same⟩, .cons ((k1.kept e).ext (.laid hT)) (.one ((k2.kept e).ext (.laid hT)))⟩
def iZip2X (f : LM) : LM := fun env S => (f env S).bind fun ds S => match ds with
  | [d1, d2] => match seqO d1, seqO d2 with
    | some ds1, some ds2 => .ok (zipD ds1 ds2) S
    | _, _ => .bad
  | _ => .bad
theorem di_zip2X {e1 e2 : Expr} {p pos tpos : Pos} {elts : List Expr} {kk : Nat} {f : LM} (hK : X.K = G.K) (hg : Gl X "zip") (hm : X.mg "zip" = none) (ha : DA G X W [e1, e2] f)
    (hs : starEach [e1, e2] X.env = (false, eval e1 X.env) :: starEach [e2] X.env := by rfl) (hpl : (backTo pos (starEach [e2] X.env)).any (·.1) = false := by rfl) : DI G X W (.Tuple elts kk tpos) (.Call (.Name "zip" p) [e1, e2] [] pos) (iZip2X f) := by
  obtain ⟨t, pt, q⟩ := ha
  refine ⟨_, pi_zip2G hg hm pt hs hpl, fun σ H env φ S R s re h => ?_⟩
  refine q σ H env φ S _ s re (PostL.toI h fun ds S1 φ1 H1 vs e1 s1 i1 h1 => ?_)
  split at h1
  · split at h1
    · rename_i d1 d2 _ _ _ ds1 ds2 g1 g2
      obtain ⟨v1, r1, rfl, j1, i1⟩ := i1
      obtain ⟨v2, r2, rfl, j2, i1⟩ := i1
      cases (show _ = [] from i1)
      obtain ⟨t1, a1, xs1, rfl, rd1, il1⟩ := seqO_is j1 g1
      obtain ⟨t2, a2, xs2, rfl, rd2, il2⟩ := seqO_is j2 g2
      refine ⟨t1, t2, a1, a2, xs1, xs2, rfl, by rw [hK]; exact rd1.seq, by rw [hK]; exact rd2.seq, ?_⟩
      rw [hK]
      exact h1 φ1 H1 _ .refl s1 (feeds_zip2G rd1 il1 rd2 il2)
    · exact False.elim h1
  · exact False.elim h1
def zipD3X : List D → List D → List D → List D
  | d1 :: ds1, d2 :: ds2, d3 :: ds3 => .tup [d1, d2, d3] :: zipD3X ds1 ds2 ds3
  | _, _, _ => []
def iZip3X (f : LM) : LM := fun env S => (f env S).bind fun ds S => match ds with
  | [d1, d2, d3] => match seqO d1, seqO d2, seqO d3 with
    | some ds1, some ds2, some ds3 => .ok (zipD3X ds1 ds2 ds3) S
    | _, _, _ => .bad
  | _ => .bad
section
variable {env : EnvD} {S : Store}
@[simp] theorem iEnumX_is {f : LM} : iEnumX f env S = (f env S).bind fun ds S => match ds with
  | [d] => match seqO d with
    | some ds => .ok (enumD 0 ds) S
    | none => .bad
  | _ => .bad := rfl
@[simp] theorem iZip2X_is {f : LM} : iZip2X f env S = (f env S).bind fun ds S => match ds with
  | [d1, d2] => match seqO d1, seqO d2 with
    | some ds1, some ds2 => .ok (zipD ds1 ds2) S
    | _, _ => .bad
  | _ => .bad := rfl
@[simp] theorem iZip3X_is {f : LM} : iZip3X f env S = (f env S).bind fun ds S => match ds with
  | [d1, d2, d3] => match seqO d1, seqO d2, seqO d3 with
    | some ds1, some ds2, some ds3 => .ok (zipD3X ds1 ds2 ds3) S
    | _, _, _ => .bad
  | _ => .bad := rfl
@[simp] theorem iAny_is {f : EM} : iAny f env S = (f env S).bindL fun d S => match d with
  | .lst ds => .ok ds S
  | .tup ds => .ok ds S
  | .str x => .ok (signsD x) S
  | .dic ks _ => .ok (ks.map dKey) S
  | _ => .bad := rfl
@[simp] theorem iValsD_is {f : EM} : iValsD f env S = (f env S).bindL fun d S => match d with
  | .dic _ ds => .ok ds S
  | _ => .bad := rfl
@[simp] theorem iItemsD_is {f : EM} : iItemsD f env S = (f env S).bindL fun d S => match d with
  | .dic ks ds => .ok (itemsD ks ds) S
  | _ => .bad := rfl
end
end DL
end
section
/-! D-layer, part 13: dict comprehensions. -/
namespace DL
open PySem L2
variable [DL.Nm]
variable {G : Glb} {X : Cx} {W : WX}
abbrev Kds := List (Key × D)
noncomputable def dcD (b : D → EnvD → Option EnvD) (tt ek ev : EM) (env : EnvD) : Kds → List D → Store → Option (Kds × Store)
  | acc, [], S => some (acc, S)
  | acc, d :: ds, S => match b d env with
    | none => none
    | some e1 => match tt e1 S with
      | .ok (.bl true) S1 => match ek e1 S1 with
        | .ok kd S2 => match ev e1 S2 with
          | .ok y S3 => match keyD kd with
            | some k => if sz (acc.length + 1) then dcD b tt ek ev env (putD acc k y) ds S3 else none
            | none => none
          | _ => none
        | _ => none
      | .ok (.bl false) S1 => dcD b tt ek ev env acc ds S1
      | _ => none
noncomputable def eDc (f : LM) (b : D → EnvD → Option EnvD) (tt ek ev : EM) (vs : List Nat) : EM := fun env S => (f env S).bindE fun ds S => match dcD b tt ek ev (wipeD env vs) [] ds S with
  | some (acc, S) => .ok (.dic (acc.map (·.1)) (acc.map (·.2))) S
  | none => .bad
noncomputable def eDcM (f : LM) (b : D → EnvD → Option EnvD) (tt ek ev : EM) (vs : List Nat) : EM := fun env S => (f env S).bindE fun ds S => match dcD b tt ek ev (wipeD env vs) [] ds S with
  | some (acc, S) => .ok (.loc S.length) (S ++ [.dic acc])
  | none => .bad
theorem KvIs.kept {φ φ' : Fi} {H H' : Hp} {kds : List (Key × D)} {kvs : List (Key × V)} (k : Kept φ H φ' H') (q : KvIs G φ H kds kvs) : KvIs G φ' H' kds kvs := ⟨q.1, q.2.kept k⟩
def PostDc (G : Glb) (φ1 : Fi) (H1 : Hp) (D0 : Addr) (r : Option (Kds × Store)) (Q : Hp → Prop) : Prop := match r with
  | some (kds, S) => ∀ φ' H' kvs, Lk φ1 H1 D0 φ' H' → SOk G φ' S H' → H' D0 = some (.dK kvs) → KvIs G φ' H' kds kvs → Q H'
  | none => False
theorem dc_loop {J : It} {g : TG} {tt : TT} {tk tv : TE} {b : D → EnvD → Option EnvD} {ft fk fe : EM} {vs ws : List Nat} {σ : L2.St} {env : EnvD} {φ1 : Fi} {H1 : Hp} {S1 : Store} {ds : List D} {D0 : Addr} {Qd : Hp → Prop} {WB WB' WB2 : WX}
    (qg : ∀ v d σ H env env' φ Q, Is G φ H d v → RepE G φ H σ env → b d env = some env' → (∀ σ', RepE G φ H σ' env' → Off vs σ σ' → Q σ' H) → g v σ H Q)
    (qt : ∀ σ H env φ S Q, SOk G φ S H → RepE G φ H σ env → PostT G WB φ H σ (ft env S) Q → tt σ H Q)
    (qk : ∀ σ H env φ S Q, SOk G φ S H → RepE G φ H σ env → PostE G WB2 φ H σ (fk env S) Q → tk σ H Q)
    (qe : ∀ σ H env φ S Q, SOk G φ S H → RepE G φ H σ env → PostE G WB' φ H σ (fe env S) Q → tv σ H Q)
    (hs : ∀ j ∈ vs, j ∈ ws) (s1 : SOk G φ1 S1 H1) (re : RepE G φ1 H1 σ env) (fd : Feeds G φ1 H1 J ds) (hD : H1 D0 = none)
    (h : PostDc G φ1 H1 D0 (dcD b ft fk fe (wipeD env ws) [] ds S1) Qd) :
    ∃ Wt : Nat → Nat → Hp → Prop, (∃ m, Wt 0 m (upd H1 D0 (.dK []))) ∧ ∀ i m H, Wt i m H →
      (J.stop i H ∧ Qd H) ∨ (J.go i H ∧ ∃ Nx : Hp → Prop, (∀ H', Nx H' → ∃ m', m' < m ∧ Wt (i + 1) m' H') ∧ ∀ x H', J.yld i H x H' → g x (wipe σ ws) H' fun σ2 H2 => wipe σ2 ws = wipe σ ws ∧ tt σ2 H2 fun b H3 =>
        if b = true then tk σ2 H3 fun y H4 => tv σ2 H4 fun z H5 => ∃ kvs k, y = kV k ∧ H5 D0 = some (.dK kvs) ∧ kvs.length < sizeLine ∧ Nx (upd H5 D0 (.dK (putK kvs k z))) else Nx H3) := by
  let Go : Nat → Hp → Prop := fun i H2 => i ≤ ds.length ∧ ∃ φ2 S2 kds kvs, Kept φ1 H1 φ2 H2 ∧ Lk φ1 H1 D0 φ2 H2 ∧ SOk G φ2 S2 H2 ∧ H2 D0 = some (.dK kvs) ∧ KvIs G φ2 H2 kds kvs ∧ PostDc G φ1 H1 D0 (dcD b ft fk fe (wipeD env ws) kds (ds.drop i) S2) Qd
  refine ⟨fun i m H2 => m = ds.length - i ∧ Go i H2, ⟨ds.length, by simp, Nat.zero_le _, φ1.hide D0, S1, [], [], Kept.hide hD, .start hD, s1.hide hD, upd_same, ⟨rfl, rfl⟩, h⟩, ?_⟩
  rintro i m H2 ⟨rfl, hi, φ2, S2, kds, kvs, k2, l2, s2, hacc, il, h2⟩
  by_cases hl : i < ds.length
  · right
    have hd : ds[i]? = some ds[i] := List.getElem?_eq_getElem hl
    obtain ⟨go, gy⟩ := fd.go φ2 S2 H2 i ds[i] k2 s2 hd
    rw [List.drop_eq_getElem_cons hl] at h2
    refine ⟨go, Go (i + 1), fun H' w => ⟨ds.length - (i + 1), by omega, rfl, w⟩, fun x H' hy => ?_⟩
    obtain ⟨e3, s3, k3⟩ := gy x H' hy
    have nc : D0 ∉ φ2.c := (s2.hid D0 l2.mem).1
    have r3 : RepE G φ2 H' (wipe σ ws) (wipeD env ws) := ((re.wipe ws).kept k2).ext e3
    unfold dcD at h2
    cases hb1 : b ds[i] (wipeD env ws) with
    | none => rw [hb1] at h2; exact False.elim h2
    | some env3 =>
      rw [hb1] at h2
      dsimp only at h2
      refine qg x ds[i] _ H' _ env3 φ2 _ k3 r3 hb1 fun σ3 r4 o3 => ⟨wipe_off hs o3, ?_⟩
      refine qt σ3 H' env3 φ2 S2 _ s3 r4 ?_
      cases ht : ft env3 S2 with
      | bad => rw [ht] at h2; exact False.elim h2
      | ex x S3 => rw [ht] at h2; exact False.elim h2
      | ok d S3 =>
        rw [ht] at h2
        cases d with
        | bl k =>
          intro φ4 H4 v e4 s4 i4 b' eb
          cases (show v = .bl k from i4)
          cases eb
          have e24 := e3.trans e4
          cases k with
          | false =>
            exact iteF ⟨by omega, φ4, S3, kds, kvs, k2.trans e24.kept, l2.ext' e24, s4, e24.keepH nc hacc l2.mem, il.ext e24, h2⟩
          | true =>
            refine iteT (qk σ3 H4 env3 φ4 S3 _ s4 (r4.ext e4) ?_)
            dsimp only at h2
            cases hk : fk env3 S3 with
            | bad => rw [hk] at h2; exact False.elim h2
            | ex x S5 => rw [hk] at h2; exact False.elim h2
            | ok kd S5 =>
              rw [hk] at h2
              dsimp only at h2
              intro φ5 H5 v5 e5 s5 i5
              refine qe σ3 H5 env3 φ5 S5 _ s5 ((r4.ext e4).ext e5) ?_
              cases he : fe env3 S5 with
              | bad => rw [he] at h2; exact False.elim h2
              | ex x S6 => rw [he] at h2; exact False.elim h2
              | ok y S6 =>
                rw [he] at h2
                dsimp only at h2
                cases hkd : keyD kd with
                | none => rw [hkd] at h2; exact False.elim h2
                | some k =>
                  rw [hkd] at h2
                  dsimp only at h2
                  by_cases hz : sz (kds.length + 1)
                  · rw [if_pos hz] at h2
                    intro φ6 H6 v6 e6 s6 i6
                    have e26 := (e24.trans e5).trans e6
                    have l6 := l2.ext' e26
                    have q6 := il.ext e26
                    have kh : Kept φ6 H6 φ6 (upd H6 D0 (.dK (putK kvs k v6))) := .hidden l6.mem
                    exact ⟨kvs, k, keyD_is i5 hkd, e26.keepH nc hacc l2.mem, by rw [← KvIs.length il, sizeLine_eq]; exact hz, by omega, φ6, S6, putD kds k y, putK kvs k v6, (k2.trans e26.kept).trans kh, l6.put hD, s6.hidden l6.mem, upd_same, (put_is q6 i6 k).kept kh, h2⟩
                  · rw [if_neg hz] at h2; exact False.elim h2
        | _ => exact False.elim h2
  · left
    have e : i = ds.length := by omega
    subst e
    rw [List.drop_length] at h2
    exact ⟨fd.stop φ2 S2 H2 k2 s2, h2 φ2 H2 kvs l2 s2 hacc il⟩
theorem Lk.doneDM {φ1 φ2 : Fi} {H1 H2 : Hp} {D0 : Addr} {S S0 : Store} {kds : List (Key × D)} {kvs : List (Key × V)} (l : Lk φ1 H1 D0 φ2 H2) (s1 : SOk G φ1 S0 H1) (hD : H1 D0 = none) (s : SOk G φ2 S H2) (hx : H2 D0 = some (.dK kvs)) (il : KvIs G φ2 H2 kds kvs) :
    Ext φ1 H1 ⟨φ2.c ++ [D0], φ1.h⟩ H2 ∧ SOk G ⟨φ2.c ++ [D0], φ1.h⟩ (S ++ [.dic kds]) H2 := by
  have nc : D0 ∉ φ2.c := (s.hid D0 l.mem).1
  have k : Kept φ2 H2 ⟨φ2.c ++ [D0], φ1.h⟩ H2 := by
    have no : ∀ {a : Addr}, φ2.out a → (Fi.mk (φ2.c ++ [D0]) φ1.h).out a := fun {a} n => by
      obtain ⟨n1, n2⟩ := n
      rw [l.hid] at n2
      refine ⟨fun z => (List.mem_append.mp z).elim n1 fun z => n2 ?_, fun z => n2 (List.mem_cons_of_mem _ z)⟩
      simp at z; subst z; exact List.mem_cons_self
    exact ⟨fun i a q => by rw [List.getElem?_append_left (List.getElem?_eq_some_iff.mp q).1]; exact q, fun a u n r _ => ⟨no n, r⟩, fun a C dx fs n r => ⟨no n, r⟩, fun a o u n r => ⟨no n, r⟩, fun a u n r => ⟨no n, r⟩, fun a u n r => ⟨no n, r⟩, fun P q t => t.mono fun a n => no n⟩
  constructor
  · obtain ⟨ψ, e1, p⟩ := l.ext.pre
    have e1' : φ2.c = φ1.c ++ ψ := e1
    refine ⟨⟨ψ ++ [D0], by show φ2.c ++ [D0] = _; rw [e1', List.append_assoc], fun a ha => ?_⟩, rfl, fun a o n h => (l.ext.keep a o n h).imp id fun ⟨ps, ps', z1, z2, z3, _⟩ => ⟨ps, ps', z1, z2, z3, fun q t => k.tab _ _ (l.tab _ _ t)⟩⟩
    rcases List.mem_append.mp ha with ha | ha
    · exact p a ha
    · simp at ha; subst ha; exact ⟨s1.freshc hD, hD⟩
  · refine ⟨by simp [s.len], ?_, fun a ha => ?_, fun i c hc => ?_, fun p hp => k.tab _ _ (s.tab p hp)⟩
    · refine List.nodup_append.mpr ⟨s.nd, by simp, fun x hm y hy => ?_⟩
      simp at hy; subst hy
      intro e; subst e; exact nc hm
    · obtain ⟨n, q⟩ := s.hid a (by rw [l.hid]; exact List.mem_cons_of_mem _ ha)
      refine ⟨fun z => (List.mem_append.mp z).elim n fun z => ?_, q⟩
      simp at z; subst z
      exact s1.freshh hD ha
    · by_cases q : i < S.length
      · rw [List.getElem?_append_left q] at hc
        obtain ⟨a, ha, kc⟩ := s.cell i c hc
        exact ⟨a, k.get _ _ ha, kc.move k rfl⟩
      · rw [List.getElem?_append_right (Nat.le_of_not_lt q)] at hc
        have e : i = S.length := by
          have := (List.getElem?_eq_some_iff.mp hc).1
          simp at this; omega
        subst e
        simp at hc; subst hc
        exact ⟨D0, by show (φ2.c ++ [D0])[S.length]? = _; rw [← s.len]; simp, kvs, hx, il.1, il.2.kept k⟩
section
variable {kx vx tg iter : Expr} {ifs : List Expr} {scope : Scope} {own : List (PySem.Str × Nat)} {pos : Pos} {f : LM} {b : D → EnvD → Option EnvD} {ft fk fe : EM} {vs : List Nat}
theorem de_dcM (hc : X.calm = true) (hN : X.N.Nodup) (hi : DI G X W tg iter f) (ok : BlkOk X.N X.env.scope scope own)
    (hg : ∀ (s : Shared) (H : Hp) (C : Addr) (cl : List (PySem.Str × Addr)) (fp : List Addr), DG G (X.blk s H scope (compEnvC scope cl C X.env) fp) tg b vs)
    (ht : ∀ (s : Shared) (H : Hp) (C : Addr) (cl : List (PySem.Str × Addr)) (fp : List Addr), DTs G (X.blk s H scope (compEnvC scope cl C X.env) fp) W0 ifs ft)
    (hk : ∀ (s : Shared) (H : Hp) (C : Addr) (cl : List (PySem.Str × Addr)) (fp : List Addr), DE G (X.blk s H scope (compEnvC scope cl C X.env) fp) W0 kx fk)
    (he : ∀ (s : Shared) (H : Hp) (C : Addr) (cl : List (PySem.Str × Addr)) (fp : List Addr), DE G (X.blk s H scope (compEnvC scope cl C X.env) fp) W0 vx fe)
    (hvs : ∀ j ∈ vs, j ∈ own.map (·.2)) (hs : ∀ x, foldedSetIterable iter X.env x = pure x := by intro _; rfl) : DE G X W (.DictComp kx vx [⟨tg, iter, ifs, 0⟩] scope pos) (eDcM f b ft fk fe (own.map (·.2))) := by
  obtain ⟨wi, pI, qi⟩ := hi
  refine ⟨_, pe_dc hc hN pI ok (fun s H C cl fp => (hg s H C cl fp).can) (fun s H C cl fp => (ht s H C cl fp).can) (fun s H C cl fp => (hk s H C cl fp).can) (fun s H C cl fp => (he s H C cl fp).can) hs, fun σ H env φ S Q s re h => ?_⟩
  refine qi σ H env φ S _ s re (PostI.ofE h fun ds S1 φ1 H1 J e1 s1 fd h1 D0 hD => ?_)
  refine dc_loop (env := env) (fun v d σ H env env' φ Q i r z k => ⟨d, env, env', φ, i, r, z, k⟩) (fun σ H env φ S Q s r z => ⟨env, φ, S, s, r, z⟩) (fun σ H env φ S Q s r z => ⟨env, φ, S, s, r, z⟩) (fun σ H env φ S Q s r z => ⟨env, φ, S, s, r, z⟩) hvs s1 (re.ext e1) fd hD ?_
  cases hr : dcD b ft fk fe (wipeD env (own.map (·.2))) [] ds S1 with
  | some p =>
    obtain ⟨kds, S2⟩ := p
    rw [hr] at h1
    intro φ2 H2 xs l2 s2 hx il
    obtain ⟨e3, s3⟩ := l2.doneDM s1 hD s2 hx il
    exact h1 _ H2 _ e3 s3 ⟨D0, by show (φ2.c ++ [D0])[S2.length]? = _; rw [← s2.len]; simp, rfl⟩
  | none => rw [hr] at h1; exact h1
end

/-! ### a dict comprehension bound to a local name -/
section
variable {kx vx tg iter : Expr} {ifs : List Expr} {scope : Scope} {own : List (PySem.Str × Nat)} {pos : Pos} {f : LM} {b : D → EnvD → Option EnvD} {ft fk fe : EM} {vs : List Nat}
end
section
variable {env : EnvD} {S : Store}
@[simp] theorem eDc_is {f : LM} {b : D → EnvD → Option EnvD} {tt ek ev : EM} {vs : List Nat} : eDc f b tt ek ev vs env S = (f env S).bindE fun ds S => match dcD b tt ek ev (wipeD env vs) [] ds S with
  | some (acc, S) => .ok (.dic (acc.map (·.1)) (acc.map (·.2))) S
  | none => .bad := rfl
@[simp] theorem eDcM_is {f : LM} {b : D → EnvD → Option EnvD} {tt ek ev : EM} {vs : List Nat} : eDcM f b tt ek ev vs env S = (f env S).bindE fun ds S => match dcD b tt ek ev (wipeD env vs) [] ds S with
  | some (acc, S) => .ok (.loc S.length) (S ++ [.dic acc])
  | none => .bad := rfl
end

/-! ### two fors in a list comprehension -/
def iOf (G : Glb) (f : LM) : TI := fun σ H R => ∃ env φ S, SOk G φ S H ∧ RepE G φ H σ env ∧ PostI G W0 φ H σ (f env S) R
theorem DI.can {tg e : Expr} {f : LM} (h : DI G X W0 tg e f) : PI X tg e (iOf G f) := by
  obtain ⟨t, p, q⟩ := h
  exact ⟨fun pins s σ H R I ⟨env, φ, S, so, r, z⟩ => p.run pins s σ H R I (q σ H env φ S R so r z)⟩
noncomputable def lc2D (b : D → EnvD → Option EnvD) (tt : EM) (f1 : LM) (b1 : D → EnvD → Option EnvD) (tt1 elt : EM) (vs1 : List Nat) (env : EnvD) : List D → List D → Store → LR
  | acc, [], S => .ok acc S
  | acc, d :: ds, S => match b d env with
    | none => .bad
    | some e1 => match tt e1 S with
      | .ok (.bl true) S1 => match f1 e1 S1 with
        | .ok ds1 S2 => match lcD b1 tt1 elt (wipeD e1 vs1) acc ds1 S2 with
          | .ok acc' S3 => lc2D b tt f1 b1 tt1 elt vs1 env acc' ds S3
          | _ => .bad
        | _ => .bad
      | .ok (.bl false) S1 => lc2D b tt f1 b1 tt1 elt vs1 env acc ds S1
      | _ => .bad
noncomputable def eLc2 (f : LM) (b : D → EnvD → Option EnvD) (tt : EM) (f1 : LM) (b1 : D → EnvD → Option EnvD) (tt1 elt : EM) (vs1 vs : List Nat) : EM := fun env S => (f env S).bindE fun ds S => (lc2D b tt f1 b1 tt1 elt vs1 (wipeD env vs) [] ds S).bindE fun ys S => .ok (.lst ys) S
noncomputable def eLc2M (f : LM) (b : D → EnvD → Option EnvD) (tt : EM) (f1 : LM) (b1 : D → EnvD → Option EnvD) (tt1 elt : EM) (vs1 vs : List Nat) : EM := fun env S => (f env S).bindE fun ds S => (lc2D b tt f1 b1 tt1 elt vs1 (wipeD env vs) [] ds S).bindE fun ys S => .ok (.loc S.length) (S ++ [.lst ys])
section
variable {elt tg iter tg1 iter1 : Expr} {ifs ifs1 : List Expr} {scope : Scope} {own : List (PySem.Str × Nat)} {pos : Pos} {f f1 : LM} {b b1 : D → EnvD → Option EnvD} {ft ft1 fe : EM} {vs vs1 ws1 : List Nat}
end
section
variable {env : EnvD} {S : Store}
@[simp] theorem eLc2_is {f f1 : LM} {b b1 : D → EnvD → Option EnvD} {tt tt1 elt : EM} {vs1 vs : List Nat} : eLc2 f b tt f1 b1 tt1 elt vs1 vs env S = (f env S).bindE fun ds S => (lc2D b tt f1 b1 tt1 elt vs1 (wipeD env vs) [] ds S).bindE fun ys S => .ok (.lst ys) S := rfl
@[simp] theorem eLc2M_is {f f1 : LM} {b b1 : D → EnvD → Option EnvD} {tt tt1 elt : EM} {vs1 vs : List Nat} : eLc2M f b tt f1 b1 tt1 elt vs1 vs env S = (f env S).bindE fun ds S => (lc2D b tt f1 b1 tt1 elt vs1 (wipeD env vs) [] ds S).bindE fun ys S => .ok (.loc S.length) (S ++ [.lst ys]) := rfl
end
end DL
end
section
/-! list(d.values()), sorted(d.values()). -/
namespace L2
open PySem PySem.Spec PyProof.Rows
section
variable {X : Cx} {e : Expr} {te : TE} {p apos cpos pos : Pos}
end
end L2
end
section
/-! D-layer, part 14: dicts as arguments: list(d.values()), sorted(d.values()), sorted(d), dict(pairs). -/
namespace DL
open PySem L2
variable [DL.Nm]
variable {G : Glb} {X : Cx} {W : WX}
def eListVals (f : EM) : EM := fun env S => (f env S).bind fun d S => match d with
  | .dic _ ds => .ok (.lst ds) S
  | _ => .bad
def eSortVals (f : EM) : EM := fun env S => (f env S).bind fun d S => match d with
  | .dic _ ds => match intsD ds with
    | some ns => if ns.length < 64 then .ok (.lst ((sortI ns).map .int)) S else .bad
    | none => .bad
  | _ => .bad
/-- a dict's keys, whole numbers -/
def intKeys : List (Key × D) → Option (List Int)
  | [] => some []
  | (.inl i, _) :: r => (intKeys r).map (i :: ·)
  | (.inr _, _) :: _ => none
def bSortedX (ds : List D) (S : Store) : ER := match ds with
  | [d] => match dicD S d with
    | some kds => match intKeys kds with
      | some ns => if ns.length < 64 then .ok (.lst ((sortI ns).map .int)) S else .bad
      | none => .bad
    | none => bSorted [d] S
  | _ => .bad
/-- pairs, the first a key -/
def pairsD : List D → Option Kds
  | [] => some []
  | .tup [a, b] :: r => (keyD a).bind fun k => (pairsD r).map ((k, b) :: ·)
  | _ :: _ => none
def mergeD (kds more : Kds) : Kds := more.foldl (fun acc kv => putD acc kv.1 kv.2) kds
def bDictX (ds : List D) (S : Store) : ER := match ds with
  | [.lst es] => match pairsD es with
    | some kds => .ok (.dic ((mergeD [] kds).map (·.1)) ((mergeD [] kds).map (·.2))) S
    | none => .bad
  | ds => bDict ds S
section
variable {env : EnvD} {S : Store}
@[simp] theorem eListVals_is {f : EM} : eListVals f env S = (f env S).bind fun d S => match d with
  | .dic _ ds => .ok (.lst ds) S
  | _ => .bad := rfl
@[simp] theorem eSortVals_is {f : EM} : eSortVals f env S = (f env S).bind fun d S => match d with
  | .dic _ ds => match intsD ds with
    | some ns => if ns.length < 64 then .ok (.lst ((sortI ns).map .int)) S else .bad
    | none => .bad
  | _ => .bad := rfl
@[simp] theorem bSortedX_dic {ks : List Key} {ds : List D} : bSortedX [.dic ks ds] S = match intKeys (ks.zip ds) with
      | some ns => if ns.length < 64 then .ok (.lst ((sortI ns).map .int)) S else .bad
      | none => .bad := rfl
@[simp] theorem bSortedX_lst {ds : List D} : bSortedX [.lst ds] S = bSorted [.lst ds] S := rfl
@[simp] theorem bDictX_lst {es : List D} : bDictX [.lst es] S = match pairsD es with
    | some kds => .ok (.dic ((mergeD [] kds).map (·.1)) ((mergeD [] kds).map (·.2))) S
    | none => .bad := rfl
@[simp] theorem bDictX_dic {ks : List Key} {ds : List D} : bDictX [.dic ks ds] S = bDict [.dic ks ds] S := rfl
@[simp] theorem bDictX_loc {l : Nat} : bDictX [.loc l] S = bDict [.loc l] S := rfl
end
end DL
end
section
/-! D-layer, part 15: loops and comprehensions over a list that is a cell (it stays as it is while it is walked). -/
namespace DL
open PySem L2
variable [DL.Nm]
variable {G : Glb} {X : Cx} {W : WX}
/-- the items of a list, a tuple, a list's cell; the cell that must stay -/
def itemsS (d : D) (S : Store) : Option (Option Nat × List D) := match d with
  | .lst ds => some (none, ds)
  | .tup ds => some (none, ds)
  | .loc l => match S[l]? with
    | some (.lst ds) => some (some l, ds)
    | _ => none
  | _ => none
def okW (w : Option Nat) (ds : List D) (S : Store) : Prop := match w with
  | none => True
  | some l => S[l]? = some (.lst ds)
structure FeedsX (G : Glb) (φ0 : Fi) (H0 : Hp) (J : It) (w : Option Nat) (ds : List D) : Prop where
  go : ∀ φ S H (i : Nat) d, Kept φ0 H0 φ H → SOk G φ S H → okW w ds S → ds[i]? = some d → J.go i H ∧ ∀ x H', J.yld i H x H' → Ext φ H φ H' ∧ SOk G φ S H' ∧ Is G φ H' d x
  stop : ∀ φ S H, Kept φ0 H0 φ H → SOk G φ S H → okW w ds S → J.stop ds.length H
open Classical in
noncomputable def forDX (w : Option Nat) (ds0 : List D) (b : D → EnvD → Option EnvD) (body : SM) : List D → SM
  | [], e, S => if okW w ds0 S then .nx e S else .bad
  | d :: ds, e, S => if okW w ds0 S then (match b d e with
    | none => .bad
    | some e1 => match body e1 S with
      | .nx e2 S2 => forDX w ds0 b body ds e2 S2
      | .ct e2 S2 => forDX w ds0 b body ds e2 S2
      | .bk e2 S2 => .nx e2 S2
      | .rt d S2 => .rt d S2
      | .ex x e2 S2 => .ex x e2 S2
      | .bad => .bad) else .bad
theorem forDX_none {ds0 : List D} {b : D → EnvD → Option EnvD} {body : SM} : ∀ {ds : List D} {e : EnvD} {S : Store}, forDX none ds0 b body ds e S = forD b body ds e S
  | [], e, S => by unfold forDX forD; rw [if_pos (show okW none ds0 S from trivial)]
  | d :: ds, e, S => by
    unfold forDX forD
    rw [if_pos (show okW none ds0 S from trivial)]
    cases b d e with
    | none => rfl
    | some e1 =>
      dsimp only
      cases body e1 S <;> first | rfl | exact forDX_none
noncomputable def sForX (f : EM) (b : D → EnvD → Option EnvD) (body : SM) : SM := fun e S => (f e S).bindS e fun d S => match itemsS d S with
  | some (w, ds) => forDX w ds b body ds e S
  | none => .bad
/-! ### comprehensions -/
open Classical in
noncomputable def lcDX (w : Option Nat) (ds0 : List D) (b : D → EnvD → Option EnvD) (tt elt : EM) (env : EnvD) : List D → List D → Store → LR
  | acc, [], S => if okW w ds0 S then .ok acc S else .bad
  | acc, d :: ds, S => if okW w ds0 S then (match b d env with
    | none => .bad
    | some e1 => match tt e1 S with
      | .ok (.bl true) S1 => match elt e1 S1 with
        | .ok y S2 => if sz (acc.length + 1) then lcDX w ds0 b tt elt env (acc ++ [y]) ds S2 else .bad
        | _ => .bad
      | .ok (.bl false) S1 => lcDX w ds0 b tt elt env acc ds S1
      | _ => .bad) else .bad
theorem lcDX_none {ds0 : List D} {b : D → EnvD → Option EnvD} {tt elt : EM} {env : EnvD} : ∀ {ds acc : List D} {S : Store}, lcDX none ds0 b tt elt env acc ds S = lcD b tt elt env acc ds S
  | [], acc, S => by unfold lcDX lcD; rw [if_pos (show okW none ds0 S from trivial)]
  | d :: ds, acc, S => by
    unfold lcDX lcD
    rw [if_pos (show okW none ds0 S from trivial)]
    cases b d env with
    | none => rfl
    | some e1 =>
      dsimp only
      cases tt e1 S with
      | ok k S1 =>
        cases k with
        | bl k =>
          cases k with
          | false => exact lcDX_none
          | true =>
            dsimp only
            cases elt e1 S1 with
            | ok y S2 =>
              dsimp only
              by_cases hz : sz (acc.length + 1)
              · rw [if_pos hz, if_pos hz]; exact lcDX_none
              · rw [if_neg hz, if_neg hz]
            | _ => rfl
        | _ => rfl
      | _ => rfl
noncomputable def eLcX (f : EM) (b : D → EnvD → Option EnvD) (tt elt : EM) (vs : List Nat) : EM := fun env S => (f env S).bind fun d S => match itemsS d S with
  | some (w, ds) => (lcDX w ds b tt elt (wipeD env vs) [] ds S).bindE fun ys S => .ok (.lst ys) S
  | none => .bad
noncomputable def eLcXM (f : EM) (b : D → EnvD → Option EnvD) (tt elt : EM) (vs : List Nat) : EM := fun env S => (f env S).bind fun d S => match itemsS d S with
  | some (w, ds) => (lcDX w ds b tt elt (wipeD env vs) [] ds S).bindE fun ys S => .ok (.loc S.length) (S ++ [.lst ys])
  | none => .bad
section
variable {elt tg iter : Expr} {ifs : List Expr} {scope : Scope} {own : List (PySem.Str × Nat)} {pos : Pos} {f : EM} {b : D → EnvD → Option EnvD} {ft fe : EM} {vs : List Nat}
end
section
variable {env : EnvD} {S : Store}
@[simp] theorem sForX_is {f : EM} {b : D → EnvD → Option EnvD} {body : SM} : sForX f b body env S = (f env S).bindS env fun d S => match itemsS d S with
  | some (w, ds) => forDX w ds b body ds env S
  | none => .bad := rfl
@[simp] theorem eLcX_is {f : EM} {b : D → EnvD → Option EnvD} {tt elt : EM} {vs : List Nat} : eLcX f b tt elt vs env S = (f env S).bind fun d S => match itemsS d S with
  | some (w, ds) => (lcDX w ds b tt elt (wipeD env vs) [] ds S).bindE fun ys S => .ok (.lst ys) S
  | none => .bad := rfl
@[simp] theorem eLcXM_is {f : EM} {b : D → EnvD → Option EnvD} {tt elt : EM} {vs : List Nat} : eLcXM f b tt elt vs env S = (f env S).bind fun d S => match itemsS d S with
  | some (w, ds) => (lcDX w ds b tt elt (wipeD env vs) [] ds S).bindE fun ys S => .ok (.loc S.length) (S ++ [.lst ys])
  | none => .bad := rfl
@[simp] theorem itemsS_lst {ds : List D} : itemsS (.lst ds) S = some (none, ds) := rfl
@[simp] theorem itemsS_tup {ds : List D} : itemsS (.tup ds) S = some (none, ds) := rfl
@[simp] theorem itemsS_loc {l : Nat} : itemsS (.loc l) S = match cel S l with
    | some (.lst ds) => some (some l, ds)
    | _ => none := rfl
@[simp] theorem forDX_none' {ds0 ds : List D} {b : D → EnvD → Option EnvD} {body : SM} {e : EnvD} : forDX none ds0 b body ds e S = forD b body ds e S := forDX_none
@[simp] theorem lcDX_none' {ds0 ds acc : List D} {b : D → EnvD → Option EnvD} {tt elt : EM} : lcDX none ds0 b tt elt env acc ds S = lcD b tt elt env acc ds S := lcDX_none
end
end DL
end
section
/-! D-layer, part 16: *a, b = list; d[i], d[j] = x, y. -/
namespace L2
open PySem PySem.Spec PySem.Calls PyProof.Rows PySem.W
variable [DL.Nm]
section
variable {prog : Program} {w : World} {A : Around} {E : Value → Shared → Prop} {s : Shared}
end
section
variable {X : Cx} {pos : Pos}
end
end L2
namespace DL
open PySem L2
variable [DL.Nm]
variable {G : Glb} {X : Cx} {W : WX}
/-- *a, b = a list -/
def sStar (i j : Nat) (f : EM) : SM := fun e S => (f e S).bindS e fun d S => match listD S d with
  | some ds => match ds.getLast? with
    | some x => .nx ((e.set i (some (.lst ds.dropLast))).set j (some x)) S
    | none => .bad
  | none => .bad
/-- d[i], c[j] = x, y -/
noncomputable def sPut2X (o i o2 i2 f : EM) : SM := fun env S => (f env S).bindS env fun d S => match d with
  | .tup [x, y] => (o env S).bindS env fun a S => (i env S).bindS env fun b S => match setX a b x S with
    | some S => (o2 env S).bindS env fun a S => (i2 env S).bindS env fun b S => match setX a b y S with
      | some S' => .nx env S'
      | none => .bad
    | none => .bad
  | _ => .bad
/-! ### is True, is not True -/
def opIsB (x y : D) (S : Store) : ER := match x, y with | .bl a, .bl b => .ok (.bl (decide (a = b))) S | _, _ => .bad
def opNotB (x y : D) (S : Store) : ER := match x, y with | .bl a, .bl b => .ok (.bl (!decide (a = b))) S | _, _ => .bad
@[simp] theorem opIsB_bb {S : Store} {a b : Bool} : opIsB (.bl a) (.bl b) S = .ok (.bl (decide (a = b))) S := rfl
@[simp] theorem opNotB_bb {S : Store} {a b : Bool} : opNotB (.bl a) (.bl b) S = .ok (.bl (!decide (a = b))) S := rfl
/-! ### dict(..) that is changed later -/
def bDictM (ds : List D) (S : Store) : ER := match ds with
  | [d] => match dicD S d with
    | some kds => .ok (.loc S.length) (S ++ [.dic kds])
    | none => .bad
  | _ => .bad
section
variable {S : Store} {e env : EnvD}
@[simp] theorem sStar_is {i j : Nat} {f : EM} : sStar i j f e S = (f e S).bindS e fun d S => match listD S d with
  | some ds => match ds.getLast? with
    | some x => .nx ((e.set i (some (.lst ds.dropLast))).set j (some x)) S
    | none => .bad
  | none => .bad := rfl
@[simp] theorem sPut2X_is {o i o2 i2 f : EM} : sPut2X o i o2 i2 f env S = (f env S).bindS env fun d S => match d with
  | .tup [x, y] => (o env S).bindS env fun a S => (i env S).bindS env fun b S => match setX a b x S with
    | some S => (o2 env S).bindS env fun a S => (i2 env S).bindS env fun b S => match setX a b y S with
      | some S' => .nx env S'
      | none => .bad
    | none => .bad
  | _ => .bad := rfl
@[simp] theorem bDictM_dic {ks : List Key} {ds : List D} : bDictM [.dic ks ds] S = .ok (.loc S.length) (S ++ [.dic (ks.zip ds)]) := rfl
end
end DL
end
section
/-! Defs called where no repr is under way (guards = some []): so repr of lists and tuples can be had. -/
namespace L2
open PySem PySem.Spec PyProof.Rows
variable [DL.Nm]
/-- as FnOk, where no guard stands below -/
structure FnG (P : Program) (w : World) (K : PySem.W.Frag) (mg : Str → Option Value) (base : Heap) (CX : CXT) (k : Nat) (f : Addr) (fd : FuncData) (ps : List Str) (sp : Sp) : Prop where
  len : ∀ vs H Q E, sp vs H Q E → vs.length = ps.length
  run : ∀ (A : Around) (outer : List Env) (s : Shared) (H : Hp) (args : Args) (us : List Value) (vs : List V) (Q : VK) (E : XK), A.guards = some [] → Room k A → Env0 P w K mg base A outer s H → BindsTo s fd args (ps.zip us) → Vals vs us → sp vs H Q E →
    codeAny (model P w) A (.call (.ref f) args) (CR CX outer P w H s Q E) s
theorem FnG.of {P : Program} {w : World} {K : PySem.W.Frag} {mg : Str → Option Value} {base : Heap} {CX : CXT} {k : Nat} {f : Addr} {fd : FuncData} {ps : List Str} {sp : Sp} (F : FnOk P w K mg base CX k f fd ps sp) : FnG P w K mg base CX k f fd ps sp :=
  ⟨F.len, fun A outer s H args us vs Q E _ => F.run A outer s H args us vs Q E⟩
theorem FnG.mono {P : Program} {w : World} {K : PySem.W.Frag} {mg : Str → Option Value} {base : Heap} {CX : CXT} {j k : Nat} {f : Addr} {fd : FuncData} {ps : List Str} {sp : Sp} (F : FnG P w K mg base CX j f fd ps sp) (h : j ≤ k) : FnG P w K mg base CX k f fd ps sp :=
  ⟨F.len, fun A outer s H args us vs Q E hg hr => F.run A outer s H args us vs Q E hg (hr.mono h)⟩
section
variable {P : Program} {w : World} {K : PySem.W.Frag} {mg : Str → Option Value} {base : Heap}
theorem Fun.okG {x qual : Str} {st : Stmt} {f : Addr} {fd : FuncData} {N ps : List Str} {k : Nat} {sp : Sp} (F : Fun K x qual st f fd) (S : FnScope N ps (defScope st)) (len : ∀ vs H Q E, sp vs H Q E → vs.length = ps.length)
    (hbody : ∀ (cdv : Value) (A : Around) (outer : List Env) (s : Shared) (H : Hp) (vs : List V) (Q : VK) (E : XK), fd.code = cdv → A.guards = some [] → Room k (A.deeper (envOfC qual (defScope st) s.heap.objs.size f cdv)) → sp vs H Q E →
      ∃ t, PSs (cxOf (L2.CX P w) P w K mg base N qual (defScope st) f cdv A outer s H E) (defBody st) t ∧ t { nx := fun _ H' => Q .non H', rt := Q } (start N vs) H) : FnG P w K mg base (L2.CX P w) (k + 1) f fd ps sp := by
  refine ⟨len, fun A outer s H args us vs Q E gd hr e0 hb r hsp => ?_⟩
  obtain ⟨oc, od, kV, doc, pm, an, cdv, ct, osl, rfl, lk, hcd⟩ := F.ex
  have hl := len _ _ _ _ hsp
  have KX : K.In s.heap := e0.mod.kin.keeps fun b o e => (e0.bs b o e).1
  have lim : s.heap.NoLimit := e0.mod.nolimit.keeps fun b o e => (e0.bs b o e).1
  have hkind : ∀ y ∈ ps.zip us, (defScope st).names.lookup y.1 = some .local ∨ ((defScope st).names.lookup y.1 = some .cell ∧ ((cellsFrom (s.heap.objs.size + 1) (defScope st).names []).lookup y.1).isSome = true) := fun ⟨n, v⟩ hy =>
    (S.par n (List.of_mem_zip hy).1).imp id fun q => ⟨q, PySem.W.cellsFrom_some _ _ _ (.inl q)⟩
  refine codeAny_call_function hr.depth (KX _ _ lk) rfl S.co S.gen rfl (PySem.W.codeRec_of KX hcd) (hb _ _ _ _ ?_)
  refine wpAny_newFunctionEnv_cells S.kind hkind fun env he s1 x => ?_
  subst he
  refine ⟨lim.keeps x.toInCall.keep, codeAny_func ?_⟩
  obtain ⟨t, ht, hq⟩ := hbody cdv A outer s H vs Q E rfl gd (hr.deeper _) hsp
  have I : Inv (cxOf (L2.CX P w) P w K mg base N qual (defScope st) f cdv A outer s H E) [] (start N vs) H s1 := inv_start S hr.hd e0 hl r x
  refine wpAny_mono (ht.run [] s1 (start N vs) H _ I hq) (fun fl s' hs => ?_) fun e s' hs => hs
  cases fl with
  | ret u =>
    obtain ⟨v, σ', H', J, rv, q⟩ := hs
    exact ⟨v, H', J.os, J.bare, J.base, J.hok, rv, q⟩
  | next =>
    obtain ⟨σ', H', J, q⟩ := hs
    exact ⟨V.non, H', J.os, J.bare, J.base, J.hok, rfl, q⟩
  | brk => obtain ⟨_, _, _, q⟩ := hs; exact False.elim q
  | cont => obtain ⟨_, _, _, q⟩ := hs; exact False.elim q
end
section
variable {X : Cx} {CX : CXT} {k : Nat} {f C : Addr} {fd : FuncData} {ps : List Str} {sp : Sp} {E : St → XK} {x m : Str} {p pos apos : Pos} {e o : Expr} {es : List Expr} {ta : TE} {t : TA}
theorem run_fnG {pins : List (Addr × Obj)} {σ : St} {H : Hp} {s : Shared} {Q : VK} {us : List Value} {vs : List V} (F : FnG X.prog X.w X.K X.mg X.base CX k f fd ps sp) (gd : X.A.guards = some []) (hr : Room k X.A) (hb : Binds X.K fd ps []) (hx : PassesAt CX X σ (E σ))
    (I : Inv X pins σ H s) (r : Vals vs us) (h : sp vs H Q (E σ)) : wpAny (model X.prog X.w) X.A (call (.ref f) us) (EP X pins σ Q) X.xe s := by
  have hl : us.length = ps.length := by rw [← r.length]; exact F.len _ _ _ _ h
  have b := hb s us I.kIn (by rw [List.append_nil]; exact hl)
  rw [List.append_nil] at b
  refine wpAny_call (codeAny_mono (F.run X.A X.stack s H ⟨us, []⟩ us vs Q (E σ) gd hr I.env0 b r h) fun r s' hq => ?_)
  cases r with
  | error e => exact hx pins H s e s' I hq
  | ok fl =>
    cases fl with
    | ret u => exact I.after hq
    | next => exact False.elim hq
    | brk => exact False.elim hq
    | cont => exact False.elim hq
theorem pe_callG (F : FnG X.prog X.w X.K X.mg X.base CX k f fd ps sp) (gd : X.A.guards = some []) (hr : Room k X.A) (hg : Gl X x) (hm : X.mg x = some (.ref f)) (hk : PySem.W.keepIn X.K (.ref f) = true) (hb : Binds X.K fd ps []) (hx : ∀ σ, PassesAt CX X σ (E σ))
    (ha : PA X (e :: es) t) (hdb : (x == ("__debug__" : Str)) = false := by decide) (he : starEach (e :: es) X.env = (false, eval e X.env) :: starEach es X.env := by rfl) (hpl : (backTo pos (starEach es X.env)).any (·.1) = false := by rfl) :
    PE X (.Call (.Name x p) (e :: es) [] pos) (tCallS sp E t) := by
  refine ⟨fun pins s σ H Q I h => ?_⟩
  refine wpAny_Call_Name_kw (ld_glob I hg hm ?_ hdb)
  refine PySem.W.callWith_K (h₀ := X.base) I.ok.mod.kin hk (thn (ha.run pos pins s σ H _ I h) fun us s1 ⟨vs, H1, I1, r, q⟩ => ⟨I1.kIn, ?_⟩) he hpl
  exact run_fnG F gd hr hb (hx σ) I1 r q
end
end L2
end
section
/-! D-layer: defs called with no guard below; repr. -/
namespace DL
open PySem L2 PyProof.Rows
variable [DL.Nm]
theorem fnG {G : Glb} {P : Program} {w : World} {mg : Str → Option Value} {base : Heap} {x qual : Str} {st : Stmt} {f : Addr} {fd : FuncData} {N ps : List Str} {k : Nat} {g : SM} (m : Mode) (F : Fun G.K x qual st f fd) (S : FnScope N ps (defScope st))
    (body : ∀ (cdv : Value) (A : Around) (outer : List Env) (s : Shared) (H : Hp) (E : XK), Room k (A.deeper (envOfC qual (defScope st) s.heap.objs.size f cdv)) →
      Takes (cxOf (L2.CX P w) P w G.K mg base N qual (defScope st) f cdv A outer s H E) (fun cls d _ H => E cls d H) →
      PassesOwn (model P w) (A.deeper (envOfC qual (defScope st) s.heap.objs.size f cdv)) (envOfC qual (defScope st) s.heap.objs.size f cdv) (cxOf (L2.CX P w) P w G.K mg base N qual (defScope st) f cdv A outer s H E).xe →
      (cxOf (L2.CX P w) P w G.K mg base N qual (defScope st) f cdv A outer s H E).A.guards = some [] →
      DSs G (cxOf (L2.CX P w) P w G.K mg base N qual (defScope st) f cdv A outer s H E) (fun cls d _ H => E cls d H) (defBody st) g) :
    FnG P w G.K mg base (L2.CX P w) (k + 1) f fd ps (spD G ps.length (fnF m N.length g)) := by
  refine F.okG S (fun vs H Q E h => h.1) (fun cdv A outer s H vs Q E _ gd hr h => ?_)
  obtain ⟨_, φ, S0, ds, so, il, hp⟩ := h
  obtain ⟨t, pt, qt⟩ := body cdv A outer s H E hr (takes_of rfl rfl rfl rfl) (passes_of rfl) gd
  refine ⟨t, pt, qt (L2.start N vs) H (startD N.length ds) φ S0 _ so (rep_start N il) ?_⟩
  unfold fnF at hp
  cases hg : g (startD N.length ds) S0 with
  | nx e S1 => rw [hg] at hp; exact fun φ1 H1 σ1 e1 s1 r1 => exit_ok so e1 s1 (show Is G φ1 H1 .non .non from rfl) hp
  | rt d S1 => rw [hg] at hp; exact fun φ1 H1 v e1 s1 i1 => exit_ok so e1 s1 i1 hp
  | ex x e S1 => rw [hg] at hp; exact fun φ1 H1 σ1 cls dx e1 s1 r1 ix => hp φ1 H1 cls dx e1 s1 ix
  | bk e S1 => rw [hg] at hp; exact False.elim hp
  | ct e S1 => rw [hg] at hp; exact False.elim hp
  | bad => rw [hg] at hp; exact False.elim hp
structure DefG (G : Glb) (P : Program) (w : World) (mg : Str → Option Value) (base : Heap) (k : Nat) (x : Str) (n : Nat) (F : FD) : Prop where
  ex : ∃ f fd ps, FnG P w G.K mg base (L2.CX P w) k f fd ps (spD G n F) ∧ mg x = some (.ref f) ∧ PySem.W.keepIn G.K (.ref f) = true ∧ Binds G.K fd ps []
section
variable {G : Glb} {X : Cx} {W : WX} {k n : Nat} {x : Str} {F : FD} {p pos : Pos} {e : Expr} {es : List Expr} {fa : LM}
theorem de_callG (d : DefG G X.prog X.w X.mg X.base k x n F) (gd : X.A.guards = some []) (hK : X.K = G.K) (hr : Room k X.A) (hg : Gl X x) (tk : Takes X W) (ha : DA G X W (e :: es) fa) (hn : (e :: es).length = n) (hla : ∀ env S ds S', fa env S = .ok ds S' → ds.length = n)
    (hdb : (x == ("__debug__" : Str)) = false := by decide) (he : starEach (e :: es) X.env = (false, eval e X.env) :: starEach es X.env := by rfl) (hpl : (backTo pos (starEach es X.env)).any (·.1) = false := by rfl) :
    DE G X W (.Call (.Name x p) (e :: es) [] pos) (eCall F fa) := by
  obtain ⟨f, fd, ps, FO, hm, hk, hb⟩ := d.ex
  rw [← hK] at FO hk hb
  obtain ⟨t, pt, qt⟩ := ha
  refine ⟨_, pe_callG FO gd hr hg hm hk hb (fun σ => passAt tk σ) pt hdb he hpl, fun σ H env φ S Q s re h => ?_⟩
  refine qt σ H env φ S _ s re ?_
  unfold eCall at h
  cases hf : fa env S with
  | ok ds S1 =>
    rw [hf] at h
    intro φ1 H1 vs e1 s1 i1
    refine ⟨by rw [← i1.length]; exact hla _ _ _ _ hf, φ1, S1, ds, s1, i1, ?_⟩
    have h' : PostE G W φ1 H1 σ (F ds S1) Q := PostE.ext e1 h
    cases hF : F ds S1 with
    | ok d S2 => rw [hF] at h'; exact h'
    | ex x S2 => rw [hF] at h'; exact h'
    | bad => rw [hF] at h'; exact h'
  | ex x S1 => rw [hf] at h; exact h
  | bad => rw [hf] at h; exact h
/-! ### repr -/
end
def optL {α β : Type} (f : α → Option β) : List α → Option (List β)
  | [] => some []
  | a :: l => (f a).bind fun b => (optL f l).map (b :: ·)
section
variable {G : Glb} {X : Cx} {W : WX} {φ : Fi} {S : Store} {H : Hp}
end
/-! ### small data -/
structure Small (k w : Nat) (p : PyData) : Prop where
  sh : p.showable = true
  hd : p.hasDict = false
  cl : p.canLay0 = true
  dp : p.depth ≤ k
  si : p.intsShort 13 = true
  wt : p.weight ≤ w
theorem Small.mono {k w k' w' : Nat} {p : PyData} (h : Small k w p) (hk : k ≤ k') (hw : w ≤ w') : Small k' w' p := ⟨h.sh, h.hd, h.cl, Nat.le_trans h.dp hk, h.si, Nat.le_trans h.wt hw⟩
end DL
end
section
/-! sorted of a tuple of whole numbers. -/
namespace L2
open PySem PySem.Spec PyProof.Rows
variable [DL.Nm]
section
variable {P : Program} {w : World} {A : Around} {E : Value → Shared → Prop} {s : Shared}
end
section
variable {X : Cx}
end
end L2
namespace DL
open PySem L2
variable [DL.Nm]
variable {G : Glb} {X : Cx} {W : WX}
/-- sorted, of a tuple of whole numbers too -/
def bSortedY (ds : List D) (S : Store) : ER := match ds with
  | [.tup es] => match intsD es with
    | some ns => if ns.length < 64 then .ok (.lst ((sortI ns).map .int)) S else .bad
    | none => .bad
  | ds => bSortedX ds S
@[simp] theorem bSortedY_t {ns : List Int} {S : Store} : bSortedY [.tup (ns.map .int)] S = if ns.length < 64 then .ok (.lst ((sortI ns).map .int)) S else .bad := by
  unfold bSortedY
  dsimp only
  rw [intsD_map]
@[simp] theorem bSortedY_l {ns : List Int} {S : Store} : bSortedY [.lst (ns.map .int)] S = .ok (.lst ((sortI ns).map .int)) S := by
  show bSortedX [.lst (ns.map .int)] S = _
  exact bSortedX_lst.trans bSorted_l
end DL
end
section
/-! D-layer, part 17: attributes of instances. -/
namespace DL
open PySem L2
variable [DL.Nm]
variable {G : Glb} {X : Cx} {W : WX}
/-- the law's classes: plain ones, none of whose names is fs -/
structure Kls (K : PySem.W.Frag) (ca : Str → Option Addr) (fs : List Str) : Prop where
  ok : ∀ c C, ca c = some C → Cls K C ∧ ∀ f ∈ fs, NoAttr K C f
def fldD (S : Store) (d : D) (f : Str) : Option D := match d with
  | .obj _ ks ds => (ks.zip ds).lookup f
  | .loc l => match S[l]? with
    | some (.ins _ fs) => fs.lookup f
    | _ => none
  | _ => none
/-- e.f -/
def eFld (f : Str) (e : EM) : EM := fun env S => (e env S).bind fun d S => match fldD S d f with
  | some x => .ok x S
  | none => .bad
/-! ### o.f = e -/
def putFD (f : Str) (d : D) : List (Str × D) → List (Str × D)
  | [] => [(f, d)]
  | (g, x) :: r => if g = f then (g, d) :: r else (g, x) :: putFD f d r
theorem putF_is {φ : Fi} {H : Hp} {f : Str} {d : D} {v : V} (i : Is G φ H d v) : ∀ {fs : List (Str × D)} {ws : List (Str × V)}, ws.map (·.1) = fs.map (·.1) → IsL G φ H (fs.map (·.2)) (ws.map (·.2)) →
    (putF f v ws).map (·.1) = (putFD f d fs).map (·.1) ∧ IsL G φ H ((putFD f d fs).map (·.2)) ((putF f v ws).map (·.2))
  | [], [], _, _ => ⟨rfl, v, [], rfl, i, rfl⟩
  | [], (g, x) :: ws, h, _ => by cases h
  | (g, x) :: fs, [], h, _ => by cases h
  | (g, x) :: fs, (g', y) :: ws, h, q => by
    have h1 : g' = g := (List.cons.inj h).1
    have h2 : ws.map (·.1) = fs.map (·.1) := (List.cons.inj h).2
    obtain ⟨x', r, e1, q1, q2⟩ := q
    have ex : y = x' := (List.cons.inj e1).1
    have er : ws.map (·.2) = r := (List.cons.inj e1).2
    subst h1 ex
    rw [← er] at q2
    unfold putF putFD
    by_cases hg : g' = f
    · rw [if_pos hg, if_pos hg]
      exact ⟨by simp [h2], v, _, rfl, i, q2⟩
    · rw [if_neg hg, if_neg hg]
      obtain ⟨p1, p2⟩ := putF_is i h2 q2
      exact ⟨by simp [p1], y, _, rfl, q1, p2⟩
def sFldS (f : Str) (o e : EM) : SM := fun env S => (e env S).bindS env fun d S => (o env S).bindS env fun a S => match a with
  | .loc l => match S[l]? with
    | some (.ins c fs) => if fs.length < 1000 then .nx env (S.set l (.ins c (putFD f d fs))) else .bad
    | _ => .bad
  | _ => .bad
section
variable {S : Store} {env : EnvD}
@[simp] theorem eFld_is {f : Str} {e : EM} : eFld f e env S = (e env S).bind fun d S => match fldD S d f with
  | some x => .ok x S
  | none => .bad := rfl
@[simp] theorem sFldS_is {f : Str} {o e : EM} : sFldS f o e env S = (e env S).bindS env fun d S => (o env S).bindS env fun a S => match a with
  | .loc l => match S[l]? with
    | some (.ins c fs) => if fs.length < 1000 then .nx env (S.set l (.ins c (putFD f d fs))) else .bad
    | _ => .bad
  | _ => .bad := rfl
end
end DL
end
section
/-! Instances made where no guard stands below. -/
namespace L2
open PySem PySem.Spec PyProof.Rows
variable [DL.Nm]
def tMakeS (C : Addr) (sp : Sp) (E : St → XK) (t : TA) : TE := fun σ H Q => t σ H fun vs H1 => ∀ x dx, H1 x = none → H1 dx = none → dx ≠ x →
  sp (.ref x :: vs) (upd (upd H1 dx (.own x)) x (.ins C dx [])) (fun v H2 => v = .non ∧ Q (.ref x) H2) (E σ)
section
variable {X : Cx} {k : Nat} {f C : Addr} {fd : FuncData} {ps : List Str} {sp : Sp} {E : St → XK} {x : Str} {p pos : Pos} {e : Expr} {es : List Expr} {t : TA} {CX : CXT}
theorem make_guards {A : Around} {us : List Value} {kw : List (Str × Value)} (gd : A.guards = some []) : (A.under (.builtin "type.__call__" ⟨.ref C :: us, kw⟩)).guards = some [] := by
  first
    | exact gd
    | (simpa [Around.under, Code.guards, Code.isGuard, pushGuards, guardIds] using gd)
/-- what a call of the class may let out, at the slots σ, behind the new instance -/
theorem run_makeG {pins : List (Addr × Obj)} {σ : St} {H : Hp} {s : Shared} {Q : VK} {us : List Value} {vs : List V} (M : Mk X.K C f) (F : FnG X.prog X.w X.K X.mg X.base CX k f fd ps sp) (gd : X.A.guards = some []) (hr : Room (k + 1) X.A) (hb : Binds X.K fd ps [])
    (hx : ∀ σ, PassesAt CX X σ (E σ)) (I : Inv X pins σ H s) (r : Vals vs us)
    (h : ∀ x dx, H x = none → H dx = none → dx ≠ x → sp (.ref x :: vs) (upd (upd H dx (.own x)) x (.ins C dx [])) (fun v H2 => v = .non ∧ Q (.ref x) H2) (E σ)) :
    wpAny (model X.prog X.w) X.A (call (.ref C) us) (EP X pins σ Q) X.xe s := by
  have hq := h (s.heap.objs.size + 1) s.heap.objs.size (I.hok.fresh (Nat.le_succ _)) (I.hok.fresh (Nat.le_refl _)) (Nat.ne_of_lt (Nat.lt_succ_self _))
  have I2 := Inv.made (C := C) I
  have r2 : Vals (V.ref (s.heap.objs.size + 1) :: vs) (Value.ref (s.heap.objs.size + 1) :: us) := .cons rfl r
  have hl : (Value.ref (s.heap.objs.size + 1) :: us).length = ps.length := by
    have e := r2.length
    rw [F.len _ _ _ _ hq] at e
    exact e.symm
  have b := hb _ (Value.ref (s.heap.objs.size + 1) :: us) I2.kIn (by rw [List.append_nil]; exact hl)
  rw [List.append_nil] at b
  refine wpAny_call (make_map (f := f) I.kIn M.makes M.init (beq_iff_eq.mp M.fn) (codeAny_mono (F.run _ X.stack _ _ ⟨Value.ref (s.heap.objs.size + 1) :: us, []⟩ (Value.ref (s.heap.objs.size + 1) :: us) _ _ (E σ) (make_guards gd) (hr.make C us [])
    (I2.env0.make C us []) b r2 hq) fun r s' hq' => ?_))
  cases r with
  | error e => exact hx σ pins _ _ e s' I2 hq'
  | ok fl =>
    cases fl with
    | ret u =>
      obtain ⟨v, H', I3, rv, ev, q3⟩ := I2.after hq'
      subst ev
      exact ⟨rv, ⟨V.ref (s.heap.objs.size + 1), H', I3, rfl, q3⟩⟩
    | next => exact False.elim hq'
    | brk => exact False.elim hq'
    | cont => exact False.elim hq'
theorem pe_makeG (M : Mk X.K C f) (F : FnG X.prog X.w X.K X.mg X.base CX k f fd ps sp) (gd : X.A.guards = some []) (hr : Room (k + 1) X.A) (hg : Gl X x) (hm : X.mg x = some (.ref C)) (hb : Binds X.K fd ps []) (hx : ∀ σ, PassesAt CX X σ (E σ))
    (ha : PA X (e :: es) t) (hdb : (x == ("__debug__" : Str)) = false := by decide) (he : starEach (e :: es) X.env = (false, eval e X.env) :: starEach es X.env := by rfl) (hpl : (backTo pos (starEach es X.env)).any (·.1) = false := by rfl) :
    PE X (.Call (.Name x p) (e :: es) [] pos) (tMakeS C sp E t) := by
  refine ⟨fun pins s σ H Q I h => ?_⟩
  refine wpAny_Call_Name_kw (ld_glob I hg hm ?_ hdb)
  refine PySem.W.callWith_K (h₀ := X.base) I.ok.mod.kin M.kp (thn (ha.run pos pins s σ H _ I h) fun us s1 ⟨vs, H1, I1, r, q⟩ => ⟨I1.kIn, ?_⟩) he hpl
  exact run_makeG M F gd hr hb hx I1 r q
end
end L2
namespace DL
open PySem L2
variable [DL.Nm]
variable {G : Glb} {X : Cx} {W : WX}
/-- a class of the module; its __init__ has the value F -/
structure ClsG (G : Glb) (P : Program) (w : World) (mg : Str → Option Value) (base : Heap) (k : Nat) (x : Str) (n : Nat) (F : FD) : Prop where
  ex : ∃ C f fd ps, Mk G.K C f ∧ FnG P w G.K mg base (L2.CX P w) k f fd ps (spD G (n + 1) F) ∧ mg x = some (.ref C) ∧ G.ca x = some C ∧ Binds G.K fd ps []
def eMake (c : Str) (F : FD) (f : LM) : EM := fun env S => (f env S).bindE fun ds S1 => match F (.loc S1.length :: ds) (S1 ++ [.ins c []]) with
  | .ok .non S2 => .ok (.loc S1.length) S2
  | .ex x S2 => .ex x S2
  | _ => .bad
theorem de_make {x : Str} {k n : Nat} {F : FD} {p pos : Pos} {e : Expr} {es : List Expr} {fa : LM} (d : ClsG G X.prog X.w X.mg X.base k x n F) (gd : X.A.guards = some []) (hK : X.K = G.K) (hr : Room (k + 1) X.A) (hg : Gl X x) (tk : Takes X W) (ha : DA G X W (e :: es) fa) (hn : (e :: es).length = n)
    (hla : ∀ env S ds S', fa env S = .ok ds S' → ds.length = n)
    (hdb : (x == ("__debug__" : Str)) = false := by decide) (he : starEach (e :: es) X.env = (false, eval e X.env) :: starEach es X.env := by rfl) (hpl : (backTo pos (starEach es X.env)).any (·.1) = false := by rfl) :
    DE G X W (.Call (.Name x p) (e :: es) [] pos) (eMake x F fa) := by
  obtain ⟨C, f, fd, ps, M, FO, hm, hc, hb⟩ := d.ex
  rw [← hK] at FO M hb
  obtain ⟨t, pt, qt⟩ := ha
  refine ⟨_, pe_makeG M FO gd hr hg hm hb (fun σ => passAt tk σ) pt hdb he hpl, fun σ H env φ S Q s re h => ?_⟩
  refine qt σ H env φ S _ s re ?_
  unfold eMake at h
  cases hf : fa env S with
  | ok ds S1 =>
    rw [hf] at h
    intro φ1 H1 vs e1 s1 i1
    intro a dx ha hdx hne
    have e2 : Ext φ1 H1 φ1 (upd H1 dx (.own a)) := .laid hdx
    have s2 := s1.laid (o := .own a) hdx
    have ha2 : upd H1 dx (.own a) a = none := by rw [upd_ne (Ne.symm hne)]; exact ha
    have e3 := Ext.newCell (o := .ins C dx []) s2 ha2
    have s3 := s2.newCell (c := .ins x []) ha2 ⟨C, dx, [], hc, upd_same, rfl, rfl⟩
    have le : S1.length = φ1.c.length := s1.len.symm
    have get : (φ1.add a).c[S1.length]? = some a := by rw [le]; simp [Fi.add]
    have i3 : IsL G (φ1.add a) (upd (upd H1 dx (.own a)) a (.ins C dx [])) (.loc S1.length :: ds) (.ref a :: vs) := ⟨.ref a, vs, rfl, ⟨a, get, rfl⟩, (i1.ext e2).ext e3⟩
    refine ⟨by rw [List.length_cons, ← i1.length, hla _ _ _ _ hf], φ1.add a, _, _, s3, i3, ?_⟩
    have ee := (e1.trans e2).trans e3
    have h' : ER := F (.loc S1.length :: ds) (S1 ++ [.ins x []])
    change PostE G W φ H σ (match F (.loc S1.length :: ds) (S1 ++ [.ins x []]) with | .ok .non S2 => .ok (.loc S1.length) S2 | .ex x S2 => .ex x S2 | _ => .bad) Q at h
    cases hF : F (.loc S1.length :: ds) (S1 ++ [.ins x []]) with
    | ok d2 S2 =>
      rw [hF] at h
      cases d2 with
      | non =>
        intro φ4 H4 v e4 s4 i4
        refine ⟨i4, ?_⟩
        exact h φ4 H4 (.ref a) (ee.trans e4) s4 ⟨a, e4.get get, rfl⟩
      | _ => exact h.elim
    | ex x2 S2 =>
      rw [hF] at h
      exact PostE.ext (r := .ex x2 S2) ee h
    | bad => rw [hF] at h; exact h.elim
  | ex x2 S1 => rw [hf] at h; exact h
  | bad => rw [hf] at h; exact h
end DL
end
section
/-! Instances made with keywords; defs with defaults. -/
namespace L2
open PySem PySem.Spec PyProof.Rows
variable [DL.Nm]
section
variable {P : Program} {w : World} {K : PySem.W.Frag} {mg : Str → Option Value} {base : Heap}
end
section
variable {X : Cx} {CX : CXT} {k n : Nat} {f C : Addr} {fd : FuncData} {ps ks : List Str} {sp : Sp} {E : St → XK} {x : Str} {p pos : Pos} {e : Expr} {es : List Expr} {kws : List Keyword} {t tk : TA} {g : List Value → List Value → List Value} {gV : List V → List V → List V}
end
end L2
namespace DL
open PySem L2
variable [DL.Nm]
variable {G : Glb} {X : Cx} {W : WX}
/-- a class whose __init__ takes n values and keywords ks behind -/
structure ClsK (G : Glb) (P : Program) (w : World) (mg : Str → Option Value) (base : Heap) (k : Nat) (x : Str) (n : Nat) (ks : List Str) (F : FD) : Prop where
  ex : ∃ C f fd ps g, Mk G.K C f ∧ FnG P w G.K mg base (L2.CX P w) k f fd ps (spD G (n + 1 + ks.length) F) ∧ mg x = some (.ref C) ∧ G.ca x = some C ∧ KBn G.K fd ps (n + 1) ks g (fun vs zs => vs ++ zs)
end DL
end
section
/-! D-layer: a def with defaults (an __init__ with keywords), told by its value. -/
namespace DL
open PySem L2 PyProof.Rows
variable [DL.Nm]
end DL
end
section
/-! Defs called with keywords. -/
namespace L2
open PySem PySem.Spec PyProof.Rows
variable [DL.Nm]
section
variable {X : Cx} {CX : CXT} {k n : Nat} {f : Addr} {fd : FuncData} {ps ks : List Str} {sp : Sp} {E : St → XK} {x : Str} {p pos : Pos} {e : Expr} {es : List Expr} {kws : List Keyword} {t tk : TA} {g : List Value → List Value → List Value} {gV : List V → List V → List V}
end
end L2
namespace DL
open PySem L2
variable [DL.Nm]
variable {G : Glb} {X : Cx} {W : WX}
/-- a def called with n values and keywords ks behind, in the parameters' order -/
structure DefK (G : Glb) (P : Program) (w : World) (mg : Str → Option Value) (base : Heap) (k : Nat) (x : Str) (n : Nat) (ks : List Str) (F : FD) : Prop where
  ex : ∃ f fd ps g, FnG P w G.K mg base (L2.CX P w) k f fd ps (spD G (n + ks.length) F) ∧ mg x = some (.ref f) ∧ PySem.W.keepIn G.K (.ref f) = true ∧ KBn G.K fd ps n ks g (fun vs zs => vs ++ zs)
end DL
end
section
/-! Defs called with keywords, some of them left out: the values in the parameters' order. -/
namespace DL
open PySem L2
variable [DL.Nm]
variable {G : Glb} {X : Cx} {W : WX}
/-- a def called with n values and keywords ks: m parameters, their values gD -/
structure DefKN (G : Glb) (P : Program) (w : World) (mg : Str → Option Value) (base : Heap) (k : Nat) (x : Str) (n : Nat) (ks : List Str) (m : Nat) (gD : List D → List D → List D) (F : FD) : Prop where
  ex : ∃ f fd ps g gV, FnG P w G.K mg base (L2.CX P w) k f fd ps (spD G m F) ∧ mg x = some (.ref f) ∧ PySem.W.keepIn G.K (.ref f) = true ∧ KBn G.K fd ps n ks g gV ∧
    ∀ {φ : Fi} {H : Hp} {ds es : List D} {vs zs : List V}, ds.length = n → es.length = ks.length → IsL G φ H ds vs → IsL G φ H es zs → IsL G φ H (gD ds es) (gV vs zs) ∧ (gD ds es).length = m
end DL
end
section
/-! A def with keyword-only defaults, told of K; its calls by keywords. -/
namespace DL
open PySem L2 PyProof.Rows
variable [DL.Nm]
section
variable {K : PySem.W.Frag}
end
/-- data as values: what defaults are -/
def dV : D → V
  | .non => .non
  | .bl b => .bl b
  | .int i => .int i
  | .str x => .str x
  | _ => .non
end DL
end
section
/-! A def with keyword-only defaults: what a call by keywords asks (DefKN). -/
namespace DL
open PySem L2 PyProof.Rows
variable [DL.Nm]
end DL
end
section
/-! D-layer, part 18: text.split(text). -/
namespace DL
open PySem L2
variable [DL.Nm]
variable {G : Glb} {X : Cx} {W : WX}
theorem isL_strs {φ : Fi} {H : Hp} : ∀ xs : List Str, IsL G φ H (xs.map .str) (xs.map V.str)
  | [] => rfl
  | x :: xs => ⟨.str x, _, rfl, rfl, isL_strs xs⟩
def mSplit (o : D) (ds : List D) (S : Store) : ER := match o, ds with
  | .str a, [.str b] => if (b.length == 0) = false ∧ a.length ≤ 10000000 then .ok (.lst ((Txt.split a b).map .str)) S else .bad
  | _, _ => .bad
theorem dm_split : DMeth G X "str.split" mSplit := by
  refine ⟨_, mt_split, fun W φ S H σ dx ds x xs Q s ix ids h => ?_⟩
  unfold mSplit at h
  split at h
  · rename_i a b
    obtain ⟨y, rfl, k⟩ := IsL.inv1 ids
    cases (show y = _ from k)
    split at h
    · rename_i c
      refine ⟨a, b, ix, rfl, c.1, by rw [sizeLine_eq]; omega, ?_⟩
      intro p hp
      exact lst_new s (isL_strs _) h hp
    · exact bad_no h
  · exact bad_no h
end DL
end
section
/-! D-layer, part 19: list(d.items()), d a dict that may be locked. -/
namespace DL
open PySem PySem.Spec PyProof.Rows L2
variable [DL.Nm]
section
variable {X : Cx} {e : Expr} {te : TE} {p apos cpos pos : Pos}
end
variable {G : Glb} {X : Cx} {W : WX}
theorem Ext.grown {φ : Fi} {H H' : Hp} (h : ∀ b o, H b = some o → H' b = some o) : Ext φ H φ H' :=
  ⟨⟨[], by simp, fun _ q => by simp at q⟩, rfl, fun b o _ e => .inl (.inl (h b o e))⟩
end DL
end
section
/-! Own classes: isinstance with both answers, methods. -/
namespace L2
open PySem PySem.Spec PyProof.Rows
variable [DL.Nm]
/-- types, wider still -/
inductive TyZ (K : PySem.W.Frag) (H : Hp) : V → Value → Prop where
  | x {v : V} {t : Value} (h : TyX K H v t) : TyZ K H v t
  | fT {a : Addr} {o : Obj} {kvs : List (List Key × V)} (e : H a = some (.frz o (.dT kvs))) : TyZ K H (.ref a) (.type "dict")
theorem kit_ofZ {X : Cx} {pins : List (Addr × Obj)} {σ : St} {H : Hp} {s : Shared} {v : V} {u t : Value} (I : Inv X pins σ H s) (rx : RelV v u) (ty : TyZ X.K H v t) : ∃ P : Heap → Prop, PySem.W.KitX X.K u t P ∧ P s.heap ∧ u ≠ .builtin "__main__.__loader__#opaque" := by
  cases ty with
  | x h => exact kit_of I rx h
  | @fT a ob kvs ea =>
    cases (show u = Value.ref a from rx)
    obtain ⟨_, q⟩ := I.hok a _ ea
    obtain ⟨_, _, xs, _, o, es, ep, h1, h2, _⟩ := (show ObjOk X.prog X.w H s.heap a (.dT kvs) from q)
    exact ⟨_, PySem.W.kitx_dict, ⟨o, h1, h2.1⟩, fun z => nomatch z⟩
def rIsZ (K : PySem.W.Frag) : List V → Hp → VK → Prop := fun xs H Q => ∃ (x c : V) (t u : Value) (b : Bool), xs = [x, c] ∧ ClsV c u ∧ TyZ K H x t ∧ PySem.W.kitOne K t u = some b ∧ Q (.bl b) H
def rIsZT (K : PySem.W.Frag) : List V → Hp → VK → Prop := fun xs H Q => ∃ (x : V) (tp : Addr) (cs : List V) (t : Value) (us : List Value) (b : Bool), xs = [x, .ref tp] ∧ H tp = some (.tup cs) ∧ Paired ClsV cs us ∧ TyZ K H x t ∧ PySem.W.kitAny K t us = some b ∧ Q (.bl b) H
section
variable {X : Cx}
theorem call_isZ : CallR X (.builtin "isinstance") (rIsZ X.K) := by
  intro pins s σ H xs us Q I r h
  obtain ⟨x, c, t, u, b, rfl, k, ty, e, q⟩ := h
  obtain ⟨w1, w2, rfl, p1, p2⟩ := vals2 r
  cases k.eq p2
  obtain ⟨P, Z, p, hx⟩ := kit_ofZ I p1 ty
  exact PySem.W.kia_one Z I.kIn p e hx fun tk => ⟨.bl b, H, I.tok tk, rfl, q⟩
theorem call_isZT : CallR X (.builtin "isinstance") (rIsZT X.K) := by
  intro pins s σ H xs us Q I r h
  obtain ⟨x, tp, cs, t, ws, b, rfl, hT, k, ty, e, q⟩ := h
  obtain ⟨w1, w2, rfl, p1, p2⟩ := vals2 r
  cases (show w2 = Value.ref tp from p2)
  obtain ⟨P, Z, p, hx⟩ := kit_ofZ I p1 ty
  obtain ⟨_, its, rv, o, h1, h2, n, h3⟩ := (show ObjOk X.prog X.w H s.heap tp (.tup cs) from I.hok tp _ hT)
  cases ClsV.all k rv
  obtain ⟨oc, od, dt, sl⟩ := o
  dsimp only at h2 h3
  subst h2 h3
  exact PySem.W.kia_tup Z I.kIn p h1 e hx fun tk => ⟨.bl b, H, I.tok tk, rfl, q⟩
end
/-! ### methods, where no guard stands below -/
section
variable {X : Cx} {CX : CXT} {k : Nat} {m : Str} {E : St → XK} {pos apos : Pos} {e o : Expr} {es : List Expr} {ta : TE} {t : TA} {Ok : Addr → Addr → Sp → Prop}
end
end L2
namespace DL
open PySem L2
variable [DL.Nm]
variable {G : Glb} {X : Cx} {W : WX}
/-! ### isinstance -/
/-- built-in types, own classes, own exceptions, built-in exceptions -/
inductive TyD where
  | b (t : Ty) | o (c : Str) | x (c : Str)
def ClD (G : Glb) : TyD → Value → Prop
  | .b t, v => v = .type t.nm
  | .o c, v => ∃ C, G.ca c = some C ∧ v = .ref C
  | .x _, _ => False
/-- what isinstance asks of an own class -/
structure OwnC (K : PySem.W.Frag) (C : Addr) : Prop where
  cl : Cls K C
  ha : PySem.W.findIn K (.ref C) "__class__" = some (some (.builtin "object.__class__"))
  hn : PySem.W.specialIn K (.builtin "object.__class__") "__get__" = some (some (.builtin "getset_descriptor.__get__"))
  ht : PySem.W.takesIn K (.builtin "object.__class__") = some true
  hm : PySem.W.mroIn K C (.type "object") = some true
def tyO (S : Store) : D → Option TyD
  | .obj c _ _ => some (.o c)
  | .dct _ _ => some (.b .dict)
  | .loc l => match S[l]? with
    | some (.ins c _) => some (.o c)
    | some (.lst _) => some (.b .list)
    | some (.dic _) => some (.b .dict)
    | some (.dct _) => some (.b .dict)
    | none => none
  | d => (tyOf S d).map .b
theorem tyO_is (hc : ∀ c C, G.ca c = some C → OwnC G.K C) {φ : Fi} {S : Store} {H : Hp} {d : D} {v : V} {t : TyD} (s : SOk G φ S H) (i : Is G φ H d v) (e : tyO S d = some t) : ∃ tv, ClD G t tv ∧ TyZ G.K H v tv := by
  have old : ∀ {d : D} {v : V}, Is G φ H d v → (tyOf S d).map TyD.b = some t → ∃ tv, ClD G t tv ∧ TyZ G.K H v tv := fun i e => by
    obtain ⟨a, e1, e2⟩ := Option.map_eq_some_iff.mp e
    subst e2
    exact ⟨_, rfl, .x (tyOf_is s i e1)⟩
  have own : ∀ {c : Str} {C a dx : Addr} {fs : List (Str × V)}, G.ca c = some C → H a = some (.ins C dx fs) → ∃ tv, ClD G (.o c) tv ∧ TyZ G.K H (.ref a) tv := fun {c C a dx fs} h1 h2 => by
    have q := hc c C h1
    exact ⟨_, ⟨C, h1, rfl⟩, .x (.base (.ins h2 q.cl q.ha q.hn q.ht q.hm))⟩
  cases d with
  | obj c ks ds =>
    cases e
    obtain ⟨a, C, dx, fs, rfl, ⟨_, h⟩, h1, _⟩ := i
    exact own h1 h
  | dct ks ds =>
    cases e
    obtain ⟨a, xs, rfl, ⟨_, r | ⟨o, r⟩⟩, _⟩ := i
    · exact ⟨_, rfl, .x (.base (.dT r))⟩
    · exact ⟨_, rfl, .fT r⟩
  | loc l =>
    simp only [tyO] at e
    split at e
    · rename_i c fs hl
      cases e
      obtain ⟨a, ha, rfl⟩ := i
      obtain ⟨C, dx, ws, h1, h2, _⟩ := s.at_ hl ha
      exact own h1 h2
    all_goals first | (cases e; done) | (rename_i hl; exact old (d := .loc l) i (by simp only [tyOf]; rw [hl]; exact e))
  | exn c ks ds => cases e
  | tpl ds => exact old i e
  | non => exact old i e
  | bl b => exact old i e
  | int b => exact old i e
  | str b => exact old i e
  | tup b => exact old i e
  | lst b => exact old i e
  | dic ks b => exact old i e
/-- what a class says of things -/
structure IsT (G : Glb) (u : Value) (tab : TyD → Option Bool) : Prop where
  ok : ∀ t tv r, ClD G t tv → tab t = some r → PySem.W.kitOne G.K tv u = some r
def tabB (b : Ty) : TyD → Option Bool
  | .b t => some (t.isa b)
  | _ => some false
def tabO (c0 : Str) : TyD → Option Bool
  | .o c => some (decide (c = c0))
  | _ => some false
theorem kit_ref {K : PySem.W.Frag} {C : Addr} {t : Value} {b : Bool} (h1 : PySem.W.isClsIn K C = true) (h2 : PySem.W.typeIn K (.ref C) = some (.type "type")) (h3 : PySem.W.subIn K t (.ref C) = some b) (h4 : t = .ref C → b = true) : PySem.W.kitOne K t (.ref C) = some b := by
  unfold PySem.W.kitOne
  split
  · rename_i z
    rw [h4 (beq_iff_eq.mp z)]
  · unfold PySem.W.kitCls
    dsimp only
    rw [if_pos]
    · exact h3
    · rw [Bool.and_eq_true]
      exact ⟨h1, beq_iff_eq.mpr h2⟩
theorem kit_type {K : PySem.W.Frag} {C : Addr} {T : String} {b : Bool} (hT : PySem.W.kitMeta T = true) (h3 : PySem.W.mroIn K C (.type T) = some b) : PySem.W.kitOne K (.ref C) (.type T) = some b := by
  unfold PySem.W.kitOne
  rw [if_neg (by intro z; exact nomatch beq_iff_eq.mp z)]
  unfold PySem.W.kitCls
  dsimp only
  rw [if_pos hT]
  exact h3
theorem isT_b (b : Ty) (hb : b ≠ .none) (ho : ∀ c C, G.ca c = some C → PySem.W.mroIn G.K C (.type b.nm) = some false) : IsT G (.type b.nm) (tabB b) := by
  have hM : PySem.W.kitMeta b.nm = true := by cases b <;> first | exact absurd rfl hb | decide +kernel
  refine ⟨fun t tv r h1 h2 => ?_⟩
  cases t with
  | b t => cases (show tv = _ from h1); cases h2; exact kit_ty (ty_kit t b hb)
  | o c => obtain ⟨C, e1, rfl⟩ := h1; cases h2; exact kit_type hM (ho c C e1)
  | x c => exact False.elim h1
theorem isT_o {c0 : Str} {C0 : Addr} (h0 : G.ca c0 = some C0) (h1 : PySem.W.isClsIn G.K C0 = true) (h2 : PySem.W.typeIn G.K (.ref C0) = some (.type "type")) (ho : ∀ c C, G.ca c = some C → PySem.W.mroIn G.K C (.ref C0) = some (decide (c = c0))) :
    IsT G (.ref C0) (tabO c0) := by
  have self : PySem.W.mroIn G.K C0 (.ref C0) = some true := by rw [ho c0 C0 h0, decide_eq_true rfl]
  refine ⟨fun t tv r q1 q2 => ?_⟩
  cases t with
  | b t =>
    cases (show tv = _ from q1); cases q2
    refine kit_ref h1 h2 ?_ (fun z => nomatch z)
    cases t <;> rfl
  | o c =>
    obtain ⟨C, e1, rfl⟩ := q1; cases q2
    refine kit_ref h1 h2 (ho c C e1) fun z => ?_
    have e := Value.ref.inj z
    subst e
    have a := ho c C e1
    rw [self] at a
    exact (Option.some.inj a).symm
  | x c => exact False.elim q1
theorem ca_all {l : List (Str × Addr)} {P : Str → Addr → Prop} (h : ∀ p ∈ l, P p.1 p.2) : ∀ c C, l.lookup c = some C → P c C := by
  intro c C e
  induction l with
  | nil => cases e
  | cons p r ih =>
    obtain ⟨c1, C1⟩ := p
    rw [List.lookup_cons] at e
    cases hb : c == c1 with
    | true =>
      rw [hb] at e; cases e
      have : c = c1 := beq_iff_eq.mp hb
      subst this
      exact h _ List.mem_cons_self
    | false => rw [hb] at e; exact ih (fun p hp => h p (List.mem_cons_of_mem _ hp)) e
def eIsC (tab : TyD → Option Bool) (f : EM) : EM := fun env S => (f env S).bind fun d S => match (tyO S d).bind tab with
  | some b => .ok (.bl b) S
  | none => .bad
/-- a class, written by its name -/
structure CName (X : Cx) (x : Str) (v : V) (u : Value) : Prop where
  pe : ∀ pos : Pos, PE X (.Name x pos) (tC v)
  cv : ClsV v u
theorem cn_ty {x : Str} {T : String} (hg : Gl X x) (hm : X.mg x = none) (hv : bootBuiltins x = some (.type T)) (hn : x ≠ "__name__" := by decide) (hdb : (x == ("__debug__" : Str)) = false := by decide) : CName X x (.ty T) (.type T) :=
  ⟨fun _ => pe_bltn hg hm hv rfl hn hdb, .ty T⟩
theorem cn_own {x : Str} {C : Addr} (hg : Gl X x) (hm : X.mg x = some (.ref C)) (hd : (x == ("__debug__" : Str)) = false := by decide) : CName X x (.ref C) (.ref C) :=
  ⟨fun _ => pe_glob hg hm rfl hd, .own C⟩
theorem de_isC {x : Str} {v : V} {u : Value} {tab : TyD → Option Bool} {e : Expr} {p p2 pos : Pos} {f : EM} (hK : X.K = G.K) (hc : ∀ c C, G.ca c = some C → OwnC G.K C) (ist : IsT G u tab) (cn : CName X x v u) (hg : Gl X "isinstance") (hm : X.mg "isinstance" = none) (he : DE G X W e f)
    (hst : starEach [e, .Name x p2] X.env = (false, eval e X.env) :: starEach [.Name x p2] X.env := by rfl) (hst2 : starEach [.Name x p2] X.env = (false, eval (.Name x p2) X.env) :: starEach [] X.env := by rfl) (hpl : (backTo pos (starEach [.Name x p2] X.env)).any (·.1) = false := by rfl) :
    DE G X W (.Call (.Name "isinstance" p) [e, .Name x p2] [] pos) (eIsC tab f) := by
  obtain ⟨t, pt, qt⟩ := he
  refine ⟨_, pe_callB call_isZ hg hm (by decide +kernel) (pa_cons pt (pa_cons (cn.pe p2) pa_nil hst2) hst) (by decide) (by decide) hst hpl, fun σ H env φ S Q s re h => ?_⟩
  refine qt σ H env φ S _ s re (PostE.bind h fun d S1 φ1 H1 y e1 s1 i1 h1 => ?_)
  split at h1
  · rename_i b hb
    obtain ⟨t, ht, hb⟩ := Option.bind_eq_some_iff.mp hb
    obtain ⟨tv, c1, c2⟩ := tyO_is hc s1 i1 ht
    exact ⟨y, v, tv, u, b, rfl, cn.cv, by rw [hK]; exact c2, by rw [hK]; exact ist.ok t tv b c1 hb, h1.now s1 rfl⟩
  · exact False.elim h1
def tabF : TyD → Option Bool := fun _ => some false
def tabOr (a b : TyD → Option Bool) : TyD → Option Bool := fun t => match a t with
  | some true => some true
  | some false => b t
  | none => none
@[simp] theorem tabF_is {t : TyD} : tabF t = some false := rfl
@[simp] theorem tabOr_is {a b : TyD → Option Bool} {t : TyD} : tabOr a b t = match a t with
  | some true => some true
  | some false => b t
  | none => none := rfl
/-- isinstance(e, (A, B, ..)) -/
inductive CNames (G : Glb) (X : Cx) : List Expr → List V → List Value → (TyD → Option Bool) → Prop where
  | nil : CNames G X [] [] [] tabF
  | cons {x : Str} {pos : Pos} {v : V} {u : Value} {tab tab2 : TyD → Option Bool} {es : List Expr} {vs : List V} {us : List Value} (cn : CName X x v u) (ist : IsT G u tab) (r : CNames G X es vs us tab2)
      (hs : starEach (.Name x pos :: es) X.env = (false, eval (.Name x pos) X.env) :: starEach es X.env := by rfl) : CNames G X (.Name x pos :: es) (v :: vs) (u :: us) (tabOr tab tab2)
theorem CNames.pa {es : List Expr} {vs : List V} {us : List Value} {tab : TyD → Option Bool} (c : CNames G X es vs us tab) : ∃ t, PA X es t ∧ ∀ σ H Q, Q vs H → t σ H Q := by
  induction c with
  | nil => exact ⟨_, pa_nil, fun _ _ _ h => h⟩
  | cons cn ist r hs ih =>
    obtain ⟨t, h1, h2⟩ := ih
    exact ⟨_, pa_cons (cn.pe _) h1 hs, fun σ H Q h => h2 σ H _ h⟩
theorem CNames.vs {es : List Expr} {vs : List V} {us : List Value} {tab : TyD → Option Bool} (c : CNames G X es vs us tab) : Paired ClsV vs us := by
  induction c with
  | nil => exact .nil
  | cons cn ist r hs ih => exact .cons cn.cv ih
theorem CNames.len {es : List Expr} {vs : List V} {us : List Value} {tab : TyD → Option Bool} (c : CNames G X es vs us tab) : vs.length = es.length := by
  induction c with
  | nil => rfl
  | cons cn ist r hs ih => simp [ih]
theorem CNames.any {es : List Expr} {vs : List V} {us : List Value} {tab : TyD → Option Bool} (c : CNames G X es vs us tab) : ∀ {t : TyD} {tv : Value} {b : Bool}, ClD G t tv → tab t = some b → PySem.W.kitAny G.K tv us = some b := by
  induction c with
  | nil => intro t tv b _ h; cases h; rfl
  | @cons x pos v u tab tab2 es vs us cn ist r hs ih =>
    intro t tv b h1 h2
    unfold PySem.W.kitAny
    unfold tabOr at h2
    cases h3 : tab t with
    | none => rw [h3] at h2; cases h2
    | some b1 =>
      rw [h3] at h2
      rw [ist.ok t tv b1 h1 h3]
      cases b1 with
      | true => exact h2
      | false => exact ih h1 h2
theorem de_isCs {es : List Expr} {vs : List V} {us : List Value} {tab : TyD → Option Bool} {e : Expr} {kt} {p p4 pos : Pos} {f : EM} (hK : X.K = G.K) (hc : ∀ c C, G.ca c = some C → OwnC G.K C) (cn : CNames G X es vs us tab) (hl : es.length ≤ 16777216) (hg : Gl X "isinstance") (hm : X.mg "isinstance" = none) (he : DE G X W e f)
    (hst : starEach [e, .Tuple es kt p4] X.env = (false, eval e X.env) :: starEach [.Tuple es kt p4] X.env := by rfl)
    (hst2 : starEach [.Tuple es kt p4] X.env = (false, eval (.Tuple es kt p4) X.env) :: starEach [] X.env := by rfl) (hpl : (backTo pos (starEach [.Tuple es kt p4] X.env)).any (·.1) = false := by rfl) :
    DE G X W (.Call (.Name "isinstance" p) [e, .Tuple es kt p4] [] pos) (eIsC tab f) := by
  obtain ⟨t, pt, qt⟩ := he
  obtain ⟨tt, ptt, qtt⟩ := cn.pa
  refine ⟨_, pe_callB call_isZT hg hm (by decide +kernel) (pa_cons pt (pa_cons (pe_tup ptt) pa_nil hst2) hst) (by decide) (by decide) hst hpl, fun σ H env φ S Q s re h => ?_⟩
  refine qt σ H env φ S _ s re (PostE.bind h fun d S1 φ1 H1 y e1 s1 i1 h1 => ?_)
  split at h1
  · rename_i b hb
    obtain ⟨t, ht, hb⟩ := Option.bind_eq_some_iff.mp hb
    refine qtt _ _ _ ⟨by rw [cn.len]; exact sizeLine_is hl, fun p hp => ?_⟩
    have e2 : Ext φ1 H1 φ1 (upd H1 p (.tup vs)) := .laid hp
    have s2 := s1.laid (o := .tup vs) hp
    obtain ⟨tv, c1, c2⟩ := tyO_is hc s2 (i1.ext e2) ht
    exact ⟨y, p, vs, tv, us, b, rfl, upd_same, cn.vs, by rw [hK]; exact c2, by rw [hK]; exact cn.any c1 hb, PostE.now (PostE.ext (r := .ok (.bl b) S1) e2 h1) s2 rfl⟩
  · exact False.elim h1
section
variable {S : Store} {env : EnvD}
@[simp] theorem eIsC_is {tab : TyD → Option Bool} {f : EM} : eIsC tab f env S = (f env S).bind fun d S => match (tyO S d).bind tab with
  | some b => .ok (.bl b) S
  | none => .bad := rfl
@[simp] theorem tyO_obj {c ks ds} : tyO S (.obj c ks ds) = some (.o c) := rfl
@[simp] theorem tyO_non : tyO S .non = some (.b .none) := rfl
@[simp] theorem tyO_bl {b} : tyO S (.bl b) = some (.b .bool) := rfl
@[simp] theorem tyO_int {b} : tyO S (.int b) = some (.b .int) := rfl
@[simp] theorem tyO_str {b} : tyO S (.str b) = some (.b .str) := rfl
@[simp] theorem tyO_tup {b} : tyO S (.tup b) = some (.b .tuple) := rfl
@[simp] theorem tyO_lst {b} : tyO S (.lst b) = some (.b .list) := rfl
@[simp] theorem tyO_dic {k b} : tyO S (.dic k b) = some (.b .dict) := rfl
@[simp] theorem tyO_dct {k b} : tyO S (.dct k b) = some (.b .dict) := rfl
@[simp] theorem tyO_loc {l : Nat} : tyO S (.loc l) = match cel S l with
    | some (.ins c _) => some (.o c)
    | some (.lst _) => some (.b .list)
    | some (.dic _) => some (.b .dict)
    | some (.dct _) => some (.b .dict)
    | none => none := rfl
@[simp] theorem tabB_b {a b : Ty} : tabB b (.b a) = some (a.isa b) := rfl
@[simp] theorem tabB_o {c} {b : Ty} : tabB b (.o c) = some false := rfl
@[simp] theorem tabB_x {c} {b : Ty} : tabB b (.x c) = some false := rfl
@[simp] theorem tabO_b {a : Ty} {c} : tabO c (.b a) = some false := rfl
@[simp] theorem tabO_o {c c'} : tabO c (.o c') = some (decide (c' = c)) := rfl
@[simp] theorem tabO_x {c c'} : tabO c (.x c') = some false := rfl
end
end DL
end
section
/-! Methods of own classes and new instances, over data. -/
namespace L2
open PySem PySem.Spec PyProof.Rows
variable [DL.Nm]
section
variable {X : Cx} {k : Nat} {f C : Addr} {fd : FuncData} {ps : List Str} {sp : Sp} {E : St → XK} {x : Str} {p pos : Pos} {CX : CXT}
end
end L2
namespace DL
open PySem L2
variable [DL.Nm]
variable {G : Glb} {X : Cx} {W : WX}
/-! ### o.f, o.f = e where the classes are told -/
structure FldOk (G : Glb) (f : Str) (cs : List Str) : Prop where
  ok : ∀ c ∈ cs, ∀ C, G.ca c = some C → Cls G.K C ∧ NoAttr G.K C f
def fldC (S : Store) (d : D) (f : Str) : Option (Str × D) := match d with
  | .obj c ks ds => ((ks.zip ds).lookup f).map fun x => (c, x)
  | .loc l => match S[l]? with
    | some (.ins c fs) => (fs.lookup f).map fun x => (c, x)
    | _ => none
  | _ => none
def eFldC (cs : List Str) (f : Str) (e : EM) : EM := fun env S => (e env S).bind fun d S => match fldC S d f with
  | some (c, x) => if c ∈ cs then .ok x S else .bad
  | none => .bad
def sFldC (cs : List Str) (f : Str) (o e : EM) : SM := fun env S => (e env S).bindS env fun d S => (o env S).bindS env fun a S => match a with
  | .loc l => match S[l]? with
    | some (.ins c fs) => if c ∈ cs ∧ fs.length < 1000 then .nx env (S.set l (.ins c (putFD f d fs))) else .bad
    | _ => .bad
  | _ => .bad
theorem put_fld {φ : Fi} {H : Hp} {S : Store} {l : Nat} {c f : Str} {fs : List (Str × D)} {d : D} {v va : V} {cs : List Str} (k : FldOk G f cs) (s : SOk G φ S H) (hc : S[l]? = some (.ins c fs)) (hm : c ∈ cs) (hl : fs.length < 1000) (i : Is G φ H d v) (ia : Is G φ H (.loc l) va) :
    ∃ a C dx ws, va = .ref a ∧ H a = some (.ins C dx ws) ∧ Cls G.K C ∧ NoAttr G.K C f ∧ ws.length < 1000 ∧ Ext φ H φ (upd H a (.ins C dx (putF f v ws))) ∧ SOk G φ (S.set l (.ins c (putFD f d fs))) (upd H a (.ins C dx (putF f v ws))) := by
  obtain ⟨ad, ha, rfl⟩ := ia
  obtain ⟨C, dx, ws, hcl, hh, hk, q⟩ := s.at_ hc ha
  obtain ⟨k1, k2⟩ := k.ok c hm C hcl
  have wl : ws.length = fs.length := by have := congrArg List.length hk; simpa using this
  have e3 := Ext.put (φ := φ) (H := H) (o := .ins C dx (putF f v ws)) (List.mem_of_getElem? ha)
  obtain ⟨p1, p2⟩ := putF_is (f := f) i hk q
  exact ⟨ad, C, dx, ws, rfl, hh, k1, k2, by omega, e3, s.put ha ⟨C, dx, _, hcl, upd_same, p1, p2.ext e3⟩⟩
theorem ds_fldC {o e : Expr} {f : Str} {pos pos' : Pos} {fo fe : EM} {cs : List Str} (hK : X.K = G.K) (k : FldOk G f cs) (he : DE G X W e fe) (ho : DE G X W o fo) (hs : swapsWith e (some (.Attribute o f pos')) pos.line X.env = pure false := by rfl) :
    DS G X W (.Assign [.Attribute o f pos'] e pos) (sFldC cs f fo fe) := by
  obtain ⟨to, po, qo⟩ := ho
  obtain ⟨te, pe, qe⟩ := he
  refine ⟨_, ps_fld po pe hs, fun σ H env φ S N s re h => ?_⟩
  refine qe σ H env φ S _ s re (PostE.bindS re h fun d S1 φ1 H1 v e1 s1 i1 h1 => ?_)
  have r1 := re.ext e1
  refine qo σ H1 env φ1 S1 _ s1 r1 (PostE.bindS r1 h1 fun a S2 φ2 H2 va e2 s2 i2 h2 => ?_)
  have r2 := r1.ext e2
  split at h2
  · rename_i l
    split at h2
    · rename_i c fs hc
      split at h2
      · rename_i hl
        obtain ⟨a, C, dx, ws, rfl, hh, k1, k2, wl, e3, s3⟩ := put_fld k s2 hc hl.1 hl.2 (i1.ext e2) i2
        rw [← hK] at k1 k2
        exact ⟨a, C, dx, ws, rfl, hh, k1, k2, wl, h2 φ2 _ σ e3 s3 (r2.ext e3)⟩
      · exact h2.elim
    · exact h2.elim
  · exact h2.elim
/-! ### o.m(..) -/
structure MethG (G : Glb) (P : Program) (w : World) (mg : Str → Option Value) (base : Heap) (k : Nat) (c m : Str) (n : Nat) (F : FD) : Prop where
  ex : ∃ C f fd ps, G.ca c = some C ∧ Cls G.K C ∧ Meth G.K C m f ∧ FnG P w G.K mg base (L2.CX P w) k f fd ps (spD G (n + 1) F) ∧ Binds G.K fd ps []
/-- the class of an instance, its attributes' names -/
def insD (S : Store) (d : D) : Option (Str × List Str) := match d with
  | .obj c ks ds => if ks.length = ds.length then some (c, ks) else none
  | .loc l => match S[l]? with
    | some (.ins c fs) => some (c, fs.map (·.1))
    | _ => none
  | _ => none
def eMethO (c m : Str) (F : FD) (o : EM) (f : LM) : EM := fun env S => (o env S).bind fun x S => match insD S x with
  | some (c', ks) => if c' = c ∧ m ∉ ks then (f env S).bindE fun ds S => F (x :: ds) S else .bad
  | none => .bad
/-! ### C() and C(.., k = v) with keywords left out -/
/-- m: how many values __init__ takes beside self; gD: these from what is written -/
structure ClsKN (G : Glb) (P : Program) (w : World) (mg : Str → Option Value) (base : Heap) (k : Nat) (x : Str) (n : Nat) (ks : List Str) (m : Nat) (gD : List D → List D → List D) (F : FD) : Prop where
  ex : ∃ C f fd ps g gV, Mk G.K C f ∧ FnG P w G.K mg base (L2.CX P w) k f fd ps (spD G m F) ∧ mg x = some (.ref C) ∧ G.ca x = some C ∧ KBn G.K fd ps (n + 1) ks g gV ∧
    ∀ {φ : Fi} {H : Hp} {ds es : List D} {vs zs : List V}, ds.length = n + 1 → es.length = ks.length → IsL G φ H ds vs → IsL G φ H es zs → IsL G φ H (gD ds es) (gV vs zs) ∧ (gD ds es).length = m
def eMakeKN (c : Str) (gD : List D → List D → List D) (F : FD) (f fk : LM) : EM := fun env S => (f env S).bindE fun ds S0 => (fk env S0).bindE fun es S1 => match F (gD (.loc S1.length :: ds) es) (S1 ++ [.ins c []]) with
  | .ok .non S2 => .ok (.loc S1.length) S2
  | .ex x S2 => .ex x S2
  | _ => .bad
section
variable {S : Store} {env : EnvD}
@[simp] theorem eFldC_is {cs : List Str} {f : Str} {e : EM} : eFldC cs f e env S = (e env S).bind fun d S => match fldC S d f with
  | some (c, x) => if c ∈ cs then .ok x S else .bad
  | none => .bad := rfl
@[simp] theorem sFldC_is {cs : List Str} {f : Str} {o e : EM} : sFldC cs f o e env S = (e env S).bindS env fun d S => (o env S).bindS env fun a S => match a with
  | .loc l => match S[l]? with
    | some (.ins c fs) => if c ∈ cs ∧ fs.length < 1000 then .nx env (S.set l (.ins c (putFD f d fs))) else .bad
    | _ => .bad
  | _ => .bad := rfl
@[simp] theorem eMethO_is {c m : Str} {F : FD} {o : EM} {f : LM} : eMethO c m F o f env S = (o env S).bind fun x S => match insD S x with
  | some (c', ks) => if c' = c ∧ m ∉ ks then (f env S).bindE fun ds S => F (x :: ds) S else .bad
  | none => .bad := rfl
@[simp] theorem eMake_is {c : Str} {F : FD} {f : LM} : eMake c F f env S = (f env S).bindE fun ds S1 => match F (.loc S1.length :: ds) (S1 ++ [.ins c []]) with
  | .ok .non S2 => .ok (.loc S1.length) S2
  | .ex x S2 => .ex x S2
  | _ => .bad := rfl
@[simp] theorem eMakeKN_is {c : Str} {gD : List D → List D → List D} {F : FD} {f fk : LM} : eMakeKN c gD F f fk env S = (f env S).bindE fun ds S0 => (fk env S0).bindE fun es S1 => match F (gD (.loc S1.length :: ds) es) (S1 ++ [.ins c []]) with
  | .ok .non S2 => .ok (.loc S1.length) S2
  | .ex x S2 => .ex x S2
  | _ => .bad := rfl
end
end DL
end
section
/-! sorted of lists of tuples of ints and texts of one form, any number of them. -/
namespace L2
open PySem PySem.Spec PyProof.Rows
variable [DL.Nm]
/-! the order of keys and of tuples of keys -/
def ltK1 : Key → Key → Bool
  | .inl a, .inl b => decide (a < b)
  | .inr a, .inr b => decide (a.cps.toList < b.cps.toList)
  | .inl _, .inr _ => true
  | .inr _, .inl _ => false
def ltKs : List Key → List Key → Bool
  | _, [] => false
  | [], _ :: _ => true
  | a :: as, b :: bs => if a = b then ltKs as bs else ltK1 a b
/-- a strict order of all things -/
structure Lin {α : Type} (lt : α → α → Bool) : Prop where
  irr : ∀ a, lt a a = false
  tr : ∀ a b c, lt a b = true → lt b c = true → lt a c = true
  tri : ∀ a b, lt a b = false → lt b a = false → a = b
theorem Lin.asym {α : Type} {lt : α → α → Bool} (L : Lin lt) {a b : α} (h : lt a b = true) : lt b a = false := by
  cases e : lt b a with
  | false => rfl
  | true => have := L.tr a b a h e; rw [L.irr] at this; cases this
theorem Lin.swo {α : Type} {lt : α → α → Bool} (L : Lin lt) : SrtO.Swo lt := by
  refine ⟨fun x y h => L.asym h, fun x y z h1 h2 => ?_⟩
  cases e : lt z x with
  | false => rfl
  | true =>
    cases e2 : lt x y with
    | true => rw [L.tr z x y e e2] at h2; cases h2
    | false => cases L.tri x y e2 h1; rw [e] at h2; cases h2
theorem Lin.map {α β : Type} {lt : β → β → Bool} (L : Lin lt) (f : α → β) : SrtO.Swo fun x y => lt (f x) (f y) := ⟨fun x y h => L.swo.asym _ _ h, fun x y z h1 h2 => L.swo.tr _ _ _ h1 h2⟩
/-- the kind of a key -/
def isS : Key → Bool
  | .inl _ => false
  | .inr _ => true
section
variable {prog : Program} {w : World} {A : Around} {E : Value → Shared → Prop} {s : Shared}
def IsKT (h : Heap) (v : Value) (ks : List Key) : Prop := ∃ a o its n, v = .ref a ∧ h.get? a = some o ∧ o.cls = .type "tuple" ∧ o.data = .seq its n ∧ Vals (ks.map kV) its.toList
theorem IsKT.keeps {h h' : Heap} {v : Value} {ks : List Key} (p : IsKT h v ks) (k : ∀ b o, h.get? b = some o → o.cls = .type "tuple" → h'.get? b = some o) : IsKT h' v ks := by
  obtain ⟨a, o, its, n, e, ho, hc, hd⟩ := p
  exact ⟨a, o, its, n, e, k _ _ ho hc, hc, hd⟩
end
end L2
namespace DL
open PySem L2
variable [DL.Nm]
variable {G : Glb} {X : Cx} {W : WX}
def kysD : List D → Option (List Key)
  | [] => some []
  | d :: ds => (keyD d).bind fun k => (kysD ds).map (k :: ·)
def tupK : D → Option (List Key)
  | .tup ds => kysD ds
  | _ => none
def tK (ks : List Key) : D := .tup (ks.map dKey)
theorem keyD_d (k : Key) : keyD (dKey k) = some k := by cases k <;> rfl
theorem kysD_d : ∀ ks : List Key, kysD (ks.map dKey) = some ks
  | [] => rfl
  | k :: ks => by
    show (keyD (dKey k)).bind (fun k' => (kysD (ks.map dKey)).map (k' :: ·)) = _
    rw [keyD_d, kysD_d ks]; rfl
theorem tupK_t (ks : List Key) : tupK (tK ks) = some ks := kysD_d ks
theorem optL_map {α β : Type} {f : α → Option β} {g : β → α} (hf : ∀ b, f (g b) = some b) : ∀ m : List β, optL f (m.map g) = some m
  | [] => rfl
  | b :: m => by
    show ((f (g b)).bind fun b => (optL f (m.map g)).map (b :: ·)) = _
    rw [hf, optL_map hf m]; rfl
def leKs (a b : List Key) : Bool := !ltKs b a
def sortKs (l : List (List Key)) : List (List Key) := l.mergeSort leKs
/-- of one form, not the empty one -/
def oneForm : List (List Key) → Bool
  | [] => true
  | k :: ks => !k.isEmpty && ks.all fun l => l.map isS == k.map isS
/-- lists of tuples of keys, beside what was sorted so far -/
def bSortedZ (ds : List D) (S : Store) : ER := match ds with
  | [d] => match (listD S d).bind (optL tupK) with
    | some (k :: kss) => if oneForm (k :: kss) then .ok (.lst ((sortKs (k :: kss)).map tK)) S else .bad
    | _ => bSortedY [d] S
  | ds => bSortedY ds S
section
variable {S : Store}
@[simp] theorem bSortedZ_l {kss : List (List Key)} (h : oneForm kss = true) (h0 : kss ≠ []) : bSortedZ [.lst (kss.map tK)] S = .ok (.lst ((sortKs kss).map tK)) S := by
  unfold bSortedZ
  dsimp only
  rw [show (listD S (.lst (kss.map tK))).bind (optL tupK) = some kss from optL_map tupK_t kss]
  cases kss with
  | nil => exact absurd rfl h0
  | cons k kss => dsimp only; rw [if_pos h]
end
end DL
end
section
/-! x or y, x and y by truth; the module's own tuples and dicts. -/
namespace DL
open PySem L2 PyProof.Rows
variable [DL.Nm]
variable {G : Glb} {X : Cx} {W : WX}
/-! ### x or y -/
/-- the truth of a thing -/
def truX (S : Store) : D → Option Bool
  | .non => some false
  | .bl b => some b
  | .int i => some (i != 0)
  | .tup ds => some (!ds.isEmpty)
  | .lst ds => some (!ds.isEmpty)
  | .loc l => match S[l]? with
    | some (.lst ds) => some (!ds.isEmpty)
    | some (.dic kvs) => some (!kvs.isEmpty)
    | _ => none
  | _ => none
def eOrT (f g : EM) : EM := fun env S => (f env S).bind fun d S => match truX S d with
  | some true => .ok d S
  | some false => g env S
  | none => .bad
def eAndT (f g : EM) : EM := fun env S => (f env S).bind fun d S => match truX S d with
  | some true => g env S
  | some false => .ok d S
  | none => .bad
/-! ### tuples of the module -/
structure KTup (K : PySem.W.Frag) (a : Addr) (xs : List V) : Prop where
  ex : ∃ (o : Obj) (its : Array Value) (n : Nat), K.lookup a = some o ∧ o.cls = .type "tuple" ∧ o.data = .seq its n ∧ its.size ≤ sizeLine ∧ Vals xs its.toList
/-! ### dicts of the module, by texts -/
structure KTab (K : PySem.W.Frag) (w : World) (a : Addr) (tab : List (Str × D)) : Prop where
  ex : ∃ es n, KDict K w a es n
  get : ∀ z : Str, ∃ r : Option Value, PySem.W.nsIn K a z = some r ∧ match tab.lookup z with
    | some d => ∃ u, r = some u ∧ RelV (dV d) u ∧ flatD d = true
    | none => r = none
def eGIx (tab : List (Str × D)) (f : EM) : EM := fun env S => (f env S).bind fun d S => match d with
  | .str z => match tab.lookup z with
    | some x => .ok x S
    | none => .bad
  | _ => .bad
def eGIn (neg : Bool) (tab : List (Str × D)) (f : EM) : EM := fun env S => (f env S).bind fun d S => match d with
  | .str z => .ok (.bl (if neg then !(tab.lookup z).isSome else (tab.lookup z).isSome)) S
  | _ => .bad
section
variable {S : Store} {env : EnvD}
@[simp] theorem eOrT_is {f g : EM} : eOrT f g env S = (f env S).bind fun d S => match truX S d with
  | some true => .ok d S
  | some false => g env S
  | none => .bad := rfl
@[simp] theorem eAndT_is {f g : EM} : eAndT f g env S = (f env S).bind fun d S => match truX S d with
  | some true => g env S
  | some false => .ok d S
  | none => .bad := rfl
@[simp] theorem eGIx_is {tab : List (Str × D)} {f : EM} : eGIx tab f env S = (f env S).bind fun d S => match d with
  | .str z => match tab.lookup z with
    | some x => .ok x S
    | none => .bad
  | _ => .bad := rfl
@[simp] theorem eGIn_is {neg : Bool} {tab : List (Str × D)} {f : EM} : eGIn neg tab f env S = (f env S).bind fun d S => match d with
  | .str z => .ok (.bl (if neg then !(tab.lookup z).isSome else (tab.lookup z).isSome)) S
  | _ => .bad := rfl
@[simp] theorem truX_t {ds} : truX S (.tup ds) = some (!ds.isEmpty) := rfl
@[simp] theorem truX_l {ds} : truX S (.lst ds) = some (!ds.isEmpty) := rfl
@[simp] theorem truX_c {l : Nat} : truX S (.loc l) = match cel S l with
    | some (.lst ds) => some (!ds.isEmpty)
    | some (.dic kvs) => some (!kvs.isEmpty)
    | _ => none := rfl
end
end DL
namespace DL
open PySem L2
variable [DL.Nm]
/-- an own class, as k_is finds it -/
theorem own_mk {K : PySem.W.Frag} {C : Addr} (pg : PySem.W.plainGet K C Str.empty = true) (hd : PySem.W.hasDictIn K C = true) (po : PySem.W.plainOver K C = true) (sa : PySem.W.findIn K (.ref C) "__setattr__" = some (some (.builtin "object.__setattr__")))
    (ha : PySem.W.findIn K (.ref C) "__class__" = some (some (.builtin "object.__class__"))) (hn : PySem.W.specialIn K (.builtin "object.__class__") "__get__" = some (some (.builtin "getset_descriptor.__get__"))) (ht : PySem.W.takesIn K (.builtin "object.__class__") = some true)
    (hm : PySem.W.mroIn K C (.type "object") = some true) : OwnC K C := ⟨⟨pg, hd, po, sa⟩, ha, hn, ht, hm⟩
theorem mem_nil {α : Type} {P : α → Prop} : ∀ p ∈ ([] : List α), P p := fun _ h => by cases h
theorem mem_con {α : Type} {P : α → Prop} {a : α} {l : List α} (h : P a) (r : ∀ p ∈ l, P p) : ∀ p ∈ a :: l, P p := fun p hp => by
  rcases List.mem_cons.mp hp with rfl | hp
  · exact h
  · exact r p hp
theorem fld_mk {K : PySem.W.Frag} {Ts : List (Addr × Str)} {l : List (Str × Addr)} {ce : Str → Option Addr} {f : Str} {cs : List Str} (h : ∀ p ∈ l, p.1 ∈ cs → Cls K p.2 ∧ NoAttr K p.2 f) : FldOk ⟨K, fun c => l.lookup c, ce, Ts⟩ f cs :=
  ⟨fun c hc C e => ca_all (P := fun c C => c ∈ cs → Cls K C ∧ NoAttr K C f) h c C e hc⟩
end DL
end
section
/-! list.extend, max and min of a list of whole numbers. -/
namespace DL
open PySem L2
variable [DL.Nm]
variable {G : Glb} {X : Cx} {W : WX}
end DL
end
section
/-! An expression that walks a dict of its own: the last cell, read as data. -/
namespace DL
open PySem L2
variable [DL.Nm]
variable {G : Glb} {X : Cx} {W : WX}
mutual
/-- no dict stands within -/
def noD : D → Bool
  | .tup ds => noDs ds
  | .lst ds => noDs ds
  | .obj _ _ ds => noDs ds
  | .dct _ ds => noDs ds
  | .exn _ _ ds => noDs ds
  | .tpl ds => noDs ds
  | .dic _ _ => false
  | _ => true
def noDs : List D → Bool
  | [] => true
  | d :: ds => noD d && noDs ds
end
def Cell.noD : Cell → Bool
  | .lst ds => noDs ds
  | .dic kvs => noDs (kvs.map (·.2))
  | .ins _ fs => noDs (fs.map (·.2))
  | .dct kvs => noDs (kvs.map (·.2))
/-- how readings without dicts are kept -/
structure KeptN (φ : Fi) (H : Hp) (φ' : Fi) (H' : Hp) : Prop where
  get : ∀ (l : Nat) a, φ.c[l]? = some a → φ'.c[l]? = some a
  rd : ∀ a u, (∀ kvs, u ≠ .dK kvs) → (∀ o w, u ≠ .frz o w) → φ.out a → Rd H a u → φ'.out a ∧ Rd H' a u
  ins : ∀ a C dx fs, φ.out a → H a = some (.ins C dx fs) → φ'.out a ∧ H' a = some (.ins C dx fs)
  ext : ∀ a p, φ.out a → H a = some (.ext p) → φ'.out a ∧ H' a = some (.ext p)
  xd : ∀ a fs, φ.out a → H a = some (.xd fs) → φ'.out a ∧ H' a = some (.xd fs)
  frt : ∀ a o xs, φ.out a → H a = some (.frz o (.tup xs)) → φ'.out a ∧ H' a = some (.frz o (.tup xs))
section
variable {φ φ' : Fi} {H H' : Hp}
theorem RdL.keptN (k : KeptN φ H φ' H') {a : Addr} {xs : List V} (h : RdL G φ H a xs) : RdL G φ' H' a xs := by
  rcases h with ⟨n, h⟩ | h
  · exact .inl (k.rd _ _ (fun _ z => by cases z) (fun _ _ z => by cases z) n h)
  · exact .inr h
theorem RdT.keptN (k : KeptN φ H φ' H') {a : Addr} {xs : List V} (h : RdT G φ H a xs) : RdT G φ' H' a xs := by
  rcases h with ⟨n, h⟩ | h
  · exact .inl (k.rd _ _ (fun _ z => by cases z) (fun _ _ z => by cases z) n h)
  · exact .inr h
mutual
theorem Is.keptN (k : KeptN φ H φ' H') : ∀ {d : D} {v : V}, noD d = true → Is G φ H d v → Is G φ' H' d v
  | .non, v, _, h => h
  | .bl b, v, _, h => h
  | .int i, v, _, h => h
  | .str x, v, _, h => h
  | .tup ds, v, b, h => by
    obtain ⟨a, xs, e, r, q⟩ := h
    exact ⟨a, xs, e, r.keptN k, IsL.keptN k b q⟩
  | .lst ds, v, b, h => by
    obtain ⟨a, xs, e, r, q⟩ := h
    exact ⟨a, xs, e, r.keptN k, IsL.keptN k b q⟩
  | .dic ks ds, v, b, h => by cases b
  | .obj c ks ds, v, b, h => by
    obtain ⟨a, C, dx, fs, e, ⟨n, r⟩, c, z, q⟩ := h
    exact ⟨a, C, dx, fs, e, k.ins _ _ _ _ n r, c, z, IsL.keptN k b q⟩
  | .loc l, v, _, h => by
    obtain ⟨a, p, e⟩ := h
    exact ⟨a, k.get _ _ p, e⟩
  | .dct ks ds, v, b, h => by
    obtain ⟨a, kvs, e, ⟨n, r⟩, z, q⟩ := h
    exact ⟨a, kvs, e, k.rd _ _ (fun _ z => by cases z) (fun _ _ z => by cases z) n r, z, IsL.keptN k b q⟩
  | .exn c ks ds, v, b, h => by
    obtain ⟨a, C, d, e, ⟨n, r⟩, c, z⟩ := h
    refine ⟨a, C, d, e, k.ext _ _ n r, c, ?_⟩
    rcases z with z | ⟨b', fs, e1, ⟨n1, r1⟩, e2, q⟩
    · exact .inl z
    · exact .inr ⟨b', fs, e1, k.xd _ _ n1 r1, e2, IsL.keptN k b q⟩
  | .tpl ds, v, b, h => by
    obtain ⟨a, xs, o, e, ⟨n, r, r2⟩, q⟩ := h
    have z := k.frt _ _ _ n r
    exact ⟨a, xs, o, e, ⟨z.1, z.2, r2⟩, IsL.keptN k b q⟩
theorem IsL.keptN (k : KeptN φ H φ' H') : ∀ {ds : List D} {xs : List V}, noDs ds = true → IsL G φ H ds xs → IsL G φ' H' ds xs
  | [], xs, _, h => h
  | d :: ds, xs, b, h => by
    obtain ⟨x, r, e, p, q⟩ := h
    have b : (noD d && noDs ds) = true := b
    simp only [Bool.and_eq_true] at b
    exact ⟨x, r, e, Is.keptN k b.1 p, IsL.keptN k b.2 q⟩
end
theorem CellOk.keptN {a : Addr} {c : Cell} (k : KeptN φ H φ' H') (e : H' a = H a) (b : c.noD = true) (h : CellOk G φ H a c) : CellOk G φ' H' a c := by
  cases c with
  | lst ds => obtain ⟨xs, h, q⟩ := h; exact ⟨xs, by rw [e]; exact h, q.keptN k b⟩
  | dic kvs => obtain ⟨xs, h, z, q⟩ := h; exact ⟨xs, by rw [e]; exact h, z, q.keptN k b⟩
  | ins c fs => obtain ⟨C, dx, ws, z, h, y, q⟩ := h; exact ⟨C, dx, ws, z, by rw [e]; exact h, y, q.keptN k b⟩
  | dct kvs => obtain ⟨xs, h, z, q⟩ := h; exact ⟨xs, by rw [e]; exact h, z, q.keptN k b⟩
end
/-! ### dict(pairs) that is changed later -/
def bDictN (ds : List D) (S : Store) : ER := match ds with
  | [.lst es] => match pairsD es with
    | some kds => .ok (.loc S.length) (S ++ [.dic (mergeD [] kds)])
    | none => .bad
  | ds => bDictM ds S
section
variable {S : Store} {env : EnvD}
@[simp] theorem bDictN_lst {es : List D} : bDictN [.lst es] S = match pairsD es with
    | some kds => .ok (.loc S.length) (S ++ [.dic (mergeD [] kds)])
    | none => .bad := rfl
@[simp] theorem bDictN_dic {ks : List Key} {ds : List D} : bDictN [.dic ks ds] S = .ok (.loc S.length) (S ++ [.dic (ks.zip ds)]) := rfl
end
end DL
end
section
/-! list.remove of texts. -/
namespace L2
open PySem PySem.Spec PyProof.Rows
variable [DL.Nm]
section
variable {X : Cx}
end
end L2
namespace DL
open PySem L2
variable [DL.Nm]
variable {G : Glb} {X : Cx} {W : WX}
def strsD : List D → Option (List Str)
  | [] => some []
  | .str x :: ds => (strsD ds).map (x :: ·)
  | _ :: _ => none
theorem strsD_map : ∀ xs : List Str, strsD (xs.map .str) = some xs
  | [] => rfl
  | x :: xs => by
    show (strsD (xs.map .str)).map (x :: ·) = _
    rw [strsD_map xs]; rfl
def mRemoveS (o : D) (ds : List D) (S : Store) : ER := cellL S o fun l xs => match ds with
  | [.str k] => match strsD xs with
    | some ns => if k ∈ ns then .ok .non (S.set l (.lst ((ns.erase k).map .str))) else .bad
    | none => .bad
  | _ => .bad
section
variable {S : Store}
@[simp] theorem mRemoveS_is {o : D} {k : Str} : mRemoveS o [.str k] S = cellL S o fun l xs => match strsD xs with
    | some ns => if k ∈ ns then .ok .non (S.set l (.lst ((ns.erase k).map .str))) else .bad
    | none => .bad := rfl
end
theorem MtM.or {X : Cx} {id : String} {r1 r2 : V → List V → Hp → VK → Prop} (h1 : MtM X id r1) (h2 : MtM X id r2) : MtM X id fun x xs H Q => r1 x xs H Q ∨ r2 x xs H Q :=
  fun pins s σ H x xs v us Q I rx rxs h => h.elim (h1 pins s σ H x xs v us Q I rx rxs) (h2 pins s σ H x xs v us Q I rx rxs)
/-- o.remove(x): a text or a whole number -/
def mRemoveX (o : D) (ds : List D) (S : Store) : ER := match ds with
  | [.str k] => mRemoveS o [.str k] S
  | ds => mRemove o ds S
@[simp] theorem mRemoveX_s {S : Store} {o : D} {k : Str} : mRemoveX o [.str k] S = cellL S o fun l xs => match strsD xs with
    | some ns => if k ∈ ns then .ok .non (S.set l (.lst ((ns.erase k).map .str))) else .bad
    | none => .bad := rfl
@[simp] theorem mRemoveX_i {S : Store} {o : D} {k : Int} : mRemoveX o [.int k] S = mRemove o [.int k] S := rfl
end DL
end
section
/-! repr of nested data, dicts among them. -/
namespace L2
open PySem PySem.Spec PyProof.Rows
variable [DL.Nm]
section
variable {X : Cx}
end
end L2
namespace DL
open PySem L2
variable [DL.Nm]
variable {G : Glb} {X : Cx} {W : WX}
def keyPy : Key → PyData
  | .inl i => .int i
  | .inr x => .str x
theorem optL_len {α β : Type} {f : α → Option β} : ∀ {l : List α} {m : List β}, optL f l = some m → m.length = l.length
  | [], _, h => by cases h; rfl
  | a :: l, m, h => by
    obtain ⟨b, e1, e2⟩ := Option.bind_eq_some_iff.mp (show ((f a).bind fun b => (optL f l).map (b :: ·)) = some m from h)
    obtain ⟨m', e3, e4⟩ := Option.map_eq_some_iff.mp e2
    subst e4
    simp [optL_len e3]
section
variable {φ : Fi} {S : Store} {H : Hp}
theorem vals_pairs {P : Program} {w : World} : ∀ {es : List DictEntry} {vs : List (Key × Value)} {kvs : List (Key × V)}, Pairs (mixKind P w) es vs → KV kvs vs → Vals (kvs.map (·.2)) (es.map (·.val)) ∧ kvs.map (·.1) = vs.map (·.1)
  | _, _, _, .nil, k => by cases k; exact ⟨.nil, rfl⟩
  | _, _, _, .cons h1 h2 r, k => by
    cases k with
    | cons k1 k2 =>
      obtain ⟨a, b⟩ := vals_pairs r k2
      have q := k1.2
      rw [← h2] at q
      refine ⟨.cons q a, ?_⟩
      rw [List.map_cons, List.map_cons, b, k1.1]
end
end DL
end
section
/-! x in, x not in a dict of the module, as a test; an expression that walks a dict, data or a cell. -/
namespace DL
open PySem L2
variable [DL.Nm]
variable {G : Glb} {X : Cx} {W : WX}
end DL
end
section
/-! Tuples of which the very object is known (.tpl): tuple(a list), t.index(x); read as other tuples are. -/
namespace L2
open PySem PySem.Spec PyProof.Rows
variable [DL.Nm]
section
variable {X : Cx}
variable {o e : Expr} {es : List Expr} {to : TE} {t : TA} {name : Str} {apos cpos : Pos} {id : String} {r : V → List V → Hp → VK → Prop}
end
end L2
namespace DL
open PySem L2 PySem.Spec PyProof.Rows
variable [DL.Nm]
variable {G : Glb} {X : Cx} {W : WX}
mutual
/-- known tuples read as tuples -/
def unD : D → D
  | .tup ds => .tup (unDs ds)
  | .tpl ds => .tup (unDs ds)
  | d => d
def unDs : List D → List D
  | [] => []
  | d :: ds => unD d :: unDs ds
end
mutual
theorem unD_is {φ : Fi} {H : Hp} : ∀ {d : D} {v : V}, Is G φ H d v → Is G φ H (unD d) v
  | .tup ds, v, h => by
    obtain ⟨a, xs, e, r, q⟩ := h
    exact ⟨a, xs, e, r, unDs_is q⟩
  | .tpl ds, v, h => by
    obtain ⟨a, xs, o, e, ⟨n, r, _⟩, q⟩ := h
    exact ⟨a, xs, e, .inl ⟨n, .inr ⟨o, r⟩⟩, unDs_is q⟩
  | .non, v, h => h
  | .bl b, v, h => h
  | .int i, v, h => h
  | .str x, v, h => h
  | .lst ds, v, h => h
  | .dic ks ds, v, h => h
  | .obj c ks ds, v, h => h
  | .loc l, v, h => h
  | .dct ks ds, v, h => h
  | .exn c ks ds, v, h => h
theorem unDs_is {φ : Fi} {H : Hp} : ∀ {ds : List D} {xs : List V}, IsL G φ H ds xs → IsL G φ H (unDs ds) xs
  | [], xs, h => h
  | d :: ds, xs, h => by
    obtain ⟨x, r, e, p, q⟩ := h
    exact ⟨x, r, e, unD_is p, unDs_is q⟩
end
end DL
end
section
/-! Exceptions over data: raise, try .. except C as e (the exception kept as data), isinstance of them. -/
namespace L2
open PySem PySem.Spec PyProof.Rows
variable [DL.Nm]
section
variable {X : Cx} {a : Addr} {pins : List (Addr × Obj)} {σ : St} {H : Hp} {s sI : Shared} {h1 : Heap} {cls : Value} {d : Option Addr}
/-- the caught exception is told of in the heap, from its suite on -/
theorem keepIt (J : Inv X pins σ H sI) (I : Inv X pins σ H { s with heap := h1 }) (fresh : sI.heap.get? a = none) (na : H a = none) (offL : a ≠ X.env.locals) (ok : ∃ oe vs, h1.get? a = some oe ∧ Zc cls d oe ∧ oe.data = Data.fields vs) :
    Inv (X.suite a (X.pn ++ pins)) [] σ (upd H a (DL.ExH cls d a)) { s with heap := h1 } := by
  have no : ∀ {b : Addr} {o : Obj}, sI.heap.get? b = some o → b ≠ a := fun {b o} e z => by rw [z, fresh] at e; cases e
  refine ⟨I.ok.suite _ _, I.os, I.bare, ⟨I.base.keep, I.base.slot, fun b o e n q => ?_, I.base.there, fun b xs e => ?_, fun b o u e => ?_, fun b ps e => ?_⟩, I.loc, I.cell, ?_, fun x c e => ?_, fun p hp => ?_, fun b o e => ?_, I.len⟩
  · obtain ⟨o', e'⟩ := J.base.there b o e q
    rw [upd_ne (no e')]; exact I.base.free b o e n q
  · have kept := I.base.tups _ _ e
    rw [upd_ne (ne_of_none kept na)]; exact kept
  · have kept := I.base.frzs _ _ _ e
    rw [upd_ne (ne_of_none kept na)]; exact kept
  · obtain ⟨more, kept⟩ := I.base.tbls _ _ e
    exact ⟨more, by rw [upd_ne (ne_of_none kept na)]; exact kept⟩
  · rw [upd_ne offL.symm]; exact I.free
  · obtain ⟨v, o, e', _⟩ := J.cell x c e
    rw [upd_ne (no e')]; exact I.freeC x c e
  · rw [List.append_nil] at hp
    obtain ⟨q1, _⟩ := J.pin p hp
    obtain ⟨p1, p2, p3, p4, p5⟩ := I.pin p hp
    exact ⟨p1, by rw [upd_ne (no q1)]; exact p2, p3, p4, p5⟩
  · by_cases q : b = a
    · subst q
      rw [upd_same] at e
      cases e
      obtain ⟨oe, vs, g1, g2, g3⟩ := ok
      exact ⟨⟨oe, vs, g1, g2, g3⟩, ⟨oe, g1⟩, fun _ _ ⟨o, v, q, r⟩ k => ⟨o, v, k o q, r⟩⟩
    · rw [upd_ne q] at e
      exact (I.hok b o e).stay (fun _ _ _ q => q) (fun c q => by rw [upd_ne (ne_of_none q na)]; exact q) fun c xs q => by rw [upd_ne (ne_of_none q na)]; exact q
theorem outOfSuite (I : Inv (X.suite a (X.pn ++ pins)) [] σ H s) (ok : X.Ok) : Inv X pins σ H s :=
  { I with ok := ok, os := I.os, base := I.base, loc := I.loc, cell := I.cell, free := I.free, freeC := I.freeC, pin := fun p hp => I.pin p (List.mem_append_left _ hp) }
end
/-- the ends, a slot emptied -/
def offN (i : Nat) (D : Ends) : Ends := { nx := fun σ' H' => D.nx (σ'.set i none) H', rt := D.rt, bk := fun σ' H' => D.bk (σ'.set i none) H', ct := fun σ' H' => D.ct (σ'.set i none) H' }
/-- what is wished of an exception that the clause may keep -/
def wKp (K : PySem.W.Frag) (c : Value) (i : Nat) (ts : TS) (Wout : WX) (D : Ends) : WX := fun cls d σ H =>
  ∃ b, PySem.W.exmOne K cls c = some b ∧ (b = true → ∀ a, H a = none → ts (offN i D) (σ.set i (some (.ref a))) (upd H a (DL.ExH cls d a))) ∧ (b = false → Wout cls d σ H)
section
variable {X : Cx} {x n : Str} {c : Value} {i : Nat} {body suite : List Stmt} {b₀ : Stmt} {np pos pos' : Pos} {tb : WX → TS} {ts : TS} {Wout : WX}
theorem ps_tryKeep (hs : X.stack = X.env :: X.outer) (hf : X.env.frame = some X.env.locals) (hN : X.N.Nodup) (hi : X.N[i]? = some n) (hln : X.env.kindOf n = some .local) (hc : Names X x c) (tk : Takes X Wout)
    (hb : ∀ (W : WX) (pn : List (Addr × Obj)) (xe : Value → Shared → Prop), Takes (X.tr pn xe) W → PassesOwn (model X.prog X.w) X.A X.env xe → PSs (X.tr pn xe) body (tb W))
    (hsu : ∀ (a : Addr) (pn : List (Addr × Obj)), PSs (X.suite a pn) (b₀ :: suite) ts) :
    PS X (.Try body [.ExceptHandler (some (.Name x np)) (some n) (b₀ :: suite) pos'] [] [] pos) (fun D σ H => tb (wKp X.K c i ts Wout D) D σ H) := by
  refine ⟨fun pins s σ H D I h => wpAny_Try_except ?_⟩
  have frE : X.A.frames = some (X.env :: X.outer) := by rw [I.ok.frames, hs]
  refine wpAny_mono ((hb (wKp X.K c i ts Wout D) (X.pn ++ pins) _ (fun u s' xx => ?_) PassesOwn.looking).run [] s σ H D (I.toTry _) h) (fun f s1 hsp => ?_) (fun e s1 he => he)
  rotate_left
  · match f, hsp with
    | .next, ⟨σ', H', J', q⟩ => exact wpAny_execs_nil ⟨σ', H', J'.ofTry I.ok, q⟩
    | .brk, ⟨σ', H', J', q⟩ => exact ⟨σ', H', J'.ofTry I.ok, q⟩
    | .cont, ⟨σ', H', J', q⟩ => exact ⟨σ', H', J'.ofTry I.ok, q⟩
    | .ret u, ⟨v, σ', H', J', r, q⟩ => exact ⟨v, σ', H', J'.ofTry I.ok, r, q⟩
  · obtain ⟨a, B, sI, pins', σ', H', cls, d, rfl, J', nb, up, sky, na, os, ag, b, hb1, hyes, hno⟩ := xx
    have J : Inv X pins σ' H' sI := J'.ofTry I.ok
    have skyE : Sky B (X.env :: X.outer) a (Zc cls d) X.env.locals s'.heap := by rw [← hs]; exact sky
    show wpAny (model X.prog X.w) X.A (noteFrame (.ref a) X.env) _ _ _
    refine Sky.land Zc.steady frE hf skyE fun g3 fly vp => ?_
    have Jg : Inv X pins σ' H' { s' with heap := g3 } := J.landed nb fly.1 (up.trans vp) os ag
    obtain ⟨ob, fv, hob, hZ, hF⟩ := fly.there
    have offStack : a ∉ frs (X.env :: X.outer) := fun hm => by
      obtain ⟨_, o', e', hnf⟩ := fly.2.2.1.mem hm
      rw [hob] at e'; cases e'
      exact hnf _ hF
    have offL : a ≠ X.env.locals := fun z => offStack (List.mem_filterMap.mpr ⟨X.env, List.mem_cons_self, by rw [hf, z]⟩)
    have offF : a ∉ X.fs := by
      intro hm
      obtain ⟨fr, hin, hq⟩ := List.mem_filterMap.mp hm
      exact offStack (List.mem_filterMap.mpr ⟨fr, List.mem_cons_of_mem _ hin, hq⟩)
    have fresh : sI.heap.get? a = none := by
      cases q : sI.heap.get? a with
      | none => rfl
      | some o =>
        have z := nb a o q (by rw [hs]; exact offStack)
        rw [fly.2.1] at z; cases z
    have Sg := Jg.suite hob hF na offL offF
    refine wpAny_handleBy_cons (codeAny_handlers_test ?_) (by intro q; cases q)
    have looksC : PySem.W.Looks (model X.prog X.w) g3 (typeOf (.ref a)) cls := fun A Q E s k q => wpAny_typeOf_ref (k _ _ hob) (by rw [hZ.1]; exact q)
    have looksM := PySem.W.exm_one (M := model X.prog X.w) (Jg.kIn) looksC hb1
    have named : ∀ {Q : Value → Shared → Prop} {E : Value → Shared → Prop}, Q c { s' with heap := g3 } → wpAny (model X.prog X.w) (X.A.mark (some (.ref a))) (eval (.Name x np) X.env) Q E { s' with heap := g3 } := fun {Q E} q => by
      obtain ⟨hg, nodbg, hm | ⟨hm, hv, nonm⟩⟩ := hc
      · exact ld_glob (X := X.suite a ((a, ob) :: (X.pn ++ pins))) Sg hg hm q nodbg
      · exact ld_blt (X := X.suite a ((a, ob) :: (X.pn ++ pins))) Sg hg hm hv q nonm nodbg
    refine named (looksM.here ?_)
    match b, hb1, hyes, hno with
    | true, _, hyes, _ =>
      refine codeAny_handlers_suite_as (HandSPX.lands_againZ fly fun k4 fly4 vp4 => ?_)
      have J5 : Inv X pins σ' H' { s' with heap := k4 } := J.landed nb fly4.1 ((up.trans vp).trans vp4) os ag
      have Sk := keepIt (s := s') J J5 fresh na offL fly4.there
      refine store_ok (X := X.suite a (X.pn ++ pins)) (v := .ref a) Sk hN hi (.inl hln) rfl (fun s5 S5 => ?_) (.inr hln)
      refine wpAny_mono ((hsu a (X.pn ++ pins)).run [] s5 _ _ _ S5 (hyes rfl a na)) (fun f s6 hsp => ?_) (fun _ _ z => False.elim z)
      have goOn : ∀ {σ6 : St} {H6 : Hp} {Q : Shared → Prop}, Inv (X.suite a (X.pn ++ pins)) [] σ6 H6 s6 → (∀ s7, Inv X pins (σ6.set i none) H6 s7 → Q s7) →
          wpAny (model X.prog X.w) X.A (do bindName X.env n .none; unbindBehindTheSuite X.env n pos') (fun _ s7 => Q s7) X.xe s6 := fun {σ6 H6 Q} S6 hq => gone_ok (outOfSuite S6 I.ok) hN hi hln hq
      match f, hsp with
      | .next, ⟨σ6, H6, S6, q6⟩ => exact goOn S6 fun s7 J7 => ⟨_, _, J7, q6⟩
      | .brk, ⟨σ6, H6, S6, q6⟩ => exact goOn S6 fun s7 J7 => ⟨_, _, J7, q6⟩
      | .cont, ⟨σ6, H6, S6, q6⟩ => exact goOn S6 fun s7 J7 => ⟨_, _, J7, q6⟩
      | .ret u, ⟨v6, σ6, H6, S6, r6, q6⟩ => exact goOn S6 fun s7 J7 => ⟨_, _, _, J7, r6, q6⟩
    | false, _, _, hno =>
      show wpAny _ X.A (handleBy (.ref a) X.env []) _ _ _
      obtain ⟨k1, k2, k3, oe, vs, T, oT, ts', he, hz, hd, g1, hr⟩ := id fly
      refine wpAny_handleBy_nil ?_
      unfold PySem.passOn
      refine wpAny_bind (wpAny_field he hd g1 ?_)
      rw [if_neg (show ¬ ((Value.ref T == Value.none) = true) from by simp)]
      have goOn : wpAny (model X.prog X.w) X.A (setFlight (.ref a) X.env.frame) (fun _ s4 => wpAny (model X.prog X.w) X.A (throw (.ref a) : Sem Flow) (SP X pins D) X.xe s4) X.xe { s' with heap := g3 } := by
        rw [hf]
        exact HandSPX.setFlight_upZ fly fun k4 hh4 vp4 => wpAny_throw (tk _ _ ⟨a, B, sI, pins, σ', H', cls, d, rfl, J, nb, (up.trans vp).trans vp4, .inr (.inr (by rw [hs]; exact hh4)), na, os, ag, hno rfl⟩)
      first
        | exact wpAny_bind (wpAny_pure (wpAny_bind goOn)) 
        | exact wpAny_bind goOn
end
end L2
end
section
/-! Exceptions over data, part 2: the D-layer's rules. -/
namespace L2
open PySem PySem.Spec PyProof.Rows
variable [DL.Nm]
/-- what the class of a kept exception must say -/
structure ExcD (K : PySem.W.Frag) (D : Addr) : Prop where
  hg : PySem.W.findIn K (.ref D) "__getattribute__" = some (some (.builtin "BaseException.__getattribute__"))
  hk : PySem.W.findIn K (.ref D) "__getattr__" = some none
  hs : PySem.W.subIn K (.ref D) (.type "BaseException") = some true
  hd : PySem.W.hasDictIn K D = true
  ha : PySem.W.findIn K (.ref D) "__class__" = some (some (.builtin "object.__class__"))
  hn : PySem.W.specialIn K (.builtin "object.__class__") "__get__" = some (some (.builtin "getset_descriptor.__get__"))
  ht : PySem.W.takesIn K (.builtin "object.__class__") = some true
  hm : PySem.W.mroIn K D (.type "object") = some true
/-- types, exceptions too -/
inductive TyE (K : PySem.W.Frag) (H : Hp) : V → Value → Prop where
  | z {v : V} {t : Value} (h : TyZ K H v t) : TyE K H v t
  | x {a D : Addr} {d : Option Addr} (e : H a = some (DL.ExH (.ref D) d a)) (hd : ∀ b, d = some b → ∃ o, H b = some o) (c : ExcD K D) : TyE K H (.ref a) (.ref D)
theorem hasCls {K : PySem.W.Frag} {D : Addr} (h : PySem.W.hasDictIn K D = true) : (PySem.W.clsIn K D).isSome = true := by
  unfold PySem.W.hasDictIn at h
  cases e : PySem.W.clsIn K D with
  | none => rw [e] at h; cases h
  | some c => rfl
theorem kit_ofE {X : Cx} {pins : List (Addr × Obj)} {σ : St} {H : Hp} {s : Shared} {v : V} {u t : Value} (I : Inv X pins σ H s) (rx : RelV v u) (ty : TyE X.K H v t) : ∃ P : Heap → Prop, PySem.W.KitX X.K u t P ∧ P s.heap ∧ u ≠ .builtin "__main__.__loader__#opaque" := by
  cases ty with
  | z h => exact kit_ofZ I rx h
  | @x a D d e hd c =>
    cases (show u = Value.ref a from rx)
    obtain ⟨⟨oe, vs, g1, ⟨g2, g3⟩, g4⟩, _, _⟩ := (show ObjOk X.prog X.w H s.heap a (DL.ExH (.ref D) d a) from I.hok a _ e)
    have cl := hasCls c.hd
    cases d with
    | none => exact ⟨_, PySem.W.kitx_exc (ox := oe) (od := none) cl c.hg c.hk c.hs c.ha c.hn c.ht c.hm, ⟨g1, g2, by obtain ⟨oc, od, oda, osl⟩ := oe; dsimp only at g4; subst g4; rfl, by rw [g3]; trivial⟩, fun z => nomatch z⟩
    | some b =>
      obtain ⟨ob, hb⟩ := hd b rfl
      obtain ⟨u, gb⟩ := objOk_get (I.hok b ob hb)
      exact ⟨_, PySem.W.kitx_exc (ox := oe) (od := some u) cl c.hg c.hk c.hs c.ha c.hn c.ht c.hm, ⟨g1, g2, by obtain ⟨oc, od, oda, osl⟩ := oe; dsimp only at g4; subst g4; rfl, by rw [g3]; exact gb⟩, fun z => nomatch z⟩
def rIsX (K : PySem.W.Frag) : List V → Hp → VK → Prop := fun xs H Q => ∃ (x c : V) (t u : Value) (b : Bool), xs = [x, c] ∧ ClsV c u ∧ TyE K H x t ∧ PySem.W.kitOne K t u = some b ∧ Q (.bl b) H
section
variable {X : Cx}
theorem call_isX : CallR X (.builtin "isinstance") (rIsX X.K) := by
  intro pins s σ H xs us Q I r h
  obtain ⟨x, c, t, u, b, rfl, k, ty, e, q⟩ := h
  obtain ⟨w1, w2, rfl, p1, p2⟩ := vals2 r
  cases k.eq p2
  obtain ⟨P, Z, p, hx⟩ := kit_ofE I p1 ty
  exact PySem.W.kia_one Z I.kIn p e hx fun tk => ⟨.bl b, H, I.tok tk, rfl, q⟩
end
end L2
namespace DL
open PySem L2
variable [DL.Nm]
variable {G : Glb} {X : Cx} {W : WX}
/-! ### isinstance, exceptions too -/
/-- classes, exceptions too -/
def ClE (G : Glb) : TyD → Value → Prop
  | .x c, v => ∃ C, G.ce c = some C ∧ v = .ref C
  | t, v => ClD G t v
def tyE (S : Store) : D → Option TyD
  | .exn c _ _ => some (.x c)
  | d => tyO S d
theorem tyE_is (hc : ∀ c C, G.ca c = some C → OwnC G.K C) (hx : ∀ c C, G.ce c = some C → ExcD G.K C) {φ : Fi} {S : Store} {H : Hp} {d : D} {v : V} {t : TyD} (s : SOk G φ S H) (i : Is G φ H d v) (e : tyE S d = some t) : ∃ tv, ClE G t tv ∧ TyE G.K H v tv := by
  have old : ∀ {d : D}, Is G φ H d v → tyO S d = some t → ∃ tv, ClE G t tv ∧ TyE G.K H v tv := fun i e => by
    obtain ⟨tv, h1, h2⟩ := tyO_is hc s i e
    refine ⟨tv, ?_, .z h2⟩
    cases t with
    | x c => exact False.elim h1
    | b t => exact h1
    | o c => exact h1
  cases d with
  | exn c ks ds =>
    cases e
    obtain ⟨a, C, d, rfl, ⟨_, h⟩, h1, h2⟩ := i
    refine ⟨_, ⟨C, h1, rfl⟩, .x h (fun b hb => ?_) (hx c C h1)⟩
    rcases h2 with ⟨z, _, _⟩ | ⟨b', fs, z, ⟨_, r⟩, _⟩
    · rw [z] at hb; cases hb
    · rw [z] at hb; cases hb; exact ⟨_, r⟩
  | non => exact old i e
  | bl b => exact old i e
  | int b => exact old i e
  | str b => exact old i e
  | tup b => exact old i e
  | lst b => exact old i e
  | dic ks b => exact old i e
  | obj c ks ds => exact old i e
  | loc l => exact old i e
  | dct ks ds => exact old i e
  | tpl ds => exact old i e
/-- a class of exceptions: which of the raised ones are of it -/
def tabX (sub : Str → Bool) : TyD → Option Bool
  | .x c => some (sub c)
  | _ => some false
/-- what a class says of things, exceptions too -/
structure IsTE (G : Glb) (u : Value) (tab : TyD → Option Bool) : Prop where
  ok : ∀ t tv r, ClE G t tv → tab t = some r → PySem.W.kitOne G.K tv u = some r
theorem isT_x {sub : Str → Bool} {C0 : Addr} (h1 : PySem.W.isClsIn G.K C0 = true) (h2 : PySem.W.typeIn G.K (.ref C0) = some (.type "type")) (self : PySem.W.mroIn G.K C0 (.ref C0) = some true) (ho : ∀ c C, G.ca c = some C → PySem.W.mroIn G.K C (.ref C0) = some false) (hx : ∀ c C, G.ce c = some C → PySem.W.mroIn G.K C (.ref C0) = some (sub c)) :
    IsTE G (.ref C0) (tabX sub) := by
  refine ⟨fun t tv r q1 q2 => ?_⟩
  cases t with
  | b t =>
    cases (show tv = _ from q1); cases q2
    refine kit_ref h1 h2 ?_ (fun z => nomatch z)
    cases t <;> rfl
  | o c =>
    obtain ⟨C, e1, rfl⟩ := (show ∃ C, G.ca c = some C ∧ tv = .ref C from q1); cases q2
    refine kit_ref h1 h2 (ho c C e1) fun z => ?_
    have e := Value.ref.inj z
    subst e
    have a := ho c C e1
    rw [self] at a
    cases a
  | x c =>
    obtain ⟨C, e1, rfl⟩ := (show ∃ C, G.ce c = some C ∧ tv = .ref C from q1); cases q2
    refine kit_ref h1 h2 (hx c C e1) fun z => ?_
    have e := Value.ref.inj z
    subst e
    have a := hx c C e1
    rw [self] at a
    exact (Option.some.inj a).symm
/-- isinstance(e, (A, B, ..)) -/
inductive CNamesE (G : Glb) (X : Cx) : List Expr → List V → List Value → (TyD → Option Bool) → Prop where
  | nil : CNamesE G X [] [] [] tabF
  | cons {x : Str} {pos : Pos} {v : V} {u : Value} {tab tab2 : TyD → Option Bool} {es : List Expr} {vs : List V} {us : List Value} (cn : CName X x v u) (ist : IsTE G u tab) (r : CNamesE G X es vs us tab2)
      (hs : starEach (.Name x pos :: es) X.env = (false, eval (.Name x pos) X.env) :: starEach es X.env := by rfl) : CNamesE G X (.Name x pos :: es) (v :: vs) (u :: us) (tabOr tab tab2)
theorem CNamesE.pa {es : List Expr} {vs : List V} {us : List Value} {tab : TyD → Option Bool} (c : CNamesE G X es vs us tab) : ∃ t, PA X es t ∧ ∀ σ H Q, Q vs H → t σ H Q := by
  induction c with
  | nil => exact ⟨_, pa_nil, fun _ _ _ h => h⟩
  | cons cn ist r hs ih =>
    obtain ⟨t, h1, h2⟩ := ih
    exact ⟨_, pa_cons (cn.pe _) h1 hs, fun σ H Q h => h2 σ H _ h⟩
theorem CNamesE.vs {es : List Expr} {vs : List V} {us : List Value} {tab : TyD → Option Bool} (c : CNamesE G X es vs us tab) : Paired ClsV vs us := by
  induction c with
  | nil => exact .nil
  | cons cn ist r hs ih => exact .cons cn.cv ih
theorem CNamesE.len {es : List Expr} {vs : List V} {us : List Value} {tab : TyD → Option Bool} (c : CNamesE G X es vs us tab) : vs.length = es.length := by
  induction c with
  | nil => rfl
  | cons cn ist r hs ih => simp [ih]
theorem CNamesE.any {es : List Expr} {vs : List V} {us : List Value} {tab : TyD → Option Bool} (c : CNamesE G X es vs us tab) : ∀ {t : TyD} {tv : Value} {b : Bool}, ClE G t tv → tab t = some b → PySem.W.kitAny G.K tv us = some b := by
  induction c with
  | nil => intro t tv b _ h; cases h; rfl
  | @cons x pos v u tab tab2 es vs us cn ist r hs ih =>
    intro t tv b h1 h2
    unfold PySem.W.kitAny
    unfold tabOr at h2
    cases h3 : tab t with
    | none => rw [h3] at h2; cases h2
    | some b1 =>
      rw [h3] at h2
      rw [ist.ok t tv b1 h1 h3]
      cases b1 with
      | true => exact h2
      | false => exact ih h1 h2
def eIsE (tab : TyD → Option Bool) (f : EM) : EM := fun env S => (f env S).bind fun d S => match (tyE S d).bind tab with
  | some b => .ok (.bl b) S
  | none => .bad
theorem de_isE {x : Str} {v : V} {u : Value} {tab : TyD → Option Bool} {e : Expr} {p p2 pos : Pos} {f : EM} (hK : X.K = G.K) (hc : ∀ c C, G.ca c = some C → OwnC G.K C) (hx : ∀ c C, G.ce c = some C → ExcD G.K C) (ist : IsTE G u tab) (cn : CName X x v u) (hg : Gl X "isinstance") (hm : X.mg "isinstance" = none) (he : DE G X W e f)
    (hst : starEach [e, .Name x p2] X.env = (false, eval e X.env) :: starEach [.Name x p2] X.env := by rfl) (hst2 : starEach [.Name x p2] X.env = (false, eval (.Name x p2) X.env) :: starEach [] X.env := by rfl) (hpl : (backTo pos (starEach [.Name x p2] X.env)).any (·.1) = false := by rfl) :
    DE G X W (.Call (.Name "isinstance" p) [e, .Name x p2] [] pos) (eIsE tab f) := by
  obtain ⟨t, pt, qt⟩ := he
  refine ⟨_, pe_callB call_isX hg hm (by decide +kernel) (pa_cons pt (pa_cons (cn.pe p2) pa_nil hst2) hst) (by decide) (by decide) hst hpl, fun σ H env φ S Q s re h => ?_⟩
  refine qt σ H env φ S _ s re (PostE.bind h fun d S1 φ1 H1 y e1 s1 i1 h1 => ?_)
  split at h1
  · rename_i b hb
    obtain ⟨t, ht, hb⟩ := Option.bind_eq_some_iff.mp hb
    obtain ⟨tv, c1, c2⟩ := tyE_is hc hx s1 i1 ht
    exact ⟨y, v, tv, u, b, rfl, cn.cv, by rw [hK]; exact c2, by rw [hK]; exact ist.ok t tv b c1 hb, h1.now s1 rfl⟩
  · exact False.elim h1
/-! ### raise -/
def sRaise (c : Str) : SM := fun e S => .ex ⟨c, none⟩ e S
/-- what raising an own class with a text asks of it -/
structure ExcR (G : Glb) (mg : Str → Option Value) (c : Str) : Prop where
  ex : ∃ C, mg c = some (.ref C) ∧ G.ce c = some C ∧ PySem.W.excIn G.K C [.type "ValueError", .type "Exception", .type "BaseException", .type "object"] "ValueError.__new__" = true ∧ PySem.W.keepIn G.K (.ref C) = true ∧
    PySem.W.subIn G.K (.ref C) (.type "BaseException") = some true ∧ PySem.W.typeIn G.K (.ref C) = some (.type "type")
theorem ds_raise {c m : Str} {j : Nat} {p p2 pos pos' : Pos} (hK : X.K = G.K) (hc : X.calm = true) (tk : Takes X W) (xr : ExcR G X.mg c) (hg : Gl X c) (hdb : (c == ("__debug__" : Str)) = false := by decide) :
    DS G X W (.Raise (some (.Call (.Name c p) [.Constant (.str m) j p2] [] pos)) none pos') (sRaise c) := by
  obtain ⟨C, h1, h2, h3, h4, h5, h6⟩ := xr.ex
  rw [← hK] at h3 h4 h5 h6
  exact ⟨_, ps_raise hc tk (pmk_own PySem.F.excBase_ValueError h3 h1 h4 (raises_own h5 h6) hg hdb), fun σ H env φ S N s re h => h φ H σ (.ref C) none .refl s re ⟨C, h2, rfl, rfl⟩⟩

/-! ### try .. except C as e: the exception is data in its suite -/
def exnD (x : Exc) : D := match x.fld with
  | none => .exn x.cls [] []
  | some (f, d) => .exn x.cls [f] [d]
def SR.off (i : Nat) : SR → SR
  | .nx e S => .nx (e.set i none) S
  | .bk e S => .bk (e.set i none) S
  | .ct e S => .ct (e.set i none) S
  | .rt d S => .rt d S
  | _ => .bad
def sTry (tab : Str → Bool) (i : Nat) (body suite : SM) : SM := fun e S => match body e S with
  | .ex x e1 S1 => if tab x.cls then (suite (e1.set i (some (exnD x))) S1).off i else .ex x e1 S1
  | r => r
theorem RepE.drop {φ : Fi} {H : Hp} {σ : St} {env : EnvD} (i : Nat) (h : RepE G φ H σ env) : RepE G φ H (σ.set i none) (env.set i none) := by
  have q := h.wipe [i]
  exact q
def tOfS (G : Glb) (W : WX) (f : SM) : TS := fun N σ H => ∃ env φ S, SOk G φ S H ∧ RepE G φ H σ env ∧ PostS G W φ H (f env S) N
theorem DSs.can {b : List Stmt} {f : SM} (h : DSs G X W b f) : PSs X b (tOfS G W f) := by
  obtain ⟨t, p, q⟩ := h
  exact ⟨fun pins s σ H D I ⟨env, φ, S, so, r, z⟩ => p.run pins s σ H D I (q σ H env φ S D so r z)⟩
/-- the body's own wish, where the clause is met -/
theorem is_exn {φ : Fi} {H : Hp} {S : Store} {x : Exc} {cls : Value} {d : Option Addr} {a : Addr} (s : SOk G φ S H) (na : H a = none) (ix : IsX G φ H x cls d) : Is G φ (upd H a (ExH cls d a)) (exnD x) (.ref a) ∧ SOk G φ S (upd H a (ExH cls d a)) ∧ Ext φ H φ (upd H a (ExH cls d a)) := by
  have e : Ext φ H φ (upd H a (ExH cls d a)) := .laid na
  refine ⟨?_, s.laid na, e⟩
  obtain ⟨C, h1, h2, h3⟩ := ix.ext e
  subst h2
  have o : φ.out a ∧ (upd H a (ExH (.ref C) d a)) a = some (ExH (.ref C) d a) := ⟨s.fresh na, upd_same⟩
  unfold exnD
  split at h3
  · rename_i q
    try rw [q]
    exact ⟨a, C, d, rfl, o, h1, .inl ⟨h3, rfl, rfl⟩⟩
  · rename_i f dd q
    try rw [q]
    obtain ⟨b, v, e1, e2, e3, e4⟩ := h3
    exact ⟨a, C, d, rfl, o, h1, .inr ⟨b, [(f, v)], e1, ⟨e2, e3⟩, rfl, .one e4⟩⟩
section
variable {S : Store} {env : EnvD}
@[simp] theorem eIsE_is {tab : TyD → Option Bool} {f : EM} : eIsE tab f env S = (f env S).bind fun d S => match (tyE S d).bind tab with
  | some b => .ok (.bl b) S
  | none => .bad := rfl
@[simp] theorem tyE_exn {c ks ds} : tyE S (.exn c ks ds) = some (.x c) := rfl
@[simp] theorem tyE_non : tyE S .non = some (.b .none) := rfl
@[simp] theorem tabX_b {a : Ty} {sub} : tabX sub (.b a) = some false := rfl
@[simp] theorem tabX_o {c sub} : tabX sub (.o c) = some false := rfl
@[simp] theorem tabX_x {c sub} : tabX sub (.x c) = some (sub c) := rfl
@[simp] theorem sRaise_is {c : Str} : sRaise c env S = .ex ⟨c, none⟩ env S := rfl
theorem sTry_is {tab : Str → Bool} {i : Nat} {f g : SM} : sTry tab i f g env S = match f env S with
  | .ex x e1 S1 => if tab x.cls then (g (e1.set i (some (exnD x))) S1).off i else .ex x e1 S1
  | r => r := rfl
@[simp] theorem exnD_n {c : Str} : exnD ⟨c, none⟩ = .exn c [] [] := rfl
@[simp] theorem exnD_s {c f : Str} {d : D} : exnD ⟨c, some (f, d)⟩ = .exn c [f] [d] := rfl
@[simp] theorem off_nx {i : Nat} {e : EnvD} : SR.off i (.nx e S) = .nx (e.set i none) S := rfl
@[simp] theorem off_rt {i : Nat} {d : D} : SR.off i (.rt d S) = .rt d S := rfl
end
end DL
end
section

end
section
/-! sorted, of a list of texts. -/
namespace DL
open PySem L2
variable [DL.Nm]
variable {G : Glb} {X : Cx} {W : WX}
def leS (a b : Str) : Bool := !ltK1 (.inr b) (.inr a)
def sortS (l : List Str) : List Str := l.mergeSort leS
/-- sorted, of a list of texts alone -/
def bSortedS (ds : List D) (S : Store) : ER := match ds with
  | [d] => match (listD S d).bind strsD with
    | some ns => if ns.length < 64 then .ok (.lst ((sortS ns).map .str)) S else .bad
    | none => .bad
  | _ => .bad
@[simp] theorem bSortedS_l {ns : List Str} {S : Store} : bSortedS [.lst (ns.map .str)] S = if ns.length < 64 then .ok (.lst ((sortS ns).map .str)) S else .bad := by
  unfold bSortedS
  dsimp only
  rw [show listD S (.lst (ns.map .str)) = some (ns.map .str) from rfl, Option.bind_some, strsD_map]
end DL
end
section
/-! xs.count(y), of nested data. -/
namespace L2
open PySem PySem.Spec PyProof.Rows
variable [DL.Nm]
def rCountD (K : PySem.W.Frag) : V → List V → Hp → VK → Prop := fun x xs H Q => ∃ (a : Addr) (y : V) (d : PyData) (ds : List PyData), x = V.ref a ∧ xs = [y] ∧ Dp K H (V.ref a) (.list ds) ∧ Dp K H y d ∧
  SeqAt.shaped (.list ds) = true ∧ SeqAt.shaped d = true ∧ Q (.int (ds.countP fun z => PyData.eqv z d : Nat)) H
theorem mt_countD {X : Cx} (hu : X.A.units + 65 < cLine) : MtR X "list.count" (rCountD X.K) := by
  intro pins s σ H x xs v us Q I rx rxs h
  obtain ⟨a, y, d, ds, rfl, rfl, hl, hy, sl, sd, q⟩ := h
  cases rx
  obtain ⟨uy, rfl, ry⟩ := rxs.one
  obtain ⟨bs, r1⟩ := Dp.reads I d y uy hy ry
  have lay : PyData.canLayAll0 ds = true := SeqAt.canLay_of_shaped sl
  have room : X.A.units + 1 + min (PyData.depthAll ds) d.depth < cLine := room_in_shaped sd hu
  cases hl with
  | lst hs ha =>
    obtain ⟨its, rv, ⟨⟨cls, dd, data, sls⟩, n, ho, hc, hdn, hdt⟩, _⟩ := I.list hs
    simp only at hc hdt
    subst hc hdt
    obtain ⟨as, rd⟩ := Dp.readsAll I ds _ its ha rv
    have said : its.map (SeqAt.readOf s.heap) = ds := SeqAt.readsAll_map ds its as lay rd
    refine call_meets PySem.F.slot_list_count ⟨_, ho, rfl⟩ PySem.F.entry_list_count (PySem.F.args_list_count_2 _ _)
      (SeqAt.list_countAt a its.toArray n dd sls uy fun u => PyData.eqv (SeqAt.readOf s.heap u) d) ⟨ho, SeqAt.items_eqAt (vs := its.toArray) (show ReadsAll s.heap its.toArray.toList ds as from rd) r1 lay (SeqAt.canLay_of_shaped sd) room, ?_⟩
    have e : (its.toArray.toList.countP fun u => PyData.eqv (SeqAt.readOf s.heap u) d) = ds.countP fun z => PyData.eqv z d := by
      rw [← said, List.countP_map]; rfl
    refine ⟨.int (ds.countP fun z => PyData.eqv z d : Nat), H, I.tok _, ⟨s.toks, ?_⟩, q⟩
    rw [e]
end L2
namespace DL
open PySem L2
variable [DL.Nm]
variable {G : Glb} {X : Cx} {W : WX}
noncomputable def mCountD (o : D) (ds : List D) (S : Store) : ER := match ds with
  | [d] => match o.pyO S, d.pyO S with
    | some (.list ps), some p => if SeqAt.shaped (.list ps) && SeqAt.shaped p then .ok (.int (ps.countP fun z => PyData.eqv z p : Nat)) S else .bad
    | _, _ => .bad
  | _ => .bad
theorem dm_countD (hK : X.K = G.K) (hu : X.A.units + 65 < cLine) : DMeth G X "list.count" mCountD := by
  refine ⟨_, mt_countD hu, fun W φ S H σ dx ds x xs Q s ix ids h => ?_⟩
  unfold mCountD at h
  split at h
  · obtain ⟨y, rfl, k⟩ := IsL.inv1 ids
    split at h
    · rename_i ps p e1 e2
      split at h
      · rename_i hs
        simp only [Bool.and_eq_true] at hs
        have d1 := D.pyO_dp s ix e1
        obtain ⟨a, rfl⟩ := Dp.isRef d1
        exact ⟨a, y, p, ps, rfl, rfl, by rw [hK]; exact d1, by rw [hK]; exact D.pyO_dp s k e2, hs.1, hs.2, h.now s rfl⟩
      · exact False.elim h
    · exact False.elim h
  · exact False.elim h
end DL
end
section
namespace DL
open PySem L2
variable [DL.Nm]
variable {G : Glb} {X : Cx} {W : WX}
/-- list + list, kept as a cell -/
noncomputable def opAddM (x y : D) (S : Store) : ER := match listD S x, listD S y with
  | some a, some b => if sz (a.length + b.length) then .ok (.loc S.length) (S ++ [.lst (a ++ b)]) else .bad
  | _, _ => .bad
@[simp] theorem opAddM_ll {a b : List D} {S : Store} : opAddM (.lst a) (.lst b) S = if sz (a.length + b.length) then .ok (.loc S.length) (S ++ [.lst (a ++ b)]) else .bad := rfl
end DL
end
section
namespace L2
open PySem PySem.Spec PyProof.Rows
variable [DL.Nm]
end L2
namespace DL
open PySem L2
variable [DL.Nm]
variable {G : Glb} {X : Cx} {W : WX}
/-- xs.extend(ys): ys any list -/
noncomputable def mExtendX (o : D) (ds : List D) (S : Store) : ER := cellL S o fun l xs => match ds with
  | [d] => match listD S d with
    | some ys => if sz (xs.length + ys.length) then .ok .non (S.set l (.lst (xs ++ ys))) else .bad
    | _ => .bad
  | _ => .bad
@[simp] theorem mExtendX_l {l : Nat} {ys : List D} {S : Store} : mExtendX (.loc l) [.lst ys] S = match cel S l with | some (.lst xs) => if sz (xs.length + ys.length) then .ok .non (S.set l (.lst (xs ++ ys))) else .bad | _ => .bad := by
  unfold mExtendX
  rw [cellL_c]
  rfl
end DL
end
section
/-! range(i, j, -1) -/
namespace DL
open PySem L2
variable [DL.Nm]
variable {G : Glb} {X : Cx} {W : WX}
def downD (lo : Int) (n : Nat) : List D := (List.range n).map fun k => .int (lo + (k : Nat) * -1)
noncomputable def iRangeDn (f : LM) : LM := fun env S => (f env S).bind fun ds S => match ds with
  | [.int i, .int j, .int c] => if rOk i ∧ rOk j ∧ c = -1 then .ok (downD i (i - j).toNat) S else .bad
  | _ => .bad
@[simp] theorem iRangeDn_is {f : LM} : iRangeDn f env S = (f env S).bind fun ds S => match ds with
  | [.int i, .int j, .int c] => if rOk i ∧ rOk j ∧ c = -1 then .ok (downD i (i - j).toNat) S else .bad
  | _ => .bad := rfl
end DL
end
section
/-! isinstance(e, ValueError); e.f of an exception that is data; raise C(x), where C's own __init__ keeps x. -/
namespace L2
open PySem PySem.Spec PyProof.Rows
variable [DL.Nm]
/-- e.f of a kept exception -/
def tXe (K : PySem.W.Frag) (f : Str) (te : TE) : TE := fun σ H Q => te σ H fun x H1 => ∃ (a C dd : Addr) (fs : List (Str × V)) (v : V), x = .ref a ∧ ExcD K C ∧ PySem.W.findIn K (.ref C) f = some none ∧ H1 a = some (DL.ExH (.ref C) (some dd) a) ∧ H1 dd = some (.xd fs) ∧ fs.lookup f = some v ∧ Q v H1
theorem pe_xe {X : Cx} {e : Expr} {te : TE} {pos : Pos} {n : Str} (he : PE X e te) (hb : attributeBase e n X.env (eval e X.env) = eval e X.env := by rfl) : PE X (.Attribute e n pos) (tXe X.K n te) := by
  refine ⟨fun pins s σ H Q I h => ?_⟩
  refine attr_of hb (thn (he.run pins s σ H _ I h) fun u s1 hh => ?_)
  obtain ⟨x, H1, I1, rx, a, C, dd, fs, v, ex, T, hno, ea, ed, l, q⟩ := hh
  subst ex
  obtain rfl : u = Value.ref a := rx
  obtain ⟨⟨oe, vs, g1, ⟨g2, g3⟩, g4⟩, _, _⟩ := (show ObjOk X.prog X.w H1 s1.heap a (DL.ExH (.ref C) (some dd) a) from I1.hok a _ ea)
  have hx : ObjOk X.prog X.w H1 s1.heap dd (.xd fs) := I1.hok dd _ ed
  obtain ⟨mA, hns, hr⟩ := hx
  obtain ⟨od, ho, hl⟩ := lookIn_ns hns
  obtain ⟨u, hu, ru⟩ := RelO.some_of (v := v) (o := mA n) (by rw [← l]; exact hr n)
  have J : PySem.W.InstAt s1.heap a oe C (some od) := ⟨g1, g2, by unfold PySem.W.notCls; rw [g4] <;> rfl, by rw [g3]; exact ho⟩
  exact HandSPX.exc_get I1.kIn J T.hg T.hk T.hs (PySem.W.findObj_own T.hd hno rfl (by rw [hl, hu])) (handed_of ru) ⟨v, H1, I1.tok _, ru, q⟩
/-- an __init__ that keeps its one argument -/
def spI (C : Addr) (f : Str) : Sp := fun vs H Q E => ∃ a y, vs = [.ref a, y] ∧ H a = some (exo a C none) ∧ ∀ dx, H dx = none → dx ≠ a → Q .non (upd (upd H dx (exd dx [(f, y)])) a (exo a C (some dx)))
end L2
namespace DL
open PySem L2
variable [DL.Nm]
variable {G : Glb} {X : Cx} {W : WX}
/-! ### isinstance(e, ValueError) -/
theorem isT_v {T : String} (hM : PySem.W.kitMeta T = true) (hb : ∀ t : Ty, PySem.W.kitOne G.K (.type t.nm) (.type T) = some false) (ho : ∀ c C, G.ca c = some C → PySem.W.mroIn G.K C (.type T) = some false) (hx : ∀ c C, G.ce c = some C → PySem.W.mroIn G.K C (.type T) = some true) :
    IsTE G (.type T) (tabX fun _ => true) := by
  refine ⟨fun t tv r q1 q2 => ?_⟩
  cases t with
  | b t => cases (show tv = _ from q1); cases q2; exact hb t
  | o c =>
    obtain ⟨C, e1, rfl⟩ := (show ∃ C, G.ca c = some C ∧ tv = .ref C from q1); cases q2
    exact kit_type hM (ho c C e1)
  | x c =>
    obtain ⟨C, e1, rfl⟩ := (show ∃ C, G.ce c = some C ∧ tv = .ref C from q1); cases q2
    exact kit_type hM (hx c C e1)
theorem isT_VE (ho : ∀ c C, G.ca c = some C → PySem.W.mroIn G.K C (.type "ValueError") = some false) (hx : ∀ c C, G.ce c = some C → PySem.W.mroIn G.K C (.type "ValueError") = some true) : IsTE G (.type "ValueError") (tabX fun _ => true) :=
  isT_v (by decide +kernel) (fun t => kit_ty (by cases t <;> decide +kernel)) ho hx
/-! ### e.f -/
def xFld (d : D) (f : Str) : Option D := match d with
  | .exn _ [g] [x] => if g = f then some x else none
  | _ => none
def eXFld (f : Str) (g : EM) : EM := fun env S => (g env S).bind fun d S => match xFld d f with
  | some x => .ok x S
  | none => .bad
@[simp] theorem eXFld_is {f : Str} {g : EM} {env : EnvD} {S : Store} : eXFld f g env S = (g env S).bind fun d S => match xFld d f with
  | some x => .ok x S
  | none => .bad := rfl
theorem de_xFld {e : Expr} {f : Str} {g : EM} {pos : Pos} (hK : X.K = G.K) (hx : ∀ c C, G.ce c = some C → ExcD G.K C) (hno : ∀ c C, G.ce c = some C → PySem.W.findIn G.K (.ref C) f = some none) (he : DE G X W e g) (hb : attributeBase e f X.env (eval e X.env) = eval e X.env := by rfl) :
    DE G X W (.Attribute e f pos) (eXFld f g) := by
  obtain ⟨t, pt, qt⟩ := he
  refine ⟨_, pe_xe pt hb, fun σ H env φ S Q s re h => ?_⟩
  refine qt σ H env φ S _ s re (PostE.bind h fun d S1 φ1 H1 y e1 s1 i1 h1 => ?_)
  split at h1
  · rename_i x hf
    unfold xFld at hf
    split at hf
    · rename_i c g' x'
      split at hf
      · rename_i eg
        cases hf
        subst eg
        obtain ⟨a, C, d, rfl, ⟨_, h⟩, q1, q2⟩ := i1
        rcases q2 with ⟨_, z, _⟩ | ⟨b', fs, z, ⟨_, r⟩, hks, hvs⟩
        · cases z
        · obtain ⟨v, rest, e2, iv, e3⟩ := hvs
          obtain ⟨p, fs', rfl⟩ : ∃ p fs', fs = p :: fs' := by
            cases fs with
            | nil => cases e2
            | cons p fs' => exact ⟨p, fs', rfl⟩
          obtain ⟨f1, v1⟩ := p
          rw [List.map_cons] at hks e2
          have k1 : f1 = g' := (List.cons.inj hks).1
          have v1e : v1 = v := (List.cons.inj e2).1
          subst k1 v1e z
          exact ⟨a, C, b', _, v1, rfl, by rw [hK]; exact hx c C q1, by rw [hK]; exact hno c C q1, h, r, by simp [List.lookup], h1.now s1 iv⟩
      · cases hf
    · cases hf
  · exact False.elim h1
/-! ### raise C(x), where C's own __init__ keeps x -/
structure ExcF (G : Glb) (P : Program) (w : World) (mg : Str → Option Value) (base : Heap) (k : Nat) (c f : Str) : Prop where
  ex : ∃ C fI fd ps, mg c = some (.ref C) ∧ G.ce c = some C ∧ OexC G.K C ∧ PySem.W.findIn G.K (.ref C) "__init__" = some (some (.ref fI)) ∧ PySem.W.typeIn G.K (.ref fI) = some (.type "function") ∧ FnOk P w G.K mg base (L2.CX P w) k fI fd ps (spI C f) ∧ Binds G.K fd ps []
def sRaiseF (c f : Str) (g : EM) : SM := fun e S => (g e S).bindS e fun d S => .ex ⟨c, some (f, d)⟩ e S
@[simp] theorem sRaiseF_is {c f : Str} {g : EM} {e : EnvD} {S : Store} : sRaiseF c f g e S = (g e S).bindS e fun d S => .ex ⟨c, some (f, d)⟩ e S := rfl
end DL
end
section
namespace DL
open PySem L2
variable [DL.Nm]
noncomputable section
def g_is_whole : SM :=
(sRet (eAnd (eIsC (tabB .int) (eVar 0)) (eNot (eIsC (tabB .bool) (eVar 0)))))
def d_is_whole : FD := fnF .pure 1 g_is_whole
def g_is_between : SM :=
(sRet (eAnd (eCall d_is_whole (lCons (eVar 0) lNil)) (eChain opLe opLe (eVar 1) (eVar 0) (eVar 2))))
def d_is_between : FD := fnF .pure 3 g_is_between
def g_Safe_init_e1 : EM :=
eDic0
def g_Safe_init : SM :=
(sSeq (sIf (eOr (eNot (eCall d_is_between (lCons (eVar 1) (lCons (eC (.int 1)) (lCons (eC (.int 9)) lNil))))) (eNot (eCall d_is_between (lCons (eVar 2) (lCons (eC (.int 1)) (lCons (eVar 1) lNil))))))
(sRaise "NoCount")
sSkip)
(sSeq (sFldC ["Safe"] "many" (eVar 0) (eVar 1))
(sSeq (sFldC ["Safe"] "wanted" (eVar 0) (eVar 2))
(sSeq (sFldC ["Safe"] "drawers" (eVar 0) (eDcM (iRange2 (lCons (eC (.int 1)) (lCons (eOp opAdd (eVar 1) (eC (.int 1))) lNil))) (bName 3) eYes (eVar 3) g_Safe_init_e1 [3]))
(sFldC ["Center", "Safe"] "known" (eVar 0) eDic0M)))))
def d_Safe_init : FD := fnF .pure 4 g_Safe_init
def g_is_listed : SM :=
(sRet (eIsC (tabOr (tabB .list) (tabOr (tabB .tuple) tabF)) (eVar 0)))
def d_is_listed : FD := fnF .pure 1 g_is_listed
def g_is_low : SM :=
(sRet (eCall d_is_between (lCons (eVar 0) (lCons (eC (.int 0)) (lCons (eOp opSub (eC (.int 2147483647)) (eC (.int 1))) lNil)))))
def d_is_low : FD := fnF .pure 1 g_is_low
def g_is_point : SM :=
(sSeq (sIf (eOr (eNot (eIsC (tabB .tuple) (eVar 0))) (eOp opNe (eCallB bLenX (lCons (eVar 0) lNil)) (eC (.int 2))))
(sRet (eC (.bl false)))
sSkip)
(sRet (eAnd (eCall d_is_between (lCons (eOp opIxX (eVar 0) (eC (.int 0))) (lCons (eC (.int 1)) (lCons (eC (.int 9)) lNil)))) (eCall d_is_low (lCons (eOp opIxX (eVar 0) (eC (.int 1))) lNil)))))
def d_is_point : FD := fnF .pure 1 g_is_point
def g_need_points_e1 : EM :=
(eCall d_is_point (lCons (eVar 3) lNil))
def g_need_points : SM :=
(sSeq (sIf (eOr (eNot (eCall d_is_listed (lCons (eVar 0) lNil))) (eOr (eOp opEq (eCallB bLenX (lCons (eVar 0) lNil)) (eC (.int 0))) (eNot (eCallB bAll (lCons (eLc (iSeq (eVar 0)) (bName 3) eYes g_need_points_e1 [3]) lNil)))))
(sRaise "NoCount")
sSkip)
(sIf (eOp opLt (eLenSc (iSeq (eVar 0)) (bTup (bCons (bName 1) (bCons (bName 2) bNil))) eYes (eVar 1) [1, 2]) (eCallB bLenX (lCons (eVar 0) lNil)))
(sRaise "NoCount")
sSkip))
def d_need_points : FD := fnF .pure 4 g_need_points
def g_back_of_c1 : EM :=
(eOp opGt (eVar 3) (eC (.int 0)))
def g_back_of_b1 : SM :=
(sSeq (sIf (eOp opEq (eOp opMod (eVar 3) (eC (.int 2))) (eC (.int 1)))
(sAsg (eOp opMod (eOp opMul (eVar 1) (eVar 2)) (eC (.int 2147483647))) (bName 1))
sSkip)
(sSeq (sAsg (eOp opMod (eOp opMul (eVar 2) (eVar 2)) (eC (.int 2147483647))) (bName 2))
(sAsg (eOp opFdiv (eVar 3) (eC (.int 2))) (bName 3))))
def g_back_of : SM :=
(sSeq (sPar3 1 2 3 (lCons (eC (.int 1)) (lCons (eOp opMod (eVar 0) (eC (.int 2147483647))) (lCons (eOp opSub (eC (.int 2147483647)) (eC (.int 2))) lNil))))
(sSeq (sWhile g_back_of_c1 g_back_of_b1)
(sRet (eVar 1))))
def d_back_of : FD := fnF .pure 4 g_back_of
def g_times_less_e1 : EM :=
(eOp opMod (eOp opSub (eVar 3) (eOp opMul (eVar 1) (eVar 4))) (eC (.int 2147483647)))
def g_times_less : SM :=
(sSeq (sAsg (eOp opAdd (eLst (lCons (eC (.int 0)) lNil)) (eCallB bListX (lCons (eVar 0) lNil))) (bName 2))
(sRet (eLc (iZip2X (lCons (eVar 2) (lCons (eOp opAdd (eCallB bListX (lCons (eVar 0) lNil)) (eLst (lCons (eC (.int 0)) lNil))) lNil))) (bTup (bCons (bName 3) (bCons (bName 4) bNil))) eYes g_times_less_e1 [3, 4])))
def d_times_less : FD := fnF .pure 5 g_times_less
def g_through_b1 : SM :=
(sIf (eOp opNe (eVar 6) (eVar 2))
(sSeq (sAsg (eCall d_times_less (lCons (eVar 4) (lCons (eVar 6) lNil))) (bName 4))
(sAsg (eOp opMod (eOp opMul (eVar 5) (eOp opSub (eVar 2) (eVar 6))) (eC (.int 2147483647))) (bName 5)))
sSkip)
def g_through_e1 : EM :=
(eOp opMod (eOp opAdd (eVar 9) (eOp opMul (eVar 8) (eVar 7))) (eC (.int 2147483647)))
def g_through_b2 : SM :=
(sSeq (sPar 4 5 (lCons (eLst (lCons (eC (.int 1)) lNil)) (lCons (eC (.int 1)) lNil)))
(sSeq (sFor (iSeq (eVar 0)) (bTup (bCons (bName 6) (bCons (bName 7) bNil))) g_through_b1)
(sSeq (sAsg (eOp opMod (eOp opMul (eVar 3) (eCall d_back_of (lCons (eVar 5) lNil))) (eC (.int 2147483647))) (bName 8))
(sAsg (eLc (iZip2X (lCons (eVar 1) (lCons (eVar 4) lNil))) (bTup (bCons (bName 9) (bCons (bName 7) bNil))) eYes g_through_e1 [9, 7]) (bName 1)))))
def g_through : SM :=
(sSeq (sAsg (eOp opMulX (eLstM (lCons (eC (.int 0)) lNil)) (eCallB bLenX (lCons (eVar 0) lNil))) (bName 1))
(sSeq (sFor (iSeq (eVar 0)) (bTup (bCons (bName 2) (bCons (bName 3) bNil))) g_through_b2)
(sRet (eVar 1))))
def d_through : FD := fnF .pure 10 g_through
def g_restored : SM :=
(sSeq (sDrop (eCall d_need_points (lCons (eVar 0) lNil)))
(sRet (eOp opIxX (eCall d_through (lCons (eVar 0) lNil)) (eC (.int 0)))))
def d_restored : FD := fnF .pure 1 g_restored
def g_are_low_e1 : EM :=
(eCall d_is_low (lCons (eVar 1) lNil))
def g_are_low : SM :=
(sRet (eAnd (eIsC (tabB .tuple) (eVar 0)) (eCallB bAll (lCons (eLc (iSeq (eVar 0)) (bName 1) eYes g_are_low_e1 [1]) lNil))))
def d_are_low : FD := fnF .pure 2 g_are_low
def g_worth_at_b1 : SM :=
(sAsg (eOp opMod (eOp opAdd (eOp opMul (eVar 2) (eVar 1)) (eVar 3)) (eC (.int 2147483647))) (bName 2))
def g_worth_at : SM :=
(sSeq (sAsg (eC (.int 0)) (bName 2))
(sSeq (sFor (iSeq (eRev (eVar 0))) (bName 3) g_worth_at_b1)
(sRet (eVar 2))))
def d_worth_at : FD := fnF .pure 4 g_worth_at
def g_dealt_e1 : EM :=
(eCall d_worth_at (lCons (eOp opAdd (eTup (lCons (eVar 0) lNil)) (eVar 1)) (lCons (eVar 3) lNil)))
def g_dealt : SM :=
(sSeq (sIf (eOr (eNot (eCall d_is_low (lCons (eVar 0) lNil))) (eOr (eNot (eCall d_are_low (lCons (eVar 1) lNil))) (eOr (eNot (eCall d_is_between (lCons (eVar 2) (lCons (eC (.int 1)) (lCons (eC (.int 9)) lNil))))) (eOp opGe (eCallB bLenX (lCons (eVar 1) lNil)) (eVar 2)))))
(sRaise "NoCount")
sSkip)
(sRet (eCallB bTuple (lCons (eLc (iRange2 (lCons (eC (.int 1)) (lCons (eOp opAdd (eVar 2) (eC (.int 1))) lNil))) (bName 3) eYes g_dealt_e1 [3]) lNil))))
def d_dealt : FD := fnF .pure 4 g_dealt
def g__law_alone : SM :=
(sSeq (sAsg (eLst (lCons (eIsE (tabX (fun c => decide (c = "NoName"))) (eVar 0)) (lCons (eIsE (tabX (fun c => decide (c = "NoDay"))) (eVar 0)) (lCons (eIsE (tabX (fun c => decide (c = "NoRace"))) (eVar 0)) (lCons (eIsE (tabX (fun c => decide (c = "NoMark"))) (eVar 0)) lNil))))) (bName 1))
(sSeq (sAsg (eOp opAdd (eVar 1) (eLst (lCons (eIsE (tabX (fun c => decide (c = "NoCode"))) (eVar 0)) (lCons (eIsE (tabX (fun c => decide (c = "NoPlace"))) (eVar 0)) (lCons (eIsE (tabX (fun c => decide (c = "NoStub"))) (eVar 0)) (lCons (eIsE (tabX (fun c => decide (c = "NoWay"))) (eVar 0)) lNil)))))) (bName 1))
(sSeq (sAsg (eOp opAdd (eVar 1) (eLst (lCons (eIsE (tabX (fun c => decide (c = "NoTime"))) (eVar 0)) (lCons (eIsE (tabX (fun c => decide (c = "NoLetter"))) (eVar 0)) (lCons (eIsE (tabX (fun c => decide (c = "NotWhole"))) (eVar 0)) lNil))))) (bName 1))
(sSeq (sAsg (eOp opAdd (eVar 1) (eLst (lCons (eIsE (tabX (fun c => decide (c = "NoRuling"))) (eVar 0)) (lCons (eIsE (tabX (fun c => decide (c = "NoChain"))) (eVar 0)) (lCons (eIsE (tabX (fun c => decide (c = "NoBits"))) (eVar 0)) (lCons (eIsE (tabX (fun c => decide (c = "NoLot"))) (eVar 0)) lNil)))))) (bName 1))
(sSeq (sAsg (eOp opAdd (eVar 1) (eLst (lCons (eIsE (tabX (fun c => decide (c = "NoCount"))) (eVar 0)) (lCons (eIsE (tabX (fun c => decide (c = "NoPhase"))) (eVar 0)) (lCons (eIsE (tabX (fun c => decide (c = "Twice"))) (eVar 0)) (lCons (eIsE (tabX (fun c => decide (c = "NotThere"))) (eVar 0)) lNil)))))) (bName 1))
(sSeq (sAsg (eOp opAdd (eVar 1) (eLst (lCons (eIsE (tabX (fun c => decide (c = "NoRow"))) (eVar 0)) (lCons (eIsE (tabX (fun c => decide (c = "NoText"))) (eVar 0)) lNil)))) (bName 1))
(sSeq (sIf (eOr (eOp opNe (eMeth "list" mCountD (eVar 1) (lCons (eC (.bl true)) lNil)) (eC (.int 1))) (eOr (eNot (eIsE (tabX (fun _ => true)) (eVar 0))) (eNot (eIsE (tabX (fun _ => true)) (eVar 0)))))
(sRet (eC (.str "")))
sSkip)
(sSeq (sAsg (eC (.str "NoName NoDay NoRace NoMark NoCode NoPlace NoStub NoWay NoTime NoLetter NotWhole NoRuling")) (bName 2))
(sSeq (sAsg (eOp opAdd (eVar 2) (eC (.str " NoChain NoBits NoLot NoCount NoPhase Twice NotThere NoRow NoText"))) (bName 2))
(sRet (eOp opIxX (eMeth "str" mSplit (eVar 2) (lCons (eC (.str " ")) lNil)) (eMeth "list" mIndex (eVar 1) (lCons (eC (.bl true)) lNil)))))))))))))
def d__law_alone : FD := fnF .pure 3 g__law_alone
def g__law_next : SM :=
(sSeq (sIf (eOp opGt (eOp opIxX (eVar 0) (eC (.int 0))) (eC (.int 0)))
(sSeq (sAsg (eOp opMod (eOp opIxX (eVar 0) (eC (.int 0))) (eVar 1)) (bName 2))
(sSeq (sPutX (eVar 0) (eC (.int 0)) (eOp opFdiv (eOp opIxX (eVar 0) (eC (.int 0))) (eVar 1)))
(sRet (eVar 2))))
sSkip)
(sSeq (sPutX (eVar 0) (eC (.int 2)) (eOp opAdd (eOp opIxX (eVar 0) (eC (.int 2))) (eC (.int 1))))
(sSeq (sAsg (eOp opMod (eOp opPow (eOp opAdd (eOp opAdd (eOp opMul (eOp opIxX (eVar 0) (eC (.int 1))) (eOp opAdd (eOp opMul (eC (.int 2)) (eOp opIxX (eVar 0) (eC (.int 2)))) (eC (.int 1)))) (eOp opMul (eOp opMul (eC (.int 7919)) (eOp opIxX (eVar 0) (eC (.int 2)))) (eOp opIxX (eVar 0) (eC (.int 2))))) (eC (.int 11))) (eC (.int 5))) (eC (.int 2147483647))) (bName 3))
(sRet (eOp opMod (eOp opFdiv (eVar 3) (eC (.int 11))) (eVar 1))))))
def d__law_next : FD := fnF .keep 4 g__law_next
def g__law_pick : SM :=
(sRet (eOp opIxX (eVar 1) (eCall d__law_next (lCons (eVar 0) (lCons (eCallB bLenX (lCons (eVar 1) lNil)) lNil)))))
def d__law_pick : FD := fnF .keep 2 g__law_pick
def g__law_begun : SM :=
(sSeq (sAsg (eOp opAdd (eC (.int 1)) (eOp opMod (eOp opPow (eOp opAdd (eOp opAdd (eOp opMul (eOp opMod (eVar 0) (eC (.int 2147483647))) (eC (.int 48271))) (eOp opMul (eC (.int 104729)) (eVar 1))) (eC (.int 7))) (eC (.int 3))) (eC (.int 2147483629)))) (bName 2))
(sSeq (sIf (eOp opGe (eVar 0) (eOp opPow (eC (.int 10)) (eC (.int 18))))
(sRet (eLstM (lCons (eOp opSub (eVar 0) (eOp opPow (eC (.int 10)) (eC (.int 18)))) (lCons (eVar 2) (lCons (eC (.int 0)) lNil)))))
sSkip)
(sRet (eLstM (lCons (eC (.int 0)) (lCons (eVar 2) (lCons (eC (.int 0)) lNil)))))))
def d__law_begun : FD := fnF .keep 3 g__law_begun
def g__law_between : SM :=
(sRet (eAnd (eIsC (tabB .int) (eVar 0)) (eAnd (eNot (eIsC (tabB .bool) (eVar 0))) (eChain opLe opLe (eVar 1) (eVar 0) (eVar 2)))))
def d__law_between : FD := fnF .pure 3 g__law_between
def g__law_refusal : SM :=
(sSeq (sAsg (eCall d__law_alone (lCons (eVar 0) lNil)) (bName 1))
(sSeq (sIf (eOp opEq (eVar 1) (eC (.str "NotThere")))
(sRet (eLst (lCons (eVar 1) (lCons (eXFld "thing" (eVar 0)) lNil))))
sSkip)
(sSeq (sIf (eOp opEq (eVar 1) (eC (.str "NoRow")))
(sRet (eLst (lCons (eVar 1) (lCons (eXFld "at" (eVar 0)) lNil))))
sSkip)
(sRet (eIf (eOp opEq (eVar 1) (eC (.str "NoText"))) (eLst (lCons (eVar 1) (lCons (eXFld "row" (eVar 0)) lNil))) (eLst (lCons (eVar 1) lNil)))))))
def d__law_refusal : FD := fnF .pure 2 g__law_refusal
def g__law_low : SM :=
(sSeq (sAsg (eOp opAdd (eOp opMul (eCall d__law_next (lCons (eVar 0) (lCons (eC (.int 46341)) lNil))) (eC (.int 46340))) (eCall d__law_next (lCons (eVar 0) (lCons (eC (.int 46340)) lNil)))) (bName 1))
(sRet (eCall d__law_pick (lCons (eVar 0) (lCons (eLst (lCons (eC (.int 0)) (lCons (eC (.int 1)) (lCons (eC (.int 2147483646)) (lCons (eC (.int 2147483645)) (lCons (eCall d__law_next (lCons (eVar 0) (lCons (eC (.int 100)) lNil))) (lCons (eOp opMod (eVar 1) (eC (.int 2147483647))) (lCons (eOp opMod (eVar 1) (eC (.int 2147483647))) lNil)))))))) lNil)))))
def d__law_low : FD := fnF .keep 2 g__law_low
def g__law_shuffled_e1 : EM :=
(eMeth "list" mPopAt (eVar 2) (lCons (eCall d__law_next (lCons (eVar 0) (lCons (eCallB bLenX (lCons (eVar 2) lNil)) lNil))) lNil))
def g__law_shuffled : SM :=
(sSeq (sAsg (eCallB bListXM (lCons (eVar 1) lNil)) (bName 2))
(sRet (eLc (iRange1 (lCons (eCallB bLenX (lCons (eVar 2) lNil)) lNil)) (bName 3) eYes g__law_shuffled_e1 [3])))
def d__law_shuffled : FD := fnF .pure 4 g__law_shuffled
def g_seeds_for_e1 : EM :=
(eTup (lCons (eVar 2) (lCons (eOp opMod (eOp opMul (eOp opSub (eVar 3) (eVar 0)) (eCall d_back_of (lCons (eVar 2) lNil))) (eC (.int 2147483647))) lNil)))
def g_seeds_for : SM :=
(sSeq (sIf (eNot (eCall d_is_low (lCons (eVar 0) lNil)))
(sRaise "NoCount")
sSkip)
(sSeq (sDrop (eCall d_need_points (lCons (eVar 1) lNil)))
(sRet (eCallB bTuple (lCons (eCall d_through (lCons (eLc (iSeq (eVar 1)) (bTup (bCons (bName 2) (bCons (bName 3) bNil))) eYes g_seeds_for_e1 [2, 3]) lNil)) lNil)))))
def d_seeds_for : FD := fnF .pure 4 g_seeds_for
end
end DL
end
section
/-! list(zip(a, b)), lists and tuples in any mixture: each pair that was drawn stays in the list. -/
namespace PySem
variable [DL.Nm]
end PySem
namespace DL
open PySem PySem.Spec PyProof.Rows L2
variable [DL.Nm]
section
variable {prog : Program} {w : World} {A : Around} {E : Value → Shared → Prop} {s : Shared} {z TI TO i1 i2 : Addr} {fp1 fp2 : List Addr} {n1 n2 i : Nat} {P1 P2 : Nat → Value → Prop} {St1 St2 : Nat → Heap → Prop} {T : Addr} {f : Bool} {oT : Obj}
end
section
variable {prog : Program} {w : World} {A : Around} {E : Value → Shared → Prop} {s : Shared} {z TI TO i1 i2 L : Addr} {fp1 fp2 : List Addr} {n1 n2 : Nat} {P1 P2 : Nat → Value → Prop} {St1 St2 : Nat → Heap → Prop}
/-- a zip that drew i times -/
structure ZAt (z TI TO i1 i2 L : Addr) (St1 St2 : Nat → Heap → Prop) (i : Nat) (h : Heap) : Prop where
  ti : IsTupOf2 h TI (.ref i1) (.ref i2)
  a : St1 i h
  b : St2 i h
  at_ : (IsZip h z TI TO .none ∧ ∃ x y, IsTupOf2 h TO x y) ∨ ∃ T f oT, IsZipHeld h z TI TO T f ∧ h.get? T = some oT ∧ L < T
/-- where it lies -/
structure ZLow (z TI TO i1 i2 L : Addr) (fp1 fp2 : List Addr) : Prop where
  z : z < L
  ti : TI < L
  to : TO < L
  f1 : ∀ b ∈ fp1, b < L
  f2 : ∀ b ∈ fp2, b < L
/-- the pairs as they lie -/
structure Prs (P1 P2 : Nat → Value → Prop) (L : Addr) (h : Heap) (as : List Addr) : Prop where
  rise : as.Pairwise (· < ·)
  above : ∀ a ∈ as, L < a
  at_ : ∀ j b, as[j]? = some b → ∃ x1 x2, P1 j x1 ∧ P2 j x2 ∧ IsTupOf2 h b x1 x2
theorem Prs.there {h : Heap} {as : List Addr} (p : Prs P1 P2 L h as) {a : Addr} (ha : a ∈ as) : a < h.objs.size := by
  obtain ⟨j, hj⟩ := List.getElem?_of_mem ha
  obtain ⟨_, _, _, _, e⟩ := p.at_ j a hj
  exact Heap.lt_size e
theorem ZAt.keep {i : Nat} {h h' : Heap} (D1 : ∀ i h h', St1 i h → (∀ b ∈ fp1, ∀ o, h.get? b = some o → h'.get? b = some o) → St1 i h') (D2 : ∀ i h h', St2 i h → (∀ b ∈ fp2, ∀ o, h.get? b = some o → h'.get? b = some o) → St2 i h') (lo : ZLow z TI TO i1 i2 L fp1 fp2)
    (q : ZAt z TI TO i1 i2 L St1 St2 i h) (k : ∀ b o, b ≠ L → h.get? b = some o → h'.get? b = some o) : ZAt z TI TO i1 i2 L St1 St2 i h' := by
  refine ⟨k _ _ (Nat.ne_of_lt lo.ti) q.ti, D1 _ _ _ q.a fun b hb o => k b o (Nat.ne_of_lt (lo.f1 b hb)), D2 _ _ _ q.b fun b hb o => k b o (Nat.ne_of_lt (lo.f2 b hb)), ?_⟩
  rcases q.at_ with ⟨e1, x, y, e2⟩ | ⟨T, f, oT, e1, e2, e3⟩
  · exact .inl ⟨k _ _ (Nat.ne_of_lt lo.z) e1, x, y, k _ _ (Nat.ne_of_lt lo.to) e2⟩
  · exact .inr ⟨T, f, oT, k _ _ (Nat.ne_of_lt lo.z) e1, k _ _ (Nat.ne_of_gt e3) e2, e3⟩
end
theorem HasG.kept {t : Bool} {h h' : Heap} {a : Addr} {its : Array Value} (p : HasG t h a its) (k : ∀ b o, h.get? b = some o → h'.get? b = some o) : HasG t h' a its := by
  cases t with
  | false => obtain ⟨o, e, r⟩ := p; exact ⟨o, k a o e, r⟩
  | true => obtain ⟨o, e, r⟩ := p; exact ⟨o, k a o e, r⟩
/-! ### what is tracked -/
section
variable {X : Cx} {pins : List (Addr × Obj)} {σ : L2.St} {H : Hp} {s : Shared}
end
variable {G : Glb} {X : Cx} {W : WX}
end DL
end
section
/-! a tuple == () -/
namespace PySem.SeqAt
open AutoSeq1 (wpAny_loadPart')
variable [DL.Nm]
section
variable {prog : Program} {w : World}
end
end PySem.SeqAt
namespace L2
open PySem PySem.Spec PyProof.Rows
variable [DL.Nm]
end L2
namespace DL
open PySem L2
variable [DL.Nm]
variable {G : Glb} {X : Cx} {W : WX}
/-- a tuple of anything == () -/
def opEq0 (x y : D) (S : Store) : ER := match x, y with
  | .tup ds, .tup [] => .ok (.bl (decide (ds.length = 0))) S
  | _, _ => .bad
def opNe0 (x y : D) (S : Store) : ER := match x, y with
  | .tup ds, .tup [] => .ok (.bl (!decide (ds.length = 0))) S
  | _, _ => .bad
@[simp] theorem opEq0_is {ds : List D} {S : Store} : opEq0 (.tup ds) (.tup []) S = .ok (.bl (decide (ds.length = 0))) S := rfl
@[simp] theorem opNe0_is {ds : List D} {S : Store} : opNe0 (.tup ds) (.tup []) S = .ok (.bl (!decide (ds.length = 0))) S := rfl
end DL
end
section
/-! repr of texts, None, tuples, dicts. -/
namespace L2
open PySem PySem.Spec PyProof.Rows
variable [DL.Nm]
section
variable {X : Cx}
end
end L2
namespace DL
open PySem L2
variable [DL.Nm]
variable {G : Glb} {X : Cx} {W : WX}
end DL
end
section
/-! == of dicts of whole numbers that hold the same, keys in any order. -/
namespace L2
open PySem PySem.Spec PyProof.Rows
variable [DL.Nm]
section
variable {X : Cx} {pins : List (Addr × Obj)} {σ : St} {H : Hp} {s : Shared}
end
end L2
namespace DL
open PySem L2
variable [DL.Nm]
variable {G : Glb} {X : Cx} {W : WX}
end DL
end
section
/-! == of two tuples that hold the same, dicts of whole numbers among them, keys in any order. -/
namespace PySem.SeqAt
open AutoSeq1 (wpAny_loadPart')
variable [DL.Nm]
section
variable {prog : Program} {w : World}
end
end PySem.SeqAt
namespace L2
open PySem PySem.Spec PyProof.Rows
variable [DL.Nm]
section
variable {X : Cx} {pins : List (Addr × Obj)} {σ : St} {H : Hp} {s : Shared}
end
end L2
namespace DL
open PySem L2
variable [DL.Nm]
variable {G : Glb} {X : Cx} {W : WX}
end DL
end
section
/-! sorted of a dict of texts; methods called with keywords. -/
namespace L2
open PySem PySem.Spec PyProof.Rows
variable [DL.Nm]
section
variable {X : Cx} {CX : CXT} {k n : Nat} {m : Str} {ks : List Str} {E : St → XK} {pos apos : Pos} {e o : Expr} {es : List Expr} {kws : List Keyword} {ta : TE} {t tk : TA} {Ok : Addr → Addr → Sp → Prop} {g : List Value → List Value → List Value} {gV : List V → List V → List V}
end
end L2
namespace DL
open PySem L2
variable [DL.Nm]
variable {G : Glb} {X : Cx} {W : WX}
/-- a method called with n values (self counted) and keywords ks: l parameters -/
structure MethKN (G : Glb) (P : Program) (w : World) (mg : Str → Option Value) (base : Heap) (k : Nat) (c m : Str) (n : Nat) (ks : List Str) (l : Nat) (gD : List D → List D → List D) (F : FD) : Prop where
  ex : ∃ C f fd ps g gV, G.ca c = some C ∧ Cls G.K C ∧ Meth G.K C m f ∧ FnG P w G.K mg base (L2.CX P w) k f fd ps (spD G l F) ∧ KBn G.K fd ps n ks g gV ∧
    ∀ {φ : Fi} {H : Hp} {ds es : List D} {vs zs : List V}, ds.length = n → es.length = ks.length → IsL G φ H ds vs → IsL G φ H es zs → IsL G φ H (gD ds es) (gV vs zs) ∧ (gD ds es).length = l
end DL
namespace DL
open PySem L2 PyProof.Rows
variable [DL.Nm]
end DL
end
section
/-! Steps: a def is walked statement by statement, what stands behind each is reckoned by simp only. -/
namespace DL
open PySem L2
variable [DL.Nm]
variable {S S' S1 : Store} {env e : EnvD} {r : SR} {d x : D}
theorem stN {a b : SM} (h : a env S = .nx e S') (k : b e S' = r) : sSeq a b env S = r := by rw [sSeq_is, h]; exact k
theorem stR {a b : SM} (h : a env S = .rt d S') (k : .rt d S' = r) : sSeq a b env S = r := by rw [sSeq_is, h]; exact k
theorem stX {a b : SM} {q : Exc} (h : a env S = .ex q e S') (k : .ex q e S' = r) : sSeq a b env S = r := by rw [sSeq_is, h]; exact k
theorem fnRt {m : Mode} {n : Nat} {g : SM} {ds : List D} {R : ER} (h : g (startD n ds) S = .rt d S') (k : exitD m S d S' = R) : fnF m n g ds S = R := by rw [fnF_is, h]; exact k
theorem fnNx {m : Mode} {n : Nat} {g : SM} {ds : List D} {R : ER} (h : g (startD n ds) S = .nx e S') (k : exitD m S .non S' = R) : fnF m n g ds S = R := by rw [fnF_is, h]; exact k
theorem fnEx {m : Mode} {n : Nat} {g : SM} {ds : List D} {q : Exc} (h : g (startD n ds) S = .ex q e S') : fnF m n g ds S = .ex q S' := by rw [fnF_is, h]
end DL
end
section
/-! A lambda without parameters handed to a def of the law that calls it once, at its beginning, in a try: over data. -/
namespace DL
open PySem L2 PySem.Spec PyProof.Rows
variable [DL.Nm]
section
variable {X : Cx} {pins : List (Addr × Obj)} {σ : L2.St} {H HZ : Hp} {s s1 : Shared}
/-- a lambda is made: its code is new, or stands in the table; all data stay -/
theorem lam_made {G : Glb} {φ : Fi} {S : Store} (so : SOk G φ S H) {c P : Addr} {params : Arguments} {body : Expr} {scope : Scope} {pos : Pos} {E Q : Value → Shared → Prop} (I : Inv X pins σ H s) (tb : LamX.TabB X.base X.mg c P) (own : X.env.code = .ref c)
    (mem : (P, X.env.qual ++ "<lambda>") ∈ G.T) (nodef : defaultsOf params X.env = ([], [])) (free : ∀ y ∈ scope.names, y.2 = .free → ∃ c, X.env.cells.lookup y.1 = some c)
    (then_ : ∀ (f d : Addr) (pm ctv : Value) (H1 : Hp) (s' : Shared), Inv X pins σ H1 s' → Ext φ H φ H1 → SOk G φ S H1 →
      s'.heap.get? f = some (PySem.W.kla_obj "<lambda>" (X.env.qual ++ "<lambda>") params body scope (cloFrom X.env.cells scope.names []) pm d ctv) → H1 f = none → f ∉ frs X.stack → H1 d = some (LamX.CodeO d (X.env.qual ++ "<lambda>")) → φ.out d → Q (.ref f) s') :
    wpAny (model X.prog X.w) X.A (eval (.Lambda params body scope pos) X.env) Q E s := by
  have tab := so.tab _ mem
  obtain ⟨nq, out, ps, hP, ht, ha⟩ := id tab
  have blt : s.heap.BuiltinsAt X.mg P := tb.bm.keeps I.bk
  have obP : s.heap.get? P = some { cls := .none, data := .fields ps } := I.hok P _ hP
  have off : ∀ f, s.heap.objs.size ≤ f → f ∉ frs X.stack := by
    intro f hf z
    rcases List.mem_cons.mp (I.stkSub _ z) with e | e
    · have lt := I.lt
      rw [← e] at lt
      exact Nat.lt_irrefl _ (Nat.lt_of_lt_of_le lt hf)
    · exact I.nofs hf e
  refine PySem.W.kla_eval nodef ?_
  rcases hc : codeAmong pos ps.toList with _ | cv
  · refine PySem.W.kla_makeFunction (mg := X.mg) (c := c) (P := P) (ps := ps) (closure_ok free) I.ok.glob (I.mod.glob.keeps I.bk) own (tb.code.keeps I.bk) obP ht hc tb.gP blt fun d ctv h' tk kept ge lt rec_ obP' => ?_
    obtain ⟨d', od, vs, t, e, g1, g2, g3⟩ := rec_
    cases e
    have fresh : H d = none := I.hok.fresh ge
    have nPd : P ≠ d := ne_of_none hP fresh
    have size : s.heap.objs.size ≤ h'.objs.size := by omega
    obtain ⟨ps', hps'⟩ : ∃ ps', ps' = ps ++ #[rawInt pos.line, rawInt pos.col, Value.ref d] := ⟨_, rfl⟩
    have I1 := LamX.inv_table (t' := tk) (q := X.env.qual ++ "<lambda>") (more := #[rawInt pos.line, rawInt pos.col, .ref d]) (h' := h'.push (PySem.W.kla_obj "<lambda>" (X.env.qual ++ "<lambda>") params body scope (cloFrom X.env.cells scope.names []) ((X.mg "__name__").getD .none) d ctv)) I hP
      (fun b o nb e => Heap.get?_push_of_some _ (kept b o nb e)) (Heap.get?_push_of_some _ obP') ge ⟨od, vs, t, Heap.get?_push_of_some _ g1, g2, g3⟩
    rw [← hps'] at I1
    obtain ⟨H1, hH1⟩ : ∃ H1, H1 = upd (upd H P (.tbl ps')) d (LamX.CodeO d (X.env.qual ++ "<lambda>")) := ⟨_, rfl⟩
    rw [← hH1] at I1
    have atP : H1 P = some (.tbl ps') := by rw [hH1, upd_ne nPd, upd_same]
    have atd : H1 d = some (LamX.CodeO d (X.env.qual ++ "<lambda>")) := by rw [hH1, upd_same]
    have atb : ∀ b o, H b = some o → b ≠ P → H1 b = some o := fun b o e nb => by rw [hH1, upd_ne (ne_of_none e fresh), upd_ne nb]; exact e
    have tab1 : TabX φ H1 P (X.env.qual ++ "<lambda>") := by
      refine ⟨nq, out, ps', atP, ?_, fun p' cv hcv => ?_⟩
      · rw [hps', Array.toList_append]
        exact PySem.TriplesOk_snoc _ _ _ _ ht
      · rw [hps', Array.toList_append] at hcv
        rcases LamX.among_app _ ht hcv with z | z
        · obtain ⟨c0, e1, n1, e2⟩ := ha p' cv z
          exact ⟨c0, e1, n1, atb _ _ e2 (fun z => by rw [z, hP] at e2; exact LamX.codeO_ne ps (Option.some.inj e2).symm)⟩
        · exact ⟨d, z, so.fresh fresh, atd⟩
    have ext : Ext φ H φ H1 := by
      refine ⟨⟨[], by simp, fun _ z => by simp at z⟩, rfl, fun b o nb e => ?_⟩
      by_cases hb : b = P
      · subst hb
        rw [hP] at e
        cases e
        exact .inr ⟨ps, ps', out.2, rfl, atP, fun q t => by rw [t.1, ← nq]; exact tab1⟩
      · exact .inl (.inl (atb b o e hb))
    have so1 : SOk G φ S H1 := so.step ext fun a ha' => by
      have h1 : a ≠ P := fun z => out.1 (by rw [← z]; exact ha')
      have h2 : a ≠ d := fun z => so.freshc fresh (by rw [← z]; exact ha')
      rw [hH1, upd_ne h2, upd_ne h1]
    refine then_ h'.objs.size d _ ctv H1 _ I1 ext so1 (Heap.get?_push_size _ rfl) ?_ (off _ size) atd (so.fresh fresh)
    have h1 : h'.objs.size ≠ d := by omega
    have h2 : h'.objs.size ≠ P := fun z => by
      rw [← z] at obP
      exact Nat.lt_irrefl _ (Nat.lt_of_lt_of_le (Heap.lt_size obP) size)
    rw [hH1, upd_ne h1, upd_ne h2]
    exact I.hok.fresh size
  · obtain ⟨d, rfl, nd, hd⟩ := ha pos cv hc
    refine PySem.W.kla_makeFunctionHit (mg := X.mg) (c := c) (P := P) (ps := ps) (closure_ok free) I.ok.glob (I.mod.glob.keeps I.bk) own (tb.code.keeps I.bk) obP ht hc blt fun ctv h' tk kept size => ?_
    have I1 : Inv X pins σ H { s with heap := h'.push (PySem.W.kla_obj "<lambda>" (X.env.qual ++ "<lambda>") params body scope (cloFrom X.env.cells scope.names []) ((X.mg "__name__").getD .none) d ctv), toks := tk } := I.kept fun b o e => Heap.get?_push_of_some _ (kept b o e)
    exact then_ h'.objs.size d _ ctv H _ I1 .refl so (Heap.get?_push_size _ rfl) (I.hok.fresh size) (off _ size) hd nd
end
section
variable {G : Glb} {X : Cx} {W : WX}
theorem post_sig {V : XK} {φ : Fi} {H : Hp} {σ τ : L2.St} {r : ER} {Q : VK} (h : PostE G (fun cls dx _ H2 => V cls dx H2) φ H σ r Q) : PostE G (fun cls dx _ H2 => V cls dx H2) φ H τ r Q := by
  cases r with
  | ok d S => exact h
  | ex x S => exact h
  | bad => exact h
theorem post_at {φ : Fi} {H : Hp} {σ τ : L2.St} {r : ER} {Q : VK} (h : PostE G W φ H σ r Q) : PostE G (fun cls dx _ H2 => W cls dx σ H2) φ H τ r Q := by
  cases r with
  | ok d S => exact h
  | ex x S => exact h
  | bad => exact h
/-- what a try wishes of its body -/
theorem try_post {c : Value} {i : Nat} {tab : Str → Bool} {f g : SM} (hK : X.K = G.K) (hx : ∀ cn C, G.ce cn = some C → PySem.W.exmOne G.K (.ref C) c = some (tab cn)) {φ : Fi} {H : Hp} {env : EnvD} {S : Store} {N : Ends} (h : PostS G W φ H (sTry tab i f g env S) N) :
    PostS G (wKp X.K c i (tOfS G W0 g) W N) φ H (f env S) N := by
  unfold sTry at h
  cases hr : f env S with
  | nx e S1 => rw [hr] at h; exact h
  | rt e S1 => rw [hr] at h; exact h
  | bk e S1 => rw [hr] at h; exact h
  | ct e S1 => rw [hr] at h; exact h
  | bad => rw [hr] at h; exact h
  | ex x1 e1 S1 =>
    rw [hr] at h
    dsimp only at h
    intro φ1 H1 σ1 cls d ext s1 re1 ix
    obtain ⟨C, ce, ec, _⟩ := id ix
    refine ⟨tab x1.cls, by rw [ec, hK]; exact hx _ _ ce, fun q a na => ?_, fun q => ?_⟩
    · rw [if_pos q] at h
      obtain ⟨i1, s2, e2⟩ := is_exn s1 na ix
      refine ⟨_, φ1, S1, s2, (re1.ext e2).set i1 i, ?_⟩
      have h' := PostS.ext (ext.trans e2) h
      cases hg : g (e1.set i (some (exnD x1))) S1 with
      | nx e S2 => rw [hg] at h'; exact fun φ3 H3 σ3 e3 s3 r3 => h' φ3 H3 _ e3 s3 (r3.drop i)
      | bk e S2 => rw [hg] at h'; exact fun φ3 H3 σ3 e3 s3 r3 => h' φ3 H3 _ e3 s3 (r3.drop i)
      | ct e S2 => rw [hg] at h'; exact fun φ3 H3 σ3 e3 s3 r3 => h' φ3 H3 _ e3 s3 (r3.drop i)
      | rt d S2 => rw [hg] at h'; exact h'
      | ex x e S2 => rw [hg] at h'; exact False.elim h'
      | bad => rw [hg] at h'; exact False.elim h'
    · rw [q] at h
      exact h φ1 H1 σ1 cls d ext s1 re1 ix
/-- what is known where the lambda is called -/
def tAct (G : Glb) (f : Addr) (φ : Fi) (H : Hp) (S : Store) (r : ER) (W : WX) : TE := fun τ H' Q' => τ[0]? = some (some (.ref f)) ∧ ∃ φ', Ext φ H φ' H' ∧ SOk G φ' S H' ∧ PostE G (fun cls dx _ H2 => W cls dx τ H2) φ' H' [] r Q'
theorem try_lam {x n : Str} {c : Value} {i : Nat} {body suite rest : List Stmt} {b₀ : Stmt} {np pos pos' : Pos} {tab : Str → Bool} {g grest : SM} {call : Expr} {lift : TE → TS} {gt : ER → SM} (hK : X.K = G.K) (hs : X.stack = X.env :: X.outer) (hf : X.env.frame = some X.env.locals) (hN : X.N.Nodup) (hi : X.N[i]? = some n) (hln : X.env.kindOf n = some .local)
    (hc : Names X x c) (hx : ∀ cn C, G.ce cn = some C → PySem.W.exmOne G.K (.ref C) c = some (tab cn)) (tk : Takes X W)
    (hlift : ∀ (pn : List (Addr × Obj)) (xe : Value → Shared → Prop) (T : TE), PE (X.tr pn xe) call T → PSs (X.tr pn xe) body (lift T))
    (hsu : ∀ (a : Addr) (pn : List (Addr × Obj)), DSs G (X.suite a pn) W0 (b₀ :: suite) g) (hrest : DSs G X W rest grest)
    (hgt : ∀ (f : Addr) (φ0 : Fi) (H0 : Hp) (φ : Fi) (H : Hp) (S : Store) (r : ER) (W : WX) (D : Ends) (σ : L2.St) (env : EnvD), Ext φ0 H0 φ H → SOk G φ S H → RepE G φ H σ env → σ[0]? = some (some (.ref f)) → PostS G W φ H (gt r env S) D → lift (tAct G f φ0 H0 S r W) D σ H)
    {f : Addr} {φ0 : Fi} {H0 : Hp} {S : Store} {r : ER} (act : ∀ (W : WX) (pn : List (Addr × Obj)) (xe : Value → Shared → Prop), Takes (X.tr pn xe) W → PE (X.tr pn xe) call (tAct G f φ0 H0 S r W)) :
    ∃ t, PSs X (.Try body [.ExceptHandler (some (.Name x np)) (some n) (b₀ :: suite) pos'] [] [] pos :: rest) t ∧
      ∀ (σ : L2.St) (env : EnvD) (φ : Fi) (H : Hp) (N : Ends), Ext φ0 H0 φ H → SOk G φ S H → RepE G φ H σ env → σ[0]? = some (some (.ref f)) → PostS G W φ H (sSeq (sTry tab i (gt r) g) grest env S) N → t N σ H := by
  obtain ⟨tr, pr, qr⟩ := hrest
  refine ⟨_, pss_cons (ps_tryKeep (tb := fun W => lift (tAct G f φ0 H0 S r W)) (ts := tOfS G W0 g) hs hf hN hi hln hc tk (fun W pn xe tk po => hlift pn xe _ (act W pn xe tk)) (fun a pn => (hsu a pn).can)) pr, fun σ env φ H N ex so re sl h => ?_⟩
  refine hgt f φ0 H0 φ H S r _ _ σ env ex so re sl (try_post (tab := tab) hK hx ?_)
  unfold sSeq at h
  cases hr : sTry tab i (gt r) g env S with
  | nx e S1 => rw [hr] at h; exact fun φ1 H1 σ1 e1 s1 r1 => qr σ1 H1 e φ1 S1 N s1 r1 (PostS.ext e1 h)
  | rt d S1 => rw [hr] at h; exact h
  | bk e S1 => rw [hr] at h; exact h
  | ct e S1 => rw [hr] at h; exact h
  | ex x e S1 => rw [hr] at h; exact h
  | bad => rw [hr] at h; exact h
/-- found = work() -/
theorem gt_set (j : Nat) (f : Addr) (φ0 : Fi) (H0 : Hp) (φ : Fi) (H : Hp) (S : Store) (r : ER) (W : WX) (D : Ends) (σ : L2.St) (env : EnvD) (ex : Ext φ0 H0 φ H) (so : SOk G φ S H) (re : RepE G φ H σ env) (sl : σ[0]? = some (some (.ref f))) (h : PostS G W φ H (sAsg (fun _ _ => r) (bName j) env S) D) : tAsg (tAct G f φ0 H0 S r W) (gName j) D σ H := by
  refine ⟨sl, φ, ex, so, ?_⟩
  cases r with
  | ok d S1 => exact fun φ1 H1 v e1 s1 i1 => h φ1 H1 _ e1 s1 ((re.ext e1).set i1 j)
  | ex x S1 => exact fun φ1 H1 cls dx e1 s1 ix => h φ1 H1 σ cls dx e1 s1 (re.ext e1) ix
  | bad => exact h
end
/-! ### the def that is handed the lambda -/
abbrev zOf (G : Glb) (P : Program) (w : World) (mg : Str → Option Value) (base : Heap) (N : List Str) (x : Str) (st : Stmt) (g : Addr) (cdv : Value) (A : Around) (outer : List Env) (s : Shared) (H : Hp) (E : XK) : Cx := cxOf (L2.CX P w) P w G.K mg base N x (defScope st) g cdv A outer s H E
/-- hR: what it tells, by what the lambda gives at its beginning -/
structure LamD (G : Glb) (P : Program) (w : World) (mg : Str → Option Value) (base : Heap) (k : Nat) (x : Str) (hR : ER → Store → ER) : Prop where
  ex : ∃ (g : Addr) (fd : FuncData) (st : Stmt) (a : Str) (N : List Str), Fun G.K x x st g fd ∧ FnScope N [a] (defScope st) ∧ N[0]? = some a ∧ Vis (defScope st) a ∧ (a == ("__debug__" : Str)) = false ∧ (a == ("__classdict__" : Str)) = false ∧ mg x = some (.ref g) ∧ Binds G.K fd [a] [] ∧
    ∀ (cdv : Value) (A : Around) (outer : List Env) (s : Shared) (H : Hp) (E : XK), A.guards = some [] → Room k (A.deeper (envOfC x (defScope st) s.heap.objs.size g cdv)) →
      ∀ (f : Addr) (φ : Fi) (S : Store) (r : ER) (Q : VK), SOk G φ S H →
        (∀ (W : WX) (pn : List (Addr × Obj)) (xe : Value → Shared → Prop) (p1 p2 : Pos), Takes ((zOf G P w mg base N x st g cdv A outer s H E).tr pn xe) W → PE ((zOf G P w mg base N x st g cdv A outer s H E).tr pn xe) (.Call (.Name a p1) [] [] p2) (tAct G f φ H S r W)) →
        PostE G (fun cls dx _ H2 => E cls dx H2) φ H [] (hR r S) Q →
        ∃ t, PSs (zOf G P w mg base N x st g cdv A outer s H E) (defBody st) t ∧ t { nx := fun _ H' => Q .non H', rt := Q } (L2.start N [.ref f]) H
def eLam (hR : ER → Store → ER) (f : EM) : EM := fun env S => hR (f env S) S
section
variable {G : Glb} {X : Cx} {W : WX}
end
/-! ### its promise, by its body: err = None; try: work() / found = work(); except C as e: ..; the rest -/
noncomputable def gLamB (i1 i2 j i : Nat) (tab : Str → Bool) (gs gr : SM) (r : ER) : SM := sSeq (sAsg (eTup (lCons (eC .non) (lCons (eC .non) lNil))) (bTup (bCons (bName i1) (bCons (bName i2) bNil)))) (sSeq (sTry tab i (sAsg (fun _ _ => r) (bName j)) gs) gr)
noncomputable def hLam (m : Mode) (n : Nat) (g : ER → SM) : ER → Store → ER := fun r S => fnF m n (g r) [] S
section
variable {G : Glb} {P : Program} {w : World} {mg : Str → Option Value} {base : Heap}
theorem fn_post {m : Mode} {n : Nat} {g : SM} {ds : List D} {φ : Fi} {H : Hp} {S : Store} {Q : VK} {E : XK} (so : SOk G φ S H) (hp : PostE G (fun cls dx _ H2 => E cls dx H2) φ H [] (fnF m n g ds S) Q) :
    PostS G (fun cls d _ H => E cls d H) φ H (g (startD n ds) S) { nx := fun _ H' => Q .non H', rt := Q } := by
  unfold fnF at hp
  cases hg : g (startD n ds) S with
  | nx e S1 => rw [hg] at hp; exact fun φ1 H1 σ1 e1 s1 r1 => exit_ok so e1 s1 (show Is G φ1 H1 .non .non from rfl) hp
  | rt d S1 => rw [hg] at hp; exact fun φ1 H1 v e1 s1 i1 => exit_ok so e1 s1 i1 hp
  | ex x e S1 => rw [hg] at hp; exact fun φ1 H1 σ1 cls dx e1 s1 r1 ix => hp φ1 H1 cls dx e1 s1 ix
  | bk e S1 => rw [hg] at hp; exact False.elim hp
  | ct e S1 => rw [hg] at hp; exact False.elim hp
  | bad => rw [hg] at hp; exact False.elim hp
theorem start_rep {N : List Str} {f : Addr} {φ : Fi} {H : Hp} (hN : 1 ≤ N.length) : RepE G φ H (L2.start N [.ref f]) (startD N.length []) ∧ (L2.start N [.ref f])[0]? = some (some (.ref f)) := by
  refine ⟨⟨by simp [L2.start, startD]; omega, fun i d h => ?_⟩, by simp [L2.start]⟩
  unfold startD at h
  rw [List.map_nil, List.nil_append, List.getElem?_replicate] at h
  split at h <;> cases h
section
variable {x a y xe n : Str} {g : Addr} {fd : FuncData} {st : Stmt} {N : List Str} {k i i1 : Nat} {c : Value} {suite rest : List Stmt} {b₀ : Stmt} {p1 p2 p3 p4 p5 p6 np pos pos' : Pos} {jj} {tab : Str → Bool} {gs gr : SM}
/-- what of the body is asked in its context -/
structure LamZ (G : Glb) (P : Program) (w : World) (mg : Str → Option Value) (base : Heap) (k : Nat) (N : List Str) (x : Str) (st : Stmt) (g : Addr) (xe : Str) (c : Value) (suite rest : List Stmt) (gs gr : SM) : Prop where
  ok : ∀ (cdv : Value) (A : Around) (outer : List Env) (s : Shared) (H : Hp) (E : XK), A.guards = some [] → Room k (A.deeper (envOfC x (defScope st) s.heap.objs.size g cdv)) →
    Takes (zOf G P w mg base N x st g cdv A outer s H E) (fun cls d _ H => E cls d H) →
    PassesOwn (model P w) (A.deeper (envOfC x (defScope st) s.heap.objs.size g cdv)) (envOfC x (defScope st) s.heap.objs.size g cdv) (zOf G P w mg base N x st g cdv A outer s H E).xe →
    Names (zOf G P w mg base N x st g cdv A outer s H E) xe c ∧ (∀ (a : Addr) (pn : List (Addr × Obj)), DSs G ((zOf G P w mg base N x st g cdv A outer s H E).suite a pn) W0 suite gs) ∧
    DSs G (zOf G P w mg base N x st g cdv A outer s H E) (fun cls d _ H => E cls d H) rest gr
theorem lamD_B {i2 j : Nat} {y2 z : Str} {kt k2} {pt pt2 p7 p8 p9 : Pos} {jj2} (m : Mode) (F : Fun G.K x x st g fd) (Sc : FnScope N [a] (defScope st)) (hm : mg x = some (.ref g)) (hb : Binds G.K fd [a] []) (h0 : N[0]? = some a) (hv : Vis (defScope st) a)
    (hbody : defBody st = .Assign [.Tuple [.Name y p1, .Name y2 p2] kt pt] (.Tuple [.Constant .none jj p3, .Constant .none jj2 p7] k2 pt2) p8 :: .Try [.Assign [.Name z p9] (.Call (.Name a p4) [] [] p5) p6] [.ExceptHandler (some (.Name xe np)) (some n) (b₀ :: suite) pos'] [] [] pos :: rest)
    (hy : N[i1]? = some y) (hyl : (defScope st).names.lookup y = some .local) (h1 : i1 ≠ 0) (hy2 : N[i2]? = some y2) (hyl2 : (defScope st).names.lookup y2 = some .local) (h2 : i2 ≠ 0) (h12 : i1 ≠ i2) (hz : N[j]? = some z) (hzl : (defScope st).names.lookup z = some .local) (hi : N[i]? = some n) (hln : (defScope st).names.lookup n = some .local)
    (hx : ∀ cn C, G.ce cn = some C → PySem.W.exmOne G.K (.ref C) c = some (tab cn)) (Z : LamZ G P w mg base k N x st g xe c (b₀ :: suite) rest gs gr)
    (hw : ∀ (cdv : Value) (A : Around) (outer : List Env) (s : Shared) (H : Hp) (E : XK), swapsWithSole [.Tuple [.Name y p1, .Name y2 p2] kt pt] (.Tuple [.Constant .none jj p3, .Constant .none jj2 p7] k2 pt2) p8.line (zOf G P w mg base N x st g cdv A outer s H E).env = pure false ∧ swappedStores [.Tuple [.Name y p1, .Name y2 p2] kt pt] (.Tuple [.Constant .none jj p3, .Constant .none jj2 p7] k2 pt2) (zOf G P w mg base N x st g cdv A outer s H E).env = pure none)
    (n1 : (a == ("__debug__" : Str)) = false := by decide) (n2 : (a == ("__classdict__" : Str)) = false := by decide) :
    LamD G P w mg base k x (hLam m N.length (gLamB i1 i2 j i tab gs gr)) := by
  refine ⟨g, fd, st, a, N, F, Sc, h0, hv, n1, n2, hm, hb, fun cdv A outer s H E gd hr f φ S r Q so act h => ?_⟩
  obtain ⟨z1, z2, z3⟩ := Z.ok cdv A outer s H E gd hr (takes_of rfl rfl rfl rfl) (passes_of rfl)
  have hp := fn_post so h
  obtain ⟨re, sl⟩ := start_rep (G := G) (f := f) (φ := φ) (H := H) (N := N) (by have := (List.getElem?_eq_some_iff.mp h0).1; omega)
  obtain ⟨t2, q1, q2⟩ := try_lam (X := zOf G P w mg base N x st g cdv A outer s H E) (W := fun cls d _ H => E cls d H) (lift := fun T => tAsg T (gName j)) (gt := fun r => sAsg (fun _ _ => r) (bName j)) (call := .Call (.Name a p4) [] [] p5) (pos := pos) (pos' := pos') (np := np) rfl rfl rfl Sc.nd hi hln z1 hx (takes_of rfl rfl rfl rfl)
    (fun pn xe T hT => pss_one (ps_set (X := (zOf G P w mg base N x st g cdv A outer s H E).tr pn xe) (pos := p6) Sc.nd hz (.inl hzl) hT rfl (.inl rfl))) z2 z3 (gt_set j) (fun W pn xe tk => act W pn xe p4 p5 tk)
  have p0 : PS (zOf G P w mg base N x st g cdv A outer s H E) (.Assign [.Tuple [.Name y p1, .Name y2 p2] kt pt] (.Tuple [.Constant .none jj p3, .Constant .none jj2 p7] k2 pt2) p8) (tAsg (tTup (tCons (tC .non) (tCons (tC .non) tNil))) (gTup G.K 2 (gCons (gName i1) (gCons (gName i2) gNil)))) :=
    ps_asg (X := zOf G P w mg base N x st g cdv A outer s H E) (pe_tup (pa_cons pe_non (pa_cons pe_non pa_nil))) (pg_tup (X := zOf G P w mg base N x st g cdv A outer s H E) (n := 2) rfl (pgs_cons (pg_name Sc.nd hy (.inl hyl) (.inl rfl)) (pgs_cons (pg_name Sc.nd hy2 (.inl hyl2) (.inl rfl)) pgs_nil))) (hw cdv A outer s H E).1 (hw cdv A outer s H E).2
  refine ⟨_, by rw [hbody]; exact pss_cons p0 q1, ?_⟩
  have e0 : ∀ env, gLamB i1 i2 j i tab gs gr r env S = sSeq (sTry tab i (sAsg (fun _ _ => r) (bName j)) gs) gr ((env.set i1 (some .non)).set i2 (some .non)) S := fun env => by
    unfold gLamB
    rw [sSeq_is]
    have z2 : sz 2 := by unfold sz; omega
    have : (sAsg (eTup (lCons (eC .non) (lCons (eC .non) lNil))) (bTup (bCons (bName i1) (bCons (bName i2) bNil)))) env S = .nx ((env.set i1 (some .non)).set i2 (some .non)) S := by simp [z2]
    rw [this]
    rfl
  rw [e0] at hp
  refine ⟨by decide, fun p hpn => ⟨p, [.non, .non], rfl, .inl (.inl upd_same), rfl, .non, [.non], rfl, .non, [], rfl, rfl, ?_⟩⟩
  exact q2 _ _ φ _ _ (.laid hpn) (so.laid hpn) (((re.ext (.laid hpn)).set (d := .non) (v := .non) rfl i1).set (d := .non) (v := .non) rfl i2) (by
    rw [List.getElem?_set_ne h2, List.getElem?_set_ne h1]
    exact sl) (PostS.ext (.laid hpn) hp)
end
end
end DL
end
section
/-! The end of a law whose defs make lambdas: the tables of their code objects are known and empty at first. -/
namespace L2
open PySem PySem.Spec PyProof.Rows
/-- what is tracked when the law is called: the script, if it is not of the text, and the tables -/
def heap0 (a : Addr) (seen : Bool) (o : Obj) (xs : List V) (ts : List Addr) : Hp := fun b => if b = a then (if seen = true then none else some (.frz o (.lst xs))) else if b ∈ ts then some (.tbl #[]) else none
theorem heap0_t {a : Addr} {seen : Bool} {o : Obj} {xs : List V} {ts : List Addr} {b : Addr} (h : b ∈ ts) (n : b ≠ a) : heap0 a seen o xs ts b = some (.tbl #[]) := by
  unfold heap0
  rw [if_neg n, if_pos h]
theorem heap0_cases {a : Addr} {seen : Bool} {o : Obj} {xs : List V} {ts : List Addr} {b : Addr} {u : HO} (h : heap0 a seen o xs ts b = some u) : (b = a ∧ seen = false ∧ u = .frz o (.lst xs)) ∨ (b ≠ a ∧ b ∈ ts ∧ u = .tbl #[]) := by
  unfold heap0 at h
  split at h
  · rename_i e
    split at h
    · cases h
    · rename_i z
      cases h
      exact .inl ⟨e, by simpa using z, rfl⟩
  · rename_i e
    split at h
    · rename_i z
      cases h
      exact .inr ⟨e, z, rfl⟩
    · cases h
theorem law_callGT {P : Program} {w : World} {K : PySem.W.Frag} {mg mb : Str → Option Value} {CX : CXT} {k : Nat} {fa a : Addr} {cs : List (Addr × Addr)} {fd : FuncData} {x : Str} {sp : Sp} {s₁ : Shared} {vs : List Value} {ns : List Int}
    (KX : K.In s₁.heap) (hns : s₁.heap.Ns mainGlobals mg) (hb : s₁.heap.Ns builtinsNs mb) (hbb : ∀ x : Str, x ≠ "__name__" → mb x = bootBuiltins x) (hlim : s₁.heap.NoLimit) (hg : s₁.gens = #[])
    (empty : ∀ p ∈ cs, s₁.heap.get? p.2 = some { cls := .none, data := .fields #[] }) (noK : ∀ p ∈ cs, K.lookup p.2 = none) (code : ∀ p ∈ cs, PySem.W.CodeHd s₁.heap p.1 p.2)
    (main : ∃ (bm : Addr) (ob : Obj), mg "__builtins__" = some (.ref bm) ∧ bm ≠ builtinsNs ∧ s₁.heap.get? bm = some ob ∧ ob.cls = .type "module" ∧ ob.dict = some builtinsNs ∧ ob.data = .plain)
    (ha : s₁.heap.get? a = some { cls := .type "list", data := .seq vs.toArray }) (hi : IntsAre vs ns) (hl : ns.length ≤ sizeLine) (hr : Room k callerA)
    (F : ∀ base : Heap, K.In base → base.Ns mainGlobals mg → (∀ p ∈ cs, LamX.TabB base mg p.1 p.2) → FnG P w K mg base CX k fa fd [x] sp) (hbind : ∀ (s : Shared) (u : Value), BindsTo s fd ⟨[u], []⟩ [(x, u)])
    (hsp : ∀ H : Hp, (∀ p ∈ cs, H p.2 = some (.tbl #[])) → SqL K H a (ns.map V.int) → sp [.ref a] H (fun v _ => v = .bl true) fun _ _ _ => False)
    (hCX : ∀ H e s', CX [] H s₁ (fun _ _ _ => False) e s' → False) :
    codeAny (model P w) callerA (.call (.ref fa) ⟨[.ref a], []⟩) (fun r s' => r = .ok (.ret (.bool true)) ∧ OldK s₁.heap s'.heap ∧ s'.os = s₁.os ∧ AllBare s'.gens) s₁ := by
  obtain ⟨ts, hts⟩ : ∃ ts, ts = cs.map (·.2) := ⟨_, rfl⟩
  have inT : ∀ b, b ∈ ts → ∃ p ∈ cs, p.2 = b := fun b h => by rw [hts] at h; exact List.mem_map.mp h
  have toT : ∀ p ∈ cs, p.2 ∈ ts := fun p h => by rw [hts]; exact List.mem_map.mpr ⟨p, h, rfl⟩
  have obT : ∀ b ∈ ts, s₁.heap.get? b = some { cls := .none, data := .fields #[] } := fun b h => by
    obtain ⟨p, hp, rfl⟩ := inT b h
    exact empty p hp
  have aT : ∀ b ∈ ts, b ≠ a := fun b h z => by
    have q := obT b h
    rw [z, ha] at q
    have := congrArg Obj.data (Option.some.inj q)
    cases this
  have lenV := hi.length
  have rv := vals_ints hi
  obtain ⟨H, hH⟩ : ∃ H, H = heap0 a (K.lookup a).isSome { cls := .type "list", data := .seq vs.toArray } (ns.map V.int) ts := ⟨_, rfl⟩
  have cas : ∀ {b u}, H b = some u → (b = a ∧ K.lookup a = none ∧ u = .frz { cls := .type "list", data := .seq vs.toArray } (.lst (ns.map V.int))) ∨ (b ≠ a ∧ b ∈ ts ∧ u = .tbl #[]) := fun {b u} h => by
    rw [hH] at h
    rcases heap0_cases h with ⟨e1, e2, e3⟩ | q
    · exact .inl ⟨e1, by simpa using e2, e3⟩
    · exact .inr q
  have HT : ∀ p ∈ cs, H p.2 = some (.tbl #[]) := fun p hp => by rw [hH]; exact heap0_t (toT p hp) (aT _ (toT p hp))
  have HS : SqL K H a (ns.map V.int) := by
    cases hk : K.lookup a with
    | some o =>
      have e := KX a o hk
      rw [ha] at e
      cases e
      exact .inr ⟨_, vs.toArray, _, hk, rfl, rfl, rfl, by rw [List.size_toArray, lenV]; exact hl, by simpa using rv⟩
    | none =>
      refine .inl (.inr ⟨{ cls := .type "list", data := .seq vs.toArray }, ?_⟩)
      rw [hH]
      unfold heap0
      rw [if_pos rfl, hk]
      rfl
  have hok : HOk P w H s₁.heap := fun b u z => by
    rcases cas z with ⟨rfl, _, rfl⟩ | ⟨_, h, rfl⟩
    · exact ⟨ha, by rw [List.length_map]; exact hl, vs, _, rv, ha⟩
    · exact obT b h
  -- what no one tracks lies below
  have free : ∀ {b : Addr} {o : Obj}, s₁.heap.get? b = some o → (∀ vs n, o.data ≠ .seq vs n) → o.data ≠ .fields #[] → H b = none := fun {b o} e h1 h2 => by
    cases q : H b with
    | none => rfl
    | some u =>
      rcases cas q with ⟨rfl, _, _⟩ | ⟨_, h, _⟩
      · rw [ha] at e
        cases e
        exact absurd rfl (h1 _ _)
      · rw [obT b h] at e
        cases e
        exact absurd rfl h2
  have low : ∀ {b : Addr} {o : Obj}, s₁.heap.get? b = some o → H b = none → (hidT s₁.heap H).get? b = some o := fun e n => hidT_get e n
  have ofDict : ∀ {b : Addr} {o : Obj} {es : Array DictEntry} {ep : Nat}, s₁.heap.get? b = some o → o.data = .dict es ep → H b = none := fun {b o es ep} e d =>
    free e (fun vs n z => by rw [d] at z; cases z) (fun z => by rw [d] at z; cases z)
  have names : ∀ {b : Addr} {m : Str → Option Value}, s₁.heap.Ns b m → (hidT s₁.heap H).Ns b m := fun {b m} ⟨o, es, ep, e, d, r⟩ => ⟨o, es, ep, low e (ofDict e d), d, r⟩
  have KB : K.In (hidT s₁.heap H) := fun b o e => low (KX b o e) (by
    cases q : H b with
    | none => rfl
    | some u =>
      rcases cas q with ⟨rfl, z, _⟩ | ⟨_, h, _⟩
      · rw [e] at z; cases z
      · obtain ⟨p, hp, rfl⟩ := inT b h
        rw [noK p hp] at e
        cases e)
  have mod : Mod K mg (hidT s₁.heap H) := ⟨KB, names hns, ⟨mb, names hb, hbb⟩, let ⟨mc, h1, h2⟩ := hlim; ⟨mc, names h1, h2⟩⟩
  have tabs : ∀ p ∈ cs, LamX.TabB (hidT s₁.heap H) mg p.1 p.2 := fun p hp => by
    have e := empty p hp
    refine ⟨?_, ?_, fun z => ?_⟩
    · obtain ⟨o, us, file, tf, flags, tg, inF, text, tt, e1, r1, r2, r3, r⟩ := code p hp
      refine ⟨o, us, file, tf, flags, tg, inF, text, tt, low e1 (free e1 (fun vs n z => by rw [r2] at z; cases z) fun z => ?_), r1, r2, r3, r⟩
      rw [r2] at z
      cases z
      simp at r3
    · obtain ⟨bm, ob, b1, b2, b3, b4, b5, b6⟩ := main
      refine ⟨bm, ob, b1, b2, fun z => ?_, fun z => ?_, low b3 (free b3 (fun vs n z => by rw [b6] at z; cases z) fun z => by rw [b6] at z; cases z), b4, b5, b6⟩
      · obtain ⟨o, es, ep, e, hd, _⟩ := hns
        rw [z, e] at b3
        cases b3
        rw [hd] at b6
        cases b6
      · rw [z, e] at b3
        cases b3
        cases b6
    · obtain ⟨o, es, ep, e2, hd, _⟩ := hns
      rw [z, e] at e2
      cases e2
      cases hd
  have e0 : Env0 P w K mg (hidT s₁.heap H) callerA [] s₁ H := ⟨rfl, mod, fun b o e => of_hidT e, Nat.le_of_eq (hidT_size _ _), trivial, fun b hb => absurd (show b ∈ ([] : List Addr) from hb) (by simp), hok, .of_eq hg⟩
  refine codeAny_mono ((F _ KB (names hns) tabs).run callerA [] s₁ H ⟨[.ref a], []⟩ [.ref a] [.ref a] _ _ rfl hr e0 (hbind s₁ (.ref a)) (.cons rfl .nil) (hsp H HT HS)) fun r s' h => ?_
  match r, h with
  | .error e, h => exact (hCX H e s' h).elim
  | .ok .next, h => exact False.elim h
  | .ok .brk, h => exact False.elim h
  | .ok .cont, h => exact False.elim h
  | .ok (.ret u), h =>
    obtain ⟨v, H', os, bare, un, hok', r', q⟩ := h
    have q' : v = .bl true := q
    subst q'
    obtain rfl : u = Value.bool true := r'
    have keep : ∀ b o, b ∉ ts → s₁.heap.get? b = some o → s'.heap.get? b = some o := fun b o nb e => by
      cases q : H b with
      | none => exact un.keep b o e q (by intro z; exact absurd (show b ∈ ([] : List Addr) from z) (by simp)) (by simp)
      | some u =>
        rcases cas q with ⟨rfl, _, rfl⟩ | ⟨_, h, _⟩
        · obtain ⟨e2, _⟩ := hok' b _ (un.frzs b _ _ q)
          rw [ha] at e
          cases e
          exact e2
        · exact absurd h nb
    have grown : ∀ p ∈ cs, ∃ more : Array Value, s'.heap.get? p.2 = some { cls := .none, data := .fields more } := fun p hp => by
      obtain ⟨more, z⟩ := un.tbls p.2 #[] (HT p hp)
      exact ⟨_, hok' p.2 _ z⟩
    refine ⟨rfl, ⟨fun b o e => ?_, fun b o e => ?_⟩, os, bare⟩
    · by_cases hb : b ∈ ts
      · obtain ⟨p, hp, rfl⟩ := inT b hb
        obtain ⟨more, hm⟩ := grown p hp
        rw [empty p hp] at e
        cases e
        exact .inr (.inl ⟨((code p hp).tab (empty p hp)).isCodeTable, rfl, #[], more, rfl, by rw [Array.empty_append]; exact hm⟩)
      · exact .inl (keep b o hb e)
    · by_cases hb : b ∈ ts
      · obtain ⟨p, hp, rfl⟩ := inT b hb
        obtain ⟨more, hm⟩ := grown p hp
        exact ⟨_, hm⟩
      · exact ⟨o, keep b o hb e⟩
/-- the tables of the defs that the text records are empty at first -/
def TabAt (K : PySem.W.Frag) (mg : Str → Option Value) (h : Heap) (x : Str) : Prop := ∀ (g c P : Addr) (o : Obj) (fd : FuncData) (e : Value) (dd : Option Addr) (vs : Array Value) (sl : Array (Option Value)), mg x = some (.ref g) → K.lookup g = some o → o.data = .func fd → fd.code = .ref c → K.lookup c = some ⟨e, dd, .fields vs, sl⟩ → vs[11]? = some (.ref P) →
  h.get? P = some { cls := .none, data := .fields #[] }
/-- what is known of the law's promise -/
def LawGT (l : PySem.W.OpenLaw) (w : World) (K : PySem.W.Frag) (CX : CXT) (k n : Nat) (x : Str) (mg : Str → Option Value) (fa : Addr) (h : Heap) : Prop :=
  ∃ (fd : FuncData) (cs : List (Addr × Addr)) (sp : Sp), (∀ p ∈ cs, h.get? p.2 = some { cls := .none, data := .fields #[] }) ∧ (∀ p ∈ cs, K.lookup p.2 = none) ∧ (∀ p ∈ cs, PySem.W.CodeHd h p.1 p.2) ∧ (∀ (s : Shared) (u : Value), BindsTo s fd ⟨[u], []⟩ [(x, u)]) ∧
    (∀ (H : Hp) (a : Addr) (ns : List Int), ns.length ≤ n → (∀ p ∈ cs, H p.2 = some (.tbl #[])) → SqL K H a (ns.map V.int) → sp [.ref a] H (fun v _ => v = .bl true) fun _ _ _ => False) ∧
    ∀ base : Heap, K.In base → base.Ns mainGlobals mg → (∀ p ∈ cs, LamX.TabB base mg p.1 p.2) → FnG l.prog w K mg base CX k fa fd [x] sp
theorem walk_ofGT {l : PySem.W.OpenLaw} {n k : Nat} {q : Program} {loose : List Str} {XP : (Str → Option Value) → Heap → Prop} {YP : World → Heap → Prop} {d : DefRec} {K : Params → PySem.W.Frag} {CX : World → CXT} {x : Str}
    (hn : l.most = some n) (hn2 : n ≤ sizeLine) (hdf : d.params.defaults = []) (hr : Room k callerA) (hY : ∀ (w : World) (h : Heap), YP w h → (K w.params).In h)
    (F : ∀ (w : World) (mg : Str → Option Value) (fa : Addr) (h : Heap), (K w.params).In h → h.Ns mainGlobals mg → mg d.name = some (.ref fa) → (∀ y : Str, ((recsOf q).any fun e => e.name == y) = true → TabAt (K w.params) mg h y) → LawGT l w (K w.params) (CX w) k n x mg fa h)
    (hCX : ∀ (w : World) (H : Hp) (s : Shared) (e : Value) (s' : Shared), CX w [] H s (fun _ _ _ => False) e s' → False) :
    PySem.W.WalkO q loose XP YP l.row.toRowW d [] (fun f vs => PySem.call f vs) := by
  refine Att.attach_call hn hdf fun w s₀ s₁ mg mb fa o pm cd doc a vs ns G Y ho hd hcd hmg hobj hints hlen hg => ?_
  have KX := hY w _ Y
  have own : ∀ y : Str, ((recsOf q).any fun e => e.name == y) = true → TabAt (K w.params) mg s₁.heap y := fun y hrec g c P o1 fd1 e dd vs1 sl k0 k1 k2 k3 k4 k5 => by
    obtain ⟨dL, hm, hn1⟩ := List.any_eq_true.mp hrec
    obtain rfl : dL.name = y := beq_iff_eq.mp hn1
    obtain ⟨a', o', fd', c', P', h1, h2, h3, h4, h5, ⟨⟨oc, vc, e1, _, e3, e4⟩, hP⟩⟩ := G.T.tab dL hm
    rw [k0] at h1
    cases h1
    have g1 := KX _ _ k1
    rw [g1] at h2
    cases h2
    rw [k2] at h3
    cases h3
    rw [k3] at h4
    cases h4
    have g2 := KX _ _ k4
    rw [g2] at e1
    cases e1
    cases e3
    rw [k5] at e4
    cases e4
    exact hP
  obtain ⟨fd, cs, sp, hT, nT, C, hb, hsp, hF⟩ := F w mg fa _ KX G.T.g hmg own
  exact law_callGT KX G.T.g G.T.b G.T.builtins G.T.nolimit hg hT nT C G.T.bmain hobj hints (Nat.le_trans hlen hn2) hr hF hb (fun H hH hS => hsp H a ns hlen hH hS) fun H e s' => hCX w H s₁ e s'
end L2
namespace DL
open PySem L2 PySem.Spec PyProof.Rows
variable [DL.Nm]
theorem LamD.mono {G : Glb} {P : Program} {w : World} {mg : Str → Option Value} {base : Heap} {j k : Nat} {x : Str} {hR : ER → Store → ER} (d : LamD G P w mg base j x hR) (h : j ≤ k) : LamD G P w mg base k x hR := by
  obtain ⟨g, fd, st, a, N, F, Sc, h0, hv, n1, n2, hm, hb, r⟩ := d.ex
  exact ⟨g, fd, st, a, N, F, Sc, h0, hv, n1, n2, hm, hb, fun cdv A outer s H E gd hr => r cdv A outer s H E gd (hr.mono h)⟩
/-- a def whose code object is known: it makes lambdas -/
theorem fnGC {G : Glb} {P : Program} {w : World} {mg : Str → Option Value} {base : Heap} {x qual : Str} {st : Stmt} {f c : Addr} {fd : FuncData} {N ps : List Str} {k : Nat} {g : SM} (m : Mode) (hc : fd.code = .ref c) (F : Fun G.K x qual st f fd) (S : FnScope N ps (defScope st))
    (body : ∀ (A : Around) (outer : List Env) (s : Shared) (H : Hp) (E : XK), Room k (A.deeper (envOfC qual (defScope st) s.heap.objs.size f (.ref c))) →
      Takes (cxOf (L2.CX P w) P w G.K mg base N qual (defScope st) f (.ref c) A outer s H E) (fun cls d _ H => E cls d H) →
      PassesOwn (model P w) (A.deeper (envOfC qual (defScope st) s.heap.objs.size f (.ref c))) (envOfC qual (defScope st) s.heap.objs.size f (.ref c)) (cxOf (L2.CX P w) P w G.K mg base N qual (defScope st) f (.ref c) A outer s H E).xe →
      (cxOf (L2.CX P w) P w G.K mg base N qual (defScope st) f (.ref c) A outer s H E).A.guards = some [] →
      DSs G (cxOf (L2.CX P w) P w G.K mg base N qual (defScope st) f (.ref c) A outer s H E) (fun cls d _ H => E cls d H) (defBody st) g) :
    FnG P w G.K mg base (L2.CX P w) (k + 1) f fd ps (spD G ps.length (fnF m N.length g)) := by
  refine F.okG S (fun vs H Q E h => h.1) (fun cdv A outer s H vs Q E ec gd hr h => ?_)
  obtain rfl : cdv = .ref c := ec.symm.trans hc
  obtain ⟨_, φ, S0, ds, so, il, hp⟩ := h
  obtain ⟨t, pt, qt⟩ := body A outer s H E hr (takes_of rfl rfl rfl rfl) (passes_of rfl) gd
  exact ⟨t, pt, qt (L2.start N vs) H (startD N.length ds) φ S0 _ so (rep_start N il) (by
    unfold fnF at hp
    cases hg : g (startD N.length ds) S0 with
    | nx e S1 => rw [hg] at hp; exact fun φ1 H1 σ1 e1 s1 r1 => exit_ok so e1 s1 (show Is G φ1 H1 .non .non from rfl) hp
    | rt d S1 => rw [hg] at hp; exact fun φ1 H1 v e1 s1 i1 => exit_ok so e1 s1 i1 hp
    | ex x e S1 => rw [hg] at hp; exact fun φ1 H1 σ1 cls dx e1 s1 r1 ix => hp φ1 H1 cls dx e1 s1 ix
    | bk e S1 => rw [hg] at hp; exact False.elim hp
    | ct e S1 => rw [hg] at hp; exact False.elim hp
    | bad => rw [hg] at hp; exact False.elim hp)⟩
omit [DL.Nm] in
theorem nm_head {P : Addr} {q : Str} {l : List (Addr × Str)} : q = @Nm.nm (nmOf ((P, q) :: l)) P := by
  show q = (List.lookup P ((P, q) :: l)).getD Str.empty
  simp [List.lookup]
end DL
end
section
/-! A lambda handed on: a def that is handed it and hands it to another one. -/
namespace DL
open PySem L2 PySem.Spec PyProof.Rows
variable [DL.Nm]
theorem un_thru {fs : List Addr} {x : Addr} {H H1 H2 : Hp} {h0 h1 h2 : Heap} (a : Un fs [] H H1 h0 h1) (b : Un (x :: fs) [] H1 H2 h1 h2) (nx : h0.get? x = none) : Un fs [] H H2 h0 h2 := by
  have ne : ∀ c o, h0.get? c = some o → c ≠ x := fun c o e z => by rw [z, nx] at e; cases e
  refine ⟨fun c o e n f1 f2 => ?_, fun c o e n f1 f2 => ?_, fun c o e n f => ?_, fun c o e f => ?_, fun c xs e => b.tups c xs (a.tups c xs e), fun c o u e => b.frzs c o u (a.frzs c o u e), fun c ps e => ?_⟩
  · exact b.keep c o (a.keep c o e n f1 f2) (a.free c o e n f2) (by simp only [List.mem_cons, not_or]; exact ⟨ne c o e, f1⟩) f2
  · obtain ⟨sl, e1⟩ := a.slot c o e n f1 f2
    obtain ⟨sl2, e2⟩ := b.slot c _ e1 (a.free c o e n f2) (List.mem_cons_of_mem _ f1) f2
    exact ⟨sl2, e2⟩
  · obtain ⟨o1, e1⟩ := a.there c o e f
    exact b.free c o1 e1 (a.free c o e n f) f
  · obtain ⟨o1, e1⟩ := a.there c o e f
    exact b.there c o1 e1 f
  · obtain ⟨m1, e1⟩ := a.tbls c ps e
    obtain ⟨m2, e2⟩ := b.tbls c _ e1
    exact ⟨m1 ++ m2, by rw [← Array.append_assoc]; exact e2⟩
/-- a lambda that stands at f, told at s; r: what a call of it gives -/
structure FnL (G : Glb) (P : Program) (w : World) (mg : Str → Option Value) (base : Heap) (k : Nat) (f : Addr) (φ : Fi) (H : Hp) (S : Store) (r : ER) (fs : List Addr) (s : Shared) : Prop where
  ob : ∃ (q : Str) (params : Arguments) (body : Expr) (scope : Scope) (cl : List (Str × Addr)) (pm ctv : Value) (d : Addr), s.heap.get? f = some (PySem.W.kla_obj "<lambda>" q params body scope cl pm d ctv)
  free : H f = none
  nf : f ∉ fs
  run : ∀ (A : Around) (outer : List Env) (s1 : Shared) (φ1 : Fi) (Z : Hp) (Q : VK) (E : XK), Room k A → A.guards = some [] → Env0 P w G.K mg base A outer s1 Z → Un fs [] H Z s.heap s1.heap → Ext φ H φ1 Z → SOk G φ1 S Z → PostE G (fun cls dx _ H2 => E cls dx H2) φ1 Z [] r Q →
    codeAny (model P w) A (.call (.ref f) ⟨[], []⟩) (CR (L2.CX P w) outer P w Z s1 Q E) s1
theorem FnL.mono {G : Glb} {P : Program} {w : World} {mg : Str → Option Value} {base : Heap} {j k : Nat} {f : Addr} {φ : Fi} {H : Hp} {S : Store} {r : ER} {fs : List Addr} {s : Shared} (F : FnL G P w mg base j f φ H S r fs s) (h : j ≤ k) : FnL G P w mg base k f φ H S r fs s :=
  ⟨F.ob, F.free, F.nf, fun A outer s1 φ1 Z Q E hr => F.run A outer s1 φ1 Z Q E (hr.mono h)⟩
theorem FnL.pass {G : Glb} {P : Program} {w : World} {mg : Str → Option Value} {base : Heap} {k : Nat} {f x : Addr} {φ : Fi} {H : Hp} {S : Store} {r : ER} {fs : List Addr} {s s1 : Shared} {φ1 : Fi} {Z : Hp} (F : FnL G P w mg base k f φ H S r fs s) (u : Un fs [] H Z s.heap s1.heap) (nx : s.heap.get? x = none) (ex : Ext φ H φ1 Z) :
    FnL G P w mg base k f φ1 Z S r (x :: fs) s1 := by
  obtain ⟨q, params, body, scope, cl, pm, ctv, d, ob⟩ := F.ob
  refine ⟨⟨q, params, body, scope, cl, pm, ctv, d, u.keep f _ ob F.free F.nf (by simp)⟩, u.free f _ ob F.free (by simp), ?_, fun A outer s2 φ2 Z2 Q E hr gd e0 u2 e2 so h => F.run A outer s2 φ2 Z2 Q E hr gd e0 (un_thru u u2 nx) (ex.trans e2) so h⟩
  simp only [List.mem_cons, not_or]
  exact ⟨fun z => (by rw [z, nx] at ob; cases ob), F.nf⟩
section
variable {G : Glb} {P : Program} {w : World} {mg : Str → Option Value} {base : Heap}
/-- it is called, in the def that was handed it -/
theorem FnL.act {k : Nat} {N : List Str} {x a : Str} {st : Stmt} {g f : Addr} {cdv : Value} {A : Around} {outer : List Env} {s : Shared} {H : Hp} {E : XK} {φ : Fi} {S : Store} {r : ER} (F : FnL G P w mg base k f φ H S r (frs outer) s) (gd : A.guards = some [])
    (hr : Room k (A.deeper (envOfC x (defScope st) s.heap.objs.size g cdv))) (h0 : N[0]? = some a) (hv : Vis (defScope st) a) (n1 : (a == ("__debug__" : Str)) = false) (n2 : (a == ("__classdict__" : Str)) = false)
    (W : WX) (pn : List (Addr × Obj)) (xe : Value → Shared → Prop) (p1 p2 : Pos) (tk : Takes ((zOf G P w mg base N x st g cdv A outer s H E).tr pn xe) W) : PE ((zOf G P w mg base N x st g cdv A outer s H E).tr pn xe) (.Call (.Name a p1) [] [] p2) (tAct G f φ H S r W) := by
  constructor
  intro pz sz τ Z Q J ⟨slot, φ1, ex1, so1, post⟩
  have named := (pe_var (pos := p1) (i := 0) h0 hv n1 n2).run pz sz τ Z (fun v K' => v = .ref f ∧ K' = Z) J ⟨.ref f, slot, rfl, rfl⟩
  refine wpAny_Call_Name_kw (thn named fun u s1 ⟨v, K1, J1, rel, e1, e2⟩ => ?_)
  subst e1
  rw [e2] at J1
  clear e2
  obtain rfl : u = Value.ref f := rel
  obtain ⟨q, params, body, scope, cl, pm, ctv, d, ob⟩ := F.ob
  have un : Un (frs outer) [] H Z s.heap s1.heap := J1.base
  have still := un.keep f _ ob F.free F.nf (by simp)
  refine PySem.W.callWith_F0 ⟨_, _, _, _, still⟩ (wpAny_call ?_)
  refine codeAny_mono (F.run _ _ s1 φ1 Z Q (fun cls dx K' => W cls dx τ K') hr gd J1.env0 un ex1 so1 post) fun r s' q => ?_
  cases r with
  | error e => exact passAt tk τ pz Z s1 e s' J1 q
  | ok fl =>
    cases fl with
    | ret u => exact J1.after q
    | next => exact False.elim q
    | brk => exact False.elim q
    | cont => exact False.elim q
/-- a def that is handed a lambda, and calls it, or hands it on, dd times -/
structure LamF (G : Glb) (P : Program) (w : World) (mg : Str → Option Value) (base : Heap) (j dd : Nat) (x : Str) (hR : ER → Store → ER) : Prop where
  ex : ∃ (g : Addr) (fd : FuncData) (st : Stmt) (a : Str) (N : List Str), Fun G.K x x st g fd ∧ FnScope N [a] (defScope st) ∧ mg x = some (.ref g) ∧ Binds G.K fd [a] [] ∧
    ∀ (k : Nat) (cdv : Value) (A : Around) (outer : List Env) (s : Shared) (H : Hp) (E : XK), j ≤ k → A.guards = some [] → Room (k + dd) (A.deeper (envOfC x (defScope st) s.heap.objs.size g cdv)) →
      ∀ (f : Addr) (φ : Fi) (S : Store) (r : ER) (Q : VK), SOk G φ S H → FnL G P w mg base k f φ H S r (frs outer) s →
        PostE G (fun cls dx _ H2 => E cls dx H2) φ H [] (hR r S) Q →
        ∃ t, PSs (zOf G P w mg base N x st g cdv A outer s H E) (defBody st) t ∧ t { nx := fun _ H' => Q .non H', rt := Q } (L2.start N [.ref f]) H
theorem LamF.mono {j k dd : Nat} {x : Str} {hR : ER → Store → ER} (d : LamF G P w mg base j dd x hR) (h : j ≤ k) : LamF G P w mg base k dd x hR := by
  obtain ⟨g, fd, st, a, N, F, Sc, hm, hb, r⟩ := d.ex
  exact ⟨g, fd, st, a, N, F, Sc, hm, hb, fun k cdv A outer s H E hk => r k cdv A outer s H E (Nat.le_trans h hk)⟩
theorem LamD.toF {j : Nat} {x : Str} {hR : ER → Store → ER} (d : LamD G P w mg base j x hR) : LamF G P w mg base j 0 x hR := by
  obtain ⟨g, fd, st, a, N, F, Sc, h0, hv, n1, n2, hm, hb, main⟩ := d.ex
  exact ⟨g, fd, st, a, N, F, Sc, hm, hb, fun k cdv A outer s H E hk gd hr f φ S r Q so L h => main cdv A outer s H E gd (hr.mono hk) f φ S r Q so (fun W pn xe p1 p2 tk => L.act gd hr h0 hv n1 n2 W pn xe p1 p2 tk) h⟩
end
section
variable {G : Glb} {X : Cx} {W : WX}
/-- f(lambda: ..) -/
theorem de_lamF {x : Str} {c P : Addr} {k dd : Nat} {hR : ER → Store → ER} {params : Arguments} {body : Expr} {scope : Scope} {fB : EM} {p lpos pos : Pos} (tb : LamX.TabB X.base X.mg c P) (own : X.env.code = .ref c) (mem : (P, X.env.qual ++ "<lambda>") ∈ G.T) (hK : X.K = G.K) (gd : X.A.guards = some []) (hr : Room (k + dd + 2) X.A)
    (hg : Gl X x) (tk : Takes X W) (d : LamF G X.prog X.w X.mg X.base (k + 1) dd x hR) (ls : LamX.LamS X.env.scope scope) (nodef : defaultsOf params X.env = ([], []))
    (nobind : ∀ (q : Str) (cl : List (Str × Addr)) (pm cv ctv : Value), bindArgs (PySem.W.kla_fn "<lambda>" q params body scope cl pm cv ctv) ⟨[], []⟩ = pure [])
    (hb : ∀ (A1 : Around) (outer : List Env) (s2 : Shared) (H2 : Hp) (E : XK) (f d : Addr), A1.guards = some [] → Room k (A1.deeper (LamX.lamEnv X scope s2.heap.objs.size f d)) → Takes (LamX.lamCx X A1 outer s2 H2 E scope f d) (fun cls dx _ H => E cls dx H) →
      DE G (LamX.lamCx X A1 outer s2 H2 E scope f d) (fun cls dx _ H => E cls dx H) body fB)
    (hdb : (x == ("__debug__" : Str)) = false := by decide) :
    DE G X W (.Call (.Name x p) [.Lambda params body scope lpos] [] pos) (eLam hR fB) := by
  refine ⟨tOf G W (eLam hR fB), ⟨fun pins s σ H Q I ⟨env, φ, S, so, re, h⟩ => ?_⟩, fun σ H env φ S Q s re h => ⟨env, φ, S, s, re, h⟩⟩
  obtain ⟨g, fd, st, a, N, F, Sc, hm, hbn, main⟩ := d.ex
  have F0 := F
  obtain ⟨oc, od, kV, doc, pm, an, cdv, ct, osl, rfl, lk, hcd⟩ := F.ex
  rw [← hK] at lk hcd hbn
  refine wpAny_Call_Name_kw (ld_glob I hg hm ?_ hdb)
  refine PySem.W.callWith_K (h₀ := X.base) I.ok.mod.kin (by rw [hK]; exact F0.kp) ?_ (by rfl) (by rfl)
  show wpAny _ _ (spliced ((false, eval (.Lambda params body scope lpos) X.env) :: backTo pos (starEach [] X.env))) _ _ s
  refine Calls.spliced_cons (lam_made so I tb own mem nodef (ls.has I.ok) fun f d pm' ctv H1 s' I1 ext so1 ob hf hfr code od => ?_)
  refine Calls.spliced_nil ⟨I1.kIn, ?_⟩
  have fl : FnL G X.prog X.w X.mg X.base (k + 1) f φ H1 S (fB env S) (frs X.stack) s' := by
    refine ⟨⟨_, _, _, _, _, _, _, _, ob⟩, hf, hfr, fun A outer s1 φ2 Z Q2 E hr1 gd1 e0 un ex2 so2 post => ?_⟩
    have still := un.keep f _ ob hf hfr (by simp)
    obtain ⟨⟨oc1, vs, t, c1, c2, c3⟩, -, -⟩ := e0.hok d _ (ex2.keepE od.1 code firm_ext)
    have lim : s1.heap.NoLimit := e0.mod.nolimit.keeps fun b o e => (e0.bs b o e).1
    refine PySem.W.kla_callFunE hr1.depth still rfl ls.co ls.gen rfl ⟨d, oc1, vs, t, rfl, c1, c2, c3⟩ ?_
    rw [nobind]
    refine wpAny_pure (wpAny_newFunctionEnv (fun y hy => (ls.own y hy).2) (fun y hy => absurd hy (by simp)) (fun h₁ hns hsb => ⟨lim.fresh _ hsb, ?_⟩) ls.kind)
    have kp : ∀ b o, s1.heap.get? b = some o → h₁.get? b = some o := fun b o e => hsb.extBut b o (Nat.ne_of_lt (Heap.lt_size e)) (Heap.get?_push_of_some _ e)
    have e0' : Env0 X.prog X.w X.K X.mg X.base A outer s1 Z := by rw [hK]; exact e0
    have J : Inv (LamX.lamCx X A outer s1 Z E scope f d) [] σ Z { s1 with heap := h₁, toks := s1.toks + ([] : List (Str × Value)).length } := LamX.lam_start2 I1 ls e0' hr1.hd un hns kp
    refine PySem.W.kla_codeExpr (wpAny_mono ((hb A outer s1 Z E f d gd1 (hr1.deeper _) (takes_of rfl rfl rfl rfl)).can.run [] _ _ Z Q2 J ⟨env, φ2, S, so2, (re.ext ext).ext ex2, post_sig post⟩) (fun u s2 q => ?_) fun _ _ q => q)
    obtain ⟨w', K', L', rel', q'⟩ := q
    exact ⟨w', K', L'.os, L'.bare, L'.base, L'.hok, rel', q'⟩
  have rc : codeAny (model X.prog X.w) X.A (.call (.ref g) ⟨[.ref f], []⟩) (CR (L2.CX X.prog X.w) X.stack X.prog X.w H1 s' Q (WE W σ)) s' := by
    refine LamX.run_ofS (N := N) (ps := [a]) (us := [.ref f]) (vs := [.ref f]) lk hcd Sc hr I1.env0 (hbn s' [.ref f] I1.kIn rfl) (.cons rfl .nil) rfl fun hr' => ?_
    have m := main (k + 1) cdv X.A X.stack s' H1 (WE W σ) (Nat.le_refl _) gd (hr'.mono (by omega)) f φ S (fB env S) Q so1 fl
    unfold zOf at m
    rw [← hK] at m
    exact m (post_at (PostE.ext (r := hR (fB env S) S) ext h))
  refine wpAny_call (codeAny_mono rc fun r s2 hq => ?_)
  cases r with
  | error e => exact passAt tk σ pins H1 s' e s2 I1 hq
  | ok fl =>
    cases fl with
    | ret u => exact I1.after hq
    | next => exact False.elim hq
    | brk => exact False.elim hq
    | cont => exact False.elim hq
end
section
variable {G : Glb} {P : Program} {w : World} {mg : Str → Option Value} {base : Heap}
/-- g(work), in the def that was handed work -/
theorem pe_pass {k j dd : Nat} {N : List Str} {x a y : Str} {st : Stmt} {g f : Addr} {cdv : Value} {A : Around} {outer : List Env} {s : Shared} {H : Hp} {E : XK} {φ : Fi} {S : Store} {r : ER} {hR : ER → Store → ER} {p1 p2 pos : Pos} (F : FnL G P w mg base k f φ H S r (frs outer) s) (gd : A.guards = some [])
    (hr : Room (k + dd + 1) (A.deeper (envOfC x (defScope st) s.heap.objs.size g cdv))) (h0 : N[0]? = some a) (hv : Vis (defScope st) a) (n1 : (a == ("__debug__" : Str)) = false) (n2 : (a == ("__classdict__" : Str)) = false)
    (d : LamF G P w mg base j dd y hR) (hj : j ≤ k) (hg : Gl (zOf G P w mg base N x st g cdv A outer s H E) y)
    {W : WX} (tk : Takes (zOf G P w mg base N x st g cdv A outer s H E) W) (hdb : (y == ("__debug__" : Str)) = false := by decide) :
    PE (zOf G P w mg base N x st g cdv A outer s H E) (.Call (.Name y p1) [.Name a p2] [] pos) (tAct G f φ H S (hR r S) W) := by
  constructor
  intro pz sz τ Z Q J ⟨slot, φ1, ex1, so1, post⟩
  obtain ⟨g2, fd, st2, a2, N2, F2, Sc, hm, hbn, main⟩ := d.ex
  have F0 := F2
  obtain ⟨oc, od, kV, doc, pm, an, cdv2, ct, osl, rfl, lk, hcd⟩ := F2.ex
  refine wpAny_Call_Name_kw (ld_glob J hg hm ?_ hdb)
  refine PySem.W.callWith_K (h₀ := base) J.ok.mod.kin F0.kp ?_ (by rfl) (by rfl)
  have named := (pe_var (X := zOf G P w mg base N x st g cdv A outer s H E) (pos := p2) (i := 0) h0 hv n1 n2).run pz sz τ Z (fun v K' => v = .ref f ∧ K' = Z) J ⟨.ref f, slot, rfl, rfl⟩
  show wpAny _ _ (spliced ((false, eval (.Name a p2) (zOf G P w mg base N x st g cdv A outer s H E).env) :: backTo pos (starEach [] (zOf G P w mg base N x st g cdv A outer s H E).env))) _ _ sz
  refine Calls.spliced_cons (thn named fun u s1 ⟨v, K1, J1, rel, e1, e2⟩ => ?_)
  subst e1
  rw [e2] at J1
  clear e2
  obtain rfl : u = Value.ref f := rel
  refine Calls.spliced_nil ⟨J1.kIn, ?_⟩
  have un : Un (frs outer) [] H Z s.heap s1.heap := J1.base
  have nx : s.heap.get? s.heap.objs.size = none := by
    cases hq : s.heap.get? s.heap.objs.size with
    | none => rfl
    | some o => exact absurd (Heap.lt_size hq) (Nat.lt_irrefl _)
  have fl2 : FnL G P w mg base k f φ1 Z S r (frs (zOf G P w mg base N x st g cdv A outer s H E).stack) s1 := F.pass un nx ex1
  have rc : codeAny (model P w) (A.deeper (envOfC x (defScope st) s.heap.objs.size g cdv)) (.call (.ref g2) ⟨[.ref f], []⟩) (CR (L2.CX P w) (zOf G P w mg base N x st g cdv A outer s H E).stack P w Z s1 Q (fun cls dx K' => W cls dx τ K')) s1 := by
    refine LamX.run_ofS (N := N2) (ps := [a2]) (us := [.ref f]) (vs := [.ref f]) lk hcd Sc hr J1.env0 (hbn s1 [.ref f] J1.kIn rfl) (.cons rfl .nil) rfl fun hr' => ?_
    exact main k cdv2 (A.deeper (envOfC x (defScope st) s.heap.objs.size g cdv)) (zOf G P w mg base N x st g cdv A outer s H E).stack s1 Z (fun cls dx K' => W cls dx τ K') hj gd hr' f φ1 S r Q so1 fl2 post
  refine wpAny_call (codeAny_mono rc fun r s2 hq => ?_)
  cases r with
  | error e => exact passAt tk τ pz Z s1 e s2 J1 hq
  | ok fl =>
    cases fl with
    | ret u => exact J1.after hq
    | next => exact False.elim hq
    | brk => exact False.elim hq
    | cont => exact False.elim hq
/-- told = g(work); the rest -/
def gLamC (j : Nat) (hR : ER → Store → ER) (gr : SM) (r : ER) : SM := sSeq (sAsg (fun _ S => hR r S) (bName j)) gr
theorem lamF_C {x a y z : Str} {g : Addr} {fd : FuncData} {st : Stmt} {N : List Str} {j i dd : Nat} {rest : List Stmt} {p1 p2 p3 p4 p5 : Pos} {gr : SM} {hR : ER → Store → ER} (m : Mode) (F : Fun G.K x x st g fd) (Sc : FnScope N [a] (defScope st)) (hm : mg x = some (.ref g)) (hb : Binds G.K fd [a] []) (h0 : N[0]? = some a) (hv : Vis (defScope st) a)
    (hbody : defBody st = .Assign [.Name z p1] (.Call (.Name y p2) [.Name a p3] [] p4) p5 :: rest) (hz : N[i]? = some z) (hzl : (defScope st).names.lookup z = some .local) (d : LamF G P w mg base j dd y hR)
    (Z : ∀ (cdv : Value) (A : Around) (outer : List Env) (s : Shared) (H : Hp) (E : XK), A.guards = some [] → Room j (A.deeper (envOfC x (defScope st) s.heap.objs.size g cdv)) →
      Takes (zOf G P w mg base N x st g cdv A outer s H E) (fun cls d _ H => E cls d H) →
      PassesOwn (model P w) (A.deeper (envOfC x (defScope st) s.heap.objs.size g cdv)) (envOfC x (defScope st) s.heap.objs.size g cdv) (zOf G P w mg base N x st g cdv A outer s H E).xe →
      Gl (zOf G P w mg base N x st g cdv A outer s H E) y ∧ DSs G (zOf G P w mg base N x st g cdv A outer s H E) (fun cls d _ H => E cls d H) rest gr)
    (n1 : (a == ("__debug__" : Str)) = false := by decide) (n2 : (a == ("__classdict__" : Str)) = false := by decide) (hdb : (y == ("__debug__" : Str)) = false := by decide) :
    LamF G P w mg base j (dd + 1) x (hLam m N.length (gLamC i hR gr)) := by
  refine ⟨g, fd, st, a, N, F, Sc, hm, hb, fun k cdv A outer s H E hk gd hr f φ S r Q so L h => ?_⟩
  obtain ⟨z1, z2⟩ := Z cdv A outer s H E gd (hr.mono (by omega)) (takes_of rfl rfl rfl rfl) (passes_of rfl)
  have hp := fn_post so h
  obtain ⟨re, sl⟩ := start_rep (G := G) (f := f) (φ := φ) (H := H) (N := N) (by have := (List.getElem?_eq_some_iff.mp h0).1; omega)
  have pc := pe_pass (p1 := p2) (p2 := p3) (pos := p4) (cdv := cdv) (E := E) (W := fun cls d _ H => E cls d H) L gd hr h0 hv n1 n2 d hk z1 (takes_of rfl rfl rfl rfl) hdb
  obtain ⟨tr, pr, qr⟩ := z2
  refine ⟨_, by rw [hbody]; exact pss_cons (ps_set (X := zOf G P w mg base N x st g cdv A outer s H E) (pos := p5) Sc.nd hz (.inl hzl) pc rfl (.inl rfl)) pr, ?_⟩
  refine gt_set i f φ H φ H S (hR r S) _ _ _ _ .refl so re sl ?_
  have e : sAsg (fun _ _ => hR r S) (bName i) (startD N.length []) S = sAsg (fun _ S => hR r S) (bName i) (startD N.length []) S := rfl
  rw [e]
  unfold gLamC sSeq at hp
  cases hq : sAsg (fun _ S => hR r S) (bName i) (startD N.length []) S with
  | nx e S1 => rw [hq] at hp; exact fun φ1 H1 σ1 e1 s1 r1 => qr σ1 H1 e φ1 S1 _ s1 r1 (PostS.ext e1 hp)
  | rt d S1 => rw [hq] at hp; exact hp
  | bk e S1 => rw [hq] at hp; exact hp
  | ct e S1 => rw [hq] at hp; exact hp
  | ex x e S1 => rw [hq] at hp; exact hp
  | bad => rw [hq] at hp; exact hp
end
end DL
end
section
/-! sorted, of a tuple of texts. -/
namespace L2
open PySem PySem.Spec PyProof.Rows PyProof
variable [DL.Nm]
section
variable {prog : Program} {w : World} {A : Around} {E : Value → Shared → Prop} {s : Shared}
end
section
variable {X : Cx}
end
end L2
namespace DL
open PySem L2
variable [DL.Nm]
variable {G : Glb} {X : Cx} {W : WX}
/-- sorted: a list or a tuple of texts -/
def bSortedU (ds : List D) (S : Store) : ER := match ds with
  | [.tup es] => match strsD es with
    | some ns => if ns.length < 64 then .ok (.lst ((sortS ns).map .str)) S else .bad
    | none => .bad
  | ds => bSortedS ds S
@[simp] theorem bSortedU_t {ns : List Str} {S : Store} : bSortedU [.tup (ns.map .str)] S = if ns.length < 64 then .ok (.lst ((sortS ns).map .str)) S else .bad := by
  unfold bSortedU
  dsimp only
  rw [strsD_map]
@[simp] theorem bSortedU_l {ns : List Str} {S : Store} : bSortedU [.lst (ns.map .str)] S = if ns.length < 64 then .ok (.lst ((sortS ns).map .str)) S else .bad := bSortedS_l
end DL
end
section
set_option maxHeartbeats 400000
/-! d.update(e): a dict's cell, a dict as data. -/
namespace L2
open PySem PySem.Spec PyProof.Rows
variable [DL.Nm]
section
variable {X : Cx}
end
end L2
namespace DL
open PySem L2
variable [DL.Nm]
section
variable {G : Glb} {X : Cx} {W : WX}
end
end DL
end
section
set_option maxHeartbeats 400000
/-! d.update({.. for x in e.values()}), both live dicts: e is read as data meanwhile, what was laid later is hidden. -/
namespace DL
open PySem L2
variable [DL.Nm]
def Fi.fold (φ : Fi) (l : Nat) : Fi := ⟨φ.c.take l, φ.h ++ φ.c.drop (l + 1)⟩
section
variable {G : Glb} {φ : Fi} {H : Hp} {S : Store}
theorem fold_out {l : Nat} {a : Addr} (h : φ.out a) : (φ.fold l).out a := ⟨fun z => h.1 (List.mem_of_mem_take z), fun z => by
  rcases List.mem_append.mp z with z | z
  · exact h.2 z
  · exact h.1 (List.mem_of_mem_drop z)⟩
theorem RdL.fold {n : Nat} {a : Addr} {xs : List V} (h : RdL G φ H a xs) : RdL G (φ.fold n) H a xs := h.elim (fun z => .inl ⟨fold_out z.1, z.2⟩) .inr
theorem RdT.fold {n : Nat} {a : Addr} {xs : List V} (h : RdT G φ H a xs) : RdT G (φ.fold n) H a xs := h.elim (fun z => .inl ⟨fold_out z.1, z.2⟩) .inr
mutual
theorem fold_is {n : Nat} : ∀ {d : D} {v : V}, belD n d = true → Is G φ H d v → Is G (φ.fold n) H d v
  | .non, _, _, i => i
  | .bl _, _, _, i => i
  | .int _, _, _, i => i
  | .str _, _, _, i => i
  | .tup ds, _, h, i => by obtain ⟨a, xs, e1, r, q⟩ := i; exact ⟨a, xs, e1, r.fold, fold_isL h q⟩
  | .lst ds, _, h, i => by obtain ⟨a, xs, e1, r, q⟩ := i; exact ⟨a, xs, e1, r.fold, fold_isL h q⟩
  | .dic _ ds, _, h, i => by obtain ⟨a, xs, e1, ⟨n1, r⟩, z, q⟩ := i; exact ⟨a, xs, e1, ⟨fold_out n1, r⟩, z, fold_isL h q⟩
  | .obj _ _ ds, _, h, i => by obtain ⟨a, C, dx, xs, e1, ⟨n1, r⟩, c, z, q⟩ := i; exact ⟨a, C, dx, xs, e1, ⟨fold_out n1, r⟩, c, z, fold_isL h q⟩
  | .dct _ ds, _, h, i => by obtain ⟨a, xs, e1, ⟨n1, r⟩, z, q⟩ := i; exact ⟨a, xs, e1, ⟨fold_out n1, r⟩, z, fold_isL h q⟩
  | .exn _ _ ds, _, h, i => by
    obtain ⟨a, C, d, e1, ⟨n1, r⟩, c, z⟩ := i
    refine ⟨a, C, d, e1, ⟨fold_out n1, r⟩, c, ?_⟩
    rcases z with z | ⟨b, fs, e4, ⟨n2, r2⟩, e5, q⟩
    · exact .inl z
    · exact .inr ⟨b, fs, e4, ⟨fold_out n2, r2⟩, e5, fold_isL h q⟩
  | .tpl _, _, h, i => by obtain ⟨a, xs, o, e1, ⟨n1, r⟩, q⟩ := i; exact ⟨a, xs, o, e1, ⟨fold_out n1, r⟩, fold_isL h q⟩
  | .loc l, _, h, i => by
    obtain ⟨a, ha, e⟩ := i
    have hl : l < n := of_decide_eq_true h
    exact ⟨a, by show (φ.c.take n)[l]? = _; rw [List.getElem?_take, if_pos hl]; exact ha, e⟩
theorem fold_isL {n : Nat} : ∀ {ds : List D} {vs : List V}, belDs n ds = true → IsL G φ H ds vs → IsL G (φ.fold n) H ds vs
  | [], _, _, i => i
  | d :: ds, _, h, i => by
    obtain ⟨x, r, e1, p, q⟩ := i
    have h' : (belD n d && belDs n ds) = true := h
    simp only [Bool.and_eq_true] at h'
    exact ⟨x, r, e1, fold_is h'.1 p, fold_isL h'.2 q⟩
end
theorem CellOk.fold {a : Addr} {c : Cell} {n : Nat} (hb : c.bel n = true) (h : CellOk G φ H a c) : CellOk G (φ.fold n) H a c := by
  cases c with
  | lst ds => obtain ⟨xs, k, q⟩ := h; exact ⟨xs, k, fold_isL hb q⟩
  | dic kvs => obtain ⟨xs, k, z, q⟩ := h; exact ⟨xs, k, z, fold_isL hb q⟩
  | ins c fs => obtain ⟨C, dx, xs, k, y, z, q⟩ := h; exact ⟨C, dx, xs, k, y, z, fold_isL hb q⟩
  | dct kvs => obtain ⟨xs, k, z, q⟩ := h; exact ⟨xs, k, z, fold_isL hb q⟩
theorem CellOk.notup {a : Addr} {c : Cell} (h : CellOk G φ H a c) : ∃ o, H a = Option.some o ∧ NoTup o := by
  cases c with
  | lst ds => obtain ⟨xs, k, _⟩ := h; exact ⟨_, k, trivial⟩
  | dic kvs => obtain ⟨xs, k, _⟩ := h; exact ⟨_, k, trivial⟩
  | ins c fs => obtain ⟨C, dx, xs, _, k, _⟩ := h; exact ⟨_, k, trivial⟩
  | dct kvs => obtain ⟨xs, k, _⟩ := h; exact ⟨_, k, trivial⟩
theorem SOk.fold (s : SOk G φ S H) {n : Nat} (hb : ∀ c ∈ S.take n, c.bel n = true) : SOk G (φ.fold n) (S.take n) H := by
  refine ⟨by simp [Fi.fold, s.len], s.nd.sublist (List.take_sublist _ _), fun a ha => ?_, fun l c hc => ?_, fun p hp => (s.tab p hp).mono fun a n => fold_out n⟩
  · rcases List.mem_append.mp ha with z | z
    · obtain ⟨n1, q⟩ := s.hid a z
      exact ⟨fun z => n1 (List.mem_of_mem_take z), q⟩
    · obtain ⟨i, hi, e⟩ := List.getElem_of_mem z
      have hi2 : n + 1 + i < φ.c.length := by rw [List.length_drop] at hi; omega
      have e2 : φ.c[n + 1 + i]? = some a := by rw [List.getElem?_eq_getElem hi2, ← e, List.getElem_drop]
      have hi3 : n + 1 + i < S.length := by rw [← s.len]; exact hi2
      obtain ⟨a', ha', k⟩ := s.cell (n + 1 + i) _ (List.getElem?_eq_getElem hi3)
      rw [e2] at ha'
      cases ha'
      refine ⟨fun y => ?_, k.notup⟩
      obtain ⟨j, hj, e3⟩ := List.getElem_of_mem (show a ∈ φ.c.take n from y)
      rw [List.length_take] at hj
      have hj2 : j < φ.c.length := by omega
      have e4 : φ.c[j] = φ.c[n + 1 + i] := by
        rw [List.getElem_take] at e3
        rw [e3]
        have := List.getElem?_eq_getElem hi2
        rw [e2] at this
        exact Option.some.inj this
      have := (List.getElem_inj s.nd).mp e4
      omega
  · have hm := hb c (List.mem_of_getElem? hc)
    rw [List.getElem?_take] at hc
    split at hc
    · rename_i hl
      obtain ⟨a, ha, k⟩ := s.cell l c hc
      exact ⟨a, by show (φ.c.take n)[l]? = _; rw [List.getElem?_take, if_pos hl]; exact ha, k.fold hm⟩
    · cases hc
end
section
variable {G : Glb} {X : Cx} {W : WX}
end
end DL
end
section
/-! a list of anything != [] -/
namespace L2
open PySem PySem.Spec PyProof.Rows
variable [DL.Nm]
end L2
namespace DL
open PySem L2
variable [DL.Nm]
variable {G : Glb} {X : Cx} {W : WX}
/-- a list of anything != [] -/
def opNeL0 (x y : D) (S : Store) : ER := match listD S x, y with
  | some ds, .lst [] => .ok (.bl (!decide (ds.length = 0))) S
  | _, _ => .bad
@[simp] theorem opNeL0_l {ds : List D} {S : Store} : opNeL0 (.lst ds) (.lst []) S = .ok (.bl (!decide (ds.length = 0))) S := rfl
end DL
end
section
/-! a dict == {}. -/
namespace L2
open PySem PySem.Spec PyProof.Rows
variable [DL.Nm]
section
variable {X : Cx} {pins : List (Addr × Obj)} {σ : St} {H : Hp} {s : Shared}
end
end L2
namespace DL
open PySem L2
variable [DL.Nm]
variable {G : Glb} {X : Cx} {W : WX}
end DL
end
section
/-! d.setdefault(k, x) of a dict that is a cell. -/
namespace DL
open PySem L2
variable [DL.Nm]
variable {G : Glb} {X : Cx} {W : WX}
end DL
end
section
/-! repr of lists within dicts and dicts within lists; d != {}; d.pop(k); tuple * n. -/
namespace L2
open PySem PySem.Spec PyProof.Rows
variable [DL.Nm]
section
variable {X : Cx} {pins : List (Addr × Obj)} {σ : St} {H : Hp} {s : Shared}
/-! ### repr of nested data: dicts alone must not be the start's own -/
structure RpOk (P : Program) (w : World) (h : Heap) (v : Value) (d : PyData) : Prop where
  rd : ∃ as, Reads h v d as
  rp : d.showable = true → d.shown.length ≤ sizeLine → ∃ bs, ReadAtMost h d.depth bs ∧ ReprK P w bs h d.depth v d.shown
structure RpAll (P : Program) (w : World) (h : Heap) (vs : List Value) (ds : List PyData) : Prop where
  rd : ∃ as, ReadsAll h vs ds as
  rp : PyData.showableAll ds = true → (∀ t ∈ PyData.shownAll ds, t.length ≤ sizeLine) → ∃ bs, ReadAtMost h (PyData.depthAll ds) bs ∧ ReprAllK P w bs h (PyData.depthAll ds) vs (PyData.shownAll ds)
section
variable {P : Program} {w : World} {h : Heap}
theorem RpOk.none : RpOk P w h .none .none := ⟨⟨_, .none⟩, fun _ _ => ⟨[], (fun _ h => nomatch h), by simp only [PyData.shown]; exact .of_is ReprIs.none _ _ _⟩⟩
theorem RpOk.bool (b : Bool) : RpOk P w h (.bool b) (.bool b) := ⟨⟨_, .bool b⟩, fun _ _ => ⟨[], (fun _ h => nomatch h), by simp only [PyData.shown]; exact .of_is (ReprIs.bool b) _ _ _⟩⟩
theorem RpOk.int (i : Int) (t : Tok) : RpOk P w h (.int i t) (.int i) := ⟨⟨_, .int i t⟩, fun hs _ => ⟨[], (fun _ h => nomatch h), by simp only [PyData.shown]; exact .of_is (ReprIs.int t (by simpa [PyData.showable] using hs)) _ _ _⟩⟩
theorem RpOk.str (x : Str) (t : Tok) : RpOk P w h (.str x t) (.str x) := ⟨⟨_, .str x t⟩, fun _ hz => ⟨[], (fun _ h => nomatch h), by simp only [PyData.shown]; exact .of_is (ReprIs.str x t (by simpa only [PyData.shown] using hz)) _ _ _⟩⟩
theorem RpAll.nil : RpAll P w h [] [] := ⟨⟨_, .nil⟩, fun _ _ => ⟨[], (fun _ h => nomatch h), by simp only [PyData.shownAll]; exact .nil⟩⟩
theorem RpAll.cons {v : Value} {vs : List Value} {d : PyData} {ds : List PyData} (r : RpOk P w h v d) (rs : RpAll P w h vs ds) : RpAll P w h (v :: vs) (d :: ds) := by
  refine ⟨?_, fun hs hz => ?_⟩
  · obtain ⟨as, a⟩ := r.rd
    obtain ⟨bs, b⟩ := rs.rd
    exact ⟨_, .cons a b⟩
  · have hs' : d.showable = true ∧ PyData.showableAll ds = true := by simpa [PyData.showableAll] using hs
    obtain ⟨b1, hb1, k1⟩ := r.rp hs'.1 (hz _ (by simp only [PyData.shownAll]; exact List.mem_cons_self ..))
    obtain ⟨b2, hb2, k2⟩ := rs.rp hs'.2 (fun t ht => hz t (by simp only [PyData.shownAll]; exact List.mem_cons_of_mem _ ht))
    refine ⟨b1 ++ b2, ?_, ?_⟩
    · intro b hm
      simp only [PyData.depthAll]
      rcases List.mem_append.mp hm with hm | hm
      · obtain ⟨d', as', r', hd'⟩ := hb1 b hm
        exact ⟨d', as', r', Nat.le_trans hd' (Nat.le_max_left _ _)⟩
      · obtain ⟨d', as', r', hd'⟩ := hb2 b hm
        exact ⟨d', as', r', Nat.le_trans hd' (Nat.le_max_right _ _)⟩
    · simp only [PyData.depthAll, PyData.shownAll]
      exact .cons ((k1.more fun b hb => List.mem_append_left _ hb).level_le (Nat.le_max_left _ _)) (k2.more_le (fun b hb => List.mem_append_right _ hb) (Nat.le_max_right _ _))
/-- an object whose repr is known -/
structure RpObj (P : Program) (w : World) (h : Heap) (a : Addr) (d : PyData) : Prop where
  ok : RpOk P w h (.ref a) d
  sh : d.showable = true → d.shown.length ≤ sizeLine → ∃ T idr, ShowsBy P w h a d T idr
theorem RpObj.list {a : Addr} {o : Obj} {vs : Array Value} {n : Nat} {xs : List PyData} (h1 : h.get? a = some o) (h2 : o.cls = .type "list") (h3 : o.data = .seq vs n) (h4 : RpAll P w h vs.toList xs) : RpObj P w h a (.list xs) := by
  obtain ⟨as, r4⟩ := h4.rd
  have r : Reads h (.ref a) (.list xs) _ := .list h1 h2 h3 r4
  refine ⟨⟨⟨_, r⟩, fun hs hz => ?_⟩, fun hs hsz => ?_⟩
  · have hz' : (listText (PyData.shownAll xs)).length ≤ sizeLine := by simpa only [PyData.shown] using hz
    obtain ⟨bs, hb, hk⟩ := h4.rp (by simpa [PyData.showable] using hs) (fun t ht => Nat.le_trans (listText_mem_le ht) hz')
    have hna : a ∉ bs := not_mem_of_deeper r (by simp only [PyData.depth]; omega) hb
    refine ⟨a :: bs, ReadAtMost.cons r (by simp only [PyData.depth]; omega) hb, ?_⟩
    simp only [PyData.depth, PyData.shown]
    obtain ⟨l⟩ := vs
    cases l with
    | nil =>
      have h4' : ReadsAll h [] xs _ := r4
      cases h4'
      simp only [PyData.shownAll, listText_nil]
      exact ReprK.listEmpty h1 h2 h3
    | cons x l => exact ReprK.list h1 h2 h3 hna (by simpa using hk.length_eq) (fun i y e => hk.item i y (by simpa using e))
  · have hz' : (listText (PyData.shownAll xs)).length ≤ sizeLine := by simpa only [PyData.shown] using hsz
    obtain ⟨bs, hb, hk⟩ := h4.rp (by simpa [PyData.showable] using hs) (fun t ht => Nat.le_trans (listText_mem_le ht) hz')
    have hna : a ∉ bs := not_mem_of_deeper r (by simp only [PyData.depth]; omega) hb
    refine ⟨"list", "list.__repr__", F.slot_list_repr.toG, F.slot_list_str, F.slot_list_format, fun s hk0 => ⟨o, hk0 _ _ h1, h2⟩, fun A E s Q hg hu hk0 hQ => ?_⟩
    simp only [PyData.depth] at hu
    simp only [PyData.shown] at hQ
    obtain ⟨l⟩ := vs
    cases l with
    | nil =>
      have h4' : ReadsAll h [] xs _ := r4
      cases h4'
      simp only [PyData.shownAll, listText_nil] at hQ
      exact call_list_repr_empty ⟨o, hk0 _ _ h1, h2⟩ (hk0 _ _ h1) h3 (hQ s.heap _ _ fun _ _ e => e)
    | cons x l =>
      exact call_list_reprK h1 h2 h3 hna (by simpa using hk.length_eq) (fun i y e => hk.item i y (by simpa using e)) hg (fun b _ => Clear.nil b) hu hk0 hQ hz'
theorem RpObj.tuple {a : Addr} {o : Obj} {vs : Array Value} {n : Nat} {xs : List PyData} (h1 : h.get? a = some o) (h2 : o.cls = .type "tuple") (h3 : o.data = .seq vs n) (h4 : RpAll P w h vs.toList xs) : RpObj P w h a (.tuple xs) := by
  obtain ⟨as, r4⟩ := h4.rd
  have r : Reads h (.ref a) (.tuple xs) _ := .tuple h1 h2 h3 r4
  refine ⟨⟨⟨_, r⟩, fun hs hz => ?_⟩, fun hs hsz => ?_⟩
  · have hz' : (tupleText (PyData.shownAll xs)).length ≤ sizeLine := by simpa only [PyData.shown] using hz
    obtain ⟨bs, hb, hk⟩ := h4.rp (by simpa [PyData.showable] using hs) (fun t ht => Nat.le_trans (tupleText_mem_le ht) hz')
    have hna : a ∉ bs := not_mem_of_deeper r (by simp only [PyData.depth]; omega) hb
    refine ⟨a :: bs, ReadAtMost.cons r (by simp only [PyData.depth]; omega) hb, ?_⟩
    simp only [PyData.depth, PyData.shown]
    exact ReprK.tuple h1 h2 h3 hna hk
  · have hz' : (tupleText (PyData.shownAll xs)).length ≤ sizeLine := by simpa only [PyData.shown] using hsz
    obtain ⟨bs, hb, hk⟩ := h4.rp (by simpa [PyData.showable] using hs) (fun t ht => Nat.le_trans (tupleText_mem_le ht) hz')
    have hna : a ∉ bs := not_mem_of_deeper r (by simp only [PyData.depth]; omega) hb
    refine ⟨"tuple", "tuple.__repr__", F.slot_tuple_repr, F.slot_tuple_str, F.slot_tuple_format, fun s hk0 => ⟨o, hk0 _ _ h1, h2⟩, fun A E s Q hg hu hk0 hQ => ?_⟩
    simp only [PyData.depth] at hu
    simp only [PyData.shown] at hQ
    exact call_tuple_reprK h1 h2 h3 hna hk hg (fun b _ => Clear.nil b) hu hk0 hQ hz'
theorem RpObj.dict {a : Addr} {o : Obj} {es : Array DictEntry} {n : Nat} {kvs : List (PyData × PyData)} (h1 : h.get? a = some o) (h2 : o.cls = .type "dict") (h3 : o.data = .dict es n) (hsys : (a == sysModules) = false)
    (h4 : RpAll P w h (es.toList.map (·.key)) (kvs.map (·.1))) (h5 : RpAll P w h (es.toList.map (·.val)) (kvs.map (·.2))) : RpObj P w h a (.dict kvs) := by
  obtain ⟨as, r4⟩ := h4.rd
  obtain ⟨bs, r5⟩ := h5.rd
  have r : Reads h (.ref a) (.dict kvs) _ := .dict h1 h2 h3 r4 r5
  have both : (PyData.dict kvs).showable = true → (PyData.dict kvs).shown.length ≤ sizeLine → ∃ b1 b2, a ∉ b1 ++ b2 ∧ ReadAtMost h (PyData.depthKv kvs) (b1 ++ b2) ∧ (dictText (PyData.shownKv kvs)).length ≤ sizeLine ∧
      ReprEntriesK P w (b1 ++ b2) h (PyData.depthKv kvs) es.toList (List.zipWith (fun k v => k ++ ": " ++ v) (PyData.shownAll (kvs.map (·.1))) (PyData.shownAll (kvs.map (·.2)))) := fun hs hz => by
    have hz' : (dictText (PyData.shownKv kvs)).length ≤ sizeLine := by simpa only [PyData.shown] using hz
    obtain ⟨hs1, hs2⟩ := PyData.showableKv_split kvs (by simpa [PyData.showable] using hs)
    obtain ⟨b1, hb1, k1⟩ := h4.rp hs1 (fun t ht => let ⟨p, hp, hl⟩ := PyData.shownKv_key_le kvs t ht; Nat.le_trans hl (Nat.le_trans (dictText_mem_le hp) hz'))
    obtain ⟨b2, hb2, k2⟩ := h5.rp hs2 (fun t ht => let ⟨p, hp, hl⟩ := PyData.shownKv_val_le kvs t ht; Nat.le_trans hl (Nat.le_trans (dictText_mem_le hp) hz'))
    have hb : ReadAtMost h (PyData.depthKv kvs) (b1 ++ b2) := (hb1.mono (PyData.depthAll_keys_le kvs)).append (hb2.mono (PyData.depthAll_vals_le kvs))
    have hna : a ∉ b1 ++ b2 := not_mem_of_deeper r (by simp only [PyData.depth]; omega) hb
    exact ⟨b1, b2, hna, hb, hz', ReprEntriesK.of_two es.toList _ _
      (k1.more_le (fun b hb => List.mem_append_left _ hb) (PyData.depthAll_keys_le kvs)) (k2.more_le (fun b hb => List.mem_append_right _ hb) (PyData.depthAll_vals_le kvs))⟩
  refine ⟨⟨⟨_, r⟩, fun hs hz => ?_⟩, fun hs hsz => ?_⟩
  · obtain ⟨b1, b2, hna, hb, _, hk⟩ := both hs hz
    refine ⟨a :: (b1 ++ b2), ReadAtMost.cons r (by simp only [PyData.depth]; omega) hb, ?_⟩
    simp only [PyData.depth, PyData.shown, PyData.shownKv_eq]
    exact ReprK.dict h1 h2 h3 hsys hna hk
  · obtain ⟨b1, b2, hna, hb, hz', hk⟩ := both hs hsz
    refine ⟨"dict", "dict.__repr__", F.slot_dict_repr, F.slot_dict_str, F.slot_dict_format, fun s hk0 => ⟨o, hk0 _ _ h1, h2⟩, fun A E s Q hg hu hk0 hQ => ?_⟩
    simp only [PyData.depth] at hu
    simp only [PyData.shown, PyData.shownKv_eq] at hQ
    exact call_dict_reprK h1 h2 h3 hsys hna hk hg (fun b _ => Clear.nil b) hu hk0 hQ (by rw [← PyData.shownKv_eq]; exact hz')
end
/-- what stands at a value, told of any state -/
def RdM (K : PySem.W.Frag) (H : Hp) (v : V) (p : PyData) : Prop :=
  ∀ (X : Cx) (pins : List (Addr × Obj)) (σ : St) (s : Shared) (u : Value), X.K = K → Inv X pins σ H s → RelV v u → RpOk X.prog X.w s.heap u p
def RdO (K : PySem.W.Frag) (H : Hp) (a : Addr) (p : PyData) : Prop :=
  ∀ (X : Cx) (pins : List (Addr × Obj)) (σ : St) (s : Shared), X.K = K → Inv X pins σ H s → RpObj X.prog X.w s.heap a p
theorem RdO.m {K : PySem.W.Frag} {H : Hp} {a : Addr} {p : PyData} (h : RdO K H a p) : RdM K H (.ref a) p := fun X pins σ s u hK I r => by
  cases (show u = Value.ref a from r)
  exact (h X pins σ s hK I).ok
end
end L2
namespace DL
open PySem L2
variable [DL.Nm]
variable {G : Glb} {X : Cx} {W : WX}
/-! ### tuple * n -/
/-! ### d.pop(k) -/
/-! ### repr -/
/-- a thing as data: lists, tuples, dicts, of one another -/
def pyL (S : Store) : Nat → D → Option PyData
  | 0 => fun _ => none
  | n + 1 => fun d => match d with
    | .non => some .none
    | .bl b => some (.bool b)
    | .int i => some (.int i)
    | .str x => some (.str x)
    | .tup ds => (optL (pyL S n) ds).map .tuple
    | .tpl ds => (optL (pyL S n) ds).map .tuple
    | .lst ds => (optL (pyL S n) ds).map .list
    | .dic ks ds => (optL (pyL S n) ds).map fun ps => .dict ((ks.map keyPy).zip ps)
    | .loc l => match S[l]? with
      | some (.dic kvs) => (optL (pyL S n) (kvs.map (·.2))).map fun ps => .dict (((kvs.map (·.1)).map keyPy).zip ps)
      | some (.lst ds) => (optL (pyL S n) ds).map .list
      | _ => none
    | _ => none
section
variable {φ : Fi} {S : Store} {H : Hp}
theorem optL_m {f : D → Option PyData} (st : ∀ d v p, Is G φ H d v → f d = some p → RdM G.K H v p) {X : Cx} {pins : List (Addr × Obj)} {σ : L2.St} {s : Shared} (hK : X.K = G.K) (I : Inv X pins σ H s) :
    ∀ {ds : List D} {vs : List V} {ps : List PyData} {us : List Value}, IsL G φ H ds vs → optL f ds = some ps → Vals vs us → RpAll X.prog X.w s.heap us ps
  | [], vs, ps, us, i, e, r => by
    cases (show vs = [] from i); cases e; cases r
    exact .nil
  | d :: ds, vs, ps, us, i, e, r => by
    obtain ⟨x, r0, rfl, p, q⟩ := i
    obtain ⟨a, e1, e2⟩ := Option.bind_eq_some_iff.mp (show (f d).bind (fun b => (optL f ds).map (b :: ·)) = some ps from e)
    obtain ⟨b, e3, e4⟩ := Option.map_eq_some_iff.mp e2
    subst e4
    cases r with
    | cons r1 r2 => exact .cons (st _ _ _ p e1 X pins σ s _ hK I r1) (optL_m st hK I q e3 r2)
theorem keys_m {P : Program} {w : World} {h : Heap} : ∀ {es : List DictEntry} {vs : List (Key × Value)}, Pairs (mixKind P w) es vs → RpAll P w h (es.map (·.key)) ((vs.map (·.1)).map keyPy)
  | _, _, .nil => .nil
  | _, _, .cons (e := e) (kv := kv) h1 h2 r => by
    have ih := keys_m (h := h) r
    have rd : RpOk P w h e.key (keyPy kv.1) := by
      rcases keyIs_shape (show keyIs kv.1 e.key = true from h1) with ⟨i, t, e1, e2⟩ | ⟨x, t, e1, e2⟩
      · rw [e1, e2]; exact .int i t
      · rw [e1, e2]; exact .str x t
    exact .cons rd ih
theorem dic_m {f : D → Option PyData} (st : ∀ d v p, Is G φ H d v → f d = some p → RdM G.K H v p) {a : Addr} {kvs : List (Key × V)} {ds : List D} {ps : List PyData} (r : Rd H a (.dK kvs)) (il : IsL G φ H ds (kvs.map (·.2))) (e : optL f ds = some ps) : RdO G.K H a (.dict (((kvs.map (·.1)).map keyPy).zip ps)) := by
  intro X pins σ s hK I
  obtain ⟨hz, h0, vs, kv, o, es, ep, h1, h2, h3, h4, h5, h6⟩ := dk_rd I.hok r
  obtain ⟨v1, v2⟩ := vals_pairs h5 kv
  have q1 := optL_m st hK I il e v1
  have lp : ps.length = kvs.length := by rw [optL_len e, il.length, List.length_map]
  have z1 : ((((kvs.map (·.1)).map keyPy).zip ps).map (·.1)) = (kvs.map (·.1)).map keyPy := by
    rw [List.map_fst_zip (by simp; omega)]
  have z2 : ((((kvs.map (·.1)).map keyPy).zip ps).map (·.2)) = ps := by
    rw [List.map_snd_zip (by simp; omega)]
  exact .dict h1 h2.1 h3 h0 (by rw [z1, v2]; exact keys_m h5) (by rw [z2]; exact q1)
theorem lst_m {f : D → Option PyData} (st : ∀ d v p, Is G φ H d v → f d = some p → RdM G.K H v p) {a : Addr} {xs : List V} {ds : List D} {ps : List PyData} (r : SqL G.K H a xs) (il : IsL G φ H ds xs) (e : optL f ds = some ps) : RdO G.K H a (.list ps) := by
  intro X pins σ s hK I
  obtain ⟨its, rv, ⟨o, n, ho, hc, _, hd⟩, _⟩ := I.list (by rw [hK]; exact r)
  exact .list ho hc hd (optL_m st hK I il e rv)
theorem tup_m {f : D → Option PyData} (st : ∀ d v p, Is G φ H d v → f d = some p → RdM G.K H v p) {a : Addr} {xs : List V} {ds : List D} {ps : List PyData} (r : SqT G.K H a xs) (il : IsL G φ H ds xs) (e : optL f ds = some ps) : RdO G.K H a (.tuple ps) := by
  intro X pins σ s hK I
  obtain ⟨its, rv, ⟨o, ho, hc, m, hd⟩, _⟩ := I.tuple (by rw [hK]; exact r)
  exact .tuple ho hc hd (optL_m st hK I il e rv)
def isSeqL : D → Bool
  | .lst _ => true
  | .tup _ => true
  | .tpl _ => true
  | .dic _ _ => true
  | .loc _ => true
  | _ => false
mutual
theorem pyL_o (s : SOk G φ S H) : ∀ (n : Nat) (d : D) (v : V) (p : PyData), isSeqL d = true → Is G φ H d v → pyL S (n + 1) d = some p → ∃ a, v = .ref a ∧ RdO G.K H a p := fun n d v p hq i e => by
    cases d with
    | tup ds =>
      obtain ⟨a, xs, rfl, r, q⟩ := i
      obtain ⟨ps, e1, e2⟩ := Option.map_eq_some_iff.mp (show (optL (pyL S n) ds).map PyData.tuple = some p from e)
      subst e2
      exact ⟨a, rfl, tup_m (pyL_rd s n) r.seq q e1⟩
    | tpl ds =>
      obtain ⟨a, xs, o', rfl, ⟨_, r, _, _⟩, q⟩ := i
      obtain ⟨ps, e1, e2⟩ := Option.map_eq_some_iff.mp (show (optL (pyL S n) ds).map PyData.tuple = some p from e)
      subst e2
      exact ⟨a, rfl, tup_m (pyL_rd s n) (.inl (.inr ⟨_, r⟩)) q e1⟩
    | lst ds =>
      obtain ⟨a, xs, rfl, r, q⟩ := i
      obtain ⟨ps, e1, e2⟩ := Option.map_eq_some_iff.mp (show (optL (pyL S n) ds).map PyData.list = some p from e)
      subst e2
      exact ⟨a, rfl, lst_m (pyL_rd s n) r.seq q e1⟩
    | dic ks ds =>
      obtain ⟨a, kvs, rfl, ⟨_, r⟩, ek, il⟩ := i
      obtain ⟨ps, e1, e2⟩ := Option.map_eq_some_iff.mp (show (optL (pyL S n) ds).map (fun ps => PyData.dict ((ks.map keyPy).zip ps)) = some p from e)
      subst e2
      rw [← ek]
      exact ⟨a, rfl, dic_m (pyL_rd s n) r il e1⟩
    | loc l =>
      obtain ⟨a, ha, rfl⟩ := i
      simp only [pyL] at e
      split at e
      · rename_i kvs hc
        obtain ⟨ps, e1, e2⟩ := Option.map_eq_some_iff.mp e
        subst e2
        obtain ⟨ws, hx, hk, il⟩ := s.at_ hc ha
        rw [← hk]
        exact ⟨a, rfl, dic_m (pyL_rd s n) (.inl hx) il e1⟩
      · rename_i ds hc
        obtain ⟨ps, e1, e2⟩ := Option.map_eq_some_iff.mp e
        subst e2
        obtain ⟨xs, hx, il⟩ := s.at_ hc ha
        exact ⟨a, rfl, lst_m (pyL_rd s n) (SqL.of hx) il e1⟩
      · cases e
    | _ => cases hq
termination_by n => (n + 1, 0)
theorem pyL_rd (s : SOk G φ S H) : ∀ (n : Nat) (d : D) (v : V) (p : PyData), Is G φ H d v → pyL S n d = some p → RdM G.K H v p
  | 0, d, v, p, i, e => by cases e
  | n + 1, d, v, p, i, e => by
      cases hq : isSeqL d with
      | true =>
        obtain ⟨a, rfl, h⟩ := pyL_o s n d v p hq i e
        exact h.m
      | false =>
        cases d with
        | non => cases (show v = _ from i); cases e; exact fun X pins σ s u _ I r => by cases r; exact .none
        | bl b => cases (show v = _ from i); cases e; exact fun X pins σ s u _ I r => by cases r; exact .bool b
        | int b => cases (show v = _ from i); cases e; exact fun X pins σ s u _ I r => by obtain ⟨t, rfl⟩ := r; exact .int b t
        | str b => cases (show v = _ from i); cases e; exact fun X pins σ s u _ I r => by obtain ⟨t, rfl⟩ := r; exact .str b t
        | obj _ _ _ => cases e
        | dct _ _ => cases e
        | exn _ _ _ => cases e
        | _ => cases hq
termination_by n => (n, 1)
end
end
end DL
end
section
/-! sorted of a tuple of ints; a list of anything == []; *a, b = a tuple. -/
namespace L2
open PySem PySem.Spec PySem.Calls PyProof.Rows PyProof PySem.W
variable [DL.Nm]
section
variable {prog : Program} {w : World} {A : Around} {E : Value → Shared → Prop} {s : Shared}
end
section
variable {X : Cx} {pos : Pos}
theorem op_lstEq0 (hu : X.A.units + 100 < cLine) : OpR X (compareOp .Eq) (fun x y H Q => ∃ a b xs, x = .ref a ∧ y = .ref b ∧ SqL X.K H a xs ∧ SqL X.K H b [] ∧ Q (.bl (decide (xs = []))) H) := by
  rintro pins s σ H x y v u Q I rx ry ⟨a, b, xs, rfl, rfl, ha, hb, q⟩
  cases (show v = Value.ref a from rx)
  cases (show u = Value.ref b from ry)
  obtain ⟨us, r1, p1, _⟩ := I.list ha
  obtain ⟨ws, r2, p2, _⟩ := I.list hb
  cases r2
  have res : ∃ w H', Inv X pins σ H' s ∧ RelV w (.bool (decide (xs = []))) ∧ Q w H' := ⟨.bl (decide (xs = [])), H, I, rfl, q⟩
  cases xs with
  | nil =>
    cases r1
    refine (SeqAt.RcAt.lists (e := fun _ => true) p1.isList p2.isList rfl (by omega) (fun j h1 h2 => ?_)) X.prog X.w _ _ res
    simp at h1
  | cons x xs =>
    refine (SeqAt.RcAt.lists_lengths p1.isList p2.isList ?_ (by omega)) X.prog X.w _ _ res
    rw [List.size_toArray, ← r1.length]
    simp
end
end L2
namespace DL
open PySem L2
variable [DL.Nm]
variable {G : Glb} {X : Cx} {W : WX}
/-- sorted: a list, a dict or a tuple of ints -/
def bSortedV (ds : List D) (S : Store) : ER := match ds with
  | [.tup es] => match intsD es with
    | some ns => if ns.length < 64 then .ok (.lst ((sortI ns).map .int)) S else .bad
    | none => .bad
  | ds => bSortedX ds S
@[simp] theorem bSortedV_t {ns : List Int} {S : Store} : bSortedV [.tup (ns.map .int)] S = if ns.length < 64 then .ok (.lst ((sortI ns).map .int)) S else .bad := by
  unfold bSortedV
  dsimp only
  rw [intsD_map]
@[simp] theorem bSortedV_l {ns : List Int} {S : Store} : bSortedV [.lst (ns.map .int)] S = .ok (.lst ((sortI ns).map .int)) S := by
  show bSortedX [.lst (ns.map .int)] S = _
  rw [bSortedX_lst]
  unfold bSorted
  dsimp only [listD, Option.bind]
  rw [intsD_map]
/-- a list of anything == [] -/
def opEqL0 (x y : D) (S : Store) : ER := match listD S x, y with
  | some ds, .lst [] => .ok (.bl (decide (ds.length = 0))) S
  | _, _ => .bad
theorem do_eqL0 (hK : X.K = G.K) (hu : X.A.units + 100 < cLine) : DOp G X (compareOp .Eq) opEqL0 := by
  refine ⟨_, op_lstEq0 hu, fun W φ S H σ dx dy x y Q s ix iy h => ?_⟩
  unfold opEqL0 at h
  split at h
  · rename_i ds hd
    obtain ⟨p, xs, rfl, r1, q1⟩ := listD_sq s ix hd
    obtain ⟨p2, ys, rfl, r2, q2⟩ := listD_sq s iy (ds := []) rfl
    have z : ys = [] := List.eq_nil_of_length_eq_zero (by simpa using q2.length.symm)
    subst z
    have e : decide (xs = []) = decide (ds.length = 0) := by
      rw [q1.length]; cases xs <;> simp
    refine ⟨p, p2, xs, rfl, rfl, by rw [hK]; exact r1, by rw [hK]; exact r2, ?_⟩
    rw [e]
    exact h.now s rfl
  · exact bad_no h
@[simp] theorem opEqL0_l {ds : List D} {S : Store} : opEqL0 (.lst ds) (.lst []) S = .ok (.bl (decide (ds.length = 0))) S := rfl
/-- *a, b = a list or a tuple -/
def sqTL (S : Store) : D → Option (List D)
  | .tup ds => some ds
  | d => listD S d
def sStarT (i j : Nat) (f : EM) : SM := fun e S => (f e S).bindS e fun d S => match sqTL S d with
  | some ds => match ds.getLast? with
    | some x => .nx ((e.set i (some (.lst ds.dropLast))).set j (some x)) S
    | none => .bad
  | none => .bad
@[simp] theorem sStarT_is {i j : Nat} {f : EM} {e : EnvD} {S : Store} : sStarT i j f e S = (f e S).bindS e fun d S => match sqTL S d with
  | some ds => match ds.getLast? with
    | some x => .nx ((e.set i (some (.lst ds.dropLast))).set j (some x)) S
    | none => .bad
  | none => .bad := rfl
end DL
namespace L2
open PySem PySem.Spec PyProof.Rows
variable [DL.Nm]
/-! ### tuple * 1 -/
end L2
namespace DL
open PySem L2
variable [DL.Nm]
variable {G : Glb} {X : Cx} {W : WX}
end DL
end
section
namespace DL.K53
open PySem L2  
open DL
variable [DL.Nm]
noncomputable section
def g__law_points_right_b1 : SM :=
(sSeq (sIf (eOr (eNot (eIsC (tabB .tuple) (eVar 1))) (eOr (eOp opNe (eCallB bLenX (lCons (eVar 1) lNil)) (eC (.int 2))) (eNot (eCall d__law_between (lCons (eOp opIxX (eVar 1) (eC (.int 0))) (lCons (eC (.int 1)) (lCons (eC (.int 9)) lNil)))))))
(sRet (eC (.bl false)))
sSkip)
(sIf (eNot (eCall d__law_between (lCons (eOp opIxX (eVar 1) (eC (.int 1))) (lCons (eC (.int 0)) (lCons (eC (.int 2147483646)) lNil)))))
(sRet (eC (.bl false)))
sSkip))
def g__law_points_right_e1 : EM :=
(eOp opIxX (eVar 1) (eC (.int 0)))
def g__law_points_right : SM :=
(sSeq (sIf (eOr (eNot (eIsC (tabOr (tabB .list) (tabOr (tabB .tuple) tabF)) (eVar 0))) (eOp opEq (eCallB bLenX (lCons (eVar 0) lNil)) (eC (.int 0))))
(sRet (eC (.bl false)))
sSkip)
(sSeq (sFor (iSeq (eVar 0)) (bName 1) g__law_points_right_b1)
(sRet (eOp opEq (eLenSet (eLc (iSeq (eVar 0)) (bName 1) eYes g__law_points_right_e1 [1])) (eCallB bLenX (lCons (eVar 0) lNil))))))
def d__law_points_right : FD := fnF .pure 2 g__law_points_right
def g__law_odd_number : SM :=
(sRet (eCall d__law_pick (lCons (eVar 0) (lCons (eLst (lCons (eNeg (eC (.int 1))) (lCons (eC (.int 0)) (lCons (eC (.int 2147483646)) (lCons (eC (.int 2147483647)) (lCons (eC (.bl true)) (lCons (eC .non) (lCons (eC (.str "1")) (lCons (eTup lNil) (lCons (eLst (lCons (eC (.int 1)) lNil)) (lCons (eOp opPow (eC (.int 10)) (eC (.int 20))) (lCons (eC (.int 1)) (lCons (eC (.int 9)) (lCons (eC (.int 10)) lNil)))))))))))))) lNil))))
def d__law_odd_number : FD := fnF .keep 1 g__law_odd_number
def g__law_lows_right_t1 : EM :=
(eNot (eCall d__law_between (lCons (eVar 1) (lCons (eC (.int 0)) (lCons (eC (.int 2147483646)) lNil)))))
def g__law_lows_right : SM :=
(sRet (eAnd (eIsC (tabB .tuple) (eVar 0)) (eOp opEqL0 (eLc (iSeq (eVar 0)) (bName 1) g__law_lows_right_t1 (eVar 1) [1]) (eLst lNil))))
def d__law_lows_right : FD := fnF .pure 2 g__law_lows_right
def g__law_safe_told_s1 : SM :=
(sAsg (eVar 3) (bName 2))
def g__law_safe_told_r1 : SM :=
(sRet (eIf (eOp opIsN (eVar 2) (eC .non)) (eVar 1) (eCall d__law_refusal (lCons (eVar 2) lNil))))
def h__law_safe_told : ER → Store → ER := hLam .keep 4 (gLamB 1 2 1 3 (fun _ => true) g__law_safe_told_s1 g__law_safe_told_r1)
def g__law_is_done_r1 : SM :=
(sRet (eIf (eAnd (eIsC (tabB .list) (eVar 1)) (eOp opEq (eVar 1) (eLst (lCons (eC (.str "NoCount")) lNil)))) (eC (.int 0)) (eIf (eIsC (tabB .list) (eVar 1)) (eC (.int 2)) (eC (.int 1)))))
def h__law_is_done : ER → Store → ER := hLam .pure 2 (gLamC 1 h__law_safe_told g__law_is_done_r1)
def g__law_odd_points : SM :=
(sSeq (sAsg (eCall d__law_next (lCons (eVar 0) (lCons (eCallB bLenX (lCons (eVar 1) lNil)) lNil))) (bName 2))
(sSeq (sAsg (eOp opIxX (eVar 1) (eVar 2)) (bTup (bCons (bName 3) (bCons (bName 4) bNil))))
(sSeq (sAsg (eLst (lCons (eOp opAdd (eOp opAdd (eSlice (eVar 1) oNone (oSome (eVar 2))) (eLst (lCons (eTup (lCons (eVar 3) (lCons (eCall d__law_odd_number (lCons (eVar 0) lNil)) lNil))) lNil))) (eSlice (eVar 1) (oSome (eOp opAdd (eVar 2) (eC (.int 1)))) oNone)) (lCons (eOp opAdd (eVar 1) (eLst (lCons (eOp opIxX (eVar 1) (eVar 2)) lNil))) (lCons (eCallB bTuple (lCons (eVar 1) lNil)) (lCons (eLst lNil) lNil))))) (bName 5))
(sSeq (sAsg (eOp opAdd (eVar 5) (eLst (lCons (eOp opAdd (eOp opAdd (eSlice (eVar 1) oNone (oSome (eVar 2))) (eLst (lCons (eTup (lCons (eCall d__law_odd_number (lCons (eVar 0) lNil)) (lCons (eVar 4) lNil))) lNil))) (eSlice (eVar 1) (oSome (eOp opAdd (eVar 2) (eC (.int 1)))) oNone)) (lCons (eOp opAdd (eSlice (eVar 1) oNone (oSome (eVar 2))) (eLst (lCons (eLst (lCons (eVar 3) (lCons (eVar 4) lNil))) lNil))) (lCons (eC .non) lNil))))) (bName 5))
(sRet (eCall d__law_pick (lCons (eVar 0) (lCons (eOp opAdd (eVar 5) (eLst (lCons (eOp opAdd (eVar 1) (eLst (lCons (eTup (lCons (eVar 3) (lCons (eC (.int 5)) lNil))) lNil))) (lCons (eOp opAdd (eVar 1) (eLst (lCons (eC (.int 5)) lNil))) (lCons eDic0 (lCons (eC (.str "ab")) (lCons (eOp opAdd (eVar 1) (eLst (lCons (eTup (lCons (eC (.int 1)) (lCons (eC (.int 2)) (lCons (eC (.int 3)) lNil)))) lNil))) (lCons (eVar 1) lNil)))))))) lNil))))))))
def d__law_odd_points : FD := fnF .keep 6 g__law_odd_points
def g_Safe_init_e1 : EM :=
eDic0
def g_Safe_init : SM :=
(sSeq (sIf (eOr (eNot (eCall d_is_between (lCons (eVar 1) (lCons (eC (.int 1)) (lCons (eC (.int 9)) lNil))))) (eNot (eCall d_is_between (lCons (eVar 2) (lCons (eC (.int 1)) (lCons (eVar 1) lNil))))))
(sRaise "NoCount")
sSkip)
(sSeq (sFldC ["Safe"] "many" (eVar 0) (eVar 1))
(sSeq (sFldC ["Safe"] "wanted" (eVar 0) (eVar 2))
(sSeq (sFldC ["Safe"] "drawers" (eVar 0) (eDcM (iRange2 (lCons (eC (.int 1)) (lCons (eOp opAdd (eVar 1) (eC (.int 1))) lNil))) (bName 3) eYes (eVar 3) g_Safe_init_e1 [3]))
(sFldC ["Center", "Safe"] "known" (eVar 0) eDic0M)))))
def d_Safe_init : FD := fnF .keep 4 g_Safe_init
def g__law_shuffled_e1 : EM :=
(eMeth "list" mPopAt (eVar 2) (lCons (eCall d__law_next (lCons (eVar 0) (lCons (eCallB bLenX (lCons (eVar 2) lNil)) lNil))) lNil))
def g__law_shuffled : SM :=
(sSeq (sAsg (eCallB bListXM (lCons (eVar 1) lNil)) (bName 2))
(sRet (eLc (iRange1 (lCons (eCallB bLenX (lCons (eVar 1) lNil)) lNil)) (bName 3) eYes g__law_shuffled_e1 [3])))
def d__law_shuffled : FD := fnF .pure 4 g__law_shuffled
def g__law_right_e1 : EM :=
(eCall d__law_low (lCons (eVar 2) lNil))
def g__law_right_l1 : EM :=
(eCall d_dealt (lCons (eVar 5) (lCons (eVar 6) (lCons (eVar 7) lNil))))
def g__law_right_e2 : EM :=
(eTup (lCons (eVar 11) (lCons (eCall d__law_low (lCons (eVar 2) lNil)) lNil)))
def g__law_right_l2 : EM :=
(eCall d_restored (lCons (eVar 9) lNil))
def g__law_right_l3 : EM :=
(eCall d_seeds_for (lCons (eVar 5) (lCons (eVar 9) lNil)))
def g__law_right_l4 : EM :=
(eMake "Safe" d_Safe_init (lCons (eVar 7) (lCons (eVar 10) lNil)))
def g__law_right_b1 : SM :=
(sSeq (sAsg (eIf (eOp opGt (eCall d__law_next (lCons (eVar 2) (lCons (eC (.int 3)) lNil))) (eC (.int 0))) (eCall d__law_low (lCons (eVar 2) lNil)) (eCall d__law_odd_number (lCons (eVar 2) lNil))) (bName 5))
(sSeq (sAsg (eCallB bTuple (lCons (eLc (iRange1 (lCons (eCall d__law_next (lCons (eVar 2) (lCons (eOp opAdd (eVar 3) (eC (.int 1))) lNil))) lNil)) (bName 12) eYes g__law_right_e1 [12]) lNil)) (bName 6))
(sSeq (sIf (eOp opEq (eCall d__law_next (lCons (eVar 2) (lCons (eC (.int 4)) lNil))) (eC (.int 0)))
(sAsg (eCall d__law_pick (lCons (eVar 2) (lCons (eLst (lCons (eCallB bListX (lCons (eVar 6) lNil)) (lCons (eOp opAdd (eVar 6) (eTup (lCons (eCall d__law_odd_number (lCons (eVar 2) lNil)) lNil))) (lCons (eC .non) (lCons (eC (.int 5)) (lCons (eOp opAdd (eVar 6) (eTup (lCons (eC (.str "a")) lNil))) lNil)))))) lNil))) (bName 6))
sSkip)
(sSeq (sAsg (eIf (eOp opGt (eCall d__law_next (lCons (eVar 2) (lCons (eC (.int 3)) lNil))) (eC (.int 0))) (eVar 3) (eCall d__law_odd_number (lCons (eVar 2) lNil))) (bName 7))
(sSeq (sAsg (eAnd (eCall d__law_between (lCons (eVar 5) (lCons (eC (.int 0)) (lCons (eC (.int 2147483646)) lNil)))) (eAnd (eCall d__law_lows_right (lCons (eVar 6) lNil)) (eCall d__law_between (lCons (eVar 7) (lCons (eC (.int 1)) (lCons (eC (.int 9)) lNil)))))) (bName 8))
(sSeq (sAsg (eAnd (eVar 8) (eOp opLt (eCallB bLenX (lCons (eVar 6) lNil)) (eVar 7))) (bName 8))
(sSeq (sIf (eOp opNe (eLam h__law_is_done g__law_right_l1) (eCallB bInt (lCons (eVar 8) lNil)))
(sRet (eC (.bl false)))
sSkip)
(sSeq (sAsg (eLc (iSeq (eSlice (eCall d__law_shuffled (lCons (eVar 2) (lCons (eLRg (rg2 (eC (.int 1)) (eC (.int 10)))) lNil))) oNone (oSome (eVar 3)))) (bName 11) eYes g__law_right_e2 [11]) (bName 9))
(sSeq (sAsg (eIf (eOp opGt (eCall d__law_next (lCons (eVar 2) (lCons (eC (.int 3)) lNil))) (eC (.int 0))) (eCall d__law_odd_points (lCons (eVar 2) (lCons (eVar 9) lNil))) (eVar 9)) (bName 9))
(sSeq (sAsg (eCall d__law_points_right (lCons (eVar 9) lNil)) (bName 8))
(sSeq (sIf (eOp opNe (eLam h__law_is_done g__law_right_l2) (eCallB bInt (lCons (eVar 8) lNil)))
(sRet (eC (.bl false)))
sSkip)
(sSeq (sIf (eOp opNe (eLam h__law_is_done g__law_right_l3) (eCallB bInt (lCons (eAnd (eVar 8) (eCall d__law_between (lCons (eVar 5) (lCons (eC (.int 0)) (lCons (eC (.int 2147483646)) lNil))))) lNil)))
(sRet (eC (.bl false)))
sSkip)
(sSeq (sAsg (eCall d__law_pick (lCons (eVar 2) (lCons (eLst (lCons (eC (.int 1)) (lCons (eVar 3) (lCons (eOp opAdd (eVar 3) (eC (.int 1))) (lCons (eC (.int 0)) (lCons (eCall d__law_odd_number (lCons (eVar 2) lNil)) lNil)))))) lNil))) (bName 10))
(sSeq (sAsg (eAnd (eCall d__law_between (lCons (eVar 7) (lCons (eC (.int 1)) (lCons (eC (.int 9)) lNil)))) (eCall d__law_between (lCons (eVar 10) (lCons (eC (.int 1)) (lCons (eVar 7) lNil))))) (bName 8))
(sIf (eOp opNe (eLam h__law_is_done g__law_right_l4) (eCallB bInt (lCons (eVar 8) lNil)))
(sRet (eC (.bl false)))
sSkip)))))))))))))))
def g__law_right : SM :=
(sSeq (sAsg (eCall d__law_begun (lCons (eVar 0) (lCons (eVar 1) lNil))) (bName 2))
(sSeq (sAsg (eOp opAdd (eC (.int 1)) (eCall d__law_next (lCons (eVar 2) (lCons (eC (.int 9)) lNil)))) (bName 3))
(sSeq (sFor (iRange1 (lCons (eC (.int 6)) lNil)) (bName 4) g__law_right_b1)
(sRet (eC (.bl true))))))
def d__law_right : FD := fnF .pure 13 g__law_right
def g_law_b1 : SM :=
(sIf (eNot (eCall d__law_right (lCons (eVar 2) (lCons (eVar 1) lNil))))
(sRet (eC (.bl false)))
sSkip)
def g_law : SM :=
(sSeq (sFor (iEnumX (lCons (eSlice (eOp opAdd (eVar 0) (eLst (lCons (eC (.int 3)) lNil))) oNone (oSome (eCallB (bII maxII) (lCons (eC (.int 1)) (lCons (eCallB (bII minII) (lCons (eC (.int 12)) (lCons (eCallB bLenX (lCons (eVar 0) lNil)) lNil))) lNil))))) lNil)) (bTup (bCons (bName 1) (bCons (bName 2) bNil))) g_law_b1)
(sRet (eC (.bl true))))
def d_law : FD := fnF .pure 3 g_law
end
end DL.K53
end
section
/-! Loops, comprehensions and equality of plain lists. -/
namespace DL
open PySem L2
variable [DL.Nm]
theorem forD_cons {b : D → EnvD → Option EnvD} {body : SM} {d : D} {ds : List D} {e : EnvD} {S : Store} : forD b body (d :: ds) e S = match b d e with
    | none => .bad
    | some e1 => match body e1 S with
      | .nx e2 S2 => forD b body ds e2 S2
      | .ct e2 S2 => forD b body ds e2 S2
      | .bk e2 S2 => .nx e2 S2
      | .rt d S2 => .rt d S2
      | .ex x e2 S2 => .ex x e2 S2
      | .bad => .bad := rfl
/-- a loop that is never left, by what holds of the turn, the slots and the store -/
theorem forD_inv {b : D → EnvD → Option EnvD} {body : SM} (P : Nat → EnvD → Store → Prop) : ∀ (ds : List D) (n : Nat) {e : EnvD} {S : Store}, P n e S →
    (∀ i d e S, ds[i]? = some d → P (n + i) e S → ∃ e1, b d e = some e1 ∧ ∃ e2 S2, (body e1 S = .nx e2 S2 ∨ body e1 S = .ct e2 S2) ∧ P (n + i + 1) e2 S2) → ∃ e' S', forD b body ds e S = .nx e' S' ∧ P (n + ds.length) e' S'
  | [], n, e, S, h0, _ => ⟨e, S, rfl, h0⟩
  | d :: ds, n, e, S, h0, st => by
    obtain ⟨e1, hb, e2, S2, hg, h1⟩ := st 0 d e S rfl h0
    obtain ⟨e', S', hf, h2⟩ := forD_inv P ds (n + 1) (e := e2) (S := S2) h1 fun i d' e S hd hp => by
      have := st (i + 1) d' e S (by simpa using hd) (by rw [show n + (i + 1) = n + 1 + i by omega]; exact hp)
      rw [show n + (i + 1) + 1 = n + 1 + i + 1 by omega] at this
      exact this
    refine ⟨e', S', ?_, by rw [show n + (d :: ds).length = n + 1 + ds.length by simp; omega]; exact h2⟩
    rw [forD_cons, hb]
    dsimp only
    rcases hg with hg | hg <;> rw [hg] <;> exact hf
@[simp] theorem range_len {lo : Int} {n : Nat} : (rangeD lo n).length = n := by simp [rangeD]
/-- a comprehension whose parts leave the store: filter, then map -/
theorem lcD_fm {b : D → EnvD → Option EnvD} {tt elt : EM} {env : EnvD} {S : Store} (p : D → Bool) (f : D → D) : ∀ (ds acc : List D),
    (∀ d ∈ ds, ∃ e1, b d env = some e1 ∧ tt e1 S = .ok (.bl (p d)) S ∧ (p d = true → elt e1 S = .ok (f d) S)) → acc.length + ds.length ≤ 16777216 → lcD b tt elt env acc ds S = .ok (acc ++ (ds.filter p).map f) S
  | [], acc, _, _ => by simp
  | d :: ds, acc, h, hl => by
    obtain ⟨e1, hb, ht, he⟩ := h d List.mem_cons_self
    have hl' : acc.length + (ds.length + 1) ≤ 16777216 := hl
    unfold lcD
    rw [hb]
    dsimp only
    rw [ht]
    cases hp : p d with
    | true =>
      dsimp only
      rw [he hp]
      dsimp only
      rw [if_pos (show sz (acc.length + 1) by unfold sz; omega), lcD_fm p f ds _ (fun d' hd => h d' (List.mem_cons_of_mem _ hd)) (by simp; omega)]
      simp [List.filter_cons, hp]
    | false =>
      dsimp only
      rw [lcD_fm p f ds acc (fun d' hd => h d' (List.mem_cons_of_mem _ hd)) (by omega)]
      simp [List.filter_cons, hp]
theorem lcD_map {b : D → EnvD → Option EnvD} {elt : EM} {env : EnvD} {S : Store} (f : D → D) (ds : List D)
    (h : ∀ d ∈ ds, ∃ e1, b d env = some e1 ∧ elt e1 S = .ok (f d) S) (hl : ds.length ≤ 16777216) : lcD b eYes elt env [] ds S = .ok (ds.map f) S := by
  rw [lcD_fm (tt := eYes) (fun _ => true) f ds [] (fun d hd => let ⟨e1, a, c⟩ := h d hd; ⟨e1, a, rfl, fun _ => c⟩) (by simpa using hl), List.nil_append, List.filter_eq_self.mpr (fun _ _ => rfl)]
/-! equality of lists and tuples of whole numbers -/
theorem pys_ints {S : Store} : ∀ ns : List Int, D.pys S (ns.map .int) = some (ns.map .int)
  | [] => rfl
  | n :: ns => by simp [D.pys, D.py, pys_ints ns]
theorem eqv_ints : ∀ as bs : List Int, PyData.eqvAll (as.map .int) (bs.map .int) = decide (as = bs)
  | [], [] => rfl
  | [], _ :: _ => rfl
  | _ :: _, [] => rfl
  | a :: as, b :: bs => by
    show (PyData.eqv (.int a) (.int b) && PyData.eqvAll (as.map .int) (bs.map .int)) = _
    rw [eqv_ints as bs]
    show ((a == b) && decide (as = bs)) = _
    by_cases h : a = b
    · subst h; simp
    · simp [h]
/-- data whose texts may be laid, not deeper than k -/
def Shp (k : Nat) (p : PyData) : Prop := p.canLay0 = true ∧ p.depth ≤ k
theorem Shp.shaped {k : Nat} {p : PyData} (h : Shp k p) (hk : k ≤ 64) : SeqAt.shaped p = true := by
  unfold SeqAt.shaped
  rw [h.1, decide_eq_true (by have := h.2; omega : p.depth ≤ 64)]; rfl
theorem Shp.mono {k m : Nat} {p : PyData} (h : Shp k p) (hk : k ≤ m) : Shp m p := ⟨h.1, Nat.le_trans h.2 hk⟩
theorem Shp.int {k : Nat} (i : Int) : Shp k (.int i) := ⟨rfl, Nat.zero_le _⟩
theorem Shp.bool {k : Nat} (i : Bool) : Shp k (.bool i) := ⟨rfl, Nat.zero_le _⟩
theorem Shp.none {k : Nat} : Shp k .none := ⟨rfl, Nat.zero_le _⟩
theorem Shp.str {k : Nat} {x : Str} (h : PyData.strOk x = true) : Shp k (.str x) := ⟨h, Nat.zero_le _⟩
theorem Shp.all {k : Nat} : ∀ {ps : List PyData}, (∀ p ∈ ps, Shp k p) → PyData.canLayAll0 ps = true ∧ PyData.depthAll ps ≤ k
  | [], _ => ⟨rfl, Nat.zero_le _⟩
  | p :: ps, h => by
    obtain ⟨h1, h2⟩ := h p List.mem_cons_self
    obtain ⟨h3, h4⟩ := Shp.all fun q hq => h q (List.mem_cons_of_mem _ hq)
    refine ⟨?_, Nat.max_le.mpr ⟨h2, h4⟩⟩
    show (p.canLay0 && PyData.canLayAll0 ps) = true
    rw [h1, h3]; rfl
theorem Shp.list {k : Nat} {ps : List PyData} (h : ∀ p ∈ ps, Shp k p) : Shp (k + 1) (.list ps) := ⟨(Shp.all h).1, Nat.succ_le_succ (Shp.all h).2⟩
theorem Shp.tuple {k : Nat} {ps : List PyData} (h : ∀ p ∈ ps, Shp k p) : Shp (k + 1) (.tuple ps) := ⟨(Shp.all h).1, Nat.succ_le_succ (Shp.all h).2⟩
theorem Shp.ints {k : Nat} {ns : List Int} : ∀ p ∈ ns.map PyData.int, Shp k p := fun p hp => by
  obtain ⟨i, _, rfl⟩ := List.mem_map.mp hp
  exact .int i
theorem opEqB_of {neg : Bool} {x y : D} {S : Store} {p q : PyData} (hx : x.pyO S = some p) (hy : y.pyO S = some q) (h1 : SeqAt.shaped p = true) (h2 : SeqAt.shaped q = true) (ns : ∀ a b, x = .str a → y = .str b → False) :
    opEqB neg x y S = .ok (.bl (if neg then !PyData.eqv p q else PyData.eqv p q)) S := by
  unfold opEqB
  split
  · exact (ns _ _ rfl rfl).elim
  · rw [hx, hy]
    simp only [h1, h2, Bool.and_self, if_true]
@[simp] theorem opEq_tints {as bs : List Int} {S : Store} : opEq (.tup (as.map .int)) (.tup (bs.map .int)) S = .ok (.bl (decide (as = bs))) S := by
  rw [opEq, opEqB_of (p := .tuple (as.map .int)) (q := .tuple (bs.map .int)) (by simp [D.pyO, D.py, pys_ints]) (by simp [D.pyO, D.py, pys_ints]) ((Shp.tuple (k := 0) Shp.ints).shaped (by decide)) ((Shp.tuple (k := 0) Shp.ints).shaped (by decide)) (fun _ _ h => by cases h), PyData.eqv, eqv_ints]
  rfl
@[simp] theorem opNe_tints {as bs : List Int} {S : Store} : opNe (.tup (as.map .int)) (.tup (bs.map .int)) S = .ok (.bl (!decide (as = bs))) S := by
  rw [opNe, opEqB_of (p := .tuple (as.map .int)) (q := .tuple (bs.map .int)) (by simp [D.pyO, D.py, pys_ints]) (by simp [D.pyO, D.py, pys_ints]) ((Shp.tuple (k := 0) Shp.ints).shaped (by decide)) ((Shp.tuple (k := 0) Shp.ints).shaped (by decide)) (fun _ _ h => by cases h), PyData.eqv, eqv_ints]
  rfl
@[simp] theorem opEq_lints {as bs : List Int} {S : Store} : opEq (.lst (as.map .int)) (.lst (bs.map .int)) S = .ok (.bl (decide (as = bs))) S := by
  rw [opEq, opEqB_of (p := .list (as.map .int)) (q := .list (bs.map .int)) (by simp [D.pyO, D.py, pys_ints]) (by simp [D.pyO, D.py, pys_ints]) ((Shp.list (k := 0) Shp.ints).shaped (by decide)) ((Shp.list (k := 0) Shp.ints).shaped (by decide)) (fun _ _ h => by cases h), PyData.eqv, eqv_ints]
  rfl
@[simp] theorem opNe_lints {as bs : List Int} {S : Store} : opNe (.lst (as.map .int)) (.lst (bs.map .int)) S = .ok (.bl (!decide (as = bs))) S := by
  rw [opNe, opEqB_of (p := .list (as.map .int)) (q := .list (bs.map .int)) (by simp [D.pyO, D.py, pys_ints]) (by simp [D.pyO, D.py, pys_ints]) ((Shp.list (k := 0) Shp.ints).shaped (by decide)) ((Shp.list (k := 0) Shp.ints).shaped (by decide)) (fun _ _ h => by cases h), PyData.eqv, eqv_ints]
  rfl
@[simp] theorem exit_bl0 {b : Bool} {S : Store} : exitD .pure [] (.bl b) S = .ok (.bl b) [] := exit_of (d' := .bl b) rfl (by simp)
theorem cut_map {α β : Type} (f : α → β) (xs : List α) (lo hi : Option Int) : cutD (xs.map f) lo hi = (cutD xs lo hi).map f := by
  simp [cutD]
theorem cut_len {α : Type} (xs : List α) (lo hi : Option Int) : (cutD xs lo hi).length ≤ xs.length := by
  unfold cutD
  rw [List.length_take, List.length_drop]; omega
/-- the law's own loop: every cell of the script, with its number -/
theorem law_loop {b : D → EnvD → Option EnvD} {body : SM} {e : EnvD} {S : Store} (P : EnvD → Prop) (ms : List Int) (h0 : P e)
    (st : ∀ (i : Nat) (c : Int) (e : EnvD), i < ms.length → P e → ∃ e1 e2, b (.tup [.int (i : Nat), .int c]) e = some e1 ∧ body e1 S = .nx e2 S ∧ P e2) : ∃ e', forD b body (enumD 0 (ms.map .int)) e S = .nx e' S := by
  obtain ⟨e', S', h, _, rfl⟩ := forD_inv (b := b) (body := body) (fun _ e S' => P e ∧ S' = S) (enumD 0 (ms.map .int)) 0 (e := e) (S := S) ⟨h0, rfl⟩ (by
    rintro i d e S' hd ⟨hp, rfl⟩
    obtain ⟨x, hx, rfl⟩ := enumD_get 0 _ i d hd
    rw [List.getElem?_map] at hx
    obtain ⟨c, hc, rfl⟩ := Option.map_eq_some_iff.mp hx
    have hi : i < ms.length := (List.getElem?_eq_some_iff.mp hc).1
    obtain ⟨e1, e2, h1, h2, h3⟩ := st i c e hi hp
    rw [Nat.zero_add]
    exact ⟨e1, h1, e2, S', .inl h2, h3, rfl⟩)
  exact ⟨e', h⟩
end DL
end
section
/-! What a refusal is: `_law_alone`, `_law_refusal`. -/
namespace DL
open PySem L2
variable [DL.Nm]
variable {S : Store}
theorem bls_py : ∀ bs : List Bool, D.pys S (bs.map .bl) = some (bs.map .bool)
  | [] => rfl
  | b :: bs => by simp [D.pys, D.py, bls_py bs]
theorem bl_eqv (a b : Bool) : PyData.eqv (.bool a) (.bool b) = (a == b) := by cases a <;> cases b <;> rfl
theorem shp_bls (bs : List Bool) : SeqAt.shaped (.list (bs.map PyData.bool)) = true :=
  (Shp.list (k := 0) fun p hp => by obtain ⟨b, _, rfl⟩ := List.mem_map.mp hp; exact .bool b).shaped (by decide)
theorem bls_pyO (bs : List Bool) : D.pyO S (.lst (bs.map .bl)) = some (.list (bs.map .bool)) := by simp [D.pyO, D.py, bls_py]
theorem count_bls {bs : List Bool} : mCountD (.lst (bs.map .bl)) [.bl true] S = .ok (.int (bs.countP fun b => b == true : Nat)) S := by
  unfold mCountD
  dsimp only
  rw [bls_pyO, show D.pyO S (.bl true) = some (.bool true) from rfl]
  dsimp only
  rw [shp_bls, show SeqAt.shaped (.bool true) = true from rfl, if_pos (show (true && true) = true from rfl), List.countP_map]
  have e : (fun z => PyData.eqv z (.bool true)) ∘ PyData.bool = fun b => b == true := by funext b; exact bl_eqv b true
  rw [e]
theorem index_bls {bs : List Bool} (h : true ∈ bs) : mIndex (.lst (bs.map .bl)) [.bl true] S = .ok (.int (bs.idxOf true : Nat)) S := by
  unfold mIndex
  dsimp only
  rw [bls_pyO, show D.pyO S (.bl true) = some (.bool true) from rfl]
  dsimp only
  rw [shp_bls, show SeqAt.shaped (.bool true) = true from rfl]
  have g : ∀ l : List Bool, true ∈ l → (l.map PyData.bool).findIdx? (fun z => PyData.eqv z (.bool true)) = some (l.idxOf true) := fun l => by
    induction l with
    | nil => intro h; cases h
    | cons a l ih =>
      intro h
      rw [List.map_cons, List.findIdx?_cons, List.idxOf_cons, bl_eqv]
      cases a with
      | true => rfl
      | false =>
        have hb : true ∈ l := (List.mem_cons.mp h).resolve_left fun z => by cases z
        rw [ih hb]; rfl
  simp [g bs h]
def excNs : List Str := ["NoName", "NoDay", "NoRace", "NoMark", "NoCode", "NoPlace", "NoStub", "NoWay", "NoTime", "NoLetter", "NotWhole", "NoRuling", "NoChain", "NoBits", "NoLot", "NoCount", "NoPhase", "Twice", "NotThere", "NoRow", "NoText"]
theorem splA : Txt.split ("NoName NoDay NoRace NoMark NoCode NoPlace NoStub NoWay NoTime NoLetter NotWhole NoRuling" ++ " NoChain NoBits NoLot NoCount NoPhase Twice NotThere NoRow NoText" : Str) " " = excNs := by decide +kernel
theorem lenA : ("NoName NoDay NoRace NoMark NoCode NoPlace NoStub NoWay NoTime NoLetter NotWhole NoRuling" : Str).length + (" NoChain NoBits NoLot NoCount NoPhase Twice NotThere NoRow NoText" : Str).length ≤ 200 ∧ ("NoName NoDay NoRace NoMark NoCode NoPlace NoStub NoWay NoTime NoLetter NotWhole NoRuling" ++ " NoChain NoBits NoLot NoCount NoPhase Twice NotThere NoRow NoText" : Str).length ≤ 200 ∧ ((" " : Str).length == 0) = false := by decide +kernel
def isA (c : Str) : List Bool := excNs.map fun n => decide (c = n)
theorem isA_ok : ∀ c ∈ excNs, (isA c).countP (fun b => b == true) = 1 ∧ true ∈ isA c ∧ excNs[(isA c).idxOf true]? = some c ∧ (isA c).length = 21 := by decide +kernel
theorem alone_ok {c : Str} {ks : List Str} {ds : List D} (h : c ∈ excNs) : d__law_alone [.exn c ks ds] S = .ok (.str c) S := by
  obtain ⟨a1, a2, a3, a4⟩ := isA_ok c h
  have cn := count_bls (S := S) (bs := isA c)
  have ix := index_bls (S := S) a2
  rw [a1] at cn
  have at0 : atI (excNs.map D.str) ((isA c).idxOf true : Nat) = some (.str c) := atI_nat (by rw [List.getElem?_map, a3]; rfl)
  have ty : ∀ S, tyE S (.exn c ks ds) = some (.x c) := fun _ => rfl
  obtain ⟨l1, l3, l4⟩ := lenA
  have ad : ∀ S', opAdd (.str "NoName NoDay NoRace NoMark NoCode NoPlace NoStub NoWay NoTime NoLetter NotWhole NoRuling") (.str " NoChain NoBits NoLot NoCount NoPhase Twice NotThere NoRow NoText") S' = .ok (.str ("NoName NoDay NoRace NoMark NoCode NoPlace NoStub NoWay NoTime NoLetter NotWhole NoRuling" ++ " NoChain NoBits NoLot NoCount NoPhase Twice NotThere NoRow NoText" : Str)) S' := fun S' => by
    rw [opAdd_ss, if_pos (sz_is (Nat.le_trans l1 (by decide)))]
  have e : (isA c).map D.bl = [.bl (decide (c = "NoName")), .bl (decide (c = "NoDay")), .bl (decide (c = "NoRace")), .bl (decide (c = "NoMark")), .bl (decide (c = "NoCode")), .bl (decide (c = "NoPlace")), .bl (decide (c = "NoStub")), .bl (decide (c = "NoWay")), .bl (decide (c = "NoTime")), .bl (decide (c = "NoLetter")), .bl (decide (c = "NotWhole")), .bl (decide (c = "NoRuling")), .bl (decide (c = "NoChain")), .bl (decide (c = "NoBits")), .bl (decide (c = "NoLot")), .bl (decide (c = "NoCount")), .bl (decide (c = "NoPhase")), .bl (decide (c = "Twice")), .bl (decide (c = "NotThere")), .bl (decide (c = "NoRow")), .bl (decide (c = "NoText"))] := rfl
  rw [e] at cn ix
  generalize hX : D.exn c ks ds = X at *
  have sp : ∀ S', mSplit (.str ("NoName NoDay NoRace NoMark NoCode NoPlace NoStub NoWay NoTime NoLetter NotWhole NoRuling" ++ " NoChain NoBits NoLot NoCount NoPhase Twice NotThere NoRow NoText" : Str)) [.str " "] S' = .ok (.lst (excNs.map .str)) S' := fun S' => by
    unfold mSplit
    dsimp only
    rw [splA, if_pos ⟨l4, Nat.le_trans l3 (by decide)⟩]
  generalize (isA c).idxOf true = i at *
  have ts : ∀ S' (z : Str), tyD "str" S' (.str z) = true := fun _ _ => rfl
  have tl : ∀ S' (z : List D), tyD "list" S' (.lst z) = true := fun _ _ => rfl
  simp [-opAdd_ss, ts, tl, d__law_alone, g__law_alone, ty, tabX, sz_is, cn, ix, ad, sp, at0]
theorem refusal_ok {c : Str} {ks : List Str} {ds : List D} (h : c ∈ excNs) (n1 : c ≠ "NotThere") (n2 : c ≠ "NoRow") (n3 : c ≠ "NoText") : d__law_refusal [.exn c ks ds] S = .ok (.lst [.str c]) S := by
  have a := fun S' => alone_ok (S := S') (ks := ks) (ds := ds) h
  have ex : exitD .pure S (.lst [.str c]) S = .ok (.lst [.str c]) S := exit_same (by simp [frzD, frzDs])
  generalize D.exn c ks ds = X at *
  simp [d__law_refusal, g__law_refusal, a, n1, n2, n3, ex]
end DL
end
section
/-! The laws' draws. -/
namespace DL
open PySem L2
variable [DL.Nm]
/-- a row of draws of which at most m were drawn -/
structure Drw (c : Cell) (m : Nat) : Prop where
  ex : ∃ a s k : Int, c = .lst [.int a, .int s, .int k] ∧ 0 ≤ a ∧ 0 ≤ s ∧ s < 2147483648 ∧ 0 ≤ k ∧ k ≤ m
theorem Drw.mono {c : Cell} {m n : Nat} (d : Drw c m) (h : m ≤ n) : Drw c n := by
  obtain ⟨a, s, k, e, h1, h2, h3, h4, h5⟩ := d.ex
  exact ⟨a, s, k, e, h1, h2, h3, h4, by omega⟩
theorem next_ok {S : Store} {l : Nat} {c : Cell} {m : Nat} {n : Int} (hc : cel S l = some c) (d : Drw c m) (hm : m ≤ 100000) (hn : 0 < n) (hn2 : n < 1073741824) :
    ∃ x c', d__law_next [.loc l, .int n] S = .ok (.int x) (S.set l c') ∧ 0 ≤ x ∧ x < n ∧ Drw c' (m + 1) := by
  obtain ⟨a, s, k, rfl, ha, hs, hs2, hk, hk2⟩ := d.ex
  by_cases h0 : 0 < a
  · refine ⟨a % n, .lst [.int (a / n), .int s, .int k], ?_, Int.emod_nonneg _ (by omega), Int.emod_lt_of_pos _ hn, ⟨_, _, _, rfl, Int.ediv_nonneg ha (by omega), hs, hs2, hk, by omega⟩⟩
    simp [d__law_next, g__law_next, hc, h0, hn, hn2]
  · have e1 : (s * (2 * (k + 1) + 1) + 7919 * (k + 1) * (k + 1) + 11).natAbs < 2 ^ 64 := by
      have h1 : s * (2 * (k + 1) + 1) ≤ 2147483648 * (2 * (k + 1) + 1) := Int.mul_le_mul_of_nonneg_right (by omega) (by omega)
      have h2 : 0 ≤ s * (2 * (k + 1) + 1) := Int.mul_nonneg hs (by omega)
      have h3 : 7919 * (k + 1) * (k + 1) ≤ 7919 * 100001 * (k + 1) := Int.mul_le_mul_of_nonneg_right (by omega) (by omega)
      have h4 : 0 ≤ 7919 * (k + 1) * (k + 1) := Int.mul_nonneg (by omega) (by omega)
      omega
    refine ⟨((s * (2 * (k + 1) + 1) + 7919 * (k + 1) * (k + 1) + 11) ^ 5 % 2147483647) / 11 % n, .lst [.int a, .int s, .int (k + 1)], ?_, Int.emod_nonneg _ (by omega), Int.emod_lt_of_pos _ hn, ⟨_, _, _, rfl, ha, hs, hs2, by omega, by omega⟩⟩
    have m1 : s.natAbs < 18446744073709551616 := by omega
    have m2 : (k + 1).natAbs < 18446744073709551616 := by omega
    simp [d__law_next, g__law_next, hc, h0, hn, hn2, m1, m2, e1]
theorem begun_ok {S : Store} {a k : Int} (hk : 0 ≤ k) (hk2 : k ≤ 100000) : ∃ c, d__law_begun [.int a, .int k] S = .ok (.loc S.length) (S ++ [c]) ∧ Drw c 0 := by
  have h1 : 0 ≤ a % 2147483647 := Int.emod_nonneg _ (by omega)
  have h2 : a % 2147483647 < 2147483647 := Int.emod_lt_of_pos _ (by omega)
  have e1 : (a % 2147483647 * 48271 + 104729 * k + 7).natAbs < 2 ^ 64 := by omega
  have m1 : (a % 2147483647).natAbs < 18446744073709551616 := by omega
  have h3 : 0 ≤ (a % 2147483647 * 48271 + 104729 * k + 7) ^ 3 % 2147483629 := Int.emod_nonneg _ (by omega)
  have h4 : (a % 2147483647 * 48271 + 104729 * k + 7) ^ 3 % 2147483629 < 2147483629 := Int.emod_lt_of_pos _ (by omega)
  by_cases h : 1000000000000000000 ≤ a
  · refine ⟨.lst [.int (a - 1000000000000000000), .int (1 + (a % 2147483647 * 48271 + 104729 * k + 7) ^ 3 % 2147483629), .int 0], ?_, ⟨_, _, _, rfl, by omega, by omega, by omega, by omega, by omega⟩⟩
    simp [d__law_begun, g__law_begun, h, e1]
  · refine ⟨.lst [.int 0, .int (1 + (a % 2147483647 * 48271 + 104729 * k + 7) ^ 3 % 2147483629), .int 0], ?_, ⟨_, _, _, rfl, by omega, by omega, by omega, by omega, by omega⟩⟩
    simp [d__law_begun, g__law_begun, h, e1]
theorem atI_mem {α : Type} {ds : List α} {i : Int} (h0 : 0 ≤ i) (h1 : i < ds.length) : ∃ d ∈ ds, atI ds i = some d := by
  obtain ⟨j, rfl⟩ := Int.eq_ofNat_of_zero_le h0
  have hj : j < ds.length := by omega
  exact ⟨ds[j], List.getElem_mem hj, atI_nat (List.getElem?_eq_getElem hj)⟩
theorem pick_ok {S : Store} {l : Nat} {c : Cell} {m : Nat} {ds : List D} (hc : cel S l = some c) (d : Drw c m) (hm : m ≤ 100000) (hn : ds ≠ []) (hn2 : ds.length < 1073741824) :
    ∃ x ∈ ds, ∃ c', d__law_pick [.loc l, .lst ds] S = .ok x (S.set l c') ∧ Drw c' (m + 1) := by
  have hp : 0 < ds.length := List.length_pos_iff.mpr hn
  obtain ⟨i, c', e, h0, h1, d'⟩ := next_ok (n := ds.length) hc d hm (by omega) (by omega)
  obtain ⟨x, hx, e2⟩ := atI_mem h0 h1
  refine ⟨x, hx, c', ?_, d'⟩
  simp [d__law_pick, g__law_pick, e, e2]
end DL
namespace DL
open PySem L2
variable [DL.Nm]
/-! the same where the draws' cell stands alone -/
theorem next1 {c : Cell} {m : Nat} (n : Int) (d : Drw c m) (hm : m ≤ 100000) (hn : 0 < n) (hn2 : n < 1073741824) :
    ∃ x c', d__law_next [.loc 0, .int n] [c] = .ok (.int x) [c'] ∧ 0 ≤ x ∧ x < n ∧ Drw c' (m + 1) := next_ok (S := [c]) (l := 0) rfl d hm hn hn2
theorem begun1 (a : Int) {k : Int} (hk : 0 ≤ k) (hk2 : k ≤ 100000) : ∃ c, d__law_begun [.int a, .int k] [] = .ok (.loc 0) [c] ∧ Drw c 0 := begun_ok (S := []) hk hk2
theorem pick1 {c : Cell} {m : Nat} (ds : List D) (d : Drw c m) (hm : m ≤ 100000) (hn : ds ≠ []) (hn2 : ds.length < 1073741824) :
    ∃ x ∈ ds, ∃ c', d__law_pick [.loc 0, .lst ds] [c] = .ok x [c'] ∧ Drw c' (m + 1) := pick_ok (S := [c]) (l := 0) rfl d hm hn hn2
end DL
end
section
/-! Shares in lowest terms: the program's own lowest and the laws'. -/
namespace DL
open PySem L2
variable [DL.Nm]
@[simp] theorem sWhile_is {c : EM} {b : SM} {e : EnvD} {S : Store} : sWhile c b e S = whileD c b bigN e S := rfl
theorem whileD_succ {c : EM} {b : SM} {n : Nat} {e : EnvD} {S : Store} : whileD c b (n + 1) e S = match c e S with
    | .ok (.bl true) S1 => match b e S1 with
      | .nx e2 S2 => whileD c b n e2 S2
      | .ct e2 S2 => whileD c b n e2 S2
      | .bk e2 S2 => .nx e2 S2
      | .rt d S2 => .rt d S2
      | .ex x e2 S2 => .ex x e2 S2
      | .bad => .bad
    | .ok (.bl false) S1 => .nx e S1
    | .ex x S1 => .ex x e S1
    | _ => .bad := rfl
/-- the share x / y in lowest terms -/
def lowD (x y : Nat) : D := .tup [.int ((x / Nat.gcd x y : Nat) : Int), .int ((y / Nat.gcd x y : Nat) : Int)]
/-- n / d is x / y in lowest terms -/
structure IsLow (n d x y : Nat) : Prop where
  eq : n * y = x * d
  cop : Nat.gcd n d = 1
  pos : 0 < d
theorem isLow_of {x y : Nat} (hy : 0 < y) : IsLow (x / Nat.gcd x y) (y / Nat.gcd x y) x y := by
  have g0 : 0 < Nat.gcd x y := Nat.gcd_pos_of_pos_right _ hy
  refine ⟨?_, Nat.gcd_div_gcd_div_gcd_of_pos_right hy, Nat.div_pos (Nat.gcd_le_right _ hy) g0⟩
  have h1 := Nat.div_mul_cancel (Nat.gcd_dvd_left x y)
  have h2 := Nat.div_mul_cancel (Nat.gcd_dvd_right x y)
  generalize Nat.gcd x y = g at *
  generalize x / g = a at *
  generalize y / g = b at *
  rw [← h1, ← h2, Nat.mul_assoc, Nat.mul_comm b g]
theorem IsLow.unique {n d n' d' x y : Nat} (h : IsLow n d x y) (h' : IsLow n' d' x y) (hy : 0 < y) : n = n' ∧ d = d' := by
  have e : n * d' = n' * d := by
    have h1 := h.eq
    have h2 := h'.eq
    have : (n * d') * y = (n' * d) * y := by
      calc (n * d') * y = (n * y) * d' := by rw [Nat.mul_assoc, Nat.mul_comm d' y, ← Nat.mul_assoc]
        _ = (x * d) * d' := by rw [h1]
        _ = (x * d') * d := by rw [Nat.mul_assoc, Nat.mul_comm d d', ← Nat.mul_assoc]
        _ = (n' * y) * d := by rw [h2]
        _ = (n' * d) * y := by rw [Nat.mul_assoc, Nat.mul_comm y d, ← Nat.mul_assoc]
    exact Nat.eq_of_mul_eq_mul_right hy this
  have d1 : d ∣ d' := by
    have : d ∣ n * d' := by rw [e]; exact Nat.dvd_mul_left _ _
    exact Nat.Coprime.dvd_of_dvd_mul_left (show Nat.Coprime d n by rw [Nat.Coprime, Nat.gcd_comm]; exact h.cop) this
  have d2 : d' ∣ d := by
    have : d' ∣ n' * d := by rw [← e]; exact Nat.dvd_mul_left _ _
    exact Nat.Coprime.dvd_of_dvd_mul_left (show Nat.Coprime d' n' by rw [Nat.Coprime, Nat.gcd_comm]; exact h'.cop) this
  have ed := Nat.dvd_antisymm d1 d2
  subst ed
  exact ⟨Nat.eq_of_mul_eq_mul_right h.pos e, rfl⟩
theorem IsLow.low {n d x y : Nat} (h : IsLow n d x y) (hy : 0 < y) : lowD x y = .tup [.int n, .int d] := by
  obtain ⟨e1, e2⟩ := (isLow_of (x := x) hy).unique h hy
  unfold lowD
  rw [e1, e2]
theorem IsLow.le {n d x y : Nat} (h : IsLow n d x y) (hy : 0 < y) : d ≤ y := by
  have : d ∣ n * y := by rw [h.eq]; exact Nat.dvd_mul_left _ _
  exact Nat.le_of_dvd hy (Nat.Coprime.dvd_of_dvd_mul_left (show Nat.Coprime d n by rw [Nat.Coprime, Nat.gcd_comm]; exact h.cop) this)
end DL
end
section
/-! numbers modulo 2147483647; polynomials through points -/
namespace Mp
abbrev p : Int := 2147483647
/-- alike modulo p -/
def E (a b : Int) : Prop := a % 2147483647 = b % 2147483647
theorem E.refl (a : Int) : E a a := rfl
theorem E.symm {a b : Int} (h : E a b) : E b a := Eq.symm h
theorem E.trans {a b c : Int} (h : E a b) (k : E b c) : E a c := Eq.trans h k
theorem E.of {a b : Int} (h : a = b) : E a b := by rw [h]; exact E.refl b
theorem E.mod (a : Int) : E (a % 2147483647) a := by unfold E; omega
theorem E.add {a b c d : Int} (h : E a b) (k : E c d) : E (a + c) (b + d) := by unfold E at *; omega
theorem E.sub {a b c d : Int} (h : E a b) (k : E c d) : E (a - c) (b - d) := by unfold E at *; omega
theorem E.neg {a b : Int} (h : E a b) : E (-a) (-b) := by unfold E at *; omega
theorem E.mul {a b c d : Int} (h : E a b) (k : E c d) : E (a * c) (b * d) := by
  unfold E at *
  rw [Int.mul_emod, h, k, ← Int.mul_emod]
theorem E.pow {a b : Int} (h : E a b) : ∀ n : Nat, E (a ^ n) (b ^ n)
  | 0 => by rw [Int.pow_zero, Int.pow_zero]; exact E.refl 1
  | n + 1 => by rw [Int.pow_succ, Int.pow_succ]; exact (E.pow h n).mul h
theorem E.eq {a b : Int} (h : E a b) (h0 : 0 ≤ a) (h1 : a < 2147483647) (h2 : 0 ≤ b) (h3 : b < 2147483647) : a = b := by unfold E at h; omega
theorem mod_lt (a : Int) : 0 ≤ a % 2147483647 ∧ a % 2147483647 < 2147483647 := by omega
/-- a number with an inverse -/
def Inv (a : Int) : Prop := ∃ b, E (a * b) 1
theorem Inv.mul {a b : Int} (h : Inv a) (k : Inv b) : Inv (a * b) := by
  obtain ⟨c, hc⟩ := h
  obtain ⟨d, hd⟩ := k
  refine ⟨c * d, (E.of (by grind : a * b * (c * d) = (a * c) * (b * d))).trans ?_⟩
  exact (hc.mul hd).trans (E.of (by decide))
theorem Inv.cancel {a b : Int} (h : Inv a) (z : E (a * b) 0) : E b 0 := by
  obtain ⟨c, hc⟩ := h
  have h1 : E (c * (a * b)) (c * 0) := (E.refl c).mul z
  have h2 : E (c * (a * b)) (1 * b) := (E.of (by grind : c * (a * b) = (a * c) * b)).trans (hc.mul (E.refl b))
  have h3 := h2.symm.trans h1
  rw [Int.one_mul, Int.mul_zero] at h3
  exact h3
/-! ### powers -/
theorem pow_add' (a : Int) (m n : Nat) : a ^ (m + n) = a ^ m * a ^ n := Int.pow_add a m n
/-- powers with a remainder taken at each step; a proof by reckoning -/
def pw (a : Nat) : List Bool → Nat → Nat
  | [], acc => acc
  | b :: bs, acc => pw a bs ((if b then acc * acc % 2147483647 * a else acc * acc) % 2147483647)
def bits : List Bool → Nat → Nat
  | [], n => n
  | b :: bs, n => bits bs (2 * n + if b then 1 else 0)
theorem pw_is (a : Nat) : ∀ (bs : List Bool) (acc n : Nat), E (acc : Int) ((a : Int) ^ n) → E ((pw a bs acc : Nat) : Int) ((a : Int) ^ bits bs n)
  | [], acc, n, h => h
  | b :: bs, acc, n, h => by
    refine pw_is a bs _ _ ?_
    have h2 : E ((acc * acc : Nat) : Int) ((a : Int) ^ (2 * n)) := by
      rw [show 2 * n = n + n by omega, pow_add', Int.natCast_mul]
      exact h.mul h
    cases b with
    | false =>
      simp only [Bool.false_eq_true, if_false, Nat.add_zero]
      rw [Int.natCast_emod]
      exact (E.mod _).trans h2
    | true =>
      simp only [if_true]
      rw [Int.natCast_emod, Int.natCast_mul, Int.natCast_emod, Int.pow_succ]
      exact (E.mod _).trans (((E.mod _).trans h2).mul (E.refl _))
/-- the exponent p - 1, bit by bit -/
def eb : List Bool := [true, true, true, true, true, true, true, true, true, true, true, true, true, true, true, true, true, true, true, true, true, true, true, true, true, true, true, true, true, true, false]
theorem eb_is : bits eb 0 = 2147483646 := by decide +kernel
theorem fermat (a : Nat) (h1 : 1 ≤ a) (h : a ≤ 8) : E ((a : Int) ^ 2147483646) 1 := by
  have h2 := pw_is a eb 1 0 (by rw [Int.pow_zero]; exact E.refl 1)
  rw [eb_is] at h2
  have h3 : pw a eb 1 = 1 := by
    have : ∀ a : Fin 9, 1 ≤ a.val → pw a.val eb 1 = 1 := by decide +kernel
    exact this ⟨a, by omega⟩ h1
  rw [h3] at h2
  exact h2.symm
/-- the inverse that the program takes -/
theorem inv_small {d : Int} (h0 : d ≠ 0) (h1 : -8 ≤ d) (h2 : d ≤ 8) : E (d * d ^ 2147483645) 1 := by
  rw [Int.mul_comm, ← Int.pow_succ]
  by_cases hd : 0 ≤ d
  · obtain ⟨a, rfl⟩ := Int.eq_ofNat_of_zero_le hd
    exact fermat a (by omega) (by omega)
  · obtain ⟨a, ha⟩ := Int.eq_ofNat_of_zero_le (show 0 ≤ -d by omega)
    have e : d = -(a : Int) := by omega
    have e2 : d ^ 2147483646 = (a : Int) ^ 2147483646 := by
      rw [show (2147483646 : Nat) = 2 * 1073741823 by rfl, Int.pow_mul, Int.pow_mul, e]
      congr 1
      rw [Int.pow_succ, Int.pow_succ, Int.pow_zero, Int.pow_succ, Int.pow_succ, Int.pow_zero]
      grind
    show E (d ^ 2147483646) 1
    rw [e2]
    exact fermat a (by omega) (by omega)
end Mp
end
section
namespace Mp
/-! ### polynomials: lists of coefficients, the least power first -/
def ev : List Int → Int → Int
  | [], _ => 0
  | a :: c, x => a + x * ev c x
/-- what the program reckons, with remainders -/
def worth (c : List Int) (x : Int) : Int := c.foldr (fun a acc => (acc * x + a) % 2147483647) 0
/-- one step of a product with X - x, b ahead -/
def less (x : Int) : Int → List Int → List Int
  | b, [] => [b % 2147483647]
  | b, a :: c => (b - x * a) % 2147483647 :: less x a c
theorem less_len (x : Int) : ∀ (c : List Int) (b : Int), (less x b c).length = c.length + 1
  | [], _ => rfl
  | a :: c, b => by simp [less, less_len x c a]
theorem less_ev (x t : Int) : ∀ (c : List Int) (b : Int), E (ev (less x b c) t) (b + (t - x) * ev c t)
  | [], b => by
    show E (b % 2147483647 + t * 0) (b + (t - x) * 0)
    exact ((E.mod b).add (E.refl _)).trans (E.of (by grind))
  | a :: c, b => by
    show E ((b - x * a) % 2147483647 + t * ev (less x a c) t) (b + (t - x) * (a + t * ev c t))
    refine ((E.mod _).add ((E.refl t).mul (less_ev x t c a))).trans (E.of (by grind))
/-- a sum of two of as many coefficients, the second times k -/
def addk (k : Int) : List Int → List Int → List Int
  | a :: c, b :: d => (a + k * b) % 2147483647 :: addk k c d
  | _, _ => []
theorem addk_len (k : Int) : ∀ (c d : List Int), c.length = d.length → (addk k c d).length = c.length
  | [], [], _ => rfl
  | a :: c, b :: d, h => by simp [addk, addk_len k c d (by simpa using h)]
  | [], _ :: _, h => by simp at h
  | _ :: _, [], h => by simp at h
theorem addk_ev (k t : Int) : ∀ (c d : List Int), c.length = d.length → E (ev (addk k c d) t) (ev c t + k * ev d t)
  | [], [], _ => by show E 0 (0 + k * 0); exact E.of (by grind)
  | a :: c, b :: d, h => by
    show E ((a + k * b) % 2147483647 + t * ev (addk k c d) t) (a + t * ev c t + k * (b + t * ev d t))
    exact ((E.mod _).add ((E.refl t).mul (addk_ev k t c d (by simpa using h)))).trans (E.of (by grind))
  | [], _ :: _, h => by simp at h
  | _ :: _, [], h => by simp at h
/-! ### as many roots as coefficients: all are 0 -/
def zeros (c : List Int) : Prop := ∀ a ∈ c, E a 0
/-- division by X - x -/
def quo (x : Int) : List Int → List Int
  | [] => []
  | [_] => []
  | _ :: b :: c => ev (b :: c) x :: quo x (b :: c)
theorem quo_len (x : Int) : ∀ c : List Int, (quo x c).length = c.length - 1
  | [] => rfl
  | [_] => rfl
  | _ :: b :: c => by simp [quo, quo_len x (b :: c)]
theorem quo_ev (x t : Int) : ∀ c : List Int, ev c t = ev c x + (t - x) * ev (quo x c) t
  | [] => by show (0 : Int) = 0 + (t - x) * 0; grind
  | [a] => by show a + t * 0 = a + x * 0 + (t - x) * 0; grind
  | a :: b :: c => by
    have ih := quo_ev x t (b :: c)
    show a + t * ev (b :: c) t = a + x * ev (b :: c) x + (t - x) * (ev (b :: c) x + t * ev (quo x (b :: c)) t)
    rw [ih]
    grind
theorem quo_zeros (x : Int) : ∀ c : List Int, zeros (quo x c) → E (ev c x) 0 → zeros c
  | [], _, _ => fun a h => by simp at h
  | [a], _, h => fun b hb => by
    simp at hb; subst hb
    have : ev [b] x = b := by show b + x * 0 = b; grind
    rw [this] at h; exact h
  | a :: b :: c, hz, h => by
    have h1 : E (ev (b :: c) x) 0 := hz _ (by simp [quo])
    have h2 := quo_zeros x (b :: c) (fun z hz' => hz z (by simp [quo, hz'])) h1
    intro z hm
    rcases List.mem_cons.mp hm with e | hm
    · subst e
      have h3 : E (z + x * ev (b :: c) x) 0 := h
      have h4 : E (x * ev (b :: c) x) (x * 0) := (E.refl x).mul h1
      have h5 := h3.sub h4
      have e1 : z + x * ev (b :: c) x - x * ev (b :: c) x = z := by grind
      have e2 : (0 : Int) - x * 0 = 0 := by grind
      rw [e1, e2] at h5
      exact h5
    · exact h2 z hm
/-- numbers that differ by what has an inverse -/
def Apart : List Int → Prop
  | [] => True
  | x :: xs => (∀ y ∈ xs, Inv (y - x)) ∧ Apart xs
theorem roots : ∀ (xs c : List Int), Apart xs → c.length ≤ xs.length → (∀ x ∈ xs, E (ev c x) 0) → zeros c
  | [], c, _, hl, _ => by
    have : c = [] := List.length_eq_zero_iff.mp (by simpa using hl)
    subst this
    intro a h; simp at h
  | x :: xs, c, ha, hl, hr => by
    have h0 := hr x (by simp)
    refine quo_zeros x c (roots xs (quo x c) ha.2 (by rw [quo_len]; simp at hl; omega) fun y hy => ?_) h0
    have h1 := hr y (by simp [hy])
    rw [quo_ev x y c] at h1
    have h2 := h1.sub h0
    have e1 : ev c x + (y - x) * ev (quo x c) y - ev c x = (y - x) * ev (quo x c) y := by grind
    have e2 : (0 : Int) - 0 = 0 := by decide
    rw [e1, e2] at h2
    exact (ha.1 y hy).cancel h2
/-- the differences of coefficients, and of worths -/
def dif : List Int → List Int → List Int
  | a :: c, b :: d => (a - b) :: dif c d
  | c, [] => c
  | [], d => d.map (fun b => -b)
theorem ev_neg (t : Int) : ∀ d : List Int, ev (d.map fun b => -b) t = -ev d t
  | [] => by show (0 : Int) = -0; decide
  | b :: d => by
    show -b + t * ev (d.map fun b => -b) t = -(b + t * ev d t)
    rw [ev_neg t d]; grind
theorem dif_ev (t : Int) : ∀ c d : List Int, ev (dif c d) t = ev c t - ev d t
  | [], [] => by show (0 : Int) = 0 - 0; decide
  | a :: c, [] => by show a + t * ev c t = a + t * ev c t - 0; grind
  | [], b :: d => by
    show ev ((b :: d).map fun b => -b) t = 0 - ev (b :: d) t
    rw [ev_neg]; grind
  | a :: c, b :: d => by
    show a - b + t * ev (dif c d) t = a + t * ev c t - (b + t * ev d t)
    rw [dif_ev t c d]; grind
theorem dif_len : ∀ c d : List Int, (dif c d).length = max c.length d.length
  | [], [] => rfl
  | _ :: _, [] => by simp [dif]
  | [], _ :: _ => by simp [dif]
  | a :: c, b :: d => by simp [dif, dif_len c d]
/-- two polynomials of few coefficients, alike at as many places: alike at every place, and in their first coefficients -/
theorem same {xs c d : List Int} (ha : Apart xs) (hc : c.length ≤ xs.length) (hd : d.length ≤ xs.length) (h : ∀ x ∈ xs, E (ev c x) (ev d x)) (t : Int) : E (ev c t) (ev d t) := by
  have hz := roots xs (dif c d) ha (by rw [dif_len]; omega) fun x hx => by
    rw [dif_ev]
    have := (h x hx).sub (E.refl (ev d x))
    have e : ev d x - ev d x = 0 := by omega
    rw [e] at this
    exact this
  have : ∀ l : List Int, zeros l → E (ev l t) 0 := fun l => by
    induction l with
    | nil => intro _; exact E.refl 0
    | cons a l ih =>
      intro hl
      have h1 := hl a (by simp)
      have h2 := ih fun b hb => hl b (by simp [hb])
      have h3 := h1.add ((E.refl t).mul h2)
      have e : (0 : Int) + t * 0 = 0 := by grind
      rw [e] at h3
      exact h3
  have h1 := this _ hz
  rw [dif_ev] at h1
  have h2 := h1.add (E.refl (ev d t))
  have e1 : ev c t - ev d t + ev d t = ev c t := by omega
  have e2 : (0 : Int) + ev d t = ev d t := by omega
  rw [e1, e2] at h2
  exact h2
end Mp
end
section
namespace Mp
/-! ### the polynomial through points -/
def backI (a : Int) : Int := a ^ 2147483645 % 2147483647
abbrev Pts := List (Int × Int)
def ownStep (x : Int) (o : List Int × Int) (q : Int × Int) : List Int × Int := if q.1 ≠ x then (less q.1 0 o.1, o.2 * (x - q.1) % 2147483647) else o
def own (pts : Pts) (x : Int) : List Int × Int := pts.foldl (ownStep x) ([1], 1)
def part (pts : Pts) (q : Int × Int) : Int := q.2 * backI (own pts q.1).2 % 2147483647
def thru (pts : Pts) : List Int := pts.foldl (fun f q => addk (part pts q) f (own pts q.1).1) (List.replicate pts.length 0)
/-- a number times its back is 1 -/
def Good (s : Int) : Prop := E (s * s ^ 2147483645) 1
theorem Good.one : Good 1 := by unfold Good; rw [Int.one_pow]; exact E.of (by decide)
theorem Good.mul {a b : Int} (h : Good a) (k : Good b) : Good (a * b) := by
  unfold Good at *
  rw [Int.mul_pow]
  exact (E.of (by grind : a * b * (a ^ 2147483645 * b ^ 2147483645) = a * a ^ 2147483645 * (b * b ^ 2147483645))).trans ((h.mul k).trans (E.of (by decide)))
theorem Good.mod {a : Int} (h : Good a) : Good (a % 2147483647) := by
  unfold Good at *
  exact ((E.mod a).mul ((E.mod a).pow _)).trans h
theorem Good.inv {a : Int} (h : Good a) : Inv a := ⟨_, h⟩
/-- what one's own polynomial is -/
theorem own_facts (x : Int) : ∀ (pts : Pts) (o : List Int × Int), E o.2 (ev o.1 x) → Good o.2 → (∀ q ∈ pts, q.1 ≠ x → Good (x - q.1)) →
    E (pts.foldl (ownStep x) o).2 (ev (pts.foldl (ownStep x) o).1 x) ∧ Good (pts.foldl (ownStep x) o).2 ∧
    (pts.foldl (ownStep x) o).1.length = o.1.length + pts.countP (fun q => decide (q.1 ≠ x)) ∧
    ∀ t, (∃ q ∈ pts, q.1 ≠ x ∧ q.1 = t) ∨ E (ev o.1 t) 0 → E (ev (pts.foldl (ownStep x) o).1 t) 0
  | [], o, h1, h2, h3 => ⟨h1, h2, by simp, fun t ht => ht.elim (fun ⟨q, hq, _⟩ => by simp at hq) id⟩
  | q :: pts, o, h1, h2, h3 => by
    by_cases hq : q.1 = x
    · have e : ownStep x o q = o := by unfold ownStep; rw [if_neg (by simpa using hq)]
      obtain ⟨a1, a2, a3, a4⟩ := own_facts x pts o h1 h2 fun r hr => h3 r (by simp [hr])
      rw [List.foldl_cons, e]
      refine ⟨a1, a2, ?_, fun t ht => a4 t ?_⟩
      · rw [a3, List.countP_cons]; simp [hq]
      · rcases ht with ⟨r, hr, hr2⟩ | ht
        · rcases List.mem_cons.mp hr with e2 | hr
          · subst e2; exact absurd hq hr2.1
          · exact .inl ⟨r, hr, hr2⟩
        · exact .inr ht
    · have e : ownStep x o q = (less q.1 0 o.1, o.2 * (x - q.1) % 2147483647) := by unfold ownStep; rw [if_pos hq]
      have b1 : ∀ t, E (ev (less q.1 0 o.1) t) ((t - q.1) * ev o.1 t) := fun t => (less_ev q.1 t o.1 0).trans (E.of (by omega))
      obtain ⟨a1, a2, a3, a4⟩ := own_facts x pts (less q.1 0 o.1, o.2 * (x - q.1) % 2147483647)
        ((E.mod _).trans ((h1.mul (E.refl _)).trans ((E.of (by grind)).trans (b1 x).symm))) ((h2.mul (h3 q (by simp) hq)).mod) fun r hr => h3 r (by simp [hr])
      rw [List.foldl_cons, e]
      refine ⟨a1, a2, ?_, fun t ht => a4 t ?_⟩
      · rw [a3, less_len, List.countP_cons]; simp [hq]; omega
      · rcases ht with ⟨r, hr, hr2⟩ | ht
        · rcases List.mem_cons.mp hr with e2 | hr
          · subst e2
            refine .inr ((b1 t).trans (E.of ?_))
            rw [hr2.2]; grind
          · exact .inl ⟨r, hr, hr2⟩
        · refine .inr ((b1 t).trans (((E.refl (t - q.1)).mul ht).trans (E.of (by grind))))
/-- points of unlike keepers, whose differences are good -/
structure Fine (pts : Pts) : Prop where
  nd : (pts.map (·.1)).Nodup
  good : ∀ q ∈ pts, ∀ r ∈ pts, r.1 ≠ q.1 → Good (q.1 - r.1)
theorem count_others {x : Int} : ∀ {pts : Pts}, (pts.map (·.1)).Nodup → (∃ q ∈ pts, q.1 = x) → pts.countP (fun q => decide (q.1 ≠ x)) + 1 = pts.length
  | [], _, h => by obtain ⟨q, hq, _⟩ := h; simp at hq
  | q :: pts, nd, h => by
    rw [List.map_cons, List.nodup_cons] at nd
    rw [List.countP_cons]
    by_cases e : q.1 = x
    · have : pts.countP (fun q => decide (q.1 ≠ x)) = pts.length := by
        rw [List.countP_eq_length]
        intro r hr
        simp only [decide_eq_true_eq]
        intro e2
        exact nd.1 (List.mem_map.mpr ⟨r, hr, e2.trans e.symm⟩)
      rw [this, if_neg (by simp [e]), List.length_cons]
    · obtain ⟨r, hr, hr2⟩ := h
      rcases List.mem_cons.mp hr with e2 | hr
      · subst e2; exact absurd hr2 e
      · have := count_others nd.2 ⟨r, hr, hr2⟩
        rw [if_pos (by simpa using e), List.length_cons]; omega
theorem own_of {pts : Pts} (f : Fine pts) {q : Int × Int} (hq : q ∈ pts) :
    E (own pts q.1).2 (ev (own pts q.1).1 q.1) ∧ Good (own pts q.1).2 ∧ (own pts q.1).1.length = pts.length ∧ ∀ r ∈ pts, r.1 ≠ q.1 → E (ev (own pts q.1).1 r.1) 0 := by
  obtain ⟨a1, a2, a3, a4⟩ := own_facts q.1 pts ([1], 1) (E.of (by show (1 : Int) = 1 + q.1 * 0; grind)) Good.one fun r hr hn => f.good q hq r hr hn
  refine ⟨a1, a2, ?_, fun r hr hn => a4 r.1 (.inl ⟨r, hr, hn, rfl⟩)⟩
  have := count_others f.nd ⟨q, hq, rfl⟩
  show (pts.foldl (ownStep q.1) ([1], 1)).1.length = _
  rw [a3]
  show 1 + _ = _
  omega
/-- the sum of the parts at a place -/
def sumAt (pts : Pts) (t : Int) : Pts → Int
  | [] => 0
  | q :: l => part pts q * ev (own pts q.1).1 t + sumAt pts t l
theorem fold_ev (pts : Pts) (t : Int) : ∀ (l : Pts) (f : List Int), (∀ q ∈ l, (own pts q.1).1.length = f.length) → E (ev (l.foldl (fun f q => addk (part pts q) f (own pts q.1).1) f) t) (ev f t + sumAt pts t l) ∧
      (l.foldl (fun f q => addk (part pts q) f (own pts q.1).1) f).length = f.length
  | [], f, _ => ⟨E.of (by show ev f t = ev f t + 0; omega), rfl⟩
  | q :: l, f, h => by
    have hq := h q (by simp)
    have l1 := addk_len (part pts q) f _ hq.symm
    obtain ⟨h1, h2⟩ := fold_ev pts t l (addk (part pts q) f (own pts q.1).1) fun r hr => by rw [l1]; exact h r (by simp [hr])
    rw [List.foldl_cons]
    refine ⟨h1.trans (((addk_ev _ t f _ hq.symm).add (E.refl _)).trans (E.of ?_)), h2.trans l1⟩
    show _ = ev f t + (part pts q * ev (own pts q.1).1 t + sumAt pts t l)
    grind
theorem thru_len {pts : Pts} (f : Fine pts) : (thru pts).length = pts.length := by
  have := (fold_ev pts 0 pts (List.replicate pts.length 0) fun q hq => by rw [(own_of f hq).2.2.1]; simp).2
  unfold thru
  rw [this]; simp
theorem Fine.apart : ∀ {pts : Pts}, Fine pts → Apart (pts.map (·.1))
  | [], _ => trivial
  | q :: pts, f => by
    have nd := f.nd
    rw [List.map_cons, List.nodup_cons] at nd
    refine ⟨fun y hy => ?_, Fine.apart ⟨nd.2, fun a ha b hb => f.good a (by simp [ha]) b (by simp [hb])⟩⟩
    obtain ⟨r, hr, rfl⟩ := List.mem_map.mp hy
    exact (f.good r (by simp [hr]) q (by simp) fun e => nd.1 (by rw [e]; exact List.mem_map.mpr ⟨r, hr, rfl⟩)).inv
/-- keepers 1 to 9 -/
theorem fine_of {pts : Pts} (nd : (pts.map (·.1)).Nodup) (h : ∀ q ∈ pts, 1 ≤ q.1 ∧ q.1 ≤ 9) : Fine pts :=
  ⟨nd, fun q hq r hr hn => inv_small (by omega) (by have := h q hq; have := h r hr; omega) (by have := h q hq; have := h r hr; omega)⟩
/-- all coefficients are remainders -/
theorem addk_low (k : Int) : ∀ (c d : List Int), ∀ a ∈ addk k c d, 0 ≤ a ∧ a < 2147483647
  | [], _, a, h => by simp [addk] at h
  | _ :: _, [], a, h => by simp [addk] at h
  | x :: c, y :: d, a, h => by
    rcases List.mem_cons.mp (show a ∈ (x + k * y) % 2147483647 :: addk k c d from h) with e | h
    · subst e; exact mod_lt _
    · exact addk_low k c d a h
end Mp
end
section
/-! Keepers' numbers: what the program's defs reckon. -/
namespace DL
open PySem L2 Mp
variable [DL.Nm]
variable {S : Store}
/-- a for that folds -/
theorem forD_fold {α β : Type} {b : D → EnvD → Option EnvD} {body : SM} (f : α → D) (g : β → α → β) (R : β → EnvD → Prop) : ∀ (l : List α) (s0 : β) (e0 : EnvD), R s0 e0 →
    (∀ a ∈ l, ∀ s e, R s e → ∃ e1 e2, b (f a) e = some e1 ∧ body e1 S = .nx e2 S ∧ R (g s a) e2) → ∃ e', forD b body (l.map f) e0 S = .nx e' S ∧ R (l.foldl g s0) e'
  | [], s0, e0, h0, _ => ⟨e0, rfl, h0⟩
  | a :: l, s0, e0, h0, st => by
    obtain ⟨e1, e2, h1, h2, h3⟩ := st a (by simp) s0 e0 h0
    obtain ⟨e', h4, h5⟩ := forD_fold f g R l (g s0 a) e2 h3 fun c hc => st c (by simp [hc])
    refine ⟨e', ?_, h5⟩
    rw [List.map_cons, forD_cons, h1]
    dsimp only
    rw [h2]
    exact h4
theorem whole_ok (i : Int) : d_is_whole [.int i] S = .ok (.bl true) S := by simp [d_is_whole, g_is_whole, Ty.isa]
theorem between_ok (i a b : Int) : d_is_between [.int i, .int a, .int b] S = .ok (.bl (decide (a ≤ i ∧ i ≤ b))) S := by
  by_cases h1 : a ≤ i <;> by_cases h2 : i ≤ b <;> simp [d_is_between, g_is_between, whole_ok, h1, h2]
theorem low_ok {i : Int} (h0 : 0 ≤ i) (h1 : i < 2147483647) : d_is_low [.int i] S = .ok (.bl true) S := by
  have h2 : i ≤ 2147483646 := by omega
  simp [d_is_low, g_is_low, between_ok, h0, h2]
theorem arelow_ok {ns : List Int} (h : ∀ a ∈ ns, 0 ≤ a ∧ a < 2147483647) (hl : ns.length ≤ 1000) : d_are_low [.tup (ns.map .int)] S = .ok (.bl true) S := by
  have e := lcD_map (S := S) (b := bName 1) (elt := g_are_low_e1) (env := [some (.tup (ns.map .int)), none]) (fun _ => .bl true) (ns.map .int) (fun d hd => by
    obtain ⟨a, ha, rfl⟩ := List.mem_map.mp hd
    exact ⟨_, rfl, by simp [g_are_low_e1, low_ok (h a ha).1 (h a ha).2]⟩) (by simp; omega)
  have e2 : (ns.map D.int).map (fun _ => D.bl true) = (ns.map fun _ => true).map D.bl := by simp
  rw [e2] at e
  simp [d_are_low, g_are_low, Ty.isa, e, -List.map_map, -List.map_const']
theorem worthAt_ok (ns : List Int) {x : Int} (hx : x.natAbs < 18446744073709551616) (hl : ns.length ≤ 1000) : d_worth_at [.tup (ns.map .int), .int x] S = .ok (.int (worth ns x)) S := by
  obtain ⟨e', h1, k, rfl⟩ := forD_fold (S := S) (b := bName 3) (body := g_worth_at_b1) D.int (fun s a => (s * x + a) % 2147483647) (fun s e => ∃ k, e = [some (.tup (ns.map .int)), some (.int x), some (.int s), k]) ns.reverse 0 [some (.tup (ns.map .int)), some (.int x), some (.int 0), none] ⟨_, rfl⟩ (by
    rintro a ha s e ⟨k, rfl⟩
    refine ⟨_, [some (.tup (ns.map .int)), some (.int x), some (.int ((s * x + a) % 2147483647)), some (.int a)], rfl, ?_, _, rfl⟩
    simp [g_worth_at_b1, hx])
  have e : worth ns x = ns.reverse.foldl (fun s a => (s * x + a) % 2147483647) 0 := by rw [worth, List.foldl_reverse]
  rw [List.map_reverse] at h1
  simp [d_worth_at, g_worth_at, h1, e]
theorem back_loop (A : Option D) : ∀ (n m : Nat) (f s : Int), n < m → 0 ≤ f → f < 2147483647 → 0 ≤ s → s < 2147483647 → ∃ r u : Int, 0 ≤ r ∧ r < 2147483647 ∧ E r (f * s ^ n) ∧
    whileD g_back_of_c1 g_back_of_b1 m [A, some (.int f), some (.int s), some (.int (n : Nat))] S = .nx [A, some (.int r), some (.int u), some (.int 0)] S := by
  intro n
  induction n using Nat.strongRecOn with
  | ind n ih =>
    intro m f s hm f0 f1 s0 s1
    obtain ⟨m, rfl⟩ : ∃ k, m = k + 1 := ⟨m - 1, by omega⟩
    by_cases hn : n = 0
    · subst hn
      refine ⟨f, s, f0, f1, E.of (by rw [Int.pow_zero, Int.mul_one]), ?_⟩
      rw [whileD_succ]
      simp [g_back_of_c1]
    · have hpos : (0 : Int) < (n : Int) := by omega
      have q2 := mod_lt (s * s)
      have ec : g_back_of_c1 [A, some (.int f), some (.int s), some (.int (n : Nat))] S = .ok (.bl true) S := by simp [g_back_of_c1]; omega
      have es : s.natAbs < 18446744073709551616 := by omega
      have efn : f.natAbs < 18446744073709551616 := by omega
      by_cases ho : n % 2 = 1
      · have q1 := mod_lt (f * s)
        obtain ⟨r, u, r0, r1, r2, r3⟩ := ih (n / 2) (by omega) m (f * s % 2147483647) (s * s % 2147483647) (by omega) q1.1 q1.2 q2.1 q2.2
        refine ⟨r, u, r0, r1, r2.trans ?_, ?_⟩
        · have e1 : s ^ n = s * (s * s) ^ (n / 2) := by
            have : n = 2 * (n / 2) + 1 := by omega
            conv => lhs; rw [this]
            rw [Int.pow_succ, Int.pow_mul, show s ^ 2 = s * s by rw [Int.pow_succ, Int.pow_succ, Int.pow_zero]; grind]
            grind
          rw [e1]
          exact ((E.mod _).mul ((E.mod _).pow _)).trans (E.of (by grind))
        · rw [whileD_succ, ec]
          dsimp only
          have ho2 : (n : Int) % 2 = 1 := by omega
          have eb : g_back_of_b1 [A, some (.int f), some (.int s), some (.int (n : Nat))] S = .nx [A, some (.int (f * s % 2147483647)), some (.int (s * s % 2147483647)), some (.int ((n / 2 : Nat) : Int))] S := by
            have d2 : divOk (2 : Int) := divOk_s (by decide) (by decide)
            simp [g_back_of_b1, ho2, es, efn, d2]
          rw [eb]
          exact r3
      · obtain ⟨r, u, r0, r1, r2, r3⟩ := ih (n / 2) (by omega) m f (s * s % 2147483647) (by omega) f0 f1 q2.1 q2.2
        refine ⟨r, u, r0, r1, r2.trans ?_, ?_⟩
        · have e1 : s ^ n = (s * s) ^ (n / 2) := by
            have : n = 2 * (n / 2) := by omega
            conv => lhs; rw [this]
            rw [Int.pow_mul, show s ^ 2 = s * s by rw [Int.pow_succ, Int.pow_succ, Int.pow_zero]; grind]
          rw [e1]
          exact (E.refl f).mul ((E.mod _).pow _)
        · rw [whileD_succ, ec]
          dsimp only
          have ho2 : ¬ (n : Int) % 2 = 1 := by omega
          have eb : g_back_of_b1 [A, some (.int f), some (.int s), some (.int (n : Nat))] S = .nx [A, some (.int f), some (.int (s * s % 2147483647)), some (.int ((n / 2 : Nat) : Int))] S := by
            have d2 : divOk (2 : Int) := divOk_s (by decide) (by decide)
            simp [g_back_of_b1, ho2, es, d2]
          rw [eb]
          exact r3
theorem back_ok (a : Int) : d_back_of [.int a] S = .ok (.int (backI a)) S := by
  have q := mod_lt a
  obtain ⟨r, u, r0, r1, r2, r3⟩ := back_loop (S := S) (some (.int a)) 2147483645 bigN 1 (a % 2147483647) (by decide) (by decide) (by decide) q.1 q.2
  have q2 := mod_lt (a ^ 2147483645)
  have e : r = backI a := E.eq (r2.trans (((E.refl 1).mul ((E.mod a).pow _)).trans ((E.of (Int.one_mul _)).trans (E.mod _).symm))) r0 r1 q2.1 q2.2
  have h : whileD g_back_of_c1 g_back_of_b1 bigN [some (.int a), some (.int 1), some (.int (a % 2147483647)), some (.int 2147483645)] S = _ := r3
  simp [d_back_of, g_back_of, h, e]
end DL
end
section
namespace DL
open PySem L2 Mp
variable [DL.Nm]
variable {S : Store}
/-- a comprehension without a test, its parts leave the store -/
theorem lcD_acc {α : Type} {b : D → EnvD → Option EnvD} {elt : EM} {env : EnvD} (h f : α → D) : ∀ (l : List α) (acc : List D), (∀ a ∈ l, ∃ e1, b (h a) env = some e1 ∧ elt e1 S = .ok (f a) S) → acc.length + l.length ≤ 16777216 →
    lcD b eYes elt env acc (l.map h) S = .ok (acc ++ l.map f) S
  | [], acc, _, _ => by simp
  | a :: l, acc, st, hl => by
    obtain ⟨e1, h1, h2⟩ := st a (by simp)
    have hl' : acc.length + (l.length + 1) ≤ 16777216 := hl
    rw [List.map_cons]
    unfold lcD
    rw [h1]
    dsimp only [eYes]
    rw [h2]
    dsimp only
    rw [if_pos (show sz (acc.length + 1) by unfold sz; omega), lcD_acc h f l _ (fun c hc => st c (by simp [hc])) (by simp; omega)]
    simp
theorem lcD_of {α : Type} {b : D → EnvD → Option EnvD} {elt : EM} {env : EnvD} (h f : α → D) (l : List α) (st : ∀ a ∈ l, ∃ e1, b (h a) env = some e1 ∧ elt e1 S = .ok (f a) S) (hl : l.length ≤ 1000000) :
    lcD b eYes elt env [] (l.map h) S = .ok (l.map f) S := by
  rw [lcD_acc h f l [] st (by simp; omega), List.nil_append]
theorem scD_of {α : Type} {b : D → EnvD → Option EnvD} {elt : EM} {env : EnvD} (h : α → D) (f : α → D) (k : α → Key) : ∀ (l : List α) (acc : List Key), (∀ a ∈ l, ∃ e1, b (h a) env = some e1 ∧ elt e1 S = .ok (f a) S ∧ keyD (f a) = some (k a)) → acc.length + l.length ≤ 3000 →
    scD b eYes elt env acc (l.map h) S = some (acc ++ l.map k, S)
  | [], acc, _, _ => by simp [scD]
  | a :: l, acc, st, hl => by
    obtain ⟨e1, h1, h2, h3⟩ := st a (by simp)
    have hl' : acc.length + (l.length + 1) ≤ 3000 := hl
    rw [List.map_cons]
    unfold scD
    rw [h1]
    dsimp only [eYes]
    rw [h2]
    dsimp only
    rw [h3]
    dsimp only
    rw [if_pos (few_is (by omega)), scD_of h f k l _ (fun c hc => st c (by simp [hc])) (by simp; omega)]
    simp
theorem exit_lints {S0 T : Store} {ns : List Int} : exitD .pure S0 (.lst (ns.map .int)) (S0 ++ T) = .ok (.lst (ns.map .int)) S0 :=
  exit_of (by simp [frzD, frz_ints]) (by simp)
theorem exit_lints0 {S0 : Store} {ns : List Int} : exitD .pure S0 (.lst (ns.map .int)) S0 = .ok (.lst (ns.map .int)) S0 := by
  have := exit_lints (S0 := S0) (T := []) (ns := ns)
  simpa using this
theorem exit_tints0 {S0 : Store} {ns : List Int} : exitD .pure S0 (.tup (ns.map .int)) S0 = .ok (.tup (ns.map .int)) S0 := exit_of (by simp [frzD, frz_ints]) (by simp)
/-- pairs of whole numbers -/
def prD (q : Int × Int) : D := .tup [.int q.1, .int q.2]
theorem zipD_ints : ∀ as bs : List Int, zipD (as.map .int) (bs.map .int) = (as.zip bs).map prD
  | [], _ => by simp [zipD]
  | _ :: _, [] => by simp [zipD]
  | a :: as, b :: bs => by
    show D.tup [.int a, .int b] :: zipD (as.map .int) (bs.map .int) = _
    rw [zipD_ints as bs]; rfl
theorem less_zip (x : Int) : ∀ (c : List Int) (b : Int), less x b c = (List.zip (b :: c) (c ++ [0])).map fun q => (q.1 - x * q.2) % 2147483647
  | [], b => by simp [less]
  | a :: c, b => by simp [less, less_zip x c a]
theorem addk_zip (k : Int) : ∀ (c d : List Int), addk k c d = (List.zip c d).map fun q => (q.1 + k * q.2) % 2147483647
  | [], _ => by simp [addk]
  | _ :: _, [] => by simp [addk]
  | a :: c, b :: d => by simp [addk, addk_zip k c d]
theorem timesLess_ok {c : List Int} {x : Int} (hx : x.natAbs < 18446744073709551616) (hl : c.length ≤ 1000) : d_times_less [.lst (c.map .int), .int x] S = .ok (.lst ((less x 0 c).map .int)) S := by
  have e := lcD_of (S := S) (b := bTup (bCons (bName 3) (bCons (bName 4) bNil))) (elt := g_times_less_e1) (env := [some (.lst (c.map .int)), some (.int x), some (.lst ((0 :: c).map .int)), none, none]) prD (fun q => .int ((q.1 - x * q.2) % 2147483647)) (List.zip (0 :: c) (c ++ [0])) (fun q _ => ⟨_, rfl, by
    simp [g_times_less_e1, hx]⟩) (by simp; omega)
  rw [← zipD_ints] at e
  have e2 : (List.zip (0 :: c) (c ++ [0])).map (fun q : Int × Int => D.int ((q.1 - x * q.2) % 2147483647)) = (less x 0 c).map .int := by rw [less_zip, List.map_map]; rfl
  rw [e2] at e
  have z1 : sz (1 + c.length) := sz_is (by omega)
  have z2 : sz (c.length + 1) := sz_is (by omega)
  simp only [List.map_cons, List.map_append, List.map_nil] at e
  simp [d_times_less, g_times_less, z1, z2, e, exit_lints0]
/-- points, a list or a tuple -/
def PtsD (pts : Pts) (pd : D) : Prop := pd = .lst (pts.map prD) ∨ pd = .tup (pts.map prD)
theorem PtsD.seq {pts : Pts} {pd : D} (h : PtsD pts pd) {env : EnvD} {f : EM} (hf : f env S = .ok pd S) : iSeq f env S = .ok (pts.map prD) S := by
  rcases h with rfl | rfl <;> simp [hf]
theorem PtsD.len {pts : Pts} {pd : D} (h : PtsD pts pd) : bLenX [pd] S = .ok (.int pts.length) S := by
  rcases h with rfl | rfl <;> simp
/-- points that may be told -/
structure Sane (pts : Pts) : Prop where
  x : ∀ q ∈ pts, 1 ≤ q.1 ∧ q.1 ≤ 9
  v : ∀ q ∈ pts, 0 ≤ q.2 ∧ q.2 < 2147483647
  len : pts.length ≤ 100
/-- the inner loop -/
theorem through_in {pts all : Pts} {pd : D} {F : List Int} {x v : Int} {k8 k9 : Option D} (s : Sane all) (hp : ∀ q ∈ pts, q ∈ all) (hx : 1 ≤ x ∧ x ≤ 9) : ∀ (o : List Int × Int) (k6 k7 : Option D), 0 ≤ o.2 → o.2 < 2147483647 → o.1.length + pts.length ≤ 900 →
    ∃ k6' k7', forD (bTup (bCons (bName 6) (bCons (bName 7) bNil))) g_through_b1 (pts.map prD) [some pd, some (.lst (F.map .int)), some (.int x), some (.int v), some (.lst (o.1.map .int)), some (.int o.2), k6, k7, k8, k9] S =
      .nx [some pd, some (.lst (F.map .int)), some (.int x), some (.int v), some (.lst ((pts.foldl (ownStep x) o).1.map .int)), some (.int (pts.foldl (ownStep x) o).2), k6', k7', k8, k9] S := by
  induction pts with
  | nil => intro o k6 k7 _ _ _; exact ⟨k6, k7, rfl⟩
  | cons q pts ih =>
    intro o k6 k7 h0 h1 hl
    rw [List.map_cons, forD_cons]
    have hl' : o.1.length + (pts.length + 1) ≤ 900 := hl
    have hq := s.x q (hp q (by simp))
    by_cases e : q.1 = x
    · have e1 : ownStep x o q = o := by unfold ownStep; rw [if_neg (by simpa using e)]
      obtain ⟨a, c, h⟩ := ih (fun r hr => hp r (by simp [hr])) o (some (.int q.1)) (some (.int q.2)) h0 h1 (by omega)
      refine ⟨a, c, ?_⟩
      rw [List.foldl_cons, e1, ← h]
      simp [prD, g_through_b1, e]
    · have e1 : ownStep x o q = (less q.1 0 o.1, o.2 * (x - q.1) % 2147483647) := by unfold ownStep; rw [if_pos e]
      have m := mod_lt (o.2 * (x - q.1))
      obtain ⟨a, c, h⟩ := ih (fun r hr => hp r (by simp [hr])) (less q.1 0 o.1, o.2 * (x - q.1) % 2147483647) (some (.int q.1)) (some (.int q.2)) m.1 m.2 (by rw [less_len]; omega)
      refine ⟨a, c, ?_⟩
      rw [List.foldl_cons, e1, ← h]
      have t := timesLess_ok (S := S) (c := o.1) (x := q.1) (by omega) (by omega)
      have n1 : (o.2).natAbs < 18446744073709551616 := by omega
      simp [prD, g_through_b1, e, t, n1]
end DL
end
section
namespace DL
open PySem L2 Mp
variable [DL.Nm]
variable {S : Store}
theorem part_lt (pts : Pts) (q : Int × Int) : 0 ≤ part pts q ∧ part pts q < 2147483647 := mod_lt _
theorem addk_le (k : Int) (c d : List Int) : (addk k c d).length ≤ c.length := by rw [addk_zip]; simp; omega
theorem own_2 {pts : Pts} {x : Int} : ∀ (l : Pts) (o : List Int × Int), 0 ≤ o.2 ∧ o.2 < 2147483647 → 0 ≤ (l.foldl (ownStep x) o).2 ∧ (l.foldl (ownStep x) o).2 < 2147483647
  | [], o, h => h
  | q :: l, o, h => by
    rw [List.foldl_cons]
    refine own_2 (pts := pts) l _ ?_
    unfold ownStep
    split
    · exact mod_lt _
    · exact h
theorem through_out {all : Pts} {pd : D} (s : Sane all) (hpd : PtsD all pd) : ∀ (pts : Pts) (F : List Int) (k2 k3 k4 k5 k6 k7 k8 k9 : Option D), (∀ q ∈ pts, q ∈ all) → F.length ≤ 100 →
    ∃ a b c d e f g h, forD (bTup (bCons (bName 2) (bCons (bName 3) bNil))) g_through_b2 (pts.map prD) [some pd, some (.lst (F.map .int)), k2, k3, k4, k5, k6, k7, k8, k9] S =
      .nx [some pd, some (.lst ((pts.foldl (fun f q => addk (part all q) f (own all q.1).1) F).map .int)), a, b, c, d, e, f, g, h] S := by
  intro pts
  induction pts with
  | nil => intro F k2 k3 k4 k5 k6 k7 k8 k9 _ _; exact ⟨_, _, _, _, _, _, _, _, rfl⟩
  | cons q pts ih =>
    intro F k2 k3 k4 k5 k6 k7 k8 k9 hp hF
    have hx := s.x q (hp q (by simp))
    have hv := s.v q (hp q (by simp))
    have hlen := s.len
    obtain ⟨r6, r7, h1⟩ := through_in (S := S) (pts := all) (pd := pd) (F := F) (v := q.2) (k8 := k8) (k9 := k9) s (fun _ h => h) hx ([1], 1) k6 k7 (by decide) (by decide) (by simp; omega)
    have hs : 0 ≤ (own all q.1).2 ∧ (own all q.1).2 < 2147483647 := own_2 (pts := all) all ([1], 1) ⟨by decide, by decide⟩
    have hpt := part_lt all q
    have lc := lcD_of (S := S) (b := bTup (bCons (bName 9) (bCons (bName 7) bNil))) (elt := g_through_e1) (env := [some pd, some (.lst (F.map .int)), some (.int q.1), some (.int q.2), some (.lst ((own all q.1).1.map .int)), some (.int (own all q.1).2), r6, none, some (.int (part all q)), none])
      prD (fun z => .int ((z.1 + part all q * z.2) % 2147483647)) (List.zip F (own all q.1).1) (fun z _ => ⟨_, rfl, by
        have n1 : (part all q).natAbs < 18446744073709551616 := by omega
        simp [g_through_e1, n1]⟩) (by simp; omega)
    rw [← zipD_ints] at lc
    have e2 : (List.zip F (own all q.1).1).map (fun z : Int × Int => D.int ((z.1 + part all q * z.2) % 2147483647)) = (addk (part all q) F (own all q.1).1).map .int := by rw [addk_zip, List.map_map]; rfl
    rw [e2] at lc
    obtain ⟨a, b, c, d, e, f, g, h, h2⟩ := ih (addk (part all q) F (own all q.1).1) (some (.int q.1)) (some (.int q.2)) (some (.lst ((own all q.1).1.map .int))) (some (.int (own all q.1).2)) r6 r7 (some (.int (part all q))) k9 (fun r hr => hp r (by simp [hr])) (Nat.le_trans (addk_le _ _ _) hF)
    refine ⟨a, b, c, d, e, f, g, h, ?_⟩
    rw [List.map_cons, forD_cons, List.foldl_cons, ← h2]
    have n2 : q.2.natAbs < 18446744073709551616 := by omega
    have h1' : forD (bTup (bCons (bName 6) (bCons (bName 7) bNil))) g_through_b1 (all.map prD) [some pd, some (.lst (F.map .int)), some (.int q.1), some (.int q.2), some (.lst [.int 1]), some (.int 1), k6, k7, k8, k9] S = _ := h1
    have es := hpd.seq (S := S) (env := [some pd, some (.lst (F.map .int)), some (.int q.1), some (.int q.2), some (.lst [.int 1]), some (.int 1), k6, k7, k8, k9]) (f := eVar 0) rfl
    have hown : all.foldl (ownStep q.1) ([1], 1) = own all q.1 := rfl
    rw [hown] at h1'
    have hpart : q.2 * backI (own all q.1).2 % 2147483647 = part all q := rfl
    rcases hpd with rfl | rfl <;> simp [prD, g_through_b2, h1', back_ok, n2, hpart, lc]
theorem thru_low (pts : Pts) (h : pts ≠ []) : ∀ a ∈ thru pts, 0 ≤ a ∧ a < 2147483647 := by
  have : ∀ (l : Pts) (F : List Int), l ≠ [] → ∀ a ∈ l.foldl (fun f q => addk (part pts q) f (own pts q.1).1) F, 0 ≤ a ∧ a < 2147483647 := by
    intro l
    induction l with
    | nil => intro F h; exact absurd rfl h
    | cons q l ih =>
      intro F _
      rw [List.foldl_cons]
      by_cases e : l = []
      · subst e; exact addk_low _ _ _
      · exact ih _ e
  exact this pts _ h
theorem through_ok {pts : Pts} {pd : D} (s : Sane pts) (hpd : PtsD pts pd) : d_through [pd] S = .ok (.lst ((thru pts).map .int)) S := by
  have hlen := s.len
  obtain ⟨a, b, c, d, e, f, g, h, h1⟩ := through_out (S := S ++ [.lst [.int 0]]) s hpd pts (List.replicate pts.length 0) none none none none none none none none (fun _ h => h) (by simp; omega)
  rw [List.map_replicate] at h1
  have el := hpd.len (S := S ++ [.lst [.int 0]])
  have w : w63 (pts.length : Int) := w63_is (by omega) (by omega)
  have z : sz pts.length := sz_is (by omega)
  rcases hpd with rfl | rfl <;> simp [d_through, g_through, w, z, h1, exit_lints] <;> rfl
theorem point_ok {q : Int × Int} (hx : 1 ≤ q.1 ∧ q.1 ≤ 9) (hv : 0 ≤ q.2 ∧ q.2 < 2147483647) : d_is_point [prD q] S = .ok (.bl true) S := by
  simp [d_is_point, g_is_point, prD, Ty.isa, between_ok, hx.1, hx.2, low_ok hv.1 hv.2]
theorem needPoints_ok {pts : Pts} {pd : D} (s : Sane pts) (hpd : PtsD pts pd) (hn : pts ≠ []) (nd : (pts.map (·.1)).Nodup) : d_need_points [pd] S = .ok .non S := by
  have hlen := s.len
  have h0 : pts.length ≠ 0 := by cases pts with | nil => exact absurd rfl hn | cons _ _ => simp
  have h0' : ¬ (pts.length : Int) = 0 := by omega
  have el := hpd.len (S := S)
  have es1 := hpd.seq (S := S) (env := [some pd, none, none, none]) (f := eVar 0) rfl
  have lc := lcD_of (S := S) (b := bName 3) (elt := g_need_points_e1) (env := [some pd, none, none, none]) prD (fun _ => .bl true) pts (fun q hq => ⟨_, rfl, by simp [g_need_points_e1, point_ok (s.x q hq) (s.v q hq)]⟩) (by omega)
  have e2 : pts.map (fun _ => D.bl true) = (pts.map fun _ => true).map D.bl := by simp
  rw [e2] at lc
  have sc := scD_of (S := S) (b := bTup (bCons (bName 1) (bCons (bName 2) bNil))) (elt := eVar 1) (env := [some pd, none, none, none]) prD (fun q => .int q.1) (fun q => .inl q.1) pts [] (fun q hq => ⟨[some pd, some (.int q.1), some (.int q.2), none], rfl, by simp, rfl⟩) (by simp; omega)
  have hd : dcnt (pts.map fun q => (Sum.inl q.1 : Key)) = pts.length := by
    have : (pts.map fun q => (Sum.inl q.1 : Key)).Nodup := by
      have e3 : (pts.map fun q => (Sum.inl q.1 : Key)) = (pts.map (·.1)).map Sum.inl := by rw [List.map_map]; rfl
      rw [e3]
      exact nd.map _ (fun a b h e => h (Sum.inl.inj e))
    have := (dcnt_eq _).mpr this
    simpa using this
  have ty : (tyOf S pd).map (fun a => a.isa .list || a.isa .tuple) = some true := by rcases hpd with rfl | rfl <;> rfl
  have et : d_is_listed [pd] S = .ok (.bl true) S := by rcases hpd with rfl | rfl <;> simp [d_is_listed, g_is_listed, Ty.isa]
  have hall : (pts.all fun _ => true) = true := List.all_eq_true.mpr fun _ _ => rfl
  rcases hpd with rfl | rfl <;> simp [d_need_points, g_need_points, et, hall, h0', h0, lc, sc, hd, -List.map_map, -List.map_const, -List.map_const']
theorem restored_ok {pts : Pts} {pd : D} (s : Sane pts) (hpd : PtsD pts pd) (hn : pts ≠ []) (nd : (pts.map (·.1)).Nodup) : ∃ c r, thru pts = c :: r ∧ 0 ≤ c ∧ c < 2147483647 ∧ d_restored [pd] S = .ok (.int c) S := by
  have hl := thru_len (fine_of nd fun q hq => s.x q hq)
  have hlow := thru_low pts hn
  cases ht : thru pts with
  | nil => rw [ht] at hl; exact absurd (List.length_eq_zero_iff.mp hl.symm) hn
  | cons c r =>
    rw [ht] at hlow
    refine ⟨c, r, rfl, (hlow c (by simp)).1, (hlow c (by simp)).2, ?_⟩
    have e := through_ok (S := S) s hpd
    rw [ht] at e
    simp [d_restored, g_restored, needPoints_ok s hpd hn nd, e]
end DL
end
section
/-! The laws' helpers: like, shuffled, low. -/
namespace DL
open PySem L2 Mp
variable [DL.Nm]
variable {S : Store}
theorem exit_blS {b : Bool} {S0 : Store} : exitD .pure S0 (.bl b) S0 = .ok (.bl b) S0 := exit_bl
theorem atI_ofNat {α : Type} {l : List α} {i : Nat} (h : i < l.length) : atI l (i : Int) = some l[i] := by
  have : (i : Int) < l.length := by omega
  simp [atI, ixN, this, h]
/-- a low number, drawn -/
theorem low_draw {c : Cell} {m : Nat} (d : Drw c m) (hm : m ≤ 90000) : ∃ v c', d__law_low [.loc 0] [c] = .ok (.int v) [c'] ∧ 0 ≤ v ∧ v < 2147483647 ∧ Drw c' (m + 4) := by
  obtain ⟨a, c1, n1, a0, a1, d1⟩ := next1 46341 d (by omega) (by decide) (by decide)
  obtain ⟨b, c2, n2, b0, b1, d2⟩ := next1 46340 d1 (by omega) (by decide) (by decide)
  obtain ⟨x, c3, n3, x0, x1, d3⟩ := next1 100 d2 (by omega) (by decide) (by decide)
  obtain ⟨v, mv, c4, p4, d4⟩ := pick1 [.int 0, .int 1, .int 2147483646, .int 2147483645, .int x, .int ((a * 46340 + b) % 2147483647), .int ((a * 46340 + b) % 2147483647)] d3 (by omega) (by simp) (by simp)
  have hv : ∃ i, v = .int i ∧ 0 ≤ i ∧ i < 2147483647 := by
    have q := mod_lt (a * 46340 + b)
    simp at mv
    rcases mv with rfl | rfl | rfl | rfl | rfl | rfl | rfl
    · exact ⟨_, rfl, by decide, by decide⟩
    · exact ⟨_, rfl, by decide, by decide⟩
    · exact ⟨_, rfl, by decide, by decide⟩
    · exact ⟨_, rfl, by decide, by decide⟩
    · exact ⟨_, rfl, x0, by omega⟩
    · exact ⟨_, rfl, q.1, q.2⟩
  obtain ⟨i, rfl, i0, i1⟩ := hv
  refine ⟨i, c4, ?_, i0, i1, d4⟩
  have na : a.natAbs < 18446744073709551616 := by omega
  simp [d__law_low, g__law_low, n1, n2, n3, na, p4]
theorem Drw.bel {c : Cell} {m n : Nat} (d : Drw c m) : c.bel n = true := by
  obtain ⟨a, s, k, rfl, _⟩ := d.ex
  rfl
theorem frzDs_map {α : Type} {ρ : Nat → Option D} {f : α → D} (hf : ∀ a, frzD ρ (f a) = some (f a)) : ∀ l : List α, frzDs ρ (l.map f) = some (l.map f)
  | [] => rfl
  | a :: l => by simp [frzDs, hf a, frzDs_map hf l]
theorem seqIndex_nat {i n : Nat} (h : i < n) : seqIndex? (i : Int) n = some i := by
  unfold seqIndex?
  have h0 : ¬ ((i : Int) < 0) := by omega
  simp [h0, h]
theorem eraseIdx_mapD {α : Type} (f : α → D) : ∀ (l : List α) (j : Nat), (l.map f).eraseIdx j = (l.eraseIdx j).map f
  | [], _ => rfl
  | _ :: _, 0 => rfl
  | a :: l, j + 1 => by
    show f a :: (l.map f).eraseIdx j = f a :: (l.eraseIdx j).map f
    rw [eraseIdx_mapD f l j]
theorem perm_out {α : Type} : ∀ (l : List α) (j : Nat) (h : j < l.length), (l[j] :: l.eraseIdx j).Perm l
  | _ :: _, 0, _ => .refl _
  | a :: l, j + 1, h => (List.Perm.swap _ _ _).trans ((perm_out l j (by simpa using h)).cons a)
/-- one by one taken out -/
theorem shuffle_loop {α : Type} (f : α → D) {elt : EM} {env : EnvD} (he : ∀ (k : D) (S : Store), elt (env.set 3 (some k)) S = (eMeth "list" mPopAt (eC (.loc 1)) (lCons (eCall d__law_next (lCons (eC (.loc 0)) (lCons (eCallB bLenX (lCons (eC (.loc 1)) lNil)) lNil))) lNil)) env S) :
    ∀ (n : Nat) (ds : List D) (l : List α) (acc : List D) (c : Cell) (m : Nat), l.length = n → ds.length = n → acc.length + n ≤ 1000 → Drw c m → m + n ≤ 90000 →
      ∃ (l' : List α) (c' : Cell), lcD (bName 3) eYes elt env acc ds [c, .lst (l.map f)] = .ok (acc ++ l'.map f) [c', .lst []] ∧ l'.Perm l ∧ Drw c' (m + n) := by
  intro n
  induction n with
  | zero =>
    intro ds l acc c m hl hd _ d _
    have e1 := List.length_eq_zero_iff.mp hl
    have e2 := List.length_eq_zero_iff.mp hd
    subst e1 e2
    exact ⟨[], c, by simp, .refl _, d⟩
  | succ n ih =>
    intro ds l acc c m hl hd ha d hm
    cases ds with
    | nil => simp at hd
    | cons k ds =>
      obtain ⟨i, c1, n1, i0, i1, d1⟩ := next_ok (S := [c, .lst (l.map f)]) (l := 0) (c := c) (n := (l.length : Int)) rfl d (by omega) (by omega) (by omega)
      obtain ⟨j, rfl⟩ := Int.eq_ofNat_of_zero_le i0
      have hj : j < l.length := by omega
      obtain ⟨l', c', h1, h2, h3⟩ := ih ds (l.eraseIdx j) (acc ++ [f l[j]]) c1 (m + 1) (by rw [List.length_eraseIdx_of_lt hj]; omega) (by simpa using hd) (by simp; omega) d1 (by omega)
      refine ⟨l[j] :: l', c', ?_, ?_, by rw [show m + (n + 1) = m + 1 + n by omega]; exact h3⟩
      · unfold lcD
        dsimp only [bName, eYes]
        rw [he]
        have w : w63 ((j : Nat) : Int) := w63_is (by omega) (by omega)
        have q := seqIndex_nat (i := j) (n := l.length) hj
        have n1' : d__law_next [.loc 0, .int (l.length : Int)] [c, .lst (l.map f)] = .ok (.int (j : Nat)) [c1, .lst (l.map f)] := n1
        have ee : (eMeth "list" mPopAt (eC (.loc 1)) (lCons (eCall d__law_next (lCons (eC (.loc 0)) (lCons (eCallB bLenX (lCons (eC (.loc 1)) lNil)) lNil))) lNil)) env [c, .lst (l.map f)] = .ok (f l[j]) [c1, .lst ((l.eraseIdx j).map f)] := by
          have c0 : cel [c, .lst (l.map f)] 1 = some (.lst (l.map f)) := rfl
          have c2 : cel [c1, .lst (l.map f)] 1 = some (.lst (l.map f)) := rfl
          have em : (l.map f).eraseIdx j = (l.eraseIdx j).map f := eraseIdx_mapD f l j
          simp [c0, c2, n1', w, q, hj, em]
        rw [ee]
        dsimp only
        rw [if_pos (show sz (acc.length + 1) from sz_is (by omega)), h1]
        simp
      · exact (List.Perm.cons _ h2).trans (perm_out l j hj)
end DL
end
section
namespace DR
open PySem L2 DL
variable [DL.Nm]
noncomputable section
end
end DR
end
section
/-! Names, as the laws with races draw them; what the program's forms say of them. -/
namespace DR
open PySem L2 DL
variable [DL.Nm]
variable {S : Store}
def abc : Str := "abcdefghijklmnopqrstuvwxyz"
/-- a good name -/
def goodN (s : Str) : Bool := (decide (1 ≤ s.length) && (decide (s ≠ "zz") && decide (s ≠ "zzzzzzzz"))) && decide (s.length ≤ 8) && s.cps.toList.all fun c => decide (c ∈ abc.cps.toList)
/-! what is drawn -/
def own1 : List Str := ["one", "any", "rank", "runoff", "pairs", "in", "out", "place", "letter", "doubt", "counts", "doubled", "admit"]
def own2 : List Str := ["refuse", "again", "stands", "counted", "vote", "roll", "uses", "mixed", "late", "result", "use", "close"]
def own3 : List Str := ["each", "odd", "spoilt", "good", "blank"]
def own : List Str := own1 ++ own2 ++ own3
/-- eight unlike good names -/
structure Names (ns : List Str) : Prop where
  len : ns.length = 8
  good : ∀ n ∈ ns, goodN n = true
  nd : ns.Nodup
end DR
end
section
/-! The names drawn. -/
namespace DR
open PySem L2 DL
variable [DL.Nm]
variable {S : Store}
theorem sIx_n (n L d : Nat) : HT.sIx L d (some (n : Int)) = min n L := HT.sIx_nat L d n
theorem cut_hi {α : Type} (xs : List α) (n : Nat) : cutD xs none (some (n : Int)) = xs.take n := by
  unfold cutD
  rw [sIx_n]
  show (xs.drop 0).take (min n xs.length - 0) = _
  rw [List.drop_zero, Nat.sub_zero]
  by_cases h : n ≤ xs.length
  · rw [Nat.min_eq_left h]
  · rw [Nat.min_eq_right (by omega), List.take_length, List.take_of_length_le (by omega)]
theorem cut_lo {α : Type} (xs : List α) (n : Nat) : cutD xs (some (n : Int)) none = xs.drop n := by
  unfold cutD
  rw [sIx_n]
  show (xs.drop (min n xs.length)).take (xs.length - min n xs.length) = _
  by_cases h : n ≤ xs.length
  · rw [Nat.min_eq_left h, List.take_of_length_le (by simp)]
  · rw [Nat.min_eq_right (by omega), List.drop_length, List.drop_of_length_le (by omega)]; simp
end DR
end
section
namespace DR
open PySem L2 DL
variable [DL.Nm]
variable {S : Store}
end DR
end
section
/-! Races told and made; marks; what the program says of marks. -/
namespace DR
open PySem L2 DL
variable [DL.Nm]
variable {S : Store}
abbrev tupS (l : List Str) : D := .tup (l.map .str)
abbrev raceD (nm kd : Str) (cs : List Str) (seats : Int) (way : Str) : D := .obj "Race" ["name", "kind", "choices", "districts", "seats", "by"] [.str nm, .str kd, tupS cs, .tup [.str "here"], .int seats, .str way]
/-- what a race may be made of -/
structure Told (nm kd : Str) (cs : List Str) (seats : Int) (way : Str) : Prop where
  nm : goodN nm = true
  good : ∀ n ∈ cs, goodN n = true
  nd : cs.Nodup
  l2 : 2 ≤ cs.length
  l5 : cs.length ≤ 5
  kdOk : kd = "one" ∨ kd = "any" ∨ kd = "rank"
  s1 : 1 ≤ seats
  s2 : seats ≤ cs.length
  w : (kd ≠ "rank" ∧ way = "") ∨ (kd = "rank" ∧ (way = "runoff" ∨ way = "pairs" ∨ way = "share") ∧ (way = "share" ∨ seats = 1))
theorem Told.as {nm kd : Str} {cs : List Str} {seats seats' : Int} {way way' : Str} (t : Told nm kd cs seats way) (s1 : 1 ≤ seats') (s2 : seats' ≤ cs.length) (w : (kd ≠ "rank" ∧ way' = "") ∨ (kd = "rank" ∧ (way' = "runoff" ∨ way' = "pairs" ∨ way' = "share") ∧ (way' = "share" ∨ seats' = 1))) : Told nm kd cs seats' way' :=
  ⟨t.nm, t.good, t.nd, t.l2, t.l5, t.kdOk, s1, s2, w⟩
end DR
end
section
/-! A race told, drawn. -/
namespace DR
open PySem L2 DL
variable [DL.Nm]
end DR
end
section
/-! Dicts by names: what stands in them. -/
namespace DR
open PySem L2 DL
variable [DL.Nm]
variable {S : Store}
theorem putD_len' (kds : Kds) (k : Key) (d : D) : (putD kds k d).length ≤ kds.length + 1 := by
  unfold putD
  split
  · simp
  · simp
/-- all new keys -/
theorem fold_put {α : Type} (k : α → Key) (v : α → D) : ∀ (l : List α) (acc : Kds), (l.map k).Nodup → (∀ a ∈ l, ∀ kv ∈ acc, kv.1 ≠ k a) → l.foldl (fun acc a => putD acc (k a) (v a)) acc = acc ++ l.map fun a => (k a, v a)
  | [], acc, _, _ => by simp
  | a :: l, acc, nd, h => by
    rw [List.map_cons, List.nodup_cons] at nd
    have e : putD acc (k a) (v a) = acc ++ [(k a, v a)] := by
      unfold putD
      rw [if_neg]
      intro z
      obtain ⟨kv, h1, h2⟩ := List.any_eq_true.mp z
      exact h a List.mem_cons_self kv h1 (of_decide_eq_true h2)
    rw [List.foldl_cons, e, fold_put k v l _ nd.2 (fun b hb kv hkv => by
      rcases List.mem_append.mp hkv with q | q
      · exact h b (List.mem_cons_of_mem _ hb) kv q
      · simp at q
        subst q
        intro z
        exact nd.1 (List.mem_map.mpr ⟨b, hb, z.symm⟩))]
    simp
theorem dcD_fold {α : Type} {b : D → EnvD → Option EnvD} {ek ev : EM} {env : EnvD} (h : α → D) (kd : α → D) (k : α → Key) (v : α → D) : ∀ (l : List α) (acc : Kds), (∀ a ∈ l, ∃ e1, b (h a) env = some e1 ∧ ek e1 S = .ok (kd a) S ∧ keyD (kd a) = some (k a) ∧ ev e1 S = .ok (v a) S) → acc.length + l.length ≤ 1000000 →
    dcD b eYes ek ev env acc (l.map h) S = some (l.foldl (fun acc a => putD acc (k a) (v a)) acc, S)
  | [], acc, _, _ => rfl
  | a :: l, acc, st, hl => by
    obtain ⟨e1, h1, h2, h3, h4⟩ := st a (by simp)
    have hl' : acc.length + (l.length + 1) ≤ 1000000 := hl
    have pl := putD_len' acc (k a) (v a)
    rw [List.map_cons]
    unfold dcD
    rw [h1]
    dsimp only [eYes]
    rw [h2]
    dsimp only
    rw [h4]
    dsimp only
    rw [h3]
    dsimp only
    rw [if_pos (show sz (acc.length + 1) from sz_is (by omega)), dcD_fold h kd k v l _ (fun c hc => st c (by simp [hc])) (by omega)]
    rfl
/-- a dict comprehension of unlike keys -/
theorem dcD_new {α : Type} {b : D → EnvD → Option EnvD} {ek ev : EM} {env : EnvD} (h : α → D) (kd : α → D) (k : α → Key) (v : α → D) (l : List α) (st : ∀ a ∈ l, ∃ e1, b (h a) env = some e1 ∧ ek e1 S = .ok (kd a) S ∧ keyD (kd a) = some (k a) ∧ ev e1 S = .ok (v a) S) (nd : (l.map k).Nodup) (hl : l.length ≤ 1000) :
    dcD b eYes ek ev env [] (l.map h) S = some (l.map fun a => (k a, v a), S) := by
  rw [dcD_fold h kd k v l [] st (by simp; omega), fold_put k v l [] nd (fun _ _ _ h => by simp at h)]
  simp
end DR
end
section
/-! Marks drawn; good ones. -/
namespace DR
open PySem L2 DL
variable [DL.Nm]
variable {S : Store}
/-- what stands on a paper: nothing, the sign of spoilt ones, or choices -/
inductive Mk where
  | no | odd | good (l : List Str)
def Mk.D (one : Bool) : Mk → PySem.Str → D
  | .no, _ => .non
  | .odd, _ => .str "?"
  | .good l, _ => if one then .str (l.headD "") else .tup (l.map .str)
structure MkOk (one : Bool) (cs : List Str) (mk : Mk) : Prop where
  ok : ∀ l, mk = .good l → l ≠ [] ∧ l.Nodup ∧ (∀ c ∈ l, c ∈ cs) ∧ (one = true → l.length = 1)
end DR
end
section
/-! What the program and the laws say of marks. -/
namespace DR
open PySem L2 DL
variable [DL.Nm]
variable {S : Store}
/-! the program's words -/
@[simp] theorem fld_kind {nm kd : Str} {cs : List Str} {seats : Int} {way : Str} : fldC S (raceD nm kd cs seats way) "kind" = some (("Race" : Str), D.str kd) := rfl
@[simp] theorem fld_choices {nm kd : Str} {cs : List Str} {seats : Int} {way : Str} : fldC S (raceD nm kd cs seats way) "choices" = some (("Race" : Str), tupS cs) := rfl
@[simp] theorem fld_seats {nm kd : Str} {cs : List Str} {seats : Int} {way : Str} : fldC S (raceD nm kd cs seats way) "seats" = some (("Race" : Str), D.int seats) := rfl
end DR
end
section
/-! Good marks; counting loops. -/
namespace DR
open PySem L2 DL
variable [DL.Nm]
variable {S : Store}
theorem lcD_fa {α : Type} {b : D → EnvD → Option EnvD} {tt elt : EM} {env : EnvD} (h : α → D) (p : α → Bool) (f : α → D) : ∀ (l : List α) (acc : List D),
    (∀ a ∈ l, ∃ e1, b (h a) env = some e1 ∧ tt e1 S = .ok (.bl (p a)) S ∧ (p a = true → elt e1 S = .ok (f a) S)) → acc.length + l.length ≤ 16777216 → lcD b tt elt env acc (l.map h) S = .ok (acc ++ (l.filter p).map f) S
  | [], acc, _, _ => by simp
  | a :: l, acc, st, hl => by
    obtain ⟨e1, hb, ht, he⟩ := st a List.mem_cons_self
    have hl' : acc.length + (l.length + 1) ≤ 16777216 := hl
    rw [List.map_cons]
    unfold lcD
    rw [hb]
    dsimp only
    rw [ht]
    cases hp : p a with
    | true =>
      dsimp only
      rw [he hp]
      dsimp only
      rw [if_pos (show sz (acc.length + 1) by unfold sz; omega), lcD_fa h p f l _ (fun d' hd => st d' (List.mem_cons_of_mem _ hd)) (by simp; omega)]
      simp [List.filter_cons, hp]
    | false =>
      dsimp only
      rw [lcD_fa h p f l acc (fun d' hd => st d' (List.mem_cons_of_mem _ hd)) (by omega)]
      simp [List.filter_cons, hp]
section
variable {nm kd : Str} {cs : List Str} {seats : Int} {way : Str}
end
end DR
end
section
/-! Numbers, seeds, points, of anything. -/
namespace DL.K53
open PySem L2 DL Mp
open DR (lcD_fa)
variable [DL.Nm]
variable {S : Store}
/-- plain data of the kinds that are drawn -/
def Kd : D → Bool
  | .int _ | .bl _ | .non | .str _ | .tup _ | .lst _ | .dic _ _ => true
  | _ => false
def btw (a b : Int) : D → Bool
  | .int i => decide (a ≤ i ∧ i ≤ b)
  | _ => false
theorem btw_is {a b : Int} {d : D} (h : btw a b d = true) : ∃ i, d = .int i ∧ a ≤ i ∧ i ≤ b := by
  cases d with
  | int i => exact ⟨i, rfl, of_decide_eq_true h⟩
  | _ => cases h
theorem between_K {d : D} (h : Kd d = true) (a b : Int) : d_is_between [d, .int a, .int b] S = .ok (.bl (btw a b d)) S := by
  cases d with
  | int i => exact between_ok i a b
  | bl _ => simp [btw, d_is_between, g_is_between, d_is_whole, g_is_whole, Ty.isa]
  | non => simp [btw, d_is_between, g_is_between, d_is_whole, g_is_whole, Ty.isa]
  | str _ => simp [btw, d_is_between, g_is_between, d_is_whole, g_is_whole, Ty.isa]
  | tup _ => simp [btw, d_is_between, g_is_between, d_is_whole, g_is_whole, Ty.isa]
  | lst _ => simp [btw, d_is_between, g_is_between, d_is_whole, g_is_whole, Ty.isa]
  | dic _ _ => simp [btw, d_is_between, g_is_between, d_is_whole, g_is_whole, Ty.isa]
  | _ => cases h
theorem lbetween_K {d : D} (h : Kd d = true) (a b : Int) : d__law_between [d, .int a, .int b] S = .ok (.bl (btw a b d)) S := by
  cases d with
  | int i =>
    by_cases h1 : a ≤ i
    · by_cases h2 : i ≤ b <;> simp [btw, d__law_between, g__law_between, Ty.isa, h1, h2]
    · simp [btw, d__law_between, g__law_between, Ty.isa, h1]
  | bl _ => simp [btw, d__law_between, g__law_between, Ty.isa]
  | non => simp [btw, d__law_between, g__law_between, Ty.isa]
  | str _ => simp [btw, d__law_between, g__law_between, Ty.isa]
  | tup _ => simp [btw, d__law_between, g__law_between, Ty.isa]
  | lst _ => simp [btw, d__law_between, g__law_between, Ty.isa]
  | dic _ _ => simp [btw, d__law_between, g__law_between, Ty.isa]
  | _ => cases h
theorem low_K {d : D} (h : Kd d = true) : d_is_low [d] S = .ok (.bl (btw 0 2147483646 d)) S := by
  have := between_K (S := S) h 0 2147483646
  simp [d_is_low, g_is_low, this]
/-- a tuple of numbers below the prime -/
def lowsB : D → Bool
  | .tup ds => ds.all (btw 0 2147483646)
  | _ => false
def AllK (l : List D) : Prop := ∀ d ∈ l, Kd d = true
theorem lows_l : ∀ ds : List D, ds.all (btw 0 2147483646) = true → ∃ ns : List Int, ds = ns.map .int ∧ ∀ a ∈ ns, 0 ≤ a ∧ a < 2147483647
  | [], _ => ⟨[], rfl, by simp⟩
  | d :: ds, h => by
    rw [List.all_cons, Bool.and_eq_true] at h
    obtain ⟨i, rfl, h1, h2⟩ := btw_is h.1
    obtain ⟨ns, e, h3⟩ := lows_l ds h.2
    refine ⟨i :: ns, by rw [e]; rfl, fun a ha => ?_⟩
    rcases List.mem_cons.mp ha with rfl | ha
    · omega
    · exact h3 a ha
theorem lows_is {X : D} (h : lowsB X = true) : ∃ ns : List Int, X = .tup (ns.map .int) ∧ ∀ a ∈ ns, 0 ≤ a ∧ a < 2147483647 := by
  cases X with
  | tup ds =>
    obtain ⟨ns, e, h⟩ := lows_l ds h
    exact ⟨ns, by rw [e], h⟩
  | _ => cases h
theorem arelow_K {X : D} (hk : Kd X = true) (hX : ∀ ds, X = .tup ds → AllK ds ∧ ds.length ≤ 100) : d_are_low [X] S = .ok (.bl (lowsB X)) S := by
  cases X with
  | tup ds =>
    obtain ⟨ha, hl⟩ := hX ds rfl
    have e := lcD_map (S := S) (b := bName 1) (elt := g_are_low_e1) (env := [some (.tup ds), none]) (fun d => .bl (btw 0 2147483646 d)) ds (fun d hd => ⟨_, rfl, by simp [g_are_low_e1, low_K (ha d hd)]⟩) (by omega)
    have e2 : ds.map (fun d => D.bl (btw 0 2147483646 d)) = (ds.map (btw 0 2147483646)).map D.bl := by rw [List.map_map]; rfl
    rw [e2] at e
    have ba := bAll_is (S := S) (bs := ds.map (btw 0 2147483646))
    rw [show (ds.map (btw 0 2147483646)).all id = ds.all (btw 0 2147483646) from by rw [List.all_map]; rfl] at ba
    generalize (ds.map (btw 0 2147483646)).map D.bl = BL at *
    simp [d_are_low, g_are_low, Ty.isa, e, ba, lowsB]
  | int _ => simp [d_are_low, g_are_low, Ty.isa, lowsB]
  | bl _ => simp [d_are_low, g_are_low, Ty.isa, lowsB]
  | non => simp [d_are_low, g_are_low, Ty.isa, lowsB]
  | str _ => simp [d_are_low, g_are_low, Ty.isa, lowsB]
  | lst _ => simp [d_are_low, g_are_low, Ty.isa, lowsB]
  | dic _ _ => simp [d_are_low, g_are_low, Ty.isa, lowsB]
  | _ => cases hk
theorem lows_filter (l : List D) : decide ((l.filter fun d => !btw 0 2147483646 d) = []) = l.all (btw 0 2147483646) := by
  rw [Bool.eq_iff_iff, decide_eq_true_eq, List.filter_eq_nil_iff, List.all_eq_true]
  constructor
  · intro h x hx
    have := h x hx
    simpa using this
  · intro h x hx
    simp [h x hx]
theorem lawlows_K {X : D} (hk : Kd X = true) (hX : ∀ ds, X = .tup ds → AllK ds ∧ ds.length ≤ 100) : d__law_lows_right [X] S = .ok (.bl (lowsB X)) S := by
  cases X with
  | tup ds =>
    obtain ⟨ha, hl⟩ := hX ds rfl
    have e := lcD_fa (S := S) (b := bName 1) (tt := g__law_lows_right_t1) (elt := eVar 1) (env := [some (.tup ds), none]) (fun d : D => d) (fun d => !btw 0 2147483646 d) (fun d : D => d) ds [] (fun d hd => ⟨[some (.tup ds), some d], rfl, by simp [g__law_lows_right_t1, lbetween_K (ha d hd)], fun _ => rfl⟩) (by simp; omega)
    rw [List.map_id', List.map_id', List.nil_append] at e
    have f := lows_filter ds
    generalize (ds.filter fun d => !btw 0 2147483646 d) = FL at *
    simp [d__law_lows_right, g__law_lows_right, Ty.isa, e, f, lowsB]
  | int _ => simp [d__law_lows_right, g__law_lows_right, Ty.isa, lowsB]
  | bl _ => simp [d__law_lows_right, g__law_lows_right, Ty.isa, lowsB]
  | non => simp [d__law_lows_right, g__law_lows_right, Ty.isa, lowsB]
  | str _ => simp [d__law_lows_right, g__law_lows_right, Ty.isa, lowsB]
  | lst _ => simp [d__law_lows_right, g__law_lows_right, Ty.isa, lowsB]
  | dic _ _ => simp [d__law_lows_right, g__law_lows_right, Ty.isa, lowsB]
  | _ => cases hk
end DL.K53
end
section
/-! Dealt, of any three things. -/
namespace DL.K53
open PySem L2 DL Mp
open DR (lcD_fa)
variable [DL.Nm]
variable {S : Store}
def noC : Exc := ⟨"NoCount", none⟩
def xs (k : Nat) : List Int := (List.range k).map fun (i : Nat) => 1 + (i : Int)
theorem range_xs (k : Nat) : rangeD 1 k = (xs k).map .int := by simp [rangeD, xs]
theorem mem_xs {k : Nat} {x : Int} (h : x ∈ xs k) : 1 ≤ x ∧ x ≤ k := by
  simp [xs] at h
  obtain ⟨i, hi, rfl⟩ := h
  omega
theorem dealt_ok {n : Int} {ss : List Int} {k : Nat} (h0 : 0 ≤ n) (h1 : n < 2147483647) (hs : ∀ a ∈ ss, 0 ≤ a ∧ a < 2147483647) (hk : 1 ≤ k) (hk2 : k ≤ 9) (hl : ss.length < k) :
    d_dealt [.int n, .tup (ss.map .int), .int (k : Nat)] S = .ok (.tup (((xs k).map (worth (n :: ss))).map .int)) S := by
  have lc := lcD_of (S := S) (b := bName 3) (elt := g_dealt_e1) (env := [some (.int n), some (.tup (ss.map .int)), some (.int (k : Nat)), none]) D.int (fun x => .int (worth (n :: ss) x)) (xs k) (fun x hx => by
    have hm := mem_xs hx
    have w := worthAt_ok (S := S) (n :: ss) (x := x) (by omega) (by simp; omega)
    rw [List.map_cons] at w
    have z : sz (1 + ss.length) := sz_is (by omega)
    refine ⟨_, rfl, ?_⟩
    simp [g_dealt_e1, z]
    have z' : sz (ss.length + 1) := sz_is (by omega)
    first | exact w | (simp [z', w])) (by simp [xs]; omega)
  rw [← range_xs] at lc
  have a1 := arelow_ok (S := S) hs (by omega)
  have b1 := between_ok (S := S) (k : Int) 1 9
  have hk' : (1 : Int) ≤ k := by omega
  have hk2' : (k : Int) ≤ 9 := by omega
  have r2 : rOk ((k : Int) + 1) := ⟨by omega, by omega⟩
  have r1 : rOk (1 : Int) := ⟨by decide, by decide⟩
  have e3 : ((k : Int) + 1 - 1).toNat = k := by omega
  have hl' : ¬ (k : Int) ≤ ss.length := by omega
  have e4 : (xs k).map (fun x => D.int (worth (n :: ss) x)) = ((xs k).map (worth (n :: ss))).map D.int := by rw [List.map_map]; rfl
  rw [e4] at lc
  simp [d_dealt, g_dealt, low_ok h0 h1, a1, b1, hk', hk2', hl', r1, r2, e3, lc, exit_tints0, -List.map_map, hl]
/-- how many there are -/
def lenD : D → Nat
  | .tup ds => ds.length
  | _ => 0
def numT : D → Int
  | .int i => i
  | _ => 0
def dealB (N X T : D) : Bool := btw 0 2147483646 N && lowsB X && btw 1 9 T && decide ((lenD X : Int) < numT T)
theorem dealt_any {N X T : D} (hN : Kd N = true) (hk : Kd X = true) (hX : ∀ ds, X = .tup ds → AllK ds ∧ ds.length ≤ 100) (hT : Kd T = true) :
    (dealB N X T = true ∧ ∃ ns : List Int, d_dealt [N, X, T] S = .ok (.tup (ns.map .int)) S) ∨ (dealB N X T = false ∧ d_dealt [N, X, T] S = .ex noC S) := by
  have l1 := low_K (S := S) hN
  have l2 := arelow_K (S := S) hk hX
  have l3 := between_K (S := S) hT 1 9
  by_cases h1 : btw 0 2147483646 N = false
  · refine .inr ⟨by simp [dealB, h1], ?_⟩
    rw [h1] at l1
    simp [d_dealt, g_dealt, l1, noC]
  by_cases h2 : lowsB X = false
  · refine .inr ⟨by simp [dealB, h2], ?_⟩
    rw [show btw 0 2147483646 N = true by simpa using h1] at l1
    rw [h2] at l2
    simp [d_dealt, g_dealt, l1, l2, noC]
  by_cases h3 : btw 1 9 T = false
  · refine .inr ⟨by simp [dealB, h3], ?_⟩
    rw [show btw 0 2147483646 N = true by simpa using h1] at l1
    rw [show lowsB X = true by simpa using h2] at l2
    rw [h3] at l3
    simp [d_dealt, g_dealt, l1, l2, l3, noC]
  have h1 : btw 0 2147483646 N = true := by simpa using h1
  have h2 : lowsB X = true := by simpa using h2
  have h3 : btw 1 9 T = true := by simpa using h3
  rw [h1] at l1
  rw [h2] at l2
  rw [h3] at l3
  obtain ⟨n, rfl, n0, n1⟩ := btw_is h1
  obtain ⟨ns, rfl, hns⟩ := lows_is h2
  obtain ⟨t, rfl, t0, t1⟩ := btw_is h3
  obtain ⟨k, rfl⟩ := Int.eq_ofNat_of_zero_le (show 0 ≤ t by omega)
  have hln : ns.length ≤ 100 := by have := (hX _ rfl).2; simpa using this
  have e0 : lenD (.tup (ns.map .int)) = ns.length := by simp [lenD]
  by_cases h4 : ns.length < k
  · refine .inl ⟨?_, ⟨_, dealt_ok n0 (by omega) hns (by omega) (by omega) h4⟩⟩
    unfold dealB
    rw [h1, h2, h3, e0]
    simp [numT, h4]
  · refine .inr ⟨?_, ?_⟩
    · unfold dealB
      rw [h1, h2, h3, e0]
      simp [numT, h4]
    · have h5 : ((k : Nat) : Int) ≤ (ns.length : Nat) := by omega
      have z : sz (ns.map D.int).length := sz_is (by simp; omega)
      have h6 : ((k : Nat) : Int) ≤ ((ns.map D.int).length : Nat) := by simpa using h5
      generalize ns.map D.int = NS at *
      simp [d_dealt, g_dealt, l1, l2, l3, noC, z, h6]
end DL.K53
end
section
/-! Points, of anything. -/
namespace DL.K53
open PySem L2 DL Mp
open DR (lcD_fa)
variable [DL.Nm]
variable {S : Store}
def ptB : D → Bool
  | .tup [x, v] => btw 1 9 x && btw 0 2147483646 v
  | _ => false
def Kp (d : D) : Prop := Kd d = true ∧ ∀ ds, d = .tup ds → AllK ds ∧ ds.length ≤ 100
theorem pt_is {d : D} (h : ptB d = true) : ∃ q : Int × Int, d = prD q ∧ (1 ≤ q.1 ∧ q.1 ≤ 9) ∧ 0 ≤ q.2 ∧ q.2 < 2147483647 := by
  unfold ptB at h
  split at h
  · rw [Bool.and_eq_true] at h
    obtain ⟨i, rfl, h1, h2⟩ := btw_is h.1
    obtain ⟨j, rfl, h3, h4⟩ := btw_is h.2
    exact ⟨(i, j), rfl, ⟨h1, h2⟩, h3, by omega⟩
  · cases h
theorem pts_are : ∀ ds : List D, ds.all ptB = true → ∃ pts : Pts, ds = pts.map prD ∧ ∀ q ∈ pts, (1 ≤ q.1 ∧ q.1 ≤ 9) ∧ 0 ≤ q.2 ∧ q.2 < 2147483647
  | [], _ => ⟨[], rfl, by simp⟩
  | d :: ds, h => by
    rw [List.all_cons, Bool.and_eq_true] at h
    obtain ⟨q, rfl, h1⟩ := pt_is h.1
    obtain ⟨pts, e, h2⟩ := pts_are ds h.2
    refine ⟨q :: pts, by rw [e]; rfl, fun r hr => ?_⟩
    rcases List.mem_cons.mp hr with rfl | hr
    · exact h1
    · exact h2 r hr
/-- the tuples by length -/
theorem tup_len {ds : List D} (h : ds.length = 2) : ∃ x v, ds = [x, v] := by
  match ds, h with
  | [x, v], _ => exact ⟨x, v, rfl⟩
theorem ptB_len {ds : List D} (h : ds.length ≠ 2) : ptB (.tup ds) = false := by
  match ds, h with
  | [], _ => rfl
  | [_], _ => rfl
  | [_, _], h => exact absurd rfl h
  | _ :: _ :: _ :: _, _ => rfl
theorem ix0 (x v : D) : ∀ S, opIxX (.tup [x, v]) (.int 0) S = .ok x S := fun S => by
  have : atI [x, v] 0 = some x := rfl
  simp [this]
theorem ix1 (x v : D) : ∀ S, opIxX (.tup [x, v]) (.int 1) S = .ok v S := fun S => by
  have : atI [x, v] 1 = some v := rfl
  simp [this]
theorem point_K {d : D} (h : Kp d) : d_is_point [d] S = .ok (.bl (ptB d)) S := by
  obtain ⟨hk, ht⟩ := h
  cases d with
  | tup ds =>
    obtain ⟨ha, hl⟩ := ht ds rfl
    have z : sz ds.length := sz_is (by omega)
    by_cases h2 : ds.length = 2
    · obtain ⟨x, v, rfl⟩ := tup_len h2
      have b1 := between_K (S := S) (ha x (by simp)) 1 9
      have b2 := low_K (S := S) (ha v (by simp))
      have i0 := ix0 x v
      have i1 := ix1 x v
      have z2 : sz 2 := sz_is (by decide)
      generalize opIxX = OI at *
      have e : ptB (.tup [x, v]) = (btw 1 9 x && btw 0 2147483646 v) := rfl
      cases hb : btw 1 9 x <;> rw [hb] at b1 e <;> simp [d_is_point, g_is_point, Ty.isa, i0, i1, b1, b2, z2, e]
    · have h2' : ¬ ((ds.length : Nat) : Int) = 2 := by omega
      rw [ptB_len h2]
      simp [d_is_point, g_is_point, Ty.isa, z, h2']
  | int _ => simp [d_is_point, g_is_point, Ty.isa, ptB]
  | bl _ => simp [d_is_point, g_is_point, Ty.isa, ptB]
  | non => simp [d_is_point, g_is_point, Ty.isa, ptB]
  | str _ => simp [d_is_point, g_is_point, Ty.isa, ptB]
  | lst _ => simp [d_is_point, g_is_point, Ty.isa, ptB]
  | dic _ _ => simp [d_is_point, g_is_point, Ty.isa, ptB]
  | _ => cases hk
def fsts (ds : List D) : List Int := ds.map fun d => match d with | .tup (.int x :: _) => x | _ => 0
def ptsL (ds : List D) : Bool := decide (ds ≠ []) && ds.all ptB && decide (fsts ds).Nodup
def ptsB : D → Bool
  | .lst ds => ptsL ds
  | .tup ds => ptsL ds
  | _ => false
def KX (X : D) : Prop := Kd X = true ∧ ∀ ds, (X = .lst ds ∨ X = .tup ds) → (∀ d ∈ ds, Kp d) ∧ ds.length ≤ 100
theorem fsts_pr (pts : Pts) : fsts (pts.map prD) = pts.map (·.1) := by
  unfold fsts
  rw [List.map_map]
  rfl
theorem sane_of {pts : Pts} (h : ∀ q ∈ pts, (1 ≤ q.1 ∧ q.1 ≤ 9) ∧ 0 ≤ q.2 ∧ q.2 < 2147483647) (hl : pts.length ≤ 100) : Sane pts := ⟨fun q hq => (h q hq).1, fun q hq => (h q hq).2, hl⟩
theorem need_seq {ds : List D} (hk : ∀ d ∈ ds, Kp d) (hl : ds.length ≤ 100) {X : D} (hX : X = .lst ds ∨ X = .tup ds) :
    (ptsL ds = true ∧ d_need_points [X] S = .ok .non S ∧ ∃ pts, Sane pts ∧ PtsD pts X ∧ pts ≠ [] ∧ (pts.map (·.1)).Nodup) ∨ (ptsL ds = false ∧ d_need_points [X] S = .ex noC S) := by
  have et : d_is_listed [X] S = .ok (.bl true) S := by rcases hX with rfl | rfl <;> simp [d_is_listed, g_is_listed, Ty.isa]
  have ln : bLenX [X] S = .ok (.int (ds.length : Nat)) S := by
    have z : sz ds.length := sz_is (by omega)
    rcases hX with rfl | rfl <;> simp [z]
  have is : iSeq (eVar 0) [some X, none, none, none] S = .ok ds S := by
    rw [iSeq_is, eVar_at (d := X) rfl]
    rcases hX with rfl | rfl <;> rfl
  have lc := lcD_map (S := S) (b := bName 3) (elt := g_need_points_e1) (env := [some X, none, none, none]) (fun d => .bl (ptB d)) ds (fun d hd => ⟨_, rfl, by simp [g_need_points_e1, point_K (hk d hd)]⟩) (by omega)
  have e2 : ds.map (fun d => D.bl (ptB d)) = (ds.map ptB).map D.bl := by rw [List.map_map]; rfl
  rw [e2] at lc
  have ba := bAll_is (S := S) (bs := ds.map ptB)
  rw [show (ds.map ptB).all id = ds.all ptB from by rw [List.all_map]; rfl] at ba
  by_cases h0 : ds = []
  · subst h0
    refine .inr ⟨rfl, ?_⟩
    simp only [List.length_nil] at ln
    have ln : bLenX [X] S = .ok (.int 0) S := ln
    simp [d_need_points, g_need_points, et, ln, noC]
  have h0' : ¬ ((ds.length : Nat) : Int) = 0 := by
    have : ds.length ≠ 0 := fun z => h0 (List.length_eq_zero_iff.mp z)
    omega
  by_cases ha : ds.all ptB = false
  · refine .inr ⟨by unfold ptsL; rw [ha]; simp, ?_⟩
    rw [ha] at ba
    generalize (ds.map ptB).map D.bl = BL at *
    simp [d_need_points, g_need_points, et, ln, noC, h0', h0, is, wipeD, lc, ba, -iSeq_is]
  have ha : ds.all ptB = true := by simpa using ha
  obtain ⟨pts, rfl, hp⟩ := pts_are ds ha
  have hl2 : pts.length ≤ 100 := by simpa using hl
  have hne : pts ≠ [] := fun z => h0 (by rw [z]; rfl)
  have sn := sane_of hp hl2
  by_cases nd : (pts.map (·.1)).Nodup
  · refine .inl ⟨?_, needPoints_ok sn hX hne nd, pts, sn, hX, hne, nd⟩
    unfold ptsL
    rw [ha, fsts_pr, decide_eq_true nd, decide_eq_true h0]; rfl
  · refine .inr ⟨by unfold ptsL; rw [ha, fsts_pr, decide_eq_false nd]; simp, ?_⟩
    rw [ha] at ba
    have sc := scD_of (S := S) (b := bTup (bCons (bName 1) (bCons (bName 2) bNil))) (elt := eVar 1) (env := [some X, none, none, none]) prD (fun q => .int q.1) (fun q => .inl q.1) pts [] (fun q hq => ⟨[some X, some (.int q.1), some (.int q.2), none], rfl, by simp, rfl⟩) (by simp; omega)
    have hd : dcnt (pts.map fun q => (Sum.inl q.1 : Key)) < pts.length := by
      have e3 : (pts.map fun q => (Sum.inl q.1 : Key)) = (pts.map (·.1)).map Sum.inl := by rw [List.map_map]; rfl
      have h1 := dcnt_eq (pts.map fun q => (Sum.inl q.1 : Key))
      have h2 := dcnt_le (pts.map fun q => (Sum.inl q.1 : Key))
      rw [List.length_map] at h1 h2
      have h3 : ¬ (pts.map fun q => (Sum.inl q.1 : Key)).Nodup := fun z => nd (by
        rw [e3] at z
        exact List.Pairwise.of_map (fun i : Int => (Sum.inl i : Key)) (fun a b h z => h (by rw [z])) z)
      have h4 : dcnt (pts.map fun q => (Sum.inl q.1 : Key)) ≠ pts.length := fun z => h3 (h1.mp z)
      omega
    have ll : (pts.map prD).length = pts.length := by simp
    have hd' : ((dcnt (pts.map fun q => (Sum.inl q.1 : Key)) : Nat) : Int) < (pts.length : Nat) := by omega
    rw [ll] at ln h0'
    rw [List.nil_append] at sc
    generalize ((pts.map prD).map ptB).map D.bl = BL at *
    generalize pts.map prD = PD at *
    simp [d_need_points, g_need_points, et, ln, noC, h0', hne, is, wipeD, lc, ba, sc, hd', hd, -iSeq_is, -List.map_map]
end DL.K53
end
section
/-! Points by the law; restored, seeds; a safe. -/
namespace DL.K53
open PySem L2 DL Mp
open DR (lcD_fa)
variable [DL.Nm]
variable {S : Store}
theorem lp_one {d : D} (h : Kp d) {X : D} : g__law_points_right_b1 [some X, some d] S = if ptB d = true then .nx [some X, some d] S else .rt (.bl false) S := by
  obtain ⟨hk, ht⟩ := h
  unfold g__law_points_right_b1
  cases d with
  | tup ds =>
    obtain ⟨ha, hl⟩ := ht ds rfl
    have z : sz ds.length := sz_is (by omega)
    by_cases h2 : ds.length = 2
    · obtain ⟨x, v, rfl⟩ := tup_len h2
      have b1 := lbetween_K (S := S) (ha x (by simp)) 1 9
      have b2 := lbetween_K (S := S) (ha v (by simp)) 0 2147483646
      have i0 := ix0 x v
      have i1 := ix1 x v
      have z2 : sz 2 := sz_is (by decide)
      have e : ptB (.tup [x, v]) = (btw 1 9 x && btw 0 2147483646 v) := rfl
      generalize opIxX = OI at *
      cases hb : btw 1 9 x <;> cases hc : btw 0 2147483646 v <;> rw [hb] at b1 <;> rw [hc] at b2 <;> rw [hb, hc] at e <;> simp [i0, i1, b1, b2, z2, e, Ty.isa]
    · have h2' : ¬ ((ds.length : Nat) : Int) = 2 := by omega
      rw [ptB_len h2]
      simp [Ty.isa, z, h2']
  | int _ => simp [Ty.isa, ptB]
  | bl _ => simp [Ty.isa, ptB]
  | non => simp [Ty.isa, ptB]
  | str _ => simp [Ty.isa, ptB]
  | lst _ => simp [Ty.isa, ptB]
  | dic _ _ => simp [Ty.isa, ptB]
  | _ => cases hk
theorem lp_loop {X : D} : ∀ (l : List D) (x1 : Option D), (∀ d ∈ l, Kp d) → (l.all ptB = true ∧ ∃ y, forD (bName 1) g__law_points_right_b1 l [some X, x1] S = .nx [some X, y] S) ∨ (l.all ptB = false ∧ forD (bName 1) g__law_points_right_b1 l [some X, x1] S = .rt (.bl false) S)
  | [], x1, _ => .inl ⟨rfl, x1, rfl⟩
  | d :: l, x1, h => by
    have e := lp_one (S := S) (X := X) (h d List.mem_cons_self)
    have bd : (bName 1) d [some X, x1] = some [some X, some d] := rfl
    cases hb : ptB d with
    | false =>
      rw [hb] at e
      refine .inr ⟨by rw [List.all_cons, hb]; rfl, ?_⟩
      rw [forD_cons, bd]
      dsimp only
      rw [e]
      rfl
    | true =>
      rw [hb] at e
      rcases lp_loop (X := X) l (some d) (fun x hx => h x (List.mem_cons_of_mem _ hx)) with ⟨a, y, k⟩ | ⟨a, k⟩
      · refine .inl ⟨by rw [List.all_cons, hb, a]; rfl, y, ?_⟩
        rw [forD_cons, bd]
        dsimp only
        rw [e]
        exact k
      · refine .inr ⟨by rw [List.all_cons, hb, a]; rfl, ?_⟩
        rw [forD_cons, bd]
        dsimp only
        rw [e]
        exact k
theorem lpts_K {X : D} (h : KX X) : d__law_points_right [X] S = .ok (.bl (ptsB X)) S := by
  obtain ⟨hk, hs⟩ := h
  have seq : ∀ ds, (X = .lst ds ∨ X = .tup ds) → d__law_points_right [X] S = .ok (.bl (ptsL ds)) S := by
    intro ds hX
    obtain ⟨hp, hl⟩ := hs ds hX
    have ty : (tyO S X).bind (tabOr (tabB .list) (tabOr (tabB .tuple) tabF)) = some true := by rcases hX with rfl | rfl <;> rfl
    have ln : bLenX [X] S = .ok (.int (ds.length : Nat)) S := by
      have z : sz ds.length := sz_is (by omega)
      rcases hX with rfl | rfl <;> simp [z]
    have is : ∀ x1, iSeq (eVar 0) [some X, x1] S = .ok ds S := fun x1 => by
      rw [iSeq_is, eVar_at (d := X) rfl]
      rcases hX with rfl | rfl <;> rfl
    have s1 : ds ≠ [] → (sIf (eOr (eNot (eIsC (tabOr (tabB .list) (tabOr (tabB .tuple) tabF)) (eVar 0))) (eOp opEq (eCallB bLenX (lCons (eVar 0) lNil)) (eC (.int 0)))) (sRet (eC (.bl false))) sSkip) [some X, none] S = .nx [some X, none] S := fun h0 => by
      have h0' : ¬ ((ds.length : Nat) : Int) = 0 := by
        have : ds.length ≠ 0 := fun z => h0 (List.length_eq_zero_iff.mp z)
        omega
      generalize tabOr (tabB .list) (tabOr (tabB .tuple) tabF) = TB at *
      simp [ty, ln, h0', h0]
    have s0 : ds = [] → (sIf (eOr (eNot (eIsC (tabOr (tabB .list) (tabOr (tabB .tuple) tabF)) (eVar 0))) (eOp opEq (eCallB bLenX (lCons (eVar 0) lNil)) (eC (.int 0)))) (sRet (eC (.bl false))) sSkip) [some X, none] S = .rt (.bl false) S := fun h0 => by
      subst h0
      have ln : bLenX [X] S = .ok (.int 0) S := ln
      generalize tabOr (tabB .list) (tabOr (tabB .tuple) tabF) = TB at *
      simp [ty, ln]
    unfold d__law_points_right
    by_cases h0 : ds = []
    · refine fnRt (S' := S) (d := .bl false) ?_ ?_
      · unfold g__law_points_right
        exact stR (s0 h0) rfl
      · subst h0
        exact exit_blS
    rcases lp_loop (S := S) (X := X) ds none hp with ⟨ha, y, lp⟩ | ⟨ha, lp⟩
    · obtain ⟨pts, rfl, hq⟩ := pts_are ds ha
      have lc := lcD_of (S := S) (b := bName 1) (elt := g__law_points_right_e1) (env := [some X, none]) prD (fun q => .int q.1) pts (fun q hq => ⟨_, rfl, by
        have i0 := ix0 (.int q.1) (.int q.2)
        unfold g__law_points_right_e1 prD
        generalize opIxX = OI at *
        simp [i0]⟩) (by have : pts.length ≤ 100 := by simpa using hl
                        omega)
      have kd : keysD (pts.map fun q => D.int q.1) = some (pts.map fun q => (.inl q.1 : Key)) := by
        have := keysD_dKey (pts.map fun q => (.inl q.1 : Key))
        rw [List.map_map] at this
        exact this
      have hl2 : pts.length ≤ 100 := by simpa using hl
      have e2 : eLenSet (eLc (iSeq (eVar 0)) (bName 1) eYes g__law_points_right_e1 [1]) [some X, y] S = .ok (.int (dcnt (pts.map fun q => (.inl q.1 : Key)) : Nat)) S := by
        rw [eLenSet_is]
        have : (eLc (iSeq (eVar 0)) (bName 1) eYes g__law_points_right_e1 [1]) [some X, y] S = .ok (.lst (pts.map fun q => D.int q.1)) S := by
          rw [eLc_is, is, LR.bindE_ok, show wipeD [some X, y] [1] = [some X, none] from rfl, lc]
          rfl
        rw [this, ER.bind_ok, show seqD S (.lst (pts.map fun q => D.int q.1)) = some (pts.map fun q => D.int q.1) from rfl, Option.bind_some, kd]
        dsimp only
        rw [if_pos (few_is (by simp; omega))]
      have ll : (pts.map prD).length = pts.length := by simp
      have dn : decide (((dcnt (pts.map fun q => (.inl q.1 : Key)) : Nat) : Int) = (pts.length : Nat)) = decide ((pts.map (·.1)).Nodup) := by
        have h1 := dcnt_eq (pts.map fun q => (Sum.inl q.1 : Key))
        rw [List.length_map] at h1
        have e3 : (pts.map fun q => (Sum.inl q.1 : Key)) = (pts.map (·.1)).map Sum.inl := by rw [List.map_map]; rfl
        have h2 : (pts.map fun q => (Sum.inl q.1 : Key)).Nodup ↔ (pts.map (·.1)).Nodup := by
          rw [e3]
          exact ⟨fun z => List.Pairwise.of_map (fun i : Int => (Sum.inl i : Key)) (fun a b h z => h (by rw [z])) z, fun z => z.map _ (fun a b h e => h (Sum.inl.inj e))⟩
        rw [decide_eq_decide, ← h2, ← h1]
        omega
      have e4 : ptsL (pts.map prD) = decide ((pts.map (·.1)).Nodup) := by
        unfold ptsL
        rw [ha, fsts_pr, decide_eq_true h0]; rfl
      rw [e4]
      refine fnRt (S' := S) (d := .bl (decide ((pts.map (·.1)).Nodup))) ?_ exit_blS
      unfold g__law_points_right
      refine stN (s1 h0) (stN (e := [some X, y]) (S' := S) ?_ ?_)
      · rw [sFor_is, is]
        exact lp
      · rw [ll] at ln
        generalize eLenSet (eLc (iSeq (eVar 0)) (bName 1) eYes g__law_points_right_e1 [1]) = LS at *
        generalize dcnt (pts.map fun q => (.inl q.1 : Key)) = DC at *
        generalize decide ((pts.map (·.1)).Nodup) = ND at *
        simp [e2, ln, dn]
    · have e4 : ptsL ds = false := by unfold ptsL; rw [ha]; simp
      rw [e4]
      refine fnRt (S' := S) (d := .bl false) ?_ exit_blS
      unfold g__law_points_right
      refine stN (s1 h0) (stR (S' := S) (d := .bl false) ?_ rfl)
      rw [sFor_is, is]
      exact lp
  cases X with
  | lst ds => exact seq ds (.inl rfl)
  | tup ds => exact seq ds (.inr rfl)
  | int _ => simp [d__law_points_right, g__law_points_right, Ty.isa, ptsB]
  | bl _ => simp [d__law_points_right, g__law_points_right, Ty.isa, ptsB]
  | non => simp [d__law_points_right, g__law_points_right, Ty.isa, ptsB]
  | str _ => simp [d__law_points_right, g__law_points_right, Ty.isa, ptsB]
  | dic _ _ => simp [d__law_points_right, g__law_points_right, Ty.isa, ptsB]
  | _ => cases hk
end DL.K53
end
section
/-! Restored, seeds, a safe: of anything; what is done. -/
namespace DL.K53
open PySem L2 DL Mp
open DR (lcD_fa dcD_new)
variable [DL.Nm]
variable {S : Store}
theorem need_any {X : D} (h : KX X) : (ptsB X = true ∧ d_need_points [X] S = .ok .non S ∧ ∃ pts, Sane pts ∧ PtsD pts X ∧ pts ≠ [] ∧ (pts.map (·.1)).Nodup) ∨ (ptsB X = false ∧ d_need_points [X] S = .ex noC S) := by
  obtain ⟨hk, hs⟩ := h
  cases X with
  | lst ds => exact need_seq (hs ds (.inl rfl)).1 (hs ds (.inl rfl)).2 (.inl rfl)
  | tup ds => exact need_seq (hs ds (.inr rfl)).1 (hs ds (.inr rfl)).2 (.inr rfl)
  | int _ => exact .inr ⟨rfl, by simp [d_need_points, g_need_points, d_is_listed, g_is_listed, Ty.isa, noC]⟩
  | bl _ => exact .inr ⟨rfl, by simp [d_need_points, g_need_points, d_is_listed, g_is_listed, Ty.isa, noC]⟩
  | non => exact .inr ⟨rfl, by simp [d_need_points, g_need_points, d_is_listed, g_is_listed, Ty.isa, noC]⟩
  | str _ => exact .inr ⟨rfl, by simp [d_need_points, g_need_points, d_is_listed, g_is_listed, Ty.isa, noC]⟩
  | dic _ _ => exact .inr ⟨rfl, by simp [d_need_points, g_need_points, d_is_listed, g_is_listed, Ty.isa, noC]⟩
  | _ => cases hk
theorem restored_any {X : D} (h : KX X) : (ptsB X = true ∧ ∃ c, d_restored [X] S = .ok (.int c) S) ∨ (ptsB X = false ∧ d_restored [X] S = .ex noC S) := by
  rcases need_any (S := S) h with ⟨b, _, pts, sn, pd, ne, nd⟩ | ⟨b, e⟩
  · obtain ⟨c, r, _, _, _, e⟩ := restored_ok (S := S) sn pd ne nd
    exact .inl ⟨b, c, e⟩
  · exact .inr ⟨b, by simp [d_restored, g_restored, e]⟩
def shift (n : Int) (pts : Pts) : Pts := pts.map fun q => (q.1, (q.2 - n) * backI q.1 % 2147483647)
theorem shift_len (n : Int) (pts : Pts) : (shift n pts).length = pts.length := by simp [shift]
theorem shift_sane {n : Int} {pts : Pts} (s : Sane pts) : Sane (shift n pts) := by
  refine ⟨fun q hq => ?_, fun q hq => ?_, by rw [shift_len]; exact s.len⟩
  · obtain ⟨r, hr, rfl⟩ := List.mem_map.mp hq
    exact s.x r hr
  · obtain ⟨r, hr, rfl⟩ := List.mem_map.mp hq
    exact mod_lt _
theorem seedsFor_ok {n : Int} {pts : Pts} {pd : D} (s : Sane pts) (hpd : PtsD pts pd) (hn : pts ≠ []) (nd : (pts.map (·.1)).Nodup) (h0 : 0 ≤ n) (h1 : n < 2147483647) :
    d_seeds_for [.int n, pd] S = .ok (.tup ((thru (shift n pts)).map .int)) S := by
  have hl := s.len
  have lc := lcD_of (S := S) (b := bTup (bCons (bName 2) (bCons (bName 3) bNil))) (elt := g_seeds_for_e1) (env := [some (.int n), some pd, none, none]) DL.prD (fun q => DL.prD (q.1, (q.2 - n) * backI q.1 % 2147483647)) pts (fun q hq => by
    have hv := s.v q hq
    refine ⟨_, rfl, ?_⟩
    have m1 : (q.2 - n).natAbs < 18446744073709551616 := by omega
    simp [g_seeds_for_e1, back_ok, m1, DL.prD]) (by omega)
  have e2 : pts.map (fun q => DL.prD (q.1, (q.2 - n) * backI q.1 % 2147483647)) = (shift n pts).map DL.prD := by unfold shift; rw [List.map_map]; rfl
  rw [e2] at lc
  have th := through_ok (S := S) (shift_sane (n := n) s) (pd := .lst ((shift n pts).map DL.prD)) (.inl rfl)
  have np := needPoints_ok (S := S) s hpd hn nd
  have es := hpd.seq (S := S) (env := [some (.int n), some pd, none, none]) (f := eVar 1) rfl
  rcases hpd with rfl | rfl <;> simp [d_seeds_for, g_seeds_for, low_ok h0 h1, np, lc, th, exit_tints0, -List.map_map]
theorem seeds_any {N X : D} (hN : Kd N = true) (h : KX X) : ((btw 0 2147483646 N && ptsB X) = true ∧ ∃ ns : List Int, d_seeds_for [N, X] S = .ok (.tup (ns.map .int)) S) ∨ ((btw 0 2147483646 N && ptsB X) = false ∧ d_seeds_for [N, X] S = .ex noC S) := by
  have l1 := low_K (S := S) hN
  cases hb : btw 0 2147483646 N with
  | false =>
    rw [hb] at l1
    exact .inr ⟨rfl, by simp [d_seeds_for, g_seeds_for, l1, noC]⟩
  | true =>
    obtain ⟨n, rfl, n0, n1⟩ := btw_is hb
    rw [hb] at l1
    rcases need_any (S := S) h with ⟨b, _, pts, sn, pd, ne, nd⟩ | ⟨b, e⟩
    · exact .inl ⟨by rw [b]; rfl, _, seedsFor_ok sn pd ne nd n0 (by omega)⟩
    · exact .inr ⟨by rw [b]; rfl, by simp [d_seeds_for, g_seeds_for, l1, e]⟩
/-! ### what is done -/
theorem told_no {S1 : Store} : h__law_safe_told (.ex noC S1) S = .ok (.lst [.str "NoCount"]) S1 := by
  have r := refusal_ok (S := S1) (c := "NoCount") (ks := []) (ds := []) (by decide +kernel) (by decide +kernel) (by decide +kernel) (by decide +kernel)
  unfold h__law_safe_told hLam
  refine fnRt (S' := S1) (d := .lst [.str "NoCount"]) ?_ rfl
  unfold gLamB g__law_safe_told_s1 g__law_safe_told_r1 noC
  have nn : (D.exn "NoCount" [] []).isN = false := rfl
  have z2 : sz 2 := sz_is (by decide)
  simp [startD, sTry_is, r, nn, z2]
theorem told_yes {d : D} {S1 : Store} : h__law_safe_told (.ok d S1) S = .ok d S1 := by
  unfold h__law_safe_told hLam
  refine fnRt (S' := S1) (d := d) ?_ rfl
  unfold gLamB g__law_safe_told_s1 g__law_safe_told_r1
  have nn : D.non.isN = true := rfl
  have z2 : sz 2 := sz_is (by decide)
  simp [startD, sTry_is, nn, z2]
theorem eq_nc : opEq (.lst [.str "NoCount"]) (.lst [.str "NoCount"]) S = .ok (.bl true) S := by
  have e := opEqB_of (S := S) (neg := false) (x := .lst [.str "NoCount"]) (y := .lst [.str "NoCount"]) (p := .list [.str "NoCount"]) (q := .list [.str "NoCount"]) (by simp [D.pyO, D.py, D.pys]) (by simp [D.pyO, D.py, D.pys]) (by decide +kernel) (by decide +kernel) (fun _ _ h => by cases h)
  have q : PyData.eqv (.list [.str "NoCount"]) (.list [.str "NoCount"]) = true := by decide +kernel
  rw [q] at e
  exact e
theorem done_no {S1 : Store} (h : S1.take S.length = S) : h__law_is_done (.ex noC S1) S = .ok (.int 0) S := by
  have t := told_no (S := S) (S1 := S1)
  have e := eq_nc (S := S1)
  unfold h__law_is_done hLam
  refine fnRt (S' := S1) (d := .int 0) ?_ (exit_of rfl h)
  unfold gLamC g__law_is_done_r1
  have z1 : sz 1 := sz_is (by decide)
  generalize opEq = OE at *
  simp [startD, t, e, z1, Ty.isa]
theorem done_yes {d : D} {S1 : Store} {t : TyD} (ht : tyO S1 d = some t) (hl : tabB .list t = some false) (h : S1.take S.length = S) : h__law_is_done (.ok d S1) S = .ok (.int 1) S := by
  have tt := told_yes (S := S) (S1 := S1) (d := d)
  unfold h__law_is_done hLam
  refine fnRt (S' := S1) (d := .int 1) ?_ (exit_of rfl h)
  unfold gLamC g__law_is_done_r1
  simp [startD, tt, ht, hl]
end DL.K53
end
section
/-! What is drawn: odd numbers, odd points; a safe. -/
namespace DL.K53
open PySem L2 DL Mp
open DR (dcD_new)
variable [DL.Nm]
variable {S : Store}
def oddL : List D := [.int (-1), .int 0, .int 2147483646, .int 2147483647, .bl true, .non, .str "1", .tup [], .lst [.int 1], .int 100000000000000000000, .int 1, .int 9, .int 10]
theorem odd_K {x : D} (h : x ∈ oddL) : Kp x := by
  unfold oddL at h
  simp only [List.mem_cons, List.not_mem_nil, or_false] at h
  rcases h with rfl | rfl | rfl | rfl | rfl | rfl | rfl | rfl | rfl | rfl | rfl | rfl | rfl <;> refine ⟨rfl, fun ds e => ?_⟩ <;> first | (cases e; exact ⟨fun _ h => (by cases h), by simp⟩) | cases e
theorem odd_ok {c : Cell} {m : Nat} (d : Drw c m) (hm : m ≤ 90000) : ∃ x c', d__law_odd_number [.loc 0] [c] = .ok x [c'] ∧ Kp x ∧ Drw c' (m + 1) := by
  obtain ⟨x, hx, c', p, d'⟩ := pick1 oddL d (by omega) (by simp [oddL]) (by simp [oddL])
  refine ⟨x, c', ?_, odd_K hx, d'⟩
  have z1 : sz 1 := sz_is (by decide)
  have z0 : sz 0 := sz_is (by decide)
  have z13 : sz 13 := sz_is (by decide)
  unfold oddL at p
  simp [d__law_odd_number, g__law_odd_number, p, z0, z1, z13]
theorem Kp.tup {a b : D} (ha : Kd a = true) (hb : Kd b = true) : Kp (.tup [a, b]) := ⟨rfl, fun ds e => by
  cases e
  exact ⟨fun d hd => (by
    rcases List.mem_cons.mp hd with rfl | hd
    · exact ha
    · rcases List.mem_cons.mp hd with rfl | hd
      · exact hb
      · cases hd), by simp⟩⟩
theorem Kp.pr (q : Int × Int) : Kp (prD q) := Kp.tup rfl rfl
theorem KX.l {ds : List D} (h : ∀ d ∈ ds, Kp d) (hl : ds.length ≤ 100) : KX (.lst ds) := ⟨rfl, fun l e => by
  rcases e with e | e <;> cases e
  exact ⟨h, hl⟩⟩
theorem KX.t {ds : List D} (h : ∀ d ∈ ds, Kp d) (hl : ds.length ≤ 100) : KX (.tup ds) := ⟨rfl, fun l e => by
  rcases e with e | e <;> cases e
  exact ⟨h, hl⟩⟩
theorem all_pr (pts : Pts) : ∀ d ∈ pts.map prD, Kp d := fun d hd => by
  obtain ⟨q, _, rfl⟩ := List.mem_map.mp hd
  exact .pr q
theorem all_app {a b : List D} (ha : ∀ d ∈ a, Kp d) (hb : ∀ d ∈ b, Kp d) : ∀ d ∈ a ++ b, Kp d := fun d hd => (List.mem_append.mp hd).elim (ha d) (hb d)
theorem all_one {a : D} (ha : Kp a) : ∀ d ∈ [a], Kp d := fun d hd => by
  rcases List.mem_cons.mp hd with rfl | hd
  · exact ha
  · cases hd
theorem odd_points_ok {pts : Pts} (h1 : 1 ≤ pts.length) (hl : pts.length ≤ 9) {c : Cell} {m : Nat} (d : Drw c m) (hm : m ≤ 80000) : ∃ X c', d__law_odd_points [.loc 0, .lst (pts.map prD)] [c] = .ok X [c'] ∧ KX X ∧ Drw c' (m + 4) := by
  obtain ⟨y, c1, n1, y0, y1, d1⟩ := next1 (pts.length : Nat) d (by omega) (by omega) (by omega)
  obtain ⟨j, rfl⟩ := Int.eq_ofNat_of_zero_le y0
  obtain ⟨q, hq⟩ : ∃ q, pts[j]? = some q := ⟨_, List.getElem?_eq_getElem (by omega)⟩
  obtain ⟨o1, c2, p1, k1, d2⟩ := odd_ok d1 (by omega)
  obtain ⟨o2, c3, p2, k2, d3⟩ := odd_ok d2 (by omega)
  obtain ⟨A, hA⟩ : ∃ A, A = (pts.take j).map prD := ⟨_, rfl⟩
  obtain ⟨B, hB⟩ : ∃ B, B = (pts.drop (j + 1)).map prD := ⟨_, rfl⟩
  obtain ⟨L, hL⟩ : ∃ L : List D, L = [.lst (A ++ [.tup [.int q.1, o1]] ++ B), .lst (pts.map prD ++ [prD q]), .tup (pts.map prD), .lst [], .lst (A ++ [.tup [o2, .int q.2]] ++ B), .lst (A ++ [.lst [.int q.1, .int q.2]]), .non, .lst (pts.map prD ++ [.tup [.int q.1, .int 5]]), .lst (pts.map prD ++ [.int 5]), .dic [] [], .str "ab", .lst (pts.map prD ++ [.tup [.int 1, .int 2, .int 3]]), .lst (pts.map prD)] := ⟨_, rfl⟩
  obtain ⟨X, hX, c4, p4, d4⟩ := pick1 L d3 (by omega) (by rw [hL]; simp) (by rw [hL]; simp)
  have lA : A.length ≤ 9 := by rw [hA, List.length_map, List.length_take]; omega
  have lB : B.length ≤ 9 := by rw [hB, List.length_map, List.length_drop]; omega
  have kA : ∀ d ∈ A, Kp d := by rw [hA]; exact all_pr _
  have kB : ∀ d ∈ B, Kp d := by rw [hB]; exact all_pr _
  have lP : (pts.map prD).length = pts.length := by simp
  refine ⟨X, c4, ?_, ?_, d4⟩
  · have P := pts.map prD
    have ix : ∀ S, opIxX (.lst (pts.map prD)) (.int (j : Nat)) S = .ok (prD q) S := fun S => by
      have a1 : atI (pts.map prD) ((j : Nat) : Int) = some (prD q) := by
        have := atI_ofNat (l := pts.map prD) (i := j) (by simp; omega)
        rw [this]
        have h2 : (pts.map prD)[j]? = some (prD q) := by rw [List.getElem?_map, hq]; rfl
        rw [List.getElem?_eq_getElem (by simp; omega)] at h2
        exact h2
      generalize pts.map prD = XM at *
      simp [a1]
    have ca : cutD (pts.map prD) none (some ((j : Nat) : Int)) = A := by rw [hA, DR.cut_hi, List.map_take]
    have cb : cutD (pts.map prD) (some (((j : Nat) : Int) + 1)) none = B := by
      rw [hB, show (((j : Nat) : Int) + 1) = ((j + 1 : Nat) : Int) by omega, DR.cut_lo, List.map_drop]
    have z0 : sz 0 := sz_is (by decide)
    have z1 : sz 1 := sz_is (by decide)
    have z2 : sz 2 := sz_is (by decide)
    have z3 : sz 3 := sz_is (by decide)
    have z4 : sz 4 := sz_is (by decide)
    have z5 : sz 5 := sz_is (by decide)
    have z6 : sz 6 := sz_is (by decide)
    have z7 : sz 7 := sz_is (by decide)
    have z13 : sz 13 := sz_is (by decide)
    have zp : sz (pts.map prD).length := sz_is (by omega)
    have zp1 : sz ((pts.map prD).length + 1) := sz_is (by omega)
    have za : sz (A.length + 1) := sz_is (by omega)
    have za2 : sz (A.length + 1 + B.length) := sz_is (by omega)
    have ln : bLenX [.lst (pts.map prD)] [c] = .ok (.int (pts.length : Nat)) [c] := by simp [sz_is (show pts.length ≤ 16777216 by omega)]
    have bt : ∀ S, bTuple [.lst (pts.map prD)] S = .ok (.tup (pts.map prD)) S := fun _ => rfl
    have on : ∀ e S, oNone e S = .ok none S := fun _ _ => rfl
    have os : ∀ (f : EM) (e : EnvD) (S S' : Store) (i : Int), f e S = .ok (.int i) S' → oSome f e S = .ok (some i) S' := fun f e S S' i h => by unfold oSome; rw [h]
    refine fnRt (S' := [c4]) (d := X) ?_ rfl
    show g__law_odd_points [some (.loc 0), some (.lst (pts.map prD)), none, none, none, none] [c] = _
    unfold g__law_odd_points
    refine stN (S' := [c1]) (e := [some (.loc 0), some (.lst (pts.map prD)), some (.int (j : Nat)), none, none, none]) ?_ ?_
    · generalize bLenX = BL at *
      generalize pts.map prD = PD at *
      simp [n1, ln]
    refine stN (S' := [c1]) (e := [some (.loc 0), some (.lst (pts.map prD)), some (.int (j : Nat)), some (.int q.1), some (.int q.2), none]) ?_ ?_
    · have e : prD q = .tup [.int q.1, .int q.2] := rfl
      rw [e] at ix
      generalize opIxX = OI at *
      generalize pts.map prD = PD at *
      simp [ix]
    have s1 : ∀ S, oSome (eVar 2) [some (.loc 0), some (.lst (pts.map prD)), some (.int (j : Nat)), some (.int q.1), some (.int q.2), none] S = .ok (some (j : Nat)) S := fun S => os _ _ _ _ _ rfl
    have s2 : ∀ x5 S, oSome (eVar 2) [some (.loc 0), some (.lst (pts.map prD)), some (.int (j : Nat)), some (.int q.1), some (.int q.2), x5] S = .ok (some (j : Nat)) S := fun x5 S => os _ _ _ _ _ rfl
    have s3 : ∀ x5 S, oSome (eOp opAdd (eVar 2) (eC (.int 1))) [some (.loc 0), some (.lst (pts.map prD)), some (.int (j : Nat)), some (.int q.1), some (.int q.2), x5] S = .ok (some ((j : Nat) + 1)) S := fun x5 S => os _ _ _ _ _ (by simp)
    refine stN (S' := [c2]) (e := [some (.loc 0), some (.lst (pts.map prD)), some (.int (j : Nat)), some (.int q.1), some (.int q.2), some (.lst [.lst (A ++ [.tup [.int q.1, o1]] ++ B), .lst (pts.map prD ++ [prD q]), .tup (pts.map prD), .lst []])]) ?_ ?_
    · generalize prD q = PQ at *
      generalize opIxX = OI at *
      generalize oSome = OS at *
      generalize pts.map prD = PD at *
      simp [ix, s2, s3, on, ca, cb, p1, bt, z0, z1, z2, z4, za, za2, zp, zp1]
    refine stN (S' := [c3]) (e := [some (.loc 0), some (.lst (pts.map prD)), some (.int (j : Nat)), some (.int q.1), some (.int q.2), some (.lst [.lst (A ++ [.tup [.int q.1, o1]] ++ B), .lst (pts.map prD ++ [prD q]), .tup (pts.map prD), .lst [], .lst (A ++ [.tup [o2, .int q.2]] ++ B), .lst (A ++ [.lst [.int q.1, .int q.2]]), .non])]) ?_ ?_
    · generalize prD q = PQ at *
      generalize oSome = OS at *
      generalize pts.map prD = PD at *
      simp [s2, s3, on, ca, cb, p2, z0, z1, z2, z3, z4, z7, za, za2, zp, zp1]
    rw [hL] at p4
    generalize prD q = PQ at *
    generalize pts.map prD = PD at *
    simp [p4, z0, z1, z2, z3, z4, z6, z7, z13, za, za2, zp, zp1] at p4 ⊢
    simp [p4]
  · have kk : ∀ d : D, Kd d = true → (∀ ds, d ≠ .tup ds) → Kp d := fun d h n => ⟨h, fun ds e => absurd e (n ds)⟩
    have kv : Kd o1 = true := k1.1
    have kv2 : Kd o2 = true := k2.1
    rw [hL] at hX
    simp only [List.mem_cons, List.not_mem_nil, or_false] at hX
    have kP := all_pr pts
    have t3 : Kp (.tup [.int 1, .int 2, .int 3]) := ⟨rfl, fun ds e => by
      cases e
      exact ⟨fun d hd => by
        simp only [List.mem_cons, List.not_mem_nil, or_false] at hd
        rcases hd with rfl | rfl | rfl <;> rfl, by simp⟩⟩
    rcases hX with rfl | rfl | rfl | rfl | rfl | rfl | rfl | rfl | rfl | rfl | rfl | rfl | rfl
    · exact .l (all_app (all_app kA (all_one (.tup rfl kv))) kB) (by simp; omega)
    · exact .l (all_app kP (all_one (.pr q))) (by simp; omega)
    · exact .t kP (by omega)
    · exact .l (fun d h => by cases h) (by simp)
    · exact .l (all_app (all_app kA (all_one (.tup kv2 rfl))) kB) (by simp; omega)
    · exact .l (all_app kA (all_one (kk _ rfl (fun _ z => by cases z)))) (by simp; omega)
    · exact ⟨rfl, fun l e => by rcases e with e | e <;> cases e⟩
    · exact .l (all_app kP (all_one (.tup rfl rfl))) (by simp; omega)
    · exact .l (all_app kP (all_one (kk _ rfl (fun _ z => by cases z)))) (by simp; omega)
    · exact ⟨rfl, fun l e => by rcases e with e | e <;> cases e⟩
    · exact ⟨rfl, fun l e => by rcases e with e | e <;> cases e⟩
    · exact .l (all_app kP (all_one t3)) (by simp; omega)
    · exact .l kP (by omega)
end DL.K53
end
section
/-! A safe, of any two things. -/
namespace DL.K53
open PySem L2 DL Mp
open DR (dcD_new)
variable [DL.Nm]
variable {S : Store}
theorem fl_c {B A : Store} {E : EnvD} {cs : List Str} {f : Str} {e : EM} {d : D} {fs : List (Str × D)} {A' : Store} (v0 : ∀ S, eVar 0 E S = .ok (.loc B.length) S) (hm : ("Safe" : Str) ∈ cs) (hl : fs.length < 1000) (he : e E (B ++ (.ins "Safe" fs :: A)) = .ok d (B ++ (.ins "Safe" fs :: A'))) :
    sFldC cs f (eVar 0) e E (B ++ (.ins "Safe" fs :: A)) = .nx E (B ++ (.ins "Safe" (putFD f d fs) :: A')) := by
  have g1 : (B ++ (Cell.ins "Safe" fs :: A'))[B.length]? = some (.ins "Safe" fs) := by simp
  have s1 : (B ++ (Cell.ins "Safe" fs :: A')).set B.length (.ins "Safe" (putFD f d fs)) = B ++ (.ins "Safe" (putFD f d fs) :: A') := by simp
  rw [sFldC_is, he, ER.bindS_ok, v0, ER.bindS_ok]
  dsimp only
  rw [g1]
  dsimp only
  rw [if_pos ⟨hm, hl⟩, s1]
theorem putFD_len (f : Str) (d : D) : ∀ fs : List (Str × D), (putFD f d fs).length ≤ fs.length + 1
  | [] => by simp [putFD]
  | (k, x) :: fs => by
    unfold putFD
    split
    · simp
    · simp; exact putFD_len f d fs
def safeB (T W : D) : Bool := btw 1 9 T && btw 1 (numT T) W
theorem init_any {T W : D} (hT : Kd T = true) (hW : Kd W = true) {B : Store} :
    (safeB T W = true ∧ ∃ fs A, d_Safe_init [.loc B.length, T, W] (B ++ [.ins "Safe" []]) = .ok .non (B ++ (.ins "Safe" fs :: A))) ∨ (safeB T W = false ∧ d_Safe_init [.loc B.length, T, W] (B ++ [.ins "Safe" []]) = .ex noC (B ++ [.ins "Safe" []])) := by
  have l1 := fun S => between_K (S := S) hT 1 9
  cases hb : btw 1 9 T with
  | false =>
    refine .inr ⟨by simp [safeB, hb], ?_⟩
    rw [hb] at l1
    refine fnEx (e := [some (.loc B.length), some T, some W, none]) ?_
    show g_Safe_init [some (.loc B.length), some T, some W, none] _ = _
    unfold g_Safe_init noC
    refine stX (S' := B ++ [.ins "Safe" []]) (e := [some (.loc B.length), some T, some W, none]) (q := ⟨"NoCount", none⟩) ?_ rfl
    generalize B ++ [Cell.ins "Safe" []] = U at *
    simp [l1]
  | true =>
    obtain ⟨t, rfl, t0, t1⟩ := btw_is hb
    obtain ⟨k, rfl⟩ := Int.eq_ofNat_of_zero_le (show 0 ≤ t by omega)
    have l2 := fun S => between_K (S := S) hW 1 (k : Nat)
    rw [hb] at l1
    cases hc : btw 1 (k : Nat) W with
    | false =>
      refine .inr ⟨by simp [safeB, hb, hc, numT], ?_⟩
      rw [hc] at l2
      refine fnEx (e := [some (.loc B.length), some (.int (k : Nat)), some W, none]) ?_
      show g_Safe_init [some (.loc B.length), some (.int (k : Nat)), some W, none] _ = _
      unfold g_Safe_init noC
      refine stX (S' := B ++ [.ins "Safe" []]) (e := [some (.loc B.length), some (.int (k : Nat)), some W, none]) (q := ⟨"NoCount", none⟩) ?_ rfl
      generalize B ++ [Cell.ins "Safe" []] = U at *
      simp [l1, l2]
    | true =>
      refine .inl ⟨by simp [safeB, hb, hc, numT], ?_⟩
      rw [hc] at l2
      obtain ⟨E, hE⟩ : ∃ E : EnvD, E = [some (.loc B.length), some (.int (k : Nat)), some W, none] := ⟨_, rfl⟩
      have v0 : ∀ S, eVar 0 E S = .ok (.loc B.length) S := fun S => eVar_at (by rw [hE]; rfl)
      have v1 : ∀ S, eVar 1 E S = .ok (.int (k : Nat)) S := fun S => eVar_at (by rw [hE]; rfl)
      have v2 : ∀ S, eVar 2 E S = .ok W S := fun S => eVar_at (by rw [hE]; rfl)
      have wE : wipeD E [3] = E := by rw [hE]; rfl
      have is : ∀ S, iRange2 (lCons (eC (.int 1)) (lCons (eOp opAdd (eVar 1) (eC (.int 1))) lNil)) E S = .ok ((xs k).map .int) S := fun S => by
        have r2 : rOk ((k : Int) + 1) := ⟨by omega, by omega⟩
        have r1 : rOk (1 : Int) := ⟨by decide, by decide⟩
        have e3 : ((k : Int) + 1 - 1).toNat = k := by omega
        have rx := range_xs k
        simp [v1, r1, r2, e3, rx]
      have ndk : ((xs k).map fun x => (.inl x : Key)).Nodup := by
        unfold xs
        rw [List.map_map]
        exact List.Pairwise.map _ (fun a b h z => h (by have : (1 : Int) + (a : Nat) = 1 + (b : Nat) := Sum.inl.inj z
                                                        omega)) List.nodup_range
      have k2 : ∀ S, dcD (bName 3) eYes (eVar 3) g_Safe_init_e1 E [] ((xs k).map .int) S = some ((xs k).map fun x => ((.inl x : Key), D.dic [] []), S) := fun S => dcD_new .int (fun x => .int x) (fun x => .inl x) (fun _ => .dic [] []) (xs k) (fun x hx => by
        refine ⟨[some (.loc B.length), some (.int (k : Nat)), some W, some (.int x)], by rw [hE]; rfl, ?_, rfl, rfl⟩
        simp) ndk (by simp [xs]; omega)
      have e2 : ∀ S, (eDcM (iRange2 (lCons (eC (.int 1)) (lCons (eOp opAdd (eVar 1) (eC (.int 1))) lNil))) (bName 3) eYes (eVar 3) g_Safe_init_e1 [3]) E S = .ok (.loc S.length) (S ++ [.dic ((xs k).map fun x => ((.inl x : Key), D.dic [] []))]) := fun S => by
        rw [eDcM_is, is, LR.bindE_ok, wE, k2]
      have e3 : ∀ S, eDic0M E S = .ok (.loc S.length) (S ++ [.dic []]) := fun S => rfl
      have ap : ∀ (fs : List (Str × D)) (A : Store) (c : Cell), (B ++ (Cell.ins "Safe" fs :: A)) ++ [c] = B ++ (.ins "Safe" fs :: (A ++ [c])) := fun fs A c => by simp
      have ff : ∀ (e : EM) (f : Str) (cs : List Str) (fs : List (Str × D)) (A : Store) (c : Cell), ("Safe" : Str) ∈ cs → fs.length < 1000 → (∀ S, e E S = .ok (.loc S.length) (S ++ [c])) →
          ∃ d A', sFldC cs f (eVar 0) e E (B ++ (.ins "Safe" fs :: A)) = .nx E (B ++ (.ins "Safe" (putFD f d fs) :: A')) := fun e f cs fs A c hm hl he => ⟨_, _, fl_c v0 hm hl ((he _).trans (by rw [ap]))⟩
      have s1 := fl_c (B := B) (A := []) (cs := ["Safe"]) (f := "many") (fs := []) v0 (by simp) (by simp) (v1 _)
      have l1' := putFD_len "many" (.int (k : Nat)) []
      have s2 := fl_c (B := B) (A := []) (cs := ["Safe"]) (f := "wanted") (fs := putFD "many" (.int (k : Nat)) []) v0 (by simp) (by simp at l1'; omega) (v2 _)
      have l2' := putFD_len "wanted" W (putFD "many" (.int (k : Nat)) [])
      obtain ⟨d3, A3, s3⟩ := ff _ "drawers" ["Safe"] (putFD "wanted" W (putFD "many" (.int (k : Nat)) [])) [] _ (by simp) (by simp at l1'; omega) e2
      have l3' := putFD_len "drawers" d3 (putFD "wanted" W (putFD "many" (.int (k : Nat)) []))
      obtain ⟨d4, A4, s4⟩ := ff _ "known" ["Center", "Safe"] (putFD "drawers" d3 (putFD "wanted" W (putFD "many" (.int (k : Nat)) []))) A3 _ (by simp) (by simp at l1'; omega) e3
      refine ⟨_, A4, fnNx (e := E) (S' := B ++ (Cell.ins "Safe" (putFD "known" d4 (putFD "drawers" d3 (putFD "wanted" W (putFD "many" (.int (k : Nat)) [])))) :: A4)) ?_ rfl⟩
      have g0 : (sIf (eOr (eNot (eCall d_is_between (lCons (eVar 1) (lCons (eC (.int 1)) (lCons (eC (.int 9)) lNil))))) (eNot (eCall d_is_between (lCons (eVar 2) (lCons (eC (.int 1)) (lCons (eVar 1) lNil)))))) (sRaise "NoCount") sSkip) E (B ++ [Cell.ins "Safe" []]) = .nx E (B ++ [Cell.ins "Safe" []]) := by
        generalize B ++ [Cell.ins "Safe" []] = U at *
        simp [v1, v2, l1, l2]
      unfold g_Safe_init
      rw [show startD 4 [D.loc B.length, .int (k : Nat), W] = E from by rw [hE]; rfl]
      exact stN g0 (stN s1 (stN s2 (stN s3 s4)))
/-- Safe(there, wanted), done -/
theorem safe_done {T W : D} (hT : Kd T = true) (hW : Kd W = true) {i j : Nat} {e : EnvD} (vi : ∀ S, eVar i e S = .ok T S) (vj : ∀ S, eVar j e S = .ok W S) :
    eLam h__law_is_done (eMake "Safe" d_Safe_init (lCons (eVar i) (lCons (eVar j) lNil))) e S = .ok (.int (if safeB T W then 1 else 0)) S := by
  have ar : lCons (eVar i) (lCons (eVar j) lNil) e S = .ok [T, W] S := by simp [vi, vj]
  unfold eLam eMake
  rw [ar]
  show h__law_is_done (match d_Safe_init (.loc S.length :: [T, W]) (S ++ [.ins "Safe" []]) with | .ok .non S2 => _ | .ex x S2 => _ | _ => _) S = _
  rcases init_any hT hW (B := S) with ⟨b, fs, A, e⟩ | ⟨b, e⟩
  · rw [e, b]
    refine done_yes (t := .o "Safe") ?_ rfl (by simp)
    rw [tyO_loc]
    have : cel (S ++ (Cell.ins "Safe" fs :: A)) S.length = some (.ins "Safe" fs) := by unfold cel; simp
    rw [this]
  · rw [e, b]
    exact done_no (by simp)
end DL.K53
end
section
/-! A turn. -/
namespace DL.K53
open PySem L2 DL Mp
variable [DL.Nm]
variable {S : Store}
theorem lows (env : EnvD) (h2 : env[2]? = some (some (.loc 0))) : ∀ (ds : List D) (acc : List D) (c : Cell) (m : Nat), Drw c m → m + 4 * ds.length ≤ 9000 → acc.length + ds.length ≤ 1000 →
    ∃ (vs : List Int) (c' : Cell), lcD (bName 12) eYes g__law_right_e1 env acc ds [c] = .ok (acc ++ vs.map .int) [c'] ∧ vs.length = ds.length ∧ (∀ v ∈ vs, 0 ≤ v ∧ v < 2147483647) ∧ Drw c' (m + 4 * ds.length)
  | [], acc, c, m, d, _, _ => ⟨[], c, by simp, rfl, fun v h => by simp at h, d⟩
  | k :: ds, acc, c, m, d, hm, ha => by
    have hm' : m + 4 * (ds.length + 1) ≤ 9000 := hm
    have ha' : acc.length + (ds.length + 1) ≤ 1000 := ha
    obtain ⟨v, c1, e1, v0, v1, d1⟩ := low_draw d (by omega)
    obtain ⟨vs, c', e2, l2, low2, d2⟩ := lows env h2 ds (acc ++ [.int v]) c1 (m + 4) d1 (by omega) (by simp; omega)
    refine ⟨v :: vs, c', ?_, by simp [l2], ?_, by rw [show m + 4 * (k :: ds).length = m + 4 + 4 * ds.length by simp; omega]; exact d2⟩
    · unfold lcD
      dsimp only [bName, eYes]
      have h8 : (env.set 12 (some k))[2]? = some (some (.loc 0)) := by rw [List.getElem?_set_ne (by decide)]; exact h2
      have ee : g__law_right_e1 (env.set 12 (some k)) [c] = .ok (.int v) [c1] := by simp [g__law_right_e1, h8, e1]
      rw [ee]
      dsimp only
      rw [if_pos (show sz (acc.length + 1) from sz_is (by omega)), e2]
      simp
    · intro z hz
      rcases List.mem_cons.mp hz with rfl | hz
      · exact ⟨v0, v1⟩
      · exact low2 z hz
theorem lowPts (env : EnvD) (h2 : env[2]? = some (some (.loc 0))) (hl : 11 < env.length) : ∀ (xs : List Int) (acc : List D) (c : Cell) (m : Nat), Drw c m → m + 4 * xs.length ≤ 9000 → acc.length + xs.length ≤ 1000 →
    ∃ (pts : Pts) (c' : Cell), lcD (bName 11) eYes g__law_right_e2 env acc (xs.map .int) [c] = .ok (acc ++ pts.map DL.prD) [c'] ∧ pts.map (·.1) = xs ∧ (∀ q ∈ pts, 0 ≤ q.2 ∧ q.2 < 2147483647) ∧ Drw c' (m + 4 * xs.length)
  | [], acc, c, m, d, _, _ => ⟨[], c, by simp, rfl, fun v h => by simp at h, d⟩
  | x :: xs, acc, c, m, d, hm, ha => by
    have hm' : m + 4 * (xs.length + 1) ≤ 9000 := hm
    have ha' : acc.length + (xs.length + 1) ≤ 1000 := ha
    obtain ⟨v, c1, e1, v0, v1, d1⟩ := low_draw d (by omega)
    obtain ⟨pts, c', e2, l2, low2, d2⟩ := lowPts env h2 hl xs (acc ++ [DL.prD (x, v)]) c1 (m + 4) d1 (by omega) (by simp; omega)
    refine ⟨(x, v) :: pts, c', ?_, by simp [l2], ?_, by rw [show m + 4 * (x :: xs).length = m + 4 + 4 * xs.length by simp; omega]; exact d2⟩
    · rw [List.map_cons]
      unfold lcD
      dsimp only [bName, eYes]
      have h8 : (env.set 11 (some (.int x)))[2]? = some (some (.loc 0)) := by rw [List.getElem?_set_ne (by decide)]; exact h2
      have h12 : (env.set 11 (some (.int x)))[11]? = some (some (.int x)) := List.getElem?_set_self hl
      have ee : g__law_right_e2 (env.set 11 (some (.int x))) [c] = .ok (DL.prD (x, v)) [c1] := by simp [g__law_right_e2, h8, h12, e1, DL.prD]
      rw [ee]
      dsimp only
      rw [if_pos (show sz (acc.length + 1) from sz_is (by omega)), e2]
      simp
    · intro z hz
      rcases List.mem_cons.mp hz with rfl | hz
      · exact ⟨v0, v1⟩
      · exact low2 z hz
theorem shuffled_ok {α : Type} (f : α → D) (hf : ∀ ρ a, frzD ρ (f a) = some (f a)) (l : List α) {c : Cell} {m : Nat} (d : Drw c m) (hm : m + l.length ≤ 90000) (hl : l.length ≤ 900) :
    ∃ (l' : List α) (c' : Cell), d__law_shuffled [.loc 0, .lst (l.map f)] [c] = .ok (.lst (l'.map f)) [c'] ∧ l'.Perm l ∧ Drw c' (m + l.length) := by
  obtain ⟨l', c', h1, h2, h3⟩ := shuffle_loop f (elt := g__law_shuffled_e1) (env := [some (.loc 0), some (.lst (l.map f)), some (.loc 1), none]) (fun k S => rfl) l.length (rangeD 0 l.length) l [] c m rfl (by simp) (by simp; omega) d hm
  refine ⟨l', c', ?_, h2, h3⟩
  have r : rOk (l.length : Int) := rOk_n (by omega)
  have ex : exitD .pure [c] (.lst (l'.map f)) [c', .lst []] = .ok (.lst (l'.map f)) [c'] := exit_draw (by simp [frzD, frzDs_map (hf _)]) h3.bel
  rw [List.nil_append] at h1
  simp [d__law_shuffled, g__law_shuffled, r, h1, ex]
theorem lam_of {f : EM} {e : EnvD} {b : Bool} (h : (b = true ∧ ∃ d t, f e S = .ok d S ∧ tyO S d = some t ∧ tabB .list t = some false) ∨ (b = false ∧ f e S = .ex noC S)) : eLam h__law_is_done f e S = .ok (.int (if b then 1 else 0)) S := by
  unfold eLam
  rcases h with ⟨rfl, d, t, h, ht, hl⟩ | ⟨rfl, h⟩
  · rw [h]
    exact done_yes ht hl (by simp)
  · rw [h]
    exact done_no (by simp)
/-- is it done just where the law says so -/
theorem if_done {f : EM} {g : EM} {e : EnvD} {b : Bool} (h : eLam h__law_is_done f e S = .ok (.int (if b then 1 else 0)) S) (hg : g e S = .ok (.bl b) S) :
    (sIf (eOp opNe (eLam h__law_is_done f) (eCallB bInt (lCons g lNil))) (sRet (eC (.bl false))) sSkip) e S = .nx e S := by
  generalize eLam h__law_is_done f = EL at *
  cases b <;> simp [h, hg]
abbrev tE (cell k : Int) (n : Nat) (x4 x5 x6 x7 x8 x9 x10 x11 x12 : Option D) : EnvD := [some (.int cell), some (.int k), some (.loc 0), some (.int (n : Nat)), x4, x5, x6, x7, x8, x9, x10, x11, x12]
section
variable {cell k : Int} {n : Nat} {x4 x5 x6 x7 x8 x9 x10 x11 x12 : Option D} {c : Cell} {m : Nat}
theorem st_number (d : Drw c m) (hm : m ≤ 5000) : ∃ N c', (sAsg (eIf (eOp opGt (eCall d__law_next (lCons (eVar 2) (lCons (eC (.int 3)) lNil))) (eC (.int 0))) (eCall d__law_low (lCons (eVar 2) lNil)) (eCall d__law_odd_number (lCons (eVar 2) lNil))) (bName 5)) (tE cell k n x4 x5 x6 x7 x8 x9 x10 x11 x12) [c] = .nx (tE cell k n x4 (some N) x6 x7 x8 x9 x10 x11 x12) [c'] ∧ Kd N = true ∧ Drw c' (m + 5) := by
  obtain ⟨y, c1, n1, y0, y1, d1⟩ := next1 3 d (by omega) (by decide) (by decide)
  by_cases hy : y > 0
  · obtain ⟨v, c2, e2, _, _, d2⟩ := low_draw d1 (by omega)
    exact ⟨.int v, c2, by simp [n1, hy, e2], rfl, d2⟩
  · obtain ⟨x, c2, e2, kx, d2⟩ := odd_ok d1 (by omega)
    exact ⟨x, c2, by simp [n1, hy, e2], kx.1, d2.mono (by omega)⟩
theorem st_there (hn : n ≤ 9) (d : Drw c m) (hm : m ≤ 5000) : ∃ T c', (sAsg (eIf (eOp opGt (eCall d__law_next (lCons (eVar 2) (lCons (eC (.int 3)) lNil))) (eC (.int 0))) (eVar 3) (eCall d__law_odd_number (lCons (eVar 2) lNil))) (bName 7)) (tE cell k n x4 x5 x6 x7 x8 x9 x10 x11 x12) [c] = .nx (tE cell k n x4 x5 x6 (some T) x8 x9 x10 x11 x12) [c'] ∧ Kd T = true ∧ Drw c' (m + 5) := by
  obtain ⟨y, c1, n1, y0, y1, d1⟩ := next1 3 d (by omega) (by decide) (by decide)
  by_cases hy : y > 0
  · exact ⟨.int (n : Nat), c1, by simp [n1, hy], rfl, d1.mono (by omega)⟩
  · obtain ⟨x, c2, e2, kx, d2⟩ := odd_ok d1 (by omega)
    exact ⟨x, c2, by simp [n1, hy, e2], kx.1, d2.mono (by omega)⟩
theorem st_wanted (d : Drw c m) (hm : m ≤ 5000) : ∃ W c', (sAsg (eCall d__law_pick (lCons (eVar 2) (lCons (eLst (lCons (eC (.int 1)) (lCons (eVar 3) (lCons (eOp opAdd (eVar 3) (eC (.int 1))) (lCons (eC (.int 0)) (lCons (eCall d__law_odd_number (lCons (eVar 2) lNil)) lNil)))))) lNil))) (bName 10)) (tE cell k n x4 x5 x6 x7 x8 x9 x10 x11 x12) [c] = .nx (tE cell k n x4 x5 x6 x7 x8 x9 (some W) x11 x12) [c'] ∧ Kd W = true ∧ Drw c' (m + 5) := by
  obtain ⟨x, c1, e1, kx, d1⟩ := odd_ok d (by omega)
  obtain ⟨W, hW, c2, p2, d2⟩ := pick1 [.int 1, .int (n : Nat), .int ((n : Nat) + 1), .int 0, x] d1 (by omega) (by simp) (by simp)
  have z5 : sz 5 := sz_is (by decide)
  refine ⟨W, c2, by simp [e1, p2, z5], ?_, d2.mono (by omega)⟩
  simp only [List.mem_cons, List.not_mem_nil, or_false] at hW
  rcases hW with rfl | rfl | rfl | rfl | rfl
  · rfl
  · rfl
  · rfl
  · rfl
  · exact kx.1
theorem st_seeds (hn : n ≤ 9) (d : Drw c m) (hm : m ≤ 5000) : ∃ (ss : List Int) (c' : Cell), (sAsg (eCallB bTuple (lCons (eLc (iRange1 (lCons (eCall d__law_next (lCons (eVar 2) (lCons (eOp opAdd (eVar 3) (eC (.int 1))) lNil))) lNil)) (bName 12) eYes g__law_right_e1 [12]) lNil)) (bName 6)) (tE cell k n x4 x5 x6 x7 x8 x9 x10 x11 x12) [c] = .nx (tE cell k n x4 x5 (some (.tup (ss.map .int))) x7 x8 x9 x10 x11 x12) [c'] ∧ ss.length ≤ 10 ∧ Drw c' (m + 45) := by
  obtain ⟨y, c1, n1, y0, y1, d1⟩ := next1 ((n : Nat) + 1) d (by omega) (by omega) (by omega)
  obtain ⟨j, rfl⟩ := Int.eq_ofNat_of_zero_le y0
  obtain ⟨vs, c2, e2, l2, _, d2⟩ := lows (wipeD (tE cell k n x4 x5 x6 x7 x8 x9 x10 x11 x12) [12]) rfl (rangeD 0 j) [] c1 (m + 1) d1 (by simp; omega) (by simp; omega)
  have lr : (rangeD 0 j).length = j := by simp
  rw [lr] at l2 d2
  rw [List.nil_append] at e2
  refine ⟨vs, c2, ?_, by omega, d2.mono (by omega)⟩
  have r : rOk (j : Int) := rOk_n (by omega)
  have wE : wipeD (tE cell k n x4 x5 x6 x7 x8 x9 x10 x11 x12) [12] = tE cell k n x4 x5 x6 x7 x8 x9 x10 x11 none := rfl
  rw [wE] at e2
  unfold tE at e2
  generalize vs.map D.int = VS at *
  simp [n1, r, e2]
theorem st_seeds2 {ss : List Int} (hl : ss.length ≤ 10) (d : Drw c m) (hm : m ≤ 5000) : ∃ X c', (sIf (eOp opEq (eCall d__law_next (lCons (eVar 2) (lCons (eC (.int 4)) lNil))) (eC (.int 0)))
(sAsg (eCall d__law_pick (lCons (eVar 2) (lCons (eLst (lCons (eCallB bListX (lCons (eVar 6) lNil)) (lCons (eOp opAdd (eVar 6) (eTup (lCons (eCall d__law_odd_number (lCons (eVar 2) lNil)) lNil))) (lCons (eC .non) (lCons (eC (.int 5)) (lCons (eOp opAdd (eVar 6) (eTup (lCons (eC (.str "a")) lNil))) lNil)))))) lNil))) (bName 6))
sSkip) (tE cell k n x4 x5 (some (.tup (ss.map .int))) x7 x8 x9 x10 x11 x12) [c] = .nx (tE cell k n x4 x5 (some X) x7 x8 x9 x10 x11 x12) [c'] ∧ Kd X = true ∧ (∀ ds, X = .tup ds → AllK ds ∧ ds.length ≤ 100) ∧ Drw c' (m + 5) := by
  obtain ⟨y, c1, n1, y0, y1, d1⟩ := next1 4 d (by omega) (by decide) (by decide)
  have ka : AllK (ss.map .int) := fun d hd => by
    obtain ⟨a, _, rfl⟩ := List.mem_map.mp hd
    rfl
  have ll : (ss.map D.int).length = ss.length := by simp
  by_cases hy : y = 0
  · subst hy
    obtain ⟨x, c2, e2, kx, d2⟩ := odd_ok d1 (by omega)
    obtain ⟨X, hX, c3, p3, d3⟩ := pick1 [.lst (ss.map .int), .tup (ss.map .int ++ [x]), .non, .int 5, .tup (ss.map .int ++ [.str "a"])] d2 (by omega) (by simp) (by simp)
    have z1 : sz 1 := sz_is (by decide)
    have z5 : sz 5 := sz_is (by decide)
    have za : sz ((ss.map D.int).length + 1) := sz_is (by omega)
    have zb : sz (ss.map D.int).length := sz_is (by omega)
    refine ⟨X, c3, ?_, ?_, ?_, d3.mono (by omega)⟩
    · generalize ss.map D.int = SS at *
      simp [n1, e2, p3, z1, z5, za, zb]
    · simp only [List.mem_cons, List.not_mem_nil, or_false] at hX
      rcases hX with rfl | rfl | rfl | rfl | rfl <;> rfl
    · intro ds e
      simp only [List.mem_cons, List.not_mem_nil, or_false] at hX
      have app : ∀ a, Kd a = true → AllK (ss.map D.int ++ [a]) ∧ (ss.map D.int ++ [a]).length ≤ 100 := fun a ha => ⟨fun d hd => by
        rcases List.mem_append.mp hd with hd | hd
        · exact ka d hd
        · rcases List.mem_cons.mp hd with rfl | hd
          · exact ha
          · exact (nomatch hd), (by simp; omega)⟩
      rcases hX with rfl | rfl | rfl | rfl | rfl
      · cases e
      · cases e
        exact app x kx.1
      · cases e
      · cases e
      · cases e
        exact app _ rfl
  · refine ⟨.tup (ss.map .int), c1, ?_, rfl, fun ds e => ?_, d1.mono (by omega)⟩
    · generalize ss.map D.int = SS at *
      simp [n1, hy]
    · cases e
      exact ⟨ka, by omega⟩
end
end DL.K53
end
section
/-! The law. -/
namespace DL.K53
open PySem L2 DL Mp
variable [DL.Nm]
variable {S : Store}
section
variable {cell k : Int} {n : Nat} {x4 x5 x6 x7 x8 x9 x10 x11 x12 : Option D} {c : Cell} {m : Nat}
theorem st_good1 {N X T : D} (hN : Kd N = true) (hk : Kd X = true) (hX : ∀ ds, X = .tup ds → AllK ds ∧ ds.length ≤ 100) (hT : Kd T = true) :
    (sAsg (eAnd (eCall d__law_between (lCons (eVar 5) (lCons (eC (.int 0)) (lCons (eC (.int 2147483646)) lNil)))) (eAnd (eCall d__law_lows_right (lCons (eVar 6) lNil)) (eCall d__law_between (lCons (eVar 7) (lCons (eC (.int 1)) (lCons (eC (.int 9)) lNil)))))) (bName 8)) (tE cell k n x4 (some N) (some X) (some T) x8 x9 x10 x11 x12) S = .nx (tE cell k n x4 (some N) (some X) (some T) (some (.bl (btw 0 2147483646 N && (lowsB X && btw 1 9 T)))) x9 x10 x11 x12) S := by
  have l1 := lbetween_K (S := S) hN 0 2147483646
  have l2 := lawlows_K (S := S) hk hX
  have l3 := lbetween_K (S := S) hT 1 9
  cases h1 : btw 0 2147483646 N <;> rw [h1] at l1
  · simp [l1]
  · cases h2 : lowsB X <;> rw [h2] at l2 <;> simp [l1, l2, l3]
theorem st_good2 {N X T : D} (hX : ∀ ds, X = .tup ds → AllK ds ∧ ds.length ≤ 100) :
    (sAsg (eAnd (eVar 8) (eOp opLt (eCallB bLenX (lCons (eVar 6) lNil)) (eVar 7))) (bName 8)) (tE cell k n x4 (some N) (some X) (some T) (some (.bl (btw 0 2147483646 N && (lowsB X && btw 1 9 T)))) x9 x10 x11 x12) S = .nx (tE cell k n x4 (some N) (some X) (some T) (some (.bl (dealB N X T))) x9 x10 x11 x12) S := by
  have e : dealB N X T = ((btw 0 2147483646 N && (lowsB X && btw 1 9 T)) && decide ((lenD X : Int) < numT T)) := by unfold dealB; rw [Bool.and_assoc (btw 0 2147483646 N)]
  cases h : (btw 0 2147483646 N && (lowsB X && btw 1 9 T)) with
  | false =>
    rw [h] at e
    rw [e]
    simp
  | true =>
    rw [h] at e
    simp only [Bool.and_eq_true] at h
    obtain ⟨ns, rfl, _⟩ := lows_is h.2.1
    obtain ⟨t, rfl, _, _⟩ := btw_is h.2.2
    have z : sz (ns.map D.int).length := sz_is (by have := (hX _ rfl).2; omega)
    have e1 : (lenD (.tup (ns.map .int)) : Int) = ((ns.map D.int).length : Nat) := rfl
    rw [e, e1]
    have e2 : numT (.int t) = t := rfl
    rw [e2]
    generalize ns.map D.int = NS at *
    simp [z]
theorem st_points (h1 : 1 ≤ n) (hn : n ≤ 9) (d : Drw c m) (hm : m ≤ 5000) : ∃ (pts : Pts) (c' : Cell), (sAsg (eLc (iSeq (eSlice (eCall d__law_shuffled (lCons (eVar 2) (lCons (eLRg (rg2 (eC (.int 1)) (eC (.int 10)))) lNil))) oNone (oSome (eVar 3)))) (bName 11) eYes g__law_right_e2 [11]) (bName 9)) (tE cell k n x4 x5 x6 x7 x8 x9 x10 x11 x12) [c] = .nx (tE cell k n x4 x5 x6 x7 x8 (some (.lst (pts.map prD))) x10 x11 x12) [c'] ∧ 1 ≤ pts.length ∧ pts.length ≤ 9 ∧ Drw c' (m + 50) := by
  obtain ⟨l, c1, s1, pm, d1⟩ := shuffled_ok D.int (fun _ _ => rfl) (xs 9) d (by simp [xs]; omega) (by simp [xs])
  have lx : (xs 9).length = 9 := by simp [xs]
  have ll : l.length = 9 := by rw [pm.length_eq, lx]
  have lt : (l.take n).length = n := by rw [List.length_take]; omega
  obtain ⟨pts, c2, e2, p1, _, d2⟩ := lowPts (tE cell k n x4 x5 x6 x7 x8 x9 x10 none x12) rfl (by simp) (l.take n) [] c1 (m + 9) (d1.mono (by rw [lx]; exact Nat.le_refl _)) (by rw [lt]; omega) (by rw [lt]; simp; omega)
  rw [lt] at d2
  have lp : pts.length = n := by
    have := congrArg List.length p1
    rw [List.length_map, lt] at this
    exact this
  refine ⟨pts, c2, ?_, by omega, by omega, d2.mono (by omega)⟩
  have rx : rangeD 1 9 = (xs 9).map .int := range_xs 9
  have ct : cutD (l.map D.int) none (some ((n : Nat) : Int)) = (l.take n).map .int := by rw [DR.cut_hi, List.map_take]
  have wE : wipeD (tE cell k n x4 x5 x6 x7 x8 x9 x10 x11 x12) [11] = tE cell k n x4 x5 x6 x7 x8 x9 x10 none x12 := rfl
  rw [List.nil_append] at e2
  have i0 : iSeq (eSlice (eCall d__law_shuffled (lCons (eVar 2) (lCons (eLRg (rg2 (eC (.int 1)) (eC (.int 10)))) lNil))) oNone (oSome (eVar 3))) (tE cell k n x4 x5 x6 x7 x8 x9 x10 x11 x12) [c] = .ok ((l.take n).map .int) [c1] := by
    have on : ∀ e S, oNone e S = .ok none S := fun _ _ => rfl
    have os : ∀ S, oSome (eVar 3) (tE cell k n x4 x5 x6 x7 x8 x9 x10 x11 x12) S = .ok (some (n : Nat)) S := fun S => by unfold oSome; rw [eVar_at (d := .int (n : Nat)) rfl]
    have r1 : rOk (1 : Int) := ⟨by decide, by decide⟩
    have r10 : rOk (10 : Int) := ⟨by decide, by decide⟩
    have z9 : sz 9 := sz_is (by decide)
    have rr : rangeD 1 ((10 : Int) - 1).toNat = (xs 9).map .int := rx
    have lr : (eLRg (rg2 (eC (.int 1)) (eC (.int 10)))) (tE cell k n x4 x5 x6 x7 x8 x9 x10 x11 x12) [c] = .ok (.lst ((xs 9).map .int)) [c] := by
      have e9 : ((10 : Int) - 1).toNat = 9 := by decide
      simp [r1, r10, rx, e9, z9]
    generalize eLRg (rg2 (eC (.int 1)) (eC (.int 10))) = RG at *
    generalize (xs 9).map D.int = XS at *
    generalize l.map D.int = LL at *
    generalize oSome (eVar 3) = OS at *
    simp [lr, s1, on, os, ct]
  rw [sAsg_is, eLc_is, i0, LR.bindE_ok, wE, e2]
  rfl
theorem st_points2 {pts : Pts} (h1 : 1 ≤ pts.length) (hl : pts.length ≤ 9) (d : Drw c m) (hm : m ≤ 5000) : ∃ X c', (sAsg (eIf (eOp opGt (eCall d__law_next (lCons (eVar 2) (lCons (eC (.int 3)) lNil))) (eC (.int 0))) (eCall d__law_odd_points (lCons (eVar 2) (lCons (eVar 9) lNil))) (eVar 9)) (bName 9)) (tE cell k n x4 x5 x6 x7 x8 (some (.lst (pts.map prD))) x10 x11 x12) [c] = .nx (tE cell k n x4 x5 x6 x7 x8 (some X) x10 x11 x12) [c'] ∧ KX X ∧ Drw c' (m + 5) := by
  obtain ⟨y, c1, n1, y0, y1, d1⟩ := next1 3 d (by omega) (by decide) (by decide)
  by_cases hy : y > 0
  · obtain ⟨X, c2, e2, kx, d2⟩ := odd_points_ok h1 hl d1 (by omega)
    exact ⟨X, c2, by
      generalize pts.map prD = PD at *
      simp [n1, hy, e2], kx, d2.mono (by omega)⟩
  · exact ⟨.lst (pts.map prD), c1, by
      generalize pts.map prD = PD at *
      simp [n1, hy], .l (all_pr pts) (by simp; omega), d1.mono (by omega)⟩
theorem turn_ok (h1 : 1 ≤ n) (hn : n ≤ 9) (d : Drw c m) (hm : m ≤ 3000) : ∃ y5 y6 y7 y8 y9 y10 c', g__law_right_b1 (tE cell k n x4 x5 x6 x7 x8 x9 x10 x11 x12) [c] = .nx (tE cell k n x4 y5 y6 y7 y8 y9 y10 x11 x12) [c'] ∧ Drw c' (m + 130) := by
  obtain ⟨N, c1, s1, kN, d1⟩ := st_number (cell := cell) (k := k) (n := n) (x4 := x4) (x5 := x5) (x6 := x6) (x7 := x7) (x8 := x8) (x9 := x9) (x10 := x10) (x11 := x11) (x12 := x12) d (by omega)
  obtain ⟨ss, c2, s2, ls, d2⟩ := st_seeds (cell := cell) (k := k) (n := n) (x4 := x4) (x5 := some N) (x6 := x6) (x7 := x7) (x8 := x8) (x9 := x9) (x10 := x10) (x11 := x11) (x12 := x12) hn d1 (by omega)
  obtain ⟨X, c3, s3, kX, hX, d3⟩ := st_seeds2 (cell := cell) (k := k) (n := n) (x4 := x4) (x5 := some N) (x7 := x7) (x8 := x8) (x9 := x9) (x10 := x10) (x11 := x11) (x12 := x12) ls d2 (by omega)
  obtain ⟨T, c4, s4, kT, d4⟩ := st_there (cell := cell) (k := k) (n := n) (x4 := x4) (x5 := some N) (x6 := some X) (x7 := x7) (x8 := x8) (x9 := x9) (x10 := x10) (x11 := x11) (x12 := x12) hn d3 (by omega)
  have s5 := st_good1 (S := [c4]) (cell := cell) (k := k) (n := n) (x4 := x4) (x8 := x8) (x9 := x9) (x10 := x10) (x11 := x11) (x12 := x12) kN kX hX kT
  have s6 := st_good2 (S := [c4]) (cell := cell) (k := k) (n := n) (x4 := x4) (N := N) (T := T) (x9 := x9) (x10 := x10) (x11 := x11) (x12 := x12) hX
  have i7 : (sIf (eOp opNe (eLam h__law_is_done g__law_right_l1) (eCallB bInt (lCons (eVar 8) lNil))) (sRet (eC (.bl false))) sSkip) (tE cell k n x4 (some N) (some X) (some T) (some (.bl (dealB N X T))) x9 x10 x11 x12) [c4] = .nx (tE cell k n x4 (some N) (some X) (some T) (some (.bl (dealB N X T))) x9 x10 x11 x12) [c4] := if_done (b := dealB N X T) (lam_of (by
    unfold g__law_right_l1
    rcases dealt_any (S := [c4]) kN kX hX kT with ⟨b, ns, e⟩ | ⟨b, e⟩
    · exact .inl ⟨b, .tup (ns.map .int), .b .tuple, by
        generalize ns.map D.int = NS at *
        simp [e], rfl, rfl⟩
    · exact .inr ⟨b, by simp [e]⟩)) (eVar_at rfl)
  obtain ⟨pts, c5, s8, lp1, lp2, d5⟩ := st_points (cell := cell) (k := k) (n := n) (x4 := x4) (x5 := some N) (x6 := some X) (x7 := some T) (x8 := some (.bl (dealB N X T))) (x9 := x9) (x10 := x10) (x11 := x11) (x12 := x12) h1 hn d4 (by omega)
  obtain ⟨Y, c6, s9, kY, d6⟩ := st_points2 (cell := cell) (k := k) (n := n) (x4 := x4) (x5 := some N) (x6 := some X) (x7 := some T) (x8 := some (.bl (dealB N X T))) (x10 := x10) (x11 := x11) (x12 := x12) lp1 lp2 d5 (by omega)
  have lY := lpts_K (S := [c6]) kY
  have s10 : (sAsg (eCall d__law_points_right (lCons (eVar 9) lNil)) (bName 8)) (tE cell k n x4 (some N) (some X) (some T) (some (.bl (dealB N X T))) (some Y) x10 x11 x12) [c6] = .nx (tE cell k n x4 (some N) (some X) (some T) (some (.bl (ptsB Y))) (some Y) x10 x11 x12) [c6] := by
    simp [lY]
  have i11 : (sIf (eOp opNe (eLam h__law_is_done g__law_right_l2) (eCallB bInt (lCons (eVar 8) lNil))) (sRet (eC (.bl false))) sSkip) (tE cell k n x4 (some N) (some X) (some T) (some (.bl (ptsB Y))) (some Y) x10 x11 x12) [c6] = .nx (tE cell k n x4 (some N) (some X) (some T) (some (.bl (ptsB Y))) (some Y) x10 x11 x12) [c6] := if_done (b := ptsB Y) (lam_of (by
    unfold g__law_right_l2
    rcases restored_any (S := [c6]) kY with ⟨b, q, e⟩ | ⟨b, e⟩
    · exact .inl ⟨b, .int q, .b .int, by simp [e], rfl, rfl⟩
    · exact .inr ⟨b, by simp [e]⟩)) (eVar_at rfl)
  have lN := lbetween_K (S := [c6]) kN 0 2147483646
  have i12 : (sIf (eOp opNe (eLam h__law_is_done g__law_right_l3) (eCallB bInt (lCons (eAnd (eVar 8) (eCall d__law_between (lCons (eVar 5) (lCons (eC (.int 0)) (lCons (eC (.int 2147483646)) lNil))))) lNil))) (sRet (eC (.bl false))) sSkip) (tE cell k n x4 (some N) (some X) (some T) (some (.bl (ptsB Y))) (some Y) x10 x11 x12) [c6] = .nx (tE cell k n x4 (some N) (some X) (some T) (some (.bl (ptsB Y))) (some Y) x10 x11 x12) [c6] := if_done (b := btw 0 2147483646 N && ptsB Y) (lam_of (by
    unfold g__law_right_l3
    rcases seeds_any (S := [c6]) kN kY with ⟨b, ns, e⟩ | ⟨b, e⟩
    · exact .inl ⟨b, .tup (ns.map .int), .b .tuple, by
        generalize ns.map D.int = NS at *
        simp [e], rfl, rfl⟩
    · exact .inr ⟨b, by simp [e]⟩)) (by
    cases hb : ptsB Y
    · rw [Bool.and_false]
      simp
    · rw [Bool.and_true]
      simp [lN])
  obtain ⟨W, c7, s13, kW, d7⟩ := st_wanted (cell := cell) (k := k) (n := n) (x4 := x4) (x5 := some N) (x6 := some X) (x7 := some T) (x8 := some (.bl (ptsB Y))) (x9 := some Y) (x10 := x10) (x11 := x11) (x12 := x12) d6 (by omega)
  have s14 : (sAsg (eAnd (eCall d__law_between (lCons (eVar 7) (lCons (eC (.int 1)) (lCons (eC (.int 9)) lNil)))) (eCall d__law_between (lCons (eVar 10) (lCons (eC (.int 1)) (lCons (eVar 7) lNil))))) (bName 8)) (tE cell k n x4 (some N) (some X) (some T) (some (.bl (ptsB Y))) (some Y) (some W) x11 x12) [c7] = .nx (tE cell k n x4 (some N) (some X) (some T) (some (.bl (safeB T W))) (some Y) (some W) x11 x12) [c7] := by
    have lT := lbetween_K (S := [c7]) kT 1 9
    unfold safeB
    cases hb : btw 1 9 T with
    | false =>
      rw [hb] at lT
      simp [lT]
    | true =>
      obtain ⟨t, rfl, _, _⟩ := btw_is hb
      rw [hb] at lT
      have lW := lbetween_K (S := [c7]) kW 1 t
      have e2 : numT (.int t) = t := rfl
      rw [e2]
      simp [lT, lW]
  have i15 : (sIf (eOp opNe (eLam h__law_is_done g__law_right_l4) (eCallB bInt (lCons (eVar 8) lNil))) (sRet (eC (.bl false))) sSkip) (tE cell k n x4 (some N) (some X) (some T) (some (.bl (safeB T W))) (some Y) (some W) x11 x12) [c7] = .nx (tE cell k n x4 (some N) (some X) (some T) (some (.bl (safeB T W))) (some Y) (some W) x11 x12) [c7] := if_done (b := safeB T W) (safe_done kT kW (fun S => eVar_at rfl) (fun S => eVar_at rfl)) (eVar_at rfl)
  refine ⟨some N, some X, some T, some (.bl (safeB T W)), some Y, some W, c7, ?_, d7.mono (by omega)⟩
  unfold g__law_right_b1
  exact stN s1 (stN s2 (stN s3 (stN s4 (stN s5 (stN s6 (stN i7 (stN s8 (stN s9 (stN s10 (stN i11 (stN i12 (stN s13 (stN s14 i15)))))))))))))
end
theorem right_ok (cell : Int) {k0 : Nat} (hk0 : k0 ≤ 100) : d__law_right [.int cell, .int (k0 : Int)] [] = .ok (.bl true) [] := by
  obtain ⟨c0, p0, d0⟩ := begun1 cell (k := (k0 : Int)) (by omega) (by omega)
  obtain ⟨y, c1, n1, y0, y1, d1⟩ := next1 9 d0 (by omega) (by decide) (by decide)
  obtain ⟨j, rfl⟩ := Int.eq_ofNat_of_zero_le y0
  have lp : ∀ (r : Nat) (l : List D) (x4 x5 x6 x7 x8 x9 x10 x11 x12 : Option D) (c : Cell) (m : Nat), l.length = r → Drw c m → m + 130 * r ≤ 3000 → ∃ y4 y5 y6 y7 y8 y9 y10 y11 y12 c', forD (bName 4) g__law_right_b1 l (tE cell (k0 : Nat) (1 + j) x4 x5 x6 x7 x8 x9 x10 x11 x12) [c] = .nx (tE cell (k0 : Nat) (1 + j) y4 y5 y6 y7 y8 y9 y10 y11 y12) [c'] := by
    intro r
    induction r with
    | zero =>
      intro l x4 x5 x6 x7 x8 x9 x10 x11 x12 c m hl d _
      obtain rfl := List.length_eq_zero_iff.mp hl
      exact ⟨_, _, _, _, _, _, _, _, _, c, rfl⟩
    | succ r ih =>
      intro l x4 x5 x6 x7 x8 x9 x10 x11 x12 c m hl d hm
      cases l with
      | nil => cases hl
      | cons a l =>
        obtain ⟨y5, y6, y7, y8, y9, y10, c1, e1, d1⟩ := turn_ok (cell := cell) (k := (k0 : Nat)) (n := 1 + j) (x4 := some a) (x5 := x5) (x6 := x6) (x7 := x7) (x8 := x8) (x9 := x9) (x10 := x10) (x11 := x11) (x12 := x12) (by omega) (by omega) d (by omega)
        obtain ⟨z4, z5, z6, z7, z8, z9, z10, z11, z12, c', e2⟩ := ih l (some a) y5 y6 y7 y8 y9 y10 x11 x12 c1 (m + 130) (by simpa using hl) d1 (by omega)
        refine ⟨z4, z5, z6, z7, z8, z9, z10, z11, z12, c', ?_⟩
        rw [forD_cons, show (bName 4) a (tE cell (k0 : Nat) (1 + j) x4 x5 x6 x7 x8 x9 x10 x11 x12) = some (tE cell (k0 : Nat) (1 + j) (some a) x5 x6 x7 x8 x9 x10 x11 x12) from rfl]
        dsimp only
        rw [e1]
        exact e2
  obtain ⟨y4, y5, y6, y7, y8, y9, y10, y11, y12, c', e⟩ := lp 6 (rangeD 0 6) none none none none none none none none none c1 1 (by simp) d1 (by omega)
  have r6 : rOk (6 : Int) := ⟨by decide, by decide⟩
  have nj : (1 : Int) + (j : Nat) = ((1 + j : Nat) : Int) := by omega
  unfold tE at e
  refine fnRt (S' := [c']) (d := .bl true) ?_ (exit_of rfl rfl)
  show g__law_right [some (.int cell), some (.int (k0 : Nat)), none, none, none, none, none, none, none, none, none, none, none] [] = _
  unfold g__law_right
  refine stN (S' := [c0]) (e := [some (.int cell), some (.int (k0 : Nat)), some (.loc 0), none, none, none, none, none, none, none, none, none, none]) (by simp [p0]) ?_
  refine stN (S' := [c1]) (e := [some (.int cell), some (.int (k0 : Nat)), some (.loc 0), some (.int ((1 + j : Nat) : Int)), none, none, none, none, none, none, none, none, none]) (by
    rw [← nj]
    simp [n1]) ?_
  refine stN (S' := [c']) (e := [some (.int cell), some (.int (k0 : Nat)), some (.loc 0), some (.int ((1 + j : Nat) : Int)), y4, y5, y6, y7, y8, y9, y10, y11, y12]) ?_ rfl
  rw [sFor_is, show iRange1 (lCons (eC (.int 6)) lNil) [some (.int cell), some (.int (k0 : Nat)), some (.loc 0), some (.int ((1 + j : Nat) : Int)), none, none, none, none, none, none, none, none, none] [c1] = .ok (rangeD 0 6) [c1] from by simp [r6]]
  exact e
theorem law_true (ns : List Int) (h : ns.length ≤ 63) : ∃ S, d_law [.lst (ns.map .int)] [] = .ok (.bl true) S := by
  have e3 : (ns.map D.int ++ [.int 3]) = (ns ++ [3]).map D.int := by simp
  have hl : (cutD (ns ++ [3]) none (some (maxII 1 (minII 12 (ns.length : Int))))).length ≤ 100 := Nat.le_trans (cut_len _ _ _) (by simp; omega)
  obtain ⟨e', he⟩ := law_loop (S := []) (b := bTup (bCons (bName 1) (bCons (bName 2) bNil))) (body := g_law_b1) (e := [some (.lst (ns.map D.int)), none, none])
    (fun e => ∃ a b, e = [some (.lst (ns.map D.int)), a, b]) (cutD (ns ++ [3]) none (some (maxII 1 (minII 12 (ns.length : Int))))) ⟨_, _, rfl⟩ (by
      rintro i c e hi ⟨a, b, rfl⟩
      have hr := right_ok c (k0 := i) (by omega)
      refine ⟨[some (.lst (ns.map D.int)), some (.int (i : Nat)), some (.int c)], [some (.lst (ns.map D.int)), some (.int (i : Nat)), some (.int c)], rfl, ?_, _, _, rfl⟩
      simp [g_law_b1, hr])
  unfold d_law g_law
  refine ⟨[], ?_⟩
  have e4 : cutD (ns.map D.int ++ [.int 3]) none (some (maxII 1 (minII 12 (ns.length : Int)))) = (cutD (ns ++ [3]) none (some (maxII 1 (minII 12 (ns.length : Int))))).map D.int := by rw [e3, cut_map]
  have hz : sz (ns.length + 1) := sz_is (by omega)
  simp [hz, e4, he]
end DL.K53
end
section
namespace DL.K53
open PySem L2  
open DL
variable [DL.Nm]
def top (i : Nat) : Stmt := PySem.Challenge.pw_rolltally_k53_what_cannot_be_dealt.main.body.getD i (.Pass ⟨0, 0, 0, 0⟩)
structure Txt (K : PySem.W.Frag) (mg : Str → Option Value) (ca ce : Str → Option Addr) (Ts : List (Addr × Str)) (w : World) : Prop where
  own : ∀ c C, ca c = some C → OwnC K C
  b_ValueError : mg "ValueError" = none
  b_all : mg "all" = none
  b_bool : mg "bool" = none
  b_enumerate : mg "enumerate" = none
  b_int : mg "int" = none
  b_isinstance : mg "isinstance" = none
  b_len : mg "len" = none
  b_list : mg "list" = none
  b_max : mg "max" = none
  b_min : mg "min" = none
  b_range : mg "range" = none
  b_set : mg "set" = none
  b_tuple : mg "tuple" = none
  b_zip : mg "zip" = none
  g_MOST_KEEPERS : ∃ t, mg "MOST_KEEPERS" = some (.int (9) t)
  g_P : ∃ t, mg "P" = some (.int (2147483647) t)
  fl_drawers : FldOk ⟨K, ca, ce, Ts⟩ "drawers" ["Safe"]
  fl_known : FldOk ⟨K, ca, ce, Ts⟩ "known" ["Center", "Safe"]
  fl_many : FldOk ⟨K, ca, ce, Ts⟩ "many" ["Safe"]
  fl_wanted : FldOk ⟨K, ca, ce, Ts⟩ "wanted" ["Safe"]
  is_bool : IsT ⟨K, ca, ce, Ts⟩ (.type "bool") (tabB .bool)
  is_int : IsT ⟨K, ca, ce, Ts⟩ (.type "int") (tabB .int)
  is_list : IsT ⟨K, ca, ce, Ts⟩ (.type "list") (tabB .list)
  is_tuple : IsT ⟨K, ca, ce, Ts⟩ (.type "tuple") (tabB .tuple)
  is_Safe : ∃ C, mg "Safe" = some (.ref C) ∧ IsT ⟨K, ca, ce, Ts⟩ (.ref C) (tabO "Safe")
  x_NoCount : ExcR ⟨K, ca, ce, Ts⟩ mg "NoCount"
  t_VoteError : ∃ C, mg "VoteError" = some (.ref C) ∧ ∀ cn C1, ce cn = some C1 → PySem.W.exmOne K (.ref C1) (.ref C) = some ((fun _ => true) cn)
  e_NoBits : ∃ C, mg "NoBits" = some (.ref C) ∧ IsTE ⟨K, ca, ce, Ts⟩ (.ref C) (tabX (fun c => decide (c = "NoBits")))
  e_NoChain : ∃ C, mg "NoChain" = some (.ref C) ∧ IsTE ⟨K, ca, ce, Ts⟩ (.ref C) (tabX (fun c => decide (c = "NoChain")))
  e_NoCode : ∃ C, mg "NoCode" = some (.ref C) ∧ IsTE ⟨K, ca, ce, Ts⟩ (.ref C) (tabX (fun c => decide (c = "NoCode")))
  e_NoCount : ∃ C, mg "NoCount" = some (.ref C) ∧ IsTE ⟨K, ca, ce, Ts⟩ (.ref C) (tabX (fun c => decide (c = "NoCount")))
  e_NoDay : ∃ C, mg "NoDay" = some (.ref C) ∧ IsTE ⟨K, ca, ce, Ts⟩ (.ref C) (tabX (fun c => decide (c = "NoDay")))
  e_NoLetter : ∃ C, mg "NoLetter" = some (.ref C) ∧ IsTE ⟨K, ca, ce, Ts⟩ (.ref C) (tabX (fun c => decide (c = "NoLetter")))
  e_NoLot : ∃ C, mg "NoLot" = some (.ref C) ∧ IsTE ⟨K, ca, ce, Ts⟩ (.ref C) (tabX (fun c => decide (c = "NoLot")))
  e_NoMark : ∃ C, mg "NoMark" = some (.ref C) ∧ IsTE ⟨K, ca, ce, Ts⟩ (.ref C) (tabX (fun c => decide (c = "NoMark")))
  e_NoName : ∃ C, mg "NoName" = some (.ref C) ∧ IsTE ⟨K, ca, ce, Ts⟩ (.ref C) (tabX (fun c => decide (c = "NoName")))
  e_NoPhase : ∃ C, mg "NoPhase" = some (.ref C) ∧ IsTE ⟨K, ca, ce, Ts⟩ (.ref C) (tabX (fun c => decide (c = "NoPhase")))
  e_NoPlace : ∃ C, mg "NoPlace" = some (.ref C) ∧ IsTE ⟨K, ca, ce, Ts⟩ (.ref C) (tabX (fun c => decide (c = "NoPlace")))
  e_NoRace : ∃ C, mg "NoRace" = some (.ref C) ∧ IsTE ⟨K, ca, ce, Ts⟩ (.ref C) (tabX (fun c => decide (c = "NoRace")))
  e_NoRow : ∃ C, mg "NoRow" = some (.ref C) ∧ IsTE ⟨K, ca, ce, Ts⟩ (.ref C) (tabX (fun c => decide (c = "NoRow")))
  e_NoRuling : ∃ C, mg "NoRuling" = some (.ref C) ∧ IsTE ⟨K, ca, ce, Ts⟩ (.ref C) (tabX (fun c => decide (c = "NoRuling")))
  e_NoStub : ∃ C, mg "NoStub" = some (.ref C) ∧ IsTE ⟨K, ca, ce, Ts⟩ (.ref C) (tabX (fun c => decide (c = "NoStub")))
  e_NoText : ∃ C, mg "NoText" = some (.ref C) ∧ IsTE ⟨K, ca, ce, Ts⟩ (.ref C) (tabX (fun c => decide (c = "NoText")))
  e_NoTime : ∃ C, mg "NoTime" = some (.ref C) ∧ IsTE ⟨K, ca, ce, Ts⟩ (.ref C) (tabX (fun c => decide (c = "NoTime")))
  e_NoWay : ∃ C, mg "NoWay" = some (.ref C) ∧ IsTE ⟨K, ca, ce, Ts⟩ (.ref C) (tabX (fun c => decide (c = "NoWay")))
  e_NotThere : ∃ C, mg "NotThere" = some (.ref C) ∧ IsTE ⟨K, ca, ce, Ts⟩ (.ref C) (tabX (fun c => decide (c = "NotThere")))
  e_NotWhole : ∃ C, mg "NotWhole" = some (.ref C) ∧ IsTE ⟨K, ca, ce, Ts⟩ (.ref C) (tabX (fun c => decide (c = "NotWhole")))
  e_Twice : ∃ C, mg "Twice" = some (.ref C) ∧ IsTE ⟨K, ca, ce, Ts⟩ (.ref C) (tabX (fun c => decide (c = "Twice")))
  e_VoteError : ∃ C, mg "VoteError" = some (.ref C) ∧ IsTE ⟨K, ca, ce, Ts⟩ (.ref C) (tabX (fun _ => true))
  xd : ∀ c C, ce c = some C → ExcD K C
  v_ValueError : IsTE ⟨K, ca, ce, Ts⟩ (.type "ValueError") (tabX (fun _ => true))
  xf_at : ∀ c C, ce c = some C → PySem.W.findIn K (.ref C) "at" = some none
  xf_row : ∀ c C, ce c = some C → PySem.W.findIn K (.ref C) "row" = some none
  xf_thing : ∀ c C, ce c = some C → PySem.W.findIn K (.ref C) "thing" = some none
section
variable {P : Program} {w : World} {K : PySem.W.Frag} {ca ce : Str → Option Addr} {Ts : List (Addr × Str)} {mg : Str → Option Value} {base : Heap}
abbrev s__law_begun : Stmt := top 44
theorem sc__law_begun : FnScope ["_law_cell", "_law_k", "_law_seed"] ["_law_cell", "_law_k"] (defScope s__law_begun) := ⟨rfl, rfl, rfl, by decide +kernel, rfl, by decide +kernel, by decide +kernel⟩
theorem ok__law_begun {f : Addr} {fd : FuncData} (F : Fun K "_law_begun" "_law_begun" s__law_begun f fd) (T : Txt K mg ca ce Ts w)  : FnG P w K mg base (L2.CX P w) 1 f fd ["_law_cell", "_law_k"] (spD ⟨K, ca, ce, Ts⟩ 2 d__law_begun) :=
fnG (G := ⟨K, ca, ce, Ts⟩) (N := ["_law_cell", "_law_k", "_law_seed"]) .keep F sc__law_begun fun cdv A outer s H E hr tk po gd =>
(dss_cons (ds_set (i := 2) sc__law_begun.nd rfl (Or.inl rfl) (de_op (do_add rfl) de_int (de_op do_mod (de_op do_pow (de_op (do_add rfl) (de_op (do_add rfl) (de_op do_mul (de_op do_mod (de_var 0) de_int) de_int) (de_op do_mul de_int (de_var 1))) de_int) de_int) de_int)))
(dss_cons (ds_if (dt_cmp do_ge (de_var 0) (de_op do_pow de_int de_int))
(dss_one (ds_ret (de_lstM (da_cons (de_op do_sub (de_var 0) (de_op do_pow de_int de_int)) (da_cons (de_var 2) (da_cons de_int da_nil))))))
dss_nil)
(dss_one (ds_ret (de_lstM (da_cons de_int (da_cons (de_var 2) (da_cons de_int da_nil))))))))

abbrev s__law_next : Stmt := top 45
theorem sc__law_next : FnScope ["_law_draw", "_law_size", "_law_found", "_law_mixed"] ["_law_draw", "_law_size"] (defScope s__law_next) := ⟨rfl, rfl, rfl, by decide +kernel, rfl, by decide +kernel, by decide +kernel⟩
theorem ok__law_next {f : Addr} {fd : FuncData} (F : Fun K "_law_next" "_law_next" s__law_next f fd) (T : Txt K mg ca ce Ts w)  : FnG P w K mg base (L2.CX P w) 1 f fd ["_law_draw", "_law_size"] (spD ⟨K, ca, ce, Ts⟩ 2 d__law_next) :=
fnG (G := ⟨K, ca, ce, Ts⟩) (N := ["_law_draw", "_law_size", "_law_found", "_law_mixed"]) .keep F sc__law_next fun cdv A outer s H E hr tk po gd =>
(dss_cons (ds_if (dt_cmp do_gt (de_ixX rfl (units1 hr) (de_var 0) de_int) de_int)
(dss_cons (ds_set (i := 2) sc__law_next.nd rfl (Or.inl rfl) (de_op do_mod (de_ixX rfl (units1 hr) (de_var 0) de_int) (de_var 1)))
(dss_cons (ds_putX (units1 hr) (de_op do_fdiv (de_ixX rfl (units1 hr) (de_var 0) de_int) (de_var 1)) (de_var 0) de_int)
(dss_one (ds_ret (de_var 2)))))
dss_nil)
(dss_cons (ds_putX (units1 hr) (de_op (do_add rfl) (de_ixX rfl (units1 hr) (de_var 0) de_int) de_int) (de_var 0) de_int)
(dss_cons (ds_set (i := 3) sc__law_next.nd rfl (Or.inl rfl) (de_op do_mod (de_op do_pow (de_op (do_add rfl) (de_op (do_add rfl) (de_op do_mul (de_ixX rfl (units1 hr) (de_var 0) de_int) (de_op (do_add rfl) (de_op do_mul de_int (de_ixX rfl (units1 hr) (de_var 0) de_int)) de_int)) (de_op do_mul (de_op do_mul de_int (de_ixX rfl (units1 hr) (de_var 0) de_int)) (de_ixX rfl (units1 hr) (de_var 0) de_int))) de_int) de_int) de_int))
(dss_one (ds_ret (de_op do_mod (de_op do_fdiv (de_var 3) de_int) (de_var 1)))))))

abbrev s__law_between : Stmt := top 48
theorem sc__law_between : FnScope ["_law_thing", "_law_low_here", "_law_high"] ["_law_thing", "_law_low_here", "_law_high"] (defScope s__law_between) := ⟨rfl, rfl, rfl, by decide +kernel, rfl, by decide +kernel, by decide +kernel⟩
theorem ok__law_between {f : Addr} {fd : FuncData} (F : Fun K "_law_between" "_law_between" s__law_between f fd) (T : Txt K mg ca ce Ts w)  : FnG P w K mg base (L2.CX P w) 1 f fd ["_law_thing", "_law_low_here", "_law_high"] (spD ⟨K, ca, ce, Ts⟩ 3 d__law_between) :=
fnG (G := ⟨K, ca, ce, Ts⟩) (N := ["_law_thing", "_law_low_here", "_law_high"]) .pure F sc__law_between fun cdv A outer s H E hr tk po gd =>
(dss_one (ds_ret (de_and (de_isC rfl T.own T.is_int (cn_ty rfl T.b_int (by decide +kernel)) rfl T.b_isinstance (de_var 0)) (de_and (de_not (de_isC rfl T.own T.is_bool (cn_ty rfl T.b_bool (by decide +kernel)) rfl T.b_isinstance (de_var 0))) (de_one (de_chain do_le do_le (de_var 1) (de_var 0) (de_var 2)))))))

abbrev s__law_points_right : Stmt := top 54
theorem sc__law_points_right : FnScope ["_law_thing", "_law_one"] ["_law_thing"] (defScope s__law_points_right) := ⟨rfl, rfl, rfl, by decide +kernel, rfl, by decide +kernel, by decide +kernel⟩
theorem ok__law_points_right {f : Addr} {fd : FuncData} (F : Fun K "_law_points_right" "_law_points_right" s__law_points_right f fd) (T : Txt K mg ca ce Ts w) (c__law_between : DefG ⟨K, ca, ce, Ts⟩ P w mg base 1 "_law_between" 3 d__law_between) : FnG P w K mg base (L2.CX P w) 2 f fd ["_law_thing"] (spD ⟨K, ca, ce, Ts⟩ 1 d__law_points_right) :=
fnG (G := ⟨K, ca, ce, Ts⟩) (N := ["_law_thing", "_law_one"]) .pure F sc__law_points_right fun cdv A outer s H E hr tk po gd =>
(dss_cons (ds_if (DW.t (dw_or (dt_not (dt_val (de_isCs rfl T.own (CNames.cons (cn_ty rfl T.b_list (by decide +kernel)) T.is_list (CNames.cons (cn_ty rfl T.b_tuple (by decide +kernel)) T.is_tuple CNames.nil)) (by decide) rfl T.b_isinstance (de_var 0)))) (dw_or1 (dt_cmp (do_eq rfl (units100 hr)) (de_callB (dc_lenX rfl) rfl T.b_len (by decide +kernel) (da_cons (de_var 0) da_nil)) de_int))))
(dss_one (ds_ret de_bl))
dss_nil)
(dss_cons (ds_for po rfl (di_seq rfl (de_var 0)) (dg_name sc__law_points_right.nd rfl (by first | exact Or.inl rfl | exact Or.inr rfl))
(dss_cons (ds_if (DW.t (dw_or (dt_not (dt_val (de_isC rfl T.own T.is_tuple (cn_ty rfl T.b_tuple (by decide +kernel)) rfl T.b_isinstance (de_var 1)))) (dw_or (dt_cmp (do_ne rfl (units100 hr)) (de_callB (dc_lenX rfl) rfl T.b_len (by decide +kernel) (da_cons (de_var 1) da_nil)) de_int) (dw_or1 (dt_not (dt_val (de_callG c__law_between gd rfl (hr.mono (by omega)) rfl tk (da_cons (de_ixX rfl (units1 hr) (de_var 1) de_int) (da_cons de_int (da_cons de_int da_nil))) rfl (la_cons (la_cons (la_cons la_nil))))))))))
(dss_one (ds_ret de_bl))
dss_nil)
(dss_one (ds_if (dt_not (dt_val (de_callG c__law_between gd rfl (hr.mono (by omega)) rfl tk (da_cons (de_ixX rfl (units1 hr) (de_var 1) de_int) (da_cons de_int (da_cons de_int da_nil))) rfl (la_cons (la_cons (la_cons la_nil))))))
(dss_one (ds_ret de_bl))
dss_nil))))
(dss_one (ds_ret (de_cmp (do_eq rfl (units100 hr)) (de_lenSet rfl rfl rfl T.b_len rfl T.b_set (de_lc (own := [("_law_one", 1)]) rfl sc__law_points_right.nd (di_seq rfl (de_var 0)) (blkOk_by (N := ["_law_thing", "_law_one"]) (sc := defScope s__law_points_right) (own := [("_law_one", 1)]) (by decide +kernel)) (fun _ _ _ _ _ => (dg_name sc__law_points_right.nd rfl (by first | exact Or.inl rfl | exact Or.inr rfl))) (fun _ _ _ _ _ => dts_nil) (fun _ _ _ _ _ => (de_ixX rfl (units1 hr) (de_var 1) de_int)) (by decide))) (de_callB (dc_lenX rfl) rfl T.b_len (by decide +kernel) (da_cons (de_var 0) da_nil)))))))

abbrev s__law_pick : Stmt := top 46
theorem sc__law_pick : FnScope ["_law_draw", "_law_some"] ["_law_draw", "_law_some"] (defScope s__law_pick) := ⟨rfl, rfl, rfl, by decide +kernel, rfl, by decide +kernel, by decide +kernel⟩
theorem ok__law_pick {f : Addr} {fd : FuncData} (F : Fun K "_law_pick" "_law_pick" s__law_pick f fd) (T : Txt K mg ca ce Ts w) (c__law_next : DefG ⟨K, ca, ce, Ts⟩ P w mg base 1 "_law_next" 2 d__law_next) : FnG P w K mg base (L2.CX P w) 2 f fd ["_law_draw", "_law_some"] (spD ⟨K, ca, ce, Ts⟩ 2 d__law_pick) :=
fnG (G := ⟨K, ca, ce, Ts⟩) (N := ["_law_draw", "_law_some"]) .keep F sc__law_pick fun cdv A outer s H E hr tk po gd =>
(dss_one (ds_ret (de_ixX rfl (units1 hr) (de_var 1) (de_callG c__law_next gd rfl (hr.mono (by omega)) rfl tk (da_cons (de_var 0) (da_cons (de_callB (dc_lenX rfl) rfl T.b_len (by decide +kernel) (da_cons (de_var 1) da_nil)) da_nil)) rfl (la_cons (la_cons la_nil))))))

abbrev s__law_low : Stmt := top 51
theorem sc__law_low : FnScope ["_law_draw", "_law_far"] ["_law_draw"] (defScope s__law_low) := ⟨rfl, rfl, rfl, by decide +kernel, rfl, by decide +kernel, by decide +kernel⟩
theorem ok__law_low {f : Addr} {fd : FuncData} (F : Fun K "_law_low" "_law_low" s__law_low f fd) (T : Txt K mg ca ce Ts w) (c__law_next : DefG ⟨K, ca, ce, Ts⟩ P w mg base 1 "_law_next" 2 d__law_next) (c__law_pick : DefG ⟨K, ca, ce, Ts⟩ P w mg base 2 "_law_pick" 2 d__law_pick) : FnG P w K mg base (L2.CX P w) 3 f fd ["_law_draw"] (spD ⟨K, ca, ce, Ts⟩ 1 d__law_low) :=
fnG (G := ⟨K, ca, ce, Ts⟩) (N := ["_law_draw", "_law_far"]) .keep F sc__law_low fun cdv A outer s H E hr tk po gd =>
(dss_cons (ds_set (i := 1) sc__law_low.nd rfl (Or.inl rfl) (de_op (do_add rfl) (de_op do_mul (de_callG c__law_next gd rfl (hr.mono (by omega)) rfl tk (da_cons (de_var 0) (da_cons de_int da_nil)) rfl (la_cons (la_cons la_nil))) de_int) (de_callG c__law_next gd rfl (hr.mono (by omega)) rfl tk (da_cons (de_var 0) (da_cons de_int da_nil)) rfl (la_cons (la_cons la_nil)))))
(dss_one (ds_ret (de_callG c__law_pick gd rfl (hr.mono (by omega)) rfl tk (da_cons (de_var 0) (da_cons (de_lst (da_cons de_int (da_cons de_int (da_cons de_int (da_cons de_int (da_cons (de_callG c__law_next gd rfl (hr.mono (by omega)) rfl tk (da_cons (de_var 0) (da_cons de_int da_nil)) rfl (la_cons (la_cons la_nil))) (da_cons (de_op do_mod (de_var 1) de_int) (da_cons (de_op do_mod (de_var 1) de_int) da_nil)))))))) da_nil)) rfl (la_cons (la_cons la_nil))))))

abbrev s__law_odd_number : Stmt := top 55
theorem sc__law_odd_number : FnScope ["_law_draw"] ["_law_draw"] (defScope s__law_odd_number) := ⟨rfl, rfl, rfl, by decide +kernel, rfl, by decide +kernel, by decide +kernel⟩
theorem ok__law_odd_number {f : Addr} {fd : FuncData} (F : Fun K "_law_odd_number" "_law_odd_number" s__law_odd_number f fd) (T : Txt K mg ca ce Ts w) (c__law_pick : DefG ⟨K, ca, ce, Ts⟩ P w mg base 2 "_law_pick" 2 d__law_pick) : FnG P w K mg base (L2.CX P w) 3 f fd ["_law_draw"] (spD ⟨K, ca, ce, Ts⟩ 1 d__law_odd_number) :=
fnG (G := ⟨K, ca, ce, Ts⟩) (N := ["_law_draw"]) .keep F sc__law_odd_number fun cdv A outer s H E hr tk po gd =>
(dss_one (ds_ret (de_callG c__law_pick gd rfl (hr.mono (by omega)) rfl tk (da_cons (de_var 0) (da_cons (de_lst (da_cons (de_neg de_int) (da_cons de_int (da_cons de_int (da_cons de_int (da_cons de_bl (da_cons de_non (da_cons de_str (da_cons (de_tup da_nil) (da_cons (de_lst (da_cons de_int da_nil)) (da_cons (de_op do_pow de_int de_int) (da_cons de_int (da_cons de_int (da_cons de_int da_nil)))))))))))))) da_nil)) rfl (la_cons (la_cons la_nil)))))

abbrev s__law_lows_right : Stmt := top 53
theorem sc__law_lows_right : FnScope ["_law_thing", "_law_one"] ["_law_thing"] (defScope s__law_lows_right) := ⟨rfl, rfl, rfl, by decide +kernel, rfl, by decide +kernel, by decide +kernel⟩
theorem ok__law_lows_right {f : Addr} {fd : FuncData} (F : Fun K "_law_lows_right" "_law_lows_right" s__law_lows_right f fd) (T : Txt K mg ca ce Ts w) (c__law_between : DefG ⟨K, ca, ce, Ts⟩ P w mg base 1 "_law_between" 3 d__law_between) : FnG P w K mg base (L2.CX P w) 2 f fd ["_law_thing"] (spD ⟨K, ca, ce, Ts⟩ 1 d__law_lows_right) :=
fnG (G := ⟨K, ca, ce, Ts⟩) (N := ["_law_thing", "_law_one"]) .pure F sc__law_lows_right fun cdv A outer s H E hr tk po gd =>
(dss_one (ds_ret (de_and (de_isC rfl T.own T.is_tuple (cn_ty rfl T.b_tuple (by decide +kernel)) rfl T.b_isinstance (de_var 0)) (de_one (de_cmp (do_eqL0 rfl (units100 hr)) (de_lc (own := [("_law_one", 1)]) rfl sc__law_lows_right.nd (di_seq rfl (de_var 0)) (blkOk_by (N := ["_law_thing", "_law_one"]) (sc := defScope s__law_lows_right) (own := [("_law_one", 1)]) (by decide +kernel)) (fun _ _ _ _ _ => (dg_name sc__law_lows_right.nd rfl (by first | exact Or.inl rfl | exact Or.inr rfl))) (fun _ _ _ _ _ => (dts_one (dt_not (dt_val (de_callG c__law_between gd rfl (hr.mono (by omega)) rfl takes0 (da_cons (de_var 1) (da_cons de_int (da_cons de_int da_nil))) rfl (la_cons (la_cons (la_cons la_nil)))))))) (fun _ _ _ _ _ => (de_var 1)) (by decide)) (de_lst da_nil))))))

abbrev s__law_alone : Stmt := top 49
theorem sc__law_alone : FnScope ["_law_e", "_law_kinds", "_law_words"] ["_law_e"] (defScope s__law_alone) := ⟨rfl, rfl, rfl, by decide +kernel, rfl, by decide +kernel, by decide +kernel⟩
theorem ok__law_alone {f : Addr} {fd : FuncData} (F : Fun K "_law_alone" "_law_alone" s__law_alone f fd) (T : Txt K mg ca ce Ts w)  : FnG P w K mg base (L2.CX P w) 1 f fd ["_law_e"] (spD ⟨K, ca, ce, Ts⟩ 1 d__law_alone) :=
fnG (G := ⟨K, ca, ce, Ts⟩) (N := ["_law_e", "_law_kinds", "_law_words"]) .pure F sc__law_alone fun cdv A outer s H E hr tk po gd =>
(dss_cons (ds_set (i := 1) sc__law_alone.nd rfl (Or.inl rfl) (de_lst (da_cons (let ⟨_, q0, r0⟩ := T.e_NoName; de_isE rfl T.own T.xd r0 (cn_own rfl q0) rfl T.b_isinstance (de_var 0)) (da_cons (let ⟨_, q0, r0⟩ := T.e_NoDay; de_isE rfl T.own T.xd r0 (cn_own rfl q0) rfl T.b_isinstance (de_var 0)) (da_cons (let ⟨_, q0, r0⟩ := T.e_NoRace; de_isE rfl T.own T.xd r0 (cn_own rfl q0) rfl T.b_isinstance (de_var 0)) (da_cons (let ⟨_, q0, r0⟩ := T.e_NoMark; de_isE rfl T.own T.xd r0 (cn_own rfl q0) rfl T.b_isinstance (de_var 0)) da_nil))))))
(dss_cons (ds_set (i := 1) sc__law_alone.nd rfl (Or.inl rfl) (de_op (do_add rfl) (de_var 1) (de_lst (da_cons (let ⟨_, q0, r0⟩ := T.e_NoCode; de_isE rfl T.own T.xd r0 (cn_own rfl q0) rfl T.b_isinstance (de_var 0)) (da_cons (let ⟨_, q0, r0⟩ := T.e_NoPlace; de_isE rfl T.own T.xd r0 (cn_own rfl q0) rfl T.b_isinstance (de_var 0)) (da_cons (let ⟨_, q0, r0⟩ := T.e_NoStub; de_isE rfl T.own T.xd r0 (cn_own rfl q0) rfl T.b_isinstance (de_var 0)) (da_cons (let ⟨_, q0, r0⟩ := T.e_NoWay; de_isE rfl T.own T.xd r0 (cn_own rfl q0) rfl T.b_isinstance (de_var 0)) da_nil)))))))
(dss_cons (ds_set (i := 1) sc__law_alone.nd rfl (Or.inl rfl) (de_op (do_add rfl) (de_var 1) (de_lst (da_cons (let ⟨_, q0, r0⟩ := T.e_NoTime; de_isE rfl T.own T.xd r0 (cn_own rfl q0) rfl T.b_isinstance (de_var 0)) (da_cons (let ⟨_, q0, r0⟩ := T.e_NoLetter; de_isE rfl T.own T.xd r0 (cn_own rfl q0) rfl T.b_isinstance (de_var 0)) (da_cons (let ⟨_, q0, r0⟩ := T.e_NotWhole; de_isE rfl T.own T.xd r0 (cn_own rfl q0) rfl T.b_isinstance (de_var 0)) da_nil))))))
(dss_cons (ds_set (i := 1) sc__law_alone.nd rfl (Or.inl rfl) (de_op (do_add rfl) (de_var 1) (de_lst (da_cons (let ⟨_, q0, r0⟩ := T.e_NoRuling; de_isE rfl T.own T.xd r0 (cn_own rfl q0) rfl T.b_isinstance (de_var 0)) (da_cons (let ⟨_, q0, r0⟩ := T.e_NoChain; de_isE rfl T.own T.xd r0 (cn_own rfl q0) rfl T.b_isinstance (de_var 0)) (da_cons (let ⟨_, q0, r0⟩ := T.e_NoBits; de_isE rfl T.own T.xd r0 (cn_own rfl q0) rfl T.b_isinstance (de_var 0)) (da_cons (let ⟨_, q0, r0⟩ := T.e_NoLot; de_isE rfl T.own T.xd r0 (cn_own rfl q0) rfl T.b_isinstance (de_var 0)) da_nil)))))))
(dss_cons (ds_set (i := 1) sc__law_alone.nd rfl (Or.inl rfl) (de_op (do_add rfl) (de_var 1) (de_lst (da_cons (let ⟨_, q0, r0⟩ := T.e_NoCount; de_isE rfl T.own T.xd r0 (cn_own rfl q0) rfl T.b_isinstance (de_var 0)) (da_cons (let ⟨_, q0, r0⟩ := T.e_NoPhase; de_isE rfl T.own T.xd r0 (cn_own rfl q0) rfl T.b_isinstance (de_var 0)) (da_cons (let ⟨_, q0, r0⟩ := T.e_Twice; de_isE rfl T.own T.xd r0 (cn_own rfl q0) rfl T.b_isinstance (de_var 0)) (da_cons (let ⟨_, q0, r0⟩ := T.e_NotThere; de_isE rfl T.own T.xd r0 (cn_own rfl q0) rfl T.b_isinstance (de_var 0)) da_nil)))))))
(dss_cons (ds_set (i := 1) sc__law_alone.nd rfl (Or.inl rfl) (de_op (do_add rfl) (de_var 1) (de_lst (da_cons (let ⟨_, q0, r0⟩ := T.e_NoRow; de_isE rfl T.own T.xd r0 (cn_own rfl q0) rfl T.b_isinstance (de_var 0)) (da_cons (let ⟨_, q0, r0⟩ := T.e_NoText; de_isE rfl T.own T.xd r0 (cn_own rfl q0) rfl T.b_isinstance (de_var 0)) da_nil)))))
(dss_cons (ds_if (DW.t (dw_or (dt_cmp (do_ne rfl (units100 hr)) (de_meth PySem.F.plainAttrs_list PySem.F.slot_list_count PySem.F.type_list_count (dm_countD rfl (units65 hr)) rfl (de_var 1) (da_cons de_bl da_nil)) de_int) (dw_or (dt_not (dt_val (let ⟨_, q0, r0⟩ := T.e_VoteError; de_isE rfl T.own T.xd r0 (cn_own rfl q0) rfl T.b_isinstance (de_var 0)))) (dw_or1 (dt_not (dt_val (de_isE rfl T.own T.xd T.v_ValueError (cn_ty rfl T.b_ValueError (by decide +kernel)) rfl T.b_isinstance (de_var 0))))))))
(dss_one (ds_ret de_str))
dss_nil)
(dss_cons (ds_set (i := 2) sc__law_alone.nd rfl (Or.inl rfl) de_str)
(dss_cons (ds_set (i := 2) sc__law_alone.nd rfl (Or.inl rfl) (de_op (do_add rfl) (de_var 2) de_str))
(dss_one (ds_ret (de_ixX rfl (units1 hr) (de_meth PySem.F.plainAttrs_str PySem.F.slot_str_split PySem.F.type_str_split dm_split rfl (de_var 2) (da_cons de_str da_nil)) (de_meth PySem.F.plainAttrs_list PySem.F.slot_list_index PySem.F.type_list_index (dm_index rfl (units65 hr)) rfl (de_var 1) (da_cons de_bl da_nil))))))))))))))

abbrev s__law_refusal : Stmt := top 50
theorem sc__law_refusal : FnScope ["_law_e", "_law_word"] ["_law_e"] (defScope s__law_refusal) := ⟨rfl, rfl, rfl, by decide +kernel, rfl, by decide +kernel, by decide +kernel⟩
theorem ok__law_refusal {f : Addr} {fd : FuncData} (F : Fun K "_law_refusal" "_law_refusal" s__law_refusal f fd) (T : Txt K mg ca ce Ts w) (c__law_alone : DefG ⟨K, ca, ce, Ts⟩ P w mg base 1 "_law_alone" 1 d__law_alone) : FnG P w K mg base (L2.CX P w) 2 f fd ["_law_e"] (spD ⟨K, ca, ce, Ts⟩ 1 d__law_refusal) :=
fnG (G := ⟨K, ca, ce, Ts⟩) (N := ["_law_e", "_law_word"]) .pure F sc__law_refusal fun cdv A outer s H E hr tk po gd =>
(dss_cons (ds_set (i := 1) sc__law_refusal.nd rfl (Or.inl rfl) (de_callG c__law_alone gd rfl (hr.mono (by omega)) rfl tk (da_cons (de_var 0) da_nil) rfl (la_cons la_nil)))
(dss_cons (ds_if (dt_cmp (do_eq rfl (units100 hr)) (de_var 1) de_str)
(dss_one (ds_ret (de_lst (da_cons (de_var 1) (da_cons (de_xFld rfl T.xd T.xf_thing (de_var 0)) da_nil)))))
dss_nil)
(dss_cons (ds_if (dt_cmp (do_eq rfl (units100 hr)) (de_var 1) de_str)
(dss_one (ds_ret (de_lst (da_cons (de_var 1) (da_cons (de_xFld rfl T.xd T.xf_at (de_var 0)) da_nil)))))
dss_nil)
(dss_one (ds_ret (de_if (dt_cmp (do_eq rfl (units100 hr)) (de_var 1) de_str) (de_lst (da_cons (de_var 1) (da_cons (de_xFld rfl T.xd T.xf_row (de_var 0)) da_nil))) (de_lst (da_cons (de_var 1) da_nil))))))))

abbrev s__law_safe_told : Stmt := top 52
theorem sc__law_safe_told : FnScope ["_law_work", "_law_found", "_law_refused", "_law_e"] ["_law_work"] (defScope s__law_safe_told) := ⟨rfl, rfl, rfl, by decide +kernel, rfl, by decide +kernel, by decide +kernel⟩
theorem lam__law_safe_told {f : Addr} {fd : FuncData} (F : Fun K "_law_safe_told" "_law_safe_told" s__law_safe_told f fd) (T : Txt K mg ca ce Ts w) (hm : mg "_law_safe_told" = some (.ref f)) (hb : Binds K fd ["_law_work"] []) (c__law_refusal : DefG ⟨K, ca, ce, Ts⟩ P w mg base 2 "_law_refusal" 1 d__law_refusal) : LamD ⟨K, ca, ce, Ts⟩ P w mg base 2 "_law_safe_told" h__law_safe_told := by
  obtain ⟨_, q1, q2⟩ := T.t_VoteError
  exact lamD_B (G := ⟨K, ca, ce, Ts⟩) (N := ["_law_work", "_law_found", "_law_refused", "_law_e"]) .keep F sc__law_safe_told hm hb rfl (Or.inl rfl) rfl rfl rfl (by decide) rfl rfl (by decide) (by decide) rfl rfl rfl rfl q2 ⟨fun cdv A outer s H E gd hr tk po => ⟨⟨by rfl, by decide, .inl q1⟩, fun a pn => (dss_one (ds_set (i := 2) sc__law_safe_told.nd rfl (Or.inl rfl) (de_var 3))),
(dss_one (ds_ret (de_if (dt_cmp do_isN (de_var 2) de_non) (de_var 1) (de_callG c__law_refusal gd rfl (hr.mono (by omega)) rfl tk (da_cons (de_var 2) da_nil) rfl (la_cons la_nil)))))⟩⟩ (fun _ _ _ _ _ _ => ⟨rfl, rfl⟩)

abbrev s__law_is_done : Stmt := top 57
theorem sc__law_is_done : FnScope ["_law_work", "_law_told"] ["_law_work"] (defScope s__law_is_done) := ⟨rfl, rfl, rfl, by decide +kernel, rfl, by decide +kernel, by decide +kernel⟩
theorem lam__law_is_done {f : Addr} {fd : FuncData} (F : Fun K "_law_is_done" "_law_is_done" s__law_is_done f fd) (T : Txt K mg ca ce Ts w) (hm : mg "_law_is_done" = some (.ref f)) (hb : Binds K fd ["_law_work"] []) (c__law_safe_told : LamD ⟨K, ca, ce, Ts⟩ P w mg base 2 "_law_safe_told" h__law_safe_told) : LamF ⟨K, ca, ce, Ts⟩ P w mg base 2 1 "_law_is_done" h__law_is_done := by
  exact lamF_C (G := ⟨K, ca, ce, Ts⟩) (N := ["_law_work", "_law_told"]) .pure F sc__law_is_done hm hb rfl (Or.inl rfl) rfl rfl rfl (c__law_safe_told.toF.mono (by omega)) fun cdv A outer s H E gd hr tk po => ⟨by rfl,
(dss_one (ds_ret (de_if (DW.t (dw_and (dt_val (de_isC rfl T.own T.is_list (cn_ty rfl T.b_list (by decide +kernel)) rfl T.b_isinstance (de_var 1))) (dw_and1 (dt_cmp (do_eq rfl (units100 hr)) (de_var 1) (de_lst (da_cons de_str da_nil)))))) de_int (de_if (dt_val (de_isC rfl T.own T.is_list (cn_ty rfl T.b_list (by decide +kernel)) rfl T.b_isinstance (de_var 1))) de_int de_int))))⟩

abbrev s__law_odd_points : Stmt := top 56
theorem sc__law_odd_points : FnScope ["_law_draw", "_law_points", "_law_at", "_law_x", "_law_value", "_law_some"] ["_law_draw", "_law_points"] (defScope s__law_odd_points) := ⟨rfl, rfl, rfl, by decide +kernel, rfl, by decide +kernel, by decide +kernel⟩
theorem ok__law_odd_points {f : Addr} {fd : FuncData} (F : Fun K "_law_odd_points" "_law_odd_points" s__law_odd_points f fd) (T : Txt K mg ca ce Ts w) (c__law_next : DefG ⟨K, ca, ce, Ts⟩ P w mg base 1 "_law_next" 2 d__law_next) (c__law_pick : DefG ⟨K, ca, ce, Ts⟩ P w mg base 2 "_law_pick" 2 d__law_pick) (c__law_odd_number : DefG ⟨K, ca, ce, Ts⟩ P w mg base 3 "_law_odd_number" 1 d__law_odd_number) : FnG P w K mg base (L2.CX P w) 4 f fd ["_law_draw", "_law_points"] (spD ⟨K, ca, ce, Ts⟩ 2 d__law_odd_points) :=
fnG (G := ⟨K, ca, ce, Ts⟩) (N := ["_law_draw", "_law_points", "_law_at", "_law_x", "_law_value", "_law_some"]) .keep F sc__law_odd_points fun cdv A outer s H E hr tk po gd =>
(dss_cons (ds_set (i := 2) sc__law_odd_points.nd rfl (Or.inl rfl) (de_callG c__law_next gd rfl (hr.mono (by omega)) rfl tk (da_cons (de_var 0) (da_cons (de_callB (dc_lenX rfl) rfl T.b_len (by decide +kernel) (da_cons (de_var 1) da_nil)) da_nil)) rfl (la_cons (la_cons la_nil))))
(dss_cons (ds_asg (de_ixX rfl (units1 hr) (de_var 1) (de_var 2)) (dg_tup rfl rfl (dgs_cons (dg_name sc__law_odd_points.nd rfl (by first | exact Or.inl rfl | exact Or.inr rfl)) (dgs_cons (dg_name sc__law_odd_points.nd rfl (by first | exact Or.inl rfl | exact Or.inr rfl)) dgs_nil)) (blen_cons (blen_cons blen_nil))))
(dss_cons (ds_set (i := 5) sc__law_odd_points.nd rfl (Or.inl rfl) (de_lst (da_cons (de_op (do_add rfl) (de_op (do_add rfl) (de_slice rfl (de_var 1) do_none (do_some (de_var 2))) (de_lst (da_cons (de_tup (da_cons (de_var 3) (da_cons (de_callG c__law_odd_number gd rfl (hr.mono (by omega)) rfl tk (da_cons (de_var 0) da_nil) rfl (la_cons la_nil)) da_nil))) da_nil))) (de_slice rfl (de_var 1) (do_some (de_op (do_add rfl) (de_var 2) de_int)) do_none)) (da_cons (de_op (do_add rfl) (de_var 1) (de_lst (da_cons (de_ixX rfl (units1 hr) (de_var 1) (de_var 2)) da_nil))) (da_cons (de_callTy (dc_tuple rfl) rfl T.b_tuple (by decide +kernel) (da_cons (de_var 1) da_nil)) (da_cons (de_lst da_nil) da_nil))))))
(dss_cons (ds_set (i := 5) sc__law_odd_points.nd rfl (Or.inl rfl) (de_op (do_add rfl) (de_var 5) (de_lst (da_cons (de_op (do_add rfl) (de_op (do_add rfl) (de_slice rfl (de_var 1) do_none (do_some (de_var 2))) (de_lst (da_cons (de_tup (da_cons (de_callG c__law_odd_number gd rfl (hr.mono (by omega)) rfl tk (da_cons (de_var 0) da_nil) rfl (la_cons la_nil)) (da_cons (de_var 4) da_nil))) da_nil))) (de_slice rfl (de_var 1) (do_some (de_op (do_add rfl) (de_var 2) de_int)) do_none)) (da_cons (de_op (do_add rfl) (de_slice rfl (de_var 1) do_none (do_some (de_var 2))) (de_lst (da_cons (de_lst (da_cons (de_var 3) (da_cons (de_var 4) da_nil))) da_nil))) (da_cons de_non da_nil))))))
(dss_one (ds_ret (de_callG c__law_pick gd rfl (hr.mono (by omega)) rfl tk (da_cons (de_var 0) (da_cons (de_op (do_add rfl) (de_var 5) (de_lst (da_cons (de_op (do_add rfl) (de_var 1) (de_lst (da_cons (de_tup (da_cons (de_var 3) (da_cons de_int da_nil))) da_nil))) (da_cons (de_op (do_add rfl) (de_var 1) (de_lst (da_cons de_int da_nil))) (da_cons de_dic0 (da_cons de_str (da_cons (de_op (do_add rfl) (de_var 1) (de_lst (da_cons (de_tup (da_cons de_int (da_cons de_int (da_cons de_int da_nil)))) da_nil))) (da_cons (de_var 1) da_nil)))))))) da_nil)) rfl (la_cons (la_cons la_nil)))))))))

abbrev s_is_whole : Stmt := top 25
theorem sc_is_whole : FnScope ["thing"] ["thing"] (defScope s_is_whole) := ⟨rfl, rfl, rfl, by decide +kernel, rfl, by decide +kernel, by decide +kernel⟩
theorem ok_is_whole {f : Addr} {fd : FuncData} (F : Fun K "is_whole" "is_whole" s_is_whole f fd) (T : Txt K mg ca ce Ts w)  : FnG P w K mg base (L2.CX P w) 1 f fd ["thing"] (spD ⟨K, ca, ce, Ts⟩ 1 d_is_whole) :=
fnG (G := ⟨K, ca, ce, Ts⟩) (N := ["thing"]) .pure F sc_is_whole fun cdv A outer s H E hr tk po gd =>
(dss_one (ds_ret (de_and (de_isC rfl T.own T.is_int (cn_ty rfl T.b_int (by decide +kernel)) rfl T.b_isinstance (de_var 0)) (de_one (de_not (de_isC rfl T.own T.is_bool (cn_ty rfl T.b_bool (by decide +kernel)) rfl T.b_isinstance (de_var 0)))))))

abbrev s_is_between : Stmt := top 26
theorem sc_is_between : FnScope ["thing", "least", "most"] ["thing", "least", "most"] (defScope s_is_between) := ⟨rfl, rfl, rfl, by decide +kernel, rfl, by decide +kernel, by decide +kernel⟩
theorem ok_is_between {f : Addr} {fd : FuncData} (F : Fun K "is_between" "is_between" s_is_between f fd) (T : Txt K mg ca ce Ts w) (c_is_whole : DefG ⟨K, ca, ce, Ts⟩ P w mg base 1 "is_whole" 1 d_is_whole) : FnG P w K mg base (L2.CX P w) 2 f fd ["thing", "least", "most"] (spD ⟨K, ca, ce, Ts⟩ 3 d_is_between) :=
fnG (G := ⟨K, ca, ce, Ts⟩) (N := ["thing", "least", "most"]) .pure F sc_is_between fun cdv A outer s H E hr tk po gd =>
(dss_one (ds_ret (de_and (de_callG c_is_whole gd rfl (hr.mono (by omega)) rfl tk (da_cons (de_var 0) da_nil) rfl (la_cons la_nil)) (de_one (de_chain do_le do_le (de_var 1) (de_var 0) (de_var 2))))))

abbrev s_Safe_init : Stmt := inClass (top 42) 0
theorem sc_Safe_init : FnScope ["self", "keepers", "need", "keeper"] ["self", "keepers", "need"] (defScope s_Safe_init) := ⟨rfl, rfl, rfl, by decide +kernel, rfl, by decide +kernel, by decide +kernel⟩
theorem ok_Safe_init {f : Addr} {fd : FuncData} (F : Fun K "__init__" "Safe.__init__" s_Safe_init f fd) (T : Txt K mg ca ce Ts w) (c_is_between : DefG ⟨K, ca, ce, Ts⟩ P w mg base 2 "is_between" 3 d_is_between) : FnG P w K mg base (L2.CX P w) 3 f fd ["self", "keepers", "need"] (spD ⟨K, ca, ce, Ts⟩ 3 d_Safe_init) :=
fnG (G := ⟨K, ca, ce, Ts⟩) (N := ["self", "keepers", "need", "keeper"]) .keep F sc_Safe_init fun cdv A outer s H E hr tk po gd =>
(dss_cons (ds_if (DW.t (dw_or (dt_not (dt_val (de_callG c_is_between gd rfl (hr.mono (by omega)) rfl tk (da_cons (de_var 1) (da_cons de_int (da_cons (de_gInt T.g_MOST_KEEPERS rfl) da_nil))) rfl (la_cons (la_cons (la_cons la_nil)))))) (dw_or1 (dt_not (dt_val (de_callG c_is_between gd rfl (hr.mono (by omega)) rfl tk (da_cons (de_var 2) (da_cons de_int (da_cons (de_var 1) da_nil))) rfl (la_cons (la_cons (la_cons la_nil)))))))))
(dss_one (ds_raise rfl rfl tk T.x_NoCount (by rfl)))
dss_nil)
(dss_cons (ds_fldC rfl T.fl_many (de_var 1) (de_var 0))
(dss_cons (ds_fldC rfl T.fl_wanted (de_var 2) (de_var 0))
(dss_cons (ds_fldC rfl T.fl_drawers (de_dcM (own := [("keeper", 3)]) rfl sc_Safe_init.nd (di_range2 rfl T.b_range (da_cons de_int (da_cons (de_op (do_add rfl) (de_var 1) de_int) da_nil))) (blkOk_by (N := ["self", "keepers", "need", "keeper"]) (sc := defScope s_Safe_init) (own := [("keeper", 3)]) (by decide +kernel)) (fun _ _ _ _ _ => (dg_name sc_Safe_init.nd rfl (by first | exact Or.inl rfl | exact Or.inr rfl))) (fun _ _ _ _ _ => dts_nil) (fun _ _ _ _ _ => (de_var 3)) (fun _ _ _ _ _ => de_dic0) (by decide)) (de_var 0))
(dss_one (ds_fldC rfl T.fl_known de_dic0M (de_var 0)))))))

abbrev s_is_low : Stmt := top 31
theorem sc_is_low : FnScope ["thing"] ["thing"] (defScope s_is_low) := ⟨rfl, rfl, rfl, by decide +kernel, rfl, by decide +kernel, by decide +kernel⟩
theorem ok_is_low {f : Addr} {fd : FuncData} (F : Fun K "is_low" "is_low" s_is_low f fd) (T : Txt K mg ca ce Ts w) (c_is_between : DefG ⟨K, ca, ce, Ts⟩ P w mg base 2 "is_between" 3 d_is_between) : FnG P w K mg base (L2.CX P w) 3 f fd ["thing"] (spD ⟨K, ca, ce, Ts⟩ 1 d_is_low) :=
fnG (G := ⟨K, ca, ce, Ts⟩) (N := ["thing"]) .pure F sc_is_low fun cdv A outer s H E hr tk po gd =>
(dss_one (ds_ret (de_callG c_is_between gd rfl (hr.mono (by omega)) rfl tk (da_cons (de_var 0) (da_cons de_int (da_cons (de_op do_sub (de_gInt T.g_P rfl) de_int) da_nil))) rfl (la_cons (la_cons (la_cons la_nil))))))

abbrev s_are_low : Stmt := top 32
theorem sc_are_low : FnScope ["thing", "one"] ["thing"] (defScope s_are_low) := ⟨rfl, rfl, rfl, by decide +kernel, rfl, by decide +kernel, by decide +kernel⟩
theorem ok_are_low {f : Addr} {fd : FuncData} (F : Fun K "are_low" "are_low" s_are_low f fd) (T : Txt K mg ca ce Ts w) (c_is_low : DefG ⟨K, ca, ce, Ts⟩ P w mg base 3 "is_low" 1 d_is_low) : FnG P w K mg base (L2.CX P w) 4 f fd ["thing"] (spD ⟨K, ca, ce, Ts⟩ 1 d_are_low) :=
fnG (G := ⟨K, ca, ce, Ts⟩) (N := ["thing", "one"]) .pure F sc_are_low fun cdv A outer s H E hr tk po gd =>
(dss_one (ds_ret (de_and (de_isC rfl T.own T.is_tuple (cn_ty rfl T.b_tuple (by decide +kernel)) rfl T.b_isinstance (de_var 0)) (de_one (de_callB (dc_all rfl rfl) rfl T.b_all (by decide +kernel) (da_cons (de_lc (own := [("one", 1)]) rfl sc_are_low.nd (di_seq rfl (de_var 0)) (blkOk_by (N := ["thing", "one"]) (sc := defScope s_are_low) (own := [("one", 1)]) (by decide +kernel)) (fun _ _ _ _ _ => (dg_name sc_are_low.nd rfl (by first | exact Or.inl rfl | exact Or.inr rfl))) (fun _ _ _ _ _ => dts_nil) (fun _ _ _ _ _ => (de_callG c_is_low gd rfl (hr.mono (by omega)) rfl takes0 (da_cons (de_var 1) da_nil) rfl (la_cons la_nil))) (by decide)) da_nil))))))

abbrev s_worth_at : Stmt := top 33
theorem sc_worth_at : FnScope ["numbers", "x", "found", "one"] ["numbers", "x"] (defScope s_worth_at) := ⟨rfl, rfl, rfl, by decide +kernel, rfl, by decide +kernel, by decide +kernel⟩
theorem ok_worth_at {f : Addr} {fd : FuncData} (F : Fun K "worth_at" "worth_at" s_worth_at f fd) (T : Txt K mg ca ce Ts w)  : FnG P w K mg base (L2.CX P w) 1 f fd ["numbers", "x"] (spD ⟨K, ca, ce, Ts⟩ 2 d_worth_at) :=
fnG (G := ⟨K, ca, ce, Ts⟩) (N := ["numbers", "x", "found", "one"]) .pure F sc_worth_at fun cdv A outer s H E hr tk po gd =>
(dss_cons (ds_set (i := 2) sc_worth_at.nd rfl (Or.inl rfl) de_int)
(dss_cons (ds_for po rfl (di_seq rfl (de_rev rfl (de_var 0))) (dg_name sc_worth_at.nd rfl (by first | exact Or.inl rfl | exact Or.inr rfl))
(dss_one (ds_set (i := 2) sc_worth_at.nd rfl (Or.inl rfl) (de_op do_mod (de_op (do_add rfl) (de_op do_mul (de_var 2) (de_var 1)) (de_var 3)) (de_gInt T.g_P rfl)))))
(dss_one (ds_ret (de_var 2)))))

abbrev s_dealt : Stmt := top 35
theorem sc_dealt : FnScope ["number", "seeds", "keepers", "x"] ["number", "seeds", "keepers"] (defScope s_dealt) := ⟨rfl, rfl, rfl, by decide +kernel, rfl, by decide +kernel, by decide +kernel⟩
theorem ok_dealt {f : Addr} {fd : FuncData} (F : Fun K "dealt" "dealt" s_dealt f fd) (T : Txt K mg ca ce Ts w) (c_is_between : DefG ⟨K, ca, ce, Ts⟩ P w mg base 2 "is_between" 3 d_is_between) (c_is_low : DefG ⟨K, ca, ce, Ts⟩ P w mg base 3 "is_low" 1 d_is_low) (c_are_low : DefG ⟨K, ca, ce, Ts⟩ P w mg base 4 "are_low" 1 d_are_low) (c_worth_at : DefG ⟨K, ca, ce, Ts⟩ P w mg base 1 "worth_at" 2 d_worth_at) : FnG P w K mg base (L2.CX P w) 5 f fd ["number", "seeds", "keepers"] (spD ⟨K, ca, ce, Ts⟩ 3 d_dealt) :=
fnG (G := ⟨K, ca, ce, Ts⟩) (N := ["number", "seeds", "keepers", "x"]) .pure F sc_dealt fun cdv A outer s H E hr tk po gd =>
(dss_cons (ds_if (DW.t (dw_or (dt_not (dt_val (de_callG c_is_low gd rfl (hr.mono (by omega)) rfl tk (da_cons (de_var 0) da_nil) rfl (la_cons la_nil)))) (dw_or (dt_not (dt_val (de_callG c_are_low gd rfl (hr.mono (by omega)) rfl tk (da_cons (de_var 1) da_nil) rfl (la_cons la_nil)))) (dw_or (dt_not (dt_val (de_callG c_is_between gd rfl (hr.mono (by omega)) rfl tk (da_cons (de_var 2) (da_cons de_int (da_cons (de_gInt T.g_MOST_KEEPERS rfl) da_nil))) rfl (la_cons (la_cons (la_cons la_nil)))))) (dw_or1 (dt_cmp do_ge (de_callB (dc_lenX rfl) rfl T.b_len (by decide +kernel) (da_cons (de_var 1) da_nil)) (de_var 2)))))))
(dss_one (ds_raise rfl rfl tk T.x_NoCount (by rfl)))
dss_nil)
(dss_one (ds_ret (de_callTy (dc_tuple rfl) rfl T.b_tuple (by decide +kernel) (da_cons (de_lc (own := [("x", 3)]) rfl sc_dealt.nd (di_range2 rfl T.b_range (da_cons de_int (da_cons (de_op (do_add rfl) (de_var 2) de_int) da_nil))) (blkOk_by (N := ["number", "seeds", "keepers", "x"]) (sc := defScope s_dealt) (own := [("x", 3)]) (by decide +kernel)) (fun _ _ _ _ _ => (dg_name sc_dealt.nd rfl (by first | exact Or.inl rfl | exact Or.inr rfl))) (fun _ _ _ _ _ => dts_nil) (fun _ _ _ _ _ => (de_callG c_worth_at gd rfl (hr.mono (by omega)) rfl takes0 (da_cons (de_op (do_add rfl) (de_tup (da_cons (de_var 0) da_nil)) (de_var 1)) (da_cons (de_var 3) da_nil)) rfl (la_cons (la_cons la_nil)))) (by decide)) da_nil)))))

abbrev s__law_shuffled : Stmt := top 47
theorem sc__law_shuffled : FnScope ["_law_draw", "_law_some", "_law_left", "_law_k"] ["_law_draw", "_law_some"] (defScope s__law_shuffled) := ⟨rfl, rfl, rfl, by decide +kernel, rfl, by decide +kernel, by decide +kernel⟩
theorem ok__law_shuffled {f : Addr} {fd : FuncData} (F : Fun K "_law_shuffled" "_law_shuffled" s__law_shuffled f fd) (T : Txt K mg ca ce Ts w) (c__law_next : DefG ⟨K, ca, ce, Ts⟩ P w mg base 1 "_law_next" 2 d__law_next) : FnG P w K mg base (L2.CX P w) 2 f fd ["_law_draw", "_law_some"] (spD ⟨K, ca, ce, Ts⟩ 2 d__law_shuffled) :=
fnG (G := ⟨K, ca, ce, Ts⟩) (N := ["_law_draw", "_law_some", "_law_left", "_law_k"]) .pure F sc__law_shuffled fun cdv A outer s H E hr tk po gd =>
(dss_cons (ds_set (i := 2) sc__law_shuffled.nd rfl (Or.inr rfl) (de_callTy (dc_listXM rfl rfl) rfl T.b_list (by decide +kernel) (da_cons (de_var 1) da_nil)))
(dss_one (ds_ret (de_lc (own := [("_law_k", 3)]) rfl sc__law_shuffled.nd (di_range1 rfl T.b_range (da_cons (de_callB (dc_lenX rfl) rfl T.b_len (by decide +kernel) (da_cons (de_var 1) da_nil)) da_nil)) (blkOk_by (N := ["_law_draw", "_law_some", "_law_left", "_law_k"]) (sc := defScope s__law_shuffled) (own := [("_law_k", 3)]) (by decide +kernel)) (fun _ _ _ _ _ => (dg_name sc__law_shuffled.nd rfl (by first | exact Or.inl rfl | exact Or.inr rfl))) (fun _ _ _ _ _ => dts_nil) (fun _ _ _ _ _ => (de_meth PySem.F.plainAttrs_list PySem.F.slot_list_pop PySem.F.type_list_pop dm_popAt rfl (de_var 2) (da_cons (de_callG c__law_next gd rfl (hr.mono (by omega)) rfl takes0 (da_cons (de_var 0) (da_cons (de_callB (dc_lenX rfl) rfl T.b_len (by decide +kernel) (da_cons (de_var 2) da_nil)) da_nil)) rfl (la_cons (la_cons la_nil))) da_nil))) (by decide)))))

abbrev s_is_listed : Stmt := top 27
theorem sc_is_listed : FnScope ["thing"] ["thing"] (defScope s_is_listed) := ⟨rfl, rfl, rfl, by decide +kernel, rfl, by decide +kernel, by decide +kernel⟩
theorem ok_is_listed {f : Addr} {fd : FuncData} (F : Fun K "is_listed" "is_listed" s_is_listed f fd) (T : Txt K mg ca ce Ts w)  : FnG P w K mg base (L2.CX P w) 1 f fd ["thing"] (spD ⟨K, ca, ce, Ts⟩ 1 d_is_listed) :=
fnG (G := ⟨K, ca, ce, Ts⟩) (N := ["thing"]) .pure F sc_is_listed fun cdv A outer s H E hr tk po gd =>
(dss_one (ds_ret (de_isCs rfl T.own (CNames.cons (cn_ty rfl T.b_list (by decide +kernel)) T.is_list (CNames.cons (cn_ty rfl T.b_tuple (by decide +kernel)) T.is_tuple CNames.nil)) (by decide) rfl T.b_isinstance (de_var 0))))

abbrev s_is_point : Stmt := top 36
theorem sc_is_point : FnScope ["thing"] ["thing"] (defScope s_is_point) := ⟨rfl, rfl, rfl, by decide +kernel, rfl, by decide +kernel, by decide +kernel⟩
theorem ok_is_point {f : Addr} {fd : FuncData} (F : Fun K "is_point" "is_point" s_is_point f fd) (T : Txt K mg ca ce Ts w) (c_is_between : DefG ⟨K, ca, ce, Ts⟩ P w mg base 2 "is_between" 3 d_is_between) (c_is_low : DefG ⟨K, ca, ce, Ts⟩ P w mg base 3 "is_low" 1 d_is_low) : FnG P w K mg base (L2.CX P w) 4 f fd ["thing"] (spD ⟨K, ca, ce, Ts⟩ 1 d_is_point) :=
fnG (G := ⟨K, ca, ce, Ts⟩) (N := ["thing"]) .pure F sc_is_point fun cdv A outer s H E hr tk po gd =>
(dss_cons (ds_if (DW.t (dw_or (dt_not (dt_val (de_isC rfl T.own T.is_tuple (cn_ty rfl T.b_tuple (by decide +kernel)) rfl T.b_isinstance (de_var 0)))) (dw_or1 (dt_cmp (do_ne rfl (units100 hr)) (de_callB (dc_lenX rfl) rfl T.b_len (by decide +kernel) (da_cons (de_var 0) da_nil)) de_int))))
(dss_one (ds_ret de_bl))
dss_nil)
(dss_one (ds_ret (de_and (de_callG c_is_between gd rfl (hr.mono (by omega)) rfl tk (da_cons (de_ixX rfl (units1 hr) (de_var 0) de_int) (da_cons de_int (da_cons (de_gInt T.g_MOST_KEEPERS rfl) da_nil))) rfl (la_cons (la_cons (la_cons la_nil)))) (de_one (de_callG c_is_low gd rfl (hr.mono (by omega)) rfl tk (da_cons (de_ixX rfl (units1 hr) (de_var 0) de_int) da_nil) rfl (la_cons la_nil)))))))

abbrev s_need_points : Stmt := top 37
theorem sc_need_points : FnScope ["points", "x", "value", "one"] ["points"] (defScope s_need_points) := ⟨rfl, rfl, rfl, by decide +kernel, rfl, by decide +kernel, by decide +kernel⟩
theorem ok_need_points {f : Addr} {fd : FuncData} (F : Fun K "need_points" "need_points" s_need_points f fd) (T : Txt K mg ca ce Ts w) (c_is_listed : DefG ⟨K, ca, ce, Ts⟩ P w mg base 1 "is_listed" 1 d_is_listed) (c_is_point : DefG ⟨K, ca, ce, Ts⟩ P w mg base 4 "is_point" 1 d_is_point) : FnG P w K mg base (L2.CX P w) 5 f fd ["points"] (spD ⟨K, ca, ce, Ts⟩ 1 d_need_points) :=
fnG (G := ⟨K, ca, ce, Ts⟩) (N := ["points", "x", "value", "one"]) .pure F sc_need_points fun cdv A outer s H E hr tk po gd =>
(dss_cons (ds_if (DW.t (dw_or (dt_not (dt_val (de_callG c_is_listed gd rfl (hr.mono (by omega)) rfl tk (da_cons (de_var 0) da_nil) rfl (la_cons la_nil)))) (dw_or (dt_cmp (do_eq rfl (units100 hr)) (de_callB (dc_lenX rfl) rfl T.b_len (by decide +kernel) (da_cons (de_var 0) da_nil)) de_int) (dw_or1 (dt_not (dt_val (de_callB (dc_all rfl rfl) rfl T.b_all (by decide +kernel) (da_cons (de_lc (own := [("one", 3)]) rfl sc_need_points.nd (di_seq rfl (de_var 0)) (blkOk_by (N := ["points", "x", "value", "one"]) (sc := defScope s_need_points) (own := [("one", 3)]) (by decide +kernel)) (fun _ _ _ _ _ => (dg_name sc_need_points.nd rfl (by first | exact Or.inl rfl | exact Or.inr rfl))) (fun _ _ _ _ _ => dts_nil) (fun _ _ _ _ _ => (de_callG c_is_point gd rfl (hr.mono (by omega)) rfl takes0 (da_cons (de_var 3) da_nil) rfl (la_cons la_nil))) (by decide)) da_nil))))))))
(dss_one (ds_raise rfl rfl tk T.x_NoCount (by rfl)))
dss_nil)
(dss_one (ds_if (dt_cmp do_lt (de_lenSc (own := [("x", 1), ("value", 2)]) rfl sc_need_points.nd rfl T.b_len (di_seq rfl (de_var 0)) (blkOk_by (N := ["points", "x", "value", "one"]) (sc := defScope s_need_points) (own := [("x", 1), ("value", 2)]) (by decide +kernel)) (fun _ _ _ _ _ => (dg_tup rfl rfl (dgs_cons (dg_name sc_need_points.nd rfl (by first | exact Or.inl rfl | exact Or.inr rfl)) (dgs_cons (dg_name sc_need_points.nd rfl (by first | exact Or.inl rfl | exact Or.inr rfl)) dgs_nil)) (blen_cons (blen_cons blen_nil)))) (fun _ _ _ _ _ => dts_nil) (fun _ _ _ _ _ => (de_var 1)) (by decide)) (de_callB (dc_lenX rfl) rfl T.b_len (by decide +kernel) (da_cons (de_var 0) da_nil)))
(dss_one (ds_raise rfl rfl tk T.x_NoCount (by rfl)))
dss_nil)))

abbrev s_times_less : Stmt := top 38
theorem sc_times_less : FnScope ["numbers", "x", "longer", "one", "other"] ["numbers", "x"] (defScope s_times_less) := ⟨rfl, rfl, rfl, by decide +kernel, rfl, by decide +kernel, by decide +kernel⟩
theorem ok_times_less {f : Addr} {fd : FuncData} (F : Fun K "times_less" "times_less" s_times_less f fd) (T : Txt K mg ca ce Ts w)  : FnG P w K mg base (L2.CX P w) 1 f fd ["numbers", "x"] (spD ⟨K, ca, ce, Ts⟩ 2 d_times_less) :=
fnG (G := ⟨K, ca, ce, Ts⟩) (N := ["numbers", "x", "longer", "one", "other"]) .pure F sc_times_less fun cdv A outer s H E hr tk po gd =>
(dss_cons (ds_set (i := 2) sc_times_less.nd rfl (Or.inl rfl) (de_op (do_add rfl) (de_lst (da_cons de_int da_nil)) (de_callTy (dc_listX rfl rfl) rfl T.b_list (by decide +kernel) (da_cons (de_var 0) da_nil))))
(dss_one (ds_ret (de_lc (own := [("one", 3), ("other", 4)]) rfl sc_times_less.nd (di_zip2X rfl rfl T.b_zip (da_cons (de_var 2) (da_cons (de_op (do_add rfl) (de_callTy (dc_listX rfl rfl) rfl T.b_list (by decide +kernel) (da_cons (de_var 0) da_nil)) (de_lst (da_cons de_int da_nil))) da_nil))) (blkOk_by (N := ["numbers", "x", "longer", "one", "other"]) (sc := defScope s_times_less) (own := [("one", 3), ("other", 4)]) (by decide +kernel)) (fun _ _ _ _ _ => (dg_tup rfl rfl (dgs_cons (dg_name sc_times_less.nd rfl (by first | exact Or.inl rfl | exact Or.inr rfl)) (dgs_cons (dg_name sc_times_less.nd rfl (by first | exact Or.inl rfl | exact Or.inr rfl)) dgs_nil)) (blen_cons (blen_cons blen_nil)))) (fun _ _ _ _ _ => dts_nil) (fun _ _ _ _ _ => (de_op do_mod (de_op do_sub (de_var 3) (de_op do_mul (de_var 1) (de_var 4))) (de_gInt T.g_P rfl))) (by decide)))))

abbrev s_back_of : Stmt := top 34
theorem sc_back_of : FnScope ["number", "found", "square", "left"] ["number"] (defScope s_back_of) := ⟨rfl, rfl, rfl, by decide +kernel, rfl, by decide +kernel, by decide +kernel⟩
theorem ok_back_of {f : Addr} {fd : FuncData} (F : Fun K "back_of" "back_of" s_back_of f fd) (T : Txt K mg ca ce Ts w)  : FnG P w K mg base (L2.CX P w) 1 f fd ["number"] (spD ⟨K, ca, ce, Ts⟩ 1 d_back_of) :=
fnG (G := ⟨K, ca, ce, Ts⟩) (N := ["number", "found", "square", "left"]) .pure F sc_back_of fun cdv A outer s H E hr tk po gd =>
(dss_cons (ds_par3 (i := 1) (j := 2) (l := 3) rfl sc_back_of.nd rfl rfl rfl (by decide) (by decide) (by decide) rfl rfl rfl (da_cons de_int (da_cons (de_op do_mod (de_var 0) (de_gInt T.g_P rfl)) (da_cons (de_op do_sub (de_gInt T.g_P rfl) de_int) da_nil))) (by rfl))
(dss_cons (ds_while po (dt_cmp do_gt (de_var 3) de_int)
(dss_cons (ds_if (dt_cmp (do_eq rfl (units100 hr)) (de_op do_mod (de_var 3) de_int) de_int)
(dss_one (ds_set (i := 1) sc_back_of.nd rfl (Or.inl rfl) (de_op do_mod (de_op do_mul (de_var 1) (de_var 2)) (de_gInt T.g_P rfl))))
dss_nil)
(dss_cons (ds_set (i := 2) sc_back_of.nd rfl (Or.inl rfl) (de_op do_mod (de_op do_mul (de_var 2) (de_var 2)) (de_gInt T.g_P rfl)))
(dss_one (ds_set (i := 3) sc_back_of.nd rfl (Or.inl rfl) (de_op do_fdiv (de_var 3) de_int))))))
(dss_one (ds_ret (de_var 1)))))

abbrev s_through : Stmt := top 39
theorem sc_through : FnScope ["points", "found", "x", "value", "own", "scale", "other", "more", "part", "one"] ["points"] (defScope s_through) := ⟨rfl, rfl, rfl, by decide +kernel, rfl, by decide +kernel, by decide +kernel⟩
theorem ok_through {f : Addr} {fd : FuncData} (F : Fun K "through" "through" s_through f fd) (T : Txt K mg ca ce Ts w) (c_times_less : DefG ⟨K, ca, ce, Ts⟩ P w mg base 1 "times_less" 2 d_times_less) (c_back_of : DefG ⟨K, ca, ce, Ts⟩ P w mg base 1 "back_of" 1 d_back_of) : FnG P w K mg base (L2.CX P w) 2 f fd ["points"] (spD ⟨K, ca, ce, Ts⟩ 1 d_through) :=
fnG (G := ⟨K, ca, ce, Ts⟩) (N := ["points", "found", "x", "value", "own", "scale", "other", "more", "part", "one"]) .pure F sc_through fun cdv A outer s H E hr tk po gd =>
(dss_cons (ds_set (i := 1) sc_through.nd rfl (Or.inl rfl) (de_op do_mulX (de_lstM (da_cons de_int da_nil)) (de_callB (dc_lenX rfl) rfl T.b_len (by decide +kernel) (da_cons (de_var 0) da_nil))))
(dss_cons (ds_for po rfl (di_seq rfl (de_var 0)) (dg_tup rfl rfl (dgs_cons (dg_name sc_through.nd rfl (by first | exact Or.inl rfl | exact Or.inr rfl)) (dgs_cons (dg_name sc_through.nd rfl (by first | exact Or.inl rfl | exact Or.inr rfl)) dgs_nil)) (blen_cons (blen_cons blen_nil)))
(dss_cons (ds_par (i := 4) (j := 5) rfl sc_through.nd rfl rfl (by decide) rfl rfl (da_cons (de_lst (da_cons de_int da_nil)) (da_cons de_int da_nil)) (by rfl))
(dss_cons (ds_for po rfl (di_seq rfl (de_var 0)) (dg_tup rfl rfl (dgs_cons (dg_name sc_through.nd rfl (by first | exact Or.inl rfl | exact Or.inr rfl)) (dgs_cons (dg_name sc_through.nd rfl (by first | exact Or.inl rfl | exact Or.inr rfl)) dgs_nil)) (blen_cons (blen_cons blen_nil)))
(dss_one (ds_if (dt_cmp (do_ne rfl (units100 hr)) (de_var 6) (de_var 2))
(dss_cons (ds_set (i := 4) sc_through.nd rfl (Or.inl rfl) (de_callG c_times_less gd rfl (hr.mono (by omega)) rfl tk (da_cons (de_var 4) (da_cons (de_var 6) da_nil)) rfl (la_cons (la_cons la_nil))))
(dss_one (ds_set (i := 5) sc_through.nd rfl (Or.inl rfl) (de_op do_mod (de_op do_mul (de_var 5) (de_op do_sub (de_var 2) (de_var 6))) (de_gInt T.g_P rfl)))))
dss_nil)))
(dss_cons (ds_set (i := 8) sc_through.nd rfl (Or.inr rfl) (de_op do_mod (de_op do_mul (de_var 3) (de_callG c_back_of gd rfl (hr.mono (by omega)) rfl tk (da_cons (de_var 5) da_nil) rfl (la_cons la_nil))) (de_gInt T.g_P rfl)))
(dss_one (ds_setLc (own := [("one", 9), ("more", 7)]) (i := 1) rfl sc_through.nd (di_zip2X rfl rfl T.b_zip (da_cons (de_var 1) (da_cons (de_var 4) da_nil))) (blkOk_by (N := ["points", "found", "x", "value", "own", "scale", "other", "more", "part", "one"]) (sc := defScope s_through) (own := [("one", 9), ("more", 7)]) (by decide +kernel)) (fun _ _ _ _ _ => (dg_tup rfl rfl (dgs_cons (dg_name sc_through.nd rfl (by first | exact Or.inl rfl | exact Or.inr rfl)) (dgs_cons (dg_name sc_through.nd rfl (by first | exact Or.inl rfl | exact Or.inr rfl)) dgs_nil)) (blen_cons (blen_cons blen_nil)))) (fun _ _ _ _ _ => dts_nil) (fun _ _ _ _ _ => (de_op do_mod (de_op (do_add rfl) (de_var 9) (de_op do_mul (de_var 8) (de_var 7))) (de_gInt T.g_P rfl))) (by decide) rfl rfl (sw_true rfl rfl rfl (by decide +kernel))))))))
(dss_one (ds_ret (de_var 1)))))

abbrev s_restored : Stmt := top 40
theorem sc_restored : FnScope ["points"] ["points"] (defScope s_restored) := ⟨rfl, rfl, rfl, by decide +kernel, rfl, by decide +kernel, by decide +kernel⟩
theorem ok_restored {f : Addr} {fd : FuncData} (F : Fun K "restored" "restored" s_restored f fd) (T : Txt K mg ca ce Ts w) (c_need_points : DefG ⟨K, ca, ce, Ts⟩ P w mg base 5 "need_points" 1 d_need_points) (c_through : DefG ⟨K, ca, ce, Ts⟩ P w mg base 2 "through" 1 d_through) : FnG P w K mg base (L2.CX P w) 6 f fd ["points"] (spD ⟨K, ca, ce, Ts⟩ 1 d_restored) :=
fnG (G := ⟨K, ca, ce, Ts⟩) (N := ["points"]) .pure F sc_restored fun cdv A outer s H E hr tk po gd =>
(dss_cons (ds_expr (de_callG c_need_points gd rfl (hr.mono (by omega)) rfl tk (da_cons (de_var 0) da_nil) rfl (la_cons la_nil)))
(dss_one (ds_ret (de_ixX rfl (units1 hr) (de_callG c_through gd rfl (hr.mono (by omega)) rfl tk (da_cons (de_var 0) da_nil) rfl (la_cons la_nil)) de_int))))

abbrev s_seeds_for : Stmt := top 41
theorem sc_seeds_for : FnScope ["number", "points", "x", "value"] ["number", "points"] (defScope s_seeds_for) := ⟨rfl, rfl, rfl, by decide +kernel, rfl, by decide +kernel, by decide +kernel⟩
theorem ok_seeds_for {f : Addr} {fd : FuncData} (F : Fun K "seeds_for" "seeds_for" s_seeds_for f fd) (T : Txt K mg ca ce Ts w) (c_is_low : DefG ⟨K, ca, ce, Ts⟩ P w mg base 3 "is_low" 1 d_is_low) (c_need_points : DefG ⟨K, ca, ce, Ts⟩ P w mg base 5 "need_points" 1 d_need_points) (c_back_of : DefG ⟨K, ca, ce, Ts⟩ P w mg base 1 "back_of" 1 d_back_of) (c_through : DefG ⟨K, ca, ce, Ts⟩ P w mg base 2 "through" 1 d_through) : FnG P w K mg base (L2.CX P w) 6 f fd ["number", "points"] (spD ⟨K, ca, ce, Ts⟩ 2 d_seeds_for) :=
fnG (G := ⟨K, ca, ce, Ts⟩) (N := ["number", "points", "x", "value"]) .pure F sc_seeds_for fun cdv A outer s H E hr tk po gd =>
(dss_cons (ds_if (dt_not (dt_val (de_callG c_is_low gd rfl (hr.mono (by omega)) rfl tk (da_cons (de_var 0) da_nil) rfl (la_cons la_nil))))
(dss_one (ds_raise rfl rfl tk T.x_NoCount (by rfl)))
dss_nil)
(dss_cons (ds_expr (de_callG c_need_points gd rfl (hr.mono (by omega)) rfl tk (da_cons (de_var 1) da_nil) rfl (la_cons la_nil)))
(dss_one (ds_ret (de_callTy (dc_tuple rfl) rfl T.b_tuple (by decide +kernel) (da_cons (de_callG c_through gd rfl (hr.mono (by omega)) rfl tk (da_cons (de_lc (own := [("x", 2), ("value", 3)]) rfl sc_seeds_for.nd (di_seq rfl (de_var 1)) (blkOk_by (N := ["number", "points", "x", "value"]) (sc := defScope s_seeds_for) (own := [("x", 2), ("value", 3)]) (by decide +kernel)) (fun _ _ _ _ _ => (dg_tup rfl rfl (dgs_cons (dg_name sc_seeds_for.nd rfl (by first | exact Or.inl rfl | exact Or.inr rfl)) (dgs_cons (dg_name sc_seeds_for.nd rfl (by first | exact Or.inl rfl | exact Or.inr rfl)) dgs_nil)) (blen_cons (blen_cons blen_nil)))) (fun _ _ _ _ _ => dts_nil) (fun _ _ _ _ _ => (de_tup (da_cons (de_var 2) (da_cons (de_op do_mod (de_op do_mul (de_op do_sub (de_var 3) (de_var 0)) (de_callG c_back_of gd rfl (hr.mono (by omega)) rfl takes0 (da_cons (de_var 2) da_nil) rfl (la_cons la_nil))) (de_gInt T.g_P rfl)) da_nil)))) (by decide)) da_nil) rfl (la_cons la_nil)) da_nil))))))

abbrev s__law_right : Stmt := top 58
theorem sc__law_right : FnScope ["_law_cell", "_law_k", "_law_draw", "_law_many", "_law_turn", "_law_number", "_law_seeds", "_law_there", "_law_good", "_law_points", "_law_wanted", "_law_x", "_law_one"] ["_law_cell", "_law_k"] (defScope s__law_right) := ⟨rfl, rfl, rfl, by decide +kernel, rfl, by decide +kernel, by decide +kernel⟩
theorem ok__law_right {f c0 P0 : Addr} {fd : FuncData} (F : Fun K "_law_right" "_law_right" s__law_right f fd) (hc : fd.code = .ref c0) (TB : LamX.TabB base mg c0 P0) (mT : (P0, ((PyProof.Rows.envOfC "_law_right" (defScope s__law_right) 0 0 .none).qual ++ ("<lambda>" : Str))) ∈ Ts) (T : Txt K mg ca ce Ts w) (c__law_begun : DefG ⟨K, ca, ce, Ts⟩ P w mg base 1 "_law_begun" 2 d__law_begun) (c__law_next : DefG ⟨K, ca, ce, Ts⟩ P w mg base 1 "_law_next" 2 d__law_next) (c__law_between : DefG ⟨K, ca, ce, Ts⟩ P w mg base 1 "_law_between" 3 d__law_between) (c__law_points_right : DefG ⟨K, ca, ce, Ts⟩ P w mg base 2 "_law_points_right" 1 d__law_points_right) (c__law_pick : DefG ⟨K, ca, ce, Ts⟩ P w mg base 2 "_law_pick" 2 d__law_pick) (c__law_low : DefG ⟨K, ca, ce, Ts⟩ P w mg base 3 "_law_low" 1 d__law_low) (c__law_odd_number : DefG ⟨K, ca, ce, Ts⟩ P w mg base 3 "_law_odd_number" 1 d__law_odd_number) (c__law_lows_right : DefG ⟨K, ca, ce, Ts⟩ P w mg base 2 "_law_lows_right" 1 d__law_lows_right) (c__law_is_done : LamF ⟨K, ca, ce, Ts⟩ P w mg base 2 1 "_law_is_done" h__law_is_done) (c__law_odd_points : DefG ⟨K, ca, ce, Ts⟩ P w mg base 4 "_law_odd_points" 2 d__law_odd_points) (c_Safe__mk2_ : ClsG ⟨K, ca, ce, Ts⟩ P w mg base 3 "Safe" 2 d_Safe_init) (c_dealt : DefG ⟨K, ca, ce, Ts⟩ P w mg base 5 "dealt" 3 d_dealt) (c__law_shuffled : DefG ⟨K, ca, ce, Ts⟩ P w mg base 2 "_law_shuffled" 2 d__law_shuffled) (c_restored : DefG ⟨K, ca, ce, Ts⟩ P w mg base 6 "restored" 1 d_restored) (c_seeds_for : DefG ⟨K, ca, ce, Ts⟩ P w mg base 6 "seeds_for" 2 d_seeds_for) : FnG P w K mg base (L2.CX P w) 10 f fd ["_law_cell", "_law_k"] (spD ⟨K, ca, ce, Ts⟩ 2 d__law_right) :=
fnGC (G := ⟨K, ca, ce, Ts⟩) (N := ["_law_cell", "_law_k", "_law_draw", "_law_many", "_law_turn", "_law_number", "_law_seeds", "_law_there", "_law_good", "_law_points", "_law_wanted", "_law_x", "_law_one"]) .pure hc F sc__law_right fun A outer s H E hr tk po gd =>
(dss_cons (ds_set (i := 2) sc__law_right.nd rfl (Or.inr rfl) (de_callG c__law_begun gd rfl (hr.mono (by omega)) rfl tk (da_cons (de_var 0) (da_cons (de_var 1) da_nil)) rfl (la_cons (la_cons la_nil))))
(dss_cons (ds_set (i := 3) sc__law_right.nd rfl (Or.inl rfl) (de_op (do_add rfl) de_int (de_callG c__law_next gd rfl (hr.mono (by omega)) rfl tk (da_cons (de_var 2) (da_cons de_int da_nil)) rfl (la_cons (la_cons la_nil)))))
(dss_cons (ds_for po rfl (di_range1 rfl T.b_range (da_cons de_int da_nil)) (dg_name sc__law_right.nd rfl (by first | exact Or.inl rfl | exact Or.inr rfl))
(dss_cons (ds_set (i := 5) sc__law_right.nd rfl (Or.inr rfl) (de_if (dt_cmp do_gt (de_callG c__law_next gd rfl (hr.mono (by omega)) rfl tk (da_cons (de_var 2) (da_cons de_int da_nil)) rfl (la_cons (la_cons la_nil))) de_int) (de_callG c__law_low gd rfl (hr.mono (by omega)) rfl tk (da_cons (de_var 2) da_nil) rfl (la_cons la_nil)) (de_callG c__law_odd_number gd rfl (hr.mono (by omega)) rfl tk (da_cons (de_var 2) da_nil) rfl (la_cons la_nil))))
(dss_cons (ds_set (i := 6) sc__law_right.nd rfl (Or.inr rfl) (de_callTy (dc_tuple rfl) rfl T.b_tuple (by decide +kernel) (da_cons (de_lc (own := [("_law_one", 12)]) rfl sc__law_right.nd (di_range1 rfl T.b_range (da_cons (de_callG c__law_next gd rfl (hr.mono (by omega)) rfl tk (da_cons (de_var 2) (da_cons (de_op (do_add rfl) (de_var 3) de_int) da_nil)) rfl (la_cons (la_cons la_nil))) da_nil)) (blkOk_by (N := ["_law_cell", "_law_k", "_law_draw", "_law_many", "_law_turn", "_law_number", "_law_seeds", "_law_there", "_law_good", "_law_points", "_law_wanted", "_law_x", "_law_one"]) (sc := defScope s__law_right) (own := [("_law_one", 12)]) (by decide +kernel)) (fun _ _ _ _ _ => (dg_name sc__law_right.nd rfl (by first | exact Or.inl rfl | exact Or.inr rfl))) (fun _ _ _ _ _ => dts_nil) (fun _ _ _ _ _ => (de_callG c__law_low gd rfl (hr.mono (by omega)) rfl takes0 (da_cons (de_var 2) da_nil) rfl (la_cons la_nil))) (by decide)) da_nil)))
(dss_cons (ds_if (dt_cmp (do_eq rfl (units100 hr)) (de_callG c__law_next gd rfl (hr.mono (by omega)) rfl tk (da_cons (de_var 2) (da_cons de_int da_nil)) rfl (la_cons (la_cons la_nil))) de_int)
(dss_one (ds_set (i := 6) sc__law_right.nd rfl (Or.inr rfl) (de_callG c__law_pick gd rfl (hr.mono (by omega)) rfl tk (da_cons (de_var 2) (da_cons (de_lst (da_cons (de_callTy (dc_listX rfl rfl) rfl T.b_list (by decide +kernel) (da_cons (de_var 6) da_nil)) (da_cons (de_op (do_add rfl) (de_var 6) (de_tup (da_cons (de_callG c__law_odd_number gd rfl (hr.mono (by omega)) rfl tk (da_cons (de_var 2) da_nil) rfl (la_cons la_nil)) da_nil))) (da_cons de_non (da_cons de_int (da_cons (de_op (do_add rfl) (de_var 6) (de_tup (da_cons de_str da_nil))) da_nil)))))) da_nil)) rfl (la_cons (la_cons la_nil)))))
dss_nil)
(dss_cons (ds_set (i := 7) sc__law_right.nd rfl (Or.inr rfl) (de_if (dt_cmp do_gt (de_callG c__law_next gd rfl (hr.mono (by omega)) rfl tk (da_cons (de_var 2) (da_cons de_int da_nil)) rfl (la_cons (la_cons la_nil))) de_int) (de_var 3) (de_callG c__law_odd_number gd rfl (hr.mono (by omega)) rfl tk (da_cons (de_var 2) da_nil) rfl (la_cons la_nil))))
(dss_cons (ds_set (i := 8) sc__law_right.nd rfl (Or.inl rfl) (de_and (de_callG c__law_between gd rfl (hr.mono (by omega)) rfl tk (da_cons (de_var 5) (da_cons de_int (da_cons de_int da_nil))) rfl (la_cons (la_cons (la_cons la_nil)))) (de_and (de_callG c__law_lows_right gd rfl (hr.mono (by omega)) rfl tk (da_cons (de_var 6) da_nil) rfl (la_cons la_nil)) (de_one (de_callG c__law_between gd rfl (hr.mono (by omega)) rfl tk (da_cons (de_var 7) (da_cons de_int (da_cons de_int da_nil))) rfl (la_cons (la_cons (la_cons la_nil))))))))
(dss_cons (ds_set (i := 8) sc__law_right.nd rfl (Or.inl rfl) (de_and (de_var 8) (de_one (de_cmp do_lt (de_callB (dc_lenX rfl) rfl T.b_len (by decide +kernel) (da_cons (de_var 6) da_nil)) (de_var 7)))))
(dss_cons (ds_if (dt_cmp (do_ne rfl (units100 hr)) (de_lamF (k := 5) (dd := 1) TB rfl mT rfl gd (hr.mono (by omega)) (by rfl) tk (c__law_is_done.mono (by omega)) (show LamX.LamS (defScope s__law_right) _ from LamX.lamS_by (by decide +kernel)) (by rfl) (fun _ _ _ _ _ => rfl) (fun A1 outer s2 H2 E f d gd hr tk =>
(de_callG c_dealt gd rfl (hr.mono (by omega)) rfl tk (da_cons (de_var 5) (da_cons (de_var 6) (da_cons (de_var 7) da_nil))) rfl (la_cons (la_cons (la_cons la_nil)))))) (de_callTy dc_int rfl T.b_int (by decide +kernel) (da_cons (de_var 8) da_nil)))
(dss_one (ds_ret de_bl))
dss_nil)
(dss_cons (ds_set (i := 9) sc__law_right.nd rfl (Or.inr rfl) (de_lc (own := [("_law_x", 11)]) rfl sc__law_right.nd (di_seq rfl (de_slice rfl (de_callG c__law_shuffled gd rfl (hr.mono (by omega)) rfl tk (da_cons (de_var 2) (da_cons (de_listRg rfl rfl T.b_list rgOk2 (dr_2 rfl T.b_range de_int de_int)) da_nil)) rfl (la_cons (la_cons la_nil))) do_none (do_some (de_var 3)))) (blkOk_by (N := ["_law_cell", "_law_k", "_law_draw", "_law_many", "_law_turn", "_law_number", "_law_seeds", "_law_there", "_law_good", "_law_points", "_law_wanted", "_law_x", "_law_one"]) (sc := defScope s__law_right) (own := [("_law_x", 11)]) (by decide +kernel)) (fun _ _ _ _ _ => (dg_name sc__law_right.nd rfl (by first | exact Or.inl rfl | exact Or.inr rfl))) (fun _ _ _ _ _ => dts_nil) (fun _ _ _ _ _ => (de_tup (da_cons (de_var 11) (da_cons (de_callG c__law_low gd rfl (hr.mono (by omega)) rfl takes0 (da_cons (de_var 2) da_nil) rfl (la_cons la_nil)) da_nil)))) (by decide)))
(dss_cons (ds_set (i := 9) sc__law_right.nd rfl (Or.inr rfl) (de_if (dt_cmp do_gt (de_callG c__law_next gd rfl (hr.mono (by omega)) rfl tk (da_cons (de_var 2) (da_cons de_int da_nil)) rfl (la_cons (la_cons la_nil))) de_int) (de_callG c__law_odd_points gd rfl (hr.mono (by omega)) rfl tk (da_cons (de_var 2) (da_cons (de_var 9) da_nil)) rfl (la_cons (la_cons la_nil))) (de_var 9)))
(dss_cons (ds_set (i := 8) sc__law_right.nd rfl (Or.inl rfl) (de_callG c__law_points_right gd rfl (hr.mono (by omega)) rfl tk (da_cons (de_var 9) da_nil) rfl (la_cons la_nil)))
(dss_cons (ds_if (dt_cmp (do_ne rfl (units100 hr)) (de_lamF (k := 6) (dd := 1) TB rfl mT rfl gd (hr.mono (by omega)) (by rfl) tk (c__law_is_done.mono (by omega)) (show LamX.LamS (defScope s__law_right) _ from LamX.lamS_by (by decide +kernel)) (by rfl) (fun _ _ _ _ _ => rfl) (fun A1 outer s2 H2 E f d gd hr tk =>
(de_callG c_restored gd rfl (hr.mono (by omega)) rfl tk (da_cons (de_var 9) da_nil) rfl (la_cons la_nil)))) (de_callTy dc_int rfl T.b_int (by decide +kernel) (da_cons (de_var 8) da_nil)))
(dss_one (ds_ret de_bl))
dss_nil)
(dss_cons (ds_if (dt_cmp (do_ne rfl (units100 hr)) (de_lamF (k := 6) (dd := 1) TB rfl mT rfl gd (hr.mono (by omega)) (by rfl) tk (c__law_is_done.mono (by omega)) (show LamX.LamS (defScope s__law_right) _ from LamX.lamS_by (by decide +kernel)) (by rfl) (fun _ _ _ _ _ => rfl) (fun A1 outer s2 H2 E f d gd hr tk =>
(de_callG c_seeds_for gd rfl (hr.mono (by omega)) rfl tk (da_cons (de_var 5) (da_cons (de_var 9) da_nil)) rfl (la_cons (la_cons la_nil))))) (de_callTy dc_int rfl T.b_int (by decide +kernel) (da_cons (de_and (de_var 8) (de_one (de_callG c__law_between gd rfl (hr.mono (by omega)) rfl tk (da_cons (de_var 5) (da_cons de_int (da_cons de_int da_nil))) rfl (la_cons (la_cons (la_cons la_nil)))))) da_nil)))
(dss_one (ds_ret de_bl))
dss_nil)
(dss_cons (ds_set (i := 10) sc__law_right.nd rfl (Or.inr rfl) (de_callG c__law_pick gd rfl (hr.mono (by omega)) rfl tk (da_cons (de_var 2) (da_cons (de_lst (da_cons de_int (da_cons (de_var 3) (da_cons (de_op (do_add rfl) (de_var 3) de_int) (da_cons de_int (da_cons (de_callG c__law_odd_number gd rfl (hr.mono (by omega)) rfl tk (da_cons (de_var 2) da_nil) rfl (la_cons la_nil)) da_nil)))))) da_nil)) rfl (la_cons (la_cons la_nil))))
(dss_cons (ds_set (i := 8) sc__law_right.nd rfl (Or.inl rfl) (de_and (de_callG c__law_between gd rfl (hr.mono (by omega)) rfl tk (da_cons (de_var 7) (da_cons de_int (da_cons de_int da_nil))) rfl (la_cons (la_cons (la_cons la_nil)))) (de_one (de_callG c__law_between gd rfl (hr.mono (by omega)) rfl tk (da_cons (de_var 10) (da_cons de_int (da_cons (de_var 7) da_nil))) rfl (la_cons (la_cons (la_cons la_nil)))))))
(dss_one (ds_if (dt_cmp (do_ne rfl (units100 hr)) (de_lamF (k := 4) (dd := 1) TB rfl mT rfl gd (hr.mono (by omega)) (by rfl) tk (c__law_is_done.mono (by omega)) (show LamX.LamS (defScope s__law_right) _ from LamX.lamS_by (by decide +kernel)) (by rfl) (fun _ _ _ _ _ => rfl) (fun A1 outer s2 H2 E f d gd hr tk =>
(de_make c_Safe__mk2_ gd rfl (hr.mono (by omega)) rfl tk (da_cons (de_var 7) (da_cons (de_var 10) da_nil)) rfl (la_cons (la_cons la_nil))))) (de_callTy dc_int rfl T.b_int (by decide +kernel) (da_cons (de_var 8) da_nil)))
(dss_one (ds_ret de_bl))
dss_nil)))))))))))))))))
(dss_one (ds_ret de_bl)))))

abbrev s_law : Stmt := top 59
theorem sc_law : FnScope ["_law_script", "_law_k", "_law_cell"] ["_law_script"] (defScope s_law) := ⟨rfl, rfl, rfl, by decide +kernel, rfl, by decide +kernel, by decide +kernel⟩
theorem ok_law {f : Addr} {fd : FuncData} (F : Fun K "law" "law" s_law f fd) (T : Txt K mg ca ce Ts w) (c__law_right : DefG ⟨K, ca, ce, Ts⟩ P w mg base 10 "_law_right" 2 d__law_right) : FnG P w K mg base (L2.CX P w) 11 f fd ["_law_script"] (spD ⟨K, ca, ce, Ts⟩ 1 d_law) :=
fnG (G := ⟨K, ca, ce, Ts⟩) (N := ["_law_script", "_law_k", "_law_cell"]) .pure F sc_law fun cdv A outer s H E hr tk po gd =>
(dss_cons (ds_for po rfl (di_enumX rfl rfl T.b_enumerate (da_cons (de_slice rfl (de_op (do_add rfl) (de_var 0) (de_lst (da_cons de_int da_nil))) do_none (do_some (de_callB (dc_max2 rfl) rfl T.b_max (by decide +kernel) (da_cons de_int (da_cons (de_callB (dc_min2 rfl) rfl T.b_min (by decide +kernel) (da_cons de_int (da_cons (de_callB (dc_lenX rfl) rfl T.b_len (by decide +kernel) (da_cons (de_var 0) da_nil)) da_nil))) da_nil))))) da_nil)) (dg_tup rfl rfl (dgs_cons (dg_name sc_law.nd rfl (by first | exact Or.inl rfl | exact Or.inr rfl)) (dgs_cons (dg_name sc_law.nd rfl (by first | exact Or.inl rfl | exact Or.inr rfl)) dgs_nil)) (blen_cons (blen_cons blen_nil)))
(dss_one (ds_if (dt_not (dt_val (de_callG c__law_right gd rfl (hr.mono (by omega)) rfl tk (da_cons (de_var 2) (da_cons (de_var 1) da_nil)) rfl (la_cons (la_cons la_nil)))))
(dss_one (ds_ret de_bl))
dss_nil)))
(dss_one (ds_ret de_bl)))
end
end DL.K53
end
section
namespace DL.K53
open PySem L2  
open DL
theorem all_mk {l : PySem.W.OpenLaw} {q0 : Program} {w : World} {K : PySem.W.Frag} {h : Heap} {mg : Str → Option Value} (X : K.In h) (G : h.Ns mainGlobals mg) {fa C1 f1 f2 f3 f4 f5 f6 f7 f8 f9 f10 f11 f12 f13 f14 f15 f16 f17 f18 f19 f20 f21 f22 f23 f24 f25 f26 f27 f28 f29 f30 cc30 TP30 f31 X_NoBits X_NoChain X_NoCode X_NoCount X_NoDay X_NoLetter X_NoLot X_NoMark X_NoName X_NoPhase X_NoPlace X_NoRace X_NoRow X_NoRuling X_NoStub X_NoText X_NoTime X_NoWay X_NotThere X_NotWhole X_Twice X_VoteError : Addr} {od1 an1 od2 an2 od3 an3 od4 an4 od5 an5 od6 an6 od7 an7 od8 an8 od9 an9 od10 an10 od11 an11 od12 an12 od13 an13 od14 an14 od15 an15 od16 an16 od17 an17 od18 an18 od19 an19 od20 an20 od21 an21 od22 an22 od23 an23 od24 an24 od25 an25 od26 an26 od27 an27 od28 an28 od29 an29 od30 an30 cD30 od31 an31 : Option Addr} {sl1 sl2 sl3 sl4 sl5 sl6 sl7 sl8 sl9 sl10 sl11 sl12 sl13 sl14 sl15 sl16 sl17 sl18 sl19 sl20 sl21 sl22 sl23 sl24 sl25 sl26 sl27 sl28 sl29 sl30 cS30 sl31 : Array (Option Value)} {oc1 dc1 pm1 cd1 ct1 kV1 oc2 dc2 pm2 cd2 ct2 kV2 oc3 dc3 pm3 cd3 ct3 kV3 oc4 dc4 pm4 cd4 ct4 kV4 oc5 dc5 pm5 cd5 ct5 kV5 oc6 dc6 pm6 cd6 ct6 kV6 oc7 dc7 pm7 cd7 ct7 kV7 oc8 dc8 pm8 cd8 ct8 kV8 oc9 dc9 pm9 cd9 ct9 kV9 oc10 dc10 pm10 cd10 ct10 kV10 oc11 dc11 pm11 cd11 ct11 kV11 oc12 dc12 pm12 cd12 ct12 kV12 oc13 dc13 pm13 cd13 ct13 kV13 oc14 dc14 pm14 cd14 ct14 kV14 oc15 dc15 pm15 cd15 ct15 kV15 oc16 dc16 pm16 cd16 ct16 kV16 oc17 dc17 pm17 cd17 ct17 kV17 oc18 dc18 pm18 cd18 ct18 kV18 oc19 dc19 pm19 cd19 ct19 kV19 oc20 dc20 pm20 cd20 ct20 kV20 oc21 dc21 pm21 cd21 ct21 kV21 oc22 dc22 pm22 cd22 ct22 kV22 oc23 dc23 pm23 cd23 ct23 kV23 oc24 dc24 pm24 cd24 ct24 kV24 oc25 dc25 pm25 cd25 ct25 kV25 oc26 dc26 pm26 cd26 ct26 kV26 oc27 dc27 pm27 cd27 ct27 kV27 oc28 dc28 pm28 cd28 ct28 kV28 oc29 dc29 pm29 cd29 ct29 kV29 oc30 dc30 pm30 ct30 kV30 oc31 dc31 pm31 cd31 ct31 kV31 : Value} {cV30 : Array Value} {cF30 : Str} {cT30 cU30 cY30 t_MOST_KEEPERS t_P : Tok} {cG30 cX30 : Int} {cB30 : Bool} (hfa : mg "law" = some (.ref fa)) (own : ∀ y : Str, ((PyProof.Rows.recsOf q0).any fun e => e.name == y) = true → L2.TabAt K mg h y)
    (A1 : PySem.W.nsIn K mainGlobals "Safe" = some (some (.ref C1)))
    (pg1 : PySem.W.plainGet K C1 Str.empty = true)
    (hd1 : PySem.W.hasDictIn K C1 = true)
    (po1 : PySem.W.plainOver K C1 = true)
    (sa1 : PySem.W.findIn K (.ref C1) "__setattr__" = some (some (.builtin "object.__setattr__")))
    (ha1 : PySem.W.findIn K (.ref C1) "__class__" = some (some (.builtin "object.__class__")))
    (hn1 : PySem.W.specialIn K (.builtin "object.__class__") "__get__" = some (some (.builtin "getset_descriptor.__get__")))
    (ht1 : PySem.W.takesIn K (.builtin "object.__class__") = some true)
    (hm1 : PySem.W.mroIn K C1 (.type "object") = some true)
    (ic1 : PySem.W.isClsIn K C1 = true)
    (tc1 : PySem.W.typeIn K (.ref C1) = some (.type "type"))
    (n1_drawers : PySem.W.findIn K (.ref C1) "drawers" = some none)
    (n1_known : PySem.W.findIn K (.ref C1) "known" = some none)
    (n1_many : PySem.W.findIn K (.ref C1) "many" = some none)
    (n1_wanted : PySem.W.findIn K (.ref C1) "wanted" = some none)
    (m1_bool : PySem.W.mroIn K C1 (.type "bool") = some false)
    (m1_int : PySem.W.mroIn K C1 (.type "int") = some false)
    (m1_list : PySem.W.mroIn K C1 (.type "list") = some false)
    (m1_tuple : PySem.W.mroIn K C1 (.type "tuple") = some false)
    (m1_1 : PySem.W.mroIn K C1 (.ref C1) = some (decide (("Safe" : Str) = "Safe")))
    (mk1 : PySem.W.makesIn K C1 = true)
    (kc1 : PySem.W.keepIn K (.ref C1) = true)
    (a1 : PySem.W.nsIn K mainGlobals "_law_begun" = some (some (.ref f1)))
    (l1 : K.lookup f1 = some ⟨oc1, od1, .func (PySem.W.fnOf "_law_begun" "_law_begun" (defArgs s__law_begun) (defBody s__law_begun) (defScope s__law_begun) .none kV1 dc1 pm1 an1 cd1 ct1), sl1⟩)
    (c1 : PySem.W.codeIn K cd1 "_law_begun" = true)
    (k1 : PySem.W.keepIn K (.ref f1) = true)
    (a2 : PySem.W.nsIn K mainGlobals "_law_next" = some (some (.ref f2)))
    (l2 : K.lookup f2 = some ⟨oc2, od2, .func (PySem.W.fnOf "_law_next" "_law_next" (defArgs s__law_next) (defBody s__law_next) (defScope s__law_next) .none kV2 dc2 pm2 an2 cd2 ct2), sl2⟩)
    (c2 : PySem.W.codeIn K cd2 "_law_next" = true)
    (k2 : PySem.W.keepIn K (.ref f2) = true)
    (a3 : PySem.W.nsIn K mainGlobals "_law_between" = some (some (.ref f3)))
    (l3 : K.lookup f3 = some ⟨oc3, od3, .func (PySem.W.fnOf "_law_between" "_law_between" (defArgs s__law_between) (defBody s__law_between) (defScope s__law_between) .none kV3 dc3 pm3 an3 cd3 ct3), sl3⟩)
    (c3 : PySem.W.codeIn K cd3 "_law_between" = true)
    (k3 : PySem.W.keepIn K (.ref f3) = true)
    (a4 : PySem.W.nsIn K mainGlobals "_law_points_right" = some (some (.ref f4)))
    (l4 : K.lookup f4 = some ⟨oc4, od4, .func (PySem.W.fnOf "_law_points_right" "_law_points_right" (defArgs s__law_points_right) (defBody s__law_points_right) (defScope s__law_points_right) .none kV4 dc4 pm4 an4 cd4 ct4), sl4⟩)
    (c4 : PySem.W.codeIn K cd4 "_law_points_right" = true)
    (k4 : PySem.W.keepIn K (.ref f4) = true)
    (a5 : PySem.W.nsIn K mainGlobals "_law_pick" = some (some (.ref f5)))
    (l5 : K.lookup f5 = some ⟨oc5, od5, .func (PySem.W.fnOf "_law_pick" "_law_pick" (defArgs s__law_pick) (defBody s__law_pick) (defScope s__law_pick) .none kV5 dc5 pm5 an5 cd5 ct5), sl5⟩)
    (c5 : PySem.W.codeIn K cd5 "_law_pick" = true)
    (k5 : PySem.W.keepIn K (.ref f5) = true)
    (a6 : PySem.W.nsIn K mainGlobals "_law_low" = some (some (.ref f6)))
    (l6 : K.lookup f6 = some ⟨oc6, od6, .func (PySem.W.fnOf "_law_low" "_law_low" (defArgs s__law_low) (defBody s__law_low) (defScope s__law_low) .none kV6 dc6 pm6 an6 cd6 ct6), sl6⟩)
    (c6 : PySem.W.codeIn K cd6 "_law_low" = true)
    (k6 : PySem.W.keepIn K (.ref f6) = true)
    (a7 : PySem.W.nsIn K mainGlobals "_law_odd_number" = some (some (.ref f7)))
    (l7 : K.lookup f7 = some ⟨oc7, od7, .func (PySem.W.fnOf "_law_odd_number" "_law_odd_number" (defArgs s__law_odd_number) (defBody s__law_odd_number) (defScope s__law_odd_number) .none kV7 dc7 pm7 an7 cd7 ct7), sl7⟩)
    (c7 : PySem.W.codeIn K cd7 "_law_odd_number" = true)
    (k7 : PySem.W.keepIn K (.ref f7) = true)
    (a8 : PySem.W.nsIn K mainGlobals "_law_lows_right" = some (some (.ref f8)))
    (l8 : K.lookup f8 = some ⟨oc8, od8, .func (PySem.W.fnOf "_law_lows_right" "_law_lows_right" (defArgs s__law_lows_right) (defBody s__law_lows_right) (defScope s__law_lows_right) .none kV8 dc8 pm8 an8 cd8 ct8), sl8⟩)
    (c8 : PySem.W.codeIn K cd8 "_law_lows_right" = true)
    (k8 : PySem.W.keepIn K (.ref f8) = true)
    (a9 : PySem.W.nsIn K mainGlobals "_law_alone" = some (some (.ref f9)))
    (l9 : K.lookup f9 = some ⟨oc9, od9, .func (PySem.W.fnOf "_law_alone" "_law_alone" (defArgs s__law_alone) (defBody s__law_alone) (defScope s__law_alone) .none kV9 dc9 pm9 an9 cd9 ct9), sl9⟩)
    (c9 : PySem.W.codeIn K cd9 "_law_alone" = true)
    (k9 : PySem.W.keepIn K (.ref f9) = true)
    (a10 : PySem.W.nsIn K mainGlobals "_law_refusal" = some (some (.ref f10)))
    (l10 : K.lookup f10 = some ⟨oc10, od10, .func (PySem.W.fnOf "_law_refusal" "_law_refusal" (defArgs s__law_refusal) (defBody s__law_refusal) (defScope s__law_refusal) .none kV10 dc10 pm10 an10 cd10 ct10), sl10⟩)
    (c10 : PySem.W.codeIn K cd10 "_law_refusal" = true)
    (k10 : PySem.W.keepIn K (.ref f10) = true)
    (a11 : PySem.W.nsIn K mainGlobals "_law_safe_told" = some (some (.ref f11)))
    (l11 : K.lookup f11 = some ⟨oc11, od11, .func (PySem.W.fnOf "_law_safe_told" "_law_safe_told" (defArgs s__law_safe_told) (defBody s__law_safe_told) (defScope s__law_safe_told) .none kV11 dc11 pm11 an11 cd11 ct11), sl11⟩)
    (c11 : PySem.W.codeIn K cd11 "_law_safe_told" = true)
    (k11 : PySem.W.keepIn K (.ref f11) = true)
    (a12 : PySem.W.nsIn K mainGlobals "_law_is_done" = some (some (.ref f12)))
    (l12 : K.lookup f12 = some ⟨oc12, od12, .func (PySem.W.fnOf "_law_is_done" "_law_is_done" (defArgs s__law_is_done) (defBody s__law_is_done) (defScope s__law_is_done) .none kV12 dc12 pm12 an12 cd12 ct12), sl12⟩)
    (c12 : PySem.W.codeIn K cd12 "_law_is_done" = true)
    (k12 : PySem.W.keepIn K (.ref f12) = true)
    (a13 : PySem.W.nsIn K mainGlobals "_law_odd_points" = some (some (.ref f13)))
    (l13 : K.lookup f13 = some ⟨oc13, od13, .func (PySem.W.fnOf "_law_odd_points" "_law_odd_points" (defArgs s__law_odd_points) (defBody s__law_odd_points) (defScope s__law_odd_points) .none kV13 dc13 pm13 an13 cd13 ct13), sl13⟩)
    (c13 : PySem.W.codeIn K cd13 "_law_odd_points" = true)
    (k13 : PySem.W.keepIn K (.ref f13) = true)
    (a14 : PySem.W.nsIn K mainGlobals "is_whole" = some (some (.ref f14)))
    (l14 : K.lookup f14 = some ⟨oc14, od14, .func (PySem.W.fnOf "is_whole" "is_whole" (defArgs s_is_whole) (defBody s_is_whole) (defScope s_is_whole) .none kV14 dc14 pm14 an14 cd14 ct14), sl14⟩)
    (c14 : PySem.W.codeIn K cd14 "is_whole" = true)
    (k14 : PySem.W.keepIn K (.ref f14) = true)
    (a15 : PySem.W.nsIn K mainGlobals "is_between" = some (some (.ref f15)))
    (l15 : K.lookup f15 = some ⟨oc15, od15, .func (PySem.W.fnOf "is_between" "is_between" (defArgs s_is_between) (defBody s_is_between) (defScope s_is_between) .none kV15 dc15 pm15 an15 cd15 ct15), sl15⟩)
    (c15 : PySem.W.codeIn K cd15 "is_between" = true)
    (k15 : PySem.W.keepIn K (.ref f15) = true)
    (a16 : PySem.W.findIn K (.ref C1) "__init__" = some (some (.ref f16)))
    (i16 : PySem.W.isFn K (.ref f16) = true)
    (l16 : K.lookup f16 = some ⟨oc16, od16, .func (PySem.W.fnOf "__init__" "Safe.__init__" (defArgs s_Safe_init) (defBody s_Safe_init) (defScope s_Safe_init) .none kV16 dc16 pm16 an16 cd16 ct16), sl16⟩)
    (c16 : PySem.W.codeIn K cd16 "Safe.__init__" = true)
    (k16 : PySem.W.keepIn K (.ref f16) = true)
    (a17 : PySem.W.nsIn K mainGlobals "is_low" = some (some (.ref f17)))
    (l17 : K.lookup f17 = some ⟨oc17, od17, .func (PySem.W.fnOf "is_low" "is_low" (defArgs s_is_low) (defBody s_is_low) (defScope s_is_low) .none kV17 dc17 pm17 an17 cd17 ct17), sl17⟩)
    (c17 : PySem.W.codeIn K cd17 "is_low" = true)
    (k17 : PySem.W.keepIn K (.ref f17) = true)
    (a18 : PySem.W.nsIn K mainGlobals "are_low" = some (some (.ref f18)))
    (l18 : K.lookup f18 = some ⟨oc18, od18, .func (PySem.W.fnOf "are_low" "are_low" (defArgs s_are_low) (defBody s_are_low) (defScope s_are_low) .none kV18 dc18 pm18 an18 cd18 ct18), sl18⟩)
    (c18 : PySem.W.codeIn K cd18 "are_low" = true)
    (k18 : PySem.W.keepIn K (.ref f18) = true)
    (a19 : PySem.W.nsIn K mainGlobals "worth_at" = some (some (.ref f19)))
    (l19 : K.lookup f19 = some ⟨oc19, od19, .func (PySem.W.fnOf "worth_at" "worth_at" (defArgs s_worth_at) (defBody s_worth_at) (defScope s_worth_at) .none kV19 dc19 pm19 an19 cd19 ct19), sl19⟩)
    (c19 : PySem.W.codeIn K cd19 "worth_at" = true)
    (k19 : PySem.W.keepIn K (.ref f19) = true)
    (a20 : PySem.W.nsIn K mainGlobals "dealt" = some (some (.ref f20)))
    (l20 : K.lookup f20 = some ⟨oc20, od20, .func (PySem.W.fnOf "dealt" "dealt" (defArgs s_dealt) (defBody s_dealt) (defScope s_dealt) .none kV20 dc20 pm20 an20 cd20 ct20), sl20⟩)
    (c20 : PySem.W.codeIn K cd20 "dealt" = true)
    (k20 : PySem.W.keepIn K (.ref f20) = true)
    (a21 : PySem.W.nsIn K mainGlobals "_law_shuffled" = some (some (.ref f21)))
    (l21 : K.lookup f21 = some ⟨oc21, od21, .func (PySem.W.fnOf "_law_shuffled" "_law_shuffled" (defArgs s__law_shuffled) (defBody s__law_shuffled) (defScope s__law_shuffled) .none kV21 dc21 pm21 an21 cd21 ct21), sl21⟩)
    (c21 : PySem.W.codeIn K cd21 "_law_shuffled" = true)
    (k21 : PySem.W.keepIn K (.ref f21) = true)
    (a22 : PySem.W.nsIn K mainGlobals "is_listed" = some (some (.ref f22)))
    (l22 : K.lookup f22 = some ⟨oc22, od22, .func (PySem.W.fnOf "is_listed" "is_listed" (defArgs s_is_listed) (defBody s_is_listed) (defScope s_is_listed) .none kV22 dc22 pm22 an22 cd22 ct22), sl22⟩)
    (c22 : PySem.W.codeIn K cd22 "is_listed" = true)
    (k22 : PySem.W.keepIn K (.ref f22) = true)
    (a23 : PySem.W.nsIn K mainGlobals "is_point" = some (some (.ref f23)))
    (l23 : K.lookup f23 = some ⟨oc23, od23, .func (PySem.W.fnOf "is_point" "is_point" (defArgs s_is_point) (defBody s_is_point) (defScope s_is_point) .none kV23 dc23 pm23 an23 cd23 ct23), sl23⟩)
    (c23 : PySem.W.codeIn K cd23 "is_point" = true)
    (k23 : PySem.W.keepIn K (.ref f23) = true)
    (a24 : PySem.W.nsIn K mainGlobals "need_points" = some (some (.ref f24)))
    (l24 : K.lookup f24 = some ⟨oc24, od24, .func (PySem.W.fnOf "need_points" "need_points" (defArgs s_need_points) (defBody s_need_points) (defScope s_need_points) .none kV24 dc24 pm24 an24 cd24 ct24), sl24⟩)
    (c24 : PySem.W.codeIn K cd24 "need_points" = true)
    (k24 : PySem.W.keepIn K (.ref f24) = true)
    (a25 : PySem.W.nsIn K mainGlobals "times_less" = some (some (.ref f25)))
    (l25 : K.lookup f25 = some ⟨oc25, od25, .func (PySem.W.fnOf "times_less" "times_less" (defArgs s_times_less) (defBody s_times_less) (defScope s_times_less) .none kV25 dc25 pm25 an25 cd25 ct25), sl25⟩)
    (c25 : PySem.W.codeIn K cd25 "times_less" = true)
    (k25 : PySem.W.keepIn K (.ref f25) = true)
    (a26 : PySem.W.nsIn K mainGlobals "back_of" = some (some (.ref f26)))
    (l26 : K.lookup f26 = some ⟨oc26, od26, .func (PySem.W.fnOf "back_of" "back_of" (defArgs s_back_of) (defBody s_back_of) (defScope s_back_of) .none kV26 dc26 pm26 an26 cd26 ct26), sl26⟩)
    (c26 : PySem.W.codeIn K cd26 "back_of" = true)
    (k26 : PySem.W.keepIn K (.ref f26) = true)
    (a27 : PySem.W.nsIn K mainGlobals "through" = some (some (.ref f27)))
    (l27 : K.lookup f27 = some ⟨oc27, od27, .func (PySem.W.fnOf "through" "through" (defArgs s_through) (defBody s_through) (defScope s_through) .none kV27 dc27 pm27 an27 cd27 ct27), sl27⟩)
    (c27 : PySem.W.codeIn K cd27 "through" = true)
    (k27 : PySem.W.keepIn K (.ref f27) = true)
    (a28 : PySem.W.nsIn K mainGlobals "restored" = some (some (.ref f28)))
    (l28 : K.lookup f28 = some ⟨oc28, od28, .func (PySem.W.fnOf "restored" "restored" (defArgs s_restored) (defBody s_restored) (defScope s_restored) .none kV28 dc28 pm28 an28 cd28 ct28), sl28⟩)
    (c28 : PySem.W.codeIn K cd28 "restored" = true)
    (k28 : PySem.W.keepIn K (.ref f28) = true)
    (a29 : PySem.W.nsIn K mainGlobals "seeds_for" = some (some (.ref f29)))
    (l29 : K.lookup f29 = some ⟨oc29, od29, .func (PySem.W.fnOf "seeds_for" "seeds_for" (defArgs s_seeds_for) (defBody s_seeds_for) (defScope s_seeds_for) .none kV29 dc29 pm29 an29 cd29 ct29), sl29⟩)
    (c29 : PySem.W.codeIn K cd29 "seeds_for" = true)
    (k29 : PySem.W.keepIn K (.ref f29) = true)
    (a30 : PySem.W.nsIn K mainGlobals "_law_right" = some (some (.ref f30)))
    (l30 : K.lookup f30 = some ⟨oc30, od30, .func (PySem.W.fnOf "_law_right" "_law_right" (defArgs s__law_right) (defBody s__law_right) (defScope s__law_right) .none kV30 dc30 pm30 an30 (.ref cc30) ct30), sl30⟩)
    (tl30 : K.lookup cc30 = some ⟨.type "code", cD30, .fields cV30, cS30⟩)
    (tp30 : cV30[11]? = some (.ref TP30))
    (tq30 : cV30.getD 11 .none = .ref TP30)
    (ts30 : cV30.getD 18 .none = .str cF30 cT30)
    (tg30 : cV30.getD 7 .none = .int cG30 cU30)
    (tb30 : cV30.getD 9 .none = .bool cB30)
    (tx30 : cV30.getD 10 .none = .int cX30 cY30)
    (te30 : cc30 ≠ TP30)
    (tk30 : K.lookup TP30 = none)
    (c30 : PySem.W.codeIn K (.ref cc30) "_law_right" = true)
    (k30 : PySem.W.keepIn K (.ref f30) = true)
    (a31 : PySem.W.nsIn K mainGlobals "law" = some (some (.ref f31)))
    (l31 : K.lookup f31 = some ⟨oc31, od31, .func (PySem.W.fnOf "law" "law" (defArgs s_law) (defBody s_law) (defScope s_law) .none kV31 dc31 pm31 an31 cd31 ct31), sl31⟩)
    (c31 : PySem.W.codeIn K cd31 "law" = true)
    (k31 : PySem.W.keepIn K (.ref f31) = true)
    (AX_NoBits : PySem.W.nsIn K mainGlobals "NoBits" = some (some (.ref X_NoBits)))
    (AX_NoChain : PySem.W.nsIn K mainGlobals "NoChain" = some (some (.ref X_NoChain)))
    (AX_NoCode : PySem.W.nsIn K mainGlobals "NoCode" = some (some (.ref X_NoCode)))
    (AX_NoCount : PySem.W.nsIn K mainGlobals "NoCount" = some (some (.ref X_NoCount)))
    (AX_NoDay : PySem.W.nsIn K mainGlobals "NoDay" = some (some (.ref X_NoDay)))
    (AX_NoLetter : PySem.W.nsIn K mainGlobals "NoLetter" = some (some (.ref X_NoLetter)))
    (AX_NoLot : PySem.W.nsIn K mainGlobals "NoLot" = some (some (.ref X_NoLot)))
    (AX_NoMark : PySem.W.nsIn K mainGlobals "NoMark" = some (some (.ref X_NoMark)))
    (AX_NoName : PySem.W.nsIn K mainGlobals "NoName" = some (some (.ref X_NoName)))
    (AX_NoPhase : PySem.W.nsIn K mainGlobals "NoPhase" = some (some (.ref X_NoPhase)))
    (AX_NoPlace : PySem.W.nsIn K mainGlobals "NoPlace" = some (some (.ref X_NoPlace)))
    (AX_NoRace : PySem.W.nsIn K mainGlobals "NoRace" = some (some (.ref X_NoRace)))
    (AX_NoRow : PySem.W.nsIn K mainGlobals "NoRow" = some (some (.ref X_NoRow)))
    (AX_NoRuling : PySem.W.nsIn K mainGlobals "NoRuling" = some (some (.ref X_NoRuling)))
    (AX_NoStub : PySem.W.nsIn K mainGlobals "NoStub" = some (some (.ref X_NoStub)))
    (AX_NoText : PySem.W.nsIn K mainGlobals "NoText" = some (some (.ref X_NoText)))
    (AX_NoTime : PySem.W.nsIn K mainGlobals "NoTime" = some (some (.ref X_NoTime)))
    (AX_NoWay : PySem.W.nsIn K mainGlobals "NoWay" = some (some (.ref X_NoWay)))
    (AX_NotThere : PySem.W.nsIn K mainGlobals "NotThere" = some (some (.ref X_NotThere)))
    (AX_NotWhole : PySem.W.nsIn K mainGlobals "NotWhole" = some (some (.ref X_NotWhole)))
    (AX_Twice : PySem.W.nsIn K mainGlobals "Twice" = some (some (.ref X_Twice)))
    (AX_VoteError : PySem.W.nsIn K mainGlobals "VoteError" = some (some (.ref X_VoteError)))
    (xi_NoCount : PySem.W.excIn K X_NoCount [.type "ValueError", .type "Exception", .type "BaseException", .type "object"] "ValueError.__new__" = true)
    (xk_NoCount : PySem.W.keepIn K (.ref X_NoCount) = true)
    (xs_NoCount : PySem.W.subIn K (.ref X_NoCount) (.type "BaseException") = some true)
    (xt_NoCount : PySem.W.typeIn K (.ref X_NoCount) = some (.type "type"))
    (xm_NoCount_VoteError : PySem.W.mroIn K X_NoCount (.ref X_VoteError) = some ((fun _ => true) "NoCount"))
    (xn_NoCount_NoBits : PySem.W.mroIn K X_NoCount (.ref X_NoBits) = some ((fun c => decide (c = "NoBits")) "NoCount"))
    (xn_NoCount_NoChain : PySem.W.mroIn K X_NoCount (.ref X_NoChain) = some ((fun c => decide (c = "NoChain")) "NoCount"))
    (xn_NoCount_NoCode : PySem.W.mroIn K X_NoCount (.ref X_NoCode) = some ((fun c => decide (c = "NoCode")) "NoCount"))
    (xn_NoCount_NoCount : PySem.W.mroIn K X_NoCount (.ref X_NoCount) = some ((fun c => decide (c = "NoCount")) "NoCount"))
    (xn_NoCount_NoDay : PySem.W.mroIn K X_NoCount (.ref X_NoDay) = some ((fun c => decide (c = "NoDay")) "NoCount"))
    (xn_NoCount_NoLetter : PySem.W.mroIn K X_NoCount (.ref X_NoLetter) = some ((fun c => decide (c = "NoLetter")) "NoCount"))
    (xn_NoCount_NoLot : PySem.W.mroIn K X_NoCount (.ref X_NoLot) = some ((fun c => decide (c = "NoLot")) "NoCount"))
    (xn_NoCount_NoMark : PySem.W.mroIn K X_NoCount (.ref X_NoMark) = some ((fun c => decide (c = "NoMark")) "NoCount"))
    (xn_NoCount_NoName : PySem.W.mroIn K X_NoCount (.ref X_NoName) = some ((fun c => decide (c = "NoName")) "NoCount"))
    (xn_NoCount_NoPhase : PySem.W.mroIn K X_NoCount (.ref X_NoPhase) = some ((fun c => decide (c = "NoPhase")) "NoCount"))
    (xn_NoCount_NoPlace : PySem.W.mroIn K X_NoCount (.ref X_NoPlace) = some ((fun c => decide (c = "NoPlace")) "NoCount"))
    (xn_NoCount_NoRace : PySem.W.mroIn K X_NoCount (.ref X_NoRace) = some ((fun c => decide (c = "NoRace")) "NoCount"))
    (xn_NoCount_NoRow : PySem.W.mroIn K X_NoCount (.ref X_NoRow) = some ((fun c => decide (c = "NoRow")) "NoCount"))
    (xn_NoCount_NoRuling : PySem.W.mroIn K X_NoCount (.ref X_NoRuling) = some ((fun c => decide (c = "NoRuling")) "NoCount"))
    (xn_NoCount_NoStub : PySem.W.mroIn K X_NoCount (.ref X_NoStub) = some ((fun c => decide (c = "NoStub")) "NoCount"))
    (xn_NoCount_NoText : PySem.W.mroIn K X_NoCount (.ref X_NoText) = some ((fun c => decide (c = "NoText")) "NoCount"))
    (xn_NoCount_NoTime : PySem.W.mroIn K X_NoCount (.ref X_NoTime) = some ((fun c => decide (c = "NoTime")) "NoCount"))
    (xn_NoCount_NoWay : PySem.W.mroIn K X_NoCount (.ref X_NoWay) = some ((fun c => decide (c = "NoWay")) "NoCount"))
    (xn_NoCount_NotThere : PySem.W.mroIn K X_NoCount (.ref X_NotThere) = some ((fun c => decide (c = "NotThere")) "NoCount"))
    (xn_NoCount_NotWhole : PySem.W.mroIn K X_NoCount (.ref X_NotWhole) = some ((fun c => decide (c = "NotWhole")) "NoCount"))
    (xn_NoCount_Twice : PySem.W.mroIn K X_NoCount (.ref X_Twice) = some ((fun c => decide (c = "Twice")) "NoCount"))
    (xn_NoCount_VoteError : PySem.W.mroIn K X_NoCount (.ref X_VoteError) = some ((fun _ => true) "NoCount"))
    (xn_NoCount_f_at : PySem.W.findIn K (.ref X_NoCount) "at" = some none)
    (xn_NoCount_f_row : PySem.W.findIn K (.ref X_NoCount) "row" = some none)
    (xn_NoCount_f_thing : PySem.W.findIn K (.ref X_NoCount) "thing" = some none)
    (xv_NoCount : PySem.W.mroIn K X_NoCount (.type "ValueError") = some true)
    (xg_NoCount : PySem.W.findIn K (.ref X_NoCount) "__getattribute__" = some (some (.builtin "BaseException.__getattribute__")))
    (xh_NoCount : PySem.W.findIn K (.ref X_NoCount) "__getattr__" = some none)
    (xp_NoCount : PySem.W.hasDictIn K X_NoCount = true)
    (xa_NoCount : PySem.W.findIn K (.ref X_NoCount) "__class__" = some (some (.builtin "object.__class__")))
    (xo_NoCount : PySem.W.mroIn K X_NoCount (.type "object") = some true)
    (xbs_VoteError : PySem.W.subIn K (.ref X_VoteError) (.type "BaseException") = some true)
    (xbd_VoteError : PySem.W.hasDictIn K X_VoteError = true)
    (xbt_VoteError : PySem.W.typeIn K (.ref X_VoteError) = some (.type "type"))
    (mv1 : PySem.W.mroIn K C1 (.type "ValueError") = some false)
    (xq1 : PySem.W.specialIn K (.builtin "object.__class__") "__get__" = some (some (.builtin "getset_descriptor.__get__")))
    (xq2 : PySem.W.takesIn K (.builtin "object.__class__") = some true)
    (xc_NoBits : PySem.W.isClsIn K X_NoBits = true)
    (xy_NoBits : PySem.W.typeIn K (.ref X_NoBits) = some (.type "type"))
    (xz_NoBits : PySem.W.mroIn K X_NoBits (.ref X_NoBits) = some true)
    (xw1_NoBits : PySem.W.mroIn K C1 (.ref X_NoBits) = some false)
    (xc_NoChain : PySem.W.isClsIn K X_NoChain = true)
    (xy_NoChain : PySem.W.typeIn K (.ref X_NoChain) = some (.type "type"))
    (xz_NoChain : PySem.W.mroIn K X_NoChain (.ref X_NoChain) = some true)
    (xw1_NoChain : PySem.W.mroIn K C1 (.ref X_NoChain) = some false)
    (xc_NoCode : PySem.W.isClsIn K X_NoCode = true)
    (xy_NoCode : PySem.W.typeIn K (.ref X_NoCode) = some (.type "type"))
    (xz_NoCode : PySem.W.mroIn K X_NoCode (.ref X_NoCode) = some true)
    (xw1_NoCode : PySem.W.mroIn K C1 (.ref X_NoCode) = some false)
    (xc_NoCount : PySem.W.isClsIn K X_NoCount = true)
    (xy_NoCount : PySem.W.typeIn K (.ref X_NoCount) = some (.type "type"))
    (xz_NoCount : PySem.W.mroIn K X_NoCount (.ref X_NoCount) = some true)
    (xw1_NoCount : PySem.W.mroIn K C1 (.ref X_NoCount) = some false)
    (xc_NoDay : PySem.W.isClsIn K X_NoDay = true)
    (xy_NoDay : PySem.W.typeIn K (.ref X_NoDay) = some (.type "type"))
    (xz_NoDay : PySem.W.mroIn K X_NoDay (.ref X_NoDay) = some true)
    (xw1_NoDay : PySem.W.mroIn K C1 (.ref X_NoDay) = some false)
    (xc_NoLetter : PySem.W.isClsIn K X_NoLetter = true)
    (xy_NoLetter : PySem.W.typeIn K (.ref X_NoLetter) = some (.type "type"))
    (xz_NoLetter : PySem.W.mroIn K X_NoLetter (.ref X_NoLetter) = some true)
    (xw1_NoLetter : PySem.W.mroIn K C1 (.ref X_NoLetter) = some false)
    (xc_NoLot : PySem.W.isClsIn K X_NoLot = true)
    (xy_NoLot : PySem.W.typeIn K (.ref X_NoLot) = some (.type "type"))
    (xz_NoLot : PySem.W.mroIn K X_NoLot (.ref X_NoLot) = some true)
    (xw1_NoLot : PySem.W.mroIn K C1 (.ref X_NoLot) = some false)
    (xc_NoMark : PySem.W.isClsIn K X_NoMark = true)
    (xy_NoMark : PySem.W.typeIn K (.ref X_NoMark) = some (.type "type"))
    (xz_NoMark : PySem.W.mroIn K X_NoMark (.ref X_NoMark) = some true)
    (xw1_NoMark : PySem.W.mroIn K C1 (.ref X_NoMark) = some false)
    (xc_NoName : PySem.W.isClsIn K X_NoName = true)
    (xy_NoName : PySem.W.typeIn K (.ref X_NoName) = some (.type "type"))
    (xz_NoName : PySem.W.mroIn K X_NoName (.ref X_NoName) = some true)
    (xw1_NoName : PySem.W.mroIn K C1 (.ref X_NoName) = some false)
    (xc_NoPhase : PySem.W.isClsIn K X_NoPhase = true)
    (xy_NoPhase : PySem.W.typeIn K (.ref X_NoPhase) = some (.type "type"))
    (xz_NoPhase : PySem.W.mroIn K X_NoPhase (.ref X_NoPhase) = some true)
    (xw1_NoPhase : PySem.W.mroIn K C1 (.ref X_NoPhase) = some false)
    (xc_NoPlace : PySem.W.isClsIn K X_NoPlace = true)
    (xy_NoPlace : PySem.W.typeIn K (.ref X_NoPlace) = some (.type "type"))
    (xz_NoPlace : PySem.W.mroIn K X_NoPlace (.ref X_NoPlace) = some true)
    (xw1_NoPlace : PySem.W.mroIn K C1 (.ref X_NoPlace) = some false)
    (xc_NoRace : PySem.W.isClsIn K X_NoRace = true)
    (xy_NoRace : PySem.W.typeIn K (.ref X_NoRace) = some (.type "type"))
    (xz_NoRace : PySem.W.mroIn K X_NoRace (.ref X_NoRace) = some true)
    (xw1_NoRace : PySem.W.mroIn K C1 (.ref X_NoRace) = some false)
    (xc_NoRow : PySem.W.isClsIn K X_NoRow = true)
    (xy_NoRow : PySem.W.typeIn K (.ref X_NoRow) = some (.type "type"))
    (xz_NoRow : PySem.W.mroIn K X_NoRow (.ref X_NoRow) = some true)
    (xw1_NoRow : PySem.W.mroIn K C1 (.ref X_NoRow) = some false)
    (xc_NoRuling : PySem.W.isClsIn K X_NoRuling = true)
    (xy_NoRuling : PySem.W.typeIn K (.ref X_NoRuling) = some (.type "type"))
    (xz_NoRuling : PySem.W.mroIn K X_NoRuling (.ref X_NoRuling) = some true)
    (xw1_NoRuling : PySem.W.mroIn K C1 (.ref X_NoRuling) = some false)
    (xc_NoStub : PySem.W.isClsIn K X_NoStub = true)
    (xy_NoStub : PySem.W.typeIn K (.ref X_NoStub) = some (.type "type"))
    (xz_NoStub : PySem.W.mroIn K X_NoStub (.ref X_NoStub) = some true)
    (xw1_NoStub : PySem.W.mroIn K C1 (.ref X_NoStub) = some false)
    (xc_NoText : PySem.W.isClsIn K X_NoText = true)
    (xy_NoText : PySem.W.typeIn K (.ref X_NoText) = some (.type "type"))
    (xz_NoText : PySem.W.mroIn K X_NoText (.ref X_NoText) = some true)
    (xw1_NoText : PySem.W.mroIn K C1 (.ref X_NoText) = some false)
    (xc_NoTime : PySem.W.isClsIn K X_NoTime = true)
    (xy_NoTime : PySem.W.typeIn K (.ref X_NoTime) = some (.type "type"))
    (xz_NoTime : PySem.W.mroIn K X_NoTime (.ref X_NoTime) = some true)
    (xw1_NoTime : PySem.W.mroIn K C1 (.ref X_NoTime) = some false)
    (xc_NoWay : PySem.W.isClsIn K X_NoWay = true)
    (xy_NoWay : PySem.W.typeIn K (.ref X_NoWay) = some (.type "type"))
    (xz_NoWay : PySem.W.mroIn K X_NoWay (.ref X_NoWay) = some true)
    (xw1_NoWay : PySem.W.mroIn K C1 (.ref X_NoWay) = some false)
    (xc_NotThere : PySem.W.isClsIn K X_NotThere = true)
    (xy_NotThere : PySem.W.typeIn K (.ref X_NotThere) = some (.type "type"))
    (xz_NotThere : PySem.W.mroIn K X_NotThere (.ref X_NotThere) = some true)
    (xw1_NotThere : PySem.W.mroIn K C1 (.ref X_NotThere) = some false)
    (xc_NotWhole : PySem.W.isClsIn K X_NotWhole = true)
    (xy_NotWhole : PySem.W.typeIn K (.ref X_NotWhole) = some (.type "type"))
    (xz_NotWhole : PySem.W.mroIn K X_NotWhole (.ref X_NotWhole) = some true)
    (xw1_NotWhole : PySem.W.mroIn K C1 (.ref X_NotWhole) = some false)
    (xc_Twice : PySem.W.isClsIn K X_Twice = true)
    (xy_Twice : PySem.W.typeIn K (.ref X_Twice) = some (.type "type"))
    (xz_Twice : PySem.W.mroIn K X_Twice (.ref X_Twice) = some true)
    (xw1_Twice : PySem.W.mroIn K C1 (.ref X_Twice) = some false)
    (xc_VoteError : PySem.W.isClsIn K X_VoteError = true)
    (xy_VoteError : PySem.W.typeIn K (.ref X_VoteError) = some (.type "type"))
    (xz_VoteError : PySem.W.mroIn K X_VoteError (.ref X_VoteError) = some true)
    (xw1_VoteError : PySem.W.mroIn K C1 (.ref X_VoteError) = some false)
    (z_ValueError : PySem.W.nsIn K mainGlobals "ValueError" = some none)
    (z_all : PySem.W.nsIn K mainGlobals "all" = some none)
    (z_bool : PySem.W.nsIn K mainGlobals "bool" = some none)
    (z_enumerate : PySem.W.nsIn K mainGlobals "enumerate" = some none)
    (z_int : PySem.W.nsIn K mainGlobals "int" = some none)
    (z_isinstance : PySem.W.nsIn K mainGlobals "isinstance" = some none)
    (z_len : PySem.W.nsIn K mainGlobals "len" = some none)
    (z_list : PySem.W.nsIn K mainGlobals "list" = some none)
    (z_max : PySem.W.nsIn K mainGlobals "max" = some none)
    (z_min : PySem.W.nsIn K mainGlobals "min" = some none)
    (z_range : PySem.W.nsIn K mainGlobals "range" = some none)
    (z_set : PySem.W.nsIn K mainGlobals "set" = some none)
    (z_tuple : PySem.W.nsIn K mainGlobals "tuple" = some none)
    (z_zip : PySem.W.nsIn K mainGlobals "zip" = some none)
    (y_MOST_KEEPERS : PySem.W.nsIn K mainGlobals "MOST_KEEPERS" = some (some (.int (9) t_MOST_KEEPERS)))
    (y_P : PySem.W.nsIn K mainGlobals "P" = some (some (.int (2147483647) t_P)))
    (hr30 : ((PyProof.Rows.recsOf q0).any fun e => e.name == ("_law_right" : Str)) = true) :
    L2.LawGT l w K (L2.CX l.prog w) 11 63 "_law_script" mg fa h := by
  have e := hfa.symm.trans (PySem.W.mg_of X G a31)
  cases e
  letI nmI : DL.Nm := DL.nmOf [(TP30, ((PyProof.Rows.envOfC "_law_right" (defScope s__law_right) 0 0 .none).qual ++ ("<lambda>" : Str)))]
  let GG : Glb := ⟨K, fun c => List.lookup c ([("Safe", C1)] : List (Str × Addr)), fun c => List.lookup c ([("NoCount", X_NoCount)] : List (Str × Addr)), [(TP30, ((PyProof.Rows.envOfC "_law_right" (defScope s__law_right) 0 0 .none).qual ++ ("<lambda>" : Str)))]⟩
  have T : Txt K mg GG.ca GG.ce GG.T w := ⟨ca_all (mem_con (own_mk pg1 hd1 po1 sa1 ha1 hn1 ht1 hm1) mem_nil),
    PySem.W.mg_none_of X G z_ValueError,
    PySem.W.mg_none_of X G z_all,
    PySem.W.mg_none_of X G z_bool,
    PySem.W.mg_none_of X G z_enumerate,
    PySem.W.mg_none_of X G z_int,
    PySem.W.mg_none_of X G z_isinstance,
    PySem.W.mg_none_of X G z_len,
    PySem.W.mg_none_of X G z_list,
    PySem.W.mg_none_of X G z_max,
    PySem.W.mg_none_of X G z_min,
    PySem.W.mg_none_of X G z_range,
    PySem.W.mg_none_of X G z_set,
    PySem.W.mg_none_of X G z_tuple,
    PySem.W.mg_none_of X G z_zip,
    ⟨_, PySem.W.mg_of X G y_MOST_KEEPERS⟩,
    ⟨_, PySem.W.mg_of X G y_P⟩,
    fld_mk (mem_con (fun _ => ⟨(own_mk pg1 hd1 po1 sa1 ha1 hn1 ht1 hm1).cl, n1_drawers⟩) mem_nil),
    fld_mk (mem_con (fun _ => ⟨(own_mk pg1 hd1 po1 sa1 ha1 hn1 ht1 hm1).cl, n1_known⟩) mem_nil),
    fld_mk (mem_con (fun _ => ⟨(own_mk pg1 hd1 po1 sa1 ha1 hn1 ht1 hm1).cl, n1_many⟩) mem_nil),
    fld_mk (mem_con (fun _ => ⟨(own_mk pg1 hd1 po1 sa1 ha1 hn1 ht1 hm1).cl, n1_wanted⟩) mem_nil),
    isT_b .bool (by decide) (ca_all (mem_con m1_bool mem_nil)),
    isT_b .int (by decide) (ca_all (mem_con m1_int mem_nil)),
    isT_b .list (by decide) (ca_all (mem_con m1_list mem_nil)),
    isT_b .tuple (by decide) (ca_all (mem_con m1_tuple mem_nil)),
    ⟨_, PySem.W.mg_of X G A1, isT_o rfl ic1 tc1 (ca_all (mem_con m1_1 mem_nil))⟩,
    ⟨⟨_, PySem.W.mg_of X G AX_NoCount, rfl, xi_NoCount, xk_NoCount, xs_NoCount, xt_NoCount⟩⟩,
    ⟨_, PySem.W.mg_of X G AX_VoteError, ca_all (mem_con (PySem.W.exm_ref xbs_VoteError xbd_VoteError xbt_VoteError xm_NoCount_VoteError) mem_nil)⟩,
    ⟨_, PySem.W.mg_of X G AX_NoBits, isT_x xc_NoBits xy_NoBits xz_NoBits (ca_all (mem_con xw1_NoBits mem_nil)) (ca_all (mem_con xn_NoCount_NoBits mem_nil))⟩,
    ⟨_, PySem.W.mg_of X G AX_NoChain, isT_x xc_NoChain xy_NoChain xz_NoChain (ca_all (mem_con xw1_NoChain mem_nil)) (ca_all (mem_con xn_NoCount_NoChain mem_nil))⟩,
    ⟨_, PySem.W.mg_of X G AX_NoCode, isT_x xc_NoCode xy_NoCode xz_NoCode (ca_all (mem_con xw1_NoCode mem_nil)) (ca_all (mem_con xn_NoCount_NoCode mem_nil))⟩,
    ⟨_, PySem.W.mg_of X G AX_NoCount, isT_x xc_NoCount xy_NoCount xz_NoCount (ca_all (mem_con xw1_NoCount mem_nil)) (ca_all (mem_con xn_NoCount_NoCount mem_nil))⟩,
    ⟨_, PySem.W.mg_of X G AX_NoDay, isT_x xc_NoDay xy_NoDay xz_NoDay (ca_all (mem_con xw1_NoDay mem_nil)) (ca_all (mem_con xn_NoCount_NoDay mem_nil))⟩,
    ⟨_, PySem.W.mg_of X G AX_NoLetter, isT_x xc_NoLetter xy_NoLetter xz_NoLetter (ca_all (mem_con xw1_NoLetter mem_nil)) (ca_all (mem_con xn_NoCount_NoLetter mem_nil))⟩,
    ⟨_, PySem.W.mg_of X G AX_NoLot, isT_x xc_NoLot xy_NoLot xz_NoLot (ca_all (mem_con xw1_NoLot mem_nil)) (ca_all (mem_con xn_NoCount_NoLot mem_nil))⟩,
    ⟨_, PySem.W.mg_of X G AX_NoMark, isT_x xc_NoMark xy_NoMark xz_NoMark (ca_all (mem_con xw1_NoMark mem_nil)) (ca_all (mem_con xn_NoCount_NoMark mem_nil))⟩,
    ⟨_, PySem.W.mg_of X G AX_NoName, isT_x xc_NoName xy_NoName xz_NoName (ca_all (mem_con xw1_NoName mem_nil)) (ca_all (mem_con xn_NoCount_NoName mem_nil))⟩,
    ⟨_, PySem.W.mg_of X G AX_NoPhase, isT_x xc_NoPhase xy_NoPhase xz_NoPhase (ca_all (mem_con xw1_NoPhase mem_nil)) (ca_all (mem_con xn_NoCount_NoPhase mem_nil))⟩,
    ⟨_, PySem.W.mg_of X G AX_NoPlace, isT_x xc_NoPlace xy_NoPlace xz_NoPlace (ca_all (mem_con xw1_NoPlace mem_nil)) (ca_all (mem_con xn_NoCount_NoPlace mem_nil))⟩,
    ⟨_, PySem.W.mg_of X G AX_NoRace, isT_x xc_NoRace xy_NoRace xz_NoRace (ca_all (mem_con xw1_NoRace mem_nil)) (ca_all (mem_con xn_NoCount_NoRace mem_nil))⟩,
    ⟨_, PySem.W.mg_of X G AX_NoRow, isT_x xc_NoRow xy_NoRow xz_NoRow (ca_all (mem_con xw1_NoRow mem_nil)) (ca_all (mem_con xn_NoCount_NoRow mem_nil))⟩,
    ⟨_, PySem.W.mg_of X G AX_NoRuling, isT_x xc_NoRuling xy_NoRuling xz_NoRuling (ca_all (mem_con xw1_NoRuling mem_nil)) (ca_all (mem_con xn_NoCount_NoRuling mem_nil))⟩,
    ⟨_, PySem.W.mg_of X G AX_NoStub, isT_x xc_NoStub xy_NoStub xz_NoStub (ca_all (mem_con xw1_NoStub mem_nil)) (ca_all (mem_con xn_NoCount_NoStub mem_nil))⟩,
    ⟨_, PySem.W.mg_of X G AX_NoText, isT_x xc_NoText xy_NoText xz_NoText (ca_all (mem_con xw1_NoText mem_nil)) (ca_all (mem_con xn_NoCount_NoText mem_nil))⟩,
    ⟨_, PySem.W.mg_of X G AX_NoTime, isT_x xc_NoTime xy_NoTime xz_NoTime (ca_all (mem_con xw1_NoTime mem_nil)) (ca_all (mem_con xn_NoCount_NoTime mem_nil))⟩,
    ⟨_, PySem.W.mg_of X G AX_NoWay, isT_x xc_NoWay xy_NoWay xz_NoWay (ca_all (mem_con xw1_NoWay mem_nil)) (ca_all (mem_con xn_NoCount_NoWay mem_nil))⟩,
    ⟨_, PySem.W.mg_of X G AX_NotThere, isT_x xc_NotThere xy_NotThere xz_NotThere (ca_all (mem_con xw1_NotThere mem_nil)) (ca_all (mem_con xn_NoCount_NotThere mem_nil))⟩,
    ⟨_, PySem.W.mg_of X G AX_NotWhole, isT_x xc_NotWhole xy_NotWhole xz_NotWhole (ca_all (mem_con xw1_NotWhole mem_nil)) (ca_all (mem_con xn_NoCount_NotWhole mem_nil))⟩,
    ⟨_, PySem.W.mg_of X G AX_Twice, isT_x xc_Twice xy_Twice xz_Twice (ca_all (mem_con xw1_Twice mem_nil)) (ca_all (mem_con xn_NoCount_Twice mem_nil))⟩,
    ⟨_, PySem.W.mg_of X G AX_VoteError, isT_x xc_VoteError xy_VoteError xz_VoteError (ca_all (mem_con xw1_VoteError mem_nil)) (ca_all (mem_con xn_NoCount_VoteError mem_nil))⟩,
    ca_all (mem_con (ExcD.mk xg_NoCount xh_NoCount xs_NoCount xp_NoCount xa_NoCount xq1 xq2 xo_NoCount) mem_nil),
    isT_VE (ca_all (mem_con mv1 mem_nil)) (ca_all (mem_con xv_NoCount mem_nil)),
    ca_all (mem_con xn_NoCount_f_at mem_nil),
    ca_all (mem_con xn_NoCount_f_row mem_nil),
    ca_all (mem_con xn_NoCount_f_thing mem_nil)⟩
  have F1 := fun_mk (st := s__law_begun) l1 c1 k1
  have F2 := fun_mk (st := s__law_next) l2 c2 k2
  have F3 := fun_mk (st := s__law_between) l3 c3 k3
  have F4 := fun_mk (st := s__law_points_right) l4 c4 k4
  have F5 := fun_mk (st := s__law_pick) l5 c5 k5
  have F6 := fun_mk (st := s__law_low) l6 c6 k6
  have F7 := fun_mk (st := s__law_odd_number) l7 c7 k7
  have F8 := fun_mk (st := s__law_lows_right) l8 c8 k8
  have F9 := fun_mk (st := s__law_alone) l9 c9 k9
  have F10 := fun_mk (st := s__law_refusal) l10 c10 k10
  have F11 := fun_mk (st := s__law_safe_told) l11 c11 k11
  have F12 := fun_mk (st := s__law_is_done) l12 c12 k12
  have F13 := fun_mk (st := s__law_odd_points) l13 c13 k13
  have F14 := fun_mk (st := s_is_whole) l14 c14 k14
  have F15 := fun_mk (st := s_is_between) l15 c15 k15
  have F16 := fun_mk (st := s_Safe_init) l16 c16 k16
  have F17 := fun_mk (st := s_is_low) l17 c17 k17
  have F18 := fun_mk (st := s_are_low) l18 c18 k18
  have F19 := fun_mk (st := s_worth_at) l19 c19 k19
  have F20 := fun_mk (st := s_dealt) l20 c20 k20
  have F21 := fun_mk (st := s__law_shuffled) l21 c21 k21
  have F22 := fun_mk (st := s_is_listed) l22 c22 k22
  have F23 := fun_mk (st := s_is_point) l23 c23 k23
  have F24 := fun_mk (st := s_need_points) l24 c24 k24
  have F25 := fun_mk (st := s_times_less) l25 c25 k25
  have F26 := fun_mk (st := s_back_of) l26 c26 k26
  have F27 := fun_mk (st := s_through) l27 c27 k27
  have F28 := fun_mk (st := s_restored) l28 c28 k28
  have F29 := fun_mk (st := s_seeds_for) l29 c29 k29
  have F30 := fun_mk (st := s__law_right) l30 c30 k30
  have F31 := fun_mk (st := s_law) l31 c31 k31
  refine ⟨PySem.W.fnOf "law" "law" (defArgs s_law) (defBody s_law) (defScope s_law) .none kV31 dc31 pm31 an31 cd31 ct31, [(cc30, TP30)], spD GG 1 d_law, ?_, ?_, ?_, fun s v => .of_eq rfl, fun H a ns hl hH hS => law_sp (G := GG) hS (law_true ns hl) ?_, fun base _ _ tabs => ?_⟩
  · exact (mem_con (own "_law_right" hr30 f30 cc30 TP30 _ _ _ _ _ _ (PySem.W.mg_of X G a30) l30 rfl rfl tl30 tp30) mem_nil)
  · exact (mem_con tk30 mem_nil)
  · exact (mem_con ⟨_, cV30, cF30, cT30, cG30, cU30, cB30, cX30, cY30, X _ _ tl30, rfl, rfl, tp30, tq30, ts30, tg30, tb30, tx30, te30⟩ mem_nil)
  · exact (mem_con ⟨nm_head, hH (cc30, TP30) (by simp)⟩ mem_nil)
  have D__law_begun : DefG GG l.prog w mg base 1 "_law_begun" 2 d__law_begun := ⟨⟨f1, _, _, (ok__law_begun (ca := GG.ca) (ce := GG.ce) (Ts := GG.T) F1 T ), PySem.W.mg_of X G a1, k1, (F1.binds (ps := ["_law_cell", "_law_k"]) fun _ _ _ _ _ _ us hl => match us, hl with | [_, _], _ => rfl)⟩⟩
  have D__law_next : DefG GG l.prog w mg base 1 "_law_next" 2 d__law_next := ⟨⟨f2, _, _, (ok__law_next (ca := GG.ca) (ce := GG.ce) (Ts := GG.T) F2 T ), PySem.W.mg_of X G a2, k2, (F2.binds (ps := ["_law_draw", "_law_size"]) fun _ _ _ _ _ _ us hl => match us, hl with | [_, _], _ => rfl)⟩⟩
  have D__law_between : DefG GG l.prog w mg base 1 "_law_between" 3 d__law_between := ⟨⟨f3, _, _, (ok__law_between (ca := GG.ca) (ce := GG.ce) (Ts := GG.T) F3 T ), PySem.W.mg_of X G a3, k3, (F3.binds (ps := ["_law_thing", "_law_low_here", "_law_high"]) fun _ _ _ _ _ _ us hl => match us, hl with | [_, _, _], _ => rfl)⟩⟩
  have D__law_points_right : DefG GG l.prog w mg base 2 "_law_points_right" 1 d__law_points_right := ⟨⟨f4, _, _, (ok__law_points_right (ca := GG.ca) (ce := GG.ce) (Ts := GG.T) F4 T D__law_between), PySem.W.mg_of X G a4, k4, (F4.binds (ps := ["_law_thing"]) fun _ _ _ _ _ _ us hl => match us, hl with | [_], _ => rfl)⟩⟩
  have D__law_pick : DefG GG l.prog w mg base 2 "_law_pick" 2 d__law_pick := ⟨⟨f5, _, _, (ok__law_pick (ca := GG.ca) (ce := GG.ce) (Ts := GG.T) F5 T D__law_next), PySem.W.mg_of X G a5, k5, (F5.binds (ps := ["_law_draw", "_law_some"]) fun _ _ _ _ _ _ us hl => match us, hl with | [_, _], _ => rfl)⟩⟩
  have D__law_low : DefG GG l.prog w mg base 3 "_law_low" 1 d__law_low := ⟨⟨f6, _, _, (ok__law_low (ca := GG.ca) (ce := GG.ce) (Ts := GG.T) F6 T D__law_next D__law_pick), PySem.W.mg_of X G a6, k6, (F6.binds (ps := ["_law_draw"]) fun _ _ _ _ _ _ us hl => match us, hl with | [_], _ => rfl)⟩⟩
  have D__law_odd_number : DefG GG l.prog w mg base 3 "_law_odd_number" 1 d__law_odd_number := ⟨⟨f7, _, _, (ok__law_odd_number (ca := GG.ca) (ce := GG.ce) (Ts := GG.T) F7 T D__law_pick), PySem.W.mg_of X G a7, k7, (F7.binds (ps := ["_law_draw"]) fun _ _ _ _ _ _ us hl => match us, hl with | [_], _ => rfl)⟩⟩
  have D__law_lows_right : DefG GG l.prog w mg base 2 "_law_lows_right" 1 d__law_lows_right := ⟨⟨f8, _, _, (ok__law_lows_right (ca := GG.ca) (ce := GG.ce) (Ts := GG.T) F8 T D__law_between), PySem.W.mg_of X G a8, k8, (F8.binds (ps := ["_law_thing"]) fun _ _ _ _ _ _ us hl => match us, hl with | [_], _ => rfl)⟩⟩
  have D__law_alone : DefG GG l.prog w mg base 1 "_law_alone" 1 d__law_alone := ⟨⟨f9, _, _, (ok__law_alone (ca := GG.ca) (ce := GG.ce) (Ts := GG.T) F9 T ), PySem.W.mg_of X G a9, k9, (F9.binds (ps := ["_law_e"]) fun _ _ _ _ _ _ us hl => match us, hl with | [_], _ => rfl)⟩⟩
  have D__law_refusal : DefG GG l.prog w mg base 2 "_law_refusal" 1 d__law_refusal := ⟨⟨f10, _, _, (ok__law_refusal (ca := GG.ca) (ce := GG.ce) (Ts := GG.T) F10 T D__law_alone), PySem.W.mg_of X G a10, k10, (F10.binds (ps := ["_law_e"]) fun _ _ _ _ _ _ us hl => match us, hl with | [_], _ => rfl)⟩⟩
  have D__law_safe_told : LamD GG l.prog w mg base 2 "_law_safe_told" h__law_safe_told := lam__law_safe_told (ca := GG.ca) (ce := GG.ce) (Ts := GG.T) F11 T (PySem.W.mg_of X G a11) (F11.binds (ps := ["_law_work"]) fun _ _ _ _ _ _ us hl => match us, hl with | [_], _ => rfl) D__law_refusal
  have D__law_is_done : LamF GG l.prog w mg base 2 1 "_law_is_done" h__law_is_done := lam__law_is_done (ca := GG.ca) (ce := GG.ce) (Ts := GG.T) F12 T (PySem.W.mg_of X G a12) (F12.binds (ps := ["_law_work"]) fun _ _ _ _ _ _ us hl => match us, hl with | [_], _ => rfl) D__law_safe_told
  have D__law_odd_points : DefG GG l.prog w mg base 4 "_law_odd_points" 2 d__law_odd_points := ⟨⟨f13, _, _, (ok__law_odd_points (ca := GG.ca) (ce := GG.ce) (Ts := GG.T) F13 T D__law_next D__law_pick D__law_odd_number), PySem.W.mg_of X G a13, k13, (F13.binds (ps := ["_law_draw", "_law_points"]) fun _ _ _ _ _ _ us hl => match us, hl with | [_, _], _ => rfl)⟩⟩
  have D_is_whole : DefG GG l.prog w mg base 1 "is_whole" 1 d_is_whole := ⟨⟨f14, _, _, (ok_is_whole (ca := GG.ca) (ce := GG.ce) (Ts := GG.T) F14 T ), PySem.W.mg_of X G a14, k14, (F14.binds (ps := ["thing"]) fun _ _ _ _ _ _ us hl => match us, hl with | [_], _ => rfl)⟩⟩
  have D_is_between : DefG GG l.prog w mg base 2 "is_between" 3 d_is_between := ⟨⟨f15, _, _, (ok_is_between (ca := GG.ca) (ce := GG.ce) (Ts := GG.T) F15 T D_is_whole), PySem.W.mg_of X G a15, k15, (F15.binds (ps := ["thing", "least", "most"]) fun _ _ _ _ _ _ us hl => match us, hl with | [_, _, _], _ => rfl)⟩⟩
  have D_Safe__mk2_ : ClsG GG l.prog w mg base 3 "Safe" 2 d_Safe_init := ⟨⟨C1, f16, _, ["self", "keepers", "need"], ⟨mk1, a16, i16, kc1⟩, (ok_Safe_init (ca := GG.ca) (ce := GG.ce) (Ts := GG.T) F16 T D_is_between), PySem.W.mg_of X G A1, rfl, (F16.binds (ps := ["self", "keepers", "need"]) fun _ _ _ _ _ _ us hl => match us, hl with | [_, _, _], _ => rfl)⟩⟩
  have D_is_low : DefG GG l.prog w mg base 3 "is_low" 1 d_is_low := ⟨⟨f17, _, _, (ok_is_low (ca := GG.ca) (ce := GG.ce) (Ts := GG.T) F17 T D_is_between), PySem.W.mg_of X G a17, k17, (F17.binds (ps := ["thing"]) fun _ _ _ _ _ _ us hl => match us, hl with | [_], _ => rfl)⟩⟩
  have D_are_low : DefG GG l.prog w mg base 4 "are_low" 1 d_are_low := ⟨⟨f18, _, _, (ok_are_low (ca := GG.ca) (ce := GG.ce) (Ts := GG.T) F18 T D_is_low), PySem.W.mg_of X G a18, k18, (F18.binds (ps := ["thing"]) fun _ _ _ _ _ _ us hl => match us, hl with | [_], _ => rfl)⟩⟩
  have D_worth_at : DefG GG l.prog w mg base 1 "worth_at" 2 d_worth_at := ⟨⟨f19, _, _, (ok_worth_at (ca := GG.ca) (ce := GG.ce) (Ts := GG.T) F19 T ), PySem.W.mg_of X G a19, k19, (F19.binds (ps := ["numbers", "x"]) fun _ _ _ _ _ _ us hl => match us, hl with | [_, _], _ => rfl)⟩⟩
  have D_dealt : DefG GG l.prog w mg base 5 "dealt" 3 d_dealt := ⟨⟨f20, _, _, (ok_dealt (ca := GG.ca) (ce := GG.ce) (Ts := GG.T) F20 T D_is_between D_is_low D_are_low D_worth_at), PySem.W.mg_of X G a20, k20, (F20.binds (ps := ["number", "seeds", "keepers"]) fun _ _ _ _ _ _ us hl => match us, hl with | [_, _, _], _ => rfl)⟩⟩
  have D__law_shuffled : DefG GG l.prog w mg base 2 "_law_shuffled" 2 d__law_shuffled := ⟨⟨f21, _, _, (ok__law_shuffled (ca := GG.ca) (ce := GG.ce) (Ts := GG.T) F21 T D__law_next), PySem.W.mg_of X G a21, k21, (F21.binds (ps := ["_law_draw", "_law_some"]) fun _ _ _ _ _ _ us hl => match us, hl with | [_, _], _ => rfl)⟩⟩
  have D_is_listed : DefG GG l.prog w mg base 1 "is_listed" 1 d_is_listed := ⟨⟨f22, _, _, (ok_is_listed (ca := GG.ca) (ce := GG.ce) (Ts := GG.T) F22 T ), PySem.W.mg_of X G a22, k22, (F22.binds (ps := ["thing"]) fun _ _ _ _ _ _ us hl => match us, hl with | [_], _ => rfl)⟩⟩
  have D_is_point : DefG GG l.prog w mg base 4 "is_point" 1 d_is_point := ⟨⟨f23, _, _, (ok_is_point (ca := GG.ca) (ce := GG.ce) (Ts := GG.T) F23 T D_is_between D_is_low), PySem.W.mg_of X G a23, k23, (F23.binds (ps := ["thing"]) fun _ _ _ _ _ _ us hl => match us, hl with | [_], _ => rfl)⟩⟩
  have D_need_points : DefG GG l.prog w mg base 5 "need_points" 1 d_need_points := ⟨⟨f24, _, _, (ok_need_points (ca := GG.ca) (ce := GG.ce) (Ts := GG.T) F24 T D_is_listed D_is_point), PySem.W.mg_of X G a24, k24, (F24.binds (ps := ["points"]) fun _ _ _ _ _ _ us hl => match us, hl with | [_], _ => rfl)⟩⟩
  have D_times_less : DefG GG l.prog w mg base 1 "times_less" 2 d_times_less := ⟨⟨f25, _, _, (ok_times_less (ca := GG.ca) (ce := GG.ce) (Ts := GG.T) F25 T ), PySem.W.mg_of X G a25, k25, (F25.binds (ps := ["numbers", "x"]) fun _ _ _ _ _ _ us hl => match us, hl with | [_, _], _ => rfl)⟩⟩
  have D_back_of : DefG GG l.prog w mg base 1 "back_of" 1 d_back_of := ⟨⟨f26, _, _, (ok_back_of (ca := GG.ca) (ce := GG.ce) (Ts := GG.T) F26 T ), PySem.W.mg_of X G a26, k26, (F26.binds (ps := ["number"]) fun _ _ _ _ _ _ us hl => match us, hl with | [_], _ => rfl)⟩⟩
  have D_through : DefG GG l.prog w mg base 2 "through" 1 d_through := ⟨⟨f27, _, _, (ok_through (ca := GG.ca) (ce := GG.ce) (Ts := GG.T) F27 T D_times_less D_back_of), PySem.W.mg_of X G a27, k27, (F27.binds (ps := ["points"]) fun _ _ _ _ _ _ us hl => match us, hl with | [_], _ => rfl)⟩⟩
  have D_restored : DefG GG l.prog w mg base 6 "restored" 1 d_restored := ⟨⟨f28, _, _, (ok_restored (ca := GG.ca) (ce := GG.ce) (Ts := GG.T) F28 T D_need_points D_through), PySem.W.mg_of X G a28, k28, (F28.binds (ps := ["points"]) fun _ _ _ _ _ _ us hl => match us, hl with | [_], _ => rfl)⟩⟩
  have D_seeds_for : DefG GG l.prog w mg base 6 "seeds_for" 2 d_seeds_for := ⟨⟨f29, _, _, (ok_seeds_for (ca := GG.ca) (ce := GG.ce) (Ts := GG.T) F29 T D_is_low D_need_points D_back_of D_through), PySem.W.mg_of X G a29, k29, (F29.binds (ps := ["number", "points"]) fun _ _ _ _ _ _ us hl => match us, hl with | [_, _], _ => rfl)⟩⟩
  have D__law_right : DefG GG l.prog w mg base 10 "_law_right" 2 d__law_right := ⟨⟨f30, _, _, (ok__law_right (ca := GG.ca) (ce := GG.ce) (Ts := GG.T) F30 rfl (tabs (cc30, TP30) (by simp)) (by simp [GG]) T D__law_begun D__law_next D__law_between D__law_points_right D__law_pick D__law_low D__law_odd_number D__law_lows_right D__law_is_done D__law_odd_points D_Safe__mk2_ D_dealt D__law_shuffled D_restored D_seeds_for), PySem.W.mg_of X G a30, k30, (F30.binds (ps := ["_law_cell", "_law_k"]) fun _ _ _ _ _ _ us hl => match us, hl with | [_, _], _ => rfl)⟩⟩
  exact ok_law (ca := GG.ca) (ce := GG.ce) (Ts := GG.T) F31 T D__law_right
theorem walk {l : PySem.W.OpenLaw} {q : Program} {loose : List Str} {XP : (Str → Option Value) → Heap → Prop} {YP : World → Heap → Prop} {d : DefRec} {K : Params → PySem.W.Frag} (hn : l.most = some 63) (hdf : d.params.defaults = [])
    (hY : ∀ (w : World) (h : Heap), YP w h → (K w.params).In h)
    (F : ∀ (w : World) (mg : Str → Option Value) (fa : Addr) (h : Heap), (K w.params).In h → h.Ns mainGlobals mg → mg d.name = some (.ref fa) → (∀ y : Str, ((PyProof.Rows.recsOf q).any fun e => e.name == y) = true → L2.TabAt (K w.params) mg h y) → L2.LawGT l w (K w.params) (L2.CX l.prog w) 11 63 "_law_script" mg fa h) :
    PySem.W.WalkO q loose XP YP l.row.toRowW d [] (fun f vs => PySem.call f vs) :=
  L2.walk_ofGT (n := 63) (k := 11) (x := "_law_script") (CX := fun w => L2.CX l.prog w) hn (by decide) hdf ⟨rfl, by decide, by decide⟩ hY F fun w H s e s' z => (letI : DL.Nm := DL.nm0; no_CX z)
end DL.K53
open PySem PySem.W PyProof.Rows in
set_option maxRecDepth 100000 in
set_option maxHeartbeats 0 in
theorem PySem.Challenge.cw_rolltally_k53_what_cannot_be_dealt_holds : PySem.Challenge.rw_rolltally_k53_what_cannot_be_dealt.Holds := by
  w_on; o_law; k_head; (case hw => w_witness2)
  k_fill
  refine DL.K53.walk (l := PySem.Challenge.rw_rolltally_k53_what_cannot_be_dealt) rfl rfl (fun w h Y => PySem.W.km_in_of Y) ?F
  case F =>
    intro w mg fa h KX G hmg own
    refine' DL.K53.all_mk KX G hmg own ?A1 ?pg1 ?hd1 ?po1 ?sa1 ?ha1 ?hn1 ?ht1 ?hm1 ?ic1 ?tc1 ?n1_drawers ?n1_known ?n1_many ?n1_wanted ?m1_bool ?m1_int ?m1_list ?m1_tuple ?m1_1 ?mk1 ?kc1 ?a1 ?l1 ?c1 ?k1 ?a2 ?l2 ?c2 ?k2 ?a3 ?l3 ?c3 ?k3 ?a4 ?l4 ?c4 ?k4 ?a5 ?l5 ?c5 ?k5 ?a6 ?l6 ?c6 ?k6 ?a7 ?l7 ?c7 ?k7 ?a8 ?l8 ?c8 ?k8 ?a9 ?l9 ?c9 ?k9 ?a10 ?l10 ?c10 ?k10 ?a11 ?l11 ?c11 ?k11 ?a12 ?l12 ?c12 ?k12 ?a13 ?l13 ?c13 ?k13 ?a14 ?l14 ?c14 ?k14 ?a15 ?l15 ?c15 ?k15 ?a16 ?i16 ?l16 ?c16 ?k16 ?a17 ?l17 ?c17 ?k17 ?a18 ?l18 ?c18 ?k18 ?a19 ?l19 ?c19 ?k19 ?a20 ?l20 ?c20 ?k20 ?a21 ?l21 ?c21 ?k21 ?a22 ?l22 ?c22 ?k22 ?a23 ?l23 ?c23 ?k23 ?a24 ?l24 ?c24 ?k24 ?a25 ?l25 ?c25 ?k25 ?a26 ?l26 ?c26 ?k26 ?a27 ?l27 ?c27 ?k27 ?a28 ?l28 ?c28 ?k28 ?a29 ?l29 ?c29 ?k29 ?a30 ?l30 ?tl30 ?tp30 ?tq30 ?ts30 ?tg30 ?tb30 ?tx30 ?te30 ?tk30 ?c30 ?k30 ?a31 ?l31 ?c31 ?k31 ?AX_NoBits ?AX_NoChain ?AX_NoCode ?AX_NoCount ?AX_NoDay ?AX_NoLetter ?AX_NoLot ?AX_NoMark ?AX_NoName ?AX_NoPhase ?AX_NoPlace ?AX_NoRace ?AX_NoRow ?AX_NoRuling ?AX_NoStub ?AX_NoText ?AX_NoTime ?AX_NoWay ?AX_NotThere ?AX_NotWhole ?AX_Twice ?AX_VoteError ?xi_NoCount ?xk_NoCount ?xs_NoCount ?xt_NoCount ?xm_NoCount_VoteError ?xn_NoCount_NoBits ?xn_NoCount_NoChain ?xn_NoCount_NoCode ?xn_NoCount_NoCount ?xn_NoCount_NoDay ?xn_NoCount_NoLetter ?xn_NoCount_NoLot ?xn_NoCount_NoMark ?xn_NoCount_NoName ?xn_NoCount_NoPhase ?xn_NoCount_NoPlace ?xn_NoCount_NoRace ?xn_NoCount_NoRow ?xn_NoCount_NoRuling ?xn_NoCount_NoStub ?xn_NoCount_NoText ?xn_NoCount_NoTime ?xn_NoCount_NoWay ?xn_NoCount_NotThere ?xn_NoCount_NotWhole ?xn_NoCount_Twice ?xn_NoCount_VoteError ?xn_NoCount_f_at ?xn_NoCount_f_row ?xn_NoCount_f_thing ?xv_NoCount ?xg_NoCount ?xh_NoCount ?xp_NoCount ?xa_NoCount ?xo_NoCount ?xbs_VoteError ?xbd_VoteError ?xbt_VoteError ?mv1 ?xq1 ?xq2 ?xc_NoBits ?xy_NoBits ?xz_NoBits ?xw1_NoBits ?xc_NoChain ?xy_NoChain ?xz_NoChain ?xw1_NoChain ?xc_NoCode ?xy_NoCode ?xz_NoCode ?xw1_NoCode ?xc_NoCount ?xy_NoCount ?xz_NoCount ?xw1_NoCount ?xc_NoDay ?xy_NoDay ?xz_NoDay ?xw1_NoDay ?xc_NoLetter ?xy_NoLetter ?xz_NoLetter ?xw1_NoLetter ?xc_NoLot ?xy_NoLot ?xz_NoLot ?xw1_NoLot ?xc_NoMark ?xy_NoMark ?xz_NoMark ?xw1_NoMark ?xc_NoName ?xy_NoName ?xz_NoName ?xw1_NoName ?xc_NoPhase ?xy_NoPhase ?xz_NoPhase ?xw1_NoPhase ?xc_NoPlace ?xy_NoPlace ?xz_NoPlace ?xw1_NoPlace ?xc_NoRace ?xy_NoRace ?xz_NoRace ?xw1_NoRace ?xc_NoRow ?xy_NoRow ?xz_NoRow ?xw1_NoRow ?xc_NoRuling ?xy_NoRuling ?xz_NoRuling ?xw1_NoRuling ?xc_NoStub ?xy_NoStub ?xz_NoStub ?xw1_NoStub ?xc_NoText ?xy_NoText ?xz_NoText ?xw1_NoText ?xc_NoTime ?xy_NoTime ?xz_NoTime ?xw1_NoTime ?xc_NoWay ?xy_NoWay ?xz_NoWay ?xw1_NoWay ?xc_NotThere ?xy_NotThere ?xz_NotThere ?xw1_NotThere ?xc_NotWhole ?xy_NotWhole ?xz_NotWhole ?xw1_NotWhole ?xc_Twice ?xy_Twice ?xz_Twice ?xw1_Twice ?xc_VoteError ?xy_VoteError ?xz_VoteError ?xw1_VoteError ?z_ValueError ?z_all ?z_bool ?z_enumerate ?z_int ?z_isinstance ?z_len ?z_list ?z_max ?z_min ?z_range ?z_set ?z_tuple ?z_zip ?y_MOST_KEEPERS ?y_P ?hr30
    (case A1 => k_is)
    (case pg1 => k_is)
    (case hd1 => k_is)
    (case po1 => k_is)
    (case sa1 => k_is)
    (case ha1 => k_is)
    (case hn1 => k_is)
    (case ht1 => k_is)
    (case hm1 => k_is)
    (case ic1 => k_is)
    (case tc1 => k_is)
    (case n1_drawers => k_is)
    (case n1_known => k_is)
    (case n1_many => k_is)
    (case n1_wanted => k_is)
    (case m1_bool => k_is)
    (case m1_int => k_is)
    (case m1_list => k_is)
    (case m1_tuple => k_is)
    (case m1_1 => k_is)
    (case mk1 => k_is)
    (case kc1 => k_is)
    (case a1 => k_is)
    (case l1 => k_is)
    (case c1 => k_is)
    (case k1 => k_is)
    (case a2 => k_is)
    (case l2 => k_is)
    (case c2 => k_is)
    (case k2 => k_is)
    (case a3 => k_is)
    (case l3 => k_is)
    (case c3 => k_is)
    (case k3 => k_is)
    (case a4 => k_is)
    (case l4 => k_is)
    (case c4 => k_is)
    (case k4 => k_is)
    (case a5 => k_is)
    (case l5 => k_is)
    (case c5 => k_is)
    (case k5 => k_is)
    (case a6 => k_is)
    (case l6 => k_is)
    (case c6 => k_is)
    (case k6 => k_is)
    (case a7 => k_is)
    (case l7 => k_is)
    (case c7 => k_is)
    (case k7 => k_is)
    (case a8 => k_is)
    (case l8 => k_is)
    (case c8 => k_is)
    (case k8 => k_is)
    (case a9 => k_is)
    (case l9 => k_is)
    (case c9 => k_is)
    (case k9 => k_is)
    (case a10 => k_is)
    (case l10 => k_is)
    (case c10 => k_is)
    (case k10 => k_is)
    (case a11 => k_is)
    (case l11 => k_is)
    (case c11 => k_is)
    (case k11 => k_is)
    (case a12 => k_is)
    (case l12 => k_is)
    (case c12 => k_is)
    (case k12 => k_is)
    (case a13 => k_is)
    (case l13 => k_is)
    (case c13 => k_is)
    (case k13 => k_is)
    (case a14 => k_is)
    (case l14 => k_is)
    (case c14 => k_is)
    (case k14 => k_is)
    (case a15 => k_is)
    (case l15 => k_is)
    (case c15 => k_is)
    (case k15 => k_is)
    (case a16 => k_is)
    (case i16 => k_is)
    (case l16 => k_is)
    (case c16 => k_is)
    (case k16 => k_is)
    (case a17 => k_is)
    (case l17 => k_is)
    (case c17 => k_is)
    (case k17 => k_is)
    (case a18 => k_is)
    (case l18 => k_is)
    (case c18 => k_is)
    (case k18 => k_is)
    (case a19 => k_is)
    (case l19 => k_is)
    (case c19 => k_is)
    (case k19 => k_is)
    (case a20 => k_is)
    (case l20 => k_is)
    (case c20 => k_is)
    (case k20 => k_is)
    (case a21 => k_is)
    (case l21 => k_is)
    (case c21 => k_is)
    (case k21 => k_is)
    (case a22 => k_is)
    (case l22 => k_is)
    (case c22 => k_is)
    (case k22 => k_is)
    (case a23 => k_is)
    (case l23 => k_is)
    (case c23 => k_is)
    (case k23 => k_is)
    (case a24 => k_is)
    (case l24 => k_is)
    (case c24 => k_is)
    (case k24 => k_is)
    (case a25 => k_is)
    (case l25 => k_is)
    (case c25 => k_is)
    (case k25 => k_is)
    (case a26 => k_is)
    (case l26 => k_is)
    (case c26 => k_is)
    (case k26 => k_is)
    (case a27 => k_is)
    (case l27 => k_is)
    (case c27 => k_is)
    (case k27 => k_is)
    (case a28 => k_is)
    (case l28 => k_is)
    (case c28 => k_is)
    (case k28 => k_is)
    (case a29 => k_is)
    (case l29 => k_is)
    (case c29 => k_is)
    (case k29 => k_is)
    (case a30 => k_is)
    (case l30 => k_is)
    (case tl30 => k_is)
    (case tp30 => rfl)
    (case tq30 => rfl)
    (case ts30 => rfl)
    (case tg30 => rfl)
    (case tb30 => rfl)
    (case tx30 => rfl)
    (case te30 => decide)
    (case tk30 => kernel_rfl)
    (case c30 => k_is)
    (case k30 => k_is)
    (case a31 => k_is)
    (case l31 => k_is)
    (case c31 => k_is)
    (case k31 => k_is)
    (case AX_NoBits => k_is)
    (case AX_NoChain => k_is)
    (case AX_NoCode => k_is)
    (case AX_NoCount => k_is)
    (case AX_NoDay => k_is)
    (case AX_NoLetter => k_is)
    (case AX_NoLot => k_is)
    (case AX_NoMark => k_is)
    (case AX_NoName => k_is)
    (case AX_NoPhase => k_is)
    (case AX_NoPlace => k_is)
    (case AX_NoRace => k_is)
    (case AX_NoRow => k_is)
    (case AX_NoRuling => k_is)
    (case AX_NoStub => k_is)
    (case AX_NoText => k_is)
    (case AX_NoTime => k_is)
    (case AX_NoWay => k_is)
    (case AX_NotThere => k_is)
    (case AX_NotWhole => k_is)
    (case AX_Twice => k_is)
    (case AX_VoteError => k_is)
    (case xi_NoCount => k_exc)
    (case xk_NoCount => k_is)
    (case xs_NoCount => k_is)
    (case xt_NoCount => k_is)
    (case xm_NoCount_VoteError => k_is)
    (case xn_NoCount_NoBits => k_is)
    (case xn_NoCount_NoChain => k_is)
    (case xn_NoCount_NoCode => k_is)
    (case xn_NoCount_NoCount => k_is)
    (case xn_NoCount_NoDay => k_is)
    (case xn_NoCount_NoLetter => k_is)
    (case xn_NoCount_NoLot => k_is)
    (case xn_NoCount_NoMark => k_is)
    (case xn_NoCount_NoName => k_is)
    (case xn_NoCount_NoPhase => k_is)
    (case xn_NoCount_NoPlace => k_is)
    (case xn_NoCount_NoRace => k_is)
    (case xn_NoCount_NoRow => k_is)
    (case xn_NoCount_NoRuling => k_is)
    (case xn_NoCount_NoStub => k_is)
    (case xn_NoCount_NoText => k_is)
    (case xn_NoCount_NoTime => k_is)
    (case xn_NoCount_NoWay => k_is)
    (case xn_NoCount_NotThere => k_is)
    (case xn_NoCount_NotWhole => k_is)
    (case xn_NoCount_Twice => k_is)
    (case xn_NoCount_VoteError => k_is)
    (case xn_NoCount_f_at => k_is)
    (case xn_NoCount_f_row => k_is)
    (case xn_NoCount_f_thing => k_is)
    (case xv_NoCount => k_is)
    (case xg_NoCount => k_is)
    (case xh_NoCount => k_is)
    (case xp_NoCount => k_is)
    (case xa_NoCount => k_is)
    (case xo_NoCount => k_is)
    (case xbs_VoteError => k_is)
    (case xbd_VoteError => k_is)
    (case xbt_VoteError => k_is)
    (case mv1 => k_is)
    (case xq1 => k_is)
    (case xq2 => k_is)
    (case xc_NoBits => k_is)
    (case xy_NoBits => k_is)
    (case xz_NoBits => k_is)
    (case xw1_NoBits => k_is)
    (case xc_NoChain => k_is)
    (case xy_NoChain => k_is)
    (case xz_NoChain => k_is)
    (case xw1_NoChain => k_is)
    (case xc_NoCode => k_is)
    (case xy_NoCode => k_is)
    (case xz_NoCode => k_is)
    (case xw1_NoCode => k_is)
    (case xc_NoCount => k_is)
    (case xy_NoCount => k_is)
    (case xz_NoCount => k_is)
    (case xw1_NoCount => k_is)
    (case xc_NoDay => k_is)
    (case xy_NoDay => k_is)
    (case xz_NoDay => k_is)
    (case xw1_NoDay => k_is)
    (case xc_NoLetter => k_is)
    (case xy_NoLetter => k_is)
    (case xz_NoLetter => k_is)
    (case xw1_NoLetter => k_is)
    (case xc_NoLot => k_is)
    (case xy_NoLot => k_is)
    (case xz_NoLot => k_is)
    (case xw1_NoLot => k_is)
    (case xc_NoMark => k_is)
    (case xy_NoMark => k_is)
    (case xz_NoMark => k_is)
    (case xw1_NoMark => k_is)
    (case xc_NoName => k_is)
    (case xy_NoName => k_is)
    (case xz_NoName => k_is)
    (case xw1_NoName => k_is)
    (case xc_NoPhase => k_is)
    (case xy_NoPhase => k_is)
    (case xz_NoPhase => k_is)
    (case xw1_NoPhase => k_is)
    (case xc_NoPlace => k_is)
    (case xy_NoPlace => k_is)
    (case xz_NoPlace => k_is)
    (case xw1_NoPlace => k_is)
    (case xc_NoRace => k_is)
    (case xy_NoRace => k_is)
    (case xz_NoRace => k_is)
    (case xw1_NoRace => k_is)
    (case xc_NoRow => k_is)
    (case xy_NoRow => k_is)
    (case xz_NoRow => k_is)
    (case xw1_NoRow => k_is)
    (case xc_NoRuling => k_is)
    (case xy_NoRuling => k_is)
    (case xz_NoRuling => k_is)
    (case xw1_NoRuling => k_is)
    (case xc_NoStub => k_is)
    (case xy_NoStub => k_is)
    (case xz_NoStub => k_is)
    (case xw1_NoStub => k_is)
    (case xc_NoText => k_is)
    (case xy_NoText => k_is)
    (case xz_NoText => k_is)
    (case xw1_NoText => k_is)
    (case xc_NoTime => k_is)
    (case xy_NoTime => k_is)
    (case xz_NoTime => k_is)
    (case xw1_NoTime => k_is)
    (case xc_NoWay => k_is)
    (case xy_NoWay => k_is)
    (case xz_NoWay => k_is)
    (case xw1_NoWay => k_is)
    (case xc_NotThere => k_is)
    (case xy_NotThere => k_is)
    (case xz_NotThere => k_is)
    (case xw1_NotThere => k_is)
    (case xc_NotWhole => k_is)
    (case xy_NotWhole => k_is)
    (case xz_NotWhole => k_is)
    (case xw1_NotWhole => k_is)
    (case xc_Twice => k_is)
    (case xy_Twice => k_is)
    (case xz_Twice => k_is)
    (case xw1_Twice => k_is)
    (case xc_VoteError => k_is)
    (case xy_VoteError => k_is)
    (case xz_VoteError => k_is)
    (case xw1_VoteError => k_is)
    (case z_ValueError => k_is)
    (case z_all => k_is)
    (case z_bool => k_is)
    (case z_enumerate => k_is)
    (case z_int => k_is)
    (case z_isinstance => k_is)
    (case z_len => k_is)
    (case z_list => k_is)
    (case z_max => k_is)
    (case z_min => k_is)
    (case z_range => k_is)
    (case z_set => k_is)
    (case z_tuple => k_is)
    (case z_zip => k_is)
    (case y_MOST_KEEPERS => k_is)
    (case y_P => k_is)
    (case hr30 => rfl)
end
