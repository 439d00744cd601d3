import PyProof.Rows.All
import Wide.All
import OpenK.AllK
import Wide.FinOn
import HandS.ForMost
import HandS.ForExc
import HandS.CallSlots
import HandS.Wide
import HandS.Lambda
import PyProof.NeKinds
import HandS.DeepEq
import HandS.TupAny
import HandS.Style
import HandS.IsInst
import HandS.Deep
import HandS.More
import HandS.SortInts
import HandS.SetFor
import HandS.Finally
import HandS.Conv
import HandS.TupMul
import HandS.Keys
import HandS.Remove
import PyProof.Rows.SetFrom
import HandS.SetKeys
import HandS.Strs
import HandS.Zip
import HandS.SetBool
import HandS.WordsDict
import HandS.Small
import KE.GoesNew
import HandS.DictComp
import KE.KDictSum
import HandS.ListItems
import KE.KUnpackStar
import HandS.Defaults
import HandS.MakeKwOnly
import HandS.Text
import HandS.SortRule
import HandS.Flow
import HandS.Iter
import PyProof.Rows.StrInSeq3
import KE.KExcIs
import HandS.ExcIs
import HandS.ExcInit
import PyProof.AutoSeq1
import PyProof.StrOps2
import PyProof.Rows.IntBool
import PyProof.CallStr
import PyProof.FactsAll.bool_2
import HandS.StrMore
import HandS.ReplaceLit
import HandS.ReplaceDef
import KE.KDictZip
import HandS.RaiseMore
import HandS.EndTab
import PyProof.ReprRoads
import KE.KIntText
import Wide.Txt
import HandS.ReplaceList
import PyProof.Rows.StrSplitAre
import PySem.Challenge.RW_rolltally_k77_boards_of_rows
set_option Elab.async false
set_option linter.all false
set_option maxRecDepth 100000
set_option maxHeartbeats 4000000
section
/-! D-layer, part 0: data without addresses, a store of mutable cells, how both lie in the abstract heap. -/
namespace DL
open PySem L2

inductive D where
  | non
  | bl (b : Bool)
  | int (i : Int)
  | str (x : Str)
  | tup (ds : List D)
  | lst (ds : List D)
  | dic (ks : List Key) (ds : List D)
  | obj (c : Str) (ks : List Str) (ds : List D)
  | loc (l : Nat)
  | dct (ks : List (List Key)) (ds : List D)
  | exn (c : Str) (ks : List Str) (ds : List D)
  | tpl (ds : List D)

inductive Cell where
  | lst (ds : List D)
  | dic (kvs : List (Key × D))
  | ins (c : Str) (fs : List (Str × D))
  | dct (kvs : List (List Key × D))
  | lck (kvs : List (Key × D)) (o : HO)

abbrev Store := List Cell
abbrev EnvD := List (Option D)

/-- where the cells lie; what is hidden (a list that a comprehension fills) -/
structure Fi where
  c : List Addr
  h : List Addr
def Fi.out (φ : Fi) (a : Addr) : Prop := a ∉ φ.c ∧ a ∉ φ.h

/-- the written classes -/
structure Glb where
  K : PySem.W.Frag
  ca : Str → Option Addr
  ce : Str → Option Addr
  T : List (Addr × Str)

/-- a caught exception that is kept -/
def ExH (cls : Value) (d : Option Addr) (a : Addr) : HO := .ext fun h => ∃ (oe : Obj) (vs : Array Value), h.get? a = some oe ∧ Zc cls d oe ∧ oe.data = .fields vs
def RdL (G : Glb) (φ : Fi) (H : Hp) (a : Addr) (xs : List V) : Prop := (φ.out a ∧ Rd H a (.lst xs)) ∨
  ∃ (o : Obj) (its : Array Value) (n : Nat), G.K.lookup a = some o ∧ o.cls = .type "list" ∧ o.dict = none ∧ o.data = .seq its n ∧ its.size ≤ sizeLine ∧ Vals xs its.toList
def RdT (G : Glb) (φ : Fi) (H : Hp) (a : Addr) (xs : List V) : Prop := (φ.out a ∧ Rd H a (.tup xs)) ∨
  ∃ (o : Obj) (its : Array Value) (n : Nat), G.K.lookup a = some o ∧ o.cls = .type "tuple" ∧ o.data = .seq its n ∧ its.size ≤ sizeLine ∧ Vals xs its.toList

mutual
def Is (G : Glb) (φ : Fi) (H : Hp) : D → V → Prop
  | .non, v => v = .non
  | .bl b, v => v = .bl b
  | .int i, v => v = .int i
  | .str x, v => v = .str x
  | .tup ds, v => ∃ a xs, v = .ref a ∧ RdT G φ H a xs ∧ IsL G φ H ds xs
  | .lst ds, v => ∃ a xs, v = .ref a ∧ RdL G φ H a xs ∧ IsL G φ H ds xs
  | .dic ks ds, v => ∃ a kvs, v = .ref a ∧ (φ.out a ∧ Rd H a (.dK kvs)) ∧ kvs.map (·.1) = ks ∧ IsL G φ H ds (kvs.map (·.2))
  | .obj c ks ds, v => ∃ a C dx fs, v = .ref a ∧ (φ.out a ∧ H a = some (.ins C dx fs)) ∧ G.ca c = some C ∧ fs.map (·.1) = ks ∧ IsL G φ H ds (fs.map (·.2))
  | .loc l, v => ∃ a, φ.c[l]? = some a ∧ v = .ref a
  | .dct ks ds, v => ∃ a kvs, v = .ref a ∧ (φ.out a ∧ Rd H a (.dT kvs)) ∧ kvs.map (·.1) = ks ∧ IsL G φ H ds (kvs.map (·.2))
  | .exn c ks ds, v => ∃ a C d, v = .ref a ∧ (φ.out a ∧ H a = some (ExH (.ref C) d a)) ∧ G.ce c = some C ∧ ((d = none ∧ ks = [] ∧ ds = []) ∨ ∃ b fs, d = some b ∧ (φ.out b ∧ H b = some (.xd fs)) ∧ fs.map (·.1) = ks ∧ IsL G φ H ds (fs.map (·.2)))
  | .tpl ds, v => ∃ a xs o, v = .ref a ∧ (φ.out a ∧ H a = some (.frz o (.tup xs)) ∧ o.cls = .type "tuple" ∧ o.dict = none) ∧ IsL G φ H ds xs
def IsL (G : Glb) (φ : Fi) (H : Hp) : List D → List V → Prop
  | [], xs => xs = []
  | d :: ds, xs => ∃ x r, xs = x :: r ∧ Is G φ H d x ∧ IsL G φ H ds r
end

/-- the name that the code objects of a table bear -/
class Nm where
  nm : Addr → Str
/-- the names of a law whose defs make no lambdas; of the tables of a list -/
@[reducible] def nm0 : Nm := ⟨fun _ => Str.empty⟩
@[reducible] def nmOf (l : List (Addr × Str)) : Nm := ⟨fun P => (l.lookup P).getD Str.empty⟩
variable [Nm]
/-- a table of code objects: each that it tells bears the name q -/
def TabX (φ : Fi) (H : Hp) (P : Addr) (q : Str) : Prop := q = Nm.nm P ∧ φ.out P ∧ ∃ ps : Array Value, H P = some (.tbl ps) ∧ TriplesOk ps.toList ∧ ∀ (pos : Pos) (cv : Value), codeAmong pos ps.toList = some cv → ∃ c, cv = .ref c ∧ φ.out c ∧ H c = some (LamX.CodeO c q)
/-- a dict -/
def Dt (o : HO) : Prop := (∃ kvs, o = .dK kvs) ∨ ∃ kvs, o = .dT kvs
/-- what a state may become -/
structure Ext (φ : Fi) (H : Hp) (φ' : Fi) (H' : Hp) : Prop where
  pre : ∃ ψ, φ'.c = φ.c ++ ψ ∧ ∀ a ∈ ψ, a ∉ φ.c ∧ H a = none
  hid : φ'.h = φ.h
  keep : ∀ a o, a ∉ φ.c → H a = some o → (H' a = some o ∨ ∃ od, a ∉ φ.h ∧ Dt o ∧ H' a = some (.frz od o)) ∨ ∃ ps ps', a ∉ φ.h ∧ o = .tbl ps ∧ H' a = some (.tbl ps') ∧ ∀ q, TabX φ H a q → TabX φ' H' a q
/-- neither a dict nor a table -/
def Firm (o : HO) : Prop := ¬ Dt o ∧ ∀ ps, o ≠ .tbl ps
theorem firm_ext {p : Heap → Prop} : Firm (.ext p) := ⟨(by rintro (⟨_, z⟩ | ⟨_, z⟩) <;> cases z), (fun _ z => by cases z)⟩

/-- all but dicts stay; a dict may be locked for good -/
theorem Ext.keepE {φ φ' : Fi} {H H' : Hp} (e : Ext φ H φ' H') {a : Addr} {o : HO} (n : a ∉ φ.c) (h : H a = some o) (hd : Firm o := by exact ⟨(by rintro (⟨_, z⟩ | ⟨_, z⟩) <;> cases z), (fun _ z => by cases z)⟩) : H' a = some o :=
  (e.keep a o n h).elim (fun q => q.elim id fun ⟨_, _, z, _⟩ => absurd z hd.1) fun ⟨ps, _, _, z, _⟩ => absurd z (hd.2 ps)
theorem Ext.keepT {φ φ' : Fi} {H H' : Hp} (e : Ext φ H φ' H') {a : Addr} {o : HO} (n : a ∉ φ.c) (h : H a = some o) : ∃ o', H' a = some o' :=
  (e.keep a o n h).elim (fun q => q.elim (fun z => ⟨_, z⟩) fun ⟨_, _, _, z⟩ => ⟨_, z⟩) fun ⟨_, _, _, _, z, _⟩ => ⟨_, z⟩
theorem Ext.refl {φ : Fi} {H : Hp} : Ext φ H φ H := ⟨⟨[], by simp, fun _ h => by simp at h⟩, rfl, fun _ _ _ h => .inl (.inl h)⟩
theorem Ext.outc {φ φ' : Fi} {H H' : Hp} (e : Ext φ H φ' H') {a : Addr} {o : HO} (n : a ∉ φ.c) (h : H a = some o) : a ∉ φ'.c := by
  obtain ⟨ψ, e1, p⟩ := e.pre
  rw [e1]
  intro q
  rcases List.mem_append.mp q with q | q
  · exact n q
  · have z := (p a q).2
    rw [h] at z; cases z
theorem Ext.out {φ φ' : Fi} {H H' : Hp} (e : Ext φ H φ' H') {a : Addr} {o : HO} (n : φ.out a) (h : H a = some o) : φ'.out a :=
  ⟨e.outc n.1 h, by rw [e.hid]; exact n.2⟩
theorem Ext.tab {φ φ' : Fi} {H H' : Hp} (e : Ext φ H φ' H') {P : Addr} {q : Str} (t : TabX φ H P q) : TabX φ' H' P q := by
  obtain ⟨nq, n, ps, h, ht, ha⟩ := id t
  rcases e.keep P _ n.1 h with (z | ⟨od, _, z, _⟩) | ⟨_, _, _, _, _, z⟩
  · refine ⟨nq, e.out n h, ps, z, ht, fun pos cv hc => ?_⟩
    obtain ⟨c, e1, n1, e2⟩ := ha pos cv hc
    exact ⟨c, e1, e.out n1 e2, e.keepE n1.1 e2 firm_ext⟩
  · rcases z with ⟨_, z⟩ | ⟨_, z⟩ <;> cases z
  · exact z q t
theorem TabX.mono {φ φ' : Fi} {H : Hp} {P : Addr} {q : Str} (no : ∀ a, φ.out a → φ'.out a) (t : TabX φ H P q) : TabX φ' H P q := by
  obtain ⟨nq, n, ps, h, ht, ha⟩ := t
  refine ⟨nq, no _ n, ps, h, ht, fun pos cv hc => ?_⟩
  obtain ⟨c, e1, n1, e2⟩ := ha pos cv hc
  exact ⟨c, e1, no _ n1, e2⟩
/-- what stays, told of fewer cells or hidden things -/
theorem Ext.keepTo {φ φ1 φ2 : Fi} {H H' : Hp} (e : Ext φ H φ1 H') (no : ∀ a, φ1.out a → φ2.out a) : ∀ a o, a ∉ φ.c → H a = some o → (H' a = some o ∨ ∃ od, a ∉ φ.h ∧ Dt o ∧ H' a = some (.frz od o)) ∨ ∃ ps ps', a ∉ φ.h ∧ o = .tbl ps ∧ H' a = some (.tbl ps') ∧ ∀ q, TabX φ H a q → TabX φ2 H' a q :=
  fun a o n h => (e.keep a o n h).imp id fun ⟨ps, ps', z1, z2, z3, z4⟩ => ⟨ps, ps', z1, z2, z3, fun q t => (z4 q t).mono no⟩
theorem Ext.trans {φ φ1 φ2 : Fi} {H H1 H2 : Hp} (a : Ext φ H φ1 H1) (b : Ext φ1 H1 φ2 H2) : Ext φ H φ2 H2 := by
  refine ⟨?_, b.hid.trans a.hid, fun c o n h => ?_⟩
  case refine_2 =>
    rcases a.keep c o n h with (q | ⟨od, nh, z, q⟩) | ⟨ps, ps', nh, z, q, t⟩
    · rw [← a.hid]
      rcases b.keep c o (a.outc n h) q with z | ⟨ps, ps', nh, z, q2, t⟩
      · exact .inl z
      · refine .inr ⟨ps, ps', nh, z, q2, fun q' t' => t q' (a.tab t')⟩
    · exact .inl (.inr ⟨od, nh, z, b.keepE (a.outc n h) q⟩)
    · have nc : c ∉ φ1.c := a.outc n h
      rcases b.keep c _ nc q with (q2 | ⟨od, _, z2, _⟩) | ⟨ps1, ps2, nh2, z2, q2, t2⟩
      · exact .inr ⟨ps, ps', nh, z, q2, fun q' t' => b.tab (t q' t')⟩
      · rcases z2 with ⟨_, z2⟩ | ⟨_, z2⟩ <;> cases z2
      · exact .inr ⟨ps, ps2, nh, z, q2, fun q' t' => b.tab (t q' t')⟩
  obtain ⟨ψ, e1, p⟩ := a.pre
  obtain ⟨χ, e2, q⟩ := b.pre
  refine ⟨ψ ++ χ, by rw [e2, e1, List.append_assoc], fun c hc => ?_⟩
  rcases List.mem_append.mp hc with hc | hc
  · exact p c hc
  · obtain ⟨n1, n2⟩ := q c hc
    have nφ : c ∉ φ.c := fun z => n1 (by rw [e1]; exact List.mem_append_left _ z)
    refine ⟨nφ, ?_⟩
    cases hq : H c with
    | none => rfl
    | some o => obtain ⟨o', q⟩ := a.keepT nφ hq; rw [q] at n2; cases n2
theorem Ext.get {φ φ' : Fi} {H H' : Hp} (e : Ext φ H φ' H') {l : Nat} {a : Addr} (h : φ.c[l]? = some a) : φ'.c[l]? = some a := by
  obtain ⟨ψ, e1, _⟩ := e.pre
  rw [e1, List.getElem?_append_left (List.getElem?_eq_some_iff.mp h).1]; exact h
theorem Ext.rd {φ φ' : Fi} {H H' : Hp} (e : Ext φ H φ' H') {a : Addr} {u : HO} (n : φ.out a) (h : Rd H a u) (hu : ∀ ps, u ≠ .tbl ps := by exact fun _ z => by cases z) : φ'.out a ∧ Rd H' a u := by
  rcases h with h | ⟨o, h⟩
  · refine ⟨e.out n h, ?_⟩
    rcases e.keep _ _ n.1 h with (q | ⟨od, _, _, q⟩) | ⟨ps, ps', _, rfl, q, _⟩
    · exact .inl q
    · exact .inr ⟨od, q⟩
    · exact absurd rfl (hu ps)
  · exact ⟨e.out n h, .inr ⟨o, e.keepE n.1 h⟩⟩

/-- on from a state with more that is hidden -/
theorem Ext.transL {φ1 φ2 φ3 : Fi} {H1 H2 H3 : Hp} (a : Ext φ1 H1 ⟨φ2.c, φ1.h⟩ H2) (ta : ∀ P q, TabX φ1 H1 P q → TabX φ2 H2 P q) (hh : ∀ x ∈ φ1.h, x ∈ φ2.h) (e : Ext φ2 H2 φ3 H3) : Ext φ1 H1 ⟨φ3.c, φ1.h⟩ H3 := by
  have hh3 : ∀ x, φ3.out x → (Fi.mk φ3.c φ1.h).out x := fun x n => ⟨n.1, fun m => n.2 (by rw [e.hid]; exact hh _ m)⟩
  have tb : ∀ P q, TabX φ1 H1 P q → TabX ⟨φ3.c, φ1.h⟩ H3 P q := fun P q t => (e.tab (ta P q t)).mono hh3
  refine ⟨?_, rfl, fun x o n h => ?_⟩
  · obtain ⟨ψ, e1, p⟩ := a.pre
    obtain ⟨χ, e2, q⟩ := e.pre
    have e1' : φ2.c = φ1.c ++ ψ := e1
    refine ⟨ψ ++ χ, by show φ3.c = _; rw [e2, e1', List.append_assoc], fun c hc => ?_⟩
    rcases List.mem_append.mp hc with hc | hc
    · exact p c hc
    · obtain ⟨n1, n2⟩ := q c hc
      have nφ : c ∉ φ1.c := fun z => n1 (by rw [e1']; exact List.mem_append_left _ z)
      refine ⟨nφ, ?_⟩
      cases hq : H1 c with
      | none => rfl
      | some o => obtain ⟨o', q⟩ := a.keepT nφ hq; rw [q] at n2; cases n2
  · have nc : x ∉ φ2.c := a.outc n h
    rcases a.keep x o n h with (q | ⟨od, nh, z, q⟩) | ⟨ps, ps', nh, z, q, _⟩
    · rcases e.keep x o nc q with (z | ⟨od, nh, z, q2⟩) | ⟨ps, ps', nh, z, q2, _⟩
      · exact .inl (.inl z)
      · exact .inl (.inr ⟨od, fun m => nh (hh _ m), z, q2⟩)
      · exact .inr ⟨ps, ps', fun m => nh (hh _ m), z, q2, fun q' t' => tb _ _ t'⟩
    · exact .inl (.inr ⟨od, nh, z, e.keepE nc q⟩)
    · rcases e.keep x _ nc q with (q2 | ⟨od, _, z2, _⟩) | ⟨ps1, ps2, nh2, z2, q2, _⟩
      · exact .inr ⟨ps, ps', nh, z, q2, fun q' t' => tb _ _ t'⟩
      · rcases z2 with ⟨_, z2⟩ | ⟨_, z2⟩ <;> cases z2
      · exact .inr ⟨ps, ps2, nh, z, q2, fun q' t' => tb _ _ t'⟩
/-- how readings are kept -/
structure Kept (φ : Fi) (H : Hp) (φ' : Fi) (H' : Hp) : Prop where
  get : ∀ (l : Nat) (a : Addr), φ.c[l]? = some a → φ'.c[l]? = some a
  rd : ∀ a u, φ.out a → Rd H a u → (hu : ∀ ps, u ≠ .tbl ps := by exact fun _ z => by cases z) → φ'.out a ∧ Rd H' a u
  ins : ∀ a C dx fs, φ.out a → H a = some (.ins C dx fs) → φ'.out a ∧ H' a = some (.ins C dx fs)
  frz : ∀ a o u, φ.out a → H a = some (.frz o u) → φ'.out a ∧ H' a = some (.frz o u)
  ext : ∀ a p, φ.out a → H a = some (.ext p) → φ'.out a ∧ H' a = some (.ext p)
  xd : ∀ a fs, φ.out a → H a = some (.xd fs) → φ'.out a ∧ H' a = some (.xd fs)
  tab : ∀ P q, TabX φ H P q → TabX φ' H' P q
theorem Ext.kept {φ φ' : Fi} {H H' : Hp} (e : Ext φ H φ' H') : Kept φ H φ' H' :=
  ⟨fun _ _ => e.get, fun _ _ n h hu => e.rd n h hu, fun _ _ _ _ n h => ⟨e.out n h, e.keepE n.1 h⟩, fun _ _ _ n h => ⟨e.out n h, e.keepE n.1 h⟩, fun _ _ n h => ⟨e.out n h, e.keepE n.1 h⟩, fun _ _ n h => ⟨e.out n h, e.keepE n.1 h⟩, fun _ _ t => e.tab t⟩

section
variable {G : Glb} {φ φ' : Fi} {H H' : Hp}
theorem RdL.kept (k : Kept φ H φ' H') {a : Addr} {xs : List V} (h : RdL G φ H a xs) : RdL G φ' H' a xs := by
  rcases h with ⟨n, h⟩ | h
  · exact .inl (k.rd _ _ n h)
  · exact .inr h
theorem RdT.kept (k : Kept φ H φ' H') {a : Addr} {xs : List V} (h : RdT G φ H a xs) : RdT G φ' H' a xs := by
  rcases h with ⟨n, h⟩ | h
  · exact .inl (k.rd _ _ n h)
  · exact .inr h
mutual
theorem Is.kept (k : Kept φ H φ' H') : ∀ {d : D} {v : V}, Is G φ H d v → Is G φ' H' d v
  | .non, v, h => h
  | .bl b, v, h => h
  | .int i, v, h => h
  | .str x, v, h => h
  | .tup ds, v, h => by
    obtain ⟨a, xs, e, r, q⟩ := h
    exact ⟨a, xs, e, r.kept k, IsL.kept k q⟩
  | .lst ds, v, h => by
    obtain ⟨a, xs, e, r, q⟩ := h
    exact ⟨a, xs, e, r.kept k, IsL.kept k q⟩
  | .dic ks ds, v, h => by
    obtain ⟨a, kvs, e, ⟨n, r⟩, z, q⟩ := h
    exact ⟨a, kvs, e, k.rd _ _ n r, z, IsL.kept k q⟩
  | .obj c ks ds, v, h => by
    obtain ⟨a, C, dx, fs, e, ⟨n, r⟩, c, z, q⟩ := h
    exact ⟨a, C, dx, fs, e, k.ins _ _ _ _ n r, c, z, IsL.kept k q⟩
  | .loc l, v, h => by
    obtain ⟨a, p, e⟩ := h
    exact ⟨a, k.get _ _ p, e⟩
  | .dct ks ds, v, h => by
    obtain ⟨a, kvs, e, ⟨n, r⟩, z, q⟩ := h
    exact ⟨a, kvs, e, k.rd _ _ n r, z, IsL.kept k q⟩
  | .exn c ks ds, v, h => by
    obtain ⟨a, C, d, e, ⟨n, r⟩, c, z⟩ := h
    refine ⟨a, C, d, e, k.ext _ _ n r, c, ?_⟩
    rcases z with z | ⟨b, fs, e1, ⟨n1, r1⟩, e2, q⟩
    · exact .inl z
    · exact .inr ⟨b, fs, e1, k.xd _ _ n1 r1, e2, IsL.kept k q⟩
  | .tpl ds, v, h => by
    obtain ⟨a, xs, o, e, ⟨n, r, r2⟩, q⟩ := h
    have z := k.frz _ _ _ n r
    exact ⟨a, xs, o, e, ⟨z.1, z.2, r2⟩, IsL.kept k q⟩
theorem IsL.kept (k : Kept φ H φ' H') : ∀ {ds : List D} {xs : List V}, IsL G φ H ds xs → IsL G φ' H' ds xs
  | [], xs, h => h
  | d :: ds, xs, h => by
    obtain ⟨x, r, e, p, q⟩ := h
    exact ⟨x, r, e, Is.kept k p, IsL.kept k q⟩
end
theorem Is.ext (e : Ext φ H φ' H') {d : D} {v : V} (h : Is G φ H d v) : Is G φ' H' d v := Is.kept e.kept h
theorem IsL.ext (e : Ext φ H φ' H') {ds : List D} {xs : List V} (h : IsL G φ H ds xs) : IsL G φ' H' ds xs := IsL.kept e.kept h
theorem RdL.seq {a : Addr} {xs : List V} (h : RdL G φ H a xs) : SqL G.K H a xs := by
  rcases h with ⟨_, h⟩ | h
  · exact .inl h
  · exact .inr h
theorem RdT.seq {a : Addr} {xs : List V} (h : RdT G φ H a xs) : SqT G.K H a xs := by
  rcases h with ⟨_, h⟩ | h
  · exact .inl h
  · exact .inr h
theorem IsL.length : ∀ {ds : List D} {xs : List V}, IsL G φ H ds xs → ds.length = xs.length
  | [], xs, h => by cases (show xs = [] from h); rfl
  | d :: ds, xs, h => by
    obtain ⟨x, r, rfl, _, q⟩ := h
    simp [IsL.length q]
theorem IsL.get : ∀ {ds : List D} {xs : List V} {i : Nat} {d : D}, IsL G φ H ds xs → ds[i]? = some d → ∃ x, xs[i]? = some x ∧ Is G φ H d x
  | [], _, _, _, _, e => by simp at e
  | d :: ds, xs, 0, d', h, e => by
    obtain ⟨x, r, rfl, p, q⟩ := h
    simp at e; subst e
    exact ⟨x, rfl, p⟩
  | d :: ds, xs, i + 1, d', h, e => by
    obtain ⟨x, r, rfl, p, q⟩ := h
    simpa using IsL.get q (by simpa using e)
theorem IsL.append : ∀ {ds es : List D} {xs ys : List V}, IsL G φ H ds xs → IsL G φ H es ys → IsL G φ H (ds ++ es) (xs ++ ys)
  | [], es, xs, ys, h, k => by cases (show xs = [] from h); exact k
  | d :: ds, es, xs, ys, h, k => by
    obtain ⟨x, r, rfl, p, q⟩ := h
    exact ⟨x, r ++ ys, rfl, p, IsL.append q k⟩
theorem IsL.set : ∀ {ds : List D} {xs : List V} {d : D} {x : V} (i : Nat), IsL G φ H ds xs → Is G φ H d x → IsL G φ H (ds.set i d) (xs.set i x)
  | [], xs, _, _, _, h, _ => by cases (show xs = [] from h); exact rfl
  | _ :: _, xs, d', x', 0, h, k => by
    obtain ⟨x, r, rfl, p, q⟩ := h
    exact ⟨x', r, rfl, k, q⟩
  | _ :: _, xs, d', x', i + 1, h, k => by
    obtain ⟨x, r, rfl, p, q⟩ := h
    exact ⟨x, _, rfl, p, IsL.set i q k⟩
theorem IsL.take : ∀ {ds : List D} {xs : List V} (n : Nat), IsL G φ H ds xs → IsL G φ H (ds.take n) (xs.take n)
  | _, _, 0, _ => by simp [IsL]
  | [], xs, n + 1, h => by cases (show xs = [] from h); exact rfl
  | _ :: _, xs, n + 1, h => by
    obtain ⟨x, r, rfl, p, q⟩ := h
    exact ⟨x, _, rfl, p, IsL.take n q⟩
theorem IsL.drop : ∀ {ds : List D} {xs : List V} (n : Nat), IsL G φ H ds xs → IsL G φ H (ds.drop n) (xs.drop n)
  | _, _, 0, h => h
  | [], xs, n + 1, h => by cases (show xs = [] from h); exact rfl
  | _ :: _, xs, n + 1, h => by
    obtain ⟨x, r, rfl, p, q⟩ := h
    exact IsL.drop n q
theorem IsL.one {d : D} {x : V} (h : Is G φ H d x) : IsL G φ H [d] [x] := ⟨x, [], rfl, h, rfl⟩
theorem IsL.cons {d : D} {x : V} {ds : List D} {xs : List V} (h : Is G φ H d x) (k : IsL G φ H ds xs) : IsL G φ H (d :: ds) (x :: xs) := ⟨x, xs, rfl, h, k⟩
theorem IsL.reverse : ∀ {ds : List D} {xs : List V}, IsL G φ H ds xs → IsL G φ H ds.reverse xs.reverse
  | [], xs, h => by cases (show xs = [] from h); exact rfl
  | d :: ds, xs, h => by
    obtain ⟨x, r, rfl, p, q⟩ := h
    rw [List.reverse_cons, List.reverse_cons]
    exact IsL.append (IsL.reverse q) (.one p)
theorem IsL.ints : ∀ {ns : List Int} {xs : List V}, IsL G φ H (ns.map D.int) xs → xs = ns.map V.int
  | [], xs, h => h
  | n :: ns, xs, h => by
    obtain ⟨x, r, rfl, p, q⟩ := h
    rw [IsL.ints q, show x = V.int n from p]; rfl
theorem IsL.of_ints : ∀ {ns : List Int}, IsL G φ H (ns.map D.int) (ns.map V.int)
  | [] => rfl
  | n :: ns => ⟨_, _, rfl, rfl, IsL.of_ints⟩
theorem IsL.strs : ∀ {ns : List Str} {xs : List V}, IsL G φ H (ns.map D.str) xs → xs = ns.map V.str
  | [], xs, h => h
  | n :: ns, xs, h => by
    obtain ⟨x, r, rfl, p, q⟩ := h
    rw [IsL.strs q, show x = V.str n from p]; rfl
end

/-- a cell as it lies at its address -/
def CellOk (G : Glb) (φ : Fi) (H : Hp) (a : Addr) : Cell → Prop
  | .lst ds => ∃ xs, H a = some (.lst xs) ∧ IsL G φ H ds xs
  | .dic kvs => ∃ ws, H a = some (.dK ws) ∧ ws.map (·.1) = kvs.map (·.1) ∧ IsL G φ H (kvs.map (·.2)) (ws.map (·.2))
  | .dct kvs => ∃ ws, H a = some (.dT ws) ∧ ws.map (·.1) = kvs.map (·.1) ∧ IsL G φ H (kvs.map (·.2)) (ws.map (·.2))
  | .ins c fs => ∃ C dx ws, G.ca c = some C ∧ H a = some (.ins C dx ws) ∧ ws.map (·.1) = fs.map (·.1) ∧ IsL G φ H (fs.map (·.2)) (ws.map (·.2))
  | .lck kvs o => ∃ od ws, o = .frz od (.dK ws) ∧ H a = some o ∧ ws.map (·.1) = kvs.map (·.1) ∧ IsL G φ H (kvs.map (·.2)) (ws.map (·.2))
/-- no tuple, locked or not -/
def NoTup : HO → Prop
  | .tup _ => False
  | .frz _ (.tup _) => False
  | _ => True
structure SOk (G : Glb) (φ : Fi) (S : Store) (H : Hp) : Prop where
  len : φ.c.length = S.length
  nd : φ.c.Nodup
  hid : ∀ a ∈ φ.h, a ∉ φ.c ∧ ∃ o, H a = some o ∧ NoTup o
  cell : ∀ (l : Nat) (c : Cell), S[l]? = some c → ∃ a, φ.c[l]? = some a ∧ CellOk G φ H a c
  tab : ∀ p ∈ G.T, TabX φ H p.1 p.2

section
variable {G : Glb} {φ φ' : Fi} {H H' : Hp} {S : Store}
theorem CellOk.some {a : Addr} {c : Cell} (h : CellOk G φ H a c) : ∃ o, H a = some o := by
  cases c with
  | lst ds => obtain ⟨xs, h, _⟩ := h; exact ⟨_, h⟩
  | dic kvs => obtain ⟨xs, h, _⟩ := h; exact ⟨_, h⟩
  | ins c fs => obtain ⟨C, dx, ws, _, h, _⟩ := h; exact ⟨_, h⟩
  | dct kvs => obtain ⟨xs, h, _⟩ := h; exact ⟨_, h⟩
  | lck kvs o => obtain ⟨_, _, _, h, _⟩ := h; exact ⟨_, h⟩
theorem CellOk.move {a : Addr} {c : Cell} (k : Kept φ H φ' H') (e : H' a = H a) (h : CellOk G φ H a c) : CellOk G φ' H' a c := by
  cases c with
  | lst ds => obtain ⟨xs, h, q⟩ := h; exact ⟨xs, by rw [e]; exact h, q.kept k⟩
  | dic kvs => obtain ⟨xs, h, z, q⟩ := h; exact ⟨xs, by rw [e]; exact h, z, q.kept k⟩
  | ins c fs => obtain ⟨C, dx, ws, z, h, y, q⟩ := h; exact ⟨C, dx, ws, z, by rw [e]; exact h, y, q.kept k⟩
  | dct kvs => obtain ⟨xs, h, z, q⟩ := h; exact ⟨xs, by rw [e]; exact h, z, q.kept k⟩
  | lck kvs o => obtain ⟨od, xs, e1, h, z, q⟩ := h; exact ⟨od, xs, e1, by rw [e]; exact h, z, q.kept k⟩
theorem SOk.there (s : SOk G φ S H) {a : Addr} (h : a ∈ φ.c) : ∃ o, H a = some o := by
  obtain ⟨l, hl, e⟩ := List.getElem_of_mem h
  have hS : l < S.length := by rw [← s.len]; exact hl
  obtain ⟨b, hb, c⟩ := s.cell l S[l] (List.getElem?_eq_getElem hS)
  rw [List.getElem?_eq_getElem hl, e] at hb
  cases hb
  exact c.some
theorem SOk.freshc (s : SOk G φ S H) {a : Addr} (h : H a = none) : a ∉ φ.c := fun q => by
  obtain ⟨o, e⟩ := s.there q
  rw [h] at e; cases e
theorem SOk.freshh (s : SOk G φ S H) {a : Addr} (h : H a = none) : a ∉ φ.h := fun q => by
  obtain ⟨_, o, e, _⟩ := s.hid a q
  rw [h] at e; cases e
theorem SOk.fresh (s : SOk G φ S H) {a : Addr} (h : H a = none) : φ.out a := ⟨s.freshc h, s.freshh h⟩
/-- a new object that is not of the store -/
theorem Ext.laid {a : Addr} {o : HO} (h : H a = none) : Ext φ H φ (upd H a o) :=
  ⟨⟨[], by simp, fun _ q => by simp at q⟩, rfl, fun b u _ e => .inl (.inl (by rw [upd_ne (ne_of_none e h)]; exact e))⟩
theorem Ext.keepN (e : Ext φ H φ' H') {a : Addr} (n : a ∉ φ.c) (h : ∃ o, H a = some o ∧ NoTup o) : ∃ o, H' a = some o ∧ NoTup o := by
  obtain ⟨o, h, t⟩ := h
  rcases e.keep a o n h with (z | ⟨od, _, dt, z⟩) | ⟨_, _, _, _, z, _⟩
  · exact ⟨o, z, t⟩
  · refine ⟨_, z, ?_⟩
    rcases dt with ⟨_, rfl⟩ | ⟨_, rfl⟩ <;> exact trivial
  · exact ⟨_, z, trivial⟩
theorem SOk.step (s : SOk G φ S H) (e : Ext φ H φ H') (k : ∀ a ∈ φ.c, H' a = H a) : SOk G φ S H' :=
  ⟨s.len, s.nd, fun a ha => let ⟨n, q⟩ := s.hid a ha; ⟨n, e.keepN n q⟩, fun l c h => by
    obtain ⟨a, ha, hc⟩ := s.cell l c h
    exact ⟨a, ha, hc.move e.kept (k a (List.mem_of_getElem? ha))⟩, fun p hp => e.tab (s.tab p hp)⟩
theorem SOk.laid (s : SOk G φ S H) {a : Addr} {o : HO} (h : H a = none) : SOk G φ S (upd H a o) :=
  s.step (.laid h) fun b hb => upd_ne fun q => by subst q; exact s.freshc h hb
/-- a new cell -/
def Fi.add (φ : Fi) (a : Addr) : Fi := ⟨φ.c ++ [a], φ.h⟩
theorem Ext.newCell {a : Addr} {o : HO} (s : SOk G φ S H) (h : H a = none) : Ext φ H (φ.add a) (upd H a o) :=
  ⟨⟨[a], rfl, fun b hb => by simp at hb; subst hb; exact ⟨s.freshc h, h⟩⟩, rfl, fun b u _ e => .inl (.inl (by rw [upd_ne (ne_of_none e h)]; exact e))⟩
theorem SOk.newCell (s : SOk G φ S H) {a : Addr} {o : HO} {c : Cell} (h : H a = none) (hc : CellOk G (φ.add a) (upd H a o) a c) : SOk G (φ.add a) (S ++ [c]) (upd H a o) := by
  refine ⟨by simp [Fi.add, s.len], ?_, fun b hb => ?_, fun l d hl => ?_, fun p hp => (Ext.newCell s h).tab (s.tab p hp)⟩
  · refine List.nodup_append.mpr ⟨s.nd, by simp, fun x hx y hy => ?_⟩
    simp at hy; subst hy
    intro e; subst e; exact s.freshc h hx
  · obtain ⟨n, u, e, t⟩ := s.hid b hb
    have nb : b ≠ a := ne_of_none e h
    exact ⟨fun z => (List.mem_append.mp z).elim n fun z => nb (by simpa using z), u, by rw [upd_ne nb]; exact e, t⟩
  · by_cases q : l < S.length
    · rw [List.getElem?_append_left q] at hl
      obtain ⟨b, hb, kb⟩ := s.cell l d hl
      refine ⟨b, (Ext.newCell (o := o) s h).get hb, kb.move (Ext.newCell (o := o) s h).kept (upd_ne fun z => ?_)⟩
      subst z; exact s.freshc h (List.mem_of_getElem? hb)
    · rw [List.getElem?_append_right (Nat.le_of_not_lt q)] at hl
      have e : l = S.length := by
        have := (List.getElem?_eq_some_iff.mp hl).1
        simp at this; omega
      subst e
      simp at hl; subst hl
      exact ⟨a, by rw [← s.len]; simp [Fi.add], hc⟩
/-- a cell is written -/
theorem Ext.put {a : Addr} {o : HO} (h : a ∈ φ.c) : Ext φ H φ (upd H a o) :=
  ⟨⟨[], by simp, fun _ q => by simp at q⟩, rfl, fun b u n e => .inl (.inl (by rw [upd_ne (fun z => n (by rw [z]; exact h))]; exact e))⟩
theorem SOk.put (s : SOk G φ S H) {l : Nat} {a : Addr} {o : HO} {c : Cell} (ha : φ.c[l]? = some a) (hc : CellOk G φ (upd H a o) a c) : SOk G φ (S.set l c) (upd H a o) := by
  have hl : l < S.length := by rw [← s.len]; exact (List.getElem?_eq_some_iff.mp ha).1
  refine ⟨by simp [s.len], s.nd, fun b hb => ?_, fun i d hd => ?_, fun p hp => (Ext.put (List.mem_of_getElem? ha)).tab (s.tab p hp)⟩
  · obtain ⟨n, u, e, t⟩ := s.hid b hb
    exact ⟨n, u, by rw [upd_ne (fun z => n (by rw [z]; exact List.mem_of_getElem? ha))]; exact e, t⟩
  · by_cases q : i = l
    · subst q
      rw [List.getElem?_set_self hl] at hd
      cases hd
      exact ⟨a, ha, hc⟩
    · rw [List.getElem?_set_ne (fun z => q z.symm)] at hd
      obtain ⟨b, hb, kb⟩ := s.cell i d hd
      refine ⟨b, hb, kb.move (Ext.put (List.mem_of_getElem? ha)).kept (upd_ne fun z => ?_)⟩
      subst z
      exact q (nd_ix s.nd hb ha)
theorem SOk.at_ (s : SOk G φ S H) {l : Nat} {c : Cell} {a : Addr} (h : S[l]? = some c) (ha : φ.c[l]? = some a) : CellOk G φ H a c := by
  obtain ⟨b, hb, k⟩ := s.cell l c h
  rw [ha] at hb; cases hb; exact k
/-- a hidden object -/
def Fi.hide (φ : Fi) (a : Addr) : Fi := ⟨φ.c, a :: φ.h⟩
theorem Kept.hide {a : Addr} {o : HO} (h : H a = none) : Kept φ H (φ.hide a) (upd H a o) := by
  have no : ∀ {b : Addr} {u : HO}, φ.out b → Rd H b u → (φ.hide a).out b := fun {b u} n r => ⟨n.1, fun q => (List.mem_cons.mp q).elim (fun z => by
    subst z
    rcases r with r | ⟨_, r⟩ <;> rw [h] at r <;> cases r) n.2⟩
  refine ⟨fun _ _ q => q, fun b u n r _ => ⟨no n r, ?_⟩, fun b C dx fs n r => ⟨no (u := .ins C dx fs) n (.inl r), ?_⟩, fun b o u n r => ⟨no (u := .frz o u) n (.inl r), ?_⟩, fun b p n r => ⟨no (u := .ext p) n (.inl r), ?_⟩, fun b p n r => ⟨no (u := .xd p) n (.inl r), ?_⟩, fun P q t => ?_⟩
  · rcases r with r | ⟨w, r⟩
    · exact .inl (by rw [upd_ne (ne_of_none r h)]; exact r)
    · exact .inr ⟨w, by rw [upd_ne (ne_of_none r h)]; exact r⟩
  · rw [upd_ne (ne_of_none r h)]; exact r
  · rw [upd_ne (ne_of_none r h)]; exact r
  · rw [upd_ne (ne_of_none r h)]; exact r
  · rw [upd_ne (ne_of_none r h)]; exact r
  · obtain ⟨nq, n, ps, r, ht, ha⟩ := t
    refine ⟨nq, no (u := .tbl ps) n (.inl r), ps, by rw [upd_ne (ne_of_none r h)]; exact r, ht, fun pos cv hc => ?_⟩
    obtain ⟨c, e1, n1, e2⟩ := ha pos cv hc
    exact ⟨c, e1, no (u := LamX.CodeO c q) n1 (.inl e2), by rw [upd_ne (ne_of_none e2 h)]; exact e2⟩
theorem Kept.show_ {a : Addr} : Kept (φ.hide a) H φ H :=
  ⟨fun _ _ q => q, fun b u n r _ => ⟨⟨n.1, fun z => n.2 (List.mem_cons_of_mem _ z)⟩, r⟩, fun b C dx fs n r => ⟨⟨n.1, fun z => n.2 (List.mem_cons_of_mem _ z)⟩, r⟩, fun b o u n r => ⟨⟨n.1, fun z => n.2 (List.mem_cons_of_mem _ z)⟩, r⟩, fun b p n r => ⟨⟨n.1, fun z => n.2 (List.mem_cons_of_mem _ z)⟩, r⟩, fun b p n r => ⟨⟨n.1, fun z => n.2 (List.mem_cons_of_mem _ z)⟩, r⟩, fun P q ⟨nq, n, ps, r, ht, ha⟩ => ⟨nq, ⟨n.1, fun z => n.2 (List.mem_cons_of_mem _ z)⟩, ps, r, ht, fun pos cv hc => let ⟨c, e1, n1, e2⟩ := ha pos cv hc; ⟨c, e1, ⟨n1.1, fun z => n1.2 (List.mem_cons_of_mem _ z)⟩, e2⟩⟩⟩
/-- the hidden object changes -/
theorem Kept.hidden {a : Addr} {o : HO} (hm : a ∈ φ.h) : Kept φ H φ (upd H a o) := by
  have nb : ∀ {b : Addr}, φ.out b → b ≠ a := fun n z => n.2 (by rw [z]; exact hm)
  refine ⟨fun _ _ q => q, fun b u n r _ => ⟨n, ?_⟩, fun b C dx fs n r => ⟨n, by rw [upd_ne (nb n)]; exact r⟩, fun b o u n r => ⟨n, by rw [upd_ne (nb n)]; exact r⟩, fun b p n r => ⟨n, by rw [upd_ne (nb n)]; exact r⟩, fun b p n r => ⟨n, by rw [upd_ne (nb n)]; exact r⟩, fun P q ⟨nq, n, ps, r, ht, ha⟩ => ⟨nq, n, ps, by rw [upd_ne (nb n)]; exact r, ht, fun pos cv hc => let ⟨c, e1, n1, e2⟩ := ha pos cv hc; ⟨c, e1, n1, by rw [upd_ne (nb n1)]; exact e2⟩⟩⟩
  rcases r with r | ⟨w, r⟩
  · exact .inl (by rw [upd_ne (nb n)]; exact r)
  · exact .inr ⟨w, by rw [upd_ne (nb n)]; exact r⟩
theorem SOk.hide (s : SOk G φ S H) {a : Addr} {o : HO} (h : H a = none) (ho : NoTup o := by exact trivial) : SOk G (φ.hide a) S (upd H a o) := by
  refine ⟨s.len, s.nd, fun b hb => ?_, fun l c hl => ?_, fun p hp => (Kept.hide h).tab _ _ (s.tab p hp)⟩
  · rcases List.mem_cons.mp hb with rfl | hb
    · exact ⟨s.freshc h, o, upd_same, ho⟩
    · obtain ⟨n, u, e, t⟩ := s.hid b hb
      exact ⟨n, u, by rw [upd_ne (ne_of_none e h)]; exact e, t⟩
  · obtain ⟨b, hb, kb⟩ := s.cell l c hl
    exact ⟨b, hb, kb.move (Kept.hide h) (upd_ne fun z => by subst z; exact s.freshc h (List.mem_of_getElem? hb))⟩
theorem SOk.show_ {a : Addr} (s : SOk G (φ.hide a) S H) : SOk G φ S H :=
  ⟨s.len, s.nd, fun b hb => s.hid b (List.mem_cons_of_mem _ hb), fun l c hl => let ⟨b, hb, kb⟩ := s.cell l c hl; ⟨b, hb, kb.move Kept.show_ rfl⟩, fun p hp => Kept.show_.tab _ _ (s.tab p hp)⟩
theorem SOk.hidden (s : SOk G φ S H) {a : Addr} {o : HO} (hm : a ∈ φ.h) (ho : NoTup o := by exact trivial) : SOk G φ S (upd H a o) := by
  refine ⟨s.len, s.nd, fun b hb => ?_, fun l c hl => ?_, fun p hp => (Kept.hidden hm).tab _ _ (s.tab p hp)⟩
  · obtain ⟨n, u, e, t⟩ := s.hid b hb
    by_cases q : b = a
    · subst q; exact ⟨n, o, upd_same, ho⟩
    · exact ⟨n, u, by rw [upd_ne q]; exact e, t⟩
  · obtain ⟨b, hb, kb⟩ := s.cell l c hl
    exact ⟨b, hb, kb.move (Kept.hidden hm) (upd_ne fun z => by subst z; exact (s.hid _ hm).1 (List.mem_of_getElem? hb))⟩
end
end DL
end
section
/-! D-layer, part 1: what expressions and statements give, the judgements. -/
namespace DL
open PySem L2
variable [DL.Nm]

structure Exc where
  cls : Str
  fld : Option (Str × D)

inductive ER where
  | ok (d : D) (S : Store)
  | ex (x : Exc) (S : Store)
  | bad
inductive LR where
  | ok (ds : List D) (S : Store)
  | ex (x : Exc) (S : Store)
  | bad
inductive SR where
  | nx (e : EnvD) (S : Store)
  | rt (d : D) (S : Store)
  | bk (e : EnvD) (S : Store)
  | ct (e : EnvD) (S : Store)
  | ex (x : Exc) (e : EnvD) (S : Store)
  | bad
abbrev EM := EnvD → Store → ER
abbrev LM := EnvD → Store → LR
abbrev SM := EnvD → Store → SR
abbrev FD := List D → Store → ER

def ER.bind (r : ER) (g : D → Store → ER) : ER := match r with
  | .ok d S => g d S
  | .ex x S => .ex x S
  | .bad => .bad
def ER.bindL (r : ER) (g : D → Store → LR) : LR := match r with
  | .ok d S => g d S
  | .ex x S => .ex x S
  | .bad => .bad
def LR.bind (r : LR) (g : List D → Store → LR) : LR := match r with
  | .ok d S => g d S
  | .ex x S => .ex x S
  | .bad => .bad
def LR.bindE (r : LR) (g : List D → Store → ER) : ER := match r with
  | .ok d S => g d S
  | .ex x S => .ex x S
  | .bad => .bad
def ER.bindS (r : ER) (e : EnvD) (g : D → Store → SR) : SR := match r with
  | .ok d S => g d S
  | .ex x S => .ex x e S
  | .bad => .bad
def LR.bindS (r : LR) (e : EnvD) (g : List D → Store → SR) : SR := match r with
  | .ok d S => g d S
  | .ex x S => .ex x e S
  | .bad => .bad
def SR.seq (r : SR) (g : EnvD → Store → SR) : SR := match r with
  | .nx e S => g e S
  | r => r

/-- an exception as it lies -/
def IsX (G : Glb) (φ : Fi) (H : Hp) (x : Exc) (cls : Value) (dx : Option Addr) : Prop :=
  ∃ C, G.ce x.cls = some C ∧ cls = .ref C ∧ match x.fld with
    | none => dx = none
    | some (f, d) => ∃ a v, dx = some a ∧ φ.out a ∧ H a = some (.xd [(f, v)]) ∧ Is G φ H d v
theorem IsX.ext {G : Glb} {φ φ' : Fi} {H H' : Hp} (e : Ext φ H φ' H') {x : Exc} {cls : Value} {dx : Option Addr} (h : IsX G φ H x cls dx) : IsX G φ' H' x cls dx := by
  obtain ⟨C, a, b, q⟩ := h
  refine ⟨C, a, b, ?_⟩
  cases hx : x.fld with
  | none => rw [hx] at q; exact q
  | some p =>
    rw [hx] at q
    obtain ⟨a', v, e1, n, e2, i⟩ := q
    exact ⟨a', v, e1, e.out n e2, e.keepE n.1 e2, i.ext e⟩

def RepE (G : Glb) (φ : Fi) (H : Hp) (σ : St) (env : EnvD) : Prop :=
  σ.length = env.length ∧ ∀ (i : Nat) (d : D), env[i]? = some (some d) → ∃ v, σ[i]? = some (some v) ∧ Is G φ H d v
theorem RepE.kept {G : Glb} {φ φ' : Fi} {H H' : Hp} {σ : St} {env : EnvD} (k : Kept φ H φ' H') (h : RepE G φ H σ env) : RepE G φ' H' σ env :=
  ⟨h.1, fun i d e => let ⟨v, a, b⟩ := h.2 i d e; ⟨v, a, b.kept k⟩⟩
theorem RepE.ext {G : Glb} {φ φ' : Fi} {H H' : Hp} {σ : St} {env : EnvD} (e : Ext φ H φ' H') (h : RepE G φ H σ env) : RepE G φ' H' σ env := h.kept e.kept
theorem RepE.set {G : Glb} {φ : Fi} {H : Hp} {σ : St} {env : EnvD} (h : RepE G φ H σ env) {d : D} {v : V} (k : Is G φ H d v) (i : Nat) : RepE G φ H (σ.set i (some v)) (env.set i (some d)) := by
  refine ⟨by simp [h.1], fun j d' e => ?_⟩
  by_cases q : i = j
  · subst q
    by_cases hl : i < env.length
    · rw [List.getElem?_set_self hl] at e
      cases e
      exact ⟨v, by rw [List.getElem?_set_self (by rw [h.1]; exact hl)], k⟩
    · rw [List.getElem?_eq_none (by simpa using hl)] at e; cases e
  · rw [List.getElem?_set_ne q] at e
    obtain ⟨w, a, b⟩ := h.2 j d' e
    exact ⟨w, by rw [List.getElem?_set_ne q]; exact a, b⟩
def wipeD (env : EnvD) : List Nat → EnvD
  | [] => env
  | v :: vs => (wipeD env vs).set v none
theorem RepE.wipe {G : Glb} {φ : Fi} {H : Hp} {σ : St} {env : EnvD} (h : RepE G φ H σ env) : ∀ vs : List Nat, RepE G φ H (wipe σ vs) (wipeD env vs)
  | [] => h
  | w :: vs => by
    have ih := RepE.wipe h vs
    refine ⟨by simp [L2.wipe, wipeD, ih.1], fun j d' e => ?_⟩
    unfold wipeD at e
    unfold L2.wipe
    by_cases q : w = j
    · subst q
      by_cases hl : w < (wipeD env vs).length
      · rw [List.getElem?_set_self hl] at e; cases e
      · rw [List.getElem?_eq_none (by simpa using hl)] at e; cases e
    · rw [List.getElem?_set_ne q] at e ⊢
      exact ih.2 j d' e

section
variable (G : Glb) (W : WX) (φ : Fi) (H : Hp) (σ : St)
def PostE (r : ER) (Q : VK) : Prop := match r with
  | .ok d S => ∀ φ' H' v, Ext φ H φ' H' → SOk G φ' S H' → Is G φ' H' d v → Q v H'
  | .ex x S => ∀ φ' H' cls dx, Ext φ H φ' H' → SOk G φ' S H' → IsX G φ' H' x cls dx → W cls dx σ H'
  | .bad => False
def PostL (r : LR) (Q : List V → Hp → Prop) : Prop := match r with
  | .ok d S => ∀ φ' H' v, Ext φ H φ' H' → SOk G φ' S H' → IsL G φ' H' d v → Q v H'
  | .ex x S => ∀ φ' H' cls dx, Ext φ H φ' H' → SOk G φ' S H' → IsX G φ' H' x cls dx → W cls dx σ H'
  | .bad => False
def PostS (r : SR) (N : Ends) : Prop := match r with
  | .nx e S => ∀ φ' H' σ', Ext φ H φ' H' → SOk G φ' S H' → RepE G φ' H' σ' e → N.nx σ' H'
  | .rt d S => ∀ φ' H' v, Ext φ H φ' H' → SOk G φ' S H' → Is G φ' H' d v → N.rt v H'
  | .bk e S => ∀ φ' H' σ', Ext φ H φ' H' → SOk G φ' S H' → RepE G φ' H' σ' e → N.bk σ' H'
  | .ct e S => ∀ φ' H' σ', Ext φ H φ' H' → SOk G φ' S H' → RepE G φ' H' σ' e → N.ct σ' H'
  | .ex x e S => ∀ φ' H' σ' cls dx, Ext φ H φ' H' → SOk G φ' S H' → RepE G φ' H' σ' e → IsX G φ' H' x cls dx → W cls dx σ' H'
  | .bad => False
end

section
variable {G : Glb} {W : WX} {φ φ' : Fi} {H H' : Hp} {σ : St}
theorem PostE.ext (e : Ext φ H φ' H') {r : ER} {Q : VK} (h : PostE G W φ H σ r Q) : PostE G W φ' H' σ r Q := by
  cases r with
  | ok d S => exact fun φ2 H2 v e2 s i => h φ2 H2 v (e.trans e2) s i
  | ex x S => exact fun φ2 H2 c d e2 s i => h φ2 H2 c d (e.trans e2) s i
  | bad => exact h
theorem PostL.ext (e : Ext φ H φ' H') {r : LR} {Q : List V → Hp → Prop} (h : PostL G W φ H σ r Q) : PostL G W φ' H' σ r Q := by
  cases r with
  | ok d S => exact fun φ2 H2 v e2 s i => h φ2 H2 v (e.trans e2) s i
  | ex x S => exact fun φ2 H2 c d e2 s i => h φ2 H2 c d (e.trans e2) s i
  | bad => exact h
theorem PostS.ext (e : Ext φ H φ' H') {r : SR} {N : Ends} (h : PostS G W φ H r N) : PostS G W φ' H' r N := by
  cases r with
  | nx d S => exact fun φ2 H2 v e2 s i => h φ2 H2 v (e.trans e2) s i
  | rt d S => exact fun φ2 H2 v e2 s i => h φ2 H2 v (e.trans e2) s i
  | bk d S => exact fun φ2 H2 v e2 s i => h φ2 H2 v (e.trans e2) s i
  | ct d S => exact fun φ2 H2 v e2 s i => h φ2 H2 v (e.trans e2) s i
  | ex x d S => exact fun φ2 H2 v c dx e2 s i => h φ2 H2 v c dx (e.trans e2) s i
  | bad => exact h
/-- the ways on -/
theorem PostE.bind {r : ER} {g : D → Store → ER} {Q Q' : VK} (h : PostE G W φ H σ (r.bind g) Q)
    (k : ∀ d S φ' H' v, Ext φ H φ' H' → SOk G φ' S H' → Is G φ' H' d v → PostE G W φ' H' σ (g d S) Q → Q' v H') : PostE G W φ H σ r Q' := by
  cases r with
  | ok d S => exact fun φ2 H2 v e s i => k d S φ2 H2 v e s i (PostE.ext (r := g d S) e h)
  | ex x S => exact h
  | bad => exact h
theorem PostE.bindL {r : ER} {g : D → Store → LR} {Q : List V → Hp → Prop} {Q' : VK} (h : PostL G W φ H σ (r.bindL g) Q)
    (k : ∀ d S φ' H' v, Ext φ H φ' H' → SOk G φ' S H' → Is G φ' H' d v → PostL G W φ' H' σ (g d S) Q → Q' v H') : PostE G W φ H σ r Q' := by
  cases r with
  | ok d S => exact fun φ2 H2 v e s i => k d S φ2 H2 v e s i (PostL.ext (r := g d S) e h)
  | ex x S => exact h
  | bad => exact h
theorem PostL.bind {r : LR} {g : List D → Store → LR} {Q Q' : List V → Hp → Prop} (h : PostL G W φ H σ (r.bind g) Q)
    (k : ∀ d S φ' H' v, Ext φ H φ' H' → SOk G φ' S H' → IsL G φ' H' d v → PostL G W φ' H' σ (g d S) Q → Q' v H') : PostL G W φ H σ r Q' := by
  cases r with
  | ok d S => exact fun φ2 H2 v e s i => k d S φ2 H2 v e s i (PostL.ext (r := g d S) e h)
  | ex x S => exact h
  | bad => exact h
theorem PostL.bindE {r : LR} {g : List D → Store → ER} {Q : VK} {Q' : List V → Hp → Prop} (h : PostE G W φ H σ (r.bindE g) Q)
    (k : ∀ d S φ' H' v, Ext φ H φ' H' → SOk G φ' S H' → IsL G φ' H' d v → PostE G W φ' H' σ (g d S) Q → Q' v H') : PostL G W φ H σ r Q' := by
  cases r with
  | ok d S => exact fun φ2 H2 v e s i => k d S φ2 H2 v e s i (PostE.ext (r := g d S) e h)
  | ex x S => exact h
  | bad => exact h
theorem PostE.bindS {r : ER} {env : EnvD} (re : RepE G φ H σ env) {g : D → Store → SR} {N : Ends} {Q' : VK} (h : PostS G W φ H (r.bindS env g) N)
    (k : ∀ d S φ' H' v, Ext φ H φ' H' → SOk G φ' S H' → Is G φ' H' d v → PostS G W φ' H' (g d S) N → Q' v H') : PostE G W φ H σ r Q' := by
  cases r with
  | ok d S => exact fun φ2 H2 v e s i => k d S φ2 H2 v e s i (PostS.ext (r := g d S) e h)
  | ex x S => exact fun φ2 H2 c d e s i => h φ2 H2 σ c d e s (re.ext e) i
  | bad => exact h
theorem PostL.bindS {r : LR} {env : EnvD} (re : RepE G φ H σ env) {g : List D → Store → SR} {N : Ends} {Q' : List V → Hp → Prop} (h : PostS G W φ H (r.bindS env g) N)
    (k : ∀ d S φ' H' v, Ext φ H φ' H' → SOk G φ' S H' → IsL G φ' H' d v → PostS G W φ' H' (g d S) N → Q' v H') : PostL G W φ H σ r Q' := by
  cases r with
  | ok d S => exact fun φ2 H2 v e s i => k d S φ2 H2 v e s i (PostS.ext (r := g d S) e h)
  | ex x S => exact fun φ2 H2 c d e s i => h φ2 H2 σ c d e s (re.ext e) i
  | bad => exact h
theorem PostE.now {d : D} {S : Store} {v : V} {Q : VK} (h : PostE G W φ H σ (.ok d S) Q) (s : SOk G φ S H) (i : Is G φ H d v) : Q v H := h φ H v .refl s i
theorem PostL.now {d : List D} {S : Store} {v : List V} {Q : List V → Hp → Prop} (h : PostL G W φ H σ (.ok d S) Q) (s : SOk G φ S H) (i : IsL G φ H d v) : Q v H := h φ H v .refl s i
end

/-! ### the judgements -/
def DE (G : Glb) (X : Cx) (W : WX) (e : Expr) (f : EM) : Prop :=
  ∃ t, PE X e t ∧ ∀ σ H env φ S Q, SOk G φ S H → RepE G φ H σ env → PostE G W φ H σ (f env S) Q → t σ H Q
/-- a test -/
def PostT (G : Glb) (W : WX) (φ : Fi) (H : Hp) (σ : St) (r : ER) (Q : Bool → Hp → Prop) : Prop := PostE G W φ H σ (r.bind fun d S => match d with | .bl b => .ok (.bl b) S | _ => .bad) (fun v H' => ∀ b, v = .bl b → Q b H')
def DT (G : Glb) (X : Cx) (W : WX) (e : Expr) (f : EM) : Prop :=
  ∃ t, PT X e t ∧ ∀ σ H env φ S Q, SOk G φ S H → RepE G φ H σ env → PostT G W φ H σ (f env S) Q → t σ H Q
def DW (G : Glb) (X : Cx) (W : WX) (e : Expr) (f : EM) : Prop :=
  ∃ t, PW X e t ∧ ∀ σ H env φ S Q, SOk G φ S H → RepE G φ H σ env → PostT G W φ H σ (f env S) Q → t σ H Q
def DA (G : Glb) (X : Cx) (W : WX) (es : List Expr) (f : LM) : Prop :=
  ∃ t, PA X es t ∧ ∀ σ H env φ S Q, SOk G φ S H → RepE G φ H σ env → PostL G W φ H σ (f env S) Q → t σ H Q
def DS (G : Glb) (X : Cx) (W : WX) (st : Stmt) (f : SM) : Prop :=
  ∃ t, PS X st t ∧ ∀ σ H env φ S N, SOk G φ S H → RepE G φ H σ env → PostS G W φ H (f env S) N → t N σ H
def DSs (G : Glb) (X : Cx) (W : WX) (st : List Stmt) (f : SM) : Prop :=
  ∃ t, PSs X st t ∧ ∀ σ H env φ S N, SOk G φ S H → RepE G φ H σ env → PostS G W φ H (f env S) N → t N σ H
/-- alike but at some slots -/
def Off (vs : List Nat) (σ σ' : St) : Prop := σ'.length = σ.length ∧ ∀ j, j ∉ vs → σ'[j]? = σ[j]?
/-- a target; vs: the slots that it binds -/
def DG (G : Glb) (X : Cx) (tg : Expr) (b : D → EnvD → Option EnvD) (vs : List Nat) : Prop :=
  ∃ g, PG X tg g ∧ ∀ v d σ H env env' φ Q, Is G φ H d v → RepE G φ H σ env → b d env = some env' → (∀ σ', RepE G φ H σ' env' → Off vs σ σ' → Q σ' H) → g v σ H Q
def DGs (G : Glb) (X : Cx) (tgs : List Expr) (b : List D → EnvD → Option EnvD) (vs : List Nat) : Prop :=
  ∃ g, PGs X tgs g ∧ ∀ v d σ H env env' φ Q, IsL G φ H d v → RepE G φ H σ env → b d env = some env' → (∀ σ', RepE G φ H σ' env' → Off vs σ σ' → Q σ' H) → g v σ H Q

section
variable {G : Glb} {X : Cx} {W : WX}

/-! ### names and constants -/
def eVar (i : Nat) : EM := fun env S => match env[i]? with
  | some (some d) => .ok d S
  | _ => .bad
def eC (d : D) : EM := fun _ S => .ok d S
theorem de_var (i : Nat) {x : Str} {pos : Pos} (hN : X.N[i]? = some x := by rfl) (hv : Vis X.env.scope x := by first | exact Or.inl rfl | exact Or.inr (Or.inl rfl) | exact Or.inr (Or.inr rfl)) (hd : (x == ("__debug__" : Str)) = false := by decide)
    (hcd : (x == ("__classdict__" : Str)) = false := by decide) : DE G X W (.Name x pos) (eVar i) :=
  ⟨_, pe_var hN hv hd hcd, fun σ H env φ S Q s r h => by
    unfold eVar at h
    cases e : env[i]? with
    | none => rw [e] at h; exact h.elim
    | some o =>
      cases o with
      | none => rw [e] at h; exact h.elim
      | some d =>
        rw [e] at h
        obtain ⟨v, hv, k⟩ := r.2 i d e
        exact ⟨v, hv, h.now s k⟩⟩
theorem de_int {i : Int} {j pos} : DE G X W (.Constant (.int i) j pos) (eC (.int i)) := ⟨_, pe_int, fun _ _ _ _ _ _ s _ h => h.now s rfl⟩
theorem de_bl {i : Bool} {j pos} : DE G X W (.Constant (.bool i) j pos) (eC (.bl i)) := ⟨_, pe_bl, fun _ _ _ _ _ _ s _ h => h.now s rfl⟩
theorem de_non {j pos} : DE G X W (.Constant .none j pos) (eC .non) := ⟨_, pe_non, fun _ _ _ _ _ _ s _ h => h.now s rfl⟩
theorem de_str {x : Str} {j pos} : DE G X W (.Constant (.str x) j pos) (eC (.str x)) := ⟨_, pe_str, fun _ _ _ _ _ _ s _ h => h.now s rfl⟩
/-- a constant of the module: a number, a text, a truth, a tuple or list of such -/
theorem de_glob {x : Str} {d : D} {v : V} {u : Value} {pos : Pos} (hg : Gl X x) (hm : X.mg x = some u) (r : RelV v u) (hi : ∀ φ H, Is G φ H d v) (hd : (x == ("__debug__" : Str)) = false := by decide) : DE G X W (.Name x pos) (eC d) :=
  ⟨_, pe_glob hg hm r hd, fun _ _ _ _ _ _ s _ h => h.now s (hi _ _)⟩

/-! ### arguments -/
def lNil : LM := fun _ S => .ok [] S
def lCons (f : EM) (g : LM) : LM := fun env S => (f env S).bindL fun d S => (g env S).bind fun ds S => .ok (d :: ds) S
theorem da_nil : DA G X W [] lNil := ⟨_, pa_nil, fun _ _ _ _ _ _ s _ h => h.now s rfl⟩
theorem da_cons {e : Expr} {es : List Expr} {f : EM} {g : LM} (ha : DE G X W e f) (hb : DA G X W es g) (hs : starEach (e :: es) X.env = (false, eval e X.env) :: starEach es X.env := by rfl) : DA G X W (e :: es) (lCons f g) := by
  obtain ⟨ta, pa, qa⟩ := ha
  obtain ⟨tb, pb, qb⟩ := hb
  refine ⟨_, pa_cons pa pb hs, fun σ H env φ S Q s r h => ?_⟩
  refine qa σ H env φ S _ s r (PostE.bindL h fun d S1 φ1 H1 v e1 s1 i1 h1 => ?_)
  refine qb σ H1 env φ1 S1 _ s1 (r.ext e1) (PostL.bind h1 fun ds S2 φ2 H2 vs e2 s2 i2 h2 => ?_)
  exact h2.now s2 (.cons (i1.ext e2) i2)

/-! ### operators -/
/-- an operator by values -/
def DOp (G : Glb) (X : Cx) (f : Value → Value → Sem Value) (g : D → D → Store → ER) : Prop :=
  ∃ r, OpR X f r ∧ ∀ W φ S H σ dx dy x y Q, SOk G φ S H → Is G φ H dx x → Is G φ H dy y → PostE G W φ H σ (g dx dy S) Q → r x y H Q
def eOp (g : D → D → Store → ER) (a b : EM) : EM := fun env S => (a env S).bind fun x S => (b env S).bind fun y S => g x y S
theorem op_of {t ta tb : TE} {r : R2} {g : D → D → Store → ER} {fa fb : EM} (ha : ∀ σ H env φ S Q, SOk G φ S H → RepE G φ H σ env → PostE G W φ H σ (fa env S) Q → ta σ H Q)
    (hb : ∀ σ H env φ S Q, SOk G φ S H → RepE G φ H σ env → PostE G W φ H σ (fb env S) Q → tb σ H Q)
    (hr : ∀ W φ S H σ dx dy x y Q, SOk G φ S H → Is G φ H dx x → Is G φ H dy y → PostE G W φ H σ (g dx dy S) Q → r x y H Q) :
    ∀ σ H env φ S Q, SOk G φ S H → RepE G φ H σ env → PostE G W φ H σ (eOp g fa fb env S) Q → tOp r ta tb σ H Q := fun σ H env φ S Q s re h => by
  refine ha σ H env φ S _ s re (PostE.bind h fun d S1 φ1 H1 v e1 s1 i1 h1 => ?_)
  refine hb σ H1 env φ1 S1 _ s1 (re.ext e1) (PostE.bind h1 fun d2 S2 φ2 H2 v2 e2 s2 i2 h2 => ?_)
  exact hr W φ2 S2 H2 σ d d2 v v2 Q s2 (i1.ext e2) i2 h2
theorem de_op {op : Operator} {a b : Expr} {pos : Pos} {g : D → D → Store → ER} {fa fb : EM} (ho : DOp G X (binaryOp op) g) (ha : DE G X W a fa) (hb : DE G X W b fb) : DE G X W (.BinOp a op b pos) (eOp g fa fb) := by
  obtain ⟨r, hr, q⟩ := ho
  obtain ⟨ta, pa, qa⟩ := ha
  obtain ⟨tb, pb, qb⟩ := hb
  exact ⟨_, pe_op hr pa pb, op_of (t := ta) qa qb q⟩
theorem de_cmp {op : CmpOp} {a b : Expr} {pos : Pos} {g : D → D → Store → ER} {fa fb : EM} (ho : DOp G X (compareOp op) g) (ha : DE G X W a fa) (hb : DE G X W b fb) (hm : behindInMarks op b = false := by first | exact nomark _ | rfl) : DE G X W (.Compare a [op] [b] pos) (eOp g fa fb) := by
  obtain ⟨r, hr, q⟩ := ho
  obtain ⟨ta, pa, qa⟩ := ha
  obtain ⟨tb, pb, qb⟩ := hb
  exact ⟨_, pe_cmpR hr pa pb hm, op_of (t := ta) qa qb q⟩
theorem PostT.of {r : ER} {φ : Fi} {H : Hp} {σ : St} {Q : Bool → Hp → Prop} (h : PostT G W φ H σ r Q) : PostE G W φ H σ r fun x H' => ∃ k, x = .bl k ∧ Q k H' := by
  unfold PostT at h
  refine PostE.bind h fun d S φ' H' v e s i k => ?_
  cases d with
  | bl b =>
    have q := k.now s (show Is G φ' H' (.bl b) (.bl b) from rfl)
    exact ⟨b, i, q b rfl⟩
  | _ => exact False.elim k
theorem dt_cmp {op : CmpOp} {a b : Expr} {pos : Pos} {g : D → D → Store → ER} {fa fb : EM} (ho : DOp G X (compareOp op) g) (ha : DE G X W a fa) (hb : DE G X W b fb) (hm : behindInMarks op b = false := by first | exact nomark _ | rfl) : DT G X W (.Compare a [op] [b] pos) (eOp g fa fb) := by
  obtain ⟨r, hr, q⟩ := ho
  obtain ⟨ta, pa, qa⟩ := ha
  obtain ⟨tb, pb, qb⟩ := hb
  exact ⟨_, pt_cmpR hr pa pb hm, fun σ H env φ S Q s re h => op_of (t := ta) qa qb q σ H env φ S _ s re h.of⟩
/-- any expression that gives a truth, as a test -/
theorem dt_val {e : Expr} {f : EM} (h : DE G X W e f) (he : ∀ whole, isTrue e X.env whole = (do let v ← whole; standAt e.pos; holding [v] (truthy v)) := by intro _; rfl) : DT G X W e f := by
  obtain ⟨t, p, q⟩ := h
  refine ⟨_, pt_val p he, fun σ H env φ S Q s re hq => ?_⟩
  exact q σ H env φ S _ s re hq.of
theorem IsL.empty {φ : Fi} {H : Hp} {ds : List D} {xs : List V} (h : IsL G φ H ds xs) : (!ds.isEmpty) = !xs.isEmpty := by
  cases ds with
  | nil => cases (show xs = [] from h); rfl
  | cons d ds => obtain ⟨x, r, rfl, _⟩ := h; rfl
/-! ### and, or, not, if else -/
def eAnd (a b : EM) : EM := fun env S => (a env S).bind fun d S => match d with | .bl true => b env S | .bl false => .ok (.bl false) S | _ => .bad
def eOr (a b : EM) : EM := fun env S => (a env S).bind fun d S => match d with | .bl true => .ok (.bl true) S | .bl false => b env S | _ => .bad
def eNot (a : EM) : EM := fun env S => (a env S).bind fun d S => match d with | .bl b => .ok (.bl (!b)) S | _ => .bad
def eIf (c a b : EM) : EM := fun env S => (c env S).bind fun d S => match d with | .bl true => a env S | .bl false => b env S | _ => .bad
theorem de_one {op : BoolOp} {a : Expr} {pos : Pos} {f : EM} (h : DE G X W a f) : DE G X W (.BoolOp op [a] pos) f := let ⟨_, p, q⟩ := h; ⟨_, pe_one p, q⟩
theorem de_and {a b : Expr} {rest : List Expr} {pos : Pos} {fa fb : EM} (ha : DE G X W a fa) (hb : DE G X W (.BoolOp .And (b :: rest) pos) fb) : DE G X W (.BoolOp .And (a :: b :: rest) pos) (eAnd fa fb) := by
  obtain ⟨ta, pa, qa⟩ := ha
  obtain ⟨tb, pb, qb⟩ := hb
  refine ⟨_, pe_and pa pb, fun σ H env φ S Q s re h => ?_⟩
  refine qa σ H env φ S _ s re (PostE.bind h fun d S1 φ1 H1 v e1 s1 i1 h1 => ?_)
  cases d with
  | bl k =>
    refine ⟨k, i1, ?_⟩
    cases k with
    | true => exact iteT (qb σ H1 env φ1 S1 _ s1 (re.ext e1) h1)
    | false => exact iteF (h1.now s1 rfl)
  | _ => exact False.elim h1
theorem PostT.bind {r : ER} {g : D → Store → ER} {φ : Fi} {H : Hp} {σ : St} {Q Q' : Bool → Hp → Prop} (h : PostT G W φ H σ (r.bind g) Q)
    (k : ∀ b S φ' H', Ext φ H φ' H' → SOk G φ' S H' → PostT G W φ' H' σ (g (.bl b) S) Q → Q' b H') (nb : ∀ d S, (∀ b, d ≠ .bl b) → g d S = .bad) : PostT G W φ H σ r Q' := by
  cases r with
  | ok d S =>
    cases d with
    | bl b =>
      intro φ2 H2 v e s i b' eb
      cases (show v = .bl b from i)
      cases eb
      exact k b S φ2 H2 e s (PostE.ext e h)
    | _ =>
      have z : PostT G W φ H σ (g _ S) Q := h
      rw [nb _ _ (fun b q => by cases q)] at z
      exact False.elim z
  | ex x S => exact h
  | bad => exact h
theorem PostT.now {b : Bool} {S : Store} {φ : Fi} {H : Hp} {σ : St} {Q : Bool → Hp → Prop} (h : PostT G W φ H σ (.ok (.bl b) S) Q) (s : SOk G φ S H) : Q b H := h φ H (.bl b) .refl s rfl b rfl
theorem dt_not {a : Expr} {pos : Pos} {fa : EM} (ha : DT G X W a fa) : DT G X W (.UnaryOp .Not a pos) (eNot fa) := by
  obtain ⟨ta, pa, qa⟩ := ha
  refine ⟨_, pt_not pa, fun σ H env φ S Q s re h => ?_⟩
  refine qa σ H env φ S _ s re (PostT.bind h (fun b S1 φ1 H1 e1 s1 h1 => PostT.now h1 s1) fun d S q => ?_)
  cases d with
  | bl b => exact absurd rfl (q b)
  | _ => rfl
theorem dw_and1 {a : Expr} {pos : Pos} {f : EM} (h : DT G X W a f) : DW G X W (.BoolOp .And [a] pos) f := let ⟨_, p, q⟩ := h; ⟨_, pw_and1 p, q⟩
theorem dw_or1 {a : Expr} {pos : Pos} {f : EM} (h : DT G X W a f) : DW G X W (.BoolOp .Or [a] pos) f := let ⟨_, p, q⟩ := h; ⟨_, pw_or1 p, q⟩
theorem dw_and {a b : Expr} {rest : List Expr} {pos : Pos} {fa fb : EM} (ha : DT G X W a fa) (hb : DW G X W (.BoolOp .And (b :: rest) pos) fb) : DW G X W (.BoolOp .And (a :: b :: rest) pos) (eAnd fa fb) := by
  obtain ⟨ta, pa, qa⟩ := ha
  obtain ⟨tb, pb, qb⟩ := hb
  refine ⟨_, pw_and pa pb, fun σ H env φ S Q s re h => ?_⟩
  refine qa σ H env φ S _ s re (PostT.bind h (fun b S1 φ1 H1 e1 s1 h1 => ?_) fun d S q => ?_)
  · cases b with
    | true => exact iteT (qb σ H1 env φ1 S1 _ s1 (re.ext e1) h1)
    | false => exact iteF (h1.now s1)
  · cases d with
    | bl b => exact absurd rfl (q b)
    | _ => rfl
theorem dw_or {a b : Expr} {rest : List Expr} {pos : Pos} {fa fb : EM} (ha : DT G X W a fa) (hb : DW G X W (.BoolOp .Or (b :: rest) pos) fb) : DW G X W (.BoolOp .Or (a :: b :: rest) pos) (eOr fa fb) := by
  obtain ⟨ta, pa, qa⟩ := ha
  obtain ⟨tb, pb, qb⟩ := hb
  refine ⟨_, pw_or pa pb, fun σ H env φ S Q s re h => ?_⟩
  refine qa σ H env φ S _ s re (PostT.bind h (fun b S1 φ1 H1 e1 s1 h1 => ?_) fun d S q => ?_)
  · cases b with
    | true => exact iteT (h1.now s1)
    | false => exact iteF (qb σ H1 env φ1 S1 _ s1 (re.ext e1) h1)
  · cases d with
    | bl b => exact absurd rfl (q b)
    | _ => rfl
theorem DW.t {e : Expr} {f : EM} (h : DW G X W e f) : DT G X W e f := let ⟨_, p, q⟩ := h; ⟨_, p.pt, q⟩
theorem de_if {c a b : Expr} {pos : Pos} {fc fa fb : EM} (hc : DT G X W c fc) (ha : DE G X W a fa) (hb : DE G X W b fb) : DE G X W (.IfExp c a b pos) (eIf fc fa fb) := by
  obtain ⟨tc, pc, qc⟩ := hc
  obtain ⟨ta, pa, qa⟩ := ha
  obtain ⟨tb, pb, qb⟩ := hb
  refine ⟨_, pe_ifExp pc pa pb, fun σ H env φ S Q s re h => ?_⟩
  unfold eIf at h
  refine qc σ H env φ S _ s re ?_
  cases hr : fc env S with
  | ok d S1 =>
    rw [hr] at h
    cases d with
    | bl k =>
      intro φ1 H1 v e s1 i b eb
      cases (show v = .bl k from i)
      cases eb
      cases k with
      | true => exact iteT (qa σ H1 env φ1 S1 _ s1 (re.ext e) (PostE.ext e h))
      | false => exact iteF (qb σ H1 env φ1 S1 _ s1 (re.ext e) (PostE.ext e h))
    | _ => exact False.elim h
  | ex x S1 => rw [hr] at h; exact h
  | bad => rw [hr] at h; exact h

/-! ### tuples and lists -/
/-- a length that may be; how it is decided stays shut (the kernel would count) -/
def sz (n : Nat) : Prop := n ≤ 16777216
noncomputable instance {n : Nat} : Decidable (sz n) := Classical.propDecidable _
noncomputable def eTup (f : LM) : EM := fun env S => (f env S).bindE fun ds S => if sz ds.length then .ok (.tup ds) S else .bad
noncomputable def eLst (f : LM) : EM := fun env S => (f env S).bindE fun ds S => if sz ds.length then .ok (.lst ds) S else .bad
/-- a list that is kept as a cell -/
noncomputable def eLstM (f : LM) : EM := fun env S => (f env S).bindE fun ds S => if sz ds.length then .ok (.loc S.length) (S ++ [.lst ds]) else .bad
theorem tup_new {φ : Fi} {H : Hp} {S : Store} {σ : St} {ds : List D} {xs : List V} {Q : VK} (s : SOk G φ S H) (i : IsL G φ H ds xs) (h : PostE G W φ H σ (.ok (.tup ds) S) Q) {p : Addr} (hp : H p = none) : Q (.ref p) (upd H p (.tup xs)) :=
  h φ _ _ (.laid hp) (s.laid hp) ⟨p, xs, rfl, .inl ⟨s.fresh hp, .inl upd_same⟩, i.ext (.laid hp)⟩
theorem lst_new {φ : Fi} {H : Hp} {S : Store} {σ : St} {ds : List D} {xs : List V} {Q : VK} (s : SOk G φ S H) (i : IsL G φ H ds xs) (h : PostE G W φ H σ (.ok (.lst ds) S) Q) {p : Addr} (hp : H p = none) : Q (.ref p) (upd H p (.lst xs)) :=
  h φ _ _ (.laid hp) (s.laid hp) ⟨p, xs, rfl, .inl ⟨s.fresh hp, .inl upd_same⟩, i.ext (.laid hp)⟩
theorem lst_newM {φ : Fi} {H : Hp} {S : Store} {σ : St} {ds : List D} {xs : List V} {Q : VK} (s : SOk G φ S H) (i : IsL G φ H ds xs) (h : PostE G W φ H σ (.ok (.loc S.length) (S ++ [.lst ds])) Q) {p : Addr} (hp : H p = none) : Q (.ref p) (upd H p (.lst xs)) :=
  h (φ.add p) _ _ (.newCell s hp) (s.newCell hp ⟨xs, upd_same, i.ext (.newCell s hp)⟩) ⟨p, by rw [← s.len]; simp [Fi.add], rfl⟩
theorem sizeLine_is {n : Nat} (h : n ≤ 16777216) : n ≤ sizeLine := by rw [sizeLine_eq]; exact h
theorem de_tup {es : List Expr} {x1} {pos : Pos} {f : LM} (h : DA G X W es f) : DE G X W (.Tuple es x1 pos) (eTup f) := by
  obtain ⟨t, p, q⟩ := h
  refine ⟨_, pe_tup p, fun σ H env φ S Q s re hq => ?_⟩
  refine q σ H env φ S _ s re (PostL.bindE hq fun ds S1 φ1 H1 xs e1 s1 i1 h1 => ?_)
  by_cases hl : sz ds.length
  · rw [if_pos hl] at h1
    exact ⟨by rw [← i1.length]; exact sizeLine_is hl, fun p hp => tup_new s1 i1 h1 hp⟩
  · rw [if_neg hl] at h1; exact h1.elim
theorem de_lst {es : List Expr} {pos : Pos} {f : LM} (h : DA G X W es f) : DE G X W (.List es pos) (eLst f) := by
  obtain ⟨t, p, q⟩ := h
  refine ⟨_, pe_lst p, fun σ H env φ S Q s re hq => ?_⟩
  refine q σ H env φ S _ s re (PostL.bindE hq fun ds S1 φ1 H1 xs e1 s1 i1 h1 => ?_)
  by_cases hl : sz ds.length
  · rw [if_pos hl] at h1
    exact ⟨by rw [← i1.length]; exact sizeLine_is hl, fun p hp => lst_new s1 i1 h1 hp⟩
  · rw [if_neg hl] at h1; exact h1.elim
theorem de_lstM {es : List Expr} {pos : Pos} {f : LM} (h : DA G X W es f) : DE G X W (.List es pos) (eLstM f) := by
  obtain ⟨t, p, q⟩ := h
  refine ⟨_, pe_lst p, fun σ H env φ S Q s re hq => ?_⟩
  refine q σ H env φ S _ s re (PostL.bindE hq fun ds S1 φ1 H1 xs e1 s1 i1 h1 => ?_)
  by_cases hl : sz ds.length
  · rw [if_pos hl] at h1
    exact ⟨by rw [← i1.length]; exact sizeLine_is hl, fun p hp => lst_newM s1 i1 h1 hp⟩
  · rw [if_neg hl] at h1; exact h1.elim

/-! ### statements -/
def sSkip : SM := fun e S => .nx e S
def sSeq (a b : SM) : SM := fun e S => (a e S).seq b
theorem dss_nil : DSs G X W [] sSkip := ⟨_, pss_nil, fun σ H env φ S N s re h => h φ H σ .refl s re⟩
theorem dss_cons {st : Stmt} {rest : List Stmt} {f g : SM} (ha : DS G X W st f) (hb : DSs G X W rest g) : DSs G X W (st :: rest) (sSeq f g) := by
  obtain ⟨t, p, q⟩ := ha
  obtain ⟨u, p', q'⟩ := hb
  refine ⟨_, pss_cons p p', fun σ H env φ S N s re h => ?_⟩
  refine q σ H env φ S _ s re ?_
  unfold sSeq at h
  cases hr : f env S with
  | nx e S1 =>
    rw [hr] at h
    exact fun φ1 H1 σ1 e1 s1 r1 => q' σ1 H1 e φ1 S1 _ s1 r1 (PostS.ext e1 h)
  | rt d S1 => rw [hr] at h; exact h
  | bk d S1 => rw [hr] at h; exact h
  | ct d S1 => rw [hr] at h; exact h
  | ex x d S1 => rw [hr] at h; exact h
  | bad => rw [hr] at h; exact h
theorem dss_one {st : Stmt} {f : SM} (ha : DS G X W st f) : DSs G X W [st] f := let ⟨_, p, q⟩ := ha; ⟨_, pss_one p, q⟩
def sBk : SM := fun e S => .bk e S
def sCt : SM := fun e S => .ct e S
def sRet (f : EM) : SM := fun e S => (f e S).bindS e fun d S => .rt d S
def sRetN : SM := fun e S => .rt .non S
def sDrop (f : EM) : SM := fun e S => (f e S).bindS e fun _ S => .nx e S
theorem ds_ret {e : Expr} {pos : Pos} {f : EM} (h : DE G X W e f) : DS G X W (.Return (some e) pos) (sRet f) := by
  obtain ⟨t, p, q⟩ := h
  refine ⟨_, ps_ret p, fun σ H env φ S N s re h => ?_⟩
  exact q σ H env φ S _ s re (PostE.bindS re h fun d S1 φ1 H1 v e1 s1 i1 h1 => h1 φ1 H1 v .refl s1 i1)
theorem ds_expr {e : Expr} {pos : Pos} {f : EM} (h : DE G X W e f) (hs : swapsWith e none pos.line X.env = pure false := by rfl) : DS G X W (.Expr e pos) (sDrop f) := by
  obtain ⟨t, p, q⟩ := h
  refine ⟨_, ps_expr p hs, fun σ H env φ S N s re h => ?_⟩
  exact q σ H env φ S _ s re (PostE.bindS re h fun d S1 φ1 H1 v e1 s1 i1 h1 => h1 φ1 H1 σ .refl s1 (re.ext e1))
def sIf (c : EM) (a b : SM) : SM := fun e S => (c e S).bindS e fun d S => match d with | .bl true => a e S | .bl false => b e S | _ => .bad
theorem ds_if {c : Expr} {a b : List Stmt} {pos : Pos} {fc : EM} {fa fb : SM} (hc : DT G X W c fc) (ha : DSs G X W a fa) (hb : DSs G X W b fb) : DS G X W (.If c a b pos) (sIf fc fa fb) := by
  obtain ⟨tc, pc, qc⟩ := hc
  obtain ⟨ta, pa, qa⟩ := ha
  obtain ⟨tb, pb, qb⟩ := hb
  refine ⟨_, ps_if pc pa pb, fun σ H env φ S N s re h => ?_⟩
  unfold sIf at h
  refine qc σ H env φ S _ s re ?_
  cases hr : fc env S with
  | ok d S1 =>
    rw [hr] at h
    cases d with
    | bl k =>
      intro φ1 H1 v e s1 i b eb
      cases (show v = .bl k from i)
      cases eb
      cases k with
      | true => exact iteT (qa σ H1 env φ1 S1 _ s1 (re.ext e) (PostS.ext e h))
      | false => exact iteF (qb σ H1 env φ1 S1 _ s1 (re.ext e) (PostS.ext e h))
    | _ => exact False.elim h
  | ex x S1 =>
    rw [hr] at h
    exact fun φ2 H2 c d e s i => h φ2 H2 σ c d e s (re.ext e) i
  | bad => rw [hr] at h; exact h

/-! ### targets, assignments -/
def bName (i : Nat) : D → EnvD → Option EnvD := fun d env => some (env.set i (some d))
theorem dg_name {i : Nat} {x : Str} {pos : Pos} (hN : X.N.Nodup) (hi : X.N[i]? = some x) (hx : Loc X.env.scope x) (hf : X.fn x = true ∨ X.env.scope.names.lookup x = some .local := by first | exact .inl rfl | exact .inr rfl) : DG G X (.Name x pos) (bName i) [i] :=
  ⟨_, pg_name hN hi hx hf, fun v d σ H env env' φ Q i1 r e k => by
    cases e
    refine k _ (r.set i1 i) ⟨by simp, fun j hj => ?_⟩
    rw [List.getElem?_set_ne (fun z => hj (by simp [z]))]⟩
def bNil : List D → EnvD → Option EnvD := fun ds env => match ds with | [] => some env | _ => none
def bCons (b : D → EnvD → Option EnvD) (c : List D → EnvD → Option EnvD) : List D → EnvD → Option EnvD := fun ds env => match ds with | [] => none | d :: ds => (b d env).bind (c ds)
def bTup (b : List D → EnvD → Option EnvD) : D → EnvD → Option EnvD := fun d env => match d with | .tup ds => b ds env | _ => none
theorem dgs_nil : DGs G X [] bNil [] := ⟨_, pgs_nil, fun v d σ H env env' φ Q i1 r e k => by
  cases d with
  | nil =>
    cases (show v = [] from i1)
    cases e
    exact ⟨rfl, k σ r ⟨rfl, fun _ _ => rfl⟩⟩
  | cons _ _ => cases e⟩
theorem dgs_cons {e : Expr} {es : List Expr} {b : D → EnvD → Option EnvD} {c : List D → EnvD → Option EnvD} {vs ws : List Nat} (h1 : DG G X e b vs) (h2 : DGs G X es c ws) (hs : List.map (fun x => x.snd) (assignEach (e :: es) X.env) = assign e X.env :: List.map (fun x => x.snd) (assignEach es X.env) := by rfl) : DGs G X (e :: es) (bCons b c) (vs ++ ws) := by
  obtain ⟨g, p, q⟩ := h1
  obtain ⟨g', p', q'⟩ := h2
  refine ⟨_, pgs_cons p p' hs, fun v d σ H env env' φ Q i1 r e k => ?_⟩
  cases d with
  | nil => cases e
  | cons d ds =>
    obtain ⟨x, xs, rfl, i2, i3⟩ := i1
    obtain ⟨env1, e1, e2⟩ := Option.bind_eq_some_iff.mp (show (b d env).bind (c ds) = some env' from e)
    refine ⟨x, xs, rfl, q x d σ H env env1 φ _ i2 r e1 fun σ1 r1 o1 => ?_⟩
    exact q' xs ds σ1 H env1 env' φ Q i3 r1 e2 fun σ2 r2 o2 => k σ2 r2 ⟨o2.1.trans o1.1, fun j hj => (o2.2 j fun z => hj (List.mem_append_right _ z)).trans (o1.2 j fun z => hj (List.mem_append_left _ z))⟩
def BLen (n : Nat) (b : List D → EnvD → Option EnvD) : Prop := ∀ ds env env', b ds env = some env' → ds.length = n
theorem blen_nil : BLen 0 bNil := fun ds env env' e => by
  cases ds with
  | nil => rfl
  | cons _ _ => cases e
theorem blen_cons {n : Nat} {b : D → EnvD → Option EnvD} {c : List D → EnvD → Option EnvD} (h : BLen n c) : BLen (n + 1) (bCons b c) := fun ds env env' e => by
  cases ds with
  | nil => cases e
  | cons d ds =>
    obtain ⟨env1, e1, e2⟩ := Option.bind_eq_some_iff.mp (show (b d env).bind (c ds) = some env' from e)
    simp [h _ _ _ e2]
theorem dg_tup {es : List Expr} {k n : Nat} {pos : Pos} {b : List D → EnvD → Option EnvD} {vs : List Nat} (hc : X.calm = true) (hK : X.K = G.K) (h : DGs G X es b vs) (hb : BLen n b)
    (hn : (assignEach es X.env).length = n := by rfl) (hst : (assignEach es X.env).findIdx? (·.1) = none := by rfl) : DG G X (.Tuple es k pos) (bTup b) vs := by
  obtain ⟨g, p, q⟩ := h
  refine ⟨_, pg_tup (n := n) hc p hn hst, fun v d σ H env env' φ Q i1 r e k => ?_⟩
  cases d with
  | tup ds =>
    obtain ⟨a, xs, rfl, rt, il⟩ := i1
    exact ⟨a, xs, rfl, by rw [hK]; exact rt.seq, by rw [← il.length]; exact hb _ _ _ e, q xs ds σ H env env' φ Q il r e k⟩
  | _ => cases e
def sAsg (f : EM) (b : D → EnvD → Option EnvD) : SM := fun e S => (f e S).bindS e fun d S => match b d e with | some e' => .nx e' S | none => .bad
theorem ds_asg {tg e : Expr} {pos : Pos} {f : EM} {b : D → EnvD → Option EnvD} {vs : List Nat} (he : DE G X W e f) (hg : DG G X tg b vs) (hs : swapsWithSole [tg] e pos.line X.env = pure false := by rfl) (hw : swappedStores [tg] e X.env = pure none := by rfl)
    (h1 : List.map (fun x => x.snd) (assignEach [tg] X.env) = [assign tg X.env] := by rfl) : DS G X W (.Assign [tg] e pos) (sAsg f b) := by
  obtain ⟨t, p, q⟩ := he
  obtain ⟨g, p', q'⟩ := hg
  refine ⟨_, ps_asg p p' hs hw h1, fun σ H env φ S N s re h => ?_⟩
  refine q σ H env φ S _ s re (PostE.bindS re h fun d S1 φ1 H1 v e1 s1 i1 h1 => ?_)
  cases hb : b d env with
  | none => rw [hb] at h1; exact h1.elim
  | some env' =>
    rw [hb] at h1
    exact q' v d σ H1 env env' φ1 _ i1 (re.ext e1) hb fun σ' r' _ => h1 φ1 H1 σ' .refl s1 r'
/-- x = e -/
theorem ds_set {i : Nat} {x : Str} {e : Expr} {pos pos' : Pos} {f : EM} (hN : X.N.Nodup) (hi : X.N[i]? = some x) (hx : Loc X.env.scope x) (he : DE G X W e f) (hs : swapsWith e (some (.Name x pos')) pos.line X.env = pure false := by rfl)
    (hf : X.fn x = true ∨ X.env.scope.names.lookup x = some .local := by first | exact .inl rfl | exact .inr rfl) : DS G X W (.Assign [.Name x pos'] e pos) (sAsg f (bName i)) := by
  obtain ⟨t, p, q⟩ := he
  refine ⟨_, ps_set hN hi hx p hs hf, fun σ H env φ S N s re h => ?_⟩
  refine q σ H env φ S _ s re (PostE.bindS re h fun d S1 φ1 H1 v e1 s1 i1 h1 => ?_)
  exact h1 φ1 H1 _ .refl s1 ((re.ext e1).set i1 i)
end
end DL
end
section
/-! == and != of nested lists and dicts that hold the same. -/
namespace PySem.SeqAt
open AutoSeq1 (wpAny_loadPart')
open MeetsSeq MeetsSeq2 MeetsSeq3 SeqRoads2
section
variable {prog : Program} {w : World}
theorem own_ne_loopIn (l b : Addr) (items items2 : Array Value) (n n2 : Nat) (dd dd2 : Option Addr) (sl sl2 : Array (Option Value)) (hsz : items.size = items2.size) (e : Nat → Bool) (k : Nat) :
    ∀ i : Nat, items.size - i = k → MeetsIn prog w (Builtin.«list.__eq__.loop» ⟨[.ref l, .ref b, rawInt i, rawInt 3], []⟩)
      (fun A R s => s.heap.get? l = some { cls := .type "list", dict := dd, data := .seq items n, slots := sl } ∧ s.heap.get? b = some { cls := .type "list", dict := dd2, data := .seq items2 n2, slots := sl2 } ∧
        (∀ j (h1 : j < items.size) (h2 : j < items2.size), EqP prog w A.in1 s items[j] items2[j] (e j)) ∧
        R (.ok (.ret (.bool (!((List.range items.size).drop i).all e)))) s) := by
  induction k with
  | zero =>
    intro i hk A R s h
    obtain ⟨hp, g, d, tk, os⟩ := s; obtain ⟨hl, hb, he, h⟩ := h
    wp_walk using wpAny_loadPart' hl, wpAny_loadPart' hb
    have hi1 : items[((i : Nat) : Int).toNat]? = none := by simp; omega
    have hi2 : items2[((i : Nat) : Int).toNat]? = none := by simp; omega
    have hd : (List.range items.size).drop i = [] := by simp; omega
    rw [hd] at h
    rw [hi1, hi2]
    wp_walk using wpAny_loadPart' hl, wpAny_loadPart' hb
    show R (.ok (.ret (.bool (items.size != items2.size)))) _
    rw [hsz]
    simpa using h
  | succ k ih =>
    intro i hk A R s h
    obtain ⟨hp, g, d, tk, os⟩ := s; obtain ⟨hl, hb, he, h⟩ := h
    wp_walk using wpAny_loadPart' hl, wpAny_loadPart' hb
    have hlt : i < items.size := by omega
    have hlt2 : i < items2.size := by omega
    have hi1 : items[((i : Nat) : Int).toNat]? = some items[i] := by simp [hlt]
    have hi2 : items2[((i : Nat) : Int).toNat]? = some items2[i] := by simp [hlt2]
    have hd : (List.range items.size).drop i = i :: (List.range items.size).drop (i + 1) := by simp [List.drop_eq_getElem_cons, hlt]
    have hc : ((i : Int) + 1) = ((i + 1 : Nat) : Int) := by push_cast; rfl
    rw [hd, List.all_cons] at h
    rw [hi1, hi2]
    refine wpAny_bind (he i hlt hlt2 _ _ ?_)
    cases hb' : e i with
    | true =>
      rw [hb'] at h
      wp_walk
      rw [hc]
      exact ⟨plainId_quiet plain_eq_loop _, codeAny_builtin entry_eq_loop (by
        rw [Around.under_plainId plain_eq_loop _]
        exact ih (i + 1) (by omega) A R _ ⟨hl, hb, he, by simpa using h⟩)⟩
    | false =>
      rw [hb'] at h
      wp_walk using wpAny_loadPart' hl, wpAny_loadPart' hb
      rw [hi1, hi2]
      wp_walk
      simpa using h
theorem own_list_neIn (l b : Addr) (items items2 : Array Value) (n n2 : Nat) (dd dd2 : Option Addr) (sl sl2 : Array (Option Value)) (hsz : items.size = items2.size) (e : Nat → Bool) :
    MeetsIn prog w (Builtin.«list.__ne__» ⟨[.ref l, .ref b], []⟩)
      (fun A R s => s.heap.get? l = some { cls := .type "list", dict := dd, data := .seq items n, slots := sl } ∧ s.heap.get? b = some { cls := .type "list", dict := dd2, data := .seq items2 n2, slots := sl2 } ∧
        (∀ j (h1 : j < items.size) (h2 : j < items2.size), EqP prog w A.in1 s items[j] items2[j] (e j)) ∧
        R (.ok (.ret (.bool (!(List.range items.size).all e)))) s) := by
  intro A R s h
  obtain ⟨hp, g, d, tk, os⟩ := s; obtain ⟨hl, hb, he, h⟩ := h
  have f3 := AutoSeq1.sub_list_list
  have hne : ¬ (items.size != items2.size) = true := by simp [hsz]
  wp_walk using wpAny_loadPart' hl, wpAny_loadPart' hb
  exact ⟨plainId_quiet plain_eq_loop _, codeAny_builtin entry_eq_loop (by
    rw [Around.under_plainId plain_eq_loop _]
    exact own_ne_loopIn l b items items2 n n2 dd dd2 sl sl2 hsz e _ 0 rfl A R _ ⟨hl, hb, he, by simpa using h⟩)⟩
theorem rcNeP_lists {A : Around} {s : Shared} {l b : Addr} {items items2 : Array Value} {e : Nat → Bool} (hl : s.heap.IsList l items) (hb : s.heap.IsList b items2) (hsz : items.size = items2.size) (hu : A.units < cLine)
    (he : ∀ j (h1 : j < items.size) (h2 : j < items2.size), EqP prog w A.in1 s items[j] items2[j] (e j)) (E Q : Value → Shared → Prop) (h : Q (.bool (!(List.range items.size).all e)) s) : wpAny (model prog w) A (richCompare .NotEq (.ref l) (.ref b)) Q E s := by
  obtain ⟨⟨cls, dd, data, sl⟩, ho, hc, n, hd⟩ := id hl
  obtain ⟨⟨cls2, dd2, data2, sl2⟩, ho2, hc2, n2, hd2⟩ := id hb
  simp only at hc hd hc2 hd2
  subst hc hd hc2 hd2
  have ta : s.TypeIs (.ref l) "list" := ⟨_, ho, rfl⟩
  have tb : s.TypeIs (.ref b) "list" := ⟨_, ho2, rfl⟩
  exact wpAny_richCompare_same_room (op := .NotEq) ta tb F.slot_list_ne (call_meetsIn F.slot_list_ne ta F.entry_list_ne (F.args_list_ne_2 _ _) (own_list_neIn l b items items2 n n2 dd dd2 sl sl2 hsz e)
    ⟨ho, ho2, he, show Value.bool (!(List.range items.size).all e) ≠ Value.notImplemented ∧ Q (.bool (!(List.range items.size).all e)) s from ⟨(fun x => nomatch x), h⟩⟩) hu
end
end PySem.SeqAt
namespace PySem.W
open PySem PySem.SeqAt PyProof.Rows
section
variable {prog : Program} {w : World} {A : Around} {s : Shared} {K : Type} [DecidableEq K] {knd : KeyKind prog w K}
theorem rcNeP_dicts {a b : Addr} {ka kb : List (K × Value)} {r : Bool} (ha : (a == sysModules) = false) (hb : (b == sysModules) = false)
    (da : s.heap.DictOf knd a ka) (db : s.heap.DictOf knd b kb) (hu : A.units < cLine) (hits : ka.length = kb.length → KeqHitsP prog w A.in1 s kb ka r) (E Q : Value → Shared → Prop) (h : Q (.bool (!(ka.length == kb.length && r))) s) : wpAny (model prog w) A (richCompare .NotEq (.ref a) (.ref b)) Q E s := by
  refine wpAny_richCompare_same_room (op := .NotEq) da.typeIs db.typeIs PySem.F.slot_dict_ne (wpAny_call_entry PySem.F.slot_dict_ne da.typeIs PySem.F.entry_dict_ne ?_ (PySem.F.args_dict_ne_2 _ _)) hu
  show wpAny _ _ (Builtin.Dict.dictSlotArgs "__ne__" ⟨[.ref a, .ref b], []⟩ >>= _) _ _ s
  refine wpAny_bind ?_
  unfold Builtin.Dict.dictSlotArgs
  refine wpAny_bind (wpAny_notOrdered_dict da.typeIs ?_)
  show wpAny _ _ (pure (Value.ref a, Value.ref b)) _ _ s
  refine wpAny_pure ?_
  refine wpAny_bind (wpAny_isInstance (T := "dict") db.typeIs PySem.F.sub_dict_dict ?_)
  simp only [Bool.not_true, Bool.false_eq_true, if_false]
  refine wpAny_bind (wpAny_pure (wpAny_bind (wpAny_pure ?_)))
  refine wpAny_bind (samePairsP ha hb da db hits ?_)
  refine wpAny_pure ⟨_, rfl, ?_, ?_⟩
  · exact fun x => nomatch x
  · simpa using h
end
end PySem.W
namespace L2
open PySem PySem.Spec PyProof.Rows
/-- two things that hold the same, of nesting below n -/
def EqW (K : PySem.W.Frag) (H : Hp) : Nat → V → V → Prop
  | 0 => fun _ _ => False
  | n + 1 => fun x y => (∃ p, Dp K H x p ∧ Dp K H y p ∧ SeqAt.shaped p = true ∧ PyData.eqv p p = true) ∨ (∃ a b xs ys, x = .ref a ∧ y = .ref b ∧ SqL K H a xs ∧ SqL K H b ys ∧ Paired (EqW K H n) xs ys) ∨
      ∃ a b ks ls, x = .ref a ∧ y = .ref b ∧ Rd H a (.dK ks) ∧ Rd H b (.dK ls) ∧ ks.map (·.1) = ls.map (·.1) ∧ Paired (EqW K H n) (ks.map (·.2)) (ls.map (·.2))
/-- two lists, two dicts -/
def EqT (K : PySem.W.Frag) (H : Hp) (n : Nat) (x y : V) : Prop := (∃ a b xs ys, x = .ref a ∧ y = .ref b ∧ SqL K H a xs ∧ SqL K H b ys ∧ Paired (EqW K H n) xs ys) ∨
      ∃ a b ks ls, x = .ref a ∧ y = .ref b ∧ Rd H a (.dK ks) ∧ Rd H b (.dK ls) ∧ ks.map (·.1) = ls.map (·.1) ∧ Paired (EqW K H n) (ks.map (·.2)) (ls.map (·.2))
theorem valV_mem {ls : List (Key × V)} (nd : (ls.map (·.1)).Nodup) : ∀ {k : Key} {u : V}, (k, u) ∈ ls → valV ls k = some u := by
  induction ls with
  | nil => intro k u h; simp at h
  | cons p ls ih =>
    intro k u h
    rw [List.map_cons, List.nodup_cons] at nd
    rcases List.mem_cons.mp h with e | h
    · subst e
      exact valV_pos rfl
    · rw [valV_neg fun e => nd.1 (by rw [e]; exact List.mem_map.mpr ⟨_, h, rfl⟩)]
      exact ih nd.2 h
theorem paired_zip {F : V → V → Prop} : ∀ {ks ls : List (Key × V)}, ks.map (·.1) = ls.map (·.1) → Paired F (ks.map (·.2)) (ls.map (·.2)) → ∀ p ∈ ks, ∃ u, (p.1, u) ∈ ls ∧ F p.2 u
  | [], _, _, _, p, h => by simp at h
  | k :: ks, [], e, _, _, _ => by simp at e
  | k :: ks, l :: ls, e, q, p, h => by
    simp only [List.map_cons, List.cons.injEq] at e
    cases q with
    | cons r t =>
      rcases List.mem_cons.mp h with e2 | h
      · subst e2
        exact ⟨l.2, by rw [e.1]; simp, r⟩
      · obtain ⟨u, h1, h2⟩ := paired_zip e.2 t p h
        exact ⟨u, List.mem_cons_of_mem _ h1, h2⟩
theorem KV.keysV {ls : List (Key × V)} {vb : List (Key × Value)} (r : KV ls vb) : ls.map (·.1) = vb.map (·.1) := by
  unfold KV at r
  induction r with
  | nil => rfl
  | cons h _ ih => simp [h.1, ih]
section
variable {X : Cx} {pins : List (Addr × Obj)} {σ : St} {H : Hp} {s : Shared}
theorem eqT_dicts (I : Inv X pins σ H s) {A : Around} {F : V → V → Prop} (hu : A.units < cLine) (ih : ∀ x y v u, F x y → RelV x v → RelV y u → SeqAt.EqP X.prog X.w A.in1 s v u true) {a b : Addr} {ks ls : List (Key × V)} (ha : Rd H a (.dK ks)) (hb : Rd H b (.dK ls)) (ek : ks.map (·.1) = ls.map (·.1))
    (hp : Paired F (ks.map (·.2)) (ls.map (·.2))) : ∃ (ka kb : List (Key × Value)), (a == sysModules) = false ∧ (b == sysModules) = false ∧ s.heap.DictOf (mixKind X.prog X.w) a ka ∧ s.heap.DictOf (mixKind X.prog X.w) b kb ∧ PySem.W.KeqHitsP X.prog X.w A.in1 s kb ka true ∧ (ka.length == kb.length && true) = true := by
  obtain ⟨_, ya, va, ra, da⟩ := (show ObjOk X.prog X.w H s.heap a (.dK ks) from ha.ok I.hok)
  obtain ⟨_, yb, vb, rb, db⟩ := (show ObjOk X.prog X.w H s.heap b (.dK ls) from hb.ok I.hok)
  have nd : (ls.map (·.1)).Nodup := by
    obtain ⟨_, _, _, _, _, _, _, _, nd⟩ := id db
    rw [KV.keysV rb]; exact nd
  refine ⟨va, vb, ya, yb, da, db, hits_run ih rb ra (fun p hm => ?_), ?_⟩
  · obtain ⟨u, h1, h2⟩ := paired_zip ek hp p hm
    exact ⟨u, valV_mem nd h1, h2⟩
  · have e : va.length = vb.length := by
      rw [← ra.length, ← rb.length]
      simpa using congrArg List.length ek
    rw [e]; simp
theorem eqW_run (I : Inv X pins σ H s) : ∀ (n : Nat) (A : Around), A.units + n + 65 < cLine → ∀ (x y : V) (v u : Value), EqW X.K H n x y → RelV x v → RelV y u → SeqAt.EqP X.prog X.w A s v u true
  | 0, _, _, _, _, _, _, h, _, _ => (show False from h).elim
  | n + 1, A, hu, x, y, v, u, h, rx, ry => by
    have ih := eqW_run I n A.in1 (by show A.units + 1 + n + 65 < cLine; omega)
    rcases h with ⟨p, dx, dy, hs, he⟩ | ⟨a, b, xs, ys, rfl, rfl, ha, hb, hp⟩ | ⟨a, b, ks, ls, rfl, rfl, ha, hb, ek, hp⟩
    · obtain ⟨as, r1⟩ := Dp.reads I p x v dx rx
      obtain ⟨bs, r2⟩ := Dp.reads I p y u dy ry
      have q := SeqAt.eqAt_reads p p A s v u as bs r1 r2 (SeqAt.canLay_of_shaped hs) (SeqAt.canLay_of_shaped hs) (SeqAt.room_of_shaped hs (by omega))
      rw [he] at q
      exact q.eqP
    · cases (show v = Value.ref a from rx)
      cases (show u = Value.ref b from ry)
      by_cases e : a = b
      · subst e; exact (SeqAt.EqAt.same _).eqP
      · refine SeqAt.eqP_refs e fun E Q q => ?_
        obtain ⟨us, r1, p1, _⟩ := I.list ha
        obtain ⟨ws, r2, p2, _⟩ := I.list hb
        have hsz : us.toArray.size = ws.toArray.size := by
          rw [List.size_toArray, List.size_toArray, ← r1.length, ← r2.length]
          exact Paired.length hp
        refine SeqAt.rcP_lists (e := fun _ => true) p1.isList p2.isList hsz (by omega) (fun j h1 h2 => ?_) E Q ?_
        · have k := items_run ih hp r1 r2 j (by simpa using h1) (by simpa using h2)
          simpa using k
        · rw [show ((List.range us.toArray.size).all fun _ => true) = true from List.all_eq_true.mpr fun _ _ => rfl]
          exact q
    · cases (show v = Value.ref a from rx)
      cases (show u = Value.ref b from ry)
      by_cases e : a = b
      · subst e; exact (SeqAt.EqAt.same _).eqP
      · refine SeqAt.eqP_refs e fun E Q q => ?_
        obtain ⟨va, vb, ya, yb, da, db, hits, hl⟩ := eqT_dicts I (A := A) (by omega) ih ha hb ek hp
        refine PySem.W.rcP_dicts (knd := mixKind X.prog X.w) (r := true) ya yb da db (by omega) (fun _ => hits) E Q ?_
        rw [hl]; exact q
theorem eqT_run (I : Inv X pins σ H s) {A : Around} {n : Nat} (hn : n ≤ 20) (hu : A.units + 100 < cLine) {x y : V} {v u : Value} (h : EqT X.K H n x y) (rx : RelV x v) (ry : RelV y u) (E Q : Value → Shared → Prop) :
    (Q (.bool true) s → wpAny (model X.prog X.w) A (richCompare .Eq v u) Q E s) ∧ (Q (.bool false) s → wpAny (model X.prog X.w) A (richCompare .NotEq v u) Q E s) := by
  have ih := eqW_run I n A.in1 (by show A.units + 1 + n + 65 < cLine; omega)
  rcases h with ⟨a, b, xs, ys, rfl, rfl, ha, hb, hp⟩ | ⟨a, b, ks, ls, rfl, rfl, ha, hb, ek, hp⟩
  · cases (show v = Value.ref a from rx)
    cases (show u = Value.ref b from ry)
    obtain ⟨us, r1, p1, _⟩ := I.list ha
    obtain ⟨ws, r2, p2, _⟩ := I.list hb
    have hsz : us.toArray.size = ws.toArray.size := by
      rw [List.size_toArray, List.size_toArray, ← r1.length, ← r2.length]
      exact Paired.length hp
    have it : ∀ j (h1 : j < us.toArray.size) (h2 : j < ws.toArray.size), SeqAt.EqP X.prog X.w A.in1 s us.toArray[j] ws.toArray[j] true := fun j h1 h2 => by
      have k := items_run ih hp r1 r2 j (by simpa using h1) (by simpa using h2)
      simpa using k
    have al : ((List.range us.toArray.size).all fun _ => true) = true := List.all_eq_true.mpr fun _ _ => rfl
    exact ⟨fun q => SeqAt.rcP_lists (e := fun _ => true) p1.isList p2.isList hsz (by omega) it E Q (by rw [al]; exact q), fun q => SeqAt.rcNeP_lists (e := fun _ => true) p1.isList p2.isList hsz (by omega) it E Q (by rw [al]; exact q)⟩
  · cases (show v = Value.ref a from rx)
    cases (show u = Value.ref b from ry)
    obtain ⟨va, vb, ya, yb, da, db, hits, hl⟩ := eqT_dicts I (A := A) (by omega) ih ha hb ek hp
    exact ⟨fun q => PySem.W.rcP_dicts (knd := mixKind X.prog X.w) (r := true) ya yb da db (by omega) (fun _ => hits) E Q (by rw [hl]; exact q), fun q => PySem.W.rcNeP_dicts (knd := mixKind X.prog X.w) (r := true) ya yb da db (by omega) (fun _ => hits) E Q (by rw [hl]; exact q)⟩
end
section
variable {X : Cx}
def rEqT (K : PySem.W.Frag) (r : Bool) : R2 := fun x y H Q => ∃ n, n ≤ 20 ∧ EqT K H n x y ∧ Q (.bl r) H
theorem op_eqT (hu : X.A.units + 100 < cLine) : OpR X (compareOp .Eq) (rEqT X.K true) := by
  intro pins s σ H x y v u Q I rx ry ⟨n, hn, h, q⟩
  exact (eqT_run I hn hu h rx ry _ _).1 ⟨.bl true, H, I, rfl, q⟩
theorem op_neT (hu : X.A.units + 100 < cLine) : OpR X (compareOp .NotEq) (rEqT X.K false) := by
  intro pins s σ H x y v u Q I rx ry ⟨n, hn, h, q⟩
  exact (eqT_run I hn hu h rx ry _ _).2 ⟨.bl false, H, I, rfl, q⟩
end
end L2
end
section
/-! D-layer, part 2: operators, subscripts, calls of built-ins. -/
namespace DL
open PySem L2
variable [DL.Nm]

/-- the items of a list, be it a value or a cell -/
def listD (S : Store) : D → Option (List D)
  | .lst ds => some ds
  | .loc l => match S[l]? with
    | some (.lst ds) => some ds
    | _ => none
  | _ => none
def tupD : D → Option (List D)
  | .tup ds => some ds
  | _ => none
section
variable {G : Glb} {X : Cx} {W : WX} {φ : Fi} {S : Store} {H : Hp} {σ : St}
theorem listD_sq {d : D} {v : V} {ds : List D} (s : SOk G φ S H) (i : Is G φ H d v) (e : listD S d = some ds) : ∃ a xs, v = .ref a ∧ SqL G.K H a xs ∧ IsL G φ H ds xs := by
  cases d with
  | lst es =>
    cases e
    obtain ⟨a, xs, e1, r, q⟩ := i
    exact ⟨a, xs, e1, r.seq, q⟩
  | loc l =>
    obtain ⟨a, ha, e1⟩ := i
    simp only [listD] at e
    cases hc : S[l]? with
    | none => rw [hc] at e; cases e
    | some c =>
      rw [hc] at e
      have k := s.at_ hc ha
      cases c with
      | lst es =>
        cases e
        obtain ⟨xs, hx, q⟩ := k
        exact ⟨a, xs, e1, SqL.of hx, q⟩
      | _ => cases e
  | _ => cases e
theorem tupD_sq {d : D} {v : V} {ds : List D} (i : Is G φ H d v) (e : tupD d = some ds) : ∃ a xs, v = .ref a ∧ SqT G.K H a xs ∧ IsL G φ H ds xs := by
  cases d with
  | tup es =>
    cases e
    obtain ⟨a, xs, e1, r, q⟩ := i
    exact ⟨a, xs, e1, r.seq, q⟩
  | _ => cases e

/-! ### + - * // % ** -/
theorem add_lst_any {pins : List (Addr × Obj)} {s : Shared} {xs ys : List V} {a b : Addr} {E : Value → Shared → Prop} {Q : VK} (I : Inv X pins σ H s) (ha : SqL X.K H a xs) (hb : SqL X.K H b ys) (hz : xs.length + ys.length ≤ sizeLine)
    (q : ∀ p, H p = none → Q (.ref p) (upd H p (.lst (xs ++ ys)))) : wpAny (model X.prog X.w) X.A (binaryOp .Add (.ref a) (.ref b)) (EP X pins σ Q) E s := by
  obtain ⟨i1, r1, ⟨⟨c1, d1, t1, sl1⟩, n1, g1, hc1, hd1, ht1⟩, _⟩ := I.list ha
  obtain ⟨i2, r2, ⟨⟨c2, d2, t2, sl2⟩, n2, g2, hc2, hd2, ht2⟩, _⟩ := I.list hb
  simp only at hc1 hd1 ht1 hc2 hd2 ht2
  subst hc1 hd1 ht1 hc2 hd2 ht2
  have l1 := r1.length
  have l2 := r2.length
  have hj : i1.toArray ++ i2.toArray = (i1 ++ i2).toArray := by simp
  refine concat_meets ⟨_, g1, rfl⟩ ⟨_, g2, rfl⟩ noFill_list_add seq_list_add PySem.F.slot_list_add PySem.F.entry_list_add (PySem.F.args_list_add_2 _ _) (PyProof.Rows.list_addW a b i1.toArray i2.toArray n1 n2 none none sl1 sl2 (by simp; omega)) ⟨g1, g2, ?_⟩
  rw [hj]
  exact ⟨.ref _, _, I.lnew (t' := s.toks) (r1.append r2) (by rw [List.length_append]; omega), rfl, q _ I.fresh⟩
def rCatL (K : PySem.W.Frag) : R2 := fun x y H Q => ∃ l b xs zs, x = .ref l ∧ y = .ref b ∧ SqL K H l xs ∧ SqL K H b zs ∧ xs.length + zs.length ≤ sizeLine ∧ ∀ p, H p = none → Q (.ref p) (upd H p (.lst (xs ++ zs)))
theorem op_catL : OpR X (binaryOp .Add) (rCatL X.K) := by
  rintro pins s σ H x y v u Q I rx ry ⟨l, b, xs, zs, rfl, rfl, h1, h2, hz, q⟩
  cases rx
  cases ry
  exact add_lst_any I h1 h2 hz q
noncomputable def opAdd (x y : D) (S : Store) : ER := match x, y with
  | .int i, .int j => .ok (.int (i + j)) S
  | .str a, .str b => if sz (a.length + b.length) then .ok (.str (a ++ b)) S else .bad
  | .tup a, .tup b => if sz (a.length + b.length) then .ok (.tup (a ++ b)) S else .bad
  | x, y => match listD S x, listD S y with
    | some a, some b => if sz (a.length + b.length) then .ok (.lst (a ++ b)) S else .bad
    | _, _ => .bad
theorem bad_no {φ : Fi} {H : Hp} {Q : VK} {P : Prop} (h : PostE G W φ H σ .bad Q) : P := False.elim h
theorem do_add (hK : X.K = G.K) : DOp G X (binaryOp .Add) opAdd := by
  refine ⟨_, (op_add.or op_add_str).or (op_catA.or op_catL), fun W φ S H σ dx dy x y Q s ix iy h => ?_⟩
  unfold opAdd at h
  split at h
  · cases (show x = _ from ix); cases (show y = _ from iy)
    exact .inl (.inl ⟨_, _, rfl, rfl, h.now s rfl⟩)
  · cases (show x = _ from ix); cases (show y = _ from iy)
    split at h
    · exact .inl (.inr ⟨_, _, rfl, rfl, sizeLine_is (by assumption), h.now s rfl⟩)
    · exact bad_no h
  · split at h
    · rename_i a b hl
      obtain ⟨p, xs, rfl, r1, q1⟩ := ix
      obtain ⟨p2, ys, rfl, r2, q2⟩ := iy
      refine .inr (.inl ⟨p, p2, xs, ys, rfl, rfl, by rw [hK]; exact r1.seq, by rw [hK]; exact r2.seq, by rw [← q1.length, ← q2.length]; exact sizeLine_is hl, fun e => ?_, fun _ e => ?_, fun _ _ p hp => tup_new s (q1.append q2) h hp⟩)
      · subst e
        have z : a = [] := List.eq_nil_of_length_eq_zero (by simpa using q1.length)
        subst z
        exact h.now s ⟨p2, ys, rfl, r2, q2⟩
      · subst e
        have z : b = [] := List.eq_nil_of_length_eq_zero (by simpa using q2.length)
        subst z
        rw [List.append_nil] at h
        exact h.now s ⟨p, xs, rfl, r1, q1⟩
    · exact bad_no h
  · split at h
    · split at h
      · rename_i a b e1 e2 hl
        obtain ⟨p, xs, rfl, r1, q1⟩ := listD_sq s ix e1
        obtain ⟨p2, ys, rfl, r2, q2⟩ := listD_sq s iy e2
        exact .inr (.inr ⟨p, p2, xs, ys, rfl, rfl, by rw [hK]; exact r1, by rw [hK]; exact r2, by rw [← q1.length, ← q2.length]; exact sizeLine_is hl, fun p hp => lst_new s (q1.append q2) h hp⟩)
      · exact bad_no h
    · exact bad_no h
def opI (g : Int → Int → ER) (x y : D) : ER := match x, y with
  | .int i, .int j => g i j
  | _, _ => .bad
def opSub (x y : D) (S : Store) : ER := opI (fun i j => .ok (.int (i - j)) S) x y
theorem do_sub : DOp G X (binaryOp .Sub) opSub := by
  refine ⟨_, op_sub, fun W φ S H σ dx dy x y Q s ix iy h => ?_⟩
  unfold opSub opI at h
  dsimp only at h
  split at h
  · cases (show x = _ from ix); cases (show y = _ from iy)
    exact ⟨_, _, rfl, rfl, h.now s rfl⟩
  · exact bad_no h
/-- a factor within 64 bits, or both together within a million bits -/
def mulOk (i j : Int) : Prop := i.natAbs < 18446744073709551616 ∨ j.natAbs < 18446744073709551616 ∨ i.natAbs.log2 + j.natAbs.log2 < 1000000
noncomputable instance {i j : Int} : Decidable (mulOk i j) := Classical.propDecidable _
noncomputable def opMul (x y : D) (S : Store) : ER := opI (fun i j => if mulOk i j then .ok (.int (i * j)) S else .bad) x y
theorem do_mul : DOp G X (binaryOp .Mult) opMul := by
  refine ⟨_, op_mul.or op_mulW, fun W φ S H σ dx dy x y Q s ix iy h => ?_⟩
  unfold opMul opI at h
  dsimp only at h
  split at h
  · rename_i i j
    cases (show x = _ from ix); cases (show y = _ from iy)
    split at h
    · rename_i hm
      rcases hm with hm | hm | hm
      · exact .inl ⟨_, _, rfl, rfl, .inl (by omega), h.now s rfl⟩
      · exact .inl ⟨_, _, rfl, rfl, .inr (by omega), h.now s rfl⟩
      · exact .inr ⟨_, _, rfl, rfl, hm, h.now s rfl⟩
    · exact bad_no h
  · exact bad_no h
def opMod (x y : D) (S : Store) : ER := opI (fun i j => if 0 < j then .ok (.int (i % j)) S else .bad) x y
theorem do_mod : DOp G X (binaryOp .Mod) opMod := by
  refine ⟨_, op_mod, fun W φ S H σ dx dy x y Q s ix iy h => ?_⟩
  unfold opMod opI at h
  dsimp only at h
  split at h
  · cases (show x = _ from ix); cases (show y = _ from iy)
    split at h
    · rename_i hj
      exact ⟨_, _, rfl, rfl, hj, h.now s rfl⟩
    · exact bad_no h
  · exact bad_no h
def divOk (j : Int) : Prop := 0 < j ∧ (j < 1073741824 ∨ j.natAbs.log2 < 9000)
noncomputable instance {j : Int} : Decidable (divOk j) := Classical.propDecidable _
noncomputable def opFdiv (x y : D) (S : Store) : ER := opI (fun i j => if divOk j then .ok (.int (i / j)) S else .bad) x y
theorem do_fdiv : DOp G X (binaryOp .FloorDiv) opFdiv := by
  refine ⟨_, op_fdiv.or op_fdivW, fun W φ S H σ dx dy x y Q s ix iy h => ?_⟩
  unfold opFdiv opI at h
  dsimp only at h
  split at h
  · cases (show x = _ from ix); cases (show y = _ from iy)
    split at h
    · rename_i hj
      obtain ⟨h1, h2 | h2⟩ := hj
      · exact .inl ⟨_, _, rfl, rfl, ⟨h1, h2⟩, h.now s rfl⟩
      · exact .inr ⟨_, _, rfl, rfl, ⟨h1, h2⟩, h.now s rfl⟩
    · exact bad_no h
  · exact bad_no h
def powOk (i j : Int) : Prop := 0 ≤ j ∧ j ≤ 1000000 ∧ i.natAbs < 18446744073709551616
noncomputable instance {i j : Int} : Decidable (powOk i j) := Classical.propDecidable _
noncomputable def opPow (x y : D) (S : Store) : ER := opI (fun i j => if powOk i j then .ok (.int (i ^ j.toNat)) S else .bad) x y
theorem do_pow : DOp G X (binaryOp .Pow) opPow := by
  refine ⟨_, op_pow, fun W φ S H σ dx dy x y Q s ix iy h => ?_⟩
  unfold opPow opI at h
  dsimp only at h
  split at h
  · cases (show x = _ from ix); cases (show y = _ from iy)
    split at h
    · rename_i hj
      exact ⟨_, _, rfl, rfl, ⟨hj.1, hj.2.1, Nat.lt_of_lt_of_le hj.2.2 (by decide)⟩, h.now s rfl⟩
    · exact bad_no h
  · exact bad_no h
def mulSOk (i j : Int) : Prop := i.natAbs < 18446744073709551616 ∨ j.natAbs < 18446744073709551616
noncomputable instance {i j : Int} : Decidable (mulSOk i j) := Classical.propDecidable _
noncomputable def opMulS (x y : D) (S : Store) : ER := opI (fun i j => if mulSOk i j then .ok (.int (i * j)) S else .bad) x y
def opAddI (x y : D) (S : Store) : ER := opI (fun i j => .ok (.int (i + j)) S) x y
theorem do_iadd : DOp G X (inplaceOp .Add) opAddI := by
  refine ⟨_, iop_add, fun W φ S H σ dx dy x y Q s ix iy h => ?_⟩
  unfold opAddI opI at h
  dsimp only at h
  split at h
  · cases (show x = _ from ix); cases (show y = _ from iy)
    exact ⟨_, _, rfl, rfl, h.now s rfl⟩
  · exact bad_no h
def eNeg (f : EM) : EM := fun env S => (f env S).bind fun d S => match d with | .int i => .ok (.int (-i)) S | _ => .bad
theorem de_neg {a : Expr} {pos : Pos} {f : EM} (ha : DE G X W a f) : DE G X W (.UnaryOp .USub a pos) (eNeg f) := by
  obtain ⟨ta, pa, qa⟩ := ha
  refine ⟨_, pe_un un_neg pa, fun σ H env φ S Q s re h => ?_⟩
  refine qa σ H env φ S _ s re (PostE.bind h fun d S1 φ1 H1 v e1 s1 i1 h1 => ?_)
  cases d with
  | int i => exact ⟨i, i1, h1.now s1 rfl⟩
  | _ => exact False.elim h1

/-! ### comparisons -/
def opCmp (g : Int → Int → Bool) (x y : D) (S : Store) : ER := opI (fun i j => .ok (.bl (g i j)) S) x y
theorem do_cmp {f : Value → Value → Sem Value} {g : Int → Int → Bool} (ho : OpR X f (rI0 fun i j => .bl (g i j))) : DOp G X f (opCmp g) := by
  refine ⟨_, ho, fun W φ S H σ dx dy x y Q s ix iy h => ?_⟩
  unfold opCmp opI at h
  dsimp only at h
  split at h
  · cases (show x = _ from ix); cases (show y = _ from iy)
    exact ⟨_, _, rfl, rfl, h.now s rfl⟩
  · exact bad_no h
def opLt := opCmp fun i j => decide (i < j)
def opLe := opCmp fun i j => decide (i ≤ j)
def opGt := opCmp fun i j => decide (j < i)
def opGe := opCmp fun i j => decide (j ≤ i)
theorem do_lt : DOp G X (compareOp .Lt) opLt := do_cmp op_lt
theorem do_le : DOp G X (compareOp .LtE) opLe := do_cmp op_le
theorem do_gt : DOp G X (compareOp .Gt) opGt := do_cmp op_gt
theorem do_ge : DOp G X (compareOp .GtE) opGe := do_cmp op_ge
/-- a list of plain things -/
def pyFs : List D → Option (List PyData)
  | [] => some []
  | .non :: ds => (pyFs ds).map (.none :: ·)
  | .bl b :: ds => (pyFs ds).map (.bool b :: ·)
  | .int i :: ds => (pyFs ds).map (.int i :: ·)
  | .str x :: ds => (pyFs ds).map (.str x :: ·)
  | _ :: _ => none
theorem pyFs_dp : ∀ {ds : List D} {vs : List V} {ps : List PyData}, IsL G φ H ds vs → pyFs ds = some ps → DpAll G.K H vs ps
  | [], vs, ps, i, e => by cases (show vs = [] from i); cases e; exact .nil
  | .non :: ds, vs, ps, i, e => by
    obtain ⟨x, r, rfl, p, q⟩ := i
    obtain ⟨b, e3, e4⟩ := Option.map_eq_some_iff.mp (show (pyFs ds).map (PyData.none :: ·) = some ps from e)
    subst e4; cases (show x = _ from p); exact .cons .non (pyFs_dp q e3)
  | .bl k :: ds, vs, ps, i, e => by
    obtain ⟨x, r, rfl, p, q⟩ := i
    obtain ⟨b, e3, e4⟩ := Option.map_eq_some_iff.mp (show (pyFs ds).map (PyData.bool k :: ·) = some ps from e)
    subst e4; cases (show x = _ from p); exact .cons (.bl k) (pyFs_dp q e3)
  | .int k :: ds, vs, ps, i, e => by
    obtain ⟨x, r, rfl, p, q⟩ := i
    obtain ⟨b, e3, e4⟩ := Option.map_eq_some_iff.mp (show (pyFs ds).map (PyData.int k :: ·) = some ps from e)
    subst e4; cases (show x = _ from p); exact .cons (.int k) (pyFs_dp q e3)
  | .str k :: ds, vs, ps, i, e => by
    obtain ⟨x, r, rfl, p, q⟩ := i
    obtain ⟨b, e3, e4⟩ := Option.map_eq_some_iff.mp (show (pyFs ds).map (PyData.str k :: ·) = some ps from e)
    subst e4; cases (show x = _ from p); exact .cons (.str k) (pyFs_dp q e3)
  | .tup _ :: _, _, _, _, e => nomatch e
  | .lst _ :: _, _, _, _, e => nomatch e
  | .dic _ _ :: _, _, _, _, e => nomatch e
  | .obj _ _ _ :: _, _, _, _, e => nomatch e
  | .loc _ :: _, _, _, _, e => nomatch e
  | .dct _ _ :: _, _, _, _, e => nomatch e
  | .exn _ _ _ :: _, _, _, _, e => nomatch e
  | .tpl _ :: _, _, _, _, e => nomatch e
mutual
/-- data for == -/
def D.py (S : Store) : D → Option PyData
  | .non => some .none
  | .bl b => some (.bool b)
  | .int i => some (.int i)
  | .str x => some (.str x)
  | .tup ds => (D.pys S ds).map .tuple
  | .lst ds => (D.pys S ds).map .list
  | .loc l => match S[l]? with
    | some (.lst ds) => (pyFs ds).map .list
    | _ => none
  | _ => none
def D.pys (S : Store) : List D → Option (List PyData)
  | [] => some []
  | d :: ds => (D.py S d).bind fun a => (D.pys S ds).map (a :: ·)
end
mutual
theorem D.py_dp (s : SOk G φ S H) : ∀ {d : D} {v : V} {p : PyData}, Is G φ H d v → D.py S d = some p → Dp G.K H v p
  | .non, v, p, i, e => by cases (show v = _ from i); cases e; exact .non
  | .bl b, v, p, i, e => by cases (show v = _ from i); cases e; exact .bl b
  | .int b, v, p, i, e => by cases (show v = _ from i); cases e; exact .int b
  | .str b, v, p, i, e => by cases (show v = _ from i); cases e; exact .str b
  | .tup ds, v, p, i, e => by
    obtain ⟨a, xs, rfl, r, q⟩ := i
    obtain ⟨ps, e1, e2⟩ := Option.map_eq_some_iff.mp (show (D.pys S ds).map PyData.tuple = some p from e)
    subst e2
    exact .tup r.seq (D.pys_dp s q e1)
  | .lst ds, v, p, i, e => by
    obtain ⟨a, xs, rfl, r, q⟩ := i
    obtain ⟨ps, e1, e2⟩ := Option.map_eq_some_iff.mp (show (D.pys S ds).map PyData.list = some p from e)
    subst e2
    exact .lst r.seq (D.pys_dp s q e1)
  | .dic _ _, _, _, _, e => nomatch e
  | .obj _ _ _, _, _, _, e => nomatch e
  | .dct _ _, _, _, _, e => nomatch e
  | .exn _ _ _, _, _, _, e => nomatch e
  | .tpl _, _, _, _, e => nomatch e
  | .loc l, v, p, i, e => by
    simp only [D.py] at e
    split at e
    · rename_i h
      obtain ⟨ps, e1, e2⟩ := Option.map_eq_some_iff.mp e
      subst e2
      obtain ⟨a, xs, e3, r, q⟩ := listD_sq s (show Is G φ H (.loc l) v from i) (show listD S (.loc l) = some _ by simp only [listD]; rw [h])
      subst e3
      exact .lst r (pyFs_dp q e1)
    · cases e
theorem D.pys_dp (s : SOk G φ S H) : ∀ {ds : List D} {vs : List V} {ps : List PyData}, IsL G φ H ds vs → D.pys S ds = some ps → DpAll G.K H vs ps
  | [], vs, ps, i, e => by cases (show vs = [] from i); cases e; exact .nil
  | d :: ds, vs, ps, i, e => by
    obtain ⟨x, r, rfl, p, q⟩ := i
    obtain ⟨a, e1, e2⟩ := Option.bind_eq_some_iff.mp (show ((D.py S d).bind fun a => (D.pys S ds).map (a :: ·)) = some ps from e)
    obtain ⟨b, e3, e4⟩ := Option.map_eq_some_iff.mp e2
    subst e4
    exact .cons (D.py_dp s p e1) (D.pys_dp s q e3)
end
/-- a list's cell at the outside -/
def D.pyO (S : Store) : D → Option PyData
  | .loc l => match S[l]? with
    | some (.lst ds) => (D.pys S ds).map .list
    | _ => none
  | d => D.py S d
theorem D.pyO_dp {d : D} {v : V} {p : PyData} (s : SOk G φ S H) (i : Is G φ H d v) (e : D.pyO S d = some p) : Dp G.K H v p := by
  cases d with
  | loc l =>
    simp only [D.pyO] at e
    split at e
    · rename_i h
      obtain ⟨ps, e1, e2⟩ := Option.map_eq_some_iff.mp e
      subst e2
      obtain ⟨a, xs, e3, r, q⟩ := listD_sq s (show Is G φ H (.loc l) v from i) (show listD S (.loc l) = some _ by simp only [listD]; rw [h])
      subst e3
      exact .lst r (D.pys_dp s q e1)
    · cases e
  | _ => exact D.py_dp s i e
/-- data that may be compared with the same data: lists and dicts of such, too -/
def niceE (S : Store) : Nat → D → Bool
  | 0, _ => false
  | n + 1, d => match D.py S d with
    | some p => SeqAt.shaped p && PyData.eqv p p
    | none => match d with
      | .lst ds => ds.all (niceE S n)
      | .dic _ ds => ds.all (niceE S n)
      | _ => false
theorem paired_same {F : V → V → Prop} (f : D → Bool) (st : ∀ d x y, f d = true → Is G φ H d x → Is G φ H d y → F x y) : ∀ {ds : List D} {xs ys : List V}, ds.all f = true → IsL G φ H ds xs → IsL G φ H ds ys → Paired F xs ys
  | [], xs, ys, _, i, j => by cases (show xs = [] from i); cases (show ys = [] from j); exact .nil
  | d :: ds, xs, ys, h, i, j => by
    rw [List.all_cons, Bool.and_eq_true] at h
    obtain ⟨x, r, rfl, p, q⟩ := i
    obtain ⟨y, r', rfl, p', q'⟩ := j
    exact .cons (st d x y h.1 p p') (paired_same f st h.2 q q')
theorem niceE_is (s : SOk G φ S H) : ∀ (n : Nat) (d : D) (x y : V), niceE S n d = true → Is G φ H d x → Is G φ H d y → EqW G.K H n x y
  | 0, _, _, _, h, _, _ => by cases h
  | n + 1, d, x, y, h, i, j => by
    unfold niceE at h
    cases hp : D.py S d with
    | some p =>
      rw [hp] at h
      simp only [Bool.and_eq_true] at h
      exact .inl ⟨p, D.py_dp s i hp, D.py_dp s j hp, h.1, h.2⟩
    | none =>
      rw [hp] at h
      cases d with
      | lst ds =>
        obtain ⟨a, xs, rfl, r, q⟩ := i
        obtain ⟨b, ys, rfl, r', q'⟩ := j
        exact .inr (.inl ⟨a, b, xs, ys, rfl, rfl, r.seq, r'.seq, paired_same _ (niceE_is s n) h q q'⟩)
      | dic ks ds =>
        obtain ⟨a, xs, rfl, ⟨_, r⟩, e, q⟩ := i
        obtain ⟨b, ys, rfl, ⟨_, r'⟩, e', q'⟩ := j
        exact .inr (.inr ⟨a, b, xs, ys, rfl, rfl, r, r', e.trans e'.symm, paired_same _ (niceE_is s n) h q q'⟩)
      | _ => cases h
def niceT (S : Store) (d : D) : Bool := match d with
  | .lst ds => ds.all (niceE S 8)
  | .dic _ ds => ds.all (niceE S 8)
  | _ => false
theorem niceT_is (s : SOk G φ S H) {d : D} {x y : V} (h : niceT S d = true) (i : Is G φ H d x) (j : Is G φ H d y) : EqT G.K H 8 x y := by
  cases d with
  | lst ds =>
    obtain ⟨a, xs, rfl, r, q⟩ := i
    obtain ⟨b, ys, rfl, r', q'⟩ := j
    exact .inl ⟨a, b, xs, ys, rfl, rfl, r.seq, r'.seq, paired_same _ (niceE_is s 8) h q q'⟩
  | dic ks ds =>
    obtain ⟨a, xs, rfl, ⟨_, r⟩, e, q⟩ := i
    obtain ⟨b, ys, rfl, ⟨_, r'⟩, e', q'⟩ := j
    exact .inr ⟨a, b, xs, ys, rfl, rfl, r, r', e.trans e'.symm, paired_same _ (niceE_is s 8) h q q'⟩
  | _ => cases h
open Classical in
noncomputable def eqSame (neg : Bool) (x y : D) (S : Store) : ER := if x = y ∧ niceT S x = true then .ok (.bl (!neg)) S else .bad
noncomputable def opEqB (neg : Bool) (x y : D) (S : Store) : ER := match x, y with
  | .str a, .str b => .ok (.bl (if neg then !decide (a = b) else decide (a = b))) S
  | x, y => match x.pyO S, y.pyO S with
    | some p, some q => if SeqAt.shaped p && SeqAt.shaped q then .ok (.bl (if neg then !PyData.eqv p q else PyData.eqv p q)) S else .bad
    | _, _ => eqSame neg x y S
noncomputable def opEq := opEqB false
noncomputable def opNe := opEqB true
theorem units100 {k : Nat} {A : Around} (r : Room k A) : A.units + 100 < cLine := by have := r.un; omega
theorem dec_s {a b : Str} : decide (V.str a = V.str b) = decide (a = b) := by
  by_cases e : a = b
  · subst e; simp
  · rw [decide_eq_false e, decide_eq_false (fun z => e (V.str.inj z))]
theorem do_eq (hK : X.K = G.K) (hu : X.A.units + 100 < cLine) : DOp G X (compareOp .Eq) opEq := by
  refine ⟨_, (op_eq.or (op_eqD (by omega))).or (op_eqT hu), fun W φ S H σ dx dy x y Q s ix iy h => ?_⟩
  unfold opEq opEqB at h
  split at h
  · cases (show x = _ from ix); cases (show y = _ from iy)
    exact .inl (.inl ⟨rfl, by rw [dec_s]; exact h.now s rfl⟩)
  · split at h
    · rename_i p q e1 e2
      split at h
      · rename_i hs
        simp only [Bool.and_eq_true] at hs
        exact .inl (.inr ⟨p, q, by rw [hK]; exact D.pyO_dp s ix e1, by rw [hK]; exact D.pyO_dp s iy e2, hs.1, hs.2, h.now s rfl⟩)
      · exact bad_no h
    · unfold eqSame at h
      split at h
      · rename_i hx
        obtain ⟨e, hn⟩ := hx
        subst e
        exact .inr ⟨8, by decide, by rw [hK]; exact niceT_is s hn ix iy, h.now s rfl⟩
      · exact bad_no h
theorem do_ne (hK : X.K = G.K) (hu : X.A.units + 100 < cLine) : DOp G X (compareOp .NotEq) opNe := by
  refine ⟨_, (op_ne.or (op_neD (by omega))).or (op_neT hu), fun W φ S H σ dx dy x y Q s ix iy h => ?_⟩
  unfold opNe opEqB at h
  split at h
  · cases (show x = _ from ix); cases (show y = _ from iy)
    exact .inl (.inl ⟨rfl, by rw [dec_s]; exact h.now s rfl⟩)
  · split at h
    · rename_i p q e1 e2
      split at h
      · rename_i hs
        simp only [Bool.and_eq_true] at hs
        exact .inl (.inr ⟨p, q, by rw [hK]; exact D.pyO_dp s ix e1, by rw [hK]; exact D.pyO_dp s iy e2, hs.1, hs.2, h.now s rfl⟩)
      · exact bad_no h
    · unfold eqSame at h
      split at h
      · rename_i hx
        obtain ⟨e, hn⟩ := hx
        subst e
        exact .inr ⟨8, by decide, by rw [hK]; exact niceT_is s hn ix iy, h.now s rfl⟩
      · exact bad_no h
def D.isN : D → Bool
  | .non => true
  | _ => false
theorem isN_iff {d : D} {v : V} (i : Is G φ H d v) : decide (v = .non) = d.isN := by
  cases d with
  | non => cases (show v = _ from i); rfl
  | bl b => cases (show v = _ from i); rfl
  | int b => cases (show v = _ from i); rfl
  | str b => cases (show v = _ from i); rfl
  | tup ds => obtain ⟨a, xs, rfl, _⟩ := i; rfl
  | lst ds => obtain ⟨a, xs, rfl, _⟩ := i; rfl
  | dic ks ds => obtain ⟨a, xs, rfl, _⟩ := i; rfl
  | obj c ks ds => obtain ⟨a, C, dx, fs, rfl, _⟩ := i; rfl
  | loc l => obtain ⟨a, _, rfl⟩ := i; rfl
  | dct ks ds => obtain ⟨a, xs, rfl, _⟩ := i; rfl
  | exn c ks ds => obtain ⟨a, C, d, rfl, _⟩ := i; rfl
  | tpl ds => obtain ⟨a, xs, o, rfl, _⟩ := i; rfl
def opIsN (x y : D) (S : Store) : ER := match y with | .non => .ok (.bl x.isN) S | _ => .bad
def opNotN (x y : D) (S : Store) : ER := match y with | .non => .ok (.bl (!x.isN)) S | _ => .bad
theorem do_isN : DOp G X (compareOp .Is) opIsN := by
  refine ⟨_, op_isN, fun W φ S H σ dx dy x y Q s ix iy h => ?_⟩
  cases dy with
  | non => exact ⟨iy, by rw [isN_iff ix]; exact h.now s rfl⟩
  | _ => exact bad_no h
theorem do_notN : DOp G X (compareOp .IsNot) opNotN := by
  refine ⟨_, op_notN, fun W φ S H σ dx dy x y Q s ix iy h => ?_⟩
  cases dy with
  | non => exact ⟨iy, by rw [isN_iff ix]; exact h.now s rfl⟩
  | _ => exact bad_no h
/-- a < b < c -/
def eChain (g g' : D → D → Store → ER) (a b c : EM) : EM := fun env S => (a env S).bind fun x S => (b env S).bind fun y S => (g x y S).bind fun z S => match z with
  | .bl true => (c env S).bind fun w S => g' y w S
  | .bl false => .ok (.bl false) S
  | _ => .bad

/-! ### subscripts -/
def seqD (S : Store) (d : D) : Option (List D) := match d with
  | .tup ds => some ds
  | d => listD S d
def strAt (x : Str) (i : Int) : Option D := (atI x.cps.toList i).map fun c => .str ⟨#[c]⟩
noncomputable def opIx (x y : D) (S : Store) : ER := match x, y with
  | .str x, .int i => if sz x.length then (match strAt x i with | some d => .ok d S | none => .bad) else .bad
  | .tup ds, .int i => match atI ds i with | some d => .ok d S | none => .bad
  | x, .int i => match listD S x with
    | some ds => (match atI ds i with | some d => .ok d S | none => .bad)
    | none => .bad
  | _, _ => .bad
theorem atI_is {ds : List D} {xs : List V} {i : Int} {d : D} (q : IsL G φ H ds xs) (e : atI ds i = some d) : ∃ v, atI xs i = some v ∧ Is G φ H d v := by
  unfold atI at e ⊢
  rw [q.length] at e
  obtain ⟨j, e1, e2⟩ := Option.bind_eq_some_iff.mp e
  obtain ⟨v, e3, k⟩ := q.get e2
  exact ⟨v, by rw [e1]; exact e3, k⟩
/-! ### calls of built-ins -/
/-- a built-in by values -/
def DCall (G : Glb) (X : Cx) (f : Value) (g : List D → Store → ER) : Prop :=
  ∃ r, CallR X f r ∧ ∀ W φ S H σ ds xs Q, SOk G φ S H → IsL G φ H ds xs → PostE G W φ H σ (g ds S) Q → r xs H Q
def eCallB (g : List D → Store → ER) (f : LM) : EM := fun env S => (f env S).bindE g
theorem de_callB {id : String} {x : Str} {e : Expr} {es : List Expr} {p pos : Pos} {g : List D → Store → ER} {f : LM} (hc : DCall G X (.builtin id) g) (hg : Gl X x) (hm : X.mg x = none) (hv : bootBuiltins x = some (.builtin id)) (ha : DA G X W (e :: es) f) (hn : x ≠ "__name__" := by decide) (hdb : (x == ("__debug__" : Str)) = false := by decide)
    (he : starEach (e :: es) X.env = (false, eval e X.env) :: starEach es X.env := by rfl) (hpl : (backTo pos (starEach es X.env)).any (·.1) = false := by rfl) : DE G X W (.Call (.Name x p) (e :: es) [] pos) (eCallB g f) := by
  obtain ⟨r, hr, q⟩ := hc
  obtain ⟨t, pt, qt⟩ := ha
  refine ⟨_, pe_callB hr hg hm hv pt hn hdb he hpl, fun σ H env φ S Q s re h => ?_⟩
  exact qt σ H env φ S _ s re (PostL.bindE h fun ds S1 φ1 H1 xs e1 s1 i1 h1 => q W φ1 S1 H1 σ ds xs Q s1 i1 h1)
theorem de_callTy {T : String} {x : Str} {e : Expr} {es : List Expr} {p pos : Pos} {g : List D → Store → ER} {f : LM} (hc : DCall G X (.type T) g) (hg : Gl X x) (hm : X.mg x = none) (hv : bootBuiltins x = some (.type T)) (ha : DA G X W (e :: es) f) (hn : x ≠ "__name__" := by decide) (hdb : (x == ("__debug__" : Str)) = false := by decide)
    (he : starEach (e :: es) X.env = (false, eval e X.env) :: starEach es X.env := by rfl) (hpl : (backTo pos (starEach es X.env)).any (·.1) = false := by rfl) : DE G X W (.Call (.Name x p) (e :: es) [] pos) (eCallB g f) := by
  obtain ⟨r, hr, q⟩ := hc
  obtain ⟨t, pt, qt⟩ := ha
  refine ⟨_, pe_callTy hr hg hm hv pt hn hdb he hpl, fun σ H env φ S Q s re h => ?_⟩
  exact qt σ H env φ S _ s re (PostL.bindE h fun ds S1 φ1 H1 xs e1 s1 i1 h1 => q W φ1 S1 H1 σ ds xs Q s1 i1 h1)
theorem IsL.inv1 {d : D} {xs : List V} (h : IsL G φ H [d] xs) : ∃ x, xs = [x] ∧ Is G φ H d x := by
  obtain ⟨x, r, rfl, p, q⟩ := h
  cases (show r = [] from q)
  exact ⟨x, rfl, p⟩
theorem IsL.inv2 {d e : D} {xs : List V} (h : IsL G φ H [d, e] xs) : ∃ x y, xs = [x, y] ∧ Is G φ H d x ∧ Is G φ H e y := by
  obtain ⟨x, r, rfl, p, q⟩ := h
  obtain ⟨y, rfl, k⟩ := IsL.inv1 q
  exact ⟨x, y, rfl, p, k⟩
noncomputable def bLen (ds : List D) (S : Store) : ER := match ds with
  | [.str x] => if sz x.length then .ok (.int x.length) S else .bad
  | [d] => match seqD S d with
    | some es => .ok (.int es.length) S
    | none => .bad
  | _ => .bad
theorem seqD_sq {d : D} {v : V} {ds : List D} (s : SOk G φ S H) (i : Is G φ H d v) (e : seqD S d = some ds) : ∃ a xs, v = .ref a ∧ (SqL G.K H a xs ∨ SqT G.K H a xs) ∧ IsL G φ H ds xs := by
  unfold seqD at e
  split at e
  · obtain ⟨a, xs, e1, r, q⟩ := tupD_sq i e
    exact ⟨a, xs, e1, .inr r, q⟩
  · obtain ⟨a, xs, e1, r, q⟩ := listD_sq s i e
    exact ⟨a, xs, e1, .inl r, q⟩
theorem dc_len (hK : X.K = G.K) : DCall G X (.builtin "len") bLen := by
  refine ⟨_, call_len_seq.or call_len_str, fun W φ S H σ ds xs Q s i h => ?_⟩
  unfold bLen at h
  split at h
  · obtain ⟨x, rfl, k⟩ := IsL.inv1 i
    cases (show x = _ from k)
    split at h
    · exact .inr ⟨_, rfl, sizeLine_is (by assumption), h.now s rfl⟩
    · exact bad_no h
  · obtain ⟨x, rfl, k⟩ := IsL.inv1 i
    split at h
    · rename_i es e
      obtain ⟨a, ys, rfl, r, q⟩ := seqD_sq s k e
      refine .inl ⟨a, ys, rfl, by rw [hK]; exact r, ?_⟩
      rw [← q.length]
      exact h.now s rfl
    · exact bad_no h
  · exact bad_no h
def bII (g : Int → Int → Int) (ds : List D) (S : Store) : ER := match ds with
  | [.int i, .int j] => .ok (.int (g i j)) S
  | _ => .bad
def maxII (i j : Int) : Int := if j > i then j else i
def minII (i j : Int) : Int := if j < i then j else i
theorem dc_max2 (hc : X.calm = true) : DCall G X (.builtin "max") (bII maxII) := by
  refine ⟨_, call_max2 hc, fun W φ S H σ ds xs Q s i h => ?_⟩
  unfold bII at h
  split at h
  · obtain ⟨x, y, rfl, k, l⟩ := IsL.inv2 i
    cases (show x = _ from k); cases (show y = _ from l)
    exact ⟨_, _, rfl, h.now s rfl⟩
  · exact bad_no h
theorem dc_min2 (hc : X.calm = true) : DCall G X (.builtin "min") (bII minII) := by
  refine ⟨_, call_min2 hc, fun W φ S H σ ds xs Q s i h => ?_⟩
  unfold bII at h
  split at h
  · obtain ⟨x, y, rfl, k, l⟩ := IsL.inv2 i
    cases (show x = _ from k); cases (show y = _ from l)
    exact ⟨_, _, rfl, h.now s rfl⟩
  · exact bad_no h
def bAbs (ds : List D) (S : Store) : ER := match ds with
  | [.int i] => .ok (.int (if i < 0 then -i else i)) S
  | _ => .bad
def bInt (ds : List D) (S : Store) : ER := match ds with
  | [.int i] => .ok (.int i) S
  | [.bl b] => .ok (.int (if b then 1 else 0)) S
  | _ => .bad
theorem dc_int : DCall G X (.type "int") bInt := by
  refine ⟨_, call_int1, fun W φ S H σ ds xs Q s i h => ?_⟩
  unfold bInt at h
  split at h
  · obtain ⟨x, rfl, k⟩ := IsL.inv1 i
    cases (show x = _ from k)
    exact .inl ⟨_, rfl, h.now s rfl⟩
  · obtain ⟨x, rfl, k⟩ := IsL.inv1 i
    cases (show x = _ from k)
    exact .inr ⟨_, rfl, h.now s rfl⟩
  · exact bad_no h
def bList (ds : List D) (S : Store) : ER := match ds with
  | [d] => match seqD S d with
    | some es => .ok (.lst es) S
    | none => .bad
  | _ => .bad
theorem dc_list (hK : X.K = G.K) : DCall G X (.type "list") bList := by
  refine ⟨_, call_list_of, fun W φ S H σ ds xs Q s i h => ?_⟩
  unfold bList at h
  split at h
  · obtain ⟨x, rfl, k⟩ := IsL.inv1 i
    split at h
    · rename_i es e
      obtain ⟨a, ys, rfl, r, q⟩ := seqD_sq s k e
      exact ⟨a, ys, rfl, by rw [hK]; exact r, fun l hl => lst_new s q h hl⟩
    · exact bad_no h
  · exact bad_no h
def bListM (ds : List D) (S : Store) : ER := match ds with
  | [d] => match seqD S d with
    | some es => .ok (.loc S.length) (S ++ [.lst es])
    | none => .bad
  | _ => .bad
def bTuple (ds : List D) (S : Store) : ER := match ds with
  | [d] => match seqD S d with
    | some es => .ok (.tup es) S
    | none => .bad
  | _ => .bad
theorem dc_tuple (hK : X.K = G.K) : DCall G X (.type "tuple") bTuple := by
  refine ⟨_, call_tuple_of, fun W φ S H σ ds xs Q s i h => ?_⟩
  unfold bTuple at h
  split at h
  · obtain ⟨x, rfl, k⟩ := IsL.inv1 i
    split at h
    · rename_i es e
      unfold seqD at e
      split at e
      · obtain ⟨a, ys, rfl, r, q⟩ := id k
        cases e
        exact ⟨a, ys, rfl, .inr ⟨by rw [hK]; exact r.seq, h.now s ⟨a, ys, rfl, r, q⟩⟩⟩
      · obtain ⟨a, ys, rfl, r, q⟩ := listD_sq s k e
        exact ⟨a, ys, rfl, .inl ⟨by rw [hK]; exact r, fun l hl => tup_new s q h hl⟩⟩
    · exact bad_no h
  · exact bad_no h
/-- lists of one kind -/
def intsD : List D → Option (List Int)
  | [] => some []
  | .int i :: ds => (intsD ds).map (i :: ·)
  | _ :: _ => none
theorem intsD_map : ∀ ns : List Int, intsD (ns.map D.int) = some ns
  | [] => rfl
  | n :: ns => by simp [intsD, intsD_map ns]
def blsD : List D → Option (List Bool)
  | [] => some []
  | .bl i :: ds => (blsD ds).map (i :: ·)
  | _ :: _ => none
theorem blsD_map : ∀ ns : List Bool, blsD (ns.map D.bl) = some ns
  | [] => rfl
  | n :: ns => by simp [blsD, blsD_map ns]
def bAll (ds : List D) (S : Store) : ER := match ds with
  | [d] => match (listD S d).bind blsD with
    | some bs => .ok (.bl (bs.all id)) S
    | none => .bad
  | _ => .bad
def bAny (ds : List D) (S : Store) : ER := match ds with
  | [d] => match (listD S d).bind blsD with
    | some bs => .ok (.bl (bs.any id)) S
    | none => .bad
  | _ => .bad
def bSum (ds : List D) (S : Store) : ER := match ds with
  | [d] => match (listD S d).bind intsD with
    | some ns => .ok (.int ns.sum) S
    | none => .bad
  | _ => .bad
end
end DL
end
section
/-! D-layer, part 3: loops, comprehensions, more assignments, defs and their calls. -/
namespace DL
open PySem L2
variable [DL.Nm]

section
variable {G : Glb} {X : Cx} {W : WX}
/-! ### more assignments -/
/-- a, b = e1, e2 -/
def sPar (i j : Nat) (f : LM) : SM := fun e S => (f e S).bindS e fun ds S => match ds with
  | [a, b] => .nx ((e.set i (some a)).set j (some b)) S
  | _ => .bad
theorem ds_par {i j : Nat} {x y : Str} {a b : Expr} {f : LM} {px py pt pos : Pos} {kt k2 pt2} (hc : X.calm = true) (hN : X.N.Nodup) (hi : X.N[i]? = some x) (hj : X.N[j]? = some y) (hij : i ≠ j)
    (hx : X.env.scope.names.lookup x = some .local) (hy : X.env.scope.names.lookup y = some .local) (ha : DA G X W [a, b] f)
    (hw : swappedStores [.Tuple [.Name x px, .Name y py] kt pt] (.Tuple [a, b] k2 pt2) X.env = pure (some [x, y]))
    (hs : swapsWithSole [.Tuple [.Name x px, .Name y py] kt pt] (.Tuple [a, b] k2 pt2) pos.line X.env = pure false := by rfl) :
    DS G X W (.Assign [.Tuple [.Name x px, .Name y py] kt pt] (.Tuple [a, b] k2 pt2) pos) (sPar i j f) := by
  obtain ⟨t, p, q⟩ := ha
  refine ⟨_, ps_par hc hN hi hj hij hx hy p hw hs, fun σ H env φ S N s re h => ?_⟩
  refine q σ H env φ S _ s re (PostL.bindS re h fun ds S1 φ1 H1 vs e1 s1 i1 h1 => ?_)
  match ds, h1, i1 with
  | [d, d2], h1, i1 =>
    obtain ⟨v, w, rfl, k1, k2⟩ := IsL.inv2 i1
    exact ⟨v, w, rfl, h1 φ1 H1 _ .refl s1 (((re.ext e1).set k1 i).set k2 j)⟩
  | [], h1, _ => exact False.elim h1
  | [_], h1, _ => exact False.elim h1
  | _ :: _ :: _ :: _, h1, _ => exact False.elim h1
def sPar3 (i j l : Nat) (f : LM) : SM := fun e S => (f e S).bindS e fun ds S => match ds with
  | [a, b, c] => .nx (((e.set i (some a)).set j (some b)).set l (some c)) S
  | _ => .bad
/-- x op= e -/
def sAug (i : Nat) (g : D → D → Store → ER) (f : EM) : SM := fun e S => (eOp g (eVar i) f e S).bindS e fun d S => .nx (e.set i (some d)) S
theorem ds_aug {i : Nat} {x : Str} {e : Expr} {op : Operator} {g : D → D → Store → ER} {f : EM} {pos pos' : Pos} (hN : X.N.Nodup) (hi : X.N[i]? = some x) (hx : Loc X.env.scope x) (ho : DOp G X (inplaceOp op) g) (he : DE G X W e f)
    (hf : X.fn x = true ∨ X.env.scope.names.lookup x = some .local := by first | exact .inl rfl | exact .inr rfl) : DS G X W (.AugAssign (.Name x pos') op e pos) (sAug i g f) := by
  obtain ⟨r, hr, q⟩ := ho
  obtain ⟨t, p, qe⟩ := he
  refine ⟨_, ps_aug hN hi hx p hr hf, fun σ H env φ S N s re h => ?_⟩
  unfold sAug eOp eVar at h
  cases hv : env[i]? with
  | none => rw [hv] at h; exact False.elim h
  | some o =>
    cases o with
    | none => rw [hv] at h; exact False.elim h
    | some d =>
      rw [hv] at h
      obtain ⟨v, e1, k⟩ := re.2 i d hv
      refine ⟨v, e1, ?_⟩
      have h' : PostS G W φ H (((f env S).bind fun y S => g d y S).bindS env fun d S => .nx (env.set i (some d)) S) N := h
      have h2 : PostE G W φ H σ ((f env S).bind fun y S => g d y S) fun z H2 => N.nx (σ.set i (some z)) H2 :=
        PostE.bindS re h' fun d2 S2 φ2 H2 v2 e2 s2 i2 h2 => h2 φ2 H2 _ .refl s2 ((re.ext e2).set i2 i)
      refine qe σ H env φ S _ s re (PostE.bind h2 fun y S1 φ1 H1 vy e2 s1 i1 h3 => ?_)
      exact q W φ1 S1 H1 σ d y v vy _ s1 (k.ext e2) i1 h3

/-! ### what is walked -/
structure Feeds (G : Glb) (φ0 : Fi) (H0 : Hp) (J : It) (ds : List D) : Prop where
  go : ∀ φ S H (i : Nat) d, Kept φ0 H0 φ H → SOk G φ S H → ds[i]? = some d → J.go i H ∧ ∀ x H', J.yld i H x H' → Ext φ H φ H' ∧ SOk G φ S H' ∧ Is G φ H' d x
  stop : ∀ φ S H, Kept φ0 H0 φ H → SOk G φ S H → J.stop ds.length H
theorem Kept.trans {φ φ1 φ2 : Fi} {H H1 H2 : Hp} (a : Kept φ H φ1 H1) (b : Kept φ1 H1 φ2 H2) : Kept φ H φ2 H2 :=
  ⟨fun l x q => b.get l x (a.get l x q), fun x u n r hu => let ⟨n1, r1⟩ := a.rd x u n r hu; b.rd x u n1 r1 hu, fun x C dx fs n r => let ⟨n1, r1⟩ := a.ins x C dx fs n r; b.ins x C dx fs n1 r1, fun x o u n r => let ⟨n1, r1⟩ := a.frz x o u n r; b.frz x o u n1 r1, fun x u n r => let ⟨n1, r1⟩ := a.ext x u n r; b.ext x u n1 r1, fun x u n r => let ⟨n1, r1⟩ := a.xd x u n r; b.xd x u n1 r1, fun P q t => b.tab P q (a.tab P q t)⟩
def PostI (G : Glb) (W : WX) (φ : Fi) (H : Hp) (σ : St) (r : LR) (R : It → Hp → Prop) : Prop := match r with
  | .ok ds S => ∀ φ' H' J, Ext φ H φ' H' → SOk G φ' S H' → Feeds G φ' H' J ds → R J H'
  | .ex x S => ∀ φ' H' cls dx, Ext φ H φ' H' → SOk G φ' S H' → IsX G φ' H' x cls dx → W cls dx σ H'
  | .bad => False
def DI (G : Glb) (X : Cx) (W : WX) (tg e : Expr) (f : LM) : Prop :=
  ∃ wi, PI X tg e wi ∧ ∀ σ H env φ S R, SOk G φ S H → RepE G φ H σ env → PostI G W φ H σ (f env S) R → wi σ H R
theorem feeds_list {φ : Fi} {H : Hp} {a : Addr} {xs : List V} {ds : List D} (r : RdL G φ H a xs) (q : IsL G φ H ds xs) : Feeds G φ H (Itl G.K a) ds := by
  refine ⟨fun φ2 S2 H2 i d e s hd => ?_, fun φ2 S2 H2 e s => ⟨xs, (r.kept e).seq, by rw [q.length]; exact Nat.le_refl _⟩⟩
  obtain ⟨x, hx, k⟩ := q.get hd
  refine ⟨⟨xs, x, (r.kept e).seq, hx⟩, fun y H3 ⟨e3, hy⟩ => ?_⟩
  subst e3
  have z := hy xs (r.kept e).seq
  rw [hx] at z; cases z
  exact ⟨.refl, s, k.kept e⟩
theorem feeds_tup {φ : Fi} {H : Hp} {a : Addr} {xs : List V} {ds : List D} (r : RdT G φ H a xs) (q : IsL G φ H ds xs) : Feeds G φ H (Itt G.K a) ds := by
  refine ⟨fun φ2 S2 H2 i d e s hd => ?_, fun φ2 S2 H2 e s => ⟨xs, (r.kept e).seq, by rw [q.length]; exact Nat.le_refl _⟩⟩
  obtain ⟨x, hx, k⟩ := q.get hd
  refine ⟨⟨xs, x, (r.kept e).seq, hx⟩, fun y H3 ⟨e3, hy⟩ => ?_⟩
  subst e3
  have z := hy xs (r.kept e).seq
  rw [hx] at z; cases z
  exact ⟨.refl, s, k.kept e⟩
theorem PI.or {tg e : Expr} {w1 w2 : TI} (h1 : PI X tg e w1) (h2 : PI X tg e w2) : PI X tg e (fun σ H R => w1 σ H R ∨ w2 σ H R) :=
  ⟨fun pins s σ H R I h => h.elim (h1.run pins s σ H R I) (h2.run pins s σ H R I)⟩
/-- a text's signs -/
def signsD (x : Str) : List D := x.cps.toList.map fun c => .str ⟨#[c]⟩
theorem feeds_str {φ : Fi} {H : Hp} (x : Str) : Feeds G φ H (Its x) (signsD x) := by
  refine ⟨fun φ2 S2 H2 i d e s hd => ?_, fun φ2 S2 H2 e s => by show x.cps.size ≤ (signsD x).length; simp [signsD]⟩
  unfold signsD at hd
  rw [List.getElem?_map] at hd
  obtain ⟨c, e1, e2⟩ := Option.map_eq_some_iff.mp hd
  subst e2
  rw [Array.getElem?_toList] at e1
  refine ⟨(Array.getElem?_eq_some_iff.mp e1).1, fun y H3 ⟨e3, c', e4, e5⟩ => ?_⟩
  rw [e1] at e4
  cases e4
  subst e3 e5
  exact ⟨.refl, s, rfl⟩
def iSeq (f : EM) : LM := fun env S => (f env S).bindL fun d S => match d with
  | .lst ds => .ok ds S
  | .tup ds => .ok ds S
  | .str x => .ok (signsD x) S
  | _ => .bad
theorem di_seq {tg e : Expr} {f : EM} (hK : X.K = G.K) (he : DE G X W e f) : DI G X W tg e (iSeq f) := by
  obtain ⟨t, p, q⟩ := he
  refine ⟨_, PI.or (PI.or (pi_list p) (pi_tup p)) (pi_str p), fun σ H env φ S R s re h => ?_⟩
  unfold iSeq at h
  cases hr : f env S with
  | bad => rw [hr] at h; exact False.elim h
  | ex x S1 =>
    rw [hr] at h
    exact .inl (.inl (q σ H env φ S _ s re (by rw [hr]; exact h)))
  | ok d S1 =>
    rw [hr] at h
    cases d with
    | str x =>
      refine .inr (q σ H env φ S _ s re ?_)
      rw [hr]
      intro φ1 H1 v e1 s1 i1
      exact ⟨x, i1, h φ1 H1 _ e1 s1 (feeds_str x)⟩
    | lst ds =>
      refine .inl (.inl (q σ H env φ S _ s re ?_))
      rw [hr]
      intro φ1 H1 v e1 s1 i1
      obtain ⟨a, xs, rfl, r, il⟩ := i1
      refine ⟨a, rfl, ⟨xs, by rw [hK]; exact r.seq⟩, ?_⟩
      rw [hK]
      exact h φ1 H1 _ e1 s1 (feeds_list r il)
    | tup ds =>
      refine .inl (.inr (q σ H env φ S _ s re ?_))
      rw [hr]
      intro φ1 H1 v e1 s1 i1
      obtain ⟨a, xs, rfl, r, il⟩ := i1
      refine ⟨a, rfl, ⟨xs, by rw [hK]; exact r.seq⟩, ?_⟩
      rw [hK]
      exact h φ1 H1 _ e1 s1 (feeds_tup r il)
    | _ => exact False.elim h
def rangeD (lo : Int) (n : Nat) : List D := (List.range n).map fun i => .int (lo + (i : Nat))
theorem feeds_range {φ : Fi} {H : Hp} (lo : Int) (n : Nat) : Feeds G φ H (Itr lo n) (rangeD lo n) := by
  refine ⟨fun φ2 S2 H2 i d e s hd => ?_, fun φ2 S2 H2 e s => by show n ≤ (rangeD lo n).length; simp [rangeD]⟩
  unfold rangeD at hd
  rw [List.getElem?_map] at hd
  obtain ⟨j, e1, e2⟩ := Option.map_eq_some_iff.mp hd
  obtain ⟨hl, e3⟩ := List.getElem?_eq_some_iff.mp e1
  simp at hl e3
  subst e3 e2
  refine ⟨hl, fun x H3 ⟨e4, e5⟩ => ?_⟩
  subst e4 e5
  exact ⟨.refl, s, rfl⟩
def rOk (i : Int) : Prop := -4611686018427387904 ≤ i ∧ i < 4611686018427387904
noncomputable instance {i : Int} : Decidable (rOk i) := Classical.propDecidable _
theorem rOk.lo {i : Int} (h : rOk i) : -(2 ^ 62) ≤ i := by have := h.1; omega
theorem rOk.hi {i : Int} (h : rOk i) : i < 2 ^ 62 := by have := h.2; omega
noncomputable def iRange1 (f : LM) : LM := fun env S => (f env S).bind fun ds S => match ds with
  | [.int j] => if rOk j then .ok (rangeD 0 j.toNat) S else .bad
  | _ => .bad
noncomputable def iRange2 (f : LM) : LM := fun env S => (f env S).bind fun ds S => match ds with
  | [.int i, .int j] => if rOk i ∧ rOk j then .ok (rangeD i (j - i).toNat) S else .bad
  | _ => .bad
theorem PostL.toI {φ : Fi} {H : Hp} {σ : St} {r : LR} {g : List D → Store → LR} {R : It → Hp → Prop} {Q : List V → Hp → Prop} (h : PostI G W φ H σ (r.bind g) R)
    (k : ∀ d S φ' H' v, Ext φ H φ' H' → SOk G φ' S H' → IsL G φ' H' d v → PostI G W φ' H' σ (g d S) R → Q v H') : PostL G W φ H σ r Q := by
  cases r with
  | ok d S =>
    refine fun φ2 H2 v e s i => k d S φ2 H2 v e s i ?_
    have h' : PostI G W φ H σ (g d S) R := h
    cases hg : g d S with
    | ok ds S2 => rw [hg] at h'; exact fun φ3 H3 J e3 s3 f => h' φ3 H3 J (e.trans e3) s3 f
    | ex x S2 => rw [hg] at h'; exact fun φ3 H3 c dx e3 s3 f => h' φ3 H3 c dx (e.trans e3) s3 f
    | bad => rw [hg] at h'; exact h'
  | ex x S => exact h
  | bad => exact h
theorem di_range1 {tg a : Expr} {p pos : Pos} {f : LM} (hg : Gl X "range") (hm : X.mg "range" = none) (ha : DA G X W [a] f) (hs : starEach [a] X.env = [(false, eval a X.env)] := by rfl) : DI G X W tg (.Call (.Name "range" p) [a] [] pos) (iRange1 f) := by
  obtain ⟨t, pt, q⟩ := ha
  refine ⟨_, pi_range1 hg hm pt hs, fun σ H env φ S R s re h => ?_⟩
  refine q σ H env φ S _ s re (PostL.toI h fun ds S1 φ1 H1 vs e1 s1 i1 h1 => ?_)
  split at h1
  · rename_i j
    obtain ⟨x, rfl, k⟩ := IsL.inv1 i1
    cases (show x = _ from k)
    split at h1
    · rename_i hj
      exact ⟨j, rfl, hj.lo, hj.hi, h1 φ1 H1 _ .refl s1 (feeds_range 0 j.toNat)⟩
    · exact False.elim h1
  · exact False.elim h1
/-- enumerate of a list -/
def enumD : Nat → List D → List D
  | _, [] => []
  | n, d :: ds => .tup [.int (n : Nat), d] :: enumD (n + 1) ds
theorem enumD_length : ∀ (n : Nat) (ds : List D), (enumD n ds).length = ds.length
  | _, [] => rfl
  | n, d :: ds => by simp [enumD, enumD_length (n + 1) ds]
theorem enumD_get : ∀ (n : Nat) (ds : List D) (i : Nat) (d : D), (enumD n ds)[i]? = some d → ∃ e, ds[i]? = some e ∧ d = .tup [.int ((n + i : Nat) : Int), e]
  | _, [], _, _, h => by simp [enumD] at h
  | n, d :: ds, 0, d', h => by
    simp [enumD] at h
    exact ⟨d, rfl, h.symm⟩
  | n, d :: ds, i + 1, d', h => by
    obtain ⟨e, e1, e2⟩ := enumD_get (n + 1) ds i d' (by simpa [enumD] using h)
    exact ⟨e, by simpa using e1, by rw [e2, show n + 1 + i = n + (i + 1) by omega]⟩
def iEnumD (f : LM) : LM := fun env S => (f env S).bind fun ds S => match ds with
  | [.lst ds] => .ok (enumD 0 ds) S
  | _ => .bad
/-- zip of two lists -/
def zipD : List D → List D → List D
  | d :: ds, e :: es => .tup [d, e] :: zipD ds es
  | _, _ => []
def iZipD (f : LM) : LM := fun env S => (f env S).bind fun ds S => match ds with
  | [.lst ds, .lst es] => .ok (zipD ds es) S
  | _ => .bad
/-! ### for, while -/
def forD (b : D → EnvD → Option EnvD) (body : SM) : List D → SM
  | [], e, S => .nx e S
  | d :: ds, e, S => match b d e with
    | none => .bad
    | some e1 => match body e1 S with
      | .nx e2 S2 => forD b body ds e2 S2
      | .ct e2 S2 => forD b body ds e2 S2
      | .bk e2 S2 => .nx e2 S2
      | .rt d S2 => .rt d S2
      | .ex x e2 S2 => .ex x e2 S2
      | .bad => .bad
def sFor (f : LM) (b : D → EnvD → Option EnvD) (body : SM) : SM := fun e S => (f e S).bindS e fun ds S => forD b body ds e S
theorem PostI.ofS {φ : Fi} {H : Hp} {σ : St} {env : EnvD} (re : RepE G φ H σ env) {r : LR} {g : List D → Store → SR} {N : Ends} {R : It → Hp → Prop} (h : PostS G W φ H (r.bindS env g) N)
    (k : ∀ ds S φ' H' J, Ext φ H φ' H' → SOk G φ' S H' → Feeds G φ' H' J ds → PostS G W φ' H' (g ds S) N → R J H') : PostI G W φ H σ r R := by
  cases r with
  | ok d S => exact fun φ2 H2 J e s i => k d S φ2 H2 J e s i (PostS.ext (r := g d S) e h)
  | ex x S => exact fun φ2 H2 c d e s i => h φ2 H2 σ c d e s (re.ext e) i
  | bad => exact h
theorem ds_for {tg iter : Expr} {body : List Stmt} {pos : Pos} {f : LM} {b : D → EnvD → Option EnvD} {vs : List Nat} {g : SM} (hp : PassesOwn (model X.prog X.w) X.A X.env X.xe) (hc : X.calm = true) (hi : DI G X W tg iter f) (hg : DG G X tg b vs) (hb : DSs G X W body g) (hs : ∀ x, foldedSetIterable iter X.env x = pure x := by intro _; rfl) : DS G X W (.For tg iter body [] pos) (sFor f b g) := by
  obtain ⟨wi, pI, qi⟩ := hi
  obtain ⟨tgd, pg, qg⟩ := hg
  obtain ⟨tb, pb, qb⟩ := hb
  refine ⟨_, ps_for hp hc pI pg pb hs, fun σ H env φ S N s re h => ?_⟩
  refine qi σ H env φ S _ s re (PostI.ofS re h fun ds S1 φ1 H1 J e1 s1 fd h1 => ?_)
  refine ⟨fun i m σ2 H2 => m = ds.length - i ∧ i ≤ ds.length ∧ ∃ env2 φ2 S2, Ext φ1 H1 φ2 H2 ∧ SOk G φ2 S2 H2 ∧ RepE G φ2 H2 σ2 env2 ∧ PostS G W φ2 H2 (forD b g (ds.drop i) env2 S2) N,
    ⟨ds.length, by simp, Nat.zero_le _, env, φ1, S1, .refl, s1, re.ext e1, h1⟩, ?_⟩
  rintro i m σ2 H2 ⟨rfl, hi, env2, φ2, S2, e2, s2, r2, h2⟩
  by_cases hl : i < ds.length
  · right
    have hd : ds[i]? = some ds[i] := List.getElem?_eq_getElem hl
    obtain ⟨go, gy⟩ := fd.go φ2 S2 H2 i ds[i] e2.kept s2 hd
    rw [List.drop_eq_getElem_cons hl] at h2
    refine ⟨go, fun σ' H' => i + 1 ≤ ds.length ∧ ∃ env3 φ3 S3, Ext φ1 H1 φ3 H' ∧ SOk G φ3 S3 H' ∧ RepE G φ3 H' σ' env3 ∧ PostS G W φ3 H' (forD b g (ds.drop (i + 1)) env3 S3) N, fun σ' H' w => ⟨ds.length - (i + 1), by omega, rfl, w⟩, fun x H' hy => ?_⟩
    obtain ⟨e3, s3, k3⟩ := gy x H' hy
    unfold forD at h2
    cases hb1 : b ds[i] env2 with
    | none => rw [hb1] at h2; exact False.elim h2
    | some env3 =>
      rw [hb1] at h2
      refine qg x ds[i] σ2 H' env2 env3 φ2 _ k3 (r2.ext e3) hb1 fun σ3 r3 _ => ?_
      refine qb σ3 H' env3 φ2 S2 _ s3 r3 ?_
      dsimp only at h2
      cases hg1 : g env3 S2 with
      | nx e S =>
        rw [hg1] at h2
        exact fun φ4 H4 σ4 e4 s4 r4 => ⟨by omega, _, φ4, _, (e2.trans e3).trans e4, s4, r4, PostS.ext (e3.trans e4) h2⟩
      | ct e S =>
        rw [hg1] at h2
        exact fun φ4 H4 σ4 e4 s4 r4 => ⟨by omega, _, φ4, _, (e2.trans e3).trans e4, s4, r4, PostS.ext (e3.trans e4) h2⟩
      | bk e S =>
        rw [hg1] at h2
        exact fun φ4 H4 σ4 e4 s4 r4 => h2 φ4 H4 σ4 (e3.trans e4) s4 r4
      | rt d S =>
        rw [hg1] at h2
        exact fun φ4 H4 v e4 s4 r4 => h2 φ4 H4 v (e3.trans e4) s4 r4
      | ex x e S =>
        rw [hg1] at h2
        exact fun φ4 H4 σ4 c dx e4 s4 r4 ix => h2 φ4 H4 σ4 c dx (e3.trans e4) s4 r4 ix
      | bad => rw [hg1] at h2; exact False.elim h2
  · left
    have e : i = ds.length := by omega
    subst e
    rw [List.drop_length] at h2
    exact ⟨fd.stop φ2 S2 H2 e2.kept s2, h2 φ2 H2 σ2 .refl s2 r2⟩

/-- the most turns of a while -/
def bigN : Nat := 2 ^ 64
def whileD (c : EM) (body : SM) : Nat → SM
  | 0, _, _ => .bad
  | n + 1, e, S => match c e S with
    | .ok (.bl true) S1 => match body e S1 with
      | .nx e2 S2 => whileD c body n e2 S2
      | .ct e2 S2 => whileD c body n e2 S2
      | .bk e2 S2 => .nx e2 S2
      | .rt d S2 => .rt d S2
      | .ex x e2 S2 => .ex x e2 S2
      | .bad => .bad
    | .ok (.bl false) S1 => .nx e S1
    | .ex x S1 => .ex x e S1
    | _ => .bad
def sWhile (c : EM) (body : SM) : SM := whileD c body bigN
theorem ds_while {c : Expr} {body : List Stmt} {pos : Pos} {f : EM} {g : SM} (hp : PassesOwn (model X.prog X.w) X.A X.env X.xe) (hc : DT G X W c f) (hb : DSs G X W body g) : DS G X W (.While c body [] pos) (sWhile f g) := by
  obtain ⟨tc, pc, qc⟩ := hc
  obtain ⟨tb, pb, qb⟩ := hb
  refine ⟨_, ps_while hp pc pb, fun σ H env φ S N s re h => ?_⟩
  refine ⟨fun m σ2 H2 => ∃ env2 φ2 S2, Ext φ H φ2 H2 ∧ SOk G φ2 S2 H2 ∧ RepE G φ2 H2 σ2 env2 ∧ PostS G W φ2 H2 (whileD f g m env2 S2) N, ⟨bigN, env, φ, S, .refl, s, re, h⟩, ?_⟩
  rintro m σ2 H2 ⟨env2, φ2, S2, e2, s2, r2, h2⟩
  cases m with
  | zero => exact False.elim h2
  | succ m =>
    unfold whileD at h2
    refine qc σ2 H2 env2 φ2 S2 _ s2 r2 ?_
    cases hr : f env2 S2 with
    | bad => rw [hr] at h2; exact False.elim h2
    | ex x S3 =>
      rw [hr] at h2
      exact fun φ4 H4 c d e s i => h2 φ4 H4 σ2 c d e s (r2.ext e) i
    | ok d S3 =>
      rw [hr] at h2
      cases d with
      | bl k =>
        intro φ3 H3 v e3 s3 i b eb
        cases (show v = .bl k from i)
        cases eb
        cases k with
        | false => exact iteF (h2 φ3 H3 σ2 e3 s3 (r2.ext e3))
        | true =>
          refine iteT ⟨fun σ' H' => ∃ env3 φ3 S3, Ext φ H φ3 H' ∧ SOk G φ3 S3 H' ∧ RepE G φ3 H' σ' env3 ∧ PostS G W φ3 H' (whileD f g m env3 S3) N, fun σ' H' w => ⟨m, by omega, w⟩, ?_⟩
          refine qb σ2 H3 env2 φ3 S3 _ s3 (r2.ext e3) ?_
          dsimp only at h2
          cases hg1 : g env2 S3 with
          | nx e S =>
            rw [hg1] at h2
            exact fun φ4 H4 σ4 e4 s4 r4 => ⟨_, φ4, _, (e2.trans e3).trans e4, s4, r4, PostS.ext (e3.trans e4) h2⟩
          | ct e S =>
            rw [hg1] at h2
            exact fun φ4 H4 σ4 e4 s4 r4 => ⟨_, φ4, _, (e2.trans e3).trans e4, s4, r4, PostS.ext (e3.trans e4) h2⟩
          | bk e S =>
            rw [hg1] at h2
            exact fun φ4 H4 σ4 e4 s4 r4 => h2 φ4 H4 σ4 (e3.trans e4) s4 r4
          | rt d S =>
            rw [hg1] at h2
            exact fun φ4 H4 v e4 s4 r4 => h2 φ4 H4 v (e3.trans e4) s4 r4
          | ex x e S =>
            rw [hg1] at h2
            exact fun φ4 H4 σ4 c dx e4 s4 r4 ix => h2 φ4 H4 σ4 c dx (e3.trans e4) s4 r4 ix
          | bad => rw [hg1] at h2; exact False.elim h2
      | _ => exact False.elim h2

/-! ### list comprehensions -/
def DTs (G : Glb) (X : Cx) (W : WX) (ifs : List Expr) (f : EM) : Prop :=
  ∃ t, PTs X ifs t ∧ ∀ σ H env φ S Q, SOk G φ S H → RepE G φ H σ env → PostT G W φ H σ (f env S) Q → t σ H Q
def eYes : EM := fun _ S => .ok (.bl true) S
theorem dts_nil : DTs G X W [] eYes := ⟨_, pts_nil, fun σ H env φ S Q s re h => h.now s⟩
theorem dts_one {c : Expr} {f : EM} (h : DT G X W c f) : DTs G X W [c] f := let ⟨_, p, q⟩ := h; ⟨_, pts_one p, q⟩
noncomputable def lcD (b : D → EnvD → Option EnvD) (tt elt : EM) (env : EnvD) : List D → List D → Store → LR
  | acc, [], S => .ok acc S
  | acc, d :: ds, S => match b d env with
    | none => .bad
    | some e1 => match tt e1 S with
      | .ok (.bl true) S1 => match elt e1 S1 with
        | .ok y S2 => if sz (acc.length + 1) then lcD b tt elt env (acc ++ [y]) ds S2 else .bad
        | _ => .bad
      | .ok (.bl false) S1 => lcD b tt elt env acc ds S1
      | _ => .bad
noncomputable def eLc (f : LM) (b : D → EnvD → Option EnvD) (tt elt : EM) (vs : List Nat) : EM := fun env S => (f env S).bindE fun ds S => (lcD b tt elt (wipeD env vs) [] ds S).bindE fun ys S => .ok (.lst ys) S
/-- kept as a cell -/
noncomputable def eLcM (f : LM) (b : D → EnvD → Option EnvD) (tt elt : EM) (vs : List Nat) : EM := fun env S => (f env S).bindE fun ds S => (lcD b tt elt (wipeD env vs) [] ds S).bindE fun ys S => .ok (.loc S.length) (S ++ [.lst ys])
theorem wipe_at {σ : St} {j : Nat} : ∀ {vs : List Nat}, j ∈ vs → j < σ.length → (wipe σ vs)[j]? = some none
  | v :: vs, h, hl => by
    unfold L2.wipe
    by_cases q : v = j
    · subst q
      rw [List.getElem?_set_self (by rw [wipe_length]; exact hl)]
    · rw [List.getElem?_set_ne q]
      exact wipe_at ((List.mem_cons.mp h).resolve_left fun z => q z.symm) hl
theorem wipe_off {σ σ2 : St} {vs ws : List Nat} (hs : ∀ j ∈ vs, j ∈ ws) (o : Off vs (wipe σ ws) σ2) : wipe σ2 ws = wipe σ ws := by
  apply List.ext_getElem?
  intro j
  by_cases hj : j ∈ ws
  · by_cases hl : j < σ.length
    · rw [wipe_at hj hl, wipe_at hj (by rw [o.1, wipe_length]; exact hl)]
    · rw [List.getElem?_eq_none (by rw [wipe_length, o.1, wipe_length]; omega), List.getElem?_eq_none (by rw [wipe_length]; omega)]
  · rw [wipe_out hj, o.2 j fun z => hj (hs j z)]
theorem lcD_noex {b : D → EnvD → Option EnvD} {tt elt : EM} {env : EnvD} {x : Exc} {S2 : Store} : ∀ {ds acc : List D} {S : Store}, lcD b tt elt env acc ds S = .ex x S2 → False
  | [], _, _, h => by cases h
  | d :: ds, acc, S, h => by
    unfold lcD at h
    split at h
    · cases h
    · split at h
      · split at h
        · split at h
          · exact lcD_noex h
          · cases h
        · cases h
      · exact lcD_noex h
      · cases h
/-- a state of a comprehension that fills D0, from the state ahead of it -/
structure Lk (φ1 : Fi) (H1 : Hp) (D0 : Addr) (φ2 : Fi) (H2 : Hp) : Prop where
  ext : Ext φ1 H1 ⟨φ2.c, φ1.h⟩ H2
  hid : φ2.h = D0 :: φ1.h
  tab : ∀ P q, TabX φ1 H1 P q → TabX φ2 H2 P q
theorem Lk.mem0 {φ1 φ2 : Fi} {H1 H2 : Hp} {D0 : Addr} (l : Lk φ1 H1 D0 φ2 H2) : D0 ∈ φ2.h := by rw [l.hid]; exact List.mem_cons_self
theorem Lk.ext' {φ1 φ2 φ3 : Fi} {H1 H2 H3 : Hp} {D0 : Addr} (l : Lk φ1 H1 D0 φ2 H2) (e : Ext φ2 H2 φ3 H3) : Lk φ1 H1 D0 φ3 H3 :=
  ⟨l.ext.transL l.tab (fun x m => by rw [l.hid]; exact List.mem_cons_of_mem _ m) e, e.hid.trans l.hid, fun P q t => e.tab (l.tab P q t)⟩
theorem Lk.put {φ1 φ2 : Fi} {H1 H2 : Hp} {D0 : Addr} {o : HO} (l : Lk φ1 H1 D0 φ2 H2) (hD : H1 D0 = none) : Lk φ1 H1 D0 φ2 (upd H2 D0 o) :=
  have tb : ∀ P q, TabX φ1 H1 P q → TabX φ2 (upd H2 D0 o) P q := fun P q t => (Kept.hidden l.mem0).tab P q (l.tab P q t)
  ⟨⟨l.ext.pre, rfl, fun a u n q => by
    rw [upd_ne (ne_of_none q hD)]
    exact (l.ext.keep a u n q).imp id fun ⟨ps, ps', z1, z2, z3, _⟩ => ⟨ps, ps', z1, z2, z3, fun q' t' => (tb _ _ t').mono fun x (n : φ2.out x) => ⟨n.1, fun m => n.2 (by rw [l.hid]; exact List.mem_cons_of_mem _ m)⟩⟩⟩, l.hid, tb⟩
theorem Lk.start {φ1 : Fi} {H1 : Hp} {D0 : Addr} {o : HO} (hD : H1 D0 = none) : Lk φ1 H1 D0 (φ1.hide D0) (upd H1 D0 o) := ⟨.laid hD, rfl, fun P q t => (Kept.hide hD).tab P q t⟩
theorem Lk.mem {φ1 φ2 : Fi} {H1 H2 : Hp} {D0 : Addr} (l : Lk φ1 H1 D0 φ2 H2) : D0 ∈ φ2.h := by rw [l.hid]; exact List.mem_cons_self
def PostLc (G : Glb) (φ1 : Fi) (H1 : Hp) (D0 : Addr) (r : LR) (Q : Hp → Prop) : Prop := match r with
  | .ok ds S => ∀ φ' H' xs, Lk φ1 H1 D0 φ' H' → SOk G φ' S H' → H' D0 = some (.lst xs) → IsL G φ' H' ds xs → Q H'
  | _ => False
theorem lc_loop {J : It} {g : TG} {tt : TT} {te : TE} {b : D → EnvD → Option EnvD} {ft fe : EM} {vs ws : List Nat} {σ : St} {env : EnvD} {φ1 : Fi} {H1 : Hp} {S1 : Store} {ds : List D} {D0 : Addr} {Qd : Hp → Prop} {WB WB' : WX}
    (qg : ∀ v d σ H env env' φ Q, Is G φ H d v → RepE G φ H σ env → b d env = some env' → (∀ σ', RepE G φ H σ' env' → Off vs σ σ' → Q σ' H) → g v σ H Q)
    (qt : ∀ σ H env φ S Q, SOk G φ S H → RepE G φ H σ env → PostT G WB φ H σ (ft env S) Q → tt σ H Q)
    (qe : ∀ σ H env φ S Q, SOk G φ S H → RepE G φ H σ env → PostE G WB' φ H σ (fe env S) Q → te σ H Q)
    (hs : ∀ j ∈ vs, j ∈ ws) (s1 : SOk G φ1 S1 H1) (re : RepE G φ1 H1 σ env) (fd : Feeds G φ1 H1 J ds) (hD : H1 D0 = none)
    (h : PostLc G φ1 H1 D0 (lcD b ft fe (wipeD env ws) [] ds S1) Qd) :
    ∃ Wt : Nat → Nat → Hp → Prop, (∃ m, Wt 0 m (upd H1 D0 (.lst []))) ∧ ∀ i m H, Wt i m H →
      (J.stop i H ∧ Qd H) ∨ (J.go i H ∧ ∃ Nx : Hp → Prop, (∀ H', Nx H' → ∃ m', m' < m ∧ Wt (i + 1) m' H') ∧ ∀ x H', J.yld i H x H' → g x (wipe σ ws) H' fun σ2 H2 => wipe σ2 ws = wipe σ ws ∧ tt σ2 H2 fun b H3 =>
        if b = true then te σ2 H3 fun y H4 => ∃ acc, H4 D0 = some (.lst acc) ∧ acc.length < sizeLine ∧ Nx (upd H4 D0 (.lst (acc ++ [y]))) else Nx H3) := by
  let Go : Nat → Hp → Prop := fun i H2 => i ≤ ds.length ∧ ∃ φ2 S2 accD acc, Kept φ1 H1 φ2 H2 ∧ Lk φ1 H1 D0 φ2 H2 ∧ SOk G φ2 S2 H2 ∧ H2 D0 = some (.lst acc) ∧ IsL G φ2 H2 accD acc ∧ PostLc G φ1 H1 D0 (lcD b ft fe (wipeD env ws) accD (ds.drop i) S2) Qd
  refine ⟨fun i m H2 => m = ds.length - i ∧ Go i H2, ⟨ds.length, by simp, Nat.zero_le _, φ1.hide D0, S1, [], [], Kept.hide hD, .start hD, s1.hide hD, upd_same, rfl, h⟩, ?_⟩
  rintro i m H2 ⟨rfl, hi, φ2, S2, accD, acc, k2, l2, s2, hacc, il, h2⟩
  by_cases hl : i < ds.length
  · right
    have hd : ds[i]? = some ds[i] := List.getElem?_eq_getElem hl
    obtain ⟨go, gy⟩ := fd.go φ2 S2 H2 i ds[i] k2 s2 hd
    rw [List.drop_eq_getElem_cons hl] at h2
    refine ⟨go, Go (i + 1), fun H' w => ⟨ds.length - (i + 1), by omega, rfl, w⟩, fun x H' hy => ?_⟩
    obtain ⟨e3, s3, k3⟩ := gy x H' hy
    have nc : D0 ∉ φ2.c := (s2.hid D0 l2.mem).1
    have r3 : RepE G φ2 H' (wipe σ ws) (wipeD env ws) := ((re.wipe ws).kept k2).ext e3
    unfold lcD at h2
    cases hb1 : b ds[i] (wipeD env ws) with
    | none => rw [hb1] at h2; exact False.elim h2
    | some env3 =>
      rw [hb1] at h2
      dsimp only at h2
      refine qg x ds[i] _ H' _ env3 φ2 _ k3 r3 hb1 fun σ3 r4 o3 => ⟨wipe_off hs o3, ?_⟩
      refine qt σ3 H' env3 φ2 S2 _ s3 r4 ?_
      cases ht : ft env3 S2 with
      | bad => rw [ht] at h2; exact False.elim h2
      | ex x S3 => rw [ht] at h2; exact False.elim h2
      | ok d S3 =>
        rw [ht] at h2
        cases d with
        | bl k =>
          intro φ4 H4 v e4 s4 i4 b' eb
          cases (show v = .bl k from i4)
          cases eb
          have e24 := e3.trans e4
          cases k with
          | false =>
            exact iteF ⟨by omega, φ4, S3, accD, acc, k2.trans e24.kept, l2.ext' e24, s4, e24.keepE nc hacc, il.ext e24, h2⟩
          | true =>
            refine iteT (qe σ3 H4 env3 φ4 S3 _ s4 (r4.ext e4) ?_)
            dsimp only at h2
            cases he : fe env3 S3 with
            | bad => rw [he] at h2; exact False.elim h2
            | ex x S5 => rw [he] at h2; exact False.elim h2
            | ok y S5 =>
              rw [he] at h2
              dsimp only at h2
              by_cases hz : sz (accD.length + 1)
              · rw [if_pos hz] at h2
                intro φ5 H5 v5 e5 s5 i5
                have e25 := e24.trans e5
                have l5 := l2.ext' e25
                have kh : Kept φ5 H5 φ5 (upd H5 D0 (.lst (acc ++ [v5]))) := .hidden l5.mem
                exact ⟨acc, e25.keepE nc hacc, by rw [← il.length, sizeLine_eq]; exact hz, by omega, φ5, S5, accD ++ [y], acc ++ [v5], (k2.trans e25.kept).trans kh, l5.put hD, s5.hidden l5.mem, upd_same, ((il.ext e25).append (.one i5)).kept kh, h2⟩
              · rw [if_neg hz] at h2; exact False.elim h2
        | _ => exact False.elim h2
  · left
    have e : i = ds.length := by omega
    subst e
    rw [List.drop_length] at h2
    exact ⟨fd.stop φ2 S2 H2 k2 s2, h2 φ2 H2 acc l2 s2 hacc il⟩
theorem PostI.ofE {φ : Fi} {H : Hp} {σ : St} {r : LR} {g : List D → Store → ER} {Q : VK} {R : It → Hp → Prop} (h : PostE G W φ H σ (r.bindE g) Q)
    (k : ∀ ds S φ' H' J, Ext φ H φ' H' → SOk G φ' S H' → Feeds G φ' H' J ds → PostE G W φ' H' σ (g ds S) Q → R J H') : PostI G W φ H σ r R := by
  cases r with
  | ok d S => exact fun φ2 H2 J e s i => k d S φ2 H2 J e s i (PostE.ext (r := g d S) e h)
  | ex x S => exact h
  | bad => exact h
/-- the finished list is no more hidden -/
theorem Lk.done {φ1 φ2 : Fi} {H1 H2 : Hp} {D0 : Addr} {S S0 : Store} {ds : List D} {xs : List V} (l : Lk φ1 H1 D0 φ2 H2) (s1 : SOk G φ1 S0 H1) (hD : H1 D0 = none) (s : SOk G φ2 S H2) (hx : H2 D0 = some (.lst xs)) (il : IsL G φ2 H2 ds xs) :
    SOk G ⟨φ2.c, φ1.h⟩ S H2 ∧ Is G ⟨φ2.c, φ1.h⟩ H2 (.lst ds) (.ref D0) := by
  have e : φ2 = (Fi.mk φ2.c φ1.h).hide D0 := by
    obtain ⟨c, h⟩ := φ2
    have := l.hid
    simp only at this
    subst this
    rfl
  have nc : D0 ∉ φ2.c := (s.hid D0 l.mem).1
  rw [e] at s il
  exact ⟨s.show_, D0, xs, rfl, .inl ⟨⟨nc, s1.freshh hD⟩, .inl hx⟩, il.kept Kept.show_⟩
/-! canonical readings: they hang on no context -/
def tOf (G : Glb) (W : WX) (f : EM) : TE := fun σ H Q => ∃ env φ S, SOk G φ S H ∧ RepE G φ H σ env ∧ PostE G W φ H σ (f env S) Q
def tOfT (G : Glb) (W : WX) (f : EM) : TT := fun σ H Q => ∃ env φ S, SOk G φ S H ∧ RepE G φ H σ env ∧ PostT G W φ H σ (f env S) Q
def gOf (G : Glb) (b : D → EnvD → Option EnvD) (vs : List Nat) : TG := fun v σ H Q => ∃ d env env' φ, Is G φ H d v ∧ RepE G φ H σ env ∧ b d env = some env' ∧ ∀ σ', RepE G φ H σ' env' → Off vs σ σ' → Q σ' H
theorem DE.can {e : Expr} {f : EM} (h : DE G X W e f) : PE X e (tOf G W f) := by
  obtain ⟨t, p, q⟩ := h
  exact ⟨fun pins s σ H Q I ⟨env, φ, S, so, r, z⟩ => p.run pins s σ H Q I (q σ H env φ S Q so r z)⟩
theorem DTs.can {e : List Expr} {f : EM} (h : DTs G X W e f) : PTs X e (tOfT G W f) := by
  obtain ⟨t, p, q⟩ := h
  exact ⟨fun pins s σ H Q I ⟨env, φ, S, so, r, z⟩ => p.run pins s σ H Q I (q σ H env φ S Q so r z)⟩
theorem DG.can {e : Expr} {b : D → EnvD → Option EnvD} {vs : List Nat} (h : DG G X e b vs) : PG X e (gOf G b vs) := by
  obtain ⟨g, p, q⟩ := h
  exact ⟨fun pins s σ H v u Q I r ⟨d, env, env', φ, i, re, z, k⟩ => p.run pins s σ H v u Q I r (q v d σ H env env' φ Q i re z k)⟩
/-- nothing leaves a comprehension -/
abbrev W0 : WX := fun _ _ _ _ => False
section
variable {elt tg iter : Expr} {ifs : List Expr} {scope : Scope} {own : List (Str × Nat)} {pos : Pos} {f : LM} {b : D → EnvD → Option EnvD} {ft fe : EM} {vs : List Nat}
theorem lc_read {wi : TI} (qi : ∀ σ H env φ S R, SOk G φ S H → RepE G φ H σ env → PostI G W φ H σ (f env S) R → wi σ H R) (hvs : ∀ j ∈ vs, j ∈ own.map (·.2)) {Q : VK} {R : ER → Prop}
    {σ : St} {H : Hp} {env : EnvD} {φ : Fi} {S : Store} (s : SOk G φ S H) (re : RepE G φ H σ env) (h : PostE G W φ H σ (eLc f b ft fe (own.map (·.2)) env S) Q) :
    tLc wi (gOf G b vs) (tOfT G W0 ft) (tOf G W0 fe) (own.map (·.2)) σ H Q := by
  refine qi σ H env φ S _ s re (PostI.ofE h fun ds S1 φ1 H1 J e1 s1 fd h1 D0 hD => ?_)
  refine lc_loop (env := env) (fun v d σ H env env' φ Q i r z k => ⟨d, env, env', φ, i, r, z, k⟩) (fun σ H env φ S Q s r z => ⟨env, φ, S, s, r, z⟩) (fun σ H env φ S Q s r z => ⟨env, φ, S, s, r, z⟩) hvs s1 (re.ext e1) fd hD ?_
  cases hr : lcD b ft fe (wipeD env (own.map (·.2))) [] ds S1 with
  | ok ys S2 =>
    rw [hr] at h1
    intro φ2 H2 xs l2 s2 hx il
    obtain ⟨s3, i3⟩ := l2.done s1 hD s2 hx il
    exact h1 _ H2 _ l2.ext s3 i3
  | ex x S2 => exact absurd hr (fun z => lcD_noex z)
  | bad => rw [hr] at h1; exact h1
theorem de_lc (hc : X.calm = true) (hN : X.N.Nodup) (hi : DI G X W tg iter f) (ok : BlkOk X.N X.env.scope scope own)
    (hg : ∀ (s : Shared) (H : Hp) (C : Addr) (cl : List (Str × Addr)) (fp : List Addr), DG G (X.blk s H scope (compEnvC scope cl C X.env) fp) tg b vs)
    (ht : ∀ (s : Shared) (H : Hp) (C : Addr) (cl : List (Str × Addr)) (fp : List Addr), DTs G (X.blk s H scope (compEnvC scope cl C X.env) fp) W0 ifs ft)
    (he : ∀ (s : Shared) (H : Hp) (C : Addr) (cl : List (Str × Addr)) (fp : List Addr), DE G (X.blk s H scope (compEnvC scope cl C X.env) fp) W0 elt fe)
    (hvs : ∀ j ∈ vs, j ∈ own.map (·.2)) (hs : ∀ x, foldedSetIterable iter X.env x = pure x := by intro _; rfl) : DE G X W (.ListComp elt [⟨tg, iter, ifs, 0⟩] scope pos) (eLc f b ft fe (own.map (·.2))) := by
  obtain ⟨wi, pI, qi⟩ := hi
  exact ⟨_, pe_lc hc hN pI ok (fun s H C cl fp => (hg s H C cl fp).can) (fun s H C cl fp => (ht s H C cl fp).can) (fun s H C cl fp => (he s H C cl fp).can) hs, fun σ H env φ S Q s re h => lc_read (R := fun _ => True) qi hvs s re h⟩
theorem ds_setLc {i : Nat} {y : Str} {py spos : Pos} (hc : X.calm = true) (hN : X.N.Nodup) (hi : DI G X W tg iter f) (ok : BlkOk X.N X.env.scope scope own)
    (hg : ∀ (s : Shared) (H : Hp) (C : Addr) (cl : List (Str × Addr)) (fp : List Addr), DG G (X.blk s H scope (compEnvC scope cl C X.env) fp) tg b vs)
    (ht : ∀ (s : Shared) (H : Hp) (C : Addr) (cl : List (Str × Addr)) (fp : List Addr), DTs G (X.blk s H scope (compEnvC scope cl C X.env) fp) W0 ifs ft)
    (he : ∀ (s : Shared) (H : Hp) (C : Addr) (cl : List (Str × Addr)) (fp : List Addr), DE G (X.blk s H scope (compEnvC scope cl C X.env) fp) W0 elt fe)
    (hvs : ∀ j ∈ vs, j ∈ own.map (·.2)) (hy : X.N[i]? = some y) (hyl : X.env.scope.names.lookup y = some .local)
    (hsw : swapsWith (.ListComp elt [⟨tg, iter, ifs, 0⟩] scope pos) (some (.Name y py)) spos.line X.env = pure true) (hs : ∀ x, foldedSetIterable iter X.env x = pure x := by intro _; rfl) :
    DS G X W (.Assign [.Name y py] (.ListComp elt [⟨tg, iter, ifs, 0⟩] scope pos) spos) (sAsg (eLc f b ft fe (own.map (·.2))) (bName i)) := by
  obtain ⟨wi, pI, qi⟩ := hi
  refine ⟨_, ps_setLc hc hN hy hyl hsw pI ok (fun s H C cl fp => (hg s H C cl fp).can) (fun s H C cl fp => (ht s H C cl fp).can) (fun s H C cl fp => (he s H C cl fp).can) hs, fun σ H env φ S N s re h => ?_⟩
  exact lc_read (R := fun _ => True) qi hvs s re (PostE.bindS re h fun d S1 φ1 H1 v e1 s1 i1 h1 => h1 φ1 H1 _ .refl s1 ((re.ext e1).set i1 i))
end
end
end DL
end
section
/-! D-layer, part 4: defs, their calls, what leaves a def; cells that are written; the law's end. -/
namespace DL
open PySem L2 PySem.Spec PyProof.Rows
variable [DL.Nm]

/-! ### what leaves a def: new cells become plain data -/
mutual
def frzD (ρ : Nat → Option D) : D → Option D
  | .non => some .non
  | .bl b => some (.bl b)
  | .int i => some (.int i)
  | .str x => some (.str x)
  | .tup ds => (frzDs ρ ds).map .tup
  | .lst ds => (frzDs ρ ds).map .lst
  | .dic ks ds => (frzDs ρ ds).map (.dic ks)
  | .obj c ks ds => (frzDs ρ ds).map (.obj c ks)
  | .loc l => ρ l
  | .dct ks ds => (frzDs ρ ds).map (.dct ks)
  | .exn c ks ds => (frzDs ρ ds).map (.exn c ks)
  | .tpl ds => (frzDs ρ ds).map .tpl
def frzDs (ρ : Nat → Option D) : List D → Option (List D)
  | [] => some []
  | d :: ds => (frzD ρ d).bind fun a => (frzDs ρ ds).map (a :: ·)
end
def resD (n : Nat) (S : Store) : Nat → Nat → Option D
  | 0, _ => none
  | k + 1, l => if l < n then some (.loc l) else match S[l]? with
    | some (.lst ds) => (frzDs (resD n S k) ds).map .lst
    | some (.dic kvs) => (frzDs (resD n S k) (kvs.map (·.2))).map (.dic (kvs.map (·.1)))
    | some (.ins c fs) => (frzDs (resD n S k) (fs.map (·.2))).map (.obj c (fs.map (·.1)))
    | some (.dct kvs) => (frzDs (resD n S k) (kvs.map (·.2))).map (.dct (kvs.map (·.1)))
    | some (.lck kvs _) => (frzDs (resD n S k) (kvs.map (·.2))).map (.dic (kvs.map (·.1)))
    | none => none
mutual
def belD (n : Nat) : D → Bool
  | .tup ds => belDs n ds
  | .lst ds => belDs n ds
  | .dic _ ds => belDs n ds
  | .obj _ _ ds => belDs n ds
  | .dct _ ds => belDs n ds
  | .exn _ _ ds => belDs n ds
  | .tpl ds => belDs n ds
  | .loc l => decide (l < n)
  | _ => true
def belDs (n : Nat) : List D → Bool
  | [] => true
  | d :: ds => belD n d && belDs n ds
end
def Cell.bel (n : Nat) : Cell → Bool
  | .lst ds => belDs n ds
  | .dic kvs => belDs n (kvs.map (·.2))
  | .ins _ fs => belDs n (fs.map (·.2))
  | .dct kvs => belDs n (kvs.map (·.2))
  | .lck kvs _ => belDs n (kvs.map (·.2))
inductive Mode where
  | keep
  | pure
  | upto (k : Nat)
open Classical in
/-- the end of a def that began at S0 -/
noncomputable def exitD (m : Mode) (S0 : Store) (d : D) (S : Store) : ER := match m with
  | .keep => .ok d S
  | .pure => match frzD (resD S0.length S 12) d with
    | some d' => if S.take S0.length = S0 ∨ (S.take S0.length).all (Cell.bel S0.length) = true then .ok d' (S.take S0.length) else .bad
    | none => .bad
  | .upto k => match frzD (resD (S0.length + k) S 12) d with
    | some d' => if (S.take (S0.length + k)).all (Cell.bel (S0.length + k)) = true then .ok d' (S.take (S0.length + k)) else .bad
    | none => .bad
section
variable {G : Glb} {φ : Fi} {H : Hp} {S : Store}
def Fi.cut (φ : Fi) (n : Nat) : Fi := ⟨φ.c.take n, φ.h⟩
theorem cut_out {φ : Fi} {n : Nat} {a : Addr} (h : φ.out a) : (φ.cut n).out a := ⟨fun z => h.1 (List.mem_of_mem_take z), h.2⟩
theorem RdL.cut {n : Nat} {a : Addr} {xs : List V} (h : RdL G φ H a xs) : RdL G (φ.cut n) H a xs := h.elim (fun z => .inl ⟨cut_out z.1, z.2⟩) .inr
theorem RdT.cut {n : Nat} {a : Addr} {xs : List V} (h : RdT G φ H a xs) : RdT G (φ.cut n) H a xs := h.elim (fun z => .inl ⟨cut_out z.1, z.2⟩) .inr
mutual
theorem frz_is {n : Nat} {ρ : Nat → Option D} (hρ : ∀ l d' a, ρ l = some d' → φ.c[l]? = some a → Is G (φ.cut n) H d' (.ref a)) : ∀ {d d' : D} {v : V}, Is G φ H d v → frzD ρ d = some d' → Is G (φ.cut n) H d' v
  | .non, _, v, i, e => by cases e; exact i
  | .bl _, _, v, i, e => by cases e; exact i
  | .int _, _, v, i, e => by cases e; exact i
  | .str _, _, v, i, e => by cases e; exact i
  | .tup ds, _, v, i, e => by
    obtain ⟨a, xs, e1, r, q⟩ := i
    obtain ⟨es, e2, e3⟩ := Option.map_eq_some_iff.mp (show (frzDs ρ ds).map D.tup = some _ from e)
    subst e3
    exact ⟨a, xs, e1, r.cut, frz_isL hρ q e2⟩
  | .lst ds, _, v, i, e => by
    obtain ⟨a, xs, e1, r, q⟩ := i
    obtain ⟨es, e2, e3⟩ := Option.map_eq_some_iff.mp (show (frzDs ρ ds).map D.lst = some _ from e)
    subst e3
    exact ⟨a, xs, e1, r.cut, frz_isL hρ q e2⟩
  | .dic ks ds, _, v, i, e => by
    obtain ⟨a, kvs, e1, ⟨n1, r⟩, z, q⟩ := i
    obtain ⟨es, e2, e3⟩ := Option.map_eq_some_iff.mp (show (frzDs ρ ds).map (D.dic ks) = some _ from e)
    subst e3
    exact ⟨a, kvs, e1, ⟨cut_out n1, r⟩, z, frz_isL hρ q e2⟩
  | .obj c ks ds, _, v, i, e => by
    obtain ⟨a, C, dx, fs, e1, ⟨n1, r⟩, hc, z, q⟩ := i
    obtain ⟨es, e2, e3⟩ := Option.map_eq_some_iff.mp (show (frzDs ρ ds).map (D.obj c ks) = some _ from e)
    subst e3
    exact ⟨a, C, dx, fs, e1, ⟨cut_out n1, r⟩, hc, z, frz_isL hρ q e2⟩
  | .loc l, d', v, i, e => by
    obtain ⟨a, ha, e1⟩ := i
    subst e1
    exact hρ l d' a e ha
  | .dct ks ds, _, v, i, e => by
    obtain ⟨a, kvs, e1, ⟨n1, r⟩, z, q⟩ := i
    obtain ⟨es, e2, e3⟩ := Option.map_eq_some_iff.mp (show (frzDs ρ ds).map (D.dct ks) = some _ from e)
    subst e3
    exact ⟨a, kvs, e1, ⟨cut_out n1, r⟩, z, frz_isL hρ q e2⟩
  | .exn c ks ds, _, v, i, e => by
    obtain ⟨a, C, d, e1, ⟨n1, r⟩, hc, z⟩ := i
    obtain ⟨es, e2, e3⟩ := Option.map_eq_some_iff.mp (show (frzDs ρ ds).map (D.exn c ks) = some _ from e)
    subst e3
    refine ⟨a, C, d, e1, ⟨cut_out n1, r⟩, hc, ?_⟩
    rcases z with ⟨z0, z1, z2⟩ | ⟨b, fs, e4, ⟨n2, r2⟩, e5, q⟩
    · subst z2; cases e2; exact .inl ⟨z0, z1, rfl⟩
    · exact .inr ⟨b, fs, e4, ⟨cut_out n2, r2⟩, e5, frz_isL hρ q e2⟩
  | .tpl ds, _, v, i, e => by
    obtain ⟨a, xs, o, e1, ⟨n1, r⟩, q⟩ := i
    obtain ⟨es, e2, e3⟩ := Option.map_eq_some_iff.mp (show (frzDs ρ ds).map D.tpl = some _ from e)
    subst e3
    exact ⟨a, xs, o, e1, ⟨cut_out n1, r⟩, frz_isL hρ q e2⟩
theorem frz_isL {n : Nat} {ρ : Nat → Option D} (hρ : ∀ l d' a, ρ l = some d' → φ.c[l]? = some a → Is G (φ.cut n) H d' (.ref a)) : ∀ {ds ds' : List D} {vs : List V}, IsL G φ H ds vs → frzDs ρ ds = some ds' → IsL G (φ.cut n) H ds' vs
  | [], _, v, i, e => by cases e; exact i
  | d :: ds, _, v, i, e => by
    obtain ⟨x, r, e1, p, q⟩ := i
    obtain ⟨a, e2, e3⟩ := Option.bind_eq_some_iff.mp (show ((frzD ρ d).bind fun a => (frzDs ρ ds).map (a :: ·)) = some _ from e)
    obtain ⟨b, e4, e5⟩ := Option.map_eq_some_iff.mp e3
    subst e5
    exact ⟨x, r, e1, frz_is hρ p e2, frz_isL hρ q e4⟩
end
theorem res_is (s : SOk G φ S H) (n : Nat) : ∀ (k l : Nat) (d' : D) (a : Addr), resD n S k l = some d' → φ.c[l]? = some a → Is G (φ.cut n) H d' (.ref a)
  | 0, _, _, _, e, _ => by cases e
  | k + 1, l, d', a, e, ha => by
    unfold resD at e
    have ih := res_is s n k
    by_cases hl : l < n
    · rw [if_pos hl] at e
      cases e
      exact ⟨a, by show (φ.c.take n)[l]? = _; rw [List.getElem?_take]; rw [if_pos hl]; exact ha, rfl⟩
    · rw [if_neg hl] at e
      have nc : a ∉ (φ.cut n).c := fun z => by
        obtain ⟨j, hj, e2⟩ := List.getElem_of_mem z
        have h1 : (φ.c.take n)[j]? = some a := by rw [← e2]; exact List.getElem?_eq_getElem hj
        rw [List.getElem?_take] at h1
        split at h1
        · exact hl (by rw [nd_ix s.nd ha h1]; assumption)
        · cases h1
      have nh : a ∉ φ.h := fun z => (s.hid a z).1 (List.mem_of_getElem? ha)
      split at e
      · rename_i ds hc
        obtain ⟨xs, hx, q⟩ := s.at_ hc ha
        obtain ⟨es, e2, e3⟩ := Option.map_eq_some_iff.mp e
        subst e3
        exact ⟨a, xs, rfl, .inl ⟨⟨nc, nh⟩, .inl hx⟩, frz_isL ih q e2⟩
      · rename_i kvs hc
        obtain ⟨ws, hx, z, q⟩ := s.at_ hc ha
        obtain ⟨es, e2, e3⟩ := Option.map_eq_some_iff.mp e
        subst e3
        exact ⟨a, ws, rfl, ⟨⟨nc, nh⟩, .inl hx⟩, z, frz_isL ih q e2⟩
      · rename_i c fs hc
        obtain ⟨C, dx, ws, hC, hx, z, q⟩ := s.at_ hc ha
        obtain ⟨es, e2, e3⟩ := Option.map_eq_some_iff.mp e
        subst e3
        exact ⟨a, C, dx, ws, rfl, ⟨⟨nc, nh⟩, hx⟩, hC, z, frz_isL ih q e2⟩
      · rename_i kvs hc
        obtain ⟨ws, hx, z, q⟩ := s.at_ hc ha
        obtain ⟨es, e2, e3⟩ := Option.map_eq_some_iff.mp e
        subst e3
        exact ⟨a, ws, rfl, ⟨⟨nc, nh⟩, .inl hx⟩, z, frz_isL ih q e2⟩
      · rename_i kvs o hc
        obtain ⟨od, ws, eo, hx, z, q⟩ := s.at_ hc ha
        subst eo
        obtain ⟨es, e2, e3⟩ := Option.map_eq_some_iff.mp e
        subst e3
        exact ⟨a, ws, rfl, ⟨⟨nc, nh⟩, .inr ⟨od, hx⟩⟩, z, frz_isL ih q e2⟩
      · cases e
mutual
theorem bel_of {n : Nat} (hn : φ.c.length ≤ n) : ∀ {d : D} {v : V}, Is G φ H d v → belD n d = true
  | .non, _, _ => rfl
  | .bl _, _, _ => rfl
  | .int _, _, _ => rfl
  | .str _, _, _ => rfl
  | .tup ds, _, i => by obtain ⟨a, xs, e1, r, q⟩ := i; exact bel_ofL hn q
  | .lst ds, _, i => by obtain ⟨a, xs, e1, r, q⟩ := i; exact bel_ofL hn q
  | .dic _ ds, _, i => by obtain ⟨a, xs, e1, r, z, q⟩ := i; exact bel_ofL hn q
  | .obj _ _ ds, _, i => by obtain ⟨a, C, dx, xs, e1, r, c, z, q⟩ := i; exact bel_ofL hn q
  | .dct _ ds, _, i => by obtain ⟨a, xs, e1, r, z, q⟩ := i; exact bel_ofL hn q
  | .exn _ _ ds, _, i => by
    obtain ⟨a, C, d, e1, r, c, z⟩ := i
    rcases z with ⟨_, _, z⟩ | ⟨b, fs, _, _, _, q⟩
    · subst z; rfl
    · exact bel_ofL hn q
  | .tpl ds, _, i => by obtain ⟨a, xs, o, e1, r, q⟩ := i; exact bel_ofL hn q
  | .loc l, _, i => by
    obtain ⟨a, ha, _⟩ := i
    have := (List.getElem?_eq_some_iff.mp ha).1
    show decide (l < n) = true
    exact decide_eq_true (by omega)
theorem bel_ofL {n : Nat} (hn : φ.c.length ≤ n) : ∀ {ds : List D} {vs : List V}, IsL G φ H ds vs → belDs n ds = true
  | [], _, _ => rfl
  | d :: ds, _, i => by
    obtain ⟨x, r, e1, p, q⟩ := i
    show (belD n d && belDs n ds) = true
    rw [bel_of hn p, bel_ofL hn q]; rfl
end
mutual
theorem bel_is {n : Nat} : ∀ {d : D} {v : V}, belD n d = true → Is G φ H d v → Is G (φ.cut n) H d v
  | .non, _, _, i => i
  | .bl _, _, _, i => i
  | .int _, _, _, i => i
  | .str _, _, _, i => i
  | .tup ds, _, h, i => by obtain ⟨a, xs, e1, r, q⟩ := i; exact ⟨a, xs, e1, r.cut, bel_isL h q⟩
  | .lst ds, _, h, i => by obtain ⟨a, xs, e1, r, q⟩ := i; exact ⟨a, xs, e1, r.cut, bel_isL h q⟩
  | .dic _ ds, _, h, i => by obtain ⟨a, xs, e1, ⟨n1, r⟩, z, q⟩ := i; exact ⟨a, xs, e1, ⟨cut_out n1, r⟩, z, bel_isL h q⟩
  | .obj _ _ ds, _, h, i => by obtain ⟨a, C, dx, xs, e1, ⟨n1, r⟩, c, z, q⟩ := i; exact ⟨a, C, dx, xs, e1, ⟨cut_out n1, r⟩, c, z, bel_isL h q⟩
  | .dct _ ds, _, h, i => by obtain ⟨a, xs, e1, ⟨n1, r⟩, z, q⟩ := i; exact ⟨a, xs, e1, ⟨cut_out n1, r⟩, z, bel_isL h q⟩
  | .exn _ _ ds, _, h, i => by
    obtain ⟨a, C, d, e1, ⟨n1, r⟩, c, z⟩ := i
    refine ⟨a, C, d, e1, ⟨cut_out n1, r⟩, c, ?_⟩
    rcases z with z | ⟨b, fs, e4, ⟨n2, r2⟩, e5, q⟩
    · exact .inl z
    · exact .inr ⟨b, fs, e4, ⟨cut_out n2, r2⟩, e5, bel_isL h q⟩
  | .tpl _, _, h, i => by obtain ⟨a, xs, o, e1, ⟨n1, r⟩, q⟩ := i; exact ⟨a, xs, o, e1, ⟨cut_out n1, r⟩, bel_isL h q⟩
  | .loc l, _, h, i => by
    obtain ⟨a, ha, e⟩ := i
    have hl : l < n := of_decide_eq_true h
    exact ⟨a, by show (φ.c.take n)[l]? = _; rw [List.getElem?_take, if_pos hl]; exact ha, e⟩
theorem bel_isL {n : Nat} : ∀ {ds : List D} {vs : List V}, belDs n ds = true → IsL G φ H ds vs → IsL G (φ.cut n) H ds vs
  | [], _, _, i => i
  | d :: ds, _, h, i => by
    obtain ⟨x, r, e1, p, q⟩ := i
    have h' : (belD n d && belDs n ds) = true := h
    simp only [Bool.and_eq_true] at h'
    exact ⟨x, r, e1, bel_is h'.1 p, bel_isL h'.2 q⟩
end
theorem CellOk.bel {a : Addr} {c : Cell} {n : Nat} (hn : φ.c.length ≤ n) (h : CellOk G φ H a c) : c.bel n = true := by
  cases c with
  | lst ds => obtain ⟨xs, _, q⟩ := h; exact bel_ofL hn q
  | dic kvs => obtain ⟨xs, _, _, q⟩ := h; exact bel_ofL hn q
  | ins c fs => obtain ⟨C, dx, xs, _, _, _, q⟩ := h; exact bel_ofL hn q
  | dct kvs => obtain ⟨xs, _, _, q⟩ := h; exact bel_ofL hn q
  | lck kvs o => obtain ⟨_, xs, _, _, _, q⟩ := h; exact bel_ofL hn q
theorem CellOk.cut {a : Addr} {c : Cell} {n : Nat} (hb : c.bel n = true) (h : CellOk G φ H a c) : CellOk G (φ.cut n) H a c := by
  cases c with
  | lst ds => obtain ⟨xs, k, q⟩ := h; exact ⟨xs, k, bel_isL hb q⟩
  | dic kvs => obtain ⟨xs, k, z, q⟩ := h; exact ⟨xs, k, z, bel_isL hb q⟩
  | ins c fs => obtain ⟨C, dx, xs, k, y, z, q⟩ := h; exact ⟨C, dx, xs, k, y, z, bel_isL hb q⟩
  | dct kvs => obtain ⟨xs, k, z, q⟩ := h; exact ⟨xs, k, z, bel_isL hb q⟩
  | lck kvs o => obtain ⟨od, xs, e1, k, z, q⟩ := h; exact ⟨od, xs, e1, k, z, bel_isL hb q⟩
theorem SOk.cut (s : SOk G φ S H) {n : Nat} (hb : ∀ c ∈ S.take n, c.bel n = true) : SOk G (φ.cut n) (S.take n) H := by
  refine ⟨by simp [Fi.cut, s.len], s.nd.sublist (List.take_sublist _ _), fun a ha => ?_, fun l c hc => ?_, fun p hp => (s.tab p hp).mono fun a n => cut_out n⟩
  · obtain ⟨n1, q⟩ := s.hid a ha
    exact ⟨fun z => n1 (List.mem_of_mem_take z), q⟩
  · have hm := hb c (List.mem_of_getElem? hc)
    rw [List.getElem?_take] at hc
    split at hc
    · rename_i hl
      obtain ⟨a, ha, k⟩ := s.cell l c hc
      exact ⟨a, by show (φ.c.take n)[l]? = _; rw [List.getElem?_take, if_pos hl]; exact ha, k.cut hm⟩
    · cases hc
/-- the way out -/
theorem exit_ok {m : Mode} {φ0 : Fi} {H0 : Hp} {S0 : Store} {d : D} {v : V} {W : WX} {σ : L2.St} {Q : VK} (s0 : SOk G φ0 S0 H0) (e : Ext φ0 H0 φ H) (s : SOk G φ S H) (i : Is G φ H d v) (h : PostE G W φ0 H0 σ (exitD m S0 d S) Q) : Q v H := by
  cases m with
  | keep => exact h φ H v e s i
  | pure =>
    unfold exitD at h
    dsimp only at h
    cases hd : frzD (resD S0.length S 12) d with
    | none => rw [hd] at h; exact False.elim h
    | some d' =>
      rw [hd] at h
      dsimp only at h
      split at h
      · rename_i hc
        have eφ : φ.cut S0.length = φ0 := by
          obtain ⟨ψ, e1, _⟩ := e.pre
          obtain ⟨c0, h0⟩ := φ0
          obtain ⟨c1, h1⟩ := φ
          have eh := e.hid
          simp only at e1 eh
          subst e1 eh
          have hl : c0.length = S0.length := s0.len
          show Fi.mk ((c0 ++ ψ).take S0.length) h1 = Fi.mk c0 h1
          rw [← hl, List.take_left]
        have hb : ∀ c ∈ S.take S0.length, c.bel S0.length = true := by
          rcases hc with hc | hc
          · intro c hm
            rw [hc] at hm
            obtain ⟨l, hl, e1⟩ := List.getElem_of_mem hm
            obtain ⟨a, ha, k⟩ := s0.cell l c (by rw [← e1]; exact List.getElem?_eq_getElem hl)
            exact k.bel (by rw [s0.len]; exact Nat.le_refl _)
          · exact fun c hm => List.all_eq_true.mp hc c hm
        have s2 := s.cut hb
        rw [eφ] at s2
        refine h φ0 H v ⟨⟨[], by simp, fun _ z => by simp at z⟩, rfl, e.keepTo (fun a n => by rw [← eφ]; exact cut_out n)⟩ s2 ?_
        have i2 := frz_is (n := S0.length) (res_is s S0.length 12) i hd
        rw [eφ] at i2
        exact i2
      · exact False.elim h
  | upto k =>
    unfold exitD at h
    dsimp only at h
    cases hd : frzD (resD (S0.length + k) S 12) d with
    | none => rw [hd] at h; exact False.elim h
    | some d' =>
      rw [hd] at h
      dsimp only at h
      split at h
      · rename_i hc
        have s2 := s.cut (n := S0.length + k) fun c hm => List.all_eq_true.mp hc c hm
        refine h (φ.cut (S0.length + k)) H v ⟨?_, e.hid, e.keepTo fun a n => cut_out n⟩ s2 (frz_is (n := S0.length + k) (res_is s (S0.length + k) 12) i hd)
        obtain ⟨ψ, e1, p⟩ := e.pre
        refine ⟨ψ.take k, ?_, fun a ha => p a (List.mem_of_mem_take ha)⟩
        show φ.c.take (S0.length + k) = φ0.c ++ ψ.take k
        rw [e1, ← s0.len, List.take_append, List.take_of_length_le (by omega)]
        congr 1
        congr 1
        omega
      · exact False.elim h
end

/-! ### a def's promise -/
def spD (G : Glb) (n : Nat) (F : FD) : Sp := fun vs H Q E => vs.length = n ∧ ∃ φ S ds, SOk G φ S H ∧ IsL G φ H ds vs ∧ PostE G (fun cls dx _ H => E cls dx H) φ H [] (F ds S) Q
def startD (n : Nat) (ds : List D) : EnvD := ds.map some ++ List.replicate (n - ds.length) none
noncomputable def fnF (m : Mode) (n : Nat) (g : SM) : FD := fun ds S => match g (startD n ds) S with
  | .nx _ S1 => exitD m S .non S1
  | .rt d S1 => exitD m S d S1
  | .ex x _ S1 => .ex x S1
  | _ => .bad
theorem rep_start {G : Glb} {φ : Fi} {H : Hp} {ds : List D} {vs : List V} (N : List Str) (i : IsL G φ H ds vs) : RepE G φ H (L2.start N vs) (startD N.length ds) := by
  refine ⟨by simp [L2.start, startD, i.length], fun j d e => ?_⟩
  unfold startD at e
  by_cases hj : j < ds.length
  · rw [List.getElem?_append_left (by simpa using hj), List.getElem?_map] at e
    obtain ⟨d1, e1, e2⟩ := Option.map_eq_some_iff.mp e
    cases e2
    obtain ⟨v, hv, k⟩ := i.get e1
    refine ⟨v, ?_, k⟩
    unfold L2.start
    rw [List.getElem?_append_left (by simpa [← i.length] using hj), List.getElem?_map, hv]
    rfl
  · rw [List.getElem?_append_right (by simpa using hj), List.getElem?_replicate] at e
    split at e <;> cases e
/-- a def of the module, called by its name -/
structure Def (G : Glb) (P : Program) (w : World) (mg : Str → Option Value) (base : Heap) (k : Nat) (x : Str) (n : Nat) (F : FD) : Prop where
  ex : ∃ f fd ps, FnOk P w G.K mg base (L2.CX P w) k f fd ps (spD G n F) ∧ mg x = some (.ref f) ∧ PySem.W.keepIn G.K (.ref f) = true ∧ Binds G.K fd ps []
section
variable {G : Glb} {X : Cx} {W : WX} {k n : Nat} {x : Str} {F : FD} {p pos : Pos} {e : Expr} {es : List Expr} {fa : LM}
def eCall (F : FD) (f : LM) : EM := fun env S => (f env S).bindE F
/-- how many arguments -/
theorem la_nil : ∀ env S ds S', lNil env S = .ok ds S' → ds.length = 0 := fun env S ds S' h => by cases h; rfl
theorem la_cons {f : EM} {g : LM} {m : Nat} (h : ∀ env S ds S', g env S = .ok ds S' → ds.length = m) : ∀ env S ds S', lCons f g env S = .ok ds S' → ds.length = m + 1 := fun env S ds S' q => by
  unfold lCons at q
  cases hf : f env S with
  | ok d S1 =>
    rw [hf] at q
    have q' : ((g env S1).bind fun ds S => .ok (d :: ds) S) = .ok ds S' := q
    cases hg : g env S1 with
    | ok es S2 =>
      rw [hg] at q'
      cases q'
      simp [h _ _ _ _ hg]
    | ex x S2 => rw [hg] at q'; cases q'
    | bad => rw [hg] at q'; cases q'
  | ex x S1 => rw [hf] at q; cases q
  | bad => rw [hf] at q; cases q

/-! ### cells that are written -/
/-- xs[i] = e of a list's cell -/
def putIx (i : Int) (ds : List D) (d : D) : Option (List D) := (ixN ds.length i).map fun j => ds.set j d
def setD (o i d : D) (S : Store) : Option Store := match o, i with
  | .loc l, .int i => match S[l]? with
    | some (.lst ds) => (putIx i ds d).map fun es => S.set l (.lst es)
    | _ => none
  | _, _ => none
/-- o[i] = e: e first, then o, i -/
def sPutL (o i f : EM) : SM := fun env S => (f env S).bindS env fun d S => (o env S).bindS env fun a S => (i env S).bindS env fun b S => match setD a b d S with
  | some S' => .nx env S'
  | none => .bad
theorem set_is {φ : Fi} {S S' : Store} {H : Hp} {o i d : D} {vo vi v : V} (s : SOk G φ S H) (io : Is G φ H o vo) (ii : Is G φ H i vi) (id : Is G φ H d v) (h : setD o i d S = some S') {Q : Hp → Prop} (k : ∀ H', Ext φ H φ H' → SOk G φ S' H' → Q H') : rSetL vo vi v H Q := by
  cases o with
  | loc l =>
    cases i with
    | int i =>
      obtain ⟨a, ha, rfl⟩ := io
      cases (show vi = _ from ii)
      simp only [setD] at h
      cases hc : S[l]? with
      | none => rw [hc] at h; cases h
      | some c =>
        rw [hc] at h
        cases c with
        | lst ds =>
          obtain ⟨es, e1, e2⟩ := Option.map_eq_some_iff.mp (show (putIx i ds d).map (fun es => S.set l (.lst es)) = some S' from h)
          obtain ⟨j, e3, e4⟩ := Option.map_eq_some_iff.mp (show (ixN ds.length i).map (fun j => ds.set j d) = some es from e1)
          subst e2 e4
          obtain ⟨xs, hx, q⟩ := s.at_ hc ha
          refine ⟨a, xs, i, j, rfl, rfl, hx, by rw [← q.length]; exact e3, k _ (.put (List.mem_of_getElem? ha)) (s.put ha ⟨_, upd_same, ?_⟩)⟩
          exact (q.set j id).ext (.put (List.mem_of_getElem? ha))
        | _ => cases h
    | _ => cases h
  | _ => cases h
/-- a built-in type's method by values -/
def DMeth (G : Glb) (X : Cx) (id : String) (g : D → List D → Store → ER) : Prop :=
  ∃ r, MtR X id r ∧ ∀ W φ S H σ dx ds x xs Q, SOk G φ S H → Is G φ H dx x → IsL G φ H ds xs → PostE G W φ H σ (g dx ds S) Q → r x xs H Q
/-- the types of which methods are asked -/
def tyD (T : String) (S : Store) : D → Bool
  | .str _ => T == "str"
  | d => T == "list" && (listD S d).isSome
theorem tyD_is {φ : Fi} {S : Store} {H : Hp} {T : String} {d : D} {v : V} (hK : X.K = G.K) (s : SOk G φ S H) (i : Is G φ H d v) (h : tyD T S d = true) : tyV X.K T v H := by
  have other : (T == "list" && (listD S d).isSome) = true → tyV X.K T v H := fun h => by
    simp only [Bool.and_eq_true, beq_iff_eq] at h
    obtain ⟨ds, e⟩ := Option.isSome_iff_exists.mp h.2
    obtain ⟨a, xs, rfl, r, _⟩ := listD_sq s i e
    exact .inl ⟨h.1, xs, by rw [hK]; exact r⟩
  cases d with
  | str x =>
    cases (show v = _ from i)
    exact beq_iff_eq.mp h
  | _ => exact other h
def eMeth (T : String) (g : D → List D → Store → ER) (o : EM) (f : LM) : EM := fun env S => (o env S).bind fun a S => if tyD T S a then (f env S).bindE fun ds S => g a ds S else .bad
theorem de_meth {T id : String} {name : Str} {g : D → List D → Store → ER} {o : Expr} {fo : EM} {apos cpos : Pos} (pa : PlainAttrs T) (slot : Slot T name id) (hty : typeOf (.builtin id) = pure (.type "method_descriptor")) (hm : DMeth G X id g) (hK : X.K = G.K) (ho : DE G X W o fo) (ha : DA G X W (e :: es) fa)
    (hbase : attributeBase o name X.env (eval o X.env) = eval o X.env := by rfl)
    (hfew : ((backTo cpos (starEach (e :: es) X.env)).all (fun x => !x.1) && (backToKw cpos (keywordEach [] X.env)).all (fun x => x.1.isSome) && decide ((e :: es).length + ([] : List Keyword).length + (if ([] : List Keyword).isEmpty then 0 else 1) < 30)) = true := by rfl)
    (hline : (apos.endLine == cpos.line) = true := by rfl) (hs : starEach (e :: es) X.env = (false, eval e X.env) :: starEach es X.env := by rfl) (hplain : (backTo cpos (starEach es X.env)).any (·.1) = false := by rfl) :
    DE G X W (.Call (.Attribute o name apos) (e :: es) [] cpos) (eMeth T g fo fa) := by
  obtain ⟨r, hr, q⟩ := hm
  obtain ⟨to, po, qo⟩ := ho
  obtain ⟨t, pt, qt⟩ := ha
  refine ⟨_, pe_bm pa slot hty hr po pt hbase hfew hline hs hplain, fun σ H env φ S Q s re h => ?_⟩
  refine qo σ H env φ S _ s re (PostE.bind h fun a S1 φ1 H1 v e1 s1 i1 h1 => ?_)
  split at h1
  · rename_i ht
    refine ⟨tyD_is hK s1 i1 ht, qt σ H1 env φ1 S1 _ s1 (re.ext e1) (PostL.bindE h1 fun ds S2 φ2 H2 vs e2 s2 i2 h2 => ?_)⟩
    exact q W φ2 S2 H2 σ a ds v vs Q s2 (i1.ext e2) i2 h2
  · exact False.elim h1
/-- a list's cell changes -/
def cellL (S : Store) (d : D) (g : Nat → List D → ER) : ER := match d with
  | .loc l => match S[l]? with
    | some (.lst ds) => g l ds
    | _ => .bad
  | _ => .bad
theorem cellL_is {φ : Fi} {S : Store} {H : Hp} {σ : L2.St} {d : D} {v : V} {g : Nat → List D → ER} {Q : VK} {P : Prop} (s : SOk G φ S H) (i : Is G φ H d v) (h : PostE G W φ H σ (cellL S d g) Q)
    (k : ∀ l ds a xs, d = .loc l → S[l]? = some (.lst ds) → v = .ref a → φ.c[l]? = some a → H a = some (.lst xs) → IsL G φ H ds xs → PostE G W φ H σ (g l ds) Q → P) : P := by
  cases d with
  | loc l =>
    obtain ⟨a, ha, rfl⟩ := i
    simp only [cellL] at h
    cases hc : S[l]? with
    | none => rw [hc] at h; exact False.elim h
    | some c =>
      rw [hc] at h
      cases c with
      | lst ds =>
        obtain ⟨xs, hx, q⟩ := s.at_ hc ha
        exact k l ds a xs rfl hc rfl ha hx q h
      | _ => exact False.elim h
  | _ => exact False.elim h
theorem cell_put {φ : Fi} {S : Store} {H : Hp} {σ : L2.St} {l : Nat} {a : Addr} {ds : List D} {xs : List V} {d : D} {v : V} {Q : VK} (s : SOk G φ S H) (ha : φ.c[l]? = some a) (q : IsL G φ H ds xs) (i : Is G φ H d v) (h : PostE G W φ H σ (.ok d (S.set l (.lst ds))) Q) : Q v (upd H a (.lst xs)) :=
  have e : Ext φ H φ (upd H a (.lst xs)) := .put (List.mem_of_getElem? ha)
  h φ _ v e (s.put ha ⟨xs, upd_same, q.ext e⟩) (i.ext e)
noncomputable def mAppend (o : D) (ds : List D) (S : Store) : ER := cellL S o fun l xs => match ds with
  | [d] => if sz (xs.length + 1) then .ok .non (S.set l (.lst (xs ++ [d]))) else .bad
  | _ => .bad
theorem dm_append : DMeth G X "list.append" mAppend := by
  refine ⟨_, mt_append, fun W φ S H σ dx ds x xs Q s ix ids h => ?_⟩
  refine cellL_is s ix h fun l es a ys e1 e2 e3 ha hx q h1 => ?_
  subst e1 e3
  match ds, ids, h1 with
  | [d], ids, h1 =>
    obtain ⟨y, rfl, k⟩ := IsL.inv1 ids
    dsimp only at h1
    split at h1
    · rename_i hz
      exact ⟨a, ys, y, rfl, rfl, hx, by rw [← q.length, sizeLine_eq]; exact hz, cell_put s ha (q.append (.one k)) (show Is G φ H .non .non from rfl) h1⟩
    · exact False.elim h1
  | [], _, h1 => exact False.elim h1
  | _ :: _ :: _, _, h1 => exact False.elim h1
def mPop (o : D) (ds : List D) (S : Store) : ER := cellL S o fun l xs => match ds with
  | [] => match xs[xs.length - 1]? with
    | some d => .ok d (S.set l (.lst xs.dropLast))
    | none => .bad
  | _ => .bad
theorem IsL.dropLast {φ : Fi} {H : Hp} : ∀ {ds : List D} {xs : List V}, IsL G φ H ds xs → IsL G φ H ds.dropLast xs.dropLast := fun {ds xs} h => by
  rw [List.dropLast_eq_take, List.dropLast_eq_take, h.length]
  exact h.take _
end
/-! ### the law's end -/
theorem law_sp {G : Glb} {F : FD} {H : Hp} {a : Addr} {ns : List Int} (hS : SqL G.K H a (ns.map V.int)) (h : ∃ S, F [.lst (ns.map .int)] [] = .ok (.bl true) S) (hT : ∀ p ∈ G.T, p.2 = Nm.nm p.1 ∧ H p.1 = some (.tbl #[]) := by intro p hp; cases hp) :
    spD G 1 F [.ref a] H (fun v _ => v = .bl true) (fun _ _ _ => False) := by
  obtain ⟨S, e⟩ := h
  refine ⟨rfl, ⟨[], []⟩, [], [.lst (ns.map .int)], ⟨rfl, List.nodup_nil, fun _ z => by simp at z, fun _ _ z => by simp at z, fun p hp => ⟨(hT p hp).1, ⟨by simp, by simp⟩, #[], (hT p hp).2, True.intro, fun pos cv hc => ?_⟩⟩, ?_, ?_⟩
  · have z : codeAmong pos [] = some cv := hc
    simp [codeAmong] at z
  · refine .one ⟨a, _, rfl, ?_, IsL.of_ints⟩
    rcases hS with z | z
    · exact .inl ⟨⟨by simp, by simp⟩, z⟩
    · exact .inr z
  · rw [e]
    exact fun φ' H' v _ _ i => i
theorem no_CX {P : Program} {w : World} {H : Hp} {s s' : Shared} {e : Value} (h : L2.CX P w [] H s (fun _ _ _ => False) e s') : False := by
  obtain ⟨_, _, _, _, _, _, _, _, _, _, _, _, z⟩ := h
  exact z
end DL
end
section
/-! D-layer, part 5: isinstance, chains of comparisons, constants of the module. -/
namespace DL
open PySem L2 PySem.Spec PyProof.Rows
variable [DL.Nm]
section
variable {G : Glb} {X : Cx} {W : WX}
/-! ### isinstance of built-in types -/
inductive Ty where
  | int | bool | str | tuple | list | dict | none
  deriving DecidableEq
def Ty.nm : Ty → String
  | .int => "int" | .bool => "bool" | .str => "str" | .tuple => "tuple" | .list => "list" | .dict => "dict" | .none => "NoneType"
def Ty.isa (a b : Ty) : Bool := decide (a = b) || (decide (a = .bool) && decide (b = .int))
theorem ty_kit (a b : Ty) (h : b ≠ .none) : kitB a.nm b.nm = some (a.isa b) := by
  cases a <;> cases b <;> first | exact absurd rfl h | decide +kernel
def tyOf (S : Store) : D → Option Ty
  | .non => some .none
  | .bl _ => some .bool
  | .int _ => some .int
  | .str _ => some .str
  | .tup _ => some .tuple
  | .lst _ => some .list
  | .dic _ _ => some .dict
  | .obj _ _ _ => none
  | .dct _ _ => none
  | .exn _ _ _ => none
  | .tpl _ => some .tuple
  | .loc l => match S[l]? with
    | some (.lst _) => some .list
    | some (.dic _) => some .dict
    | some (.dct _) => some .dict
    | _ => none
theorem tyOf_is {φ : Fi} {S : Store} {H : Hp} {d : D} {v : V} {t : Ty} (s : SOk G φ S H) (i : Is G φ H d v) (e : tyOf S d = some t) : TyX G.K H v (.type t.nm) := by
  have lst : ∀ {a : Addr} {xs : List V}, SqL G.K H a xs → TyX G.K H (.ref a) (.type "list") := fun {a xs} r => by
    rcases r with (r | ⟨o, r⟩) | ⟨o, its, n, h1, h2, _⟩
    · exact .base (.lst r)
    · exact .base (.frz r)
    · exact .kList h1 h2
  cases d with
  | non => cases e; cases (show v = _ from i); exact .base .non
  | bl b => cases e; cases (show v = _ from i); exact .base (.bl b)
  | int b => cases e; cases (show v = _ from i); exact .base (.int b)
  | str b => cases e; cases (show v = _ from i); exact .base (.str b)
  | tup ds =>
    cases e
    obtain ⟨a, xs, rfl, r, _⟩ := i
    rcases r with ⟨_, r | ⟨o, r⟩⟩ | ⟨o, its, n, h1, h2, _⟩
    · exact .base (.tup r)
    · exact .fTuple r
    · exact .kTuple h1 h2
  | lst ds =>
    cases e
    obtain ⟨a, xs, rfl, r, _⟩ := i
    exact lst r.seq
  | dic ks ds =>
    cases e
    obtain ⟨a, xs, rfl, ⟨_, r | ⟨o, r⟩⟩, _⟩ := i
    · exact .base (.dK r)
    · exact .fDict r
  | obj c ks ds => cases e
  | exn c ks ds => cases e
  | tpl ds =>
    cases e
    obtain ⟨a, xs, o, rfl, ⟨_, r, _⟩, _⟩ := i
    exact .fTuple r
  | dct ks ds => cases e
  | loc l =>
    obtain ⟨a, ha, rfl⟩ := i
    simp only [tyOf] at e
    split at e
    · rename_i ds hc
      cases e
      obtain ⟨xs, hx, _⟩ := s.at_ hc ha
      exact .base (.lst hx)
    · rename_i ds hc
      cases e
      obtain ⟨xs, hx, _⟩ := s.at_ hc ha
      exact .base (.dK hx)
    · rename_i ds hc
      cases e
      obtain ⟨xs, hx, _⟩ := s.at_ hc ha
      exact .base (.dT hx)
    · cases e
def eIsi (b : Ty) (f : EM) : EM := fun env S => (f env S).bind fun d S => match tyOf S d with
  | some a => .ok (.bl (a.isa b)) S
  | none => .bad
/-- isinstance(e, (T1, T2)) -/
def eIsi2 (b c : Ty) (f : EM) : EM := fun env S => (f env S).bind fun d S => match tyOf S d with
  | some a => .ok (.bl (a.isa b || a.isa c)) S
  | none => .bad
/-! ### a < b < c -/
theorem chain_of {r r' : R2} {g g' : D → D → Store → ER} {ta tb tc : TE} {fa fb fc : EM}
    (hr : ∀ W φ S H σ dx dy x y Q, SOk G φ S H → Is G φ H dx x → Is G φ H dy y → PostE G W φ H σ (g dx dy S) Q → r x y H Q)
    (hr' : ∀ W φ S H σ dx dy x y Q, SOk G φ S H → Is G φ H dx x → Is G φ H dy y → PostE G W φ H σ (g' dx dy S) Q → r' x y H Q)
    (ha : ∀ σ H env φ S Q, SOk G φ S H → RepE G φ H σ env → PostE G W φ H σ (fa env S) Q → ta σ H Q)
    (hb : ∀ σ H env φ S Q, SOk G φ S H → RepE G φ H σ env → PostE G W φ H σ (fb env S) Q → tb σ H Q)
    (hc : ∀ σ H env φ S Q, SOk G φ S H → RepE G φ H σ env → PostE G W φ H σ (fc env S) Q → tc σ H Q) :
    ∀ σ H env φ S Q, SOk G φ S H → RepE G φ H σ env → PostE G W φ H σ (eChain g g' fa fb fc env S) Q → tChain r r' ta tb tc σ H Q := fun σ H env φ S Q s re h => by
  refine ha σ H env φ S _ s re (PostE.bind h fun d S1 φ1 H1 v e1 s1 i1 h1 => ?_)
  refine hb σ H1 env φ1 S1 _ s1 (re.ext e1) (PostE.bind h1 fun d2 S2 φ2 H2 v2 e2 s2 i2 h2 => ?_)
  refine hr W φ2 S2 H2 σ d d2 v v2 _ s2 (i1.ext e2) i2 (PostE.bind h2 fun z S3 φ3 H3 vz e3 s3 i3 h3 => ?_)
  cases z with
  | bl k =>
    refine ⟨k, i3, ?_⟩
    cases k with
    | true =>
      refine iteT (hc σ H3 env φ3 S3 _ s3 ((re.ext e1).ext (e2.trans e3)) (PostE.bind h3 fun d4 S4 φ4 H4 v4 e4 s4 i4 h4 => ?_))
      exact hr' W φ4 S4 H4 σ d2 d4 v2 v4 Q s4 (i2.ext (e3.trans e4)) i4 h4
    | false => exact iteF (h3.now s3 rfl)
  | _ => exact False.elim h3
theorem dt_chain {op op' : CmpOp} {a b c : Expr} {pos : Pos} {g g' : D → D → Store → ER} {fa fb fc : EM} (ho : DOp G X (compareOp op) g) (ho' : DOp G X (compareOp op') g') (ha : DE G X W a fa) (hb : DE G X W b fb) (hc : DE G X W c fc)
    (h1 : lastMarks [op, op'] [b, c] = false := by rfl) : DT G X W (.Compare a [op, op'] [b, c] pos) (eChain g g' fa fb fc) := by
  obtain ⟨r, hr, q⟩ := ho
  obtain ⟨r', hr', q'⟩ := ho'
  obtain ⟨ta, pa, qa⟩ := ha
  obtain ⟨tb, pb, qb⟩ := hb
  obtain ⟨tc, pc, qc⟩ := hc
  refine ⟨_, pt_chain hr hr' pa pb pc h1, fun σ H env φ S Q s re h => ?_⟩
  exact chain_of q q' qa qb qc σ H env φ S _ s re h.of

/-! ### what is never reached; constants of the module -/
theorem de_gInt {x : Str} {i : Int} {pos : Pos} (h : ∃ t, X.mg x = some (.int i t)) (hg : Gl X x) (hd : (x == ("__debug__" : Str)) = false := by decide) : DE G X W (.Name x pos) (eC (.int i)) :=
  let ⟨t, e⟩ := h; de_glob hg e (v := .int i) ⟨t, rfl⟩ (fun _ _ => rfl) hd
theorem de_gStr {x z : Str} {pos : Pos} (h : ∃ t, X.mg x = some (.str z t)) (hg : Gl X x) (hd : (x == ("__debug__" : Str)) = false := by decide) : DE G X W (.Name x pos) (eC (.str z)) :=
  let ⟨t, e⟩ := h; de_glob hg e (v := .str z) ⟨t, rfl⟩ (fun _ _ => rfl) hd
end

/-! ### slices -/
section
variable {G : Glb} {X : Cx} {W : WX}
inductive OR where
  | ok (o : Option Int) (S : Store)
  | ex (x : Exc) (S : Store)
  | bad
abbrev OM := EnvD → Store → OR
def OR.bindE (r : OR) (g : Option Int → Store → ER) : ER := match r with
  | .ok d S => g d S
  | .ex x S => .ex x S
  | .bad => .bad
def PostO (G : Glb) (W : WX) (φ : Fi) (H : Hp) (σ : L2.St) (r : OR) (Q : Option Int → Hp → Prop) : Prop := match r with
  | .ok d S => ∀ φ' H', Ext φ H φ' H' → SOk G φ' S H' → Q d H'
  | .ex x S => ∀ φ' H' cls dx, Ext φ H φ' H' → SOk G φ' S H' → IsX G φ' H' x cls dx → W cls dx σ H'
  | .bad => False
def DO (G : Glb) (X : Cx) (W : WX) (e : Option Expr) (f : OM) : Prop :=
  ∃ t, PO X e t ∧ ∀ σ H env φ S Q, SOk G φ S H → RepE G φ H σ env → PostO G W φ H σ (f env S) Q → t σ H Q
def oNone : OM := fun _ S => .ok none S
def oSome (f : EM) : OM := fun env S => match f env S with
  | .ok (.int i) S => .ok (some i) S
  | .ex x S => .ex x S
  | _ => .bad
theorem do_none : DO G X W none oNone := ⟨_, po_none, fun σ H env φ S Q s re h => h φ H .refl s⟩
theorem do_some {e : Expr} {f : EM} (h : DE G X W e f) : DO G X W (some e) (oSome f) := by
  obtain ⟨t, p, q⟩ := h
  refine ⟨_, po_some p, fun σ H env φ S Q s re h => ?_⟩
  refine q σ H env φ S _ s re ?_
  unfold oSome at h
  cases hr : f env S with
  | ok d S1 =>
    rw [hr] at h
    cases d with
    | int i => exact fun φ1 H1 v e1 s1 i1 => ⟨i, i1, h φ1 H1 e1 s1⟩
    | _ => exact False.elim h
  | ex x S1 => rw [hr] at h; exact h
  | bad => rw [hr] at h; exact False.elim h
theorem PostO.bindE {φ : Fi} {H : Hp} {σ : L2.St} {r : OR} {g : Option Int → Store → ER} {Q : VK} {Q' : Option Int → Hp → Prop} (h : PostE G W φ H σ (r.bindE g) Q)
    (k : ∀ d S φ' H', Ext φ H φ' H' → SOk G φ' S H' → PostE G W φ' H' σ (g d S) Q → Q' d H') : PostO G W φ H σ r Q' := by
  cases r with
  | ok d S => exact fun φ2 H2 e s => k d S φ2 H2 e s (PostE.ext (r := g d S) e h)
  | ex x S => exact h
  | bad => exact h
def cutD {α : Type} (xs : List α) (lo hi : Option Int) : List α := (xs.drop (HT.sIx xs.length 0 lo)).take (HT.sIx xs.length xs.length hi - HT.sIx xs.length 0 lo)
theorem IsL.cut {φ : Fi} {H : Hp} {ds : List D} {xs : List V} (h : IsL G φ H ds xs) (lo hi : Option Int) : IsL G φ H (cutD ds lo hi) (cutV xs lo hi) := by
  unfold cutD cutV
  rw [h.length]
  exact (h.drop _).take _
def slD (x : D) (lo hi : Option Int) (S : Store) : ER := match x with
  | .tup ds => .ok (.tup (cutD ds lo hi)) S
  | x => match listD S x with
    | some ds => .ok (.lst (cutD ds lo hi)) S
    | none => .bad
def eSlice (f : EM) (lo hi : OM) : EM := fun env S => (f env S).bind fun x S => (lo env S).bindE fun l S => (hi env S).bindE fun u S => slD x l u S
theorem cut_whole {α : Type} {xs : List α} {lo hi : Option Int} (h : HT.sIx xs.length 0 lo = 0 ∧ HT.sIx xs.length xs.length hi = xs.length) : cutD xs lo hi = xs := by
  unfold cutD
  rw [h.1, h.2]; simp
theorem de_slice {e : Expr} {lo hi : Option Expr} {p2 pos : Pos} {f : EM} {fl fh : OM} (hK : X.K = G.K) (he : DE G X W e f) (hl : DO G X W lo fl) (hh : DO G X W hi fh) : DE G X W (.Subscript e (.Slice lo hi none p2) pos) (eSlice f fl fh) := by
  obtain ⟨t, p, q⟩ := he
  obtain ⟨tl, pl, ql⟩ := hl
  obtain ⟨th, ph, qh⟩ := hh
  refine ⟨_, pe_slice (sl_list.or sl_tupA) p pl ph, fun σ H env φ S Q s re h => ?_⟩
  refine q σ H env φ S _ s re (PostE.bind h fun x S1 φ1 H1 v e1 s1 i1 h1 => ?_)
  refine ql σ H1 env φ1 S1 _ s1 (re.ext e1) (PostO.bindE h1 fun l S2 φ2 H2 e2 s2 h2 => ?_)
  refine qh σ H2 env φ2 S2 _ s2 ((re.ext e1).ext e2) (PostO.bindE h2 fun u S3 φ3 H3 e3 s3 h3 => ?_)
  have i3 := (i1.ext e2).ext e3
  unfold slD at h3
  split at h3
  · rename_i ds
    obtain ⟨a, xs, rfl, r, il⟩ := i3
    refine .inr ⟨a, xs, rfl, by rw [hK]; exact r.seq, fun hw => ?_, fun _ p hp => tup_new s3 (il.cut l u) h3 hp⟩
    rw [← il.length] at hw
    rw [cut_whole hw] at h3
    exact h3.now s3 ⟨a, xs, rfl, r, il⟩
  · split at h3
    · rename_i ds e
      obtain ⟨a, xs, rfl, r, il⟩ := listD_sq s3 i3 e
      exact .inl ⟨a, xs, rfl, by rw [hK]; exact r, fun p hp => lst_new s3 (il.cut l u) h3 hp⟩
    · exact False.elim h3
end
end DL
end
section
/-! D-layer, part 6: how the values are reckoned (by simp). -/
namespace DL
open PySem L2
variable [DL.Nm]
section
variable {d : D} {S : Store} {x : Exc} {e env : EnvD} {i j : Int}
@[simp] theorem ER.bind_ok {g : D → Store → ER} : (ER.ok d S).bind g = g d S := rfl
@[simp] theorem ER.bind_ex {g : D → Store → ER} : (ER.ex x S).bind g = .ex x S := rfl
@[simp] theorem ER.bind_bad {g : D → Store → ER} : ER.bad.bind g = .bad := rfl
@[simp] theorem ER.bindL_ok {g : D → Store → LR} : (ER.ok d S).bindL g = g d S := rfl
@[simp] theorem ER.bindL_ex {g : D → Store → LR} : (ER.ex x S).bindL g = .ex x S := rfl
@[simp] theorem ER.bindL_bad {g : D → Store → LR} : ER.bad.bindL g = .bad := rfl
@[simp] theorem LR.bind_ok {ds : List D} {g : List D → Store → LR} : (LR.ok ds S).bind g = g ds S := rfl
@[simp] theorem LR.bind_ex {g : List D → Store → LR} : (LR.ex x S).bind g = .ex x S := rfl
@[simp] theorem LR.bind_bad {g : List D → Store → LR} : LR.bad.bind g = .bad := rfl
@[simp] theorem LR.bindE_ok {ds : List D} {g : List D → Store → ER} : (LR.ok ds S).bindE g = g ds S := rfl
@[simp] theorem LR.bindE_ex {g : List D → Store → ER} : (LR.ex x S).bindE g = .ex x S := rfl
@[simp] theorem LR.bindE_bad {g : List D → Store → ER} : LR.bad.bindE g = .bad := rfl
@[simp] theorem ER.bindS_ok {g : D → Store → SR} : (ER.ok d S).bindS e g = g d S := rfl
@[simp] theorem ER.bindS_ex {g : D → Store → SR} : (ER.ex x S).bindS e g = .ex x e S := rfl
@[simp] theorem ER.bindS_bad {g : D → Store → SR} : ER.bad.bindS e g = .bad := rfl
@[simp] theorem LR.bindS_ok {ds : List D} {g : List D → Store → SR} : (LR.ok ds S).bindS e g = g ds S := rfl
@[simp] theorem LR.bindS_ex {g : List D → Store → SR} : (LR.ex x S).bindS e g = .ex x e S := rfl
@[simp] theorem LR.bindS_bad {g : List D → Store → SR} : LR.bad.bindS e g = .bad := rfl
@[simp] theorem OR.bindE_ok {o : Option Int} {g : Option Int → Store → ER} : (OR.ok o S).bindE g = g o S := rfl
@[simp] theorem SR.seq_nx {g : EnvD → Store → SR} : (SR.nx e S).seq g = g e S := rfl
@[simp] theorem SR.seq_rt {g : EnvD → Store → SR} : (SR.rt d S).seq g = .rt d S := rfl
@[simp] theorem SR.seq_bk {g : EnvD → Store → SR} : (SR.bk e S).seq g = .bk e S := rfl
@[simp] theorem SR.seq_ct {g : EnvD → Store → SR} : (SR.ct e S).seq g = .ct e S := rfl
@[simp] theorem SR.seq_ex {g : EnvD → Store → SR} : (SR.ex x e S).seq g = .ex x e S := rfl
@[simp] theorem SR.seq_bad {g : EnvD → Store → SR} : SR.bad.seq g = .bad := rfl
@[simp] theorem eVar_at {i : Nat} (h : env[i]? = some (some d)) : eVar i env S = .ok d S := by unfold eVar; rw [h]
@[simp] theorem eC_is : eC d env S = .ok d S := rfl
@[simp] theorem lNil_is : lNil env S = .ok [] S := rfl
@[simp] theorem lCons_is {f : EM} {g : LM} : lCons f g env S = (f env S).bindL fun d S => (g env S).bind fun ds S => .ok (d :: ds) S := rfl
@[simp] theorem eOp_is {g : D → D → Store → ER} {a b : EM} : eOp g a b env S = (a env S).bind fun x S => (b env S).bind fun y S => g x y S := rfl
@[simp] theorem eCall_is {F : FD} {f : LM} : eCall F f env S = (f env S).bindE F := rfl
@[simp] theorem eCallB_is {g : List D → Store → ER} {f : LM} : eCallB g f env S = (f env S).bindE g := rfl
@[simp] theorem eTup_is {f : LM} : eTup f env S = (f env S).bindE fun ds S => if sz ds.length then .ok (.tup ds) S else .bad := rfl
@[simp] theorem eLst_is {f : LM} : eLst f env S = (f env S).bindE fun ds S => if sz ds.length then .ok (.lst ds) S else .bad := rfl
@[simp] theorem eLstM_is {f : LM} : eLstM f env S = (f env S).bindE fun ds S => if sz ds.length then .ok (.loc S.length) (S ++ [.lst ds]) else .bad := rfl
@[simp] theorem eAnd_is {a b : EM} : eAnd a b env S = (a env S).bind fun d S => match d with | .bl true => b env S | .bl false => .ok (.bl false) S | _ => .bad := rfl
@[simp] theorem eOr_is {a b : EM} : eOr a b env S = (a env S).bind fun d S => match d with | .bl true => .ok (.bl true) S | .bl false => b env S | _ => .bad := rfl
@[simp] theorem eNot_is {a : EM} : eNot a env S = (a env S).bind fun d S => match d with | .bl b => .ok (.bl (!b)) S | _ => .bad := rfl
@[simp] theorem eIf_is {c a b : EM} : eIf c a b env S = (c env S).bind fun d S => match d with | .bl true => a env S | .bl false => b env S | _ => .bad := rfl
@[simp] theorem eNeg_is {a : EM} : eNeg a env S = (a env S).bind fun d S => match d with | .int i => .ok (.int (-i)) S | _ => .bad := rfl
@[simp] theorem eChain_is {g g' : D → D → Store → ER} {a b c : EM} : eChain g g' a b c env S = (a env S).bind fun x S => (b env S).bind fun y S => (g x y S).bind fun z S => match z with
  | .bl true => (c env S).bind fun w S => g' y w S
  | .bl false => .ok (.bl false) S
  | _ => .bad := rfl
@[simp] theorem sSkip_is : sSkip e S = .nx e S := rfl
@[simp] theorem sBk_is : sBk e S = .bk e S := rfl
@[simp] theorem sCt_is : sCt e S = .ct e S := rfl
@[simp] theorem sSeq_is {a b : SM} : sSeq a b e S = (a e S).seq b := rfl
@[simp] theorem sRet_is {f : EM} : sRet f e S = (f e S).bindS e fun d S => .rt d S := rfl
@[simp] theorem sRetN_is : sRetN e S = .rt .non S := rfl
@[simp] theorem sDrop_is {f : EM} : sDrop f e S = (f e S).bindS e fun _ S => .nx e S := rfl
@[simp] theorem sIf_is {c : EM} {a b : SM} : sIf c a b e S = (c e S).bindS e fun d S => match d with | .bl true => a e S | .bl false => b e S | _ => .bad := rfl
@[simp] theorem sAsg_is {f : EM} {b : D → EnvD → Option EnvD} : sAsg f b e S = (f e S).bindS e fun d S => match b d e with | some e' => .nx e' S | none => .bad := rfl
@[simp] theorem sPar_is {i j : Nat} {f : LM} : sPar i j f e S = (f e S).bindS e fun ds S => match ds with | [a, b] => .nx ((e.set i (some a)).set j (some b)) S | _ => .bad := rfl
@[simp] theorem sPar3_is {i j l : Nat} {f : LM} : sPar3 i j l f e S = (f e S).bindS e fun ds S => match ds with | [a, b, c] => .nx (((e.set i (some a)).set j (some b)).set l (some c)) S | _ => .bad := rfl
@[simp] theorem sAug_is {i : Nat} {g : D → D → Store → ER} {f : EM} : sAug i g f e S = (eOp g (eVar i) f e S).bindS e fun d S => .nx (e.set i (some d)) S := rfl
@[simp] theorem sFor_is {f : LM} {b : D → EnvD → Option EnvD} {body : SM} : sFor f b body e S = (f e S).bindS e fun ds S => forD b body ds e S := rfl
@[simp] theorem sPutL_is {o i f : EM} : sPutL o i f env S = (f env S).bindS env fun d S => (o env S).bindS env fun a S => (i env S).bindS env fun b S => match setD a b d S with
  | some S' => .nx env S'
  | none => .bad := rfl
@[simp] theorem bName_is {i : Nat} : bName i d env = some (env.set i (some d)) := rfl
@[simp] theorem bTup_is {b : List D → EnvD → Option EnvD} {ds : List D} : bTup b (.tup ds) env = b ds env := rfl
@[simp] theorem bNil_is : bNil [] env = some env := rfl
@[simp] theorem bCons_is {b : D → EnvD → Option EnvD} {c : List D → EnvD → Option EnvD} {ds : List D} : bCons b c (d :: ds) env = (b d env).bind (c ds) := rfl
@[simp] theorem forD_nil {b : D → EnvD → Option EnvD} {body : SM} : forD b body [] e S = .nx e S := rfl
@[simp] theorem iSeq_is {f : EM} : iSeq f env S = (f env S).bindL fun d S => match d with
  | .lst ds => .ok ds S
  | .tup ds => .ok ds S
  | .str x => .ok (signsD x) S
  | _ => .bad := rfl
@[simp] theorem iRange1_is {f : LM} : iRange1 f env S = (f env S).bind fun ds S => match ds with
  | [.int j] => if rOk j then .ok (rangeD 0 j.toNat) S else .bad
  | _ => .bad := rfl
@[simp] theorem iRange2_is {f : LM} : iRange2 f env S = (f env S).bind fun ds S => match ds with
  | [.int i, .int j] => if rOk i ∧ rOk j then .ok (rangeD i (j - i).toNat) S else .bad
  | _ => .bad := rfl
theorem rOk_n {n : Nat} (h : n ≤ 1000000000) : rOk (n : Int) := ⟨by omega, by omega⟩
@[simp] theorem iEnumD_is {f : LM} : iEnumD f env S = (f env S).bind fun ds S => match ds with
  | [.lst ds] => .ok (enumD 0 ds) S
  | _ => .bad := rfl
@[simp] theorem iZipD_is {f : LM} : iZipD f env S = (f env S).bind fun ds S => match ds with
  | [.lst ds, .lst es] => .ok (zipD ds es) S
  | _ => .bad := rfl
@[simp] theorem eLc_is {f : LM} {b : D → EnvD → Option EnvD} {tt elt : EM} {vs : List Nat} : eLc f b tt elt vs env S = (f env S).bindE fun ds S => (lcD b tt elt (wipeD env vs) [] ds S).bindE fun ys S => .ok (.lst ys) S := rfl
@[simp] theorem eLcM_is {f : LM} {b : D → EnvD → Option EnvD} {tt elt : EM} {vs : List Nat} : eLcM f b tt elt vs env S = (f env S).bindE fun ds S => (lcD b tt elt (wipeD env vs) [] ds S).bindE fun ys S => .ok (.loc S.length) (S ++ [.lst ys]) := rfl
@[simp] theorem eYes_is : eYes env S = .ok (.bl true) S := rfl
@[simp] theorem wipeD_nil : wipeD env [] = env := rfl
@[simp] theorem wipeD_cons {v : Nat} {vs : List Nat} : wipeD env (v :: vs) = (wipeD env vs).set v none := rfl
@[simp] theorem lcD_nil {b : D → EnvD → Option EnvD} {tt elt : EM} {acc : List D} : lcD b tt elt env acc [] S = .ok acc S := rfl
/-! operators on known values -/
@[simp] theorem opAdd_ii : opAdd (.int i) (.int j) S = .ok (.int (i + j)) S := rfl
@[simp] theorem opAdd_tt {a b : List D} : opAdd (.tup a) (.tup b) S = if sz (a.length + b.length) then .ok (.tup (a ++ b)) S else .bad := rfl
@[simp] theorem opAdd_ll {a b : List D} : opAdd (.lst a) (.lst b) S = if sz (a.length + b.length) then .ok (.lst (a ++ b)) S else .bad := rfl
@[simp] theorem opAdd_ss {a b : Str} : opAdd (.str a) (.str b) S = if sz (a.length + b.length) then .ok (.str (a ++ b)) S else .bad := rfl
@[simp] theorem opSub_ii : opSub (.int i) (.int j) S = .ok (.int (i - j)) S := rfl
@[simp] theorem opMul_ii : opMul (.int i) (.int j) S = if mulOk i j then .ok (.int (i * j)) S else .bad := rfl
@[simp] theorem sz_is {n : Nat} (h : n ≤ 16777216) : sz n := h
@[simp] theorem mulOk_l (h : i.natAbs < 18446744073709551616) : mulOk i j := .inl h
@[simp] theorem mulOk_r (h : j.natAbs < 18446744073709551616) : mulOk i j := .inr (.inl h)
@[simp] theorem divOk_s (h0 : 0 < j) (h : j < 1073741824) : divOk j := ⟨h0, .inl h⟩
@[simp] theorem powOk_is (h0 : 0 ≤ j) (h : j ≤ 1000000) (h2 : i.natAbs < 18446744073709551616) : powOk i j := ⟨h0, h, h2⟩
@[simp] theorem mulSOk_l (h : i.natAbs < 18446744073709551616) : mulSOk i j := .inl h
@[simp] theorem mulSOk_r (h : j.natAbs < 18446744073709551616) : mulSOk i j := .inr h
@[simp] theorem opMod_ii : opMod (.int i) (.int j) S = if 0 < j then .ok (.int (i % j)) S else .bad := rfl
@[simp] theorem opFdiv_ii : opFdiv (.int i) (.int j) S = if divOk j then .ok (.int (i / j)) S else .bad := rfl
@[simp] theorem opPow_ii : opPow (.int i) (.int j) S = if powOk i j then .ok (.int (i ^ j.toNat)) S else .bad := rfl
@[simp] theorem opMulS_ii : opMulS (.int i) (.int j) S = if mulSOk i j then .ok (.int (i * j)) S else .bad := rfl
@[simp] theorem opAddI_ii : opAddI (.int i) (.int j) S = .ok (.int (i + j)) S := rfl
@[simp] theorem opLt_ii : opLt (.int i) (.int j) S = .ok (.bl (decide (i < j))) S := rfl
@[simp] theorem opLe_ii : opLe (.int i) (.int j) S = .ok (.bl (decide (i ≤ j))) S := rfl
@[simp] theorem opGt_ii : opGt (.int i) (.int j) S = .ok (.bl (decide (j < i))) S := rfl
@[simp] theorem opGe_ii : opGe (.int i) (.int j) S = .ok (.bl (decide (j ≤ i))) S := rfl
theorem shaped_int (i : Int) : SeqAt.shaped (.int i) = true := rfl
@[simp] theorem opEq_ii : opEq (.int i) (.int j) S = .ok (.bl (decide (i = j))) S := by
  unfold opEq opEqB
  simp only [D.pyO, D.py, shaped_int, Bool.and_self, if_true]
  show ER.ok (.bl (i == j)) S = _
  rw [Bool.beq_eq_decide_eq]
@[simp] theorem opNe_ii : opNe (.int i) (.int j) S = .ok (.bl (!decide (i = j))) S := by
  unfold opNe opEqB
  simp only [D.pyO, D.py, shaped_int, Bool.and_self, if_true]
  show ER.ok (.bl (!(i == j))) S = _
  rw [Bool.beq_eq_decide_eq]
@[simp] theorem opEq_ss {a b : Str} : opEq (.str a) (.str b) S = .ok (.bl (decide (a = b))) S := rfl
@[simp] theorem opNe_ss {a b : Str} : opNe (.str a) (.str b) S = .ok (.bl (!decide (a = b))) S := rfl
@[simp] theorem opEq_bb {a b : Bool} : opEq (.bl a) (.bl b) S = .ok (.bl (a == b)) S := rfl
@[simp] theorem opNe_bb {a b : Bool} : opNe (.bl a) (.bl b) S = .ok (.bl (!(a == b))) S := rfl
@[simp] theorem opIsN_non : opIsN d .non S = .ok (.bl d.isN) S := rfl
@[simp] theorem opNotN_non : opNotN d .non S = .ok (.bl (!d.isN)) S := rfl
@[simp] theorem isN_non : D.isN .non = true := rfl
@[simp] theorem isN_int : D.isN (.int i) = false := rfl
@[simp] theorem isN_str {z : Str} : D.isN (.str z) = false := rfl
@[simp] theorem isN_bl {b : Bool} : D.isN (.bl b) = false := rfl
@[simp] theorem isN_tup {ds : List D} : D.isN (.tup ds) = false := rfl
@[simp] theorem isN_lst {ds : List D} : D.isN (.lst ds) = false := rfl
@[simp] theorem isN_loc {l : Nat} : D.isN (.loc l) = false := rfl
@[simp] theorem isN_dic {ks ds} : D.isN (.dic ks ds) = false := rfl
@[simp] theorem isN_obj {c ks ds} : D.isN (.obj c ks ds) = false := rfl
@[simp] theorem atI_0 {α : Type} {a : α} {r : List α} : atI (a :: r) 0 = some a := by simp [atI, ixN]
@[simp] theorem atI_1 {α : Type} {a b : α} {r : List α} : atI (a :: b :: r) 1 = some b := by
  have : (1 : Int) < (r.length : Int) + 1 + 1 := by omega
  simp [atI, ixN, this]
@[simp] theorem atI_2 {α : Type} {a b c : α} {r : List α} : atI (a :: b :: c :: r) 2 = some c := by
  have : (2 : Int) < (r.length : Int) + 1 + 1 + 1 := by omega
  simp [atI, ixN, this]
@[simp] theorem opIx_ti {ds : List D} : opIx (.tup ds) (.int i) S = match atI ds i with | some d => .ok d S | none => .bad := rfl
@[simp] theorem opIx_li {ds : List D} : opIx (.lst ds) (.int i) S = match atI ds i with | some d => .ok d S | none => .bad := rfl
/-- a cell, by a name of its own -/
def cel (S : Store) (l : Nat) : Option Cell := S[l]?
theorem cel_lt {l : Nat} {c : Cell} (h : cel S l = some c) : l < S.length := (List.getElem?_eq_some_iff.mp h).1
@[simp] theorem cel_set_same {l : Nat} {c : Cell} (h : (cel S l).isSome = true) : cel (S.set l c) l = some c := by
  obtain ⟨c0, e⟩ := Option.isSome_iff_exists.mp h
  exact List.getElem?_set_self (cel_lt e)
@[simp] theorem cel_set_ne {l m : Nat} {c : Cell} (h : l ≠ m) : cel (S.set l c) m = cel S m := List.getElem?_set_ne h
@[simp] theorem cel_last {c : Cell} : cel (S ++ [c]) S.length = some c := by simp [cel]
@[simp] theorem opIx_c {l : Nat} : opIx (.loc l) (.int i) S = match cel S l with
  | some (.lst ds) => (match atI ds i with | some d => .ok d S | none => .bad)
  | _ => .bad := by
  simp only [opIx, listD, cel]
  cases S[l]? with
  | none => rfl
  | some c => cases c <;> first | rfl | (rename_i ds; cases atI ds i <;> rfl)
@[simp] theorem bLen_t {ds : List D} : bLen [.tup ds] S = .ok (.int ds.length) S := rfl
@[simp] theorem bLen_l {ds : List D} : bLen [.lst ds] S = .ok (.int ds.length) S := rfl
@[simp] theorem bLen_c {l : Nat} : bLen [.loc l] S = match cel S l with | some (.lst ds) => .ok (.int ds.length) S | _ => .bad := by
  simp only [bLen, seqD, listD, cel]
  cases S[l]? with
  | none => rfl
  | some c => cases c <;> rfl
@[simp] theorem bLen_s {z : Str} : bLen [.str z] S = if sz z.length then .ok (.int z.length) S else .bad := rfl
@[simp] theorem bII_is {g : Int → Int → Int} : bII g [.int i, .int j] S = .ok (.int (g i j)) S := rfl
@[simp] theorem bAbs_is : bAbs [.int i] S = .ok (.int (if i < 0 then -i else i)) S := rfl
@[simp] theorem bInt_i : bInt [.int i] S = .ok (.int i) S := rfl
@[simp] theorem bInt_b {b : Bool} : bInt [.bl b] S = .ok (.int (if b then 1 else 0)) S := rfl
@[simp] theorem bList_l {ds : List D} : bList [.lst ds] S = .ok (.lst ds) S := rfl
@[simp] theorem bList_t {ds : List D} : bList [.tup ds] S = .ok (.lst ds) S := rfl
@[simp] theorem bTuple_l {ds : List D} : bTuple [.lst ds] S = .ok (.tup ds) S := rfl
@[simp] theorem bTuple_t {ds : List D} : bTuple [.tup ds] S = .ok (.tup ds) S := rfl
@[simp] theorem bAll_is {bs : List Bool} : bAll [.lst (bs.map .bl)] S = .ok (.bl (bs.all id)) S := by simp [bAll, listD, blsD_map]
@[simp] theorem bAny_is {bs : List Bool} : bAny [.lst (bs.map .bl)] S = .ok (.bl (bs.any id)) S := by simp [bAny, listD, blsD_map]
@[simp] theorem bSum_is {ns : List Int} : bSum [.lst (ns.map .int)] S = .ok (.int ns.sum) S := by simp [bSum, listD, intsD_map]
@[simp] theorem oNone_is : oNone env S = .ok none S := rfl
@[simp] theorem oSome_is {f : EM} (h : f env S = .ok (.int i) S) : oSome f env S = .ok (some i) S := by unfold oSome; rw [h]
@[simp] theorem eSlice_is {f : EM} {lo hi : OM} : eSlice f lo hi env S = (f env S).bind fun x S => (lo env S).bindE fun l S => (hi env S).bindE fun u S => slD x l u S := rfl
@[simp] theorem slD_l {ds : List D} {a b : Option Int} : slD (.lst ds) a b S = .ok (.lst (cutD ds a b)) S := rfl
@[simp] theorem slD_t {ds : List D} {a b : Option Int} : slD (.tup ds) a b S = .ok (.tup (cutD ds a b)) S := rfl
@[simp] theorem eIsi_is {b : Ty} {f : EM} : eIsi b f env S = (f env S).bind fun d S => match tyOf S d with | some a => .ok (.bl (a.isa b)) S | none => .bad := rfl
@[simp] theorem eIsi2_is {b c : Ty} {f : EM} : eIsi2 b c f env S = (f env S).bind fun d S => match tyOf S d with | some a => .ok (.bl (a.isa b || a.isa c)) S | none => .bad := rfl
@[simp] theorem tyOf_int : tyOf S (.int i) = some .int := rfl
@[simp] theorem tyOf_bl {b : Bool} : tyOf S (.bl b) = some .bool := rfl
@[simp] theorem tyOf_str {z : Str} : tyOf S (.str z) = some .str := rfl
@[simp] theorem tyOf_non : tyOf S .non = some .none := rfl
@[simp] theorem tyOf_tup {ds : List D} : tyOf S (.tup ds) = some .tuple := rfl
@[simp] theorem tyOf_lst {ds : List D} : tyOf S (.lst ds) = some .list := rfl
@[simp] theorem tyOf_dic {ks ds} : tyOf S (.dic ks ds) = some .dict := rfl
@[simp] theorem setD_is {l : Nat} : setD (.loc l) (.int i) d S = match cel S l with | some (.lst ds) => (putIx i ds d).map fun es => S.set l (.lst es) | _ => none := rfl
@[simp] theorem putIx_0 {a : D} {r : List D} : putIx 0 (a :: r) d = some (d :: r) := by simp [putIx, ixN]
@[simp] theorem putIx_1 {a b : D} {r : List D} : putIx 1 (a :: b :: r) d = some (a :: d :: r) := by
  have : (1 : Int) < (r.length : Int) + 1 + 1 := by omega
  simp [putIx, ixN, this]
@[simp] theorem putIx_2 {a b c : D} {r : List D} : putIx 2 (a :: b :: c :: r) d = some (a :: b :: d :: r) := by
  have : (2 : Int) < (r.length : Int) + 1 + 1 + 1 := by omega
  simp [putIx, ixN, this]
@[simp] theorem fnF_is {m : Mode} {n : Nat} {g : SM} {ds : List D} : fnF m n g ds S = match g (startD n ds) S with
  | .nx _ S1 => exitD m S .non S1
  | .rt d S1 => exitD m S d S1
  | .ex x _ S1 => .ex x S1
  | _ => .bad := rfl
@[simp] theorem exitD_keep {S0 : Store} : exitD .keep S0 d S = .ok d S := rfl
theorem exit_of {S0 : Store} {d' : D} (h : frzD (resD S0.length S 12) d = some d') (h2 : S.take S0.length = S0) : exitD .pure S0 d S = .ok d' S0 := by
  unfold exitD
  simp only [h]
  rw [if_pos (.inl h2), h2]
theorem exit_same {S0 : Store} {d' : D} (h : frzD (resD S0.length S0 12) d = some d') : exitD .pure S0 d S0 = .ok d' S0 := exit_of h (by simp)
@[simp] theorem exit_int {S0 : Store} : exitD .pure S0 (.int i) S0 = .ok (.int i) S0 := exit_same rfl
@[simp] theorem exit_bl {S0 : Store} {b : Bool} : exitD .pure S0 (.bl b) S0 = .ok (.bl b) S0 := exit_same rfl
@[simp] theorem exit_str {S0 : Store} {z : Str} : exitD .pure S0 (.str z) S0 = .ok (.str z) S0 := exit_same rfl
@[simp] theorem exit_non {S0 : Store} : exitD .pure S0 .non S0 = .ok .non S0 := exit_same rfl
@[simp] theorem exit_int2 {S0 : Store} {j : Int} : exitD .pure S0 (.tup [.int i, .int j]) S0 = .ok (.tup [.int i, .int j]) S0 := exit_same rfl
@[simp] theorem startD1 {a : D} {n : Nat} : startD (n + 1) [a] = some a :: List.replicate n none := by simp [startD]
@[simp] theorem startD2 {a b : D} {n : Nat} : startD (n + 2) [a, b] = some a :: some b :: List.replicate n none := by simp [startD]
@[simp] theorem startD3 {a b c : D} {n : Nat} : startD (n + 3) [a, b, c] = some a :: some b :: some c :: List.replicate n none := by simp [startD]
end
end DL
end
section
/-! D-layer, part 7: more of sequences; dicts. -/
namespace L2
open PySem PySem.Spec PyProof.Rows
variable [DL.Nm]
section
variable {X : Cx}
def rInTu (K : PySem.W.Frag) (neg : Bool) : R2 := fun x y H Q => ∃ d ds, Dp K H x d ∧ Dp K H y (.tuple ds) ∧ SeqAt.shaped d = true ∧ SeqAt.shaped (.tuple ds) = true ∧ Q (.bl (if neg then !(ds.any fun z => PyData.eqv z d) else ds.any fun z => PyData.eqv z d)) H
theorem op_inTu (hu : X.A.units + 65 < cLine) : OpR X (compareOp .In) (rInTu X.K false) := by
  intro pins s σ H x y v u Q I rx ry h
  obtain ⟨d, ds, hd, he, sd, se, q⟩ := h
  obtain ⟨as, r1⟩ := Dp.reads I d x v hd rx
  obtain ⟨bs, r2⟩ := Dp.reads I (.tuple ds) y u he ry
  exact SeqAt.in_tuple_reads r2 r1 (SeqAt.canLay_of_shaped se) (SeqAt.canLay_of_shaped sd) (room_in_shaped sd hu) ⟨.bl _, H, I, rfl, q⟩
theorem op_notInTu (hu : X.A.units + 65 < cLine) : OpR X (compareOp .NotIn) (rInTu X.K true) := by
  intro pins s σ H x y v u Q I rx ry h
  obtain ⟨d, ds, hd, he, sd, se, q⟩ := h
  obtain ⟨as, r1⟩ := Dp.reads I d x v hd rx
  obtain ⟨bs, r2⟩ := Dp.reads I (.tuple ds) y u he ry
  exact SeqAt.notIn_tuple_reads r2 r1 (SeqAt.canLay_of_shaped se) (SeqAt.canLay_of_shaped sd) (room_in_shaped sd hu) ⟨.bl _, H, I, rfl, q⟩
end
end L2
namespace DL
open PySem L2 PySem.Spec PyProof.Rows
variable [DL.Nm]

/-! ### a list's cell changes -/
def w63 (i : Int) : Prop := -(2 ^ 63) ≤ i ∧ i < 2 ^ 63
noncomputable instance {i : Int} : Decidable (w63 i) := Classical.propDecidable _
section
variable {G : Glb} {X : Cx} {W : WX}
theorem IsL.eraseIdx {φ : Fi} {H : Hp} : ∀ {ds : List D} {xs : List V} (n : Nat), IsL G φ H ds xs → IsL G φ H (ds.eraseIdx n) (xs.eraseIdx n)
  | [], xs, n, h => by cases (show xs = [] from h); exact rfl
  | _ :: _, xs, 0, h => by
    obtain ⟨x, r, rfl, p, q⟩ := h
    exact q
  | _ :: _, xs, n + 1, h => by
    obtain ⟨x, r, rfl, p, q⟩ := h
    exact ⟨x, _, rfl, p, IsL.eraseIdx n q⟩
noncomputable def mPopAt (o : D) (ds : List D) (S : Store) : ER := cellL S o fun l xs => match ds with
  | [.int i] => if w63 i then (match seqIndex? i xs.length with
    | some k => (match xs[k]? with
      | some d => .ok d (S.set l (.lst (xs.eraseIdx k)))
      | none => .bad)
    | none => .bad) else .bad
  | _ => .bad
noncomputable def mInsert (o : D) (ds : List D) (S : Store) : ER := cellL S o fun l xs => match ds with
  | [.int i, d] => if sz (xs.length + 1) ∧ 0 ≤ i ∧ w63 i then .ok .non (S.set l (.lst (xs.take i.toNat ++ [d] ++ xs.drop i.toNat))) else .bad
  | _ => .bad
def mClear (o : D) (ds : List D) (S : Store) : ER := cellL S o fun l xs => match ds with
  | [] => .ok .non (S.set l (.lst []))
  | _ => .bad
/-- xs.index(y): nested data -/
noncomputable def mIndex (o : D) (ds : List D) (S : Store) : ER := match ds with
  | [d] => match o.pyO S, d.pyO S with
    | some (.list ps), some p => if SeqAt.shaped (.list ps) && SeqAt.shaped p then (match ps.findIdx? fun z => PyData.eqv z p with
      | some j => .ok (.int j) S
      | none => .bad) else .bad
    | _, _ => .bad
  | _ => .bad
theorem Dp.isRef {K : PySem.W.Frag} {H : Hp} {v : V} {ps : List PyData} (h : Dp K H v (.list ps)) : ∃ a, v = .ref a := by
  cases h with
  | lst hs ha => exact ⟨_, rfl⟩
theorem dm_index (hK : X.K = G.K) (hu : X.A.units + 65 < cLine) : DMeth G X "list.index" mIndex := by
  refine ⟨_, mt_indexD hu, fun W φ S H σ dx ds x xs Q s ix ids h => ?_⟩
  unfold mIndex at h
  split at h
  · obtain ⟨y, rfl, k⟩ := IsL.inv1 ids
    split at h
    · rename_i ps p e1 e2
      split at h
      · rename_i hs
        simp only [Bool.and_eq_true] at hs
        split at h
        · rename_i j hj
          have d1 := D.pyO_dp s ix e1
          obtain ⟨a, rfl⟩ := Dp.isRef d1
          have ⟨hl, hp, hm⟩ := List.findIdx?_eq_some_iff_getElem.mp hj
          refine ⟨a, y, p, ps, j, ps[j], rfl, rfl, by rw [hK]; exact d1, by rw [hK]; exact D.pyO_dp s k e2, hs.1, hs.2, List.getElem?_eq_getElem hl, hp, fun m z hmj hz => ?_, h.now s rfl⟩
          have hml : m < ps.length := by omega
          rw [List.getElem?_eq_getElem hml] at hz
          cases hz
          have := hm m hmj
          simpa using this
        · exact False.elim h
      · exact False.elim h
    · exact False.elim h
  · exact False.elim h
def mRemove (o : D) (ds : List D) (S : Store) : ER := cellL S o fun l xs => match ds with
  | [.int k] => match intsD xs with
    | some ns => if k ∈ ns then .ok .non (S.set l (.lst ((ns.erase k).map .int))) else .bad
    | none => .bad
  | _ => .bad
/-! ### sorted -/
/-- whole numbers in order -/
def sortI (ns : List Int) : List Int := ns.mergeSort fun a b => decide (a ≤ b)
def bSorted (ds : List D) (S : Store) : ER := match ds with
  | [d] => match (listD S d).bind intsD with
    | some ns => .ok (.lst ((sortI ns).map .int)) S
    | none => .bad
  | _ => .bad
/-! ### list(range(..)) -/
/-- a range by its bounds -/
def DR (G : Glb) (X : Cx) (W : WX) (e : Expr) (f : LM) : Prop :=
  ∃ t, PRg X e t ∧ ∀ σ H env φ S (Q : Int → Int → Hp → Prop), SOk G φ S H → RepE G φ H σ env → PostL G W φ H σ (f env S) (fun vs H' => ∀ i j, vs = [.int i, .int j] → Q i j H') → t σ H Q
noncomputable def rg1 (f : EM) : LM := fun env S => (f env S).bindL fun d S => match d with
  | .int n => if rOk n ∧ sz n.toNat then .ok [.int 0, .int n] S else .bad
  | _ => .bad
noncomputable def rg2D (d d2 : D) (S : Store) : LR := match d, d2 with
  | .int i, .int j => if rOk i ∧ rOk j ∧ sz (j - i).toNat then .ok [.int i, .int j] S else .bad
  | _, _ => .bad
noncomputable def rg2 (f g : EM) : LM := fun env S => (f env S).bindL fun d S => (g env S).bindL fun d2 S => rg2D d d2 S
theorem dr_1 {a : Expr} {p pos : Pos} {f : EM} (hg : Gl X "range") (hm : X.mg "range" = none) (ha : DE G X W a f) (na : starEach [a] X.env = (false, eval a X.env) :: starEach [] X.env := by rfl) : DR G X W (.Call (.Name "range" p) [a] [] pos) (rg1 f) := by
  obtain ⟨t, pt, q⟩ := ha
  refine ⟨_, prg_1 hg hm pt na, fun σ H env φ S Q s re h => ?_⟩
  refine q σ H env φ S _ s re (PostE.bindL h fun d S1 φ1 H1 v e1 s1 i1 h1 => ?_)
  split at h1
  · cases (show v = _ from i1)
    split at h1
    · exact ⟨_, rfl, h1.now s1 (show IsL G φ1 H1 _ [.int 0, .int _] from ⟨_, _, rfl, rfl, .one rfl⟩) _ _ rfl⟩
    · exact False.elim h1
  · exact False.elim h1
theorem rOk2 {i j : Int} (h1 : rOk i) (h2 : rOk j) (h3 : sz (j - i).toNat) : RgOk i j := ⟨h1.lo, h1.hi, h2.lo, h2.hi, h3⟩
/-- small bounds, for certain -/
def rgOk (f : LM) : Prop := ∀ env S ds S', f env S = .ok ds S' → ∃ i j, ds = [.int i, .int j] ∧ rOk i ∧ rOk j ∧ sz (j - i).toNat
theorem rgOk1 {f : EM} : rgOk (rg1 f) := fun env S ds S' h => by
  unfold rg1 at h
  cases hf : f env S with
  | ok d S1 =>
    rw [hf] at h
    have h' : (match d with | .int n => if rOk n ∧ sz n.toNat then LR.ok [.int 0, .int n] S1 else .bad | _ => .bad) = .ok ds S' := h
    split at h'
    · rename_i n
      split at h'
      · rename_i hn
        cases h'
        exact ⟨0, n, rfl, ⟨by decide, by decide⟩, hn.1, by rw [Int.sub_zero]; exact hn.2⟩
      · cases h'
    · cases h'
  | ex x S1 => rw [hf] at h; cases h
  | bad => rw [hf] at h; cases h
theorem isL_rg {φ : Fi} {H : Hp} (a b : Int) : IsL G φ H (rangeD a (b - a).toNat) (rgV a b) := by
  have : rangeD a (b - a).toNat = ((List.range (b - a).toNat).map fun i => a + ((i : Nat) : Int)).map D.int := by unfold rangeD; rw [List.map_map]; rfl
  rw [this]
  have e : rgV a b = ((List.range (b - a).toNat).map fun i => a + ((i : Nat) : Int)).map V.int := by unfold rgV; rw [List.map_map]; rfl
  rw [e]
  exact IsL.of_ints
def eLRg (f : LM) : EM := fun env S => (f env S).bindE fun ds S => match ds with
  | [.int i, .int j] => .ok (.lst (rangeD i (j - i).toNat)) S
  | _ => .bad
def eLRgM (f : LM) : EM := fun env S => (f env S).bindE fun ds S => match ds with
  | [.int i, .int j] => .ok (.loc S.length) (S ++ [.lst (rangeD i (j - i).toNat)])
  | _ => .bad
def eTRg (f : LM) : EM := fun env S => (f env S).bindE fun ds S => match ds with
  | [.int i, .int j] => .ok (.tup (rangeD i (j - i).toNat)) S
  | _ => .bad
theorem PostL.rg {φ : Fi} {H : Hp} {σ : L2.St} {f : LM} {env : EnvD} {S : Store} (ok : rgOk f) {g : List D → Store → ER} {Q : VK} {Q' : List V → Hp → Prop} (h : PostE G W φ H σ ((f env S).bindE g) Q)
    (k : ∀ i j S1 φ1 H1, Ext φ H φ1 H1 → SOk G φ1 S1 H1 → RgOk i j → PostE G W φ1 H1 σ (g [.int i, .int j] S1) Q → Q' [.int i, .int j] H1) : PostL G W φ H σ (f env S) Q' := by
  cases hf : f env S with
  | ok ds S1 =>
    rw [hf] at h
    obtain ⟨i, j, rfl, h1, h2, h3⟩ := ok _ _ _ _ hf
    intro φ1 H1 vs e s il
    obtain ⟨x, y, rfl, k1, k2⟩ := IsL.inv2 il
    cases (show x = _ from k1); cases (show y = _ from k2)
    exact k i j S1 φ1 H1 e s (rOk2 h1 h2 h3) (PostE.ext e h)
  | ex x S1 => rw [hf] at h; exact h
  | bad => rw [hf] at h; exact h
theorem de_tupRg {e : Expr} {p pos : Pos} {f : LM} (hc : X.calm = true) (hg : Gl X "tuple") (hm : X.mg "tuple" = none) (ok : rgOk f) (he : DR G X W e f) (na : starEach [e] X.env = (false, eval e X.env) :: starEach [] X.env := by rfl) : DE G X W (.Call (.Name "tuple" p) [e] [] pos) (eTRg f) := by
  obtain ⟨t, pt, q⟩ := he
  refine ⟨_, pe_tupRg hc hg hm pt na, fun σ H env φ S Q s re h => q σ H env φ S _ s re (PostL.rg ok h fun i j S1 φ1 H1 e1 s1 hr h1 i' j' e => ?_)⟩
  cases e
  exact ⟨hr, fun l hl => tup_new s1 (isL_rg i j) h1 hl⟩
/-! ### bits, xs * n -/
def opAnd (x y : D) (S : Store) : ER := opI (fun i j => .ok (.int (Builtin.bitAnd i j)) S) x y
def opOr (x y : D) (S : Store) : ER := opI (fun i j => .ok (.int (Builtin.bitOr i j)) S) x y
def opXor (x y : D) (S : Store) : ER := opI (fun i j => .ok (.int (Builtin.bitXor i j)) S) x y
def opShr (x y : D) (S : Store) : ER := opI (fun i j => if 0 ≤ j then .ok (.int (i / 2 ^ j.toNat)) S else .bad) x y
noncomputable def opShl (x y : D) (S : Store) : ER := opI (fun i j => if powOk i j then .ok (.int (i * 2 ^ j.toNat)) S else .bad) x y
/-- xs * n (a cell's list), tuple * n -/
noncomputable def opMulX (x y : D) (S : Store) : ER := match x, y with
  | .loc l, .int k => match S[l]? with
    | some (.lst ds) => if w63 k ∧ sz (ds.length * k.toNat) then .ok (.lst (List.replicate k.toNat ds).flatten) S else .bad
    | _ => .bad
  | x, y => opMul x y S
/-! ### dicts as data -/
def keyD : D → Option Key
  | .int i => some (.inl i)
  | .str x => some (.inr x)
  | _ => none
def dKey : Key → D
  | .inl i => .int i
  | .inr x => .str x
def dicD (S : Store) : D → Option (List (Key × D))
  | .dic ks ds => some (ks.zip ds)
  | .loc l => match S[l]? with
    | some (.dic kvs) => some kvs
    | _ => none
  | _ => none
theorem keyD_is {φ : Fi} {H : Hp} {d : D} {v : V} {k : Key} (i : Is G φ H d v) (e : keyD d = some k) : v = kV k := by
  cases d with
  | int n => cases e; exact i
  | str x => cases e; exact i
  | _ => cases e
theorem is_dKey {φ : Fi} {H : Hp} (k : Key) : Is G φ H (dKey k) (kV k) := by cases k <;> rfl
/-- keys alike, values as data say -/
def KvIs (G : Glb) (φ : Fi) (H : Hp) (kds : List (Key × D)) (kvs : List (Key × V)) : Prop := kvs.map (·.1) = kds.map (·.1) ∧ IsL G φ H (kds.map (·.2)) (kvs.map (·.2))
theorem zip_fst {α β : Type} : ∀ {ks : List α} {ds : List β}, ks.length = ds.length → (ks.zip ds).map (·.1) = ks
  | [], _, _ => by simp
  | _ :: _, [], h => by simp at h
  | k :: ks, d :: ds, h => by simp [zip_fst (ks := ks) (ds := ds) (by simpa using h)]
theorem zip_snd {α β : Type} : ∀ {ks : List α} {ds : List β}, ks.length = ds.length → (ks.zip ds).map (·.2) = ds
  | [], [], _ => by simp
  | [], _ :: _, h => by simp at h
  | _ :: _, [], h => by simp at h
  | k :: ks, d :: ds, h => by simp [zip_snd (ks := ks) (ds := ds) (by simpa using h)]
theorem dicD_is {φ : Fi} {S : Store} {H : Hp} {d : D} {v : V} {kds : List (Key × D)} (s : SOk G φ S H) (i : Is G φ H d v) (e : dicD S d = some kds) : ∃ a kvs, v = .ref a ∧ Rd H a (.dK kvs) ∧ KvIs G φ H kds kvs := by
  cases d with
  | dic ks ds =>
    cases e
    obtain ⟨a, kvs, rfl, ⟨_, r⟩, z, q⟩ := i
    have hl : ks.length = ds.length := by rw [q.length, ← z]; simp
    exact ⟨a, kvs, rfl, r, by rw [zip_fst hl]; exact z, by rw [zip_snd hl]; exact q⟩
  | loc l =>
    obtain ⟨a, ha, rfl⟩ := i
    simp only [dicD] at e
    split at e
    · rename_i kvs hc
      cases e
      obtain ⟨ws, hw, z, q⟩ := s.at_ hc ha
      exact ⟨a, ws, rfl, .inl hw, z, q⟩
    · cases e
  | _ => cases e
/-- the value of a key -/
def valD (kds : List (Key × D)) (k : Key) : Option D := (kds.find? fun kv => decide (kv.1 = k)).map (·.2)
theorem val_is {φ : Fi} {H : Hp} : ∀ {kds : List (Key × D)} {kvs : List (Key × V)} (k : Key), KvIs G φ H kds kvs → (∀ d, valD kds k = some d → ∃ v, valV kvs k = some v ∧ Is G φ H d v) ∧ (valD kds k = none → valV kvs k = none)
  | [], kvs, k, h => by
    have : kvs = [] := by simpa using h.1
    subst this
    exact ⟨fun d e => (nomatch e), fun _ => rfl⟩
  | (k0, d0) :: kds, kvs, k, h => by
    obtain ⟨h1, h2⟩ := h
    cases kvs with
    | nil => simp at h1
    | cons p r =>
      obtain ⟨kp, vp⟩ := p
      simp only [List.map_cons, List.cons.injEq] at h1
      obtain ⟨e1, e2⟩ := h1
      subst e1
      obtain ⟨x, xs, e3, i1, i2⟩ := h2
      simp only [List.map_cons, List.cons.injEq] at e3
      obtain ⟨rfl, rfl⟩ := e3
      have ih := val_is k (show KvIs G φ H kds r from ⟨e2, i2⟩)
      by_cases hk : kp = k
      · subst hk
        refine ⟨fun d e => ⟨vp, valV_pos rfl, ?_⟩, fun e => ?_⟩
        · simp [valD] at e; subst e; exact i1
        · simp [valD] at e
      · have ed : valD ((kp, d0) :: kds) k = valD kds k := by simp [valD, hk]
        rw [ed, valV_neg (p := (kp, vp)) hk]
        exact ih
/-- y in d, d[y] as operators -/
def rInDc (neg : Bool) : R2 := fun y x H Q => ∃ a o, x = .ref a ∧ DGet H a y o ∧ Q (.bl (if neg then !o.isSome else o.isSome)) H
theorem op_inDc (hu : X.A.units + 1 < cLine) : OpR X (compareOp .In) (rInDc false) := by
  intro pins s σ H y x u v Q I ry rx h
  obtain ⟨a, o, rfl, g, q⟩ := h
  cases rx
  exact d_in hu I g ry fun s3 I3 => ⟨.bl o.isSome, H, I3, rfl, q⟩
theorem op_ninDc (hu : X.A.units + 1 < cLine) : OpR X (compareOp .NotIn) (rInDc true) := by
  intro pins s σ H y x u v Q I ry rx h
  obtain ⟨a, o, rfl, g, q⟩ := h
  cases rx
  exact d_notIn hu I g ry fun s3 I3 => ⟨.bl (!o.isSome), H, I3, rfl, q⟩
def flatD : D → Bool
  | .non => true
  | .bl _ => true
  | .int _ => true
  | .str _ => true
  | _ => false
def eqF : D → D → Bool
  | .non, .non => true
  | .bl a, .bl b => a == b
  | .bl a, .int b => (if a then 1 else 0) == b
  | .int a, .bl b => a == (if b then 1 else 0)
  | .int a, .int b => a == b
  | .str a, .str b => a == b
  | _, _ => false
theorem flat_is {φ : Fi} {H : Hp} {d : D} {v : V} (i : Is G φ H d v) (h : flatD d = true) : flatV v = true := by
  cases d <;> first | (cases h; done) | (cases (show v = _ from i); rfl)
theorem eqF_is {φ : Fi} {H : Hp} {d e : D} {v u : V} (i : Is G φ H d v) (j : Is G φ H e u) (h : flatD d = true) (h2 : flatD e = true) : eqV v u = eqF d e := by
  cases d <;> first | (cases h; done) | (cases (show v = _ from i); cases e <;> first | (cases h2; done) | (cases (show u = _ from j); rfl))
theorem flats_is {φ : Fi} {H : Hp} : ∀ {ds : List D} {vs : List V}, IsL G φ H ds vs → ds.all flatD = true → vs.all flatV = true
  | [], vs, i, _ => by cases (show vs = [] from i); rfl
  | d :: ds, vs, i, h => by
    obtain ⟨x, r, rfl, p, q⟩ := i
    simp only [List.all_cons, Bool.and_eq_true] at h ⊢
    exact ⟨flat_is p h.1, flats_is q h.2⟩
theorem inF_is {φ : Fi} {H : Hp} {x : D} {v : V} (j : Is G φ H x v) (hx : flatD x = true) : ∀ {ds : List D} {vs : List V}, IsL G φ H ds vs → ds.all flatD = true → inV v vs = ds.any fun y => eqF y x
  | [], vs, i, _ => by cases (show vs = [] from i); rfl
  | d :: ds, vs, i, h => by
    obtain ⟨u, r, rfl, p, q⟩ := i
    simp only [List.all_cons, Bool.and_eq_true] at h
    have ih := inF_is j hx q h.2
    unfold inV at ih ⊢
    rw [List.any_cons, List.any_cons, ih, eqF_is p j h.1 hx]
/-- x in y: a sign in a text, a flat item in a list or tuple, an item in a list, a key in a dict -/
def opInB (neg : Bool) (x y : D) (S : Store) : ER := match y with
  | .str z => match x with
    | .str w => match w.cps.toList with
      | [c] => .ok (.bl (if neg then !decide (c ∈ z.cps.toList) else decide (c ∈ z.cps.toList))) S
      | _ => .bad
    | _ => .bad
  | y => match dicD S y with
    | some kds => match keyD x with
      | some k => .ok (.bl (if neg then !(valD kds k).isSome else (valD kds k).isSome)) S
      | none => .bad
    | none => match seqD S y with
      | some ds => if flatD x && ds.all flatD then .ok (.bl (if neg then !(ds.any fun y => eqF y x) else ds.any fun y => eqF y x)) S
        else match x.pyO S, y.pyO S with
          | some p, some (.list ps) => if SeqAt.shaped p && SeqAt.shaped (.list ps) then .ok (.bl (if neg then !(ps.any fun z => PyData.eqv z p) else ps.any fun z => PyData.eqv z p)) S else .bad
          | some p, some (.tuple ps) => if SeqAt.shaped p && SeqAt.shaped (.tuple ps) then .ok (.bl (if neg then !(ps.any fun z => PyData.eqv z p) else ps.any fun z => PyData.eqv z p)) S else .bad
          | _, _ => .bad
      | none => .bad
def opIn := opInB false
def opNotIn := opInB true
theorem str1 {w : Str} {c : Nat} (h : w.cps.toList = [c]) : w = ⟨#[c]⟩ := by
  obtain ⟨a⟩ := w
  have : a = #[c] := by apply Array.ext'; simpa using h
  rw [this]
theorem in_is {neg : Bool} {φ : Fi} {S : Store} {H : Hp} {σ : L2.St} {dx dy : D} {x y : V} {Q : VK} (hK : X.K = G.K) (s : SOk G φ S H) (ix : Is G φ H dx x) (iy : Is G φ H dy y) (h : PostE G W φ H σ (opInB neg dx dy S) Q) :
    (∃ (c : Nat) (z : Str), x = .str ⟨#[c]⟩ ∧ y = .str z ∧ Q (.bl (if neg then !decide (c ∈ z.cps.toList) else decide (c ∈ z.cps.toList))) H) ∨ rInDc neg x y H Q ∨ rIn X.K neg x y H Q ∨
    (∃ d ds, Dp X.K H x d ∧ Dp X.K H y (.list ds) ∧ SeqAt.shaped d = true ∧ SeqAt.shaped (.list ds) = true ∧ Q (.bl (if neg then !(ds.any fun z => PyData.eqv z d) else ds.any fun z => PyData.eqv z d)) H) ∨ rInTu X.K neg x y H Q := by
  unfold opInB at h
  split at h
  · cases (show y = _ from iy)
    split at h
    · cases (show x = _ from ix)
      split at h
      · rename_i c hc
        rw [str1 hc]
        exact .inl ⟨_, _, rfl, rfl, h.now s rfl⟩
      · exact bad_no h
    · exact bad_no h
  · split at h
    · rename_i kds e
      split at h
      · rename_i k ek
        obtain ⟨a, kvs, rfl, r, q⟩ := dicD_is s iy e
        refine .inr (.inl ⟨a, _, rfl, .inl ⟨kvs, k, r, keyD_is ix ek, rfl⟩, ?_⟩)
        have e2 : (valV kvs k).isSome = (valD kds k).isSome := by
          have := val_is k q
          cases hd : valD kds k with
          | none => rw [this.2 hd]; rfl
          | some d => obtain ⟨v, hv, _⟩ := this.1 d hd; rw [hv]; rfl
        rw [e2]
        exact h.now s rfl
      · exact bad_no h
    · split at h
      · rename_i ds e
        obtain ⟨a, xs, rfl, r, q⟩ := seqD_sq s iy e
        split at h
        · rename_i hf
          simp only [Bool.and_eq_true] at hf
          refine .inr (.inr (.inl ⟨a, xs, rfl, by rw [hK]; exact r, flat_is ix hf.1, flats_is q hf.2, ?_⟩))
          rw [inF_is ix hf.1 q hf.2]
          exact h.now s rfl
        · split at h
          · rename_i p ps e1 e2
            split at h
            · rename_i hs
              simp only [Bool.and_eq_true] at hs
              exact .inr (.inr (.inr (.inl ⟨p, ps, by rw [hK]; exact D.pyO_dp s ix e1, by rw [hK]; exact D.pyO_dp s iy e2, hs.1, hs.2, h.now s rfl⟩)))
            · exact bad_no h
          · rename_i p ps e1 e2
            split at h
            · rename_i hs
              simp only [Bool.and_eq_true] at hs
              exact .inr (.inr (.inr (.inr ⟨p, ps, by rw [hK]; exact D.pyO_dp s ix e1, by rw [hK]; exact D.pyO_dp s iy e2, hs.1, hs.2, h.now s rfl⟩)))
            · exact bad_no h
          · exact bad_no h
      · exact bad_no h
theorem do_in (hK : X.K = G.K) (hu : X.A.units + 65 < cLine) : DOp G X (compareOp .In) opIn := by
  refine ⟨_, op_in_sign.or ((op_inDc (by omega)).or (op_in_seq.or ((op_inD hu).or (op_inTu hu)))), fun W φ S H σ dx dy x y Q s ix iy h => ?_⟩
  have := in_is hK s ix iy h
  simp only [Bool.false_eq_true, if_false] at this
  exact this
theorem do_notIn (hK : X.K = G.K) (hu : X.A.units + 65 < cLine) : DOp G X (compareOp .NotIn) opNotIn := by
  refine ⟨_, op_notIn_sign.or ((op_ninDc (by omega)).or (op_notIn_seq.or ((op_notInD hu).or (op_notInTu hu)))), fun W φ S H σ dx dy x y Q s ix iy h => ?_⟩
  have := in_is hK s ix iy h
  simp only [if_true] at this
  exact this
end
end DL
end
section
/-! sets of keys: how many unlike items a list or tuple has -/
namespace DL
open PySem L2 PySem.Spec PyProof.Rows
variable [DL.Nm]
open Classical in
/-- how many unlike ones -/
noncomputable def dcntR : List Key → Nat
  | [] => 0
  | k :: r => if k ∈ r then dcntR r else dcntR r + 1
noncomputable def dcnt (ks : List Key) : Nat := dcntR ks.reverse
open Classical in
section
variable {prog : Program} {w : World} {A : Around} {R : Result → Shared → Prop} {I : Addr} {fp wr : List Addr} {G : Array GenState → Array GenState → Prop} {n : Nat} {P : Nat → Value → Prop} {St : Nat → Shared → Prop}
end
section
variable {prog : Program} {w : World} {A : Around} {E : Value → Shared → Prop} {s : Shared}
end
end DL
end
section
/-! set comprehensions of keys -/
namespace DL
open PySem L2 PySem.Spec PyProof.Rows PpSet
variable [DL.Nm]
section
variable {X : Cx}
end
end DL
end
section
/-! xs[::-1] of a list or a tuple -/
namespace DL
open PySem L2 PySem.Spec PyProof.Rows HT
variable [DL.Nm]
section
variable {prog : Program} {w : World} {A : Around} {E : Value → Shared → Prop} {s : Shared}
end
section
variable {G : Glb} {X : Cx} {W : WX}
theorem PE.or {e : Expr} {t t' : TE} (h : PE X e t) (h' : PE X e t') : PE X e (fun σ H Q => t σ H Q ∨ t' σ H Q) := ⟨fun pins s σ H Q I q => q.elim (h.run pins s σ H Q I) (h'.run pins s σ H Q I)⟩
/-- backwards -/
def revD (S : Store) (d : D) : ER := match d with
  | .tup ds => .ok (.tup ds.reverse) S
  | d => match listD S d with
    | some ds => .ok (.lst ds.reverse) S
    | none => .bad
def eRev (f : EM) : EM := fun env S => (f env S).bind revD'
  where revD' (d : D) (S : Store) : ER := revD S d
end
end DL
end
section
/-! D-layer, part 8: how many unlike ones; dicts. -/
namespace DL
open PySem L2 PySem.Spec PyProof.Rows
variable [DL.Nm]
section
variable {G : Glb} {X : Cx} {W : WX}
def keysD : List D → Option (List Key)
  | [] => some []
  | d :: ds => (keyD d).bind fun k => (keysD ds).map (k :: ·)
/-- few keys: a set of them is scanned -/
def few (n : Nat) : Prop := n + 1 < scanBound
noncomputable instance {n : Nat} : Decidable (few n) := Classical.propDecidable _
/-! ### len(set(xs)) -/
noncomputable def eLenSet (f : EM) : EM := fun env S => (f env S).bind fun d S => match (seqD S d).bind keysD with
  | some ks => if few ks.length then .ok (.int (dcnt ks : Nat)) S else .bad
  | none => .bad
/-! ### len({e for ..}) -/
noncomputable def scD (b : D → EnvD → Option EnvD) (tt elt : EM) (env : EnvD) : List Key → List D → Store → Option (List Key × Store)
  | acc, [], S => some (acc, S)
  | acc, d :: ds, S => match b d env with
    | none => none
    | some e1 => match tt e1 S with
      | .ok (.bl true) S1 => match elt e1 S1 with
        | .ok y S2 => match keyD y with
          | some k => if few (acc.length + 1) then scD b tt elt env (acc ++ [k]) ds S2 else none
          | none => none
        | _ => none
      | .ok (.bl false) S1 => scD b tt elt env acc ds S1
      | _ => none
noncomputable def eLenSc (f : LM) (b : D → EnvD → Option EnvD) (tt elt : EM) (vs : List Nat) : EM := fun env S => (f env S).bindE fun ds S => match scD b tt elt (wipeD env vs) [] ds S with
  | some (ks, S') => .ok (.int (dcnt ks : Nat)) S'
  | none => .bad
section
variable {elt tg iter : Expr} {ifs : List Expr} {scope : Scope} {own : List (Str × Nat)} {pos : Pos} {f : LM} {b : D → EnvD → Option EnvD} {ft fe : EM} {vs : List Nat}
end
end
end DL
end
section
/-! D-layer, part 9: what is never met; dicts that are read and written. -/
namespace DL
open PySem L2 PySem.Spec PyProof.Rows
variable [DL.Nm]
theorem units65 {k : Nat} {A : Around} (r : Room k A) : A.units + 65 < cLine := by have := r.un; omega
theorem units1 {k : Nat} {A : Around} (r : Room k A) : A.units + 1 < cLine := by have := r.un; omega
section
variable {G : Glb} {X : Cx} {W : WX}
def eNev : EM := fun _ _ => .bad
def sNev : SM := fun _ _ => .bad
theorem dss_nev {st : List Stmt} : DSs G X W st sNev := ⟨fun _ _ _ => False, ⟨fun _ _ _ _ _ _ h => False.elim h⟩, fun _ _ _ _ _ _ _ _ h => False.elim h⟩
/-! ### x[i], x a list, a tuple, a text, a dict -/
def rIxDc : R2 := fun x y H Q => ∃ a v, x = .ref a ∧ DGet H a y (some v) ∧ Q v H
theorem ix_dic (hu : X.A.units + 1 < cLine) : IxR X rIxDc := by
  intro value slice pins s σ H x y v u Q I rx ry h hs
  obtain ⟨a, d, rfl, g, q⟩ := h
  cases rx
  exact tail_any (dict_typeIs I g) PySem.F.slot_dict_getitem.lookup (d_getItem hu I g ry fun w' s3 I3 rw' => ⟨d, H, I3, rw', q⟩) hs
noncomputable def opIxX (x y : D) (S : Store) : ER := match dicD S x with
  | some kds => match keyD y with
    | some k => match valD kds k with
      | some d => .ok d S
      | none => .bad
    | none => .bad
  | none => opIx x y S
theorem ix_is {φ : Fi} {S : Store} {H : Hp} {σ : L2.St} {dx dy : D} {x y : V} {Q : VK} (hK : X.K = G.K) (s : SOk G φ S H) (ix : Is G φ H dx x) (iy : Is G φ H dy y) (h : PostE G W φ H σ (opIx dx dy S) Q) : rIx X.K x y H Q := by
  unfold opIx at h
  split at h
  · cases (show x = _ from ix); cases (show y = _ from iy)
    split at h
    · rename_i hz
      split at h
      · rename_i d hd
        obtain ⟨c, e1, e2⟩ := Option.map_eq_some_iff.mp hd
        subst e2
        exact .inr (.inr ⟨_, _, c, rfl, rfl, sizeLine_is hz, e1, h.now s rfl⟩)
      · exact bad_no h
    · exact bad_no h
  · cases (show y = _ from iy)
    split at h
    · rename_i d hd
      obtain ⟨p, xs, rfl, r, q⟩ := tupD_sq ix rfl
      obtain ⟨v, e1, k⟩ := atI_is q hd
      exact .inr (.inl ⟨p, xs, _, v, rfl, rfl, by rw [hK]; exact r, e1, h.now s k⟩)
    · exact bad_no h
  · cases (show y = _ from iy)
    split at h
    · rename_i ds e
      obtain ⟨p, xs, rfl, r, q⟩ := listD_sq s ix e
      split at h
      · rename_i d hd
        obtain ⟨v, e1, k⟩ := atI_is q hd
        exact .inl ⟨p, xs, _, v, rfl, rfl, by rw [hK]; exact r, e1, h.now s k⟩
      · exact bad_no h
    · exact bad_no h
  · exact bad_no h
theorem de_ixX {a b : Expr} {pos : Pos} {fa fb : EM} (hK : X.K = G.K) (hu : X.A.units + 1 < cLine) (ha : DE G X W a fa) (hb : DE G X W b fb) (hs : PlainIx b := by intro _ _; rfl) : DE G X W (.Subscript a b pos) (eOp opIxX fa fb) := by
  obtain ⟨ta, pa, qa⟩ := ha
  obtain ⟨tb, pb, qb⟩ := hb
  refine ⟨_, pe_ix (ix_seq.or (ix_dic hu)) pa pb hs, op_of (t := ta) qa qb fun W φ S H σ dx dy x y Q s ix iy h => ?_⟩
  unfold opIxX at h
  split at h
  · rename_i kds e
    split at h
    · rename_i k ek
      split at h
      · rename_i d hd
        obtain ⟨a, kvs, rfl, r, q⟩ := dicD_is s ix e
        obtain ⟨v, e2, i2⟩ := (val_is k q).1 d hd
        exact .inr ⟨a, v, rfl, .inl ⟨kvs, k, r, keyD_is iy ek, e2.symm⟩, h.now s i2⟩
      · exact bad_no h
    · exact bad_no h
  · exact .inl (ix_is hK s ix iy h)
/-! ### o[i] = e of a list's or dict's cell -/
theorem PSet.or {t t' : TSet} (h : PSet X t) (h' : PSet X t') : PSet X (fun o i v H Q => t o i v H Q ∨ t' o i v H Q) := fun pins s σ H o i v ov iv u Q I ro ri rv q =>
  q.elim (h pins s σ H o i v ov iv u Q I ro ri rv) (h' pins s σ H o i v ov iv u Q I ro ri rv)
def putD (kds : List (Key × D)) (k : Key) (d : D) : List (Key × D) := if kds.any (fun kv => decide (kv.1 = k)) then kds.map (fun kv => if kv.1 = k then (kv.1, d) else kv) else kds ++ [(k, d)]
noncomputable def setX (o i d : D) (S : Store) : Option Store := match o with
  | .loc l => match S[l]? with
    | some (.dic kds) => match keyD i with
      | some k => if sz (kds.length + 1) then some (S.set l (.dic (putD kds k d))) else none
      | none => none
    | _ => setD o i d S
  | _ => none
theorem KvIs.length {φ : Fi} {H : Hp} {kds : List (Key × D)} {kvs : List (Key × V)} (q : KvIs G φ H kds kvs) : kds.length = kvs.length := by
  have := congrArg List.length q.1
  simpa using this.symm
theorem map_upd {α β : Type} (ks : List (Key × α)) (k : Key) (d : α) : (ks.map fun kv => if kv.1 = k then (kv.1, d) else kv).map (·.1) = ks.map (·.1) := by
  rw [List.map_map]
  apply List.map_congr_left
  intro kv _
  simp only [Function.comp]
  split <;> rfl
theorem any_keys {α β : Type} : ∀ {ks : List (Key × α)} {js : List (Key × β)} (k : Key), ks.map (·.1) = js.map (·.1) → (ks.any fun kv => decide (kv.1 = k)) = js.any fun kv => decide (kv.1 = k)
  | [], [], _, _ => rfl
  | [], _ :: _, _, h => by simp at h
  | _ :: _, [], _, h => by simp at h
  | a :: ks, b :: js, k, h => by
    simp only [List.map_cons, List.cons.injEq] at h
    rw [List.any_cons, List.any_cons, h.1, any_keys k h.2]
theorem isL_upd {φ : Fi} {H : Hp} {d : D} {v : V} (i : Is G φ H d v) (k : Key) : ∀ {kds : List (Key × D)} {kvs : List (Key × V)}, KvIs G φ H kds kvs →
    IsL G φ H ((kds.map fun kv => if kv.1 = k then (kv.1, d) else kv).map (·.2)) ((kvs.map fun kv => if kv.1 = k then (kv.1, v) else kv).map (·.2))
  | [], kvs, h => by
    have : kvs = [] := by simpa using h.1
    subst this
    exact rfl
  | (k0, d0) :: kds, kvs, h => by
    obtain ⟨h1, h2⟩ := h
    cases kvs with
    | nil => simp at h1
    | cons p r =>
      obtain ⟨kp, vp⟩ := p
      simp only [List.map_cons, List.cons.injEq] at h1
      obtain ⟨e1, e2⟩ := h1
      subst e1
      obtain ⟨x, xs, e3, i1, i2⟩ := h2
      simp only [List.map_cons, List.cons.injEq] at e3
      obtain ⟨rfl, rfl⟩ := e3
      have ih := isL_upd i k (show KvIs G φ H kds r from ⟨e2, i2⟩)
      simp only [List.map_cons]
      by_cases hk : kp = k
      · rw [if_pos hk, if_pos hk]; exact ⟨_, _, rfl, i, ih⟩
      · rw [if_neg hk, if_neg hk]; exact ⟨_, _, rfl, i1, ih⟩
theorem put_is {φ : Fi} {H : Hp} {kds : List (Key × D)} {kvs : List (Key × V)} {d : D} {v : V} (q : KvIs G φ H kds kvs) (i : Is G φ H d v) (k : Key) : KvIs G φ H (putD kds k d) (putK kvs k v) := by
  have ea := any_keys (α := D) (β := V) k q.1.symm
  unfold putD putK
  rw [ea]
  split
  · exact ⟨by rw [map_upd (β := V), map_upd (β := V)]; exact q.1, isL_upd i k q⟩
  · refine ⟨by simp [q.1], ?_⟩
    rw [List.map_append, List.map_append]
    exact q.2.append (.one i)
theorem KvIs.ext {φ φ' : Fi} {H H' : Hp} {kds : List (Key × D)} {kvs : List (Key × V)} (e : Ext φ H φ' H') (q : KvIs G φ H kds kvs) : KvIs G φ' H' kds kvs := ⟨q.1, q.2.ext e⟩
noncomputable def sPutX (o i f : EM) : SM := fun env S => (f env S).bindS env fun d S => (o env S).bindS env fun a S => (i env S).bindS env fun b S => match setX a b d S with
  | some S' => .nx env S'
  | none => .bad
theorem setX_is {φ : Fi} {S S' : Store} {H : Hp} {o i d : D} {vo vi v : V} (s : SOk G φ S H) (io : Is G φ H o vo) (ii : Is G φ H i vi) (id : Is G φ H d v) (h : setX o i d S = some S') {Q : Hp → Prop} (k : ∀ H', Ext φ H φ H' → SOk G φ S' H' → Q H') : rSetL vo vi v H Q ∨ rSetD vo vi v H Q := by
  unfold setX at h
  split at h
  · rename_i l
    split at h
    · rename_i kds hc
      split at h
      · rename_i key ek
        split at h
        · rename_i hz
          cases h
          obtain ⟨a, ha, rfl⟩ := io
          obtain ⟨ws, hx, z, q⟩ := s.at_ hc ha
          have kv : KvIs G φ H kds ws := ⟨z, q⟩
          have e := Ext.put (φ := φ) (H := H) (o := .dK (putK ws key v)) (List.mem_of_getElem? ha)
          refine .inr ⟨a, _, rfl, .inl ⟨ws, key, hx, keyD_is ii ek, ?_, rfl⟩, k _ e (s.put ha ?_)⟩
          · have hl := kv.length
            have hz' : kds.length + 1 ≤ 16777216 := hz
            rw [sizeLine_eq]; omega
          · obtain ⟨p1, p2⟩ := (put_is kv id key).ext e
            exact ⟨_, upd_same, p1, p2⟩
        · cases h
      · cases h
    · exact .inl (set_is s io ii id h k)
  · cases h
theorem ds_putX {o i e : Expr} {pos pos' : Pos} {fo fi fe : EM} (hu : X.A.units + 1 < cLine) (he : DE G X W e fe) (ho : DE G X W o fo) (hi : DE G X W i fi) (hs : swapsWithSole [.Subscript o i pos'] e pos.line X.env = pure false := by rfl) (hw : swappedStores [.Subscript o i pos'] e X.env = pure none := by rfl)
    (h1 : List.map (fun x => x.snd) (assignEach [.Subscript o i pos'] X.env) = [assign (.Subscript o i pos') X.env] := by rfl)
    (h2 : ∀ v, assign (.Subscript o i pos') X.env v = (do let ov ← holding [v] (eval o X.env); let iv ← holding [v, ov] (eval i X.env); standAt pos'; holding [v, ov, iv] (setItem ov iv v); release [v, ov, iv] []) := by intro _; rfl) : DS G X W (.Assign [.Subscript o i pos'] e pos) (sPutX fo fi fe) := by
  obtain ⟨to, po, qo⟩ := ho
  obtain ⟨ti, pi, qi⟩ := hi
  obtain ⟨te, pe, qe⟩ := he
  refine ⟨_, ps_asg pe (pg_sub po pi (PSet.or set_list (set_dict hu)) h2) hs hw h1, fun σ H env φ S N s re h => ?_⟩
  refine qe σ H env φ S _ s re (PostE.bindS re h fun d S1 φ1 H1 v e1 s1 i1 h1 => ?_)
  have r1 := re.ext e1
  refine qo σ H1 env φ1 S1 _ s1 r1 (PostE.bindS r1 h1 fun a S2 φ2 H2 va e2 s2 i2 h2 => ?_)
  have r2 := r1.ext e2
  refine qi σ H2 env φ2 S2 _ s2 r2 (PostE.bindS r2 h2 fun b S3 φ3 H3 vb e3 s3 i3 h3 => ?_)
  cases hS : setX a b d S3 with
  | none => rw [hS] at h3; exact False.elim h3
  | some S4 =>
    rw [hS] at h3
    exact setX_is s3 (i2.ext e3) i3 ((i1.ext e2).ext e3) hS fun H' e4 s4 => h3 φ3 H' σ e4 s4 ((r2.ext e3).ext e4)
/-! ### d[k] += n -/
/-! ### a new dict -/
def eDic0 : EM := fun _ S => .ok (.dic [] []) S
def eDic0M : EM := fun _ S => .ok (.loc S.length) (S ++ [.dic []])
/-! ### len, list, dict of a dict too -/
theorem call_lenDc : CallR X (.builtin "len") (fun xs H Q => ∃ a kvs, xs = [V.ref a] ∧ Rd H a (.dK kvs) ∧ Q (.int kvs.length) H) := by
  intro pins s σ H xs us Q I r h
  obtain ⟨a, kvs, rfl, ha, q⟩ := h
  obtain ⟨u, rfl, ru⟩ := vals1 r
  cases ru
  exact d_len I ha fun t s' I' => ⟨.int kvs.length, H, I', ⟨t, rfl⟩, q⟩
noncomputable def bLenX (ds : List D) (S : Store) : ER := match ds with
  | [d] => match dicD S d with
    | some kds => .ok (.int kds.length) S
    | none => bLen ds S
  | _ => .bad
theorem dc_lenX (hK : X.K = G.K) : DCall G X (.builtin "len") bLenX := by
  obtain ⟨r, hr, q⟩ := dc_len (G := G) (X := X) hK
  refine ⟨_, hr.or call_lenDc, fun W φ S H σ ds xs Q s i h => ?_⟩
  unfold bLenX at h
  split at h
  · split at h
    · rename_i kds e
      obtain ⟨x, rfl, k⟩ := IsL.inv1 i
      obtain ⟨a, kvs, rfl, r, kv⟩ := dicD_is s k e
      exact .inr ⟨a, kvs, rfl, r, by rw [← kv.length]; exact h.now s rfl⟩
    · exact .inl (q W φ S H σ _ xs Q s i h)
  · exact bad_no h
theorem isL_keys {φ : Fi} {H : Hp} {kds : List (Key × D)} {kvs : List (Key × V)} (q : KvIs G φ H kds kvs) : IsL G φ H (kds.map fun kv => dKey kv.1) (kvs.map fun kv => kV kv.1) := by
  have e1 : kds.map (fun kv => dKey kv.1) = (kds.map (·.1)).map dKey := by rw [List.map_map]; rfl
  have e2 : kvs.map (fun kv => kV kv.1) = (kvs.map (·.1)).map kV := by rw [List.map_map]; rfl
  rw [e1, e2, q.1]
  generalize kds.map (·.1) = ks
  induction ks with
  | nil => exact rfl
  | cons k ks ih => exact ⟨_, _, rfl, is_dKey k, ih⟩
def bListX (ds : List D) (S : Store) : ER := match ds with
  | [d] => match dicD S d with
    | some kds => .ok (.lst (kds.map fun kv => dKey kv.1)) S
    | none => bList ds S
  | _ => .bad
def bListXM (ds : List D) (S : Store) : ER := match ds with
  | [d] => match dicD S d with
    | some kds => .ok (.loc S.length) (S ++ [.lst (kds.map fun kv => dKey kv.1)])
    | none => bListM ds S
  | _ => .bad
theorem dc_listX (hc : X.calm = true) (hK : X.K = G.K) : DCall G X (.type "list") bListX := by
  obtain ⟨r, hr, q⟩ := dc_list (G := G) (X := X) hK
  refine ⟨_, hr.or (call_listD hc), fun W φ S H σ ds xs Q s i h => ?_⟩
  unfold bListX at h
  split at h
  · split at h
    · rename_i kds e
      obtain ⟨x, rfl, k⟩ := IsL.inv1 i
      obtain ⟨a, kvs, rfl, r, kv⟩ := dicD_is s k e
      exact .inr ⟨a, kvs, rfl, r, fun p hp => lst_new s (isL_keys kv) h hp⟩
    · exact .inl (q W φ S H σ _ xs Q s i h)
  · exact bad_no h
def bDict (ds : List D) (S : Store) : ER := match ds with
  | [d] => match dicD S d with
    | some kds => .ok (.dic (kds.map (·.1)) (kds.map (·.2))) S
    | none => .bad
  | _ => .bad
/-! ### d.get(k), d.get(k, x) -/
def getD (o b : D) (z : D) (S : Store) : ER := match dicD S o, keyD b with
  | some kds, some k => .ok ((valD kds k).getD z) S
  | _, _ => .bad
end
end DL
end
section
/-! D-layer, part 10: how the values of parts 7 to 9 are reckoned (by simp). -/
namespace DL
open PySem L2
variable [DL.Nm]
section
variable {d : D} {S : Store} {x : Exc} {e env : EnvD} {i j : Int}
@[simp] theorem opIxX_t {ds : List D} : opIxX (.tup ds) (.int i) S = match atI ds i with | some d => .ok d S | none => .bad := rfl
@[simp] theorem opIxX_l {ds : List D} : opIxX (.lst ds) (.int i) S = match atI ds i with | some d => .ok d S | none => .bad := rfl
@[simp] theorem opIxX_s {z : Str} : opIxX (.str z) (.int i) S = if sz z.length then (match strAt z i with | some d => .ok d S | none => .bad) else .bad := rfl
@[simp] theorem opIxX_di {ks ds} : opIxX (.dic ks ds) (.int i) S = match valD (ks.zip ds) (.inl i) with | some d => .ok d S | none => .bad := rfl
@[simp] theorem opIxX_ds {ks ds} {z : Str} : opIxX (.dic ks ds) (.str z) S = match valD (ks.zip ds) (.inr z) with | some d => .ok d S | none => .bad := rfl
@[simp] theorem opIxX_ci {l : Nat} : opIxX (.loc l) (.int i) S = match cel S l with
  | some (.lst ds) => (match atI ds i with | some d => .ok d S | none => .bad)
  | some (.dic kds) => (match valD kds (.inl i) with | some d => .ok d S | none => .bad)
  | _ => .bad := by
  simp only [opIxX, dicD, keyD, opIx, listD, cel]
  cases S[l]? with
  | none => rfl
  | some c => cases c <;> rfl
@[simp] theorem opIxX_cs {l : Nat} {z : Str} : opIxX (.loc l) (.str z) S = match cel S l with
  | some (.dic kds) => (match valD kds (.inr z) with | some d => .ok d S | none => .bad)
  | _ => .bad := by
  simp only [opIxX, dicD, keyD, opIx, listD, cel]
  cases S[l]? with
  | none => rfl
  | some c => cases c <;> rfl
@[simp] theorem bLenX_t {ds : List D} : bLenX [.tup ds] S = .ok (.int ds.length) S := rfl
@[simp] theorem bLenX_l {ds : List D} : bLenX [.lst ds] S = .ok (.int ds.length) S := rfl
@[simp] theorem bLenX_s {z : Str} : bLenX [.str z] S = if sz z.length then .ok (.int z.length) S else .bad := rfl
@[simp] theorem bLenX_d {ks ds} : bLenX [.dic ks ds] S = .ok (.int (ks.zip ds).length) S := rfl
@[simp] theorem bLenX_c {l : Nat} : bLenX [.loc l] S = match cel S l with | some (.lst ds) => .ok (.int ds.length) S | some (.dic kds) => .ok (.int kds.length) S | _ => .bad := by
  simp only [bLenX, dicD, bLen, seqD, listD, cel]
  cases S[l]? with
  | none => rfl
  | some c => cases c <;> rfl
@[simp] theorem bListX_t {ds : List D} : bListX [.tup ds] S = .ok (.lst ds) S := rfl
@[simp] theorem bListX_l {ds : List D} : bListX [.lst ds] S = .ok (.lst ds) S := rfl
@[simp] theorem bListX_d {ks ds} : bListX [.dic ks ds] S = .ok (.lst ((ks.zip ds).map fun kv => dKey kv.1)) S := rfl
@[simp] theorem bListX_c {l : Nat} : bListX [.loc l] S = match cel S l with | some (.lst ds) => .ok (.lst ds) S | some (.dic kds) => .ok (.lst (kds.map fun kv => dKey kv.1)) S | _ => .bad := by
  simp only [bListX, dicD, bList, seqD, listD, cel]
  cases S[l]? with
  | none => rfl
  | some c => cases c <;> rfl
@[simp] theorem bListXM_t {ds : List D} : bListXM [.tup ds] S = .ok (.loc S.length) (S ++ [.lst ds]) := rfl
@[simp] theorem bListXM_l {ds : List D} : bListXM [.lst ds] S = .ok (.loc S.length) (S ++ [.lst ds]) := rfl
@[simp] theorem bTuple_c {l : Nat} : bTuple [.loc l] S = match cel S l with | some (.lst ds) => .ok (.tup ds) S | _ => .bad := by
  simp only [bTuple, seqD, listD, cel]
  cases S[l]? with
  | none => rfl
  | some c => cases c <;> rfl
@[simp] theorem bSorted_l {ns : List Int} : bSorted [.lst (ns.map .int)] S = .ok (.lst ((sortI ns).map .int)) S := by simp [bSorted, listD, intsD_map]
@[simp] theorem eLenSet_is {f : EM} : eLenSet f env S = (f env S).bind fun d S => match (seqD S d).bind keysD with | some ks => if few ks.length then .ok (.int (dcnt ks : Nat)) S else .bad | none => .bad := rfl
@[simp] theorem eLenSc_is {f : LM} {b : D → EnvD → Option EnvD} {tt elt : EM} {vs : List Nat} : eLenSc f b tt elt vs env S = (f env S).bindE fun ds S => match scD b tt elt (wipeD env vs) [] ds S with | some (ks, S') => .ok (.int (dcnt ks : Nat)) S' | none => .bad := rfl
@[simp] theorem seqD_l {ds : List D} : seqD S (.lst ds) = some ds := rfl
@[simp] theorem seqD_t {ds : List D} : seqD S (.tup ds) = some ds := rfl
@[simp] theorem rg1_is {f : EM} : rg1 f env S = (f env S).bindL fun d S => match d with | .int n => if rOk n ∧ sz n.toNat then .ok [.int 0, .int n] S else .bad | _ => .bad := rfl
@[simp] theorem rg2_is {f g : EM} : rg2 f g env S = (f env S).bindL fun d S => (g env S).bindL fun d2 S => rg2D d d2 S := rfl
@[simp] theorem rg2D_is : rg2D (.int i) (.int j) S = if rOk i ∧ rOk j ∧ sz (j - i).toNat then .ok [.int i, .int j] S else .bad := rfl
@[simp] theorem eLRg_is {f : LM} : eLRg f env S = (f env S).bindE fun ds S => match ds with | [.int i, .int j] => .ok (.lst (rangeD i (j - i).toNat)) S | _ => .bad := rfl
@[simp] theorem eLRgM_is {f : LM} : eLRgM f env S = (f env S).bindE fun ds S => match ds with | [.int i, .int j] => .ok (.loc S.length) (S ++ [.lst (rangeD i (j - i).toNat)]) | _ => .bad := rfl
@[simp] theorem eTRg_is {f : LM} : eTRg f env S = (f env S).bindE fun ds S => match ds with | [.int i, .int j] => .ok (.tup (rangeD i (j - i).toNat)) S | _ => .bad := rfl
@[simp] theorem eRev_is {f : EM} : eRev f env S = (f env S).bind fun d S => revD S d := rfl
@[simp] theorem revD_t {ds : List D} : revD S (.tup ds) = .ok (.tup ds.reverse) S := rfl
@[simp] theorem revD_l {ds : List D} : revD S (.lst ds) = .ok (.lst ds.reverse) S := rfl
@[simp] theorem opAnd_ii : opAnd (.int i) (.int j) S = .ok (.int (Builtin.bitAnd i j)) S := rfl
@[simp] theorem opOr_ii : opOr (.int i) (.int j) S = .ok (.int (Builtin.bitOr i j)) S := rfl
@[simp] theorem opXor_ii : opXor (.int i) (.int j) S = .ok (.int (Builtin.bitXor i j)) S := rfl
@[simp] theorem opShr_ii : opShr (.int i) (.int j) S = if 0 ≤ j then .ok (.int (i / 2 ^ j.toNat)) S else .bad := rfl
@[simp] theorem opShl_ii : opShl (.int i) (.int j) S = if powOk i j then .ok (.int (i * 2 ^ j.toNat)) S else .bad := rfl
@[simp] theorem opMulX_ii : opMulX (.int i) (.int j) S = if mulOk i j then .ok (.int (i * j)) S else .bad := rfl
@[simp] theorem opMulX_c {l : Nat} : opMulX (.loc l) (.int i) S = match cel S l with | some (.lst ds) => if w63 i ∧ sz (ds.length * i.toNat) then .ok (.lst (List.replicate i.toNat ds).flatten) S else .bad | _ => .bad := rfl
@[simp] theorem w63_is (h : -9223372036854775808 ≤ i) (h2 : i < 9223372036854775808) : w63 i := ⟨by omega, by omega⟩
@[simp] theorem eMeth_is {T : String} {g : D → List D → Store → ER} {o : EM} {f : LM} : eMeth T g o f env S = (o env S).bind fun a S => if tyD T S a then (f env S).bindE fun ds S => g a ds S else .bad := rfl
@[simp] theorem tyD_c {l : Nat} : tyD "list" S (.loc l) = match cel S l with | some (.lst _) => true | _ => false := by
  simp only [tyD, listD, cel]
  cases S[l]? with
  | none => rfl
  | some c => cases c <;> rfl
@[simp] theorem tyD_l {ds : List D} : tyD "list" S (.lst ds) = true := rfl
@[simp] theorem cellL_c {l : Nat} {g : Nat → List D → ER} : cellL S (.loc l) g = match cel S l with | some (.lst ds) => g l ds | _ => .bad := rfl
@[simp] theorem mPopAt_is {o : D} : mPopAt o [.int i] S = cellL S o fun l xs => if w63 i then (match seqIndex? i xs.length with
    | some k => (match xs[k]? with | some d => .ok d (S.set l (.lst (xs.eraseIdx k))) | none => .bad)
    | none => .bad) else .bad := rfl
@[simp] theorem mPop_is {o : D} : mPop o [] S = cellL S o fun l xs => match xs[xs.length - 1]? with | some d => .ok d (S.set l (.lst xs.dropLast)) | none => .bad := rfl
@[simp] theorem mAppend_is {o : D} : mAppend o [d] S = cellL S o fun l xs => if sz (xs.length + 1) then .ok .non (S.set l (.lst (xs ++ [d]))) else .bad := rfl
@[simp] theorem mInsert_is {o : D} : mInsert o [.int i, d] S = cellL S o fun l xs => if sz (xs.length + 1) ∧ 0 ≤ i ∧ w63 i then .ok .non (S.set l (.lst (xs.take i.toNat ++ [d] ++ xs.drop i.toNat))) else .bad := rfl
@[simp] theorem mClear_is {o : D} : mClear o [] S = cellL S o fun l xs => .ok .non (S.set l (.lst [])) := rfl
@[simp] theorem opIn_ll {ds : List D} : opIn d (.lst ds) S = if flatD d && ds.all flatD then .ok (.bl (ds.any fun y => eqF y d)) S else match d.pyO S, (D.lst ds).pyO S with
    | some p, some (.list ps) => if SeqAt.shaped p && SeqAt.shaped (.list ps) then .ok (.bl (ps.any fun z => PyData.eqv z p)) S else .bad
    | some p, some (.tuple ps) => if SeqAt.shaped p && SeqAt.shaped (.tuple ps) then .ok (.bl (ps.any fun z => PyData.eqv z p)) S else .bad
    | _, _ => .bad := rfl
@[simp] theorem opIn_tt {ds : List D} : opIn d (.tup ds) S = if flatD d && ds.all flatD then .ok (.bl (ds.any fun y => eqF y d)) S else match d.pyO S, (D.tup ds).pyO S with
    | some p, some (.list ps) => if SeqAt.shaped p && SeqAt.shaped (.list ps) then .ok (.bl (ps.any fun z => PyData.eqv z p)) S else .bad
    | some p, some (.tuple ps) => if SeqAt.shaped p && SeqAt.shaped (.tuple ps) then .ok (.bl (ps.any fun z => PyData.eqv z p)) S else .bad
    | _, _ => .bad := rfl
@[simp] theorem opNotIn_ll {ds : List D} : opNotIn d (.lst ds) S = if flatD d && ds.all flatD then .ok (.bl (!(ds.any fun y => eqF y d))) S else match d.pyO S, (D.lst ds).pyO S with
    | some p, some (.list ps) => if SeqAt.shaped p && SeqAt.shaped (.list ps) then .ok (.bl (!(ps.any fun z => PyData.eqv z p))) S else .bad
    | some p, some (.tuple ps) => if SeqAt.shaped p && SeqAt.shaped (.tuple ps) then .ok (.bl (!(ps.any fun z => PyData.eqv z p))) S else .bad
    | _, _ => .bad := rfl
@[simp] theorem opNotIn_tt {ds : List D} : opNotIn d (.tup ds) S = if flatD d && ds.all flatD then .ok (.bl (!(ds.any fun y => eqF y d))) S else match d.pyO S, (D.tup ds).pyO S with
    | some p, some (.list ps) => if SeqAt.shaped p && SeqAt.shaped (.list ps) then .ok (.bl (!(ps.any fun z => PyData.eqv z p))) S else .bad
    | some p, some (.tuple ps) => if SeqAt.shaped p && SeqAt.shaped (.tuple ps) then .ok (.bl (!(ps.any fun z => PyData.eqv z p))) S else .bad
    | _, _ => .bad := rfl
@[simp] theorem flatD_int : flatD (.int i) = true := rfl
@[simp] theorem flatD_str {z : Str} : flatD (.str z) = true := rfl
@[simp] theorem flatD_bl {b : Bool} : flatD (.bl b) = true := rfl
@[simp] theorem flatD_non : flatD .non = true := rfl
@[simp] theorem flatD_tup {ds : List D} : flatD (.tup ds) = false := rfl
@[simp] theorem flatD_lst {ds : List D} : flatD (.lst ds) = false := rfl
@[simp] theorem flat_ints (ns : List Int) : (ns.map D.int).all flatD = true := by simp
@[simp] theorem eqF_ii : eqF (.int i) (.int j) = decide (i = j) := by show (i == j) = _; rw [Bool.beq_eq_decide_eq]
@[simp] theorem eqF_ss {a b : Str} : eqF (.str a) (.str b) = decide (a = b) := by show (a == b) = _; rw [Bool.beq_eq_decide_eq]
@[simp] theorem eDic0_is : eDic0 env S = .ok (.dic [] []) S := rfl
@[simp] theorem eDic0M_is : eDic0M env S = .ok (.loc S.length) (S ++ [.dic []]) := rfl
@[simp] theorem sPutX_is {o i f : EM} : sPutX o i f env S = (f env S).bindS env fun d S => (o env S).bindS env fun a S => (i env S).bindS env fun b S => match setX a b d S with | some S' => .nx env S' | none => .bad := rfl
@[simp] theorem setX_ci {l : Nat} : setX (.loc l) (.int i) d S = match cel S l with
  | some (.lst ds) => (putIx i ds d).map fun es => S.set l (.lst es)
  | some (.dic kds) => if sz (kds.length + 1) then some (S.set l (.dic (putD kds (.inl i) d))) else none
  | _ => none := by
  simp only [setX, setD, keyD, cel]
  cases S[l]? with
  | none => rfl
  | some c => cases c <;> rfl
@[simp] theorem setX_cs {l : Nat} {z : Str} : setX (.loc l) (.str z) d S = match cel S l with
  | some (.dic kds) => if sz (kds.length + 1) then some (S.set l (.dic (putD kds (.inr z) d))) else none
  | _ => none := by
  unfold cel
  show (match S[l]? with
    | some (.dic kds) => match keyD (.str z) with
      | some k => if sz (kds.length + 1) then some (S.set l (.dic (putD kds k d))) else none
      | none => none
    | _ => setD (.loc l) (.str z) d S) = _
  generalize S[l]? = o
  rcases o with _ | c
  · rfl
  · cases c <;> rfl
@[simp] theorem tyOf_obj {c ks ds} : tyOf S (.obj c ks ds) = none := rfl
@[simp] theorem tyOf_c {l : Nat} : tyOf S (.loc l) = match cel S l with | some (.lst _) => some .list | some (.dic _) => some .dict | some (.dct _) => some .dict | _ => none := rfl
/-- the way out where only the first cell (the draws) stays -/
theorem exit_draw {c c' : Cell} {T : Store} {d' : D} (h : frzD (resD 1 (c' :: T) 12) d = some d') (hb : c'.bel 1 = true) : exitD .pure [c] d (c' :: T) = .ok d' [c'] := by
  unfold exitD
  have e : frzD (resD [c].length (c' :: T) 12) d = some d' := h
  simp only [e]
  rw [if_pos (.inr (by simp [hb]))]
  rfl
end
end DL
end
section
/-! D-layer, part 11: dicts walked; enumerate and zip of lists and tuples in any mixture. -/
namespace DL
open PySem L2
variable [DL.Nm]
variable {G : Glb} {X : Cx} {W : WX}

/-! ### a dict is locked for good as soon as it is walked -/
def tLockR (t : TE) : TE := fun σ H Q => t σ H fun x H1 => ∃ d kvs, x = .ref d ∧ ((∃ od, H1 d = some (.frz od (.dK kvs)) ∧ Q x H1) ∨ (H1 d = some (.dK kvs) ∧ ∀ od, Q x (upd H1 d (.frz od (.dK kvs)))))
theorem pe_lockR {e : Expr} {t : TE} (h : PE X e t) : PE X e (tLockR t) := by
  refine ⟨fun pins s σ H Q I hw => ?_⟩
  refine thn (h.run pins s σ H _ I hw) fun v s1 ⟨x, H1, I1, r, d, kvs, ex, q⟩ => ?_
  rcases q with ⟨od, hd, q⟩ | ⟨hd, q⟩
  · exact ⟨x, H1, I1, r, q⟩
  · obtain ⟨od, I2⟩ := I1.lock hd trivial
    exact ⟨x, _, I2, r, q od⟩
theorem Ext.lock {φ : Fi} {H : Hp} {d : Addr} {od : Obj} {kvs : List (Key × V)} (n : φ.out d) (h : H d = some (.dK kvs)) : Ext φ H φ (upd H d (.frz od (.dK kvs))) :=
  ⟨⟨[], by simp, fun _ q => by simp at q⟩, rfl, fun b u _ e => by
    by_cases hb : b = d
    · subst hb; rw [h] at e; cases e; exact .inl (.inr ⟨od, n.2, .inl ⟨_, rfl⟩, upd_same⟩)
    · exact .inl (.inl (by rw [upd_ne hb]; exact e))⟩
theorem SOk.lock {φ : Fi} {S : Store} {H : Hp} {d : Addr} {od : Obj} {kvs : List (Key × V)} (s : SOk G φ S H) (n : φ.out d) (h : H d = some (.dK kvs)) : SOk G φ S (upd H d (.frz od (.dK kvs))) :=
  s.step (.lock n h) fun a ha => upd_ne fun z => by subst z; exact n.1 ha
def iKeysD (f : EM) : LM := fun env S => (f env S).bindL fun d S => match d with
  | .dic ks _ => .ok (ks.map dKey) S
  | _ => .bad
def iValsD (f : EM) : LM := fun env S => (f env S).bindL fun d S => match d with
  | .dic _ ds => .ok ds S
  | _ => .bad
def itemsD (ks : List Key) (ds : List D) : List D := (ks.zip ds).map fun p => .tup [dKey p.1, p.2]
def iItemsD (f : EM) : LM := fun env S => (f env S).bindL fun d S => match d with
  | .dic ks ds => .ok (itemsD ks ds) S
  | _ => .bad
theorem feeds_keys {φ : Fi} {H : Hp} {a : Addr} {od : Obj} {ks : List Key} {kvs : List (Key × V)} (n : φ.out a) (h : H a = some (.frz od (.dK kvs))) (e : kvs.map (·.1) = ks) : Feeds G φ H (Itk a od kvs) (ks.map dKey) := by
  have hl : ks.length = kvs.length := by rw [← e]; simp
  refine ⟨fun φ2 S2 H2 i d k s hd => ?_, fun φ2 S2 H2 k s => ⟨(k.frz _ _ _ n h).2, by simp [hl]⟩⟩
  obtain ⟨h1, h2⟩ := List.getElem?_eq_some_iff.mp hd
  simp at h1 h2
  refine ⟨⟨(k.frz _ _ _ n h).2, by omega⟩, fun x H3 ⟨e3, k', v', hk, ex⟩ => ?_⟩
  subst e3 ex
  have hk' : ks[i]? = some k' := by rw [← e]; simp [hk]
  have : ks[i] = k' := by rw [List.getElem?_eq_getElem h1] at hk'; exact Option.some.inj hk'
  subst h2
  rw [this]
  exact ⟨.refl, s, is_dKey k'⟩
section
variable {tg e : Expr} {f : EM} {apos cpos : Pos}
theorem lock_to {te : TE} {σ : L2.St} {H : Hp} {env : EnvD} {φ : Fi} {S : Store} {g : D → Store → LR} {R : It → Hp → Prop} {Q : VK}
    (q : ∀ σ H env φ S Q, SOk G φ S H → RepE G φ H σ env → PostE G W φ H σ (f env S) Q → te σ H Q) (s : SOk G φ S H) (re : RepE G φ H σ env) (h : PostI G W φ H σ ((f env S).bindL g) R) (hb : ∀ d S, (∀ ks ds, d ≠ .dic ks ds) → g d S = .bad)
    (k : ∀ ks ds S1 φ1 H1 a od kvs, Ext φ H φ1 H1 → SOk G φ1 S1 H1 → φ1.out a → H1 a = some (.frz od (.dK kvs)) → kvs.map (·.1) = ks → IsL G φ1 H1 ds (kvs.map (·.2)) → PostI G W φ1 H1 σ (g (.dic ks ds) S1) R → Q (.ref a) H1) : tLockR te σ H Q := by
  refine q σ H env φ S _ s re ?_
  cases hr : f env S with
  | bad => rw [hr] at h; exact False.elim h
  | ex x S1 => rw [hr] at h; exact h
  | ok d S1 =>
    rw [hr] at h
    intro φ1 H1 v e1 s1 i1
    have h' : PostI G W φ H σ (g d S1) R := h
    have hx : PostI G W φ1 H1 σ (g d S1) R := by
      cases hg : g d S1 with
      | bad => rw [hg] at h'; exact h'
      | ok ds S2 => rw [hg] at h'; exact fun φ2 H2 J e2 s2 fd => h' φ2 H2 J (e1.trans e2) s2 fd
      | ex x S2 => rw [hg] at h'; exact fun φ2 H2 c dx e2 s2 fd => h' φ2 H2 c dx (e1.trans e2) s2 fd
    by_cases hd : ∃ ks ds, d = .dic ks ds
    · obtain ⟨ks, ds, rfl⟩ := hd
      obtain ⟨a, kvs, rfl, ⟨n, r⟩, ek, il⟩ := i1
      refine ⟨a, kvs, rfl, ?_⟩
      rcases r with r | ⟨od, r⟩
      · refine .inr ⟨r, fun od => ?_⟩
        have el : Ext φ1 H1 φ1 (upd H1 a (.frz od (.dK kvs))) := .lock n r
        refine k ks ds S1 φ1 _ a od kvs (e1.trans el) (s1.lock n r) n upd_same ek (il.ext el) ?_
        cases hg : g (.dic ks ds) S1 with
        | bad => rw [hg] at hx; exact hx
        | ok ds S2 => rw [hg] at hx; exact fun φ2 H2 J e2 s2 fd => hx φ2 H2 J (el.trans e2) s2 fd
        | ex x S2 => rw [hg] at hx; exact fun φ2 H2 c dx e2 s2 fd => hx φ2 H2 c dx (el.trans e2) s2 fd
      · exact .inl ⟨od, r, k ks ds S1 φ1 H1 a od kvs e1 s1 n r ek il hx⟩
    · rw [hb d S1 fun ks ds z => hd ⟨ks, ds, z⟩] at hx
      exact False.elim hx
theorem di_keys (he : DE G X W e f) : DI G X W tg e (iKeysD f) := by
  obtain ⟨t, p, q⟩ := he
  refine ⟨_, pi_keys (pe_lockR p), fun σ H env φ S R s re h => ?_⟩
  refine lock_to q s re h (fun d S hd => ?_) fun ks ds S1 φ1 H1 a od kvs e1 s1 n r ek il hx => ⟨a, od, rfl, .inl ⟨kvs, r, hx φ1 H1 _ .refl s1 (feeds_keys n r ek)⟩⟩
  cases d with
  | dic ks ds => exact absurd rfl (hd ks ds)
  | _ => rfl
/-- a list, a tuple, or a dict by its keys -/
def iAny (f : EM) : LM := fun env S => (f env S).bindL fun d S => match d with
  | .lst ds => .ok ds S
  | .tup ds => .ok ds S
  | .str x => .ok (signsD x) S
  | .dic ks _ => .ok (ks.map dKey) S
  | _ => .bad
theorem di_any (hK : X.K = G.K) (he : DE G X W e f) : DI G X W tg e (iAny f) := by
  obtain ⟨w1, p1, q1⟩ := di_seq (W := W) (tg := tg) hK he
  obtain ⟨w2, p2, q2⟩ := di_keys (W := W) (tg := tg) he
  refine ⟨_, PI.or p1 p2, fun σ H env φ S R s re h => ?_⟩
  unfold iAny at h
  cases hr : f env S with
  | bad => rw [hr] at h; exact False.elim h
  | ex x S1 =>
    rw [hr] at h
    exact .inl (q1 σ H env φ S _ s re (by unfold iSeq; rw [hr]; exact h))
  | ok d S1 =>
    rw [hr] at h
    cases d with
    | lst ds => exact .inl (q1 σ H env φ S _ s re (by unfold iSeq; rw [hr]; exact h))
    | tup ds => exact .inl (q1 σ H env φ S _ s re (by unfold iSeq; rw [hr]; exact h))
    | str x => exact .inl (q1 σ H env φ S _ s re (by unfold iSeq; rw [hr]; exact h))
    | dic ks ds => exact .inr (q2 σ H env φ S _ s re (by unfold iKeysD; rw [hr]; exact h))
    | _ => exact False.elim h
end
end DL
end
section
/-! D-layer, part 12: enumerate and zip over lists and tuples in any mixture. -/
namespace DL
open PySem PySem.Spec PyProof.Rows L2
variable [DL.Nm]
variable {G : Glb} {X : Cx} {W : WX}
def SqG (K : PySem.W.Frag) : Bool → Hp → Addr → List V → Prop
  | false => SqL K
  | true => SqT K
def HasG : Bool → Heap → Addr → Array Value → Prop
  | false => fun h a its => h.IsList a its
  | true => fun h a its => h.IsTuple a its
def IterG : Bool → Heap → Addr → Addr → Nat → Prop
  | false => fun h it a i => h.IsListIter it a i
  | true => fun h it a i => h.IsTupleIter it a i
def begO : Bool → Addr → Obj
  | false => fun a => { cls := .type "list_iterator", data := .fields #[.ref a, .int 0 0] }
  | true => fun a => { cls := .type "tuple_iterator", data := .fields #[.ref a, .int 0 0] }
theorem begO_at : ∀ (t : Bool) {h : Heap} {it a : Addr}, h.get? it = some (begO t a) → IterG t h it a 0
  | false, _, _, _, e => ⟨_, e, rfl, rfl⟩
  | true, _, _, _, e => ⟨_, e, rfl, rfl⟩
theorem beginsG : ∀ (t : Bool) (a : Addr) (its : Array Value), Begins (.ref a) (begO t a) fun h => HasG t h a its
  | false, a, its => begins_list a its
  | true, a, its => begins_tuple a its
theorem drawsG {prog : Program} {w : World} {A : Around} (hh : A.handled = none) : ∀ (t : Bool) (it a : Addr) (hne : a ≠ it) (its : Array Value), Draws prog w A it [it, a] its.size (fun i v => its[i]? = some v) (fun i h => IterG t h it a i ∧ HasG t h a its)
  | false, it, a, hne, its => Draws.list hh it a hne its
  | true, it, a, hne, its => Draws.tuple hh it a hne its
theorem IterG.at : ∀ {t : Bool} {h h' : Heap} {it a : Addr} {i : Nat}, IterG t h it a i → (∀ o, h.get? it = some o → h'.get? it = some o) → IterG t h' it a i
  | false, _, _, _, _, _, st, k => Heap.IsListIter.at st k
  | true, _, _, _, _, _, st, k => let ⟨o, e, r⟩ := st; ⟨o, k o e, r⟩
theorem IterG.obj : ∀ {t : Bool} {h : Heap} {it a : Addr} {i : Nat}, IterG t h it a i → ∃ o, h.get? it = some o ∧ ∀ v, o.data ≠ .cell v
  | false, _, _, _, _, ⟨o, e, _, d⟩ => ⟨o, e, fun v q => by rw [d] at q; cases q⟩
  | true, _, _, _, _, ⟨o, e, _, d⟩ => ⟨o, e, fun v q => by rw [d] at q; cases q⟩
theorem HasG.cls : ∀ {t : Bool} {h : Heap} {a : Addr} {its : Array Value}, HasG t h a its → ∃ o, h.get? a = some o ∧ o.cls = .type (if t then "tuple" else "list")
  | false, _, _, _, p => let ⟨o, e, c, _⟩ := p; ⟨o, e, c⟩
  | true, _, _, _, p => let ⟨o, e, c, _⟩ := p; ⟨o, e, c⟩
theorem IterG.cls : ∀ {t : Bool} {h : Heap} {it a : Addr} {i : Nat}, IterG t h it a i → ∃ o, h.get? it = some o ∧ o.cls = .type (if t then "tuple_iterator" else "list_iterator")
  | false, _, _, _, _, p => let ⟨o, e, c, _⟩ := p; ⟨o, e, c⟩
  | true, _, _, _, _, p => let ⟨o, e, c, _⟩ := p; ⟨o, e, c⟩
theorem HasG.ne_cls {t : Bool} {h : Heap} {a b : Addr} {its : Array Value} (p : HasG t h a its) {o : Obj} {n : String} (e : h.get? b = some o) (c : o.cls = .type n) (h1 : n ≠ "tuple") (h2 : n ≠ "list") : a ≠ b := fun z => by
  subst z
  obtain ⟨o', e', c'⟩ := p.cls
  rw [e] at e'; cases e'
  rw [c] at c'
  have q := Value.type.inj c'
  cases t
  · exact h2 q
  · exact h1 q
theorem HasG.ne_it {t t' : Bool} {h : Heap} {a it a' : Addr} {i : Nat} {its : Array Value} (p : HasG t h a its) (q : IterG t' h it a' i) : a ≠ it := by
  obtain ⟨o, e, c⟩ := q.cls
  cases t'
  · exact p.ne_cls e c (by decide) (by decide)
  · exact p.ne_cls e c (by decide) (by decide)
theorem HasG.apart {t : Bool} {h : Heap} {a e it : Addr} {i : Nat} {j : Int} {old : Value} {its : Array Value} (p : HasG t h a its) (he : IsEnum h e it j old) (q : IterG t h it a i) : a ≠ e ∧ a ≠ it :=
  ⟨p.ne_cls he rfl (by decide) (by decide), p.ne_it q⟩
section
variable {pins : List (Addr × Obj)} {σ : L2.St} {H : Hp} {s : Shared} {a : Addr} {xs : List V}
theorem seqG (I : Inv X pins σ H s) : ∀ {t : Bool}, SqG X.K t H a xs → ∃ its : List Value, Vals xs its ∧ HasG t s.heap a its.toArray ∧ a < s.heap.objs.size
  | false, h => let ⟨its, r, p, _⟩ := I.list h; ⟨its, r, p.isList, p.lt⟩
  | true, h => let ⟨its, r, p, _⟩ := I.tuple h; ⟨its, r, p, by obtain ⟨_, q, _⟩ := p; exact Heap.lt_size q⟩
theorem seqG_inj (I : Inv X pins σ H s) {ys : List V} : ∀ {t : Bool}, SqG X.K t H a xs → SqG X.K t H a ys → xs = ys
  | false, h, h' => I.list_inj h h'
  | true, h, h' => I.tuple_inj h h'
end
/-! ### enumerate -/
def IteG (K : PySem.W.Frag) (t : Bool) (a : Addr) : It :=
  ⟨fun i H => ∃ (xs : List V) (x : V), SqG K t H a xs ∧ xs[i]? = some x, fun i H v H' => ∃ T x, v = .ref T ∧ H T = none ∧ H' = upd H T (.tup [.int (i : Nat), x]) ∧ ∀ xs, SqG K t H a xs → xs[i]? = some x, fun i H => ∃ xs : List V, SqG K t H a xs ∧ xs.length = i⟩
theorem turn_enumG {P : Program} {w : World} {K : PySem.W.Frag} {elts : List Expr} {kk : Nat} {tpos : Pos} (t : Bool) (a e it : Addr) :
    Turn P w K (.Tuple elts kk tpos) (IteG K t a) [e, it] e (fun i h => (∃ old, IsEnum h e it ((i : Nat) : Int) old) ∧ IterG t h it a i ∧ e ≠ it) where
  mem := by simp
  obj := fun i h st b hb => by
    obtain ⟨⟨old, he⟩, hi, _⟩ := st
    have e' : b = e ∨ b = it := by simpa using hb
    rcases e' with z | z
    · rw [z]; exact ⟨_, he, fun v q => nomatch q⟩
    · rw [z]; exact hi.obj
  keep := fun i h h' st k => let ⟨⟨old, he⟩, hi, hne⟩ := st; ⟨⟨old, k e (by simp) _ he⟩, hi.at fun o q => k it (by simp) o q, hne⟩
  item := by
    intro X hP hw hK hc i pins s σ H E I hf st hg
    subst hP hw hK
    obtain ⟨⟨old, he⟩, hit, hne⟩ := st
    obtain ⟨xs, x, hq, hx⟩ := hg
    obtain ⟨its, rv, p, hl⟩ := seqG I hq
    obtain ⟨u, hu, ru⟩ := rv.get hx
    have hel : e < s.heap.objs.size := Heap.lt_size he
    have hil : it < s.heap.objs.size := by obtain ⟨_, q, _⟩ := hit.obj; exact Heap.lt_size q
    have hab : a ≠ e ∧ a ≠ it := p.apart he hit
    have hi : i < its.toArray.size := by
      have := (List.getElem?_eq_some_iff.mp hu).1
      simpa using this
    have D := drawsG (prog := X.prog) (w := X.w) (A := X.A.in1) (I.ok.hd hc) t it a hab.2 its.toArray
    refine wpAny_pyNext_enum_itemD D he ⟨hit, p⟩ hi hne (fun z => by
      have z' : e = it ∨ e = a := by simpa using z
      exact z'.elim hne fun z => hab.1 z.symm) fun x' h' tk hPx ho hst' hT hsz hk => ?_
    have ex : x' = u := by
      have q : its.toArray[i]? = some u := by simpa using hu
      rw [q] at hPx; exact (Option.some.inj hPx).symm
    subst ex
    refine ⟨_, rfl, wpAny_letOwnedTupleGo_enum (s := { s with heap := h', toks := tk + 1 }) ho fun h'' he' sb => ?_⟩
    have hT2 : h''.get? s.heap.objs.size = some { cls := .type "tuple", data := .seq #[.int i tk, x'] } := (sb.2 _ (Nat.ne_of_gt hel)).trans hT
    have new : ObjOk X.prog X.w (upd H s.heap.objs.size (.tup [.int (i : Nat), x])) h'' s.heap.objs.size (.tup [.int (i : Nat), x]) :=
      ⟨by show 2 ≤ sizeLine; decide, [.int i tk, x'], .cons ⟨_, rfl⟩ (.cons ru .nil), ⟨_, hT2, rfl, _, rfl⟩⟩
    have I1 : Inv X pins σ (upd H s.heap.objs.size (.tup [.int (i : Nat), x])) { s with heap := h'', toks := tk + 1 } :=
      I.turnedNew (ch := [e, it]) (fun b ob hb q => (sb.2 b (fun z => hb (by simp [z]))).trans (hk b ob (fun z => hb (by simp [z])) (fun z => hb (by simp [z])) q)) hf (Nat.le_refl _) new
    refine ⟨.ref s.heap.objs.size, _, I1, rfl, ⟨_, x, rfl, I.hok.fresh (Nat.le_refl _), rfl, fun ys hy => by rw [seqG_inj I hy hq]; exact hx⟩, ⟨⟨x', ?_⟩, hst'.1.at fun o q => (sb.2 it (Ne.symm hne)).trans q, hne⟩, fun b hb => ?_⟩
    · have e1 : ((i + 1 : Nat) : Int) = (i : Int) + 1 := by omega
      rw [e1]; exact he'
    · have hb' : b < s.heap.objs.size := by
        have e' : b = e ∨ b = it := by simpa using hb
        rcases e' with z | z
        · rw [z]; exact hel
        · rw [z]; exact hil
      rw [upd_ne (Nat.ne_of_lt hb')]
      exact (hf b hb).1
  done := by
    intro X hP hw hK hc i pins s σ H E I hf st hg
    subst hP hw hK
    obtain ⟨⟨old, he⟩, hit, hne⟩ := st
    obtain ⟨xs, hq, hx⟩ := hg
    obtain ⟨its, rv, p, hl⟩ := seqG I hq
    obtain ⟨f0, f1, f2, f3, f4, f5⟩ := hf it (by simp)
    have hl := rv.length
    have hab : a ≠ e ∧ a ≠ it := p.apart he hit
    have D := drawsG (prog := X.prog) (w := X.w) (A := X.A.in1) (I.ok.hd hc) t it a hab.2 its.toArray
    have ei : i = its.toArray.size := by simp; omega
    subst ei
    exact wpAny_pyNext_enum_endD D he ⟨hit, p⟩ fun h' eb => ⟨rfl, I.turned (t' := s.toks) (fun b o hb q => eb b o hb q) f0 f1 f3 f4 f5⟩
  self := fun A i s Q E st h => let ⟨⟨_, he⟩, _⟩ := st; wpAny_pyIter_enum he h
/-! ### the call of enumerate -/
theorem meets_enumerate_new1 {v : Value} {o : Obj} {H : Heap → Prop} (B : Begins v o H) :
    Meets (Builtin.«enumerate.__new__» ⟨[.type "enumerate", v], []⟩) (fun _ R s => H s.heap ∧
      R (.ok (.ret (.ref (s.heap.push o).objs.size))) { s with heap := (s.heap.push o).push { cls := .type "enumerate", data := .fields #[.none, .bool false, .ref s.heap.objs.size, rawInt 0, .none, .none] } }) :=
  .of_wp fun prog w A R s h => by
    obtain ⟨hp, g, d, tk, os⟩ := s; obtain ⟨h1, h⟩ := h
    have hsub := sub_enumerate
    have q1 : ∀ {A' : Around} {E : Value → Shared → Prop} {Q : Value → Shared → Prop}, Q (.ref hp.objs.size) ⟨hp.push o, g, d, tk, os⟩ → wpAny (model prog w) A' (pyIter v) Q E ⟨hp, g, d, tk, os⟩ :=
      fun q => B.iter prog w _ _ ⟨hp, g, d, tk, os⟩ _ h1 q
    wp_walk using q1
    refine wpAny_stack_any fun st => wpAny_pure ?_
    split
    · rename_i c _ _ _ _ _
      cases (c == Value.type "enumerate")
      · wp_walk using q1
        exact ⟨_, rfl, h⟩
      · wp_walk using q1
        exact ⟨_, rfl, h⟩
    · wp_walk using q1
      exact ⟨_, rfl, h⟩
theorem enum_begins1 {prog : Program} {w : World} {A : Around} {E : Value → Shared → Prop} {s : Shared} {v : Value} {o : Obj} {H : Heap → Prop} {Q : Value → Shared → Prop} (B : Begins v o H) (h1 : H s.heap)
    (h : ∀ h', IsEnum h' (s.heap.objs.size + 1) s.heap.objs.size 0 .none → h'.get? s.heap.objs.size = some o → h'.objs.size = s.heap.objs.size + 2 →
      (∀ b o, s.heap.get? b = some o → h'.get? b = some o) → Q (.ref (s.heap.objs.size + 1)) { s with heap := h' }) :
    wpAny (model prog w) A (call (.type "enumerate") [v]) Q E s := by
  refine callType_new F.called_enumerate (by decide) (F.typeCall_enumerate_1 _) (F.newCall_enumerate_1 _) (fun obj => F.args_object_init_2 obj _) F.entry_enumerate_new
    (meets_enumerate_new1 B) ⟨h1, ?_⟩
  have hz : (s.heap.push o).objs.size = s.heap.objs.size + 1 := Heap.size_push ..
  show _ ∧ _
  rw [hz]
  have he : IsEnum ((s.heap.push o).push { cls := .type "enumerate", data := .fields #[.none, .bool false, .ref s.heap.objs.size, rawInt 0, .none, .none] }) (s.heap.objs.size + 1) s.heap.objs.size 0 .none := by
    have := Heap.get?_push_size (s.heap.push o) (o := { cls := .type "enumerate", data := .fields #[.none, .bool false, .ref s.heap.objs.size, rawInt 0, .none, .none] }) rfl
    rw [hz] at this; exact this
  refine ⟨⟨_, he, rfl⟩, h _ he (Heap.get?_push_of_some _ (Heap.get?_push_size _ B.free)) (by rw [Heap.size_push, hz]) fun b o x => Heap.get?_push_of_some _ (Heap.get?_push_of_some _ x)⟩
def iEnumG (K : PySem.W.Frag) (ta : TA) : TI := fun σ H R => ta σ H fun vs H1 => ∃ t a xs, vs = [.ref a] ∧ SqG K t H1 a xs ∧ R (IteG K t a) H1
theorem pi_enumG {e : Expr} {ta : TA} {p pos tpos : Pos} {elts : List Expr} {kk : Nat} (hg : Gl X "enumerate") (hm : X.mg "enumerate" = none) (ha : PA X [e] ta) (hs : starEach [e] X.env = [(false, eval e X.env)] := by rfl) :
    PI X (.Tuple elts kk tpos) (.Call (.Name "enumerate" p) [e] [] pos) (iEnumG X.K ta) := by
  refine ⟨fun pins s σ H R I h => ?_⟩
  refine Call_ (ld_blt I hg hm boot_enumerate (PyProof.Rows.callWith_type1 (thn (ha.run pos pins s σ H _ I h) fun us s1 ⟨vs, H1, I1, r1, q1⟩ => ?_) hs rfl))
  obtain ⟨t, a, xs, ex, hq, q⟩ := q1
  subst ex
  cases r1 with
  | cons r rr =>
    cases rr
    cases r
    obtain ⟨its, rv, p', hz⟩ := seqG I1 hq
    refine enum_begins1 (beginsG t a its.toArray) p' fun h' he hit hsz hk => wpAny_pyIter_enum he ?_
    have I2 : Inv X pins σ H1 { s1 with heap := h' } := I1.kept (t' := s1.toks) hk
    refine ⟨s1.heap.objs.size + 1, [s1.heap.objs.size + 1, s1.heap.objs.size], _, _, H1, rfl, I2, turn_enumG t a (s1.heap.objs.size + 1) s1.heap.objs.size, ⟨⟨.none, he⟩, begO_at t hit, Nat.succ_ne_self _⟩, fun b hb => ?_, q⟩
    have e' : b = s1.heap.objs.size + 1 ∨ b = s1.heap.objs.size := by simpa using hb
    have hle : s1.heap.objs.size ≤ b := by
      rcases e' with z | z
      · rw [z]; exact Nat.le_add_right _ _
      · rw [z]; exact Nat.le_refl _
    exact I1.fpOk hle (I1.hok.fresh hle)
/-! ### zip of 2 -/
/-! ### zip of 3 -/
/-! ### as data -/
def RdG (G : Glb) (φ : Fi) (H : Hp) : Bool → Addr → List V → Prop
  | false => RdL G φ H
  | true => RdT G φ H
theorem RdG.kept {φ φ' : Fi} {H H' : Hp} (k : Kept φ H φ' H') : ∀ {t : Bool} {a : Addr} {xs : List V}, RdG G φ H t a xs → RdG G φ' H' t a xs
  | false, _, _, h => RdL.kept k h
  | true, _, _, h => RdT.kept k h
theorem RdG.seq {φ : Fi} {H : Hp} : ∀ {t : Bool} {a : Addr} {xs : List V}, RdG G φ H t a xs → SqG G.K t H a xs
  | false, _, _, h => RdL.seq h
  | true, _, _, h => RdT.seq h
/-- the items of a list or a tuple -/
def seqO (d : D) : Option (List D) := match d with
  | .lst ds => some ds
  | .tup ds => some ds
  | _ => none
@[simp] theorem seqO_lst {ds : List D} : seqO (.lst ds) = some ds := rfl
@[simp] theorem seqO_tup {ds : List D} : seqO (.tup ds) = some ds := rfl
theorem seqO_is {φ : Fi} {H : Hp} {d : D} {ds : List D} {v : V} (i : Is G φ H d v) (h : seqO d = some ds) : ∃ t a xs, v = .ref a ∧ RdG G φ H t a xs ∧ IsL G φ H ds xs := by
  cases d with
  | lst es => cases h; obtain ⟨a, xs, e, r, q⟩ := i; exact ⟨false, a, xs, e, r, q⟩
  | tup es => cases h; obtain ⟨a, xs, e, r, q⟩ := i; exact ⟨true, a, xs, e, r, q⟩
  | _ => cases h
theorem feeds_enumG {φ : Fi} {H : Hp} {t : Bool} {a : Addr} {xs : List V} {ds : List D} (r : RdG G φ H t a xs) (q : IsL G φ H ds xs) : Feeds G φ H (IteG G.K t a) (enumD 0 ds) := by
  refine ⟨fun φ2 S2 H2 i d e s hd => ?_, fun φ2 S2 H2 e s => ⟨xs, (r.kept e).seq, by rw [enumD_length, q.length]⟩⟩
  obtain ⟨d1, hd1, rfl⟩ := enumD_get 0 ds i d hd
  obtain ⟨x, hx, k⟩ := q.get hd1
  refine ⟨⟨xs, x, (r.kept e).seq, hx⟩, fun y H3 ⟨T, x', e3, hT, e4, hy⟩ => ?_⟩
  subst e3 e4
  have z := hy xs (r.kept e).seq
  rw [hx] at z; cases z
  refine ⟨.laid hT, s.laid hT, T, _, rfl, .inl ⟨s.fresh hT, .inl upd_same⟩, ?_⟩
  refine .cons ?_ (.one ((k.kept e).ext (.laid hT)))
  show V.int _ = V.int _
  rw [Nat.zero_add]
def iEnumX (f : LM) : LM := fun env S => (f env S).bind fun ds S => match ds with
  | [d] => match seqO d with
    | some ds => .ok (enumD 0 ds) S
    | none => .bad
  | _ => .bad
theorem di_enumX {e : Expr} {p pos tpos : Pos} {elts : List Expr} {kk : Nat} {f : LM} (hK : X.K = G.K) (hg : Gl X "enumerate") (hm : X.mg "enumerate" = none) (ha : DA G X W [e] f) (hs : starEach [e] X.env = [(false, eval e X.env)] := by rfl) : DI G X W (.Tuple elts kk tpos) (.Call (.Name "enumerate" p) [e] [] pos) (iEnumX f) := by
  obtain ⟨t, pt, q⟩ := ha
  refine ⟨_, pi_enumG hg hm pt hs, fun σ H env φ S R s re h => ?_⟩
  refine q σ H env φ S _ s re (PostL.toI h fun ds S1 φ1 H1 vs e1 s1 i1 h1 => ?_)
  split at h1
  · split at h1
    · rename_i d _ ds g1
      obtain ⟨x, rfl, k⟩ := IsL.inv1 i1
      obtain ⟨t, a, xs, rfl, rd, il⟩ := seqO_is k g1
      refine ⟨t, a, xs, rfl, by rw [hK]; exact rd.seq, ?_⟩
      rw [hK]
      exact h1 φ1 H1 _ .refl s1 (feeds_enumG rd il)
    · exact False.elim h1
  · exact False.elim h1
def iZip2X (f : LM) : LM := fun env S => (f env S).bind fun ds S => match ds with
  | [d1, d2] => match seqO d1, seqO d2 with
    | some ds1, some ds2 => .ok (zipD ds1 ds2) S
    | _, _ => .bad
  | _ => .bad
def zipD3X : List D → List D → List D → List D
  | d1 :: ds1, d2 :: ds2, d3 :: ds3 => .tup [d1, d2, d3] :: zipD3X ds1 ds2 ds3
  | _, _, _ => []
def iZip3X (f : LM) : LM := fun env S => (f env S).bind fun ds S => match ds with
  | [d1, d2, d3] => match seqO d1, seqO d2, seqO d3 with
    | some ds1, some ds2, some ds3 => .ok (zipD3X ds1 ds2 ds3) S
    | _, _, _ => .bad
  | _ => .bad
section
variable {env : EnvD} {S : Store}
@[simp] theorem iEnumX_is {f : LM} : iEnumX f env S = (f env S).bind fun ds S => match ds with
  | [d] => match seqO d with
    | some ds => .ok (enumD 0 ds) S
    | none => .bad
  | _ => .bad := rfl
@[simp] theorem iZip2X_is {f : LM} : iZip2X f env S = (f env S).bind fun ds S => match ds with
  | [d1, d2] => match seqO d1, seqO d2 with
    | some ds1, some ds2 => .ok (zipD ds1 ds2) S
    | _, _ => .bad
  | _ => .bad := rfl
@[simp] theorem iZip3X_is {f : LM} : iZip3X f env S = (f env S).bind fun ds S => match ds with
  | [d1, d2, d3] => match seqO d1, seqO d2, seqO d3 with
    | some ds1, some ds2, some ds3 => .ok (zipD3X ds1 ds2 ds3) S
    | _, _, _ => .bad
  | _ => .bad := rfl
@[simp] theorem iAny_is {f : EM} : iAny f env S = (f env S).bindL fun d S => match d with
  | .lst ds => .ok ds S
  | .tup ds => .ok ds S
  | .str x => .ok (signsD x) S
  | .dic ks _ => .ok (ks.map dKey) S
  | _ => .bad := rfl
@[simp] theorem iValsD_is {f : EM} : iValsD f env S = (f env S).bindL fun d S => match d with
  | .dic _ ds => .ok ds S
  | _ => .bad := rfl
@[simp] theorem iItemsD_is {f : EM} : iItemsD f env S = (f env S).bindL fun d S => match d with
  | .dic ks ds => .ok (itemsD ks ds) S
  | _ => .bad := rfl
end
end DL
end
section
/-! D-layer, part 13: dict comprehensions. -/
namespace DL
open PySem L2
variable [DL.Nm]
variable {G : Glb} {X : Cx} {W : WX}
abbrev Kds := List (Key × D)
noncomputable def dcD (b : D → EnvD → Option EnvD) (tt ek ev : EM) (env : EnvD) : Kds → List D → Store → Option (Kds × Store)
  | acc, [], S => some (acc, S)
  | acc, d :: ds, S => match b d env with
    | none => none
    | some e1 => match tt e1 S with
      | .ok (.bl true) S1 => match ek e1 S1 with
        | .ok kd S2 => match ev e1 S2 with
          | .ok y S3 => match keyD kd with
            | some k => if sz (acc.length + 1) then dcD b tt ek ev env (putD acc k y) ds S3 else none
            | none => none
          | _ => none
        | _ => none
      | .ok (.bl false) S1 => dcD b tt ek ev env acc ds S1
      | _ => none
noncomputable def eDc (f : LM) (b : D → EnvD → Option EnvD) (tt ek ev : EM) (vs : List Nat) : EM := fun env S => (f env S).bindE fun ds S => match dcD b tt ek ev (wipeD env vs) [] ds S with
  | some (acc, S) => .ok (.dic (acc.map (·.1)) (acc.map (·.2))) S
  | none => .bad
noncomputable def eDcM (f : LM) (b : D → EnvD → Option EnvD) (tt ek ev : EM) (vs : List Nat) : EM := fun env S => (f env S).bindE fun ds S => match dcD b tt ek ev (wipeD env vs) [] ds S with
  | some (acc, S) => .ok (.loc S.length) (S ++ [.dic acc])
  | none => .bad
theorem KvIs.kept {φ φ' : Fi} {H H' : Hp} {kds : List (Key × D)} {kvs : List (Key × V)} (k : Kept φ H φ' H') (q : KvIs G φ H kds kvs) : KvIs G φ' H' kds kvs := ⟨q.1, q.2.kept k⟩
section
variable {kx vx tg iter : Expr} {ifs : List Expr} {scope : Scope} {own : List (PySem.Str × Nat)} {pos : Pos} {f : LM} {b : D → EnvD → Option EnvD} {ft fk fe : EM} {vs : List Nat}
end

/-! ### a dict comprehension bound to a local name -/
section
variable {kx vx tg iter : Expr} {ifs : List Expr} {scope : Scope} {own : List (PySem.Str × Nat)} {pos : Pos} {f : LM} {b : D → EnvD → Option EnvD} {ft fk fe : EM} {vs : List Nat}
end
section
variable {env : EnvD} {S : Store}
@[simp] theorem eDc_is {f : LM} {b : D → EnvD → Option EnvD} {tt ek ev : EM} {vs : List Nat} : eDc f b tt ek ev vs env S = (f env S).bindE fun ds S => match dcD b tt ek ev (wipeD env vs) [] ds S with
  | some (acc, S) => .ok (.dic (acc.map (·.1)) (acc.map (·.2))) S
  | none => .bad := rfl
@[simp] theorem eDcM_is {f : LM} {b : D → EnvD → Option EnvD} {tt ek ev : EM} {vs : List Nat} : eDcM f b tt ek ev vs env S = (f env S).bindE fun ds S => match dcD b tt ek ev (wipeD env vs) [] ds S with
  | some (acc, S) => .ok (.loc S.length) (S ++ [.dic acc])
  | none => .bad := rfl
end

/-! ### two fors in a list comprehension -/
def iOf (G : Glb) (f : LM) : TI := fun σ H R => ∃ env φ S, SOk G φ S H ∧ RepE G φ H σ env ∧ PostI G W0 φ H σ (f env S) R
theorem DI.can {tg e : Expr} {f : LM} (h : DI G X W0 tg e f) : PI X tg e (iOf G f) := by
  obtain ⟨t, p, q⟩ := h
  exact ⟨fun pins s σ H R I ⟨env, φ, S, so, r, z⟩ => p.run pins s σ H R I (q σ H env φ S R so r z)⟩
noncomputable def lc2D (b : D → EnvD → Option EnvD) (tt : EM) (f1 : LM) (b1 : D → EnvD → Option EnvD) (tt1 elt : EM) (vs1 : List Nat) (env : EnvD) : List D → List D → Store → LR
  | acc, [], S => .ok acc S
  | acc, d :: ds, S => match b d env with
    | none => .bad
    | some e1 => match tt e1 S with
      | .ok (.bl true) S1 => match f1 e1 S1 with
        | .ok ds1 S2 => match lcD b1 tt1 elt (wipeD e1 vs1) acc ds1 S2 with
          | .ok acc' S3 => lc2D b tt f1 b1 tt1 elt vs1 env acc' ds S3
          | _ => .bad
        | _ => .bad
      | .ok (.bl false) S1 => lc2D b tt f1 b1 tt1 elt vs1 env acc ds S1
      | _ => .bad
noncomputable def eLc2 (f : LM) (b : D → EnvD → Option EnvD) (tt : EM) (f1 : LM) (b1 : D → EnvD → Option EnvD) (tt1 elt : EM) (vs1 vs : List Nat) : EM := fun env S => (f env S).bindE fun ds S => (lc2D b tt f1 b1 tt1 elt vs1 (wipeD env vs) [] ds S).bindE fun ys S => .ok (.lst ys) S
noncomputable def eLc2M (f : LM) (b : D → EnvD → Option EnvD) (tt : EM) (f1 : LM) (b1 : D → EnvD → Option EnvD) (tt1 elt : EM) (vs1 vs : List Nat) : EM := fun env S => (f env S).bindE fun ds S => (lc2D b tt f1 b1 tt1 elt vs1 (wipeD env vs) [] ds S).bindE fun ys S => .ok (.loc S.length) (S ++ [.lst ys])
section
variable {elt tg iter tg1 iter1 : Expr} {ifs ifs1 : List Expr} {scope : Scope} {own : List (PySem.Str × Nat)} {pos : Pos} {f f1 : LM} {b b1 : D → EnvD → Option EnvD} {ft ft1 fe : EM} {vs vs1 ws1 : List Nat}
end
section
variable {env : EnvD} {S : Store}
@[simp] theorem eLc2_is {f f1 : LM} {b b1 : D → EnvD → Option EnvD} {tt tt1 elt : EM} {vs1 vs : List Nat} : eLc2 f b tt f1 b1 tt1 elt vs1 vs env S = (f env S).bindE fun ds S => (lc2D b tt f1 b1 tt1 elt vs1 (wipeD env vs) [] ds S).bindE fun ys S => .ok (.lst ys) S := rfl
@[simp] theorem eLc2M_is {f f1 : LM} {b b1 : D → EnvD → Option EnvD} {tt tt1 elt : EM} {vs1 vs : List Nat} : eLc2M f b tt f1 b1 tt1 elt vs1 vs env S = (f env S).bindE fun ds S => (lc2D b tt f1 b1 tt1 elt vs1 (wipeD env vs) [] ds S).bindE fun ys S => .ok (.loc S.length) (S ++ [.lst ys]) := rfl
end
end DL
end
section
/-! list(d.values()), sorted(d.values()). -/
namespace L2
open PySem PySem.Spec PyProof.Rows
section
variable {X : Cx} {e : Expr} {te : TE} {p apos cpos pos : Pos}
end
end L2
end
section
/-! D-layer, part 14: dicts as arguments: list(d.values()), sorted(d.values()), sorted(d), dict(pairs). -/
namespace DL
open PySem L2
variable [DL.Nm]
variable {G : Glb} {X : Cx} {W : WX}
def eListVals (f : EM) : EM := fun env S => (f env S).bind fun d S => match d with
  | .dic _ ds => .ok (.lst ds) S
  | _ => .bad
def eSortVals (f : EM) : EM := fun env S => (f env S).bind fun d S => match d with
  | .dic _ ds => match intsD ds with
    | some ns => if ns.length < 64 then .ok (.lst ((sortI ns).map .int)) S else .bad
    | none => .bad
  | _ => .bad
/-- a dict's keys, whole numbers -/
def intKeys : List (Key × D) → Option (List Int)
  | [] => some []
  | (.inl i, _) :: r => (intKeys r).map (i :: ·)
  | (.inr _, _) :: _ => none
def bSortedX (ds : List D) (S : Store) : ER := match ds with
  | [d] => match dicD S d with
    | some kds => match intKeys kds with
      | some ns => if ns.length < 64 then .ok (.lst ((sortI ns).map .int)) S else .bad
      | none => .bad
    | none => bSorted [d] S
  | _ => .bad
/-- pairs, the first a key -/
def pairsD : List D → Option Kds
  | [] => some []
  | .tup [a, b] :: r => (keyD a).bind fun k => (pairsD r).map ((k, b) :: ·)
  | _ :: _ => none
def mergeD (kds more : Kds) : Kds := more.foldl (fun acc kv => putD acc kv.1 kv.2) kds
def bDictX (ds : List D) (S : Store) : ER := match ds with
  | [.lst es] => match pairsD es with
    | some kds => .ok (.dic ((mergeD [] kds).map (·.1)) ((mergeD [] kds).map (·.2))) S
    | none => .bad
  | ds => bDict ds S
section
variable {env : EnvD} {S : Store}
@[simp] theorem eListVals_is {f : EM} : eListVals f env S = (f env S).bind fun d S => match d with
  | .dic _ ds => .ok (.lst ds) S
  | _ => .bad := rfl
@[simp] theorem eSortVals_is {f : EM} : eSortVals f env S = (f env S).bind fun d S => match d with
  | .dic _ ds => match intsD ds with
    | some ns => if ns.length < 64 then .ok (.lst ((sortI ns).map .int)) S else .bad
    | none => .bad
  | _ => .bad := rfl
@[simp] theorem bSortedX_dic {ks : List Key} {ds : List D} : bSortedX [.dic ks ds] S = match intKeys (ks.zip ds) with
      | some ns => if ns.length < 64 then .ok (.lst ((sortI ns).map .int)) S else .bad
      | none => .bad := rfl
@[simp] theorem bSortedX_lst {ds : List D} : bSortedX [.lst ds] S = bSorted [.lst ds] S := rfl
@[simp] theorem bDictX_lst {es : List D} : bDictX [.lst es] S = match pairsD es with
    | some kds => .ok (.dic ((mergeD [] kds).map (·.1)) ((mergeD [] kds).map (·.2))) S
    | none => .bad := rfl
@[simp] theorem bDictX_dic {ks : List Key} {ds : List D} : bDictX [.dic ks ds] S = bDict [.dic ks ds] S := rfl
@[simp] theorem bDictX_loc {l : Nat} : bDictX [.loc l] S = bDict [.loc l] S := rfl
end
end DL
end
section
/-! D-layer, part 15: loops and comprehensions over a list that is a cell (it stays as it is while it is walked). -/
namespace DL
open PySem L2
variable [DL.Nm]
variable {G : Glb} {X : Cx} {W : WX}
/-- the items of a list, a tuple, a list's cell; the cell that must stay -/
def itemsS (d : D) (S : Store) : Option (Option Nat × List D) := match d with
  | .lst ds => some (none, ds)
  | .tup ds => some (none, ds)
  | .loc l => match S[l]? with
    | some (.lst ds) => some (some l, ds)
    | _ => none
  | _ => none
def okW (w : Option Nat) (ds : List D) (S : Store) : Prop := match w with
  | none => True
  | some l => S[l]? = some (.lst ds)
structure FeedsX (G : Glb) (φ0 : Fi) (H0 : Hp) (J : It) (w : Option Nat) (ds : List D) : Prop where
  go : ∀ φ S H (i : Nat) d, Kept φ0 H0 φ H → SOk G φ S H → okW w ds S → ds[i]? = some d → J.go i H ∧ ∀ x H', J.yld i H x H' → Ext φ H φ H' ∧ SOk G φ S H' ∧ Is G φ H' d x
  stop : ∀ φ S H, Kept φ0 H0 φ H → SOk G φ S H → okW w ds S → J.stop ds.length H
open Classical in
noncomputable def forDX (w : Option Nat) (ds0 : List D) (b : D → EnvD → Option EnvD) (body : SM) : List D → SM
  | [], e, S => if okW w ds0 S then .nx e S else .bad
  | d :: ds, e, S => if okW w ds0 S then (match b d e with
    | none => .bad
    | some e1 => match body e1 S with
      | .nx e2 S2 => forDX w ds0 b body ds e2 S2
      | .ct e2 S2 => forDX w ds0 b body ds e2 S2
      | .bk e2 S2 => .nx e2 S2
      | .rt d S2 => .rt d S2
      | .ex x e2 S2 => .ex x e2 S2
      | .bad => .bad) else .bad
theorem forDX_none {ds0 : List D} {b : D → EnvD → Option EnvD} {body : SM} : ∀ {ds : List D} {e : EnvD} {S : Store}, forDX none ds0 b body ds e S = forD b body ds e S
  | [], e, S => by unfold forDX forD; rw [if_pos (show okW none ds0 S from trivial)]
  | d :: ds, e, S => by
    unfold forDX forD
    rw [if_pos (show okW none ds0 S from trivial)]
    cases b d e with
    | none => rfl
    | some e1 =>
      dsimp only
      cases body e1 S <;> first | rfl | exact forDX_none
noncomputable def sForX (f : EM) (b : D → EnvD → Option EnvD) (body : SM) : SM := fun e S => (f e S).bindS e fun d S => match itemsS d S with
  | some (w, ds) => forDX w ds b body ds e S
  | none => .bad
/-! ### comprehensions -/
open Classical in
noncomputable def lcDX (w : Option Nat) (ds0 : List D) (b : D → EnvD → Option EnvD) (tt elt : EM) (env : EnvD) : List D → List D → Store → LR
  | acc, [], S => if okW w ds0 S then .ok acc S else .bad
  | acc, d :: ds, S => if okW w ds0 S then (match b d env with
    | none => .bad
    | some e1 => match tt e1 S with
      | .ok (.bl true) S1 => match elt e1 S1 with
        | .ok y S2 => if sz (acc.length + 1) then lcDX w ds0 b tt elt env (acc ++ [y]) ds S2 else .bad
        | _ => .bad
      | .ok (.bl false) S1 => lcDX w ds0 b tt elt env acc ds S1
      | _ => .bad) else .bad
theorem lcDX_none {ds0 : List D} {b : D → EnvD → Option EnvD} {tt elt : EM} {env : EnvD} : ∀ {ds acc : List D} {S : Store}, lcDX none ds0 b tt elt env acc ds S = lcD b tt elt env acc ds S
  | [], acc, S => by unfold lcDX lcD; rw [if_pos (show okW none ds0 S from trivial)]
  | d :: ds, acc, S => by
    unfold lcDX lcD
    rw [if_pos (show okW none ds0 S from trivial)]
    cases b d env with
    | none => rfl
    | some e1 =>
      dsimp only
      cases tt e1 S with
      | ok k S1 =>
        cases k with
        | bl k =>
          cases k with
          | false => exact lcDX_none
          | true =>
            dsimp only
            cases elt e1 S1 with
            | ok y S2 =>
              dsimp only
              by_cases hz : sz (acc.length + 1)
              · rw [if_pos hz, if_pos hz]; exact lcDX_none
              · rw [if_neg hz, if_neg hz]
            | _ => rfl
        | _ => rfl
      | _ => rfl
noncomputable def eLcX (f : EM) (b : D → EnvD → Option EnvD) (tt elt : EM) (vs : List Nat) : EM := fun env S => (f env S).bind fun d S => match itemsS d S with
  | some (w, ds) => (lcDX w ds b tt elt (wipeD env vs) [] ds S).bindE fun ys S => .ok (.lst ys) S
  | none => .bad
noncomputable def eLcXM (f : EM) (b : D → EnvD → Option EnvD) (tt elt : EM) (vs : List Nat) : EM := fun env S => (f env S).bind fun d S => match itemsS d S with
  | some (w, ds) => (lcDX w ds b tt elt (wipeD env vs) [] ds S).bindE fun ys S => .ok (.loc S.length) (S ++ [.lst ys])
  | none => .bad
section
variable {elt tg iter : Expr} {ifs : List Expr} {scope : Scope} {own : List (PySem.Str × Nat)} {pos : Pos} {f : EM} {b : D → EnvD → Option EnvD} {ft fe : EM} {vs : List Nat}
end
section
variable {env : EnvD} {S : Store}
@[simp] theorem sForX_is {f : EM} {b : D → EnvD → Option EnvD} {body : SM} : sForX f b body env S = (f env S).bindS env fun d S => match itemsS d S with
  | some (w, ds) => forDX w ds b body ds env S
  | none => .bad := rfl
@[simp] theorem eLcX_is {f : EM} {b : D → EnvD → Option EnvD} {tt elt : EM} {vs : List Nat} : eLcX f b tt elt vs env S = (f env S).bind fun d S => match itemsS d S with
  | some (w, ds) => (lcDX w ds b tt elt (wipeD env vs) [] ds S).bindE fun ys S => .ok (.lst ys) S
  | none => .bad := rfl
@[simp] theorem eLcXM_is {f : EM} {b : D → EnvD → Option EnvD} {tt elt : EM} {vs : List Nat} : eLcXM f b tt elt vs env S = (f env S).bind fun d S => match itemsS d S with
  | some (w, ds) => (lcDX w ds b tt elt (wipeD env vs) [] ds S).bindE fun ys S => .ok (.loc S.length) (S ++ [.lst ys])
  | none => .bad := rfl
@[simp] theorem itemsS_lst {ds : List D} : itemsS (.lst ds) S = some (none, ds) := rfl
@[simp] theorem itemsS_tup {ds : List D} : itemsS (.tup ds) S = some (none, ds) := rfl
@[simp] theorem itemsS_loc {l : Nat} : itemsS (.loc l) S = match cel S l with
    | some (.lst ds) => some (some l, ds)
    | _ => none := rfl
@[simp] theorem forDX_none' {ds0 ds : List D} {b : D → EnvD → Option EnvD} {body : SM} {e : EnvD} : forDX none ds0 b body ds e S = forD b body ds e S := forDX_none
@[simp] theorem lcDX_none' {ds0 ds acc : List D} {b : D → EnvD → Option EnvD} {tt elt : EM} : lcDX none ds0 b tt elt env acc ds S = lcD b tt elt env acc ds S := lcDX_none
end
end DL
end
section
/-! D-layer, part 16: *a, b = list; d[i], d[j] = x, y. -/
namespace L2
open PySem PySem.Spec PySem.Calls PyProof.Rows PySem.W
variable [DL.Nm]
section
variable {prog : Program} {w : World} {A : Around} {E : Value → Shared → Prop} {s : Shared}
theorem un_starL {l : Addr} {us : List Value} {u : Value} {Q : List Value → Shared → Prop} (hl : s.heap.IsList l (us ++ [u]).toArray) (hh : A.handled = none) (hz : us.length + 1 ≤ sizeLine)
    (h : ∀ (h' : Heap) (tk : Nat), (∀ b o, s.heap.get? b = some o → h'.get? b = some o) → Q [.ref h'.objs.size, u] { s with heap := h'.push { cls := .type "list", data := .seq us.toArray }, toks := tk }) : wpAny (model prog w) A (unpackItems (.ref l) 2 (some 0)) Q E s := by
  have hlt : l ≠ s.heap.objs.size := by obtain ⟨o, ho, _⟩ := hl; exact Nat.ne_of_lt (Heap.lt_size ho)
  have hsz : (us ++ [u]).toArray.size = us.length + 1 := by simp
  generalize hit : (us ++ [u]).toArray = items at *
  have htl : items.toList = us ++ [u] := by rw [← hit]
  unfold unpackItems
  refine wpAny_bind ?_
  unfold notIterableAtAll
  refine wpAny_bind (wpAny_specialOf hl.typeIs slot_list_iter.lookup ?_)
  refine wpAny_pure ?_
  simp only [Bool.false_eq_true, if_false]
  refine wpAny_bind (wpAny_holding (wpAny_pyIter_list hl ?_))
  refine wpAny_bind (wpAny_holding (kun_draw hlt 0 0 _ _ ⟨_, Heap.get?_push_size _ rfl, rfl, rfl⟩ (hl.push _) (by omega) fun h₁ hit₁ hs₁ => ?_))
  have hl₁ : h₁.IsList l items := (hl.push _).extBut hs₁.extBut hlt
  rw [Nat.zero_add] at hit₁
  have hit₁' := hit₁
  obtain ⟨oi, hoi, _⟩ := hit₁'
  have hl₁' := hl₁
  obtain ⟨ol, hol, _⟩ := hl₁'
  rw [List.drop_zero]
  rw [if_neg (show ¬ ((items.toList.take 0).length < 0) by simp)]
  refine wpAny_bind (wpAny_holding (kun_collect (s := { s with heap := h₁ }) (T := "list_iterator") (.inr (.inr (.inl rfl))) (Walks.list (A := A.in1) hh s.heap.objs.size l hlt items) (fun j u st => st.1.typeIs) (k := 0) (by omega) ⟨hit₁, hl₁⟩ (Heap.lt_size hoi) (Heap.lt_size hol) (fun h₂ tk hk => ?_) (by omega)))
  rw [List.drop_zero, htl]
  show wpAny _ _ (if (us ++ [u]).length < 2 - 1 - 0 then _ else _) _ _ _
  rw [if_neg (by simp)]
  have hm : (us ++ [u]).length - (2 - 1 - 0) = us.length := by simp
  show wpAny _ _ (newList ((us ++ [u]).take ((us ++ [u]).length - (2 - 1 - 0))) >>= fun d => pure ([] ++ [d] ++ (us ++ [u]).drop ((us ++ [u]).length - (2 - 1 - 0)))) _ _ _
  rw [hm, List.take_left, List.drop_left]
  have he : ∀ b o, s.heap.get? b = some o → h₂.get? b = some o := fun b o e => hk b o (Nat.ne_of_lt (Heap.lt_size e)) (hs₁.extBut b o (Nat.ne_of_lt (Heap.lt_size e)) (Heap.get?_push_of_some _ e))
  exact wpAny_bind (wpAny_newList (wpAny_pure (h h₂ tk he)) (by omega))
end
section
variable {X : Cx} {pos : Pos}
theorem Paired.snoc {xs : List V} {x : V} {its : List Value} (r : Vals (xs ++ [x]) its) : ∃ us u, its = us ++ [u] ∧ Vals xs us ∧ RelV x u := by
  induction xs generalizing its with
  | nil =>
    cases r with
    | cons r t => cases t; exact ⟨[], _, rfl, .nil, r⟩
  | cons y ys ih =>
    cases r with
    | cons r t =>
      obtain ⟨us, u, rfl, a, b⟩ := ih t
      exact ⟨_ :: us, u, rfl, .cons r a, b⟩
/-- *a, b = a list -/
def gStar (K : PySem.W.Frag) (i j : Nat) : TG := fun v σ H Q => ∃ a xs x, v = .ref a ∧ SqL K H a (xs ++ [x]) ∧ ∀ p, H p = none → Q ((σ.set i (some (.ref p))).set j (some x)) (upd H p (.lst xs))
theorem pg_star {i j : Nat} {x y : Str} {k : Nat} {px ps py : Pos} (hc : X.calm = true) (hN : X.N.Nodup) (hi : X.N[i]? = some x) (hj : X.N[j]? = some y) (hx : Loc X.env.scope x) (hy : Loc X.env.scope y)
    (hf : X.fn x = true ∨ X.env.scope.names.lookup x = some .local := by first | exact .inl rfl | exact .inr rfl | assumption) (hf2 : X.fn y = true ∨ X.env.scope.names.lookup y = some .local := by first | exact .inl rfl | exact .inr rfl | assumption)
    (ha : assignEach [.Starred (.Name x px) ps, .Name y py] X.env = [(true, assign (.Name x px) X.env), (false, assign (.Name y py) X.env)] := by rfl) : PG X (.Tuple [.Starred (.Name x px) ps, .Name y py] k pos) (gStar X.K i j) := by
  refine ⟨fun pins s σ H v u Q I r hw => ?_⟩
  obtain ⟨a, xs, x0, e1, hq, hw⟩ := hw
  subst e1
  cases r
  obtain ⟨its, rv, ht, hz⟩ := I.list hq
  obtain ⟨us, u0, rfl, r1, r2⟩ := Paired.snoc rv
  have hl : us.length + 1 ≤ sizeLine := by
    have := r1.length
    rw [List.length_append, this] at hz
    exact hz
  rw [assign_Tuple]
  refine wpAny_bind (wpAny_standAt ?_)
  unfold unpack
  rw [ha]
  refine wpAny_bind (wpAny_holding (un_starL ht.isList (I.ok.hd hc) hl fun h' tk hk => ?_))
  have I1 : Inv X pins σ H { s with heap := h', toks := tk } := I.kept hk
  have I2 : Inv X pins σ (upd H h'.objs.size (.lst xs)) { s with heap := h'.push { cls := .type "list", data := .seq us.toArray }, toks := tk } :=
    I1.laid (s := { s with heap := h', toks := tk }) (t' := tk) (fun b u e => Heap.get?_push_of_some _ e) (Nat.le_refl _) ⟨by rw [r1.length]; omega, us, 0, r1, Heap.get?_push_size _ rfl⟩
  have w := hw h'.objs.size (I1.hok.fresh (Nat.le_refl _))
  show wpAny _ _ (assignInOrder [assign (.Name x px) X.env, assign (.Name y py) X.env] [.ref h'.objs.size, u0]) _ _ _
  refine assignInOrder_cons (thn ((pg_name hN hi hx hf).run pins _ σ _ (V.ref h'.objs.size) _ (fun σ' H' => σ' = σ.set i (some (.ref h'.objs.size)) ∧ H' = upd H h'.objs.size (.lst xs)) I2 rfl ⟨rfl, rfl⟩) fun _ s1 ⟨σ1, H1, J1, q1⟩ => ?_)
  obtain ⟨rfl, rfl⟩ := q1
  refine assignInOrder_cons (thn ((pg_name hN hj hy hf2).run pins _ _ _ _ _ (fun σ' H' => Q σ' H') J1 r2 w) fun _ s2 q2 => ?_)
  exact assignInOrder_nil q2
end
end L2
namespace DL
open PySem L2
variable [DL.Nm]
variable {G : Glb} {X : Cx} {W : WX}
/-- *a, b = a list -/
def sStar (i j : Nat) (f : EM) : SM := fun e S => (f e S).bindS e fun d S => match listD S d with
  | some ds => match ds.getLast? with
    | some x => .nx ((e.set i (some (.lst ds.dropLast))).set j (some x)) S
    | none => .bad
  | none => .bad
theorem ds_star {i j k : Nat} {x y : Str} {e : Expr} {px ps py pt pos : Pos} {f : EM} (hc : X.calm = true) (hK : X.K = G.K) (hN : X.N.Nodup) (hi : X.N[i]? = some x) (hj : X.N[j]? = some y) (hx : Loc X.env.scope x) (hy : Loc X.env.scope y) (he : DE G X W e f)
    (hs : swapsWithSole [.Tuple [.Starred (.Name x px) ps, .Name y py] k pt] e pos.line X.env = pure false := by rfl) (hw : swappedStores [.Tuple [.Starred (.Name x px) ps, .Name y py] k pt] e X.env = pure none := by rfl)
    (h1 : List.map (fun x => x.snd) (assignEach [.Tuple [.Starred (.Name x px) ps, .Name y py] k pt] X.env) = [assign (.Tuple [.Starred (.Name x px) ps, .Name y py] k pt) X.env] := by rfl)
    (ha : assignEach [.Starred (.Name x px) ps, .Name y py] X.env = [(true, assign (.Name x px) X.env), (false, assign (.Name y py) X.env)] := by rfl)
    (hf : X.fn x = true ∨ X.env.scope.names.lookup x = some .local := by first | exact .inl rfl | exact .inr rfl) (hf2 : X.fn y = true ∨ X.env.scope.names.lookup y = some .local := by first | exact .inl rfl | exact .inr rfl) :
    DS G X W (.Assign [.Tuple [.Starred (.Name x px) ps, .Name y py] k pt] e pos) (sStar i j f) := by
  obtain ⟨t, p, q⟩ := he
  refine ⟨_, ps_asg p (pg_star (i := i) (j := j) hc hN hi hj hx hy hf hf2 ha) hs hw h1, fun σ H env φ S N s re h => ?_⟩
  refine q σ H env φ S _ s re (PostE.bindS re h fun d S1 φ1 H1 v e1 s1 i1 h1 => ?_)
  cases hL : listD S1 d with
  | none => rw [hL] at h1; exact h1.elim
  | some ds =>
    rw [hL] at h1
    dsimp only at h1
    cases hg : ds.getLast? with
    | none => rw [hg] at h1; exact h1.elim
    | some x0 =>
      rw [hg] at h1
      dsimp only at h1
      obtain ⟨a, xs, rfl, sq, il⟩ := listD_sq s1 i1 hL
      have hne : ds ≠ [] := fun z => by rw [z] at hg; cases hg
      have hds : ds.dropLast ++ [x0] = ds := by
        rw [List.getLast?_eq_some_getLast hne] at hg
        cases hg
        exact List.dropLast_concat_getLast hne
      rw [← hds] at il
      obtain ⟨ys, y0, rfl, i2, i3⟩ : ∃ ys y0, xs = ys ++ [y0] ∧ IsL G φ1 H1 ds.dropLast ys ∧ Is G φ1 H1 x0 y0 := by
        generalize ds.dropLast = l at il
        clear hds hg hne hL h1 sq i1
        induction l generalizing xs with
        | nil =>
          obtain ⟨z, zs, rfl, a, b⟩ := il
          cases (show zs = [] from b)
          exact ⟨[], z, rfl, rfl, a⟩
        | cons c l ih =>
          obtain ⟨z, zs, rfl, a, b⟩ := il
          obtain ⟨ys, y0, rfl, p, q⟩ := ih _ b
          exact ⟨z :: ys, y0, rfl, ⟨z, ys, rfl, a, p⟩, q⟩
      refine ⟨a, ys, y0, rfl, by rw [hK]; exact sq, fun p hp => ?_⟩
      exact h1 φ1 _ _ (.laid hp) (s1.laid hp) ((((re.ext e1).ext (.laid hp)).set (show Is G φ1 (upd H1 p (.lst ys)) (.lst ds.dropLast) (.ref p) from ⟨p, ys, rfl, .inl ⟨s1.fresh hp, .inl upd_same⟩, i2.ext (.laid hp)⟩) i).set (i3.ext (.laid hp)) j)
/-- d[i], c[j] = x, y -/
noncomputable def sPut2X (o i o2 i2 f : EM) : SM := fun env S => (f env S).bindS env fun d S => match d with
  | .tup [x, y] => (o env S).bindS env fun a S => (i env S).bindS env fun b S => match setX a b x S with
    | some S => (o2 env S).bindS env fun a S => (i2 env S).bindS env fun b S => match setX a b y S with
      | some S' => .nx env S'
      | none => .bad
    | none => .bad
  | _ => .bad
/-! ### is True, is not True -/
def opIsB (x y : D) (S : Store) : ER := match x, y with | .bl a, .bl b => .ok (.bl (decide (a = b))) S | _, _ => .bad
def opNotB (x y : D) (S : Store) : ER := match x, y with | .bl a, .bl b => .ok (.bl (!decide (a = b))) S | _, _ => .bad
@[simp] theorem opIsB_bb {S : Store} {a b : Bool} : opIsB (.bl a) (.bl b) S = .ok (.bl (decide (a = b))) S := rfl
@[simp] theorem opNotB_bb {S : Store} {a b : Bool} : opNotB (.bl a) (.bl b) S = .ok (.bl (!decide (a = b))) S := rfl
/-! ### dict(..) that is changed later -/
def bDictM (ds : List D) (S : Store) : ER := match ds with
  | [d] => match dicD S d with
    | some kds => .ok (.loc S.length) (S ++ [.dic kds])
    | none => .bad
  | _ => .bad
section
variable {S : Store} {e env : EnvD}
@[simp] theorem sStar_is {i j : Nat} {f : EM} : sStar i j f e S = (f e S).bindS e fun d S => match listD S d with
  | some ds => match ds.getLast? with
    | some x => .nx ((e.set i (some (.lst ds.dropLast))).set j (some x)) S
    | none => .bad
  | none => .bad := rfl
@[simp] theorem sPut2X_is {o i o2 i2 f : EM} : sPut2X o i o2 i2 f env S = (f env S).bindS env fun d S => match d with
  | .tup [x, y] => (o env S).bindS env fun a S => (i env S).bindS env fun b S => match setX a b x S with
    | some S => (o2 env S).bindS env fun a S => (i2 env S).bindS env fun b S => match setX a b y S with
      | some S' => .nx env S'
      | none => .bad
    | none => .bad
  | _ => .bad := rfl
@[simp] theorem bDictM_dic {ks : List Key} {ds : List D} : bDictM [.dic ks ds] S = .ok (.loc S.length) (S ++ [.dic (ks.zip ds)]) := rfl
end
end DL
end
section
/-! Defs called where no repr is under way (guards = some []): so repr of lists and tuples can be had. -/
namespace L2
open PySem PySem.Spec PyProof.Rows
variable [DL.Nm]
/-- as FnOk, where no guard stands below -/
structure FnG (P : Program) (w : World) (K : PySem.W.Frag) (mg : Str → Option Value) (base : Heap) (CX : CXT) (k : Nat) (f : Addr) (fd : FuncData) (ps : List Str) (sp : Sp) : Prop where
  len : ∀ vs H Q E, sp vs H Q E → vs.length = ps.length
  run : ∀ (A : Around) (outer : List Env) (s : Shared) (H : Hp) (args : Args) (us : List Value) (vs : List V) (Q : VK) (E : XK), A.guards = some [] → Room k A → Env0 P w K mg base A outer s H → BindsTo s fd args (ps.zip us) → Vals vs us → sp vs H Q E →
    codeAny (model P w) A (.call (.ref f) args) (CR CX outer P w H s Q E) s
theorem FnG.of {P : Program} {w : World} {K : PySem.W.Frag} {mg : Str → Option Value} {base : Heap} {CX : CXT} {k : Nat} {f : Addr} {fd : FuncData} {ps : List Str} {sp : Sp} (F : FnOk P w K mg base CX k f fd ps sp) : FnG P w K mg base CX k f fd ps sp :=
  ⟨F.len, fun A outer s H args us vs Q E _ => F.run A outer s H args us vs Q E⟩
theorem FnG.mono {P : Program} {w : World} {K : PySem.W.Frag} {mg : Str → Option Value} {base : Heap} {CX : CXT} {j k : Nat} {f : Addr} {fd : FuncData} {ps : List Str} {sp : Sp} (F : FnG P w K mg base CX j f fd ps sp) (h : j ≤ k) : FnG P w K mg base CX k f fd ps sp :=
  ⟨F.len, fun A outer s H args us vs Q E hg hr => F.run A outer s H args us vs Q E hg (hr.mono h)⟩
section
variable {P : Program} {w : World} {K : PySem.W.Frag} {mg : Str → Option Value} {base : Heap}
theorem Fun.okG {x qual : Str} {st : Stmt} {f : Addr} {fd : FuncData} {N ps : List Str} {k : Nat} {sp : Sp} (F : Fun K x qual st f fd) (S : FnScope N ps (defScope st)) (len : ∀ vs H Q E, sp vs H Q E → vs.length = ps.length)
    (hbody : ∀ (cdv : Value) (A : Around) (outer : List Env) (s : Shared) (H : Hp) (vs : List V) (Q : VK) (E : XK), fd.code = cdv → A.guards = some [] → Room k (A.deeper (envOfC qual (defScope st) s.heap.objs.size f cdv)) → sp vs H Q E →
      ∃ t, PSs (cxOf (L2.CX P w) P w K mg base N qual (defScope st) f cdv A outer s H E) (defBody st) t ∧ t { nx := fun _ H' => Q .non H', rt := Q } (start N vs) H) : FnG P w K mg base (L2.CX P w) (k + 1) f fd ps sp := by
  refine ⟨len, fun A outer s H args us vs Q E gd hr e0 hb r hsp => ?_⟩
  obtain ⟨oc, od, kV, doc, pm, an, cdv, ct, osl, rfl, lk, hcd⟩ := F.ex
  have hl := len _ _ _ _ hsp
  have KX : K.In s.heap := e0.mod.kin.keeps fun b o e => (e0.bs b o e).1
  have lim : s.heap.NoLimit := e0.mod.nolimit.keeps fun b o e => (e0.bs b o e).1
  have hkind : ∀ y ∈ ps.zip us, (defScope st).names.lookup y.1 = some .local ∨ ((defScope st).names.lookup y.1 = some .cell ∧ ((cellsFrom (s.heap.objs.size + 1) (defScope st).names []).lookup y.1).isSome = true) := fun ⟨n, v⟩ hy =>
    (S.par n (List.of_mem_zip hy).1).imp id fun q => ⟨q, PySem.W.cellsFrom_some _ _ _ (.inl q)⟩
  refine codeAny_call_function hr.depth (KX _ _ lk) rfl S.co S.gen rfl (PySem.W.codeRec_of KX hcd) (hb _ _ _ _ ?_)
  refine wpAny_newFunctionEnv_cells S.kind hkind fun env he s1 x => ?_
  subst he
  refine ⟨lim.keeps x.toInCall.keep, codeAny_func ?_⟩
  obtain ⟨t, ht, hq⟩ := hbody cdv A outer s H vs Q E rfl gd (hr.deeper _) hsp
  have I : Inv (cxOf (L2.CX P w) P w K mg base N qual (defScope st) f cdv A outer s H E) [] (start N vs) H s1 := inv_start S hr.hd e0 hl r x
  refine wpAny_mono (ht.run [] s1 (start N vs) H _ I hq) (fun fl s' hs => ?_) fun e s' hs => hs
  cases fl with
  | ret u =>
    obtain ⟨v, σ', H', J, rv, q⟩ := hs
    exact ⟨v, H', J.os, J.bare, J.base, J.hok, rv, q⟩
  | next =>
    obtain ⟨σ', H', J, q⟩ := hs
    exact ⟨V.non, H', J.os, J.bare, J.base, J.hok, rfl, q⟩
  | brk => obtain ⟨_, _, _, q⟩ := hs; exact False.elim q
  | cont => obtain ⟨_, _, _, q⟩ := hs; exact False.elim q
end
section
variable {X : Cx} {CX : CXT} {k : Nat} {f C : Addr} {fd : FuncData} {ps : List Str} {sp : Sp} {E : St → XK} {x m : Str} {p pos apos : Pos} {e o : Expr} {es : List Expr} {ta : TE} {t : TA}
theorem run_fnG {pins : List (Addr × Obj)} {σ : St} {H : Hp} {s : Shared} {Q : VK} {us : List Value} {vs : List V} (F : FnG X.prog X.w X.K X.mg X.base CX k f fd ps sp) (gd : X.A.guards = some []) (hr : Room k X.A) (hb : Binds X.K fd ps []) (hx : PassesAt CX X σ (E σ))
    (I : Inv X pins σ H s) (r : Vals vs us) (h : sp vs H Q (E σ)) : wpAny (model X.prog X.w) X.A (call (.ref f) us) (EP X pins σ Q) X.xe s := by
  have hl : us.length = ps.length := by rw [← r.length]; exact F.len _ _ _ _ h
  have b := hb s us I.kIn (by rw [List.append_nil]; exact hl)
  rw [List.append_nil] at b
  refine wpAny_call (codeAny_mono (F.run X.A X.stack s H ⟨us, []⟩ us vs Q (E σ) gd hr I.env0 b r h) fun r s' hq => ?_)
  cases r with
  | error e => exact hx pins H s e s' I hq
  | ok fl =>
    cases fl with
    | ret u => exact I.after hq
    | next => exact False.elim hq
    | brk => exact False.elim hq
    | cont => exact False.elim hq
theorem pe_callG (F : FnG X.prog X.w X.K X.mg X.base CX k f fd ps sp) (gd : X.A.guards = some []) (hr : Room k X.A) (hg : Gl X x) (hm : X.mg x = some (.ref f)) (hk : PySem.W.keepIn X.K (.ref f) = true) (hb : Binds X.K fd ps []) (hx : ∀ σ, PassesAt CX X σ (E σ))
    (ha : PA X (e :: es) t) (hdb : (x == ("__debug__" : Str)) = false := by decide) (he : starEach (e :: es) X.env = (false, eval e X.env) :: starEach es X.env := by rfl) (hpl : (backTo pos (starEach es X.env)).any (·.1) = false := by rfl) :
    PE X (.Call (.Name x p) (e :: es) [] pos) (tCallS sp E t) := by
  refine ⟨fun pins s σ H Q I h => ?_⟩
  refine wpAny_Call_Name_kw (ld_glob I hg hm ?_ hdb)
  refine PySem.W.callWith_K (h₀ := X.base) I.ok.mod.kin hk (thn (ha.run pos pins s σ H _ I h) fun us s1 ⟨vs, H1, I1, r, q⟩ => ⟨I1.kIn, ?_⟩) he hpl
  exact run_fnG F gd hr hb (hx σ) I1 r q
theorem run_callG0 (FO : FnG X.prog X.w X.K X.mg X.base CX k f fd ps sp) (gd : X.A.guards = some []) (hr : Room k X.A) (hg : Gl X x) (hm : X.mg x = some (.ref f)) (hk : PySem.W.keepIn X.K (.ref f) = true) (hb : Binds X.K fd ps []) (hx : ∀ σ, PassesAt CX X σ (E σ))
    (hdb : (x == ("__debug__" : Str)) = false := by decide) : PE X (.Call (.Name x p) [] [] pos) (tCallS sp E tNil) :=
  ⟨fun pins s σ H Q I h => wpAny_Call_Name_kw (ld_glob I hg hm (PySem.W.callWith_K0 I.kIn hk (run_fnG (us := []) FO gd hr hb (hx σ) I .nil h)) hdb)⟩
end
end L2
end
section
/-! D-layer: defs called with no guard below; repr. -/
namespace DL
open PySem L2 PyProof.Rows
variable [DL.Nm]
theorem fnG {G : Glb} {P : Program} {w : World} {mg : Str → Option Value} {base : Heap} {x qual : Str} {st : Stmt} {f : Addr} {fd : FuncData} {N ps : List Str} {k : Nat} {g : SM} (m : Mode) (F : Fun G.K x qual st f fd) (S : FnScope N ps (defScope st))
    (body : ∀ (cdv : Value) (A : Around) (outer : List Env) (s : Shared) (H : Hp) (E : XK), Room k (A.deeper (envOfC qual (defScope st) s.heap.objs.size f cdv)) →
      Takes (cxOf (L2.CX P w) P w G.K mg base N qual (defScope st) f cdv A outer s H E) (fun cls d _ H => E cls d H) →
      PassesOwn (model P w) (A.deeper (envOfC qual (defScope st) s.heap.objs.size f cdv)) (envOfC qual (defScope st) s.heap.objs.size f cdv) (cxOf (L2.CX P w) P w G.K mg base N qual (defScope st) f cdv A outer s H E).xe →
      (cxOf (L2.CX P w) P w G.K mg base N qual (defScope st) f cdv A outer s H E).A.guards = some [] →
      DSs G (cxOf (L2.CX P w) P w G.K mg base N qual (defScope st) f cdv A outer s H E) (fun cls d _ H => E cls d H) (defBody st) g) :
    FnG P w G.K mg base (L2.CX P w) (k + 1) f fd ps (spD G ps.length (fnF m N.length g)) := by
  refine F.okG S (fun vs H Q E h => h.1) (fun cdv A outer s H vs Q E _ gd hr h => ?_)
  obtain ⟨_, φ, S0, ds, so, il, hp⟩ := h
  obtain ⟨t, pt, qt⟩ := body cdv A outer s H E hr (takes_of rfl rfl rfl rfl) (passes_of rfl) gd
  refine ⟨t, pt, qt (L2.start N vs) H (startD N.length ds) φ S0 _ so (rep_start N il) ?_⟩
  unfold fnF at hp
  cases hg : g (startD N.length ds) S0 with
  | nx e S1 => rw [hg] at hp; exact fun φ1 H1 σ1 e1 s1 r1 => exit_ok so e1 s1 (show Is G φ1 H1 .non .non from rfl) hp
  | rt d S1 => rw [hg] at hp; exact fun φ1 H1 v e1 s1 i1 => exit_ok so e1 s1 i1 hp
  | ex x e S1 => rw [hg] at hp; exact fun φ1 H1 σ1 cls dx e1 s1 r1 ix => hp φ1 H1 cls dx e1 s1 ix
  | bk e S1 => rw [hg] at hp; exact False.elim hp
  | ct e S1 => rw [hg] at hp; exact False.elim hp
  | bad => rw [hg] at hp; exact False.elim hp
structure DefG (G : Glb) (P : Program) (w : World) (mg : Str → Option Value) (base : Heap) (k : Nat) (x : Str) (n : Nat) (F : FD) : Prop where
  ex : ∃ f fd ps, FnG P w G.K mg base (L2.CX P w) k f fd ps (spD G n F) ∧ mg x = some (.ref f) ∧ PySem.W.keepIn G.K (.ref f) = true ∧ Binds G.K fd ps []
section
variable {G : Glb} {X : Cx} {W : WX} {k n : Nat} {x : Str} {F : FD} {p pos : Pos} {e : Expr} {es : List Expr} {fa : LM}
theorem de_callG (d : DefG G X.prog X.w X.mg X.base k x n F) (gd : X.A.guards = some []) (hK : X.K = G.K) (hr : Room k X.A) (hg : Gl X x) (tk : Takes X W) (ha : DA G X W (e :: es) fa) (hn : (e :: es).length = n) (hla : ∀ env S ds S', fa env S = .ok ds S' → ds.length = n)
    (hdb : (x == ("__debug__" : Str)) = false := by decide) (he : starEach (e :: es) X.env = (false, eval e X.env) :: starEach es X.env := by rfl) (hpl : (backTo pos (starEach es X.env)).any (·.1) = false := by rfl) :
    DE G X W (.Call (.Name x p) (e :: es) [] pos) (eCall F fa) := by
  obtain ⟨f, fd, ps, FO, hm, hk, hb⟩ := d.ex
  rw [← hK] at FO hk hb
  obtain ⟨t, pt, qt⟩ := ha
  refine ⟨_, pe_callG FO gd hr hg hm hk hb (fun σ => passAt tk σ) pt hdb he hpl, fun σ H env φ S Q s re h => ?_⟩
  refine qt σ H env φ S _ s re ?_
  unfold eCall at h
  cases hf : fa env S with
  | ok ds S1 =>
    rw [hf] at h
    intro φ1 H1 vs e1 s1 i1
    refine ⟨by rw [← i1.length]; exact hla _ _ _ _ hf, φ1, S1, ds, s1, i1, ?_⟩
    have h' : PostE G W φ1 H1 σ (F ds S1) Q := PostE.ext e1 h
    cases hF : F ds S1 with
    | ok d S2 => rw [hF] at h'; exact h'
    | ex x S2 => rw [hF] at h'; exact h'
    | bad => rw [hF] at h'; exact h'
  | ex x S1 => rw [hf] at h; exact h
  | bad => rw [hf] at h; exact h
theorem de_callG0 (d : DefG G X.prog X.w X.mg X.base k x 0 F) (gd : X.A.guards = some []) (hK : X.K = G.K) (hr : Room k X.A) (hg : Gl X x) (tk : Takes X W)
    (hdb : (x == ("__debug__" : Str)) = false := by decide) : DE G X W (.Call (.Name x p) [] [] pos) (eCall F lNil) := by
  obtain ⟨f, fd, ps, FO, hm, hk, hb⟩ := d.ex
  rw [← hK] at FO hk hb
  refine ⟨_, run_callG0 FO gd hr hg hm hk hb (fun σ => passAt tk σ) hdb, fun σ H env φ S Q s re h => ?_⟩
  refine ⟨rfl, φ, S, [], s, rfl, ?_⟩
  have h' : PostE G W φ H σ (F [] S) Q := h
  cases hF : F [] S with
  | ok d S2 => rw [hF] at h'; exact h'
  | ex x S2 => rw [hF] at h'; exact h'
  | bad => rw [hF] at h'; exact h'
/-! ### repr -/
end
def optL {α β : Type} (f : α → Option β) : List α → Option (List β)
  | [] => some []
  | a :: l => (f a).bind fun b => (optL f l).map (b :: ·)
section
variable {G : Glb} {X : Cx} {W : WX} {φ : Fi} {S : Store} {H : Hp}
end
/-! ### small data -/
structure Small (k w : Nat) (p : PyData) : Prop where
  sh : p.showable = true
  hd : p.hasDict = false
  cl : p.canLay0 = true
  dp : p.depth ≤ k
  si : p.intsShort 13 = true
  wt : p.weight ≤ w
theorem Small.mono {k w k' w' : Nat} {p : PyData} (h : Small k w p) (hk : k ≤ k') (hw : w ≤ w') : Small k' w' p := ⟨h.sh, h.hd, h.cl, Nat.le_trans h.dp hk, h.si, Nat.le_trans h.wt hw⟩
end DL
end
section
/-! sorted of a tuple of whole numbers. -/
namespace L2
open PySem PySem.Spec PyProof.Rows
variable [DL.Nm]
section
variable {P : Program} {w : World} {A : Around} {E : Value → Shared → Prop} {s : Shared}
end
section
variable {X : Cx}
end
end L2
namespace DL
open PySem L2
variable [DL.Nm]
variable {G : Glb} {X : Cx} {W : WX}
/-- sorted, of a tuple of whole numbers too -/
def bSortedY (ds : List D) (S : Store) : ER := match ds with
  | [.tup es] => match intsD es with
    | some ns => if ns.length < 64 then .ok (.lst ((sortI ns).map .int)) S else .bad
    | none => .bad
  | ds => bSortedX ds S
@[simp] theorem bSortedY_t {ns : List Int} {S : Store} : bSortedY [.tup (ns.map .int)] S = if ns.length < 64 then .ok (.lst ((sortI ns).map .int)) S else .bad := by
  unfold bSortedY
  dsimp only
  rw [intsD_map]
@[simp] theorem bSortedY_l {ns : List Int} {S : Store} : bSortedY [.lst (ns.map .int)] S = .ok (.lst ((sortI ns).map .int)) S := by
  show bSortedX [.lst (ns.map .int)] S = _
  exact bSortedX_lst.trans bSorted_l
end DL
end
section
/-! D-layer, part 17: attributes of instances. -/
namespace DL
open PySem L2
variable [DL.Nm]
variable {G : Glb} {X : Cx} {W : WX}
/-- the law's classes: plain ones, none of whose names is fs -/
structure Kls (K : PySem.W.Frag) (ca : Str → Option Addr) (fs : List Str) : Prop where
  ok : ∀ c C, ca c = some C → Cls K C ∧ ∀ f ∈ fs, NoAttr K C f
def fldD (S : Store) (d : D) (f : Str) : Option D := match d with
  | .obj _ ks ds => (ks.zip ds).lookup f
  | .loc l => match S[l]? with
    | some (.ins _ fs) => fs.lookup f
    | _ => none
  | _ => none
/-- e.f -/
def eFld (f : Str) (e : EM) : EM := fun env S => (e env S).bind fun d S => match fldD S d f with
  | some x => .ok x S
  | none => .bad
/-! ### o.f = e -/
def putFD (f : Str) (d : D) : List (Str × D) → List (Str × D)
  | [] => [(f, d)]
  | (g, x) :: r => if g = f then (g, d) :: r else (g, x) :: putFD f d r
def sFldS (f : Str) (o e : EM) : SM := fun env S => (e env S).bindS env fun d S => (o env S).bindS env fun a S => match a with
  | .loc l => match S[l]? with
    | some (.ins c fs) => if fs.length < 1000 then .nx env (S.set l (.ins c (putFD f d fs))) else .bad
    | _ => .bad
  | _ => .bad
section
variable {S : Store} {env : EnvD}
@[simp] theorem eFld_is {f : Str} {e : EM} : eFld f e env S = (e env S).bind fun d S => match fldD S d f with
  | some x => .ok x S
  | none => .bad := rfl
@[simp] theorem sFldS_is {f : Str} {o e : EM} : sFldS f o e env S = (e env S).bindS env fun d S => (o env S).bindS env fun a S => match a with
  | .loc l => match S[l]? with
    | some (.ins c fs) => if fs.length < 1000 then .nx env (S.set l (.ins c (putFD f d fs))) else .bad
    | _ => .bad
  | _ => .bad := rfl
end
end DL
end
section
/-! Instances made where no guard stands below. -/
namespace L2
open PySem PySem.Spec PyProof.Rows
variable [DL.Nm]
section
variable {X : Cx} {k : Nat} {f C : Addr} {fd : FuncData} {ps : List Str} {sp : Sp} {E : St → XK} {x : Str} {p pos : Pos} {e : Expr} {es : List Expr} {t : TA} {CX : CXT}
end
end L2
namespace DL
open PySem L2
variable [DL.Nm]
variable {G : Glb} {X : Cx} {W : WX}
/-- a class of the module; its __init__ has the value F -/
structure ClsG (G : Glb) (P : Program) (w : World) (mg : Str → Option Value) (base : Heap) (k : Nat) (x : Str) (n : Nat) (F : FD) : Prop where
  ex : ∃ C f fd ps, Mk G.K C f ∧ FnG P w G.K mg base (L2.CX P w) k f fd ps (spD G (n + 1) F) ∧ mg x = some (.ref C) ∧ G.ca x = some C ∧ Binds G.K fd ps []
def eMake (c : Str) (F : FD) (f : LM) : EM := fun env S => (f env S).bindE fun ds S1 => match F (.loc S1.length :: ds) (S1 ++ [.ins c []]) with
  | .ok .non S2 => .ok (.loc S1.length) S2
  | .ex x S2 => .ex x S2
  | _ => .bad
end DL
end
section
/-! Instances made with keywords; defs with defaults. -/
namespace L2
open PySem PySem.Spec PyProof.Rows
variable [DL.Nm]
section
variable {P : Program} {w : World} {K : PySem.W.Frag} {mg : Str → Option Value} {base : Heap}
end
section
variable {X : Cx} {CX : CXT} {k n : Nat} {f C : Addr} {fd : FuncData} {ps ks : List Str} {sp : Sp} {E : St → XK} {x : Str} {p pos : Pos} {e : Expr} {es : List Expr} {kws : List Keyword} {t tk : TA} {g : List Value → List Value → List Value} {gV : List V → List V → List V}
end
end L2
namespace DL
open PySem L2
variable [DL.Nm]
variable {G : Glb} {X : Cx} {W : WX}
/-- a class whose __init__ takes n values and keywords ks behind -/
structure ClsK (G : Glb) (P : Program) (w : World) (mg : Str → Option Value) (base : Heap) (k : Nat) (x : Str) (n : Nat) (ks : List Str) (F : FD) : Prop where
  ex : ∃ C f fd ps g, Mk G.K C f ∧ FnG P w G.K mg base (L2.CX P w) k f fd ps (spD G (n + 1 + ks.length) F) ∧ mg x = some (.ref C) ∧ G.ca x = some C ∧ KBn G.K fd ps (n + 1) ks g (fun vs zs => vs ++ zs)
end DL
end
section
/-! D-layer: a def with defaults (an __init__ with keywords), told by its value. -/
namespace DL
open PySem L2 PyProof.Rows
variable [DL.Nm]
end DL
end
section
/-! Defs called with keywords. -/
namespace L2
open PySem PySem.Spec PyProof.Rows
variable [DL.Nm]
section
variable {X : Cx} {CX : CXT} {k n : Nat} {f : Addr} {fd : FuncData} {ps ks : List Str} {sp : Sp} {E : St → XK} {x : Str} {p pos : Pos} {e : Expr} {es : List Expr} {kws : List Keyword} {t tk : TA} {g : List Value → List Value → List Value} {gV : List V → List V → List V}
end
end L2
namespace DL
open PySem L2
variable [DL.Nm]
variable {G : Glb} {X : Cx} {W : WX}
/-- a def called with n values and keywords ks behind, in the parameters' order -/
structure DefK (G : Glb) (P : Program) (w : World) (mg : Str → Option Value) (base : Heap) (k : Nat) (x : Str) (n : Nat) (ks : List Str) (F : FD) : Prop where
  ex : ∃ f fd ps g, FnG P w G.K mg base (L2.CX P w) k f fd ps (spD G (n + ks.length) F) ∧ mg x = some (.ref f) ∧ PySem.W.keepIn G.K (.ref f) = true ∧ KBn G.K fd ps n ks g (fun vs zs => vs ++ zs)
end DL
end
section
/-! Defs called with keywords, some of them left out: the values in the parameters' order. -/
namespace DL
open PySem L2
variable [DL.Nm]
variable {G : Glb} {X : Cx} {W : WX}
/-- a def called with n values and keywords ks: m parameters, their values gD -/
structure DefKN (G : Glb) (P : Program) (w : World) (mg : Str → Option Value) (base : Heap) (k : Nat) (x : Str) (n : Nat) (ks : List Str) (m : Nat) (gD : List D → List D → List D) (F : FD) : Prop where
  ex : ∃ f fd ps g gV, FnG P w G.K mg base (L2.CX P w) k f fd ps (spD G m F) ∧ mg x = some (.ref f) ∧ PySem.W.keepIn G.K (.ref f) = true ∧ KBn G.K fd ps n ks g gV ∧
    ∀ {φ : Fi} {H : Hp} {ds es : List D} {vs zs : List V}, ds.length = n → es.length = ks.length → IsL G φ H ds vs → IsL G φ H es zs → IsL G φ H (gD ds es) (gV vs zs) ∧ (gD ds es).length = m
end DL
end
section
/-! A def with keyword-only defaults, told of K; its calls by keywords. -/
namespace DL
open PySem L2 PyProof.Rows
variable [DL.Nm]
section
variable {K : PySem.W.Frag}
end
/-- data as values: what defaults are -/
def dV : D → V
  | .non => .non
  | .bl b => .bl b
  | .int i => .int i
  | .str x => .str x
  | _ => .non
end DL
end
section
/-! A def with keyword-only defaults: what a call by keywords asks (DefKN). -/
namespace DL
open PySem L2 PyProof.Rows
variable [DL.Nm]
end DL
end
section
/-! D-layer, part 18: text.split(text). -/
namespace DL
open PySem L2
variable [DL.Nm]
variable {G : Glb} {X : Cx} {W : WX}
theorem isL_strs {φ : Fi} {H : Hp} : ∀ xs : List Str, IsL G φ H (xs.map .str) (xs.map V.str)
  | [] => rfl
  | x :: xs => ⟨.str x, _, rfl, rfl, isL_strs xs⟩
def mSplit (o : D) (ds : List D) (S : Store) : ER := match o, ds with
  | .str a, [.str b] => if (b.length == 0) = false ∧ a.length ≤ 10000000 then .ok (.lst ((Txt.split a b).map .str)) S else .bad
  | _, _ => .bad
theorem dm_split : DMeth G X "str.split" mSplit := by
  refine ⟨_, mt_split, fun W φ S H σ dx ds x xs Q s ix ids h => ?_⟩
  unfold mSplit at h
  split at h
  · rename_i a b
    obtain ⟨y, rfl, k⟩ := IsL.inv1 ids
    cases (show y = _ from k)
    split at h
    · rename_i c
      refine ⟨a, b, ix, rfl, c.1, by rw [sizeLine_eq]; omega, ?_⟩
      intro p hp
      exact lst_new s (isL_strs _) h hp
    · exact bad_no h
  · exact bad_no h
end DL
end
section
/-! D-layer, part 19: list(d.items()), d a dict that may be locked. -/
namespace DL
open PySem PySem.Spec PyProof.Rows L2
variable [DL.Nm]
section
variable {X : Cx} {e : Expr} {te : TE} {p apos cpos pos : Pos}
end
variable {G : Glb} {X : Cx} {W : WX}
theorem Ext.grown {φ : Fi} {H H' : Hp} (h : ∀ b o, H b = some o → H' b = some o) : Ext φ H φ H' :=
  ⟨⟨[], by simp, fun _ q => by simp at q⟩, rfl, fun b o _ e => .inl (.inl (h b o e))⟩
end DL
end
section
/-! Own classes: isinstance with both answers, methods. -/
namespace L2
open PySem PySem.Spec PyProof.Rows
variable [DL.Nm]
/-- types, wider still -/
inductive TyZ (K : PySem.W.Frag) (H : Hp) : V → Value → Prop where
  | x {v : V} {t : Value} (h : TyX K H v t) : TyZ K H v t
  | fT {a : Addr} {o : Obj} {kvs : List (List Key × V)} (e : H a = some (.frz o (.dT kvs))) : TyZ K H (.ref a) (.type "dict")
theorem kit_ofZ {X : Cx} {pins : List (Addr × Obj)} {σ : St} {H : Hp} {s : Shared} {v : V} {u t : Value} (I : Inv X pins σ H s) (rx : RelV v u) (ty : TyZ X.K H v t) : ∃ P : Heap → Prop, PySem.W.KitX X.K u t P ∧ P s.heap ∧ u ≠ .builtin "__main__.__loader__#opaque" := by
  cases ty with
  | x h => exact kit_of I rx h
  | @fT a ob kvs ea =>
    cases (show u = Value.ref a from rx)
    obtain ⟨_, q⟩ := I.hok a _ ea
    obtain ⟨_, _, xs, _, o, es, ep, h1, h2, _⟩ := (show ObjOk X.prog X.w H s.heap a (.dT kvs) from q)
    exact ⟨_, PySem.W.kitx_dict, ⟨o, h1, h2.1⟩, fun z => nomatch z⟩
def rIsZ (K : PySem.W.Frag) : List V → Hp → VK → Prop := fun xs H Q => ∃ (x c : V) (t u : Value) (b : Bool), xs = [x, c] ∧ ClsV c u ∧ TyZ K H x t ∧ PySem.W.kitOne K t u = some b ∧ Q (.bl b) H
def rIsZT (K : PySem.W.Frag) : List V → Hp → VK → Prop := fun xs H Q => ∃ (x : V) (tp : Addr) (cs : List V) (t : Value) (us : List Value) (b : Bool), xs = [x, .ref tp] ∧ H tp = some (.tup cs) ∧ Paired ClsV cs us ∧ TyZ K H x t ∧ PySem.W.kitAny K t us = some b ∧ Q (.bl b) H
section
variable {X : Cx}
theorem call_isZ : CallR X (.builtin "isinstance") (rIsZ X.K) := by
  intro pins s σ H xs us Q I r h
  obtain ⟨x, c, t, u, b, rfl, k, ty, e, q⟩ := h
  obtain ⟨w1, w2, rfl, p1, p2⟩ := vals2 r
  cases k.eq p2
  obtain ⟨P, Z, p, hx⟩ := kit_ofZ I p1 ty
  exact PySem.W.kia_one Z I.kIn p e hx fun tk => ⟨.bl b, H, I.tok tk, rfl, q⟩
theorem call_isZT : CallR X (.builtin "isinstance") (rIsZT X.K) := by
  intro pins s σ H xs us Q I r h
  obtain ⟨x, tp, cs, t, ws, b, rfl, hT, k, ty, e, q⟩ := h
  obtain ⟨w1, w2, rfl, p1, p2⟩ := vals2 r
  cases (show w2 = Value.ref tp from p2)
  obtain ⟨P, Z, p, hx⟩ := kit_ofZ I p1 ty
  obtain ⟨_, its, rv, o, h1, h2, n, h3⟩ := (show ObjOk X.prog X.w H s.heap tp (.tup cs) from I.hok tp _ hT)
  cases ClsV.all k rv
  obtain ⟨oc, od, dt, sl⟩ := o
  dsimp only at h2 h3
  subst h2 h3
  exact PySem.W.kia_tup Z I.kIn p h1 e hx fun tk => ⟨.bl b, H, I.tok tk, rfl, q⟩
end
/-! ### methods, where no guard stands below -/
section
variable {X : Cx} {CX : CXT} {k : Nat} {m : Str} {E : St → XK} {pos apos : Pos} {e o : Expr} {es : List Expr} {ta : TE} {t : TA} {Ok : Addr → Addr → Sp → Prop}
end
end L2
namespace DL
open PySem L2
variable [DL.Nm]
variable {G : Glb} {X : Cx} {W : WX}
/-! ### isinstance -/
/-- built-in types, own classes, own exceptions, built-in exceptions -/
inductive TyD where
  | b (t : Ty) | o (c : Str) | x (c : Str)
def ClD (G : Glb) : TyD → Value → Prop
  | .b t, v => v = .type t.nm
  | .o c, v => ∃ C, G.ca c = some C ∧ v = .ref C
  | .x _, _ => False
/-- what isinstance asks of an own class -/
structure OwnC (K : PySem.W.Frag) (C : Addr) : Prop where
  cl : Cls K C
  ha : PySem.W.findIn K (.ref C) "__class__" = some (some (.builtin "object.__class__"))
  hn : PySem.W.specialIn K (.builtin "object.__class__") "__get__" = some (some (.builtin "getset_descriptor.__get__"))
  ht : PySem.W.takesIn K (.builtin "object.__class__") = some true
  hm : PySem.W.mroIn K C (.type "object") = some true
def tyO (S : Store) : D → Option TyD
  | .obj c _ _ => some (.o c)
  | .dct _ _ => some (.b .dict)
  | .loc l => match S[l]? with
    | some (.ins c _) => some (.o c)
    | some (.lst _) => some (.b .list)
    | some (.dic _) => some (.b .dict)
    | some (.dct _) => some (.b .dict)
    | some (.lck _ _) => none
    | none => none
  | d => (tyOf S d).map .b
theorem tyO_is (hc : ∀ c C, G.ca c = some C → OwnC G.K C) {φ : Fi} {S : Store} {H : Hp} {d : D} {v : V} {t : TyD} (s : SOk G φ S H) (i : Is G φ H d v) (e : tyO S d = some t) : ∃ tv, ClD G t tv ∧ TyZ G.K H v tv := by
  have old : ∀ {d : D} {v : V}, Is G φ H d v → (tyOf S d).map TyD.b = some t → ∃ tv, ClD G t tv ∧ TyZ G.K H v tv := fun i e => by
    obtain ⟨a, e1, e2⟩ := Option.map_eq_some_iff.mp e
    subst e2
    exact ⟨_, rfl, .x (tyOf_is s i e1)⟩
  have own : ∀ {c : Str} {C a dx : Addr} {fs : List (Str × V)}, G.ca c = some C → H a = some (.ins C dx fs) → ∃ tv, ClD G (.o c) tv ∧ TyZ G.K H (.ref a) tv := fun {c C a dx fs} h1 h2 => by
    have q := hc c C h1
    exact ⟨_, ⟨C, h1, rfl⟩, .x (.base (.ins h2 q.cl q.ha q.hn q.ht q.hm))⟩
  cases d with
  | obj c ks ds =>
    cases e
    obtain ⟨a, C, dx, fs, rfl, ⟨_, h⟩, h1, _⟩ := i
    exact own h1 h
  | dct ks ds =>
    cases e
    obtain ⟨a, xs, rfl, ⟨_, r | ⟨o, r⟩⟩, _⟩ := i
    · exact ⟨_, rfl, .x (.base (.dT r))⟩
    · exact ⟨_, rfl, .fT r⟩
  | loc l =>
    simp only [tyO] at e
    split at e
    · rename_i c fs hl
      cases e
      obtain ⟨a, ha, rfl⟩ := i
      obtain ⟨C, dx, ws, h1, h2, _⟩ := s.at_ hl ha
      exact own h1 h2
    all_goals first | (cases e; done) | (rename_i hl; exact old (d := .loc l) i (by simp only [tyOf]; rw [hl]; exact e))
  | exn c ks ds => cases e
  | tpl ds => exact old i e
  | non => exact old i e
  | bl b => exact old i e
  | int b => exact old i e
  | str b => exact old i e
  | tup b => exact old i e
  | lst b => exact old i e
  | dic ks b => exact old i e
/-- what a class says of things -/
structure IsT (G : Glb) (u : Value) (tab : TyD → Option Bool) : Prop where
  ok : ∀ t tv r, ClD G t tv → tab t = some r → PySem.W.kitOne G.K tv u = some r
def tabB (b : Ty) : TyD → Option Bool
  | .b t => some (t.isa b)
  | _ => some false
def tabO (c0 : Str) : TyD → Option Bool
  | .o c => some (decide (c = c0))
  | _ => some false
theorem kit_ref {K : PySem.W.Frag} {C : Addr} {t : Value} {b : Bool} (h1 : PySem.W.isClsIn K C = true) (h2 : PySem.W.typeIn K (.ref C) = some (.type "type")) (h3 : PySem.W.subIn K t (.ref C) = some b) (h4 : t = .ref C → b = true) : PySem.W.kitOne K t (.ref C) = some b := by
  unfold PySem.W.kitOne
  split
  · rename_i z
    rw [h4 (beq_iff_eq.mp z)]
  · unfold PySem.W.kitCls
    dsimp only
    rw [if_pos]
    · exact h3
    · rw [Bool.and_eq_true]
      exact ⟨h1, beq_iff_eq.mpr h2⟩
theorem kit_type {K : PySem.W.Frag} {C : Addr} {T : String} {b : Bool} (hT : PySem.W.kitMeta T = true) (h3 : PySem.W.mroIn K C (.type T) = some b) : PySem.W.kitOne K (.ref C) (.type T) = some b := by
  unfold PySem.W.kitOne
  rw [if_neg (by intro z; exact nomatch beq_iff_eq.mp z)]
  unfold PySem.W.kitCls
  dsimp only
  rw [if_pos hT]
  exact h3
theorem isT_b (b : Ty) (hb : b ≠ .none) (ho : ∀ c C, G.ca c = some C → PySem.W.mroIn G.K C (.type b.nm) = some false) : IsT G (.type b.nm) (tabB b) := by
  have hM : PySem.W.kitMeta b.nm = true := by cases b <;> first | exact absurd rfl hb | decide +kernel
  refine ⟨fun t tv r h1 h2 => ?_⟩
  cases t with
  | b t => cases (show tv = _ from h1); cases h2; exact kit_ty (ty_kit t b hb)
  | o c => obtain ⟨C, e1, rfl⟩ := h1; cases h2; exact kit_type hM (ho c C e1)
  | x c => exact False.elim h1
theorem ca_all {l : List (Str × Addr)} {P : Str → Addr → Prop} (h : ∀ p ∈ l, P p.1 p.2) : ∀ c C, l.lookup c = some C → P c C := by
  intro c C e
  induction l with
  | nil => cases e
  | cons p r ih =>
    obtain ⟨c1, C1⟩ := p
    rw [List.lookup_cons] at e
    cases hb : c == c1 with
    | true =>
      rw [hb] at e; cases e
      have : c = c1 := beq_iff_eq.mp hb
      subst this
      exact h _ List.mem_cons_self
    | false => rw [hb] at e; exact ih (fun p hp => h p (List.mem_cons_of_mem _ hp)) e
def eIsC (tab : TyD → Option Bool) (f : EM) : EM := fun env S => (f env S).bind fun d S => match (tyO S d).bind tab with
  | some b => .ok (.bl b) S
  | none => .bad
/-- a class, written by its name -/
structure CName (X : Cx) (x : Str) (v : V) (u : Value) : Prop where
  pe : ∀ pos : Pos, PE X (.Name x pos) (tC v)
  cv : ClsV v u
theorem cn_ty {x : Str} {T : String} (hg : Gl X x) (hm : X.mg x = none) (hv : bootBuiltins x = some (.type T)) (hn : x ≠ "__name__" := by decide) (hdb : (x == ("__debug__" : Str)) = false := by decide) : CName X x (.ty T) (.type T) :=
  ⟨fun _ => pe_bltn hg hm hv rfl hn hdb, .ty T⟩
theorem cn_own {x : Str} {C : Addr} (hg : Gl X x) (hm : X.mg x = some (.ref C)) (hd : (x == ("__debug__" : Str)) = false := by decide) : CName X x (.ref C) (.ref C) :=
  ⟨fun _ => pe_glob hg hm rfl hd, .own C⟩
theorem de_isC {x : Str} {v : V} {u : Value} {tab : TyD → Option Bool} {e : Expr} {p p2 pos : Pos} {f : EM} (hK : X.K = G.K) (hc : ∀ c C, G.ca c = some C → OwnC G.K C) (ist : IsT G u tab) (cn : CName X x v u) (hg : Gl X "isinstance") (hm : X.mg "isinstance" = none) (he : DE G X W e f)
    (hst : starEach [e, .Name x p2] X.env = (false, eval e X.env) :: starEach [.Name x p2] X.env := by rfl) (hst2 : starEach [.Name x p2] X.env = (false, eval (.Name x p2) X.env) :: starEach [] X.env := by rfl) (hpl : (backTo pos (starEach [.Name x p2] X.env)).any (·.1) = false := by rfl) :
    DE G X W (.Call (.Name "isinstance" p) [e, .Name x p2] [] pos) (eIsC tab f) := by
  obtain ⟨t, pt, qt⟩ := he
  refine ⟨_, pe_callB call_isZ hg hm (by decide +kernel) (pa_cons pt (pa_cons (cn.pe p2) pa_nil hst2) hst) (by decide) (by decide) hst hpl, fun σ H env φ S Q s re h => ?_⟩
  refine qt σ H env φ S _ s re (PostE.bind h fun d S1 φ1 H1 y e1 s1 i1 h1 => ?_)
  split at h1
  · rename_i b hb
    obtain ⟨t, ht, hb⟩ := Option.bind_eq_some_iff.mp hb
    obtain ⟨tv, c1, c2⟩ := tyO_is hc s1 i1 ht
    exact ⟨y, v, tv, u, b, rfl, cn.cv, by rw [hK]; exact c2, by rw [hK]; exact ist.ok t tv b c1 hb, h1.now s1 rfl⟩
  · exact False.elim h1
def tabF : TyD → Option Bool := fun _ => some false
def tabOr (a b : TyD → Option Bool) : TyD → Option Bool := fun t => match a t with
  | some true => some true
  | some false => b t
  | none => none
@[simp] theorem tabF_is {t : TyD} : tabF t = some false := rfl
@[simp] theorem tabOr_is {a b : TyD → Option Bool} {t : TyD} : tabOr a b t = match a t with
  | some true => some true
  | some false => b t
  | none => none := rfl
/-- isinstance(e, (A, B, ..)) -/
inductive CNames (G : Glb) (X : Cx) : List Expr → List V → List Value → (TyD → Option Bool) → Prop where
  | nil : CNames G X [] [] [] tabF
  | cons {x : Str} {pos : Pos} {v : V} {u : Value} {tab tab2 : TyD → Option Bool} {es : List Expr} {vs : List V} {us : List Value} (cn : CName X x v u) (ist : IsT G u tab) (r : CNames G X es vs us tab2)
      (hs : starEach (.Name x pos :: es) X.env = (false, eval (.Name x pos) X.env) :: starEach es X.env := by rfl) : CNames G X (.Name x pos :: es) (v :: vs) (u :: us) (tabOr tab tab2)
theorem CNames.pa {es : List Expr} {vs : List V} {us : List Value} {tab : TyD → Option Bool} (c : CNames G X es vs us tab) : ∃ t, PA X es t ∧ ∀ σ H Q, Q vs H → t σ H Q := by
  induction c with
  | nil => exact ⟨_, pa_nil, fun _ _ _ h => h⟩
  | cons cn ist r hs ih =>
    obtain ⟨t, h1, h2⟩ := ih
    exact ⟨_, pa_cons (cn.pe _) h1 hs, fun σ H Q h => h2 σ H _ h⟩
theorem CNames.vs {es : List Expr} {vs : List V} {us : List Value} {tab : TyD → Option Bool} (c : CNames G X es vs us tab) : Paired ClsV vs us := by
  induction c with
  | nil => exact .nil
  | cons cn ist r hs ih => exact .cons cn.cv ih
theorem CNames.len {es : List Expr} {vs : List V} {us : List Value} {tab : TyD → Option Bool} (c : CNames G X es vs us tab) : vs.length = es.length := by
  induction c with
  | nil => rfl
  | cons cn ist r hs ih => simp [ih]
theorem CNames.any {es : List Expr} {vs : List V} {us : List Value} {tab : TyD → Option Bool} (c : CNames G X es vs us tab) : ∀ {t : TyD} {tv : Value} {b : Bool}, ClD G t tv → tab t = some b → PySem.W.kitAny G.K tv us = some b := by
  induction c with
  | nil => intro t tv b _ h; cases h; rfl
  | @cons x pos v u tab tab2 es vs us cn ist r hs ih =>
    intro t tv b h1 h2
    unfold PySem.W.kitAny
    unfold tabOr at h2
    cases h3 : tab t with
    | none => rw [h3] at h2; cases h2
    | some b1 =>
      rw [h3] at h2
      rw [ist.ok t tv b1 h1 h3]
      cases b1 with
      | true => exact h2
      | false => exact ih h1 h2
theorem de_isCs {es : List Expr} {vs : List V} {us : List Value} {tab : TyD → Option Bool} {e : Expr} {kt} {p p4 pos : Pos} {f : EM} (hK : X.K = G.K) (hc : ∀ c C, G.ca c = some C → OwnC G.K C) (cn : CNames G X es vs us tab) (hl : es.length ≤ 16777216) (hg : Gl X "isinstance") (hm : X.mg "isinstance" = none) (he : DE G X W e f)
    (hst : starEach [e, .Tuple es kt p4] X.env = (false, eval e X.env) :: starEach [.Tuple es kt p4] X.env := by rfl)
    (hst2 : starEach [.Tuple es kt p4] X.env = (false, eval (.Tuple es kt p4) X.env) :: starEach [] X.env := by rfl) (hpl : (backTo pos (starEach [.Tuple es kt p4] X.env)).any (·.1) = false := by rfl) :
    DE G X W (.Call (.Name "isinstance" p) [e, .Tuple es kt p4] [] pos) (eIsC tab f) := by
  obtain ⟨t, pt, qt⟩ := he
  obtain ⟨tt, ptt, qtt⟩ := cn.pa
  refine ⟨_, pe_callB call_isZT hg hm (by decide +kernel) (pa_cons pt (pa_cons (pe_tup ptt) pa_nil hst2) hst) (by decide) (by decide) hst hpl, fun σ H env φ S Q s re h => ?_⟩
  refine qt σ H env φ S _ s re (PostE.bind h fun d S1 φ1 H1 y e1 s1 i1 h1 => ?_)
  split at h1
  · rename_i b hb
    obtain ⟨t, ht, hb⟩ := Option.bind_eq_some_iff.mp hb
    refine qtt _ _ _ ⟨by rw [cn.len]; exact sizeLine_is hl, fun p hp => ?_⟩
    have e2 : Ext φ1 H1 φ1 (upd H1 p (.tup vs)) := .laid hp
    have s2 := s1.laid (o := .tup vs) hp
    obtain ⟨tv, c1, c2⟩ := tyO_is hc s2 (i1.ext e2) ht
    exact ⟨y, p, vs, tv, us, b, rfl, upd_same, cn.vs, by rw [hK]; exact c2, by rw [hK]; exact cn.any c1 hb, PostE.now (PostE.ext (r := .ok (.bl b) S1) e2 h1) s2 rfl⟩
  · exact False.elim h1
section
variable {S : Store} {env : EnvD}
@[simp] theorem eIsC_is {tab : TyD → Option Bool} {f : EM} : eIsC tab f env S = (f env S).bind fun d S => match (tyO S d).bind tab with
  | some b => .ok (.bl b) S
  | none => .bad := rfl
@[simp] theorem tyO_obj {c ks ds} : tyO S (.obj c ks ds) = some (.o c) := rfl
@[simp] theorem tyO_non : tyO S .non = some (.b .none) := rfl
@[simp] theorem tyO_bl {b} : tyO S (.bl b) = some (.b .bool) := rfl
@[simp] theorem tyO_int {b} : tyO S (.int b) = some (.b .int) := rfl
@[simp] theorem tyO_str {b} : tyO S (.str b) = some (.b .str) := rfl
@[simp] theorem tyO_tup {b} : tyO S (.tup b) = some (.b .tuple) := rfl
@[simp] theorem tyO_lst {b} : tyO S (.lst b) = some (.b .list) := rfl
@[simp] theorem tyO_dic {k b} : tyO S (.dic k b) = some (.b .dict) := rfl
@[simp] theorem tyO_dct {k b} : tyO S (.dct k b) = some (.b .dict) := rfl
@[simp] theorem tyO_loc {l : Nat} : tyO S (.loc l) = match cel S l with
    | some (.ins c _) => some (.o c)
    | some (.lst _) => some (.b .list)
    | some (.dic _) => some (.b .dict)
    | some (.dct _) => some (.b .dict)
    | some (.lck _ _) => none
    | none => none := rfl
@[simp] theorem tabB_b {a b : Ty} : tabB b (.b a) = some (a.isa b) := rfl
@[simp] theorem tabB_o {c} {b : Ty} : tabB b (.o c) = some false := rfl
@[simp] theorem tabB_x {c} {b : Ty} : tabB b (.x c) = some false := rfl
@[simp] theorem tabO_b {a : Ty} {c} : tabO c (.b a) = some false := rfl
@[simp] theorem tabO_o {c c'} : tabO c (.o c') = some (decide (c' = c)) := rfl
@[simp] theorem tabO_x {c c'} : tabO c (.x c') = some false := rfl
end
end DL
end
section
/-! Methods of own classes and new instances, over data. -/
namespace L2
open PySem PySem.Spec PyProof.Rows
variable [DL.Nm]
section
variable {X : Cx} {k : Nat} {f C : Addr} {fd : FuncData} {ps : List Str} {sp : Sp} {E : St → XK} {x : Str} {p pos : Pos} {CX : CXT}
end
end L2
namespace DL
open PySem L2
variable [DL.Nm]
variable {G : Glb} {X : Cx} {W : WX}
/-! ### o.f, o.f = e where the classes are told -/
structure FldOk (G : Glb) (f : Str) (cs : List Str) : Prop where
  ok : ∀ c ∈ cs, ∀ C, G.ca c = some C → Cls G.K C ∧ NoAttr G.K C f
def fldC (S : Store) (d : D) (f : Str) : Option (Str × D) := match d with
  | .obj c ks ds => ((ks.zip ds).lookup f).map fun x => (c, x)
  | .loc l => match S[l]? with
    | some (.ins c fs) => (fs.lookup f).map fun x => (c, x)
    | _ => none
  | _ => none
def eFldC (cs : List Str) (f : Str) (e : EM) : EM := fun env S => (e env S).bind fun d S => match fldC S d f with
  | some (c, x) => if c ∈ cs then .ok x S else .bad
  | none => .bad
def sFldC (cs : List Str) (f : Str) (o e : EM) : SM := fun env S => (e env S).bindS env fun d S => (o env S).bindS env fun a S => match a with
  | .loc l => match S[l]? with
    | some (.ins c fs) => if c ∈ cs ∧ fs.length < 1000 then .nx env (S.set l (.ins c (putFD f d fs))) else .bad
    | _ => .bad
  | _ => .bad
/-! ### o.m(..) -/
structure MethG (G : Glb) (P : Program) (w : World) (mg : Str → Option Value) (base : Heap) (k : Nat) (c m : Str) (n : Nat) (F : FD) : Prop where
  ex : ∃ C f fd ps, G.ca c = some C ∧ Cls G.K C ∧ Meth G.K C m f ∧ FnG P w G.K mg base (L2.CX P w) k f fd ps (spD G (n + 1) F) ∧ Binds G.K fd ps []
/-- the class of an instance, its attributes' names -/
def insD (S : Store) (d : D) : Option (Str × List Str) := match d with
  | .obj c ks ds => if ks.length = ds.length then some (c, ks) else none
  | .loc l => match S[l]? with
    | some (.ins c fs) => some (c, fs.map (·.1))
    | _ => none
  | _ => none
def eMethO (c m : Str) (F : FD) (o : EM) (f : LM) : EM := fun env S => (o env S).bind fun x S => match insD S x with
  | some (c', ks) => if c' = c ∧ m ∉ ks then (f env S).bindE fun ds S => F (x :: ds) S else .bad
  | none => .bad
/-! ### C() and C(.., k = v) with keywords left out -/
/-- m: how many values __init__ takes beside self; gD: these from what is written -/
structure ClsKN (G : Glb) (P : Program) (w : World) (mg : Str → Option Value) (base : Heap) (k : Nat) (x : Str) (n : Nat) (ks : List Str) (m : Nat) (gD : List D → List D → List D) (F : FD) : Prop where
  ex : ∃ C f fd ps g gV, Mk G.K C f ∧ FnG P w G.K mg base (L2.CX P w) k f fd ps (spD G m F) ∧ mg x = some (.ref C) ∧ G.ca x = some C ∧ KBn G.K fd ps (n + 1) ks g gV ∧
    ∀ {φ : Fi} {H : Hp} {ds es : List D} {vs zs : List V}, ds.length = n + 1 → es.length = ks.length → IsL G φ H ds vs → IsL G φ H es zs → IsL G φ H (gD ds es) (gV vs zs) ∧ (gD ds es).length = m
def eMakeKN (c : Str) (gD : List D → List D → List D) (F : FD) (f fk : LM) : EM := fun env S => (f env S).bindE fun ds S0 => (fk env S0).bindE fun es S1 => match F (gD (.loc S1.length :: ds) es) (S1 ++ [.ins c []]) with
  | .ok .non S2 => .ok (.loc S1.length) S2
  | .ex x S2 => .ex x S2
  | _ => .bad
section
variable {S : Store} {env : EnvD}
@[simp] theorem eFldC_is {cs : List Str} {f : Str} {e : EM} : eFldC cs f e env S = (e env S).bind fun d S => match fldC S d f with
  | some (c, x) => if c ∈ cs then .ok x S else .bad
  | none => .bad := rfl
@[simp] theorem sFldC_is {cs : List Str} {f : Str} {o e : EM} : sFldC cs f o e env S = (e env S).bindS env fun d S => (o env S).bindS env fun a S => match a with
  | .loc l => match S[l]? with
    | some (.ins c fs) => if c ∈ cs ∧ fs.length < 1000 then .nx env (S.set l (.ins c (putFD f d fs))) else .bad
    | _ => .bad
  | _ => .bad := rfl
@[simp] theorem eMethO_is {c m : Str} {F : FD} {o : EM} {f : LM} : eMethO c m F o f env S = (o env S).bind fun x S => match insD S x with
  | some (c', ks) => if c' = c ∧ m ∉ ks then (f env S).bindE fun ds S => F (x :: ds) S else .bad
  | none => .bad := rfl
@[simp] theorem eMake_is {c : Str} {F : FD} {f : LM} : eMake c F f env S = (f env S).bindE fun ds S1 => match F (.loc S1.length :: ds) (S1 ++ [.ins c []]) with
  | .ok .non S2 => .ok (.loc S1.length) S2
  | .ex x S2 => .ex x S2
  | _ => .bad := rfl
@[simp] theorem eMakeKN_is {c : Str} {gD : List D → List D → List D} {F : FD} {f fk : LM} : eMakeKN c gD F f fk env S = (f env S).bindE fun ds S0 => (fk env S0).bindE fun es S1 => match F (gD (.loc S1.length :: ds) es) (S1 ++ [.ins c []]) with
  | .ok .non S2 => .ok (.loc S1.length) S2
  | .ex x S2 => .ex x S2
  | _ => .bad := rfl
end
end DL
end
section
/-! sorted of lists of tuples of ints and texts of one form, any number of them. -/
namespace L2
open PySem PySem.Spec PyProof.Rows
variable [DL.Nm]
/-! the order of keys and of tuples of keys -/
def ltK1 : Key → Key → Bool
  | .inl a, .inl b => decide (a < b)
  | .inr a, .inr b => decide (a.cps.toList < b.cps.toList)
  | .inl _, .inr _ => true
  | .inr _, .inl _ => false
def ltKs : List Key → List Key → Bool
  | _, [] => false
  | [], _ :: _ => true
  | a :: as, b :: bs => if a = b then ltKs as bs else ltK1 a b
/-- a strict order of all things -/
structure Lin {α : Type} (lt : α → α → Bool) : Prop where
  irr : ∀ a, lt a a = false
  tr : ∀ a b c, lt a b = true → lt b c = true → lt a c = true
  tri : ∀ a b, lt a b = false → lt b a = false → a = b
theorem Lin.asym {α : Type} {lt : α → α → Bool} (L : Lin lt) {a b : α} (h : lt a b = true) : lt b a = false := by
  cases e : lt b a with
  | false => rfl
  | true => have := L.tr a b a h e; rw [L.irr] at this; cases this
theorem Lin.swo {α : Type} {lt : α → α → Bool} (L : Lin lt) : SrtO.Swo lt := by
  refine ⟨fun x y h => L.asym h, fun x y z h1 h2 => ?_⟩
  cases e : lt z x with
  | false => rfl
  | true =>
    cases e2 : lt x y with
    | true => rw [L.tr z x y e e2] at h2; cases h2
    | false => cases L.tri x y e2 h1; rw [e] at h2; cases h2
theorem Lin.map {α β : Type} {lt : β → β → Bool} (L : Lin lt) (f : α → β) : SrtO.Swo fun x y => lt (f x) (f y) := ⟨fun x y h => L.swo.asym _ _ h, fun x y z h1 h2 => L.swo.tr _ _ _ h1 h2⟩
/-- the kind of a key -/
def isS : Key → Bool
  | .inl _ => false
  | .inr _ => true
section
variable {prog : Program} {w : World} {A : Around} {E : Value → Shared → Prop} {s : Shared}
def IsKT (h : Heap) (v : Value) (ks : List Key) : Prop := ∃ a o its n, v = .ref a ∧ h.get? a = some o ∧ o.cls = .type "tuple" ∧ o.data = .seq its n ∧ Vals (ks.map kV) its.toList
theorem IsKT.keeps {h h' : Heap} {v : Value} {ks : List Key} (p : IsKT h v ks) (k : ∀ b o, h.get? b = some o → o.cls = .type "tuple" → h'.get? b = some o) : IsKT h' v ks := by
  obtain ⟨a, o, its, n, e, ho, hc, hd⟩ := p
  exact ⟨a, o, its, n, e, k _ _ ho hc, hc, hd⟩
end
end L2
namespace DL
open PySem L2
variable [DL.Nm]
variable {G : Glb} {X : Cx} {W : WX}
def kysD : List D → Option (List Key)
  | [] => some []
  | d :: ds => (keyD d).bind fun k => (kysD ds).map (k :: ·)
def tupK : D → Option (List Key)
  | .tup ds => kysD ds
  | _ => none
def tK (ks : List Key) : D := .tup (ks.map dKey)
theorem keyD_d (k : Key) : keyD (dKey k) = some k := by cases k <;> rfl
theorem kysD_d : ∀ ks : List Key, kysD (ks.map dKey) = some ks
  | [] => rfl
  | k :: ks => by
    show (keyD (dKey k)).bind (fun k' => (kysD (ks.map dKey)).map (k' :: ·)) = _
    rw [keyD_d, kysD_d ks]; rfl
theorem tupK_t (ks : List Key) : tupK (tK ks) = some ks := kysD_d ks
theorem optL_map {α β : Type} {f : α → Option β} {g : β → α} (hf : ∀ b, f (g b) = some b) : ∀ m : List β, optL f (m.map g) = some m
  | [] => rfl
  | b :: m => by
    show ((f (g b)).bind fun b => (optL f (m.map g)).map (b :: ·)) = _
    rw [hf, optL_map hf m]; rfl
def leKs (a b : List Key) : Bool := !ltKs b a
def sortKs (l : List (List Key)) : List (List Key) := l.mergeSort leKs
/-- of one form, not the empty one -/
def oneForm : List (List Key) → Bool
  | [] => true
  | k :: ks => !k.isEmpty && ks.all fun l => l.map isS == k.map isS
/-- lists of tuples of keys, beside what was sorted so far -/
def bSortedZ (ds : List D) (S : Store) : ER := match ds with
  | [d] => match (listD S d).bind (optL tupK) with
    | some (k :: kss) => if oneForm (k :: kss) then .ok (.lst ((sortKs (k :: kss)).map tK)) S else .bad
    | _ => bSortedY [d] S
  | ds => bSortedY ds S
section
variable {S : Store}
@[simp] theorem bSortedZ_l {kss : List (List Key)} (h : oneForm kss = true) (h0 : kss ≠ []) : bSortedZ [.lst (kss.map tK)] S = .ok (.lst ((sortKs kss).map tK)) S := by
  unfold bSortedZ
  dsimp only
  rw [show (listD S (.lst (kss.map tK))).bind (optL tupK) = some kss from optL_map tupK_t kss]
  cases kss with
  | nil => exact absurd rfl h0
  | cons k kss => dsimp only; rw [if_pos h]
end
end DL
end
section
/-! x or y, x and y by truth; the module's own tuples and dicts. -/
namespace DL
open PySem L2 PyProof.Rows
variable [DL.Nm]
variable {G : Glb} {X : Cx} {W : WX}
/-! ### x or y -/
/-- the truth of a thing -/
def truX (S : Store) : D → Option Bool
  | .non => some false
  | .bl b => some b
  | .int i => some (i != 0)
  | .tup ds => some (!ds.isEmpty)
  | .lst ds => some (!ds.isEmpty)
  | .loc l => match S[l]? with
    | some (.lst ds) => some (!ds.isEmpty)
    | some (.dic kvs) => some (!kvs.isEmpty)
    | _ => none
  | _ => none
def eOrT (f g : EM) : EM := fun env S => (f env S).bind fun d S => match truX S d with
  | some true => .ok d S
  | some false => g env S
  | none => .bad
def eAndT (f g : EM) : EM := fun env S => (f env S).bind fun d S => match truX S d with
  | some true => g env S
  | some false => .ok d S
  | none => .bad
/-! ### tuples of the module -/
structure KTup (K : PySem.W.Frag) (a : Addr) (xs : List V) : Prop where
  ex : ∃ (o : Obj) (its : Array Value) (n : Nat), K.lookup a = some o ∧ o.cls = .type "tuple" ∧ o.data = .seq its n ∧ its.size ≤ sizeLine ∧ Vals xs its.toList
/-! ### dicts of the module, by texts -/
structure KTab (K : PySem.W.Frag) (w : World) (a : Addr) (tab : List (Str × D)) : Prop where
  ex : ∃ es n, KDict K w a es n
  get : ∀ z : Str, ∃ r : Option Value, PySem.W.nsIn K a z = some r ∧ match tab.lookup z with
    | some d => ∃ u, r = some u ∧ RelV (dV d) u ∧ flatD d = true
    | none => r = none
def eGIx (tab : List (Str × D)) (f : EM) : EM := fun env S => (f env S).bind fun d S => match d with
  | .str z => match tab.lookup z with
    | some x => .ok x S
    | none => .bad
  | _ => .bad
def eGIn (neg : Bool) (tab : List (Str × D)) (f : EM) : EM := fun env S => (f env S).bind fun d S => match d with
  | .str z => .ok (.bl (if neg then !(tab.lookup z).isSome else (tab.lookup z).isSome)) S
  | _ => .bad
section
variable {S : Store} {env : EnvD}
@[simp] theorem eOrT_is {f g : EM} : eOrT f g env S = (f env S).bind fun d S => match truX S d with
  | some true => .ok d S
  | some false => g env S
  | none => .bad := rfl
@[simp] theorem eAndT_is {f g : EM} : eAndT f g env S = (f env S).bind fun d S => match truX S d with
  | some true => g env S
  | some false => .ok d S
  | none => .bad := rfl
@[simp] theorem eGIx_is {tab : List (Str × D)} {f : EM} : eGIx tab f env S = (f env S).bind fun d S => match d with
  | .str z => match tab.lookup z with
    | some x => .ok x S
    | none => .bad
  | _ => .bad := rfl
@[simp] theorem eGIn_is {neg : Bool} {tab : List (Str × D)} {f : EM} : eGIn neg tab f env S = (f env S).bind fun d S => match d with
  | .str z => .ok (.bl (if neg then !(tab.lookup z).isSome else (tab.lookup z).isSome)) S
  | _ => .bad := rfl
@[simp] theorem truX_t {ds} : truX S (.tup ds) = some (!ds.isEmpty) := rfl
@[simp] theorem truX_l {ds} : truX S (.lst ds) = some (!ds.isEmpty) := rfl
@[simp] theorem truX_c {l : Nat} : truX S (.loc l) = match cel S l with
    | some (.lst ds) => some (!ds.isEmpty)
    | some (.dic kvs) => some (!kvs.isEmpty)
    | _ => none := rfl
end
end DL
namespace DL
open PySem L2
variable [DL.Nm]
theorem mem_nil {α : Type} {P : α → Prop} : ∀ p ∈ ([] : List α), P p := fun _ h => by cases h
theorem mem_con {α : Type} {P : α → Prop} {a : α} {l : List α} (h : P a) (r : ∀ p ∈ l, P p) : ∀ p ∈ a :: l, P p := fun p hp => by
  rcases List.mem_cons.mp hp with rfl | hp
  · exact h
  · exact r p hp
end DL
end
section
/-! list.extend, max and min of a list of whole numbers. -/
namespace DL
open PySem L2
variable [DL.Nm]
variable {G : Glb} {X : Cx} {W : WX}
end DL
end
section
/-! An expression that walks a dict of its own: the last cell, read as data. -/
namespace DL
open PySem L2
variable [DL.Nm]
variable {G : Glb} {X : Cx} {W : WX}
mutual
/-- no dict stands within -/
def noD : D → Bool
  | .tup ds => noDs ds
  | .lst ds => noDs ds
  | .obj _ _ ds => noDs ds
  | .dct _ ds => noDs ds
  | .exn _ _ ds => noDs ds
  | .tpl ds => noDs ds
  | .dic _ _ => false
  | _ => true
def noDs : List D → Bool
  | [] => true
  | d :: ds => noD d && noDs ds
end
def Cell.noD : Cell → Bool
  | .lst ds => noDs ds
  | .dic kvs => noDs (kvs.map (·.2))
  | .ins _ fs => noDs (fs.map (·.2))
  | .dct kvs => noDs (kvs.map (·.2))
  | .lck kvs _ => noDs (kvs.map (·.2))
/-- how readings without dicts are kept -/
structure KeptN (φ : Fi) (H : Hp) (φ' : Fi) (H' : Hp) : Prop where
  get : ∀ (l : Nat) a, φ.c[l]? = some a → φ'.c[l]? = some a
  rd : ∀ a u, (∀ kvs, u ≠ .dK kvs) → (∀ o w, u ≠ .frz o w) → φ.out a → Rd H a u → φ'.out a ∧ Rd H' a u
  ins : ∀ a C dx fs, φ.out a → H a = some (.ins C dx fs) → φ'.out a ∧ H' a = some (.ins C dx fs)
  ext : ∀ a p, φ.out a → H a = some (.ext p) → φ'.out a ∧ H' a = some (.ext p)
  xd : ∀ a fs, φ.out a → H a = some (.xd fs) → φ'.out a ∧ H' a = some (.xd fs)
  frt : ∀ a o xs, φ.out a → H a = some (.frz o (.tup xs)) → φ'.out a ∧ H' a = some (.frz o (.tup xs))
section
variable {φ φ' : Fi} {H H' : Hp}
theorem RdL.keptN (k : KeptN φ H φ' H') {a : Addr} {xs : List V} (h : RdL G φ H a xs) : RdL G φ' H' a xs := by
  rcases h with ⟨n, h⟩ | h
  · exact .inl (k.rd _ _ (fun _ z => by cases z) (fun _ _ z => by cases z) n h)
  · exact .inr h
theorem RdT.keptN (k : KeptN φ H φ' H') {a : Addr} {xs : List V} (h : RdT G φ H a xs) : RdT G φ' H' a xs := by
  rcases h with ⟨n, h⟩ | h
  · exact .inl (k.rd _ _ (fun _ z => by cases z) (fun _ _ z => by cases z) n h)
  · exact .inr h
mutual
theorem Is.keptN (k : KeptN φ H φ' H') : ∀ {d : D} {v : V}, noD d = true → Is G φ H d v → Is G φ' H' d v
  | .non, v, _, h => h
  | .bl b, v, _, h => h
  | .int i, v, _, h => h
  | .str x, v, _, h => h
  | .tup ds, v, b, h => by
    obtain ⟨a, xs, e, r, q⟩ := h
    exact ⟨a, xs, e, r.keptN k, IsL.keptN k b q⟩
  | .lst ds, v, b, h => by
    obtain ⟨a, xs, e, r, q⟩ := h
    exact ⟨a, xs, e, r.keptN k, IsL.keptN k b q⟩
  | .dic ks ds, v, b, h => by cases b
  | .obj c ks ds, v, b, h => by
    obtain ⟨a, C, dx, fs, e, ⟨n, r⟩, c, z, q⟩ := h
    exact ⟨a, C, dx, fs, e, k.ins _ _ _ _ n r, c, z, IsL.keptN k b q⟩
  | .loc l, v, _, h => by
    obtain ⟨a, p, e⟩ := h
    exact ⟨a, k.get _ _ p, e⟩
  | .dct ks ds, v, b, h => by
    obtain ⟨a, kvs, e, ⟨n, r⟩, z, q⟩ := h
    exact ⟨a, kvs, e, k.rd _ _ (fun _ z => by cases z) (fun _ _ z => by cases z) n r, z, IsL.keptN k b q⟩
  | .exn c ks ds, v, b, h => by
    obtain ⟨a, C, d, e, ⟨n, r⟩, c, z⟩ := h
    refine ⟨a, C, d, e, k.ext _ _ n r, c, ?_⟩
    rcases z with z | ⟨b', fs, e1, ⟨n1, r1⟩, e2, q⟩
    · exact .inl z
    · exact .inr ⟨b', fs, e1, k.xd _ _ n1 r1, e2, IsL.keptN k b q⟩
  | .tpl ds, v, b, h => by
    obtain ⟨a, xs, o, e, ⟨n, r, r2⟩, q⟩ := h
    have z := k.frt _ _ _ n r
    exact ⟨a, xs, o, e, ⟨z.1, z.2, r2⟩, IsL.keptN k b q⟩
theorem IsL.keptN (k : KeptN φ H φ' H') : ∀ {ds : List D} {xs : List V}, noDs ds = true → IsL G φ H ds xs → IsL G φ' H' ds xs
  | [], xs, _, h => h
  | d :: ds, xs, b, h => by
    obtain ⟨x, r, e, p, q⟩ := h
    have b : (noD d && noDs ds) = true := b
    simp only [Bool.and_eq_true] at b
    exact ⟨x, r, e, Is.keptN k b.1 p, IsL.keptN k b.2 q⟩
end
theorem CellOk.keptN {a : Addr} {c : Cell} (k : KeptN φ H φ' H') (e : H' a = H a) (b : c.noD = true) (h : CellOk G φ H a c) : CellOk G φ' H' a c := by
  cases c with
  | lst ds => obtain ⟨xs, h, q⟩ := h; exact ⟨xs, by rw [e]; exact h, q.keptN k b⟩
  | dic kvs => obtain ⟨xs, h, z, q⟩ := h; exact ⟨xs, by rw [e]; exact h, z, q.keptN k b⟩
  | ins c fs => obtain ⟨C, dx, ws, z, h, y, q⟩ := h; exact ⟨C, dx, ws, z, by rw [e]; exact h, y, q.keptN k b⟩
  | dct kvs => obtain ⟨xs, h, z, q⟩ := h; exact ⟨xs, by rw [e]; exact h, z, q.keptN k b⟩
  | lck kvs o => obtain ⟨od, xs, e1, h, z, q⟩ := h; exact ⟨od, xs, e1, by rw [e]; exact h, z, q.keptN k b⟩
end
/-! ### dict(pairs) that is changed later -/
def bDictN (ds : List D) (S : Store) : ER := match ds with
  | [.lst es] => match pairsD es with
    | some kds => .ok (.loc S.length) (S ++ [.dic (mergeD [] kds)])
    | none => .bad
  | ds => bDictM ds S
section
variable {S : Store} {env : EnvD}
@[simp] theorem bDictN_lst {es : List D} : bDictN [.lst es] S = match pairsD es with
    | some kds => .ok (.loc S.length) (S ++ [.dic (mergeD [] kds)])
    | none => .bad := rfl
@[simp] theorem bDictN_dic {ks : List Key} {ds : List D} : bDictN [.dic ks ds] S = .ok (.loc S.length) (S ++ [.dic (ks.zip ds)]) := rfl
end
end DL
end
section
/-! list.remove of texts. -/
namespace L2
open PySem PySem.Spec PyProof.Rows
variable [DL.Nm]
section
variable {X : Cx}
end
end L2
namespace DL
open PySem L2
variable [DL.Nm]
variable {G : Glb} {X : Cx} {W : WX}
def strsD : List D → Option (List Str)
  | [] => some []
  | .str x :: ds => (strsD ds).map (x :: ·)
  | _ :: _ => none
theorem strsD_is : ∀ {ds : List D} {xs : List Str}, strsD ds = some xs → ds = xs.map .str
  | [], _, h => by cases h; rfl
  | d :: ds, xs, h => by
    cases d with
    | str x =>
      obtain ⟨ys, e1, e2⟩ := Option.map_eq_some_iff.mp (show (strsD ds).map (x :: ·) = some xs from h)
      subst e2
      rw [strsD_is e1]; rfl
    | _ => cases h
theorem strsD_map : ∀ xs : List Str, strsD (xs.map .str) = some xs
  | [] => rfl
  | x :: xs => by
    show (strsD (xs.map .str)).map (x :: ·) = _
    rw [strsD_map xs]; rfl
def mRemoveS (o : D) (ds : List D) (S : Store) : ER := cellL S o fun l xs => match ds with
  | [.str k] => match strsD xs with
    | some ns => if k ∈ ns then .ok .non (S.set l (.lst ((ns.erase k).map .str))) else .bad
    | none => .bad
  | _ => .bad
section
variable {S : Store}
@[simp] theorem mRemoveS_is {o : D} {k : Str} : mRemoveS o [.str k] S = cellL S o fun l xs => match strsD xs with
    | some ns => if k ∈ ns then .ok .non (S.set l (.lst ((ns.erase k).map .str))) else .bad
    | none => .bad := rfl
end
theorem MtM.or {X : Cx} {id : String} {r1 r2 : V → List V → Hp → VK → Prop} (h1 : MtM X id r1) (h2 : MtM X id r2) : MtM X id fun x xs H Q => r1 x xs H Q ∨ r2 x xs H Q :=
  fun pins s σ H x xs v us Q I rx rxs h => h.elim (h1 pins s σ H x xs v us Q I rx rxs) (h2 pins s σ H x xs v us Q I rx rxs)
/-- o.remove(x): a text or a whole number -/
def mRemoveX (o : D) (ds : List D) (S : Store) : ER := match ds with
  | [.str k] => mRemoveS o [.str k] S
  | ds => mRemove o ds S
@[simp] theorem mRemoveX_s {S : Store} {o : D} {k : Str} : mRemoveX o [.str k] S = cellL S o fun l xs => match strsD xs with
    | some ns => if k ∈ ns then .ok .non (S.set l (.lst ((ns.erase k).map .str))) else .bad
    | none => .bad := rfl
@[simp] theorem mRemoveX_i {S : Store} {o : D} {k : Int} : mRemoveX o [.int k] S = mRemove o [.int k] S := rfl
end DL
end
section
/-! repr of nested data, dicts among them. -/
namespace L2
open PySem PySem.Spec PyProof.Rows
variable [DL.Nm]
section
variable {X : Cx}
end
end L2
namespace DL
open PySem L2
variable [DL.Nm]
variable {G : Glb} {X : Cx} {W : WX}
def keyPy : Key → PyData
  | .inl i => .int i
  | .inr x => .str x
theorem optL_len {α β : Type} {f : α → Option β} : ∀ {l : List α} {m : List β}, optL f l = some m → m.length = l.length
  | [], _, h => by cases h; rfl
  | a :: l, m, h => by
    obtain ⟨b, e1, e2⟩ := Option.bind_eq_some_iff.mp (show ((f a).bind fun b => (optL f l).map (b :: ·)) = some m from h)
    obtain ⟨m', e3, e4⟩ := Option.map_eq_some_iff.mp e2
    subst e4
    simp [optL_len e3]
section
variable {φ : Fi} {S : Store} {H : Hp}
theorem vals_pairs {P : Program} {w : World} : ∀ {es : List DictEntry} {vs : List (Key × Value)} {kvs : List (Key × V)}, Pairs (mixKind P w) es vs → KV kvs vs → Vals (kvs.map (·.2)) (es.map (·.val)) ∧ kvs.map (·.1) = vs.map (·.1)
  | _, _, _, .nil, k => by cases k; exact ⟨.nil, rfl⟩
  | _, _, _, .cons h1 h2 r, k => by
    cases k with
    | cons k1 k2 =>
      obtain ⟨a, b⟩ := vals_pairs r k2
      have q := k1.2
      rw [← h2] at q
      refine ⟨.cons q a, ?_⟩
      rw [List.map_cons, List.map_cons, b, k1.1]
end
end DL
end
section
/-! x in, x not in a dict of the module, as a test; an expression that walks a dict, data or a cell. -/
namespace DL
open PySem L2
variable [DL.Nm]
variable {G : Glb} {X : Cx} {W : WX}
end DL
end
section
/-! Tuples of which the very object is known (.tpl): tuple(a list), t.index(x); read as other tuples are. -/
namespace L2
open PySem PySem.Spec PyProof.Rows
variable [DL.Nm]
section
variable {X : Cx}
variable {o e : Expr} {es : List Expr} {to : TE} {t : TA} {name : Str} {apos cpos : Pos} {id : String} {r : V → List V → Hp → VK → Prop}
end
end L2
namespace DL
open PySem L2 PySem.Spec PyProof.Rows
variable [DL.Nm]
variable {G : Glb} {X : Cx} {W : WX}
mutual
/-- known tuples read as tuples -/
def unD : D → D
  | .tup ds => .tup (unDs ds)
  | .tpl ds => .tup (unDs ds)
  | d => d
def unDs : List D → List D
  | [] => []
  | d :: ds => unD d :: unDs ds
end
mutual
theorem unD_is {φ : Fi} {H : Hp} : ∀ {d : D} {v : V}, Is G φ H d v → Is G φ H (unD d) v
  | .tup ds, v, h => by
    obtain ⟨a, xs, e, r, q⟩ := h
    exact ⟨a, xs, e, r, unDs_is q⟩
  | .tpl ds, v, h => by
    obtain ⟨a, xs, o, e, ⟨n, r, _⟩, q⟩ := h
    exact ⟨a, xs, e, .inl ⟨n, .inr ⟨o, r⟩⟩, unDs_is q⟩
  | .non, v, h => h
  | .bl b, v, h => h
  | .int i, v, h => h
  | .str x, v, h => h
  | .lst ds, v, h => h
  | .dic ks ds, v, h => h
  | .obj c ks ds, v, h => h
  | .loc l, v, h => h
  | .dct ks ds, v, h => h
  | .exn c ks ds, v, h => h
theorem unDs_is {φ : Fi} {H : Hp} : ∀ {ds : List D} {xs : List V}, IsL G φ H ds xs → IsL G φ H (unDs ds) xs
  | [], xs, h => h
  | d :: ds, xs, h => by
    obtain ⟨x, r, e, p, q⟩ := h
    exact ⟨x, r, e, unD_is p, unDs_is q⟩
end
end DL
end
section
/-! Exceptions over data: raise, try .. except C as e (the exception kept as data), isinstance of them. -/
namespace L2
open PySem PySem.Spec PyProof.Rows
variable [DL.Nm]
section
variable {X : Cx} {a : Addr} {pins : List (Addr × Obj)} {σ : St} {H : Hp} {s sI : Shared} {h1 : Heap} {cls : Value} {d : Option Addr}
/-- the caught exception is told of in the heap, from its suite on -/
theorem keepIt (J : Inv X pins σ H sI) (I : Inv X pins σ H { s with heap := h1 }) (fresh : sI.heap.get? a = none) (na : H a = none) (offL : a ≠ X.env.locals) (ok : ∃ oe vs, h1.get? a = some oe ∧ Zc cls d oe ∧ oe.data = Data.fields vs) :
    Inv (X.suite a (X.pn ++ pins)) [] σ (upd H a (DL.ExH cls d a)) { s with heap := h1 } := by
  have no : ∀ {b : Addr} {o : Obj}, sI.heap.get? b = some o → b ≠ a := fun {b o} e z => by rw [z, fresh] at e; cases e
  refine ⟨I.ok.suite _ _, I.os, I.bare, ⟨I.base.keep, I.base.slot, fun b o e n q => ?_, I.base.there, fun b xs e => ?_, fun b o u e => ?_, fun b ps e => ?_⟩, I.loc, I.cell, ?_, fun x c e => ?_, fun p hp => ?_, fun b o e => ?_, I.len⟩
  · obtain ⟨o', e'⟩ := J.base.there b o e q
    rw [upd_ne (no e')]; exact I.base.free b o e n q
  · have kept := I.base.tups _ _ e
    rw [upd_ne (ne_of_none kept na)]; exact kept
  · have kept := I.base.frzs _ _ _ e
    rw [upd_ne (ne_of_none kept na)]; exact kept
  · obtain ⟨more, kept⟩ := I.base.tbls _ _ e
    exact ⟨more, by rw [upd_ne (ne_of_none kept na)]; exact kept⟩
  · rw [upd_ne offL.symm]; exact I.free
  · obtain ⟨v, o, e', _⟩ := J.cell x c e
    rw [upd_ne (no e')]; exact I.freeC x c e
  · rw [List.append_nil] at hp
    obtain ⟨q1, _⟩ := J.pin p hp
    obtain ⟨p1, p2, p3, p4, p5⟩ := I.pin p hp
    exact ⟨p1, by rw [upd_ne (no q1)]; exact p2, p3, p4, p5⟩
  · by_cases q : b = a
    · subst q
      rw [upd_same] at e
      cases e
      obtain ⟨oe, vs, g1, g2, g3⟩ := ok
      exact ⟨⟨oe, vs, g1, g2, g3⟩, ⟨oe, g1⟩, fun _ _ ⟨o, v, q, r⟩ k => ⟨o, v, k o q, r⟩⟩
    · rw [upd_ne q] at e
      exact (I.hok b o e).stay (fun _ _ _ q => q) (fun c q => by rw [upd_ne (ne_of_none q na)]; exact q) fun c xs q => by rw [upd_ne (ne_of_none q na)]; exact q
theorem outOfSuite (I : Inv (X.suite a (X.pn ++ pins)) [] σ H s) (ok : X.Ok) : Inv X pins σ H s :=
  { I with ok := ok, os := I.os, base := I.base, loc := I.loc, cell := I.cell, free := I.free, freeC := I.freeC, pin := fun p hp => I.pin p (List.mem_append_left _ hp) }
end
/-- the ends, a slot emptied -/
def offN (i : Nat) (D : Ends) : Ends := { nx := fun σ' H' => D.nx (σ'.set i none) H', rt := D.rt, bk := fun σ' H' => D.bk (σ'.set i none) H', ct := fun σ' H' => D.ct (σ'.set i none) H' }
/-- what is wished of an exception that the clause may keep -/
def wKp (K : PySem.W.Frag) (c : Value) (i : Nat) (ts : TS) (Wout : WX) (D : Ends) : WX := fun cls d σ H =>
  ∃ b, PySem.W.exmOne K cls c = some b ∧ (b = true → ∀ a, H a = none → ts (offN i D) (σ.set i (some (.ref a))) (upd H a (DL.ExH cls d a))) ∧ (b = false → Wout cls d σ H)
section
variable {X : Cx} {x n : Str} {c : Value} {i : Nat} {body suite : List Stmt} {b₀ : Stmt} {np pos pos' : Pos} {tb : WX → TS} {ts : TS} {Wout : WX}
theorem ps_tryKeep (hs : X.stack = X.env :: X.outer) (hf : X.env.frame = some X.env.locals) (hN : X.N.Nodup) (hi : X.N[i]? = some n) (hln : X.env.kindOf n = some .local) (hc : Names X x c) (tk : Takes X Wout)
    (hb : ∀ (W : WX) (pn : List (Addr × Obj)) (xe : Value → Shared → Prop), Takes (X.tr pn xe) W → PassesOwn (model X.prog X.w) X.A X.env xe → PSs (X.tr pn xe) body (tb W))
    (hsu : ∀ (a : Addr) (pn : List (Addr × Obj)), PSs (X.suite a pn) (b₀ :: suite) ts) :
    PS X (.Try body [.ExceptHandler (some (.Name x np)) (some n) (b₀ :: suite) pos'] [] [] pos) (fun D σ H => tb (wKp X.K c i ts Wout D) D σ H) := by
  refine ⟨fun pins s σ H D I h => wpAny_Try_except ?_⟩
  have frE : X.A.frames = some (X.env :: X.outer) := by rw [I.ok.frames, hs]
  refine wpAny_mono ((hb (wKp X.K c i ts Wout D) (X.pn ++ pins) _ (fun u s' xx => ?_) PassesOwn.looking).run [] s σ H D (I.toTry _) h) (fun f s1 hsp => ?_) (fun e s1 he => he)
  rotate_left
  · match f, hsp with
    | .next, ⟨σ', H', J', q⟩ => exact wpAny_execs_nil ⟨σ', H', J'.ofTry I.ok, q⟩
    | .brk, ⟨σ', H', J', q⟩ => exact ⟨σ', H', J'.ofTry I.ok, q⟩
    | .cont, ⟨σ', H', J', q⟩ => exact ⟨σ', H', J'.ofTry I.ok, q⟩
    | .ret u, ⟨v, σ', H', J', r, q⟩ => exact ⟨v, σ', H', J'.ofTry I.ok, r, q⟩
  · obtain ⟨a, B, sI, pins', σ', H', cls, d, rfl, J', nb, up, sky, na, os, ag, b, hb1, hyes, hno⟩ := xx
    have J : Inv X pins σ' H' sI := J'.ofTry I.ok
    have skyE : Sky B (X.env :: X.outer) a (Zc cls d) X.env.locals s'.heap := by rw [← hs]; exact sky
    show wpAny (model X.prog X.w) X.A (noteFrame (.ref a) X.env) _ _ _
    refine Sky.land Zc.steady frE hf skyE fun g3 fly vp => ?_
    have Jg : Inv X pins σ' H' { s' with heap := g3 } := J.landed nb fly.1 (up.trans vp) os ag
    obtain ⟨ob, fv, hob, hZ, hF⟩ := fly.there
    have offStack : a ∉ frs (X.env :: X.outer) := fun hm => by
      obtain ⟨_, o', e', hnf⟩ := fly.2.2.1.mem hm
      rw [hob] at e'; cases e'
      exact hnf _ hF
    have offL : a ≠ X.env.locals := fun z => offStack (List.mem_filterMap.mpr ⟨X.env, List.mem_cons_self, by rw [hf, z]⟩)
    have offF : a ∉ X.fs := by
      intro hm
      obtain ⟨fr, hin, hq⟩ := List.mem_filterMap.mp hm
      exact offStack (List.mem_filterMap.mpr ⟨fr, List.mem_cons_of_mem _ hin, hq⟩)
    have fresh : sI.heap.get? a = none := by
      cases q : sI.heap.get? a with
      | none => rfl
      | some o =>
        have z := nb a o q (by rw [hs]; exact offStack)
        rw [fly.2.1] at z; cases z
    have Sg := Jg.suite hob hF na offL offF
    refine wpAny_handleBy_cons (codeAny_handlers_test ?_) (by intro q; cases q)
    have looksC : PySem.W.Looks (model X.prog X.w) g3 (typeOf (.ref a)) cls := fun A Q E s k q => wpAny_typeOf_ref (k _ _ hob) (by rw [hZ.1]; exact q)
    have looksM := PySem.W.exm_one (M := model X.prog X.w) (Jg.kIn) looksC hb1
    have named : ∀ {Q : Value → Shared → Prop} {E : Value → Shared → Prop}, Q c { s' with heap := g3 } → wpAny (model X.prog X.w) (X.A.mark (some (.ref a))) (eval (.Name x np) X.env) Q E { s' with heap := g3 } := fun {Q E} q => by
      obtain ⟨hg, nodbg, hm | ⟨hm, hv, nonm⟩⟩ := hc
      · exact ld_glob (X := X.suite a ((a, ob) :: (X.pn ++ pins))) Sg hg hm q nodbg
      · exact ld_blt (X := X.suite a ((a, ob) :: (X.pn ++ pins))) Sg hg hm hv q nonm nodbg
    refine named (looksM.here ?_)
    match b, hb1, hyes, hno with
    | true, _, hyes, _ =>
      refine codeAny_handlers_suite_as (HandSPX.lands_againZ fly fun k4 fly4 vp4 => ?_)
      have J5 : Inv X pins σ' H' { s' with heap := k4 } := J.landed nb fly4.1 ((up.trans vp).trans vp4) os ag
      have Sk := keepIt (s := s') J J5 fresh na offL fly4.there
      refine store_ok (X := X.suite a (X.pn ++ pins)) (v := .ref a) Sk hN hi (.inl hln) rfl (fun s5 S5 => ?_) (.inr hln)
      refine wpAny_mono ((hsu a (X.pn ++ pins)).run [] s5 _ _ _ S5 (hyes rfl a na)) (fun f s6 hsp => ?_) (fun _ _ z => False.elim z)
      have goOn : ∀ {σ6 : St} {H6 : Hp} {Q : Shared → Prop}, Inv (X.suite a (X.pn ++ pins)) [] σ6 H6 s6 → (∀ s7, Inv X pins (σ6.set i none) H6 s7 → Q s7) →
          wpAny (model X.prog X.w) X.A (do bindName X.env n .none; unbindBehindTheSuite X.env n pos') (fun _ s7 => Q s7) X.xe s6 := fun {σ6 H6 Q} S6 hq => gone_ok (outOfSuite S6 I.ok) hN hi hln hq
      match f, hsp with
      | .next, ⟨σ6, H6, S6, q6⟩ => exact goOn S6 fun s7 J7 => ⟨_, _, J7, q6⟩
      | .brk, ⟨σ6, H6, S6, q6⟩ => exact goOn S6 fun s7 J7 => ⟨_, _, J7, q6⟩
      | .cont, ⟨σ6, H6, S6, q6⟩ => exact goOn S6 fun s7 J7 => ⟨_, _, J7, q6⟩
      | .ret u, ⟨v6, σ6, H6, S6, r6, q6⟩ => exact goOn S6 fun s7 J7 => ⟨_, _, _, J7, r6, q6⟩
    | false, _, _, hno =>
      show wpAny _ X.A (handleBy (.ref a) X.env []) _ _ _
      obtain ⟨k1, k2, k3, oe, vs, T, oT, ts', he, hz, hd, g1, hr⟩ := id fly
      refine wpAny_handleBy_nil ?_
      unfold PySem.passOn
      refine wpAny_bind (wpAny_field he hd g1 ?_)
      rw [if_neg (show ¬ ((Value.ref T == Value.none) = true) from by simp)]
      have goOn : wpAny (model X.prog X.w) X.A (setFlight (.ref a) X.env.frame) (fun _ s4 => wpAny (model X.prog X.w) X.A (throw (.ref a) : Sem Flow) (SP X pins D) X.xe s4) X.xe { s' with heap := g3 } := by
        rw [hf]
        exact HandSPX.setFlight_upZ fly fun k4 hh4 vp4 => wpAny_throw (tk _ _ ⟨a, B, sI, pins, σ', H', cls, d, rfl, J, nb, (up.trans vp).trans vp4, .inr (.inr (by rw [hs]; exact hh4)), na, os, ag, hno rfl⟩)
      first
        | exact wpAny_bind (wpAny_pure (wpAny_bind goOn)) 
        | exact wpAny_bind goOn
end
end L2
end
section
/-! Exceptions over data, part 2: the D-layer's rules. -/
namespace L2
open PySem PySem.Spec PyProof.Rows
variable [DL.Nm]
/-- what the class of a kept exception must say -/
structure ExcD (K : PySem.W.Frag) (D : Addr) : Prop where
  hg : PySem.W.findIn K (.ref D) "__getattribute__" = some (some (.builtin "BaseException.__getattribute__"))
  hk : PySem.W.findIn K (.ref D) "__getattr__" = some none
  hs : PySem.W.subIn K (.ref D) (.type "BaseException") = some true
  hd : PySem.W.hasDictIn K D = true
  ha : PySem.W.findIn K (.ref D) "__class__" = some (some (.builtin "object.__class__"))
  hn : PySem.W.specialIn K (.builtin "object.__class__") "__get__" = some (some (.builtin "getset_descriptor.__get__"))
  ht : PySem.W.takesIn K (.builtin "object.__class__") = some true
  hm : PySem.W.mroIn K D (.type "object") = some true
/-- types, exceptions too -/
inductive TyE (K : PySem.W.Frag) (H : Hp) : V → Value → Prop where
  | z {v : V} {t : Value} (h : TyZ K H v t) : TyE K H v t
  | x {a D : Addr} {d : Option Addr} (e : H a = some (DL.ExH (.ref D) d a)) (hd : ∀ b, d = some b → ∃ o, H b = some o) (c : ExcD K D) : TyE K H (.ref a) (.ref D)
theorem hasCls {K : PySem.W.Frag} {D : Addr} (h : PySem.W.hasDictIn K D = true) : (PySem.W.clsIn K D).isSome = true := by
  unfold PySem.W.hasDictIn at h
  cases e : PySem.W.clsIn K D with
  | none => rw [e] at h; cases h
  | some c => rfl
theorem kit_ofE {X : Cx} {pins : List (Addr × Obj)} {σ : St} {H : Hp} {s : Shared} {v : V} {u t : Value} (I : Inv X pins σ H s) (rx : RelV v u) (ty : TyE X.K H v t) : ∃ P : Heap → Prop, PySem.W.KitX X.K u t P ∧ P s.heap ∧ u ≠ .builtin "__main__.__loader__#opaque" := by
  cases ty with
  | z h => exact kit_ofZ I rx h
  | @x a D d e hd c =>
    cases (show u = Value.ref a from rx)
    obtain ⟨⟨oe, vs, g1, ⟨g2, g3⟩, g4⟩, _, _⟩ := (show ObjOk X.prog X.w H s.heap a (DL.ExH (.ref D) d a) from I.hok a _ e)
    have cl := hasCls c.hd
    cases d with
    | none => exact ⟨_, PySem.W.kitx_exc (ox := oe) (od := none) cl c.hg c.hk c.hs c.ha c.hn c.ht c.hm, ⟨g1, g2, by obtain ⟨oc, od, oda, osl⟩ := oe; dsimp only at g4; subst g4; rfl, by rw [g3]; trivial⟩, fun z => nomatch z⟩
    | some b =>
      obtain ⟨ob, hb⟩ := hd b rfl
      obtain ⟨u, gb⟩ := objOk_get (I.hok b ob hb)
      exact ⟨_, PySem.W.kitx_exc (ox := oe) (od := some u) cl c.hg c.hk c.hs c.ha c.hn c.ht c.hm, ⟨g1, g2, by obtain ⟨oc, od, oda, osl⟩ := oe; dsimp only at g4; subst g4; rfl, by rw [g3]; exact gb⟩, fun z => nomatch z⟩
def rIsX (K : PySem.W.Frag) : List V → Hp → VK → Prop := fun xs H Q => ∃ (x c : V) (t u : Value) (b : Bool), xs = [x, c] ∧ ClsV c u ∧ TyE K H x t ∧ PySem.W.kitOne K t u = some b ∧ Q (.bl b) H
section
variable {X : Cx}
theorem call_isX : CallR X (.builtin "isinstance") (rIsX X.K) := by
  intro pins s σ H xs us Q I r h
  obtain ⟨x, c, t, u, b, rfl, k, ty, e, q⟩ := h
  obtain ⟨w1, w2, rfl, p1, p2⟩ := vals2 r
  cases k.eq p2
  obtain ⟨P, Z, p, hx⟩ := kit_ofE I p1 ty
  exact PySem.W.kia_one Z I.kIn p e hx fun tk => ⟨.bl b, H, I.tok tk, rfl, q⟩
end
end L2
namespace DL
open PySem L2
variable [DL.Nm]
variable {G : Glb} {X : Cx} {W : WX}
/-! ### isinstance, exceptions too -/
/-- classes, exceptions too -/
def ClE (G : Glb) : TyD → Value → Prop
  | .x c, v => ∃ C, G.ce c = some C ∧ v = .ref C
  | t, v => ClD G t v
def tyE (S : Store) : D → Option TyD
  | .exn c _ _ => some (.x c)
  | d => tyO S d
theorem tyE_is (hc : ∀ c C, G.ca c = some C → OwnC G.K C) (hx : ∀ c C, G.ce c = some C → ExcD G.K C) {φ : Fi} {S : Store} {H : Hp} {d : D} {v : V} {t : TyD} (s : SOk G φ S H) (i : Is G φ H d v) (e : tyE S d = some t) : ∃ tv, ClE G t tv ∧ TyE G.K H v tv := by
  have old : ∀ {d : D}, Is G φ H d v → tyO S d = some t → ∃ tv, ClE G t tv ∧ TyE G.K H v tv := fun i e => by
    obtain ⟨tv, h1, h2⟩ := tyO_is hc s i e
    refine ⟨tv, ?_, .z h2⟩
    cases t with
    | x c => exact False.elim h1
    | b t => exact h1
    | o c => exact h1
  cases d with
  | exn c ks ds =>
    cases e
    obtain ⟨a, C, d, rfl, ⟨_, h⟩, h1, h2⟩ := i
    refine ⟨_, ⟨C, h1, rfl⟩, .x h (fun b hb => ?_) (hx c C h1)⟩
    rcases h2 with ⟨z, _, _⟩ | ⟨b', fs, z, ⟨_, r⟩, _⟩
    · rw [z] at hb; cases hb
    · rw [z] at hb; cases hb; exact ⟨_, r⟩
  | non => exact old i e
  | bl b => exact old i e
  | int b => exact old i e
  | str b => exact old i e
  | tup b => exact old i e
  | lst b => exact old i e
  | dic ks b => exact old i e
  | obj c ks ds => exact old i e
  | loc l => exact old i e
  | dct ks ds => exact old i e
  | tpl ds => exact old i e
/-- a class of exceptions: which of the raised ones are of it -/
def tabX (sub : Str → Bool) : TyD → Option Bool
  | .x c => some (sub c)
  | _ => some false
/-- what a class says of things, exceptions too -/
structure IsTE (G : Glb) (u : Value) (tab : TyD → Option Bool) : Prop where
  ok : ∀ t tv r, ClE G t tv → tab t = some r → PySem.W.kitOne G.K tv u = some r
theorem isT_x {sub : Str → Bool} {C0 : Addr} (h1 : PySem.W.isClsIn G.K C0 = true) (h2 : PySem.W.typeIn G.K (.ref C0) = some (.type "type")) (self : PySem.W.mroIn G.K C0 (.ref C0) = some true) (ho : ∀ c C, G.ca c = some C → PySem.W.mroIn G.K C (.ref C0) = some false) (hx : ∀ c C, G.ce c = some C → PySem.W.mroIn G.K C (.ref C0) = some (sub c)) :
    IsTE G (.ref C0) (tabX sub) := by
  refine ⟨fun t tv r q1 q2 => ?_⟩
  cases t with
  | b t =>
    cases (show tv = _ from q1); cases q2
    refine kit_ref h1 h2 ?_ (fun z => nomatch z)
    cases t <;> rfl
  | o c =>
    obtain ⟨C, e1, rfl⟩ := (show ∃ C, G.ca c = some C ∧ tv = .ref C from q1); cases q2
    refine kit_ref h1 h2 (ho c C e1) fun z => ?_
    have e := Value.ref.inj z
    subst e
    have a := ho c C e1
    rw [self] at a
    cases a
  | x c =>
    obtain ⟨C, e1, rfl⟩ := (show ∃ C, G.ce c = some C ∧ tv = .ref C from q1); cases q2
    refine kit_ref h1 h2 (hx c C e1) fun z => ?_
    have e := Value.ref.inj z
    subst e
    have a := hx c C e1
    rw [self] at a
    exact (Option.some.inj a).symm
/-- isinstance(e, (A, B, ..)) -/
inductive CNamesE (G : Glb) (X : Cx) : List Expr → List V → List Value → (TyD → Option Bool) → Prop where
  | nil : CNamesE G X [] [] [] tabF
  | cons {x : Str} {pos : Pos} {v : V} {u : Value} {tab tab2 : TyD → Option Bool} {es : List Expr} {vs : List V} {us : List Value} (cn : CName X x v u) (ist : IsTE G u tab) (r : CNamesE G X es vs us tab2)
      (hs : starEach (.Name x pos :: es) X.env = (false, eval (.Name x pos) X.env) :: starEach es X.env := by rfl) : CNamesE G X (.Name x pos :: es) (v :: vs) (u :: us) (tabOr tab tab2)
theorem CNamesE.pa {es : List Expr} {vs : List V} {us : List Value} {tab : TyD → Option Bool} (c : CNamesE G X es vs us tab) : ∃ t, PA X es t ∧ ∀ σ H Q, Q vs H → t σ H Q := by
  induction c with
  | nil => exact ⟨_, pa_nil, fun _ _ _ h => h⟩
  | cons cn ist r hs ih =>
    obtain ⟨t, h1, h2⟩ := ih
    exact ⟨_, pa_cons (cn.pe _) h1 hs, fun σ H Q h => h2 σ H _ h⟩
theorem CNamesE.vs {es : List Expr} {vs : List V} {us : List Value} {tab : TyD → Option Bool} (c : CNamesE G X es vs us tab) : Paired ClsV vs us := by
  induction c with
  | nil => exact .nil
  | cons cn ist r hs ih => exact .cons cn.cv ih
theorem CNamesE.len {es : List Expr} {vs : List V} {us : List Value} {tab : TyD → Option Bool} (c : CNamesE G X es vs us tab) : vs.length = es.length := by
  induction c with
  | nil => rfl
  | cons cn ist r hs ih => simp [ih]
theorem CNamesE.any {es : List Expr} {vs : List V} {us : List Value} {tab : TyD → Option Bool} (c : CNamesE G X es vs us tab) : ∀ {t : TyD} {tv : Value} {b : Bool}, ClE G t tv → tab t = some b → PySem.W.kitAny G.K tv us = some b := by
  induction c with
  | nil => intro t tv b _ h; cases h; rfl
  | @cons x pos v u tab tab2 es vs us cn ist r hs ih =>
    intro t tv b h1 h2
    unfold PySem.W.kitAny
    unfold tabOr at h2
    cases h3 : tab t with
    | none => rw [h3] at h2; cases h2
    | some b1 =>
      rw [h3] at h2
      rw [ist.ok t tv b1 h1 h3]
      cases b1 with
      | true => exact h2
      | false => exact ih h1 h2
def eIsE (tab : TyD → Option Bool) (f : EM) : EM := fun env S => (f env S).bind fun d S => match (tyE S d).bind tab with
  | some b => .ok (.bl b) S
  | none => .bad
theorem de_isE {x : Str} {v : V} {u : Value} {tab : TyD → Option Bool} {e : Expr} {p p2 pos : Pos} {f : EM} (hK : X.K = G.K) (hc : ∀ c C, G.ca c = some C → OwnC G.K C) (hx : ∀ c C, G.ce c = some C → ExcD G.K C) (ist : IsTE G u tab) (cn : CName X x v u) (hg : Gl X "isinstance") (hm : X.mg "isinstance" = none) (he : DE G X W e f)
    (hst : starEach [e, .Name x p2] X.env = (false, eval e X.env) :: starEach [.Name x p2] X.env := by rfl) (hst2 : starEach [.Name x p2] X.env = (false, eval (.Name x p2) X.env) :: starEach [] X.env := by rfl) (hpl : (backTo pos (starEach [.Name x p2] X.env)).any (·.1) = false := by rfl) :
    DE G X W (.Call (.Name "isinstance" p) [e, .Name x p2] [] pos) (eIsE tab f) := by
  obtain ⟨t, pt, qt⟩ := he
  refine ⟨_, pe_callB call_isX hg hm (by decide +kernel) (pa_cons pt (pa_cons (cn.pe p2) pa_nil hst2) hst) (by decide) (by decide) hst hpl, fun σ H env φ S Q s re h => ?_⟩
  refine qt σ H env φ S _ s re (PostE.bind h fun d S1 φ1 H1 y e1 s1 i1 h1 => ?_)
  split at h1
  · rename_i b hb
    obtain ⟨t, ht, hb⟩ := Option.bind_eq_some_iff.mp hb
    obtain ⟨tv, c1, c2⟩ := tyE_is hc hx s1 i1 ht
    exact ⟨y, v, tv, u, b, rfl, cn.cv, by rw [hK]; exact c2, by rw [hK]; exact ist.ok t tv b c1 hb, h1.now s1 rfl⟩
  · exact False.elim h1
/-! ### raise -/
def sRaise (c : Str) : SM := fun e S => .ex ⟨c, none⟩ e S
/-- what raising an own class with a text asks of it -/
structure ExcR (G : Glb) (mg : Str → Option Value) (c : Str) : Prop where
  ex : ∃ C, mg c = some (.ref C) ∧ G.ce c = some C ∧ PySem.W.excIn G.K C [.type "ValueError", .type "Exception", .type "BaseException", .type "object"] "ValueError.__new__" = true ∧ PySem.W.keepIn G.K (.ref C) = true ∧
    PySem.W.subIn G.K (.ref C) (.type "BaseException") = some true ∧ PySem.W.typeIn G.K (.ref C) = some (.type "type")
/-! ### try .. except C as e: the exception is data in its suite -/
def exnD (x : Exc) : D := match x.fld with
  | none => .exn x.cls [] []
  | some (f, d) => .exn x.cls [f] [d]
def SR.off (i : Nat) : SR → SR
  | .nx e S => .nx (e.set i none) S
  | .bk e S => .bk (e.set i none) S
  | .ct e S => .ct (e.set i none) S
  | .rt d S => .rt d S
  | _ => .bad
def sTry (tab : Str → Bool) (i : Nat) (body suite : SM) : SM := fun e S => match body e S with
  | .ex x e1 S1 => if tab x.cls then (suite (e1.set i (some (exnD x))) S1).off i else .ex x e1 S1
  | r => r
theorem RepE.drop {φ : Fi} {H : Hp} {σ : St} {env : EnvD} (i : Nat) (h : RepE G φ H σ env) : RepE G φ H (σ.set i none) (env.set i none) := by
  have q := h.wipe [i]
  exact q
def tOfS (G : Glb) (W : WX) (f : SM) : TS := fun N σ H => ∃ env φ S, SOk G φ S H ∧ RepE G φ H σ env ∧ PostS G W φ H (f env S) N
theorem DSs.can {b : List Stmt} {f : SM} (h : DSs G X W b f) : PSs X b (tOfS G W f) := by
  obtain ⟨t, p, q⟩ := h
  exact ⟨fun pins s σ H D I ⟨env, φ, S, so, r, z⟩ => p.run pins s σ H D I (q σ H env φ S D so r z)⟩
/-- the body's own wish, where the clause is met -/
theorem is_exn {φ : Fi} {H : Hp} {S : Store} {x : Exc} {cls : Value} {d : Option Addr} {a : Addr} (s : SOk G φ S H) (na : H a = none) (ix : IsX G φ H x cls d) : Is G φ (upd H a (ExH cls d a)) (exnD x) (.ref a) ∧ SOk G φ S (upd H a (ExH cls d a)) ∧ Ext φ H φ (upd H a (ExH cls d a)) := by
  have e : Ext φ H φ (upd H a (ExH cls d a)) := .laid na
  refine ⟨?_, s.laid na, e⟩
  obtain ⟨C, h1, h2, h3⟩ := ix.ext e
  subst h2
  have o : φ.out a ∧ (upd H a (ExH (.ref C) d a)) a = some (ExH (.ref C) d a) := ⟨s.fresh na, upd_same⟩
  unfold exnD
  split at h3
  · rename_i q
    try rw [q]
    exact ⟨a, C, d, rfl, o, h1, .inl ⟨h3, rfl, rfl⟩⟩
  · rename_i f dd q
    try rw [q]
    obtain ⟨b, v, e1, e2, e3, e4⟩ := h3
    exact ⟨a, C, d, rfl, o, h1, .inr ⟨b, [(f, v)], e1, ⟨e2, e3⟩, rfl, .one e4⟩⟩
section
variable {S : Store} {env : EnvD}
@[simp] theorem eIsE_is {tab : TyD → Option Bool} {f : EM} : eIsE tab f env S = (f env S).bind fun d S => match (tyE S d).bind tab with
  | some b => .ok (.bl b) S
  | none => .bad := rfl
@[simp] theorem tyE_exn {c ks ds} : tyE S (.exn c ks ds) = some (.x c) := rfl
@[simp] theorem tyE_non : tyE S .non = some (.b .none) := rfl
@[simp] theorem tabX_b {a : Ty} {sub} : tabX sub (.b a) = some false := rfl
@[simp] theorem tabX_o {c sub} : tabX sub (.o c) = some false := rfl
@[simp] theorem tabX_x {c sub} : tabX sub (.x c) = some (sub c) := rfl
@[simp] theorem sRaise_is {c : Str} : sRaise c env S = .ex ⟨c, none⟩ env S := rfl
theorem sTry_is {tab : Str → Bool} {i : Nat} {f g : SM} : sTry tab i f g env S = match f env S with
  | .ex x e1 S1 => if tab x.cls then (g (e1.set i (some (exnD x))) S1).off i else .ex x e1 S1
  | r => r := rfl
@[simp] theorem exnD_n {c : Str} : exnD ⟨c, none⟩ = .exn c [] [] := rfl
@[simp] theorem exnD_s {c f : Str} {d : D} : exnD ⟨c, some (f, d)⟩ = .exn c [f] [d] := rfl
@[simp] theorem off_nx {i : Nat} {e : EnvD} : SR.off i (.nx e S) = .nx (e.set i none) S := rfl
@[simp] theorem off_rt {i : Nat} {d : D} : SR.off i (.rt d S) = .rt d S := rfl
end
end DL
end
section

end
section
/-! sorted, of a list of texts. -/
namespace DL
open PySem L2
variable [DL.Nm]
variable {G : Glb} {X : Cx} {W : WX}
def leS (a b : Str) : Bool := !ltK1 (.inr b) (.inr a)
def sortS (l : List Str) : List Str := l.mergeSort leS
/-- sorted, of a list of texts alone -/
def bSortedS (ds : List D) (S : Store) : ER := match ds with
  | [d] => match (listD S d).bind strsD with
    | some ns => if ns.length < 64 then .ok (.lst ((sortS ns).map .str)) S else .bad
    | none => .bad
  | _ => .bad
@[simp] theorem bSortedS_l {ns : List Str} {S : Store} : bSortedS [.lst (ns.map .str)] S = if ns.length < 64 then .ok (.lst ((sortS ns).map .str)) S else .bad := by
  unfold bSortedS
  dsimp only
  rw [show listD S (.lst (ns.map .str)) = some (ns.map .str) from rfl, Option.bind_some, strsD_map]
end DL
end
section
/-! xs.count(y), of nested data. -/
namespace L2
open PySem PySem.Spec PyProof.Rows
variable [DL.Nm]
def rCountD (K : PySem.W.Frag) : V → List V → Hp → VK → Prop := fun x xs H Q => ∃ (a : Addr) (y : V) (d : PyData) (ds : List PyData), x = V.ref a ∧ xs = [y] ∧ Dp K H (V.ref a) (.list ds) ∧ Dp K H y d ∧
  SeqAt.shaped (.list ds) = true ∧ SeqAt.shaped d = true ∧ Q (.int (ds.countP fun z => PyData.eqv z d : Nat)) H
theorem mt_countD {X : Cx} (hu : X.A.units + 65 < cLine) : MtR X "list.count" (rCountD X.K) := by
  intro pins s σ H x xs v us Q I rx rxs h
  obtain ⟨a, y, d, ds, rfl, rfl, hl, hy, sl, sd, q⟩ := h
  cases rx
  obtain ⟨uy, rfl, ry⟩ := rxs.one
  obtain ⟨bs, r1⟩ := Dp.reads I d y uy hy ry
  have lay : PyData.canLayAll0 ds = true := SeqAt.canLay_of_shaped sl
  have room : X.A.units + 1 + min (PyData.depthAll ds) d.depth < cLine := room_in_shaped sd hu
  cases hl with
  | lst hs ha =>
    obtain ⟨its, rv, ⟨⟨cls, dd, data, sls⟩, n, ho, hc, hdn, hdt⟩, _⟩ := I.list hs
    simp only at hc hdt
    subst hc hdt
    obtain ⟨as, rd⟩ := Dp.readsAll I ds _ its ha rv
    have said : its.map (SeqAt.readOf s.heap) = ds := SeqAt.readsAll_map ds its as lay rd
    refine call_meets PySem.F.slot_list_count ⟨_, ho, rfl⟩ PySem.F.entry_list_count (PySem.F.args_list_count_2 _ _)
      (SeqAt.list_countAt a its.toArray n dd sls uy fun u => PyData.eqv (SeqAt.readOf s.heap u) d) ⟨ho, SeqAt.items_eqAt (vs := its.toArray) (show ReadsAll s.heap its.toArray.toList ds as from rd) r1 lay (SeqAt.canLay_of_shaped sd) room, ?_⟩
    have e : (its.toArray.toList.countP fun u => PyData.eqv (SeqAt.readOf s.heap u) d) = ds.countP fun z => PyData.eqv z d := by
      rw [← said, List.countP_map]; rfl
    refine ⟨.int (ds.countP fun z => PyData.eqv z d : Nat), H, I.tok _, ⟨s.toks, ?_⟩, q⟩
    rw [e]
end L2
namespace DL
open PySem L2
variable [DL.Nm]
variable {G : Glb} {X : Cx} {W : WX}
noncomputable def mCountD (o : D) (ds : List D) (S : Store) : ER := match ds with
  | [d] => match o.pyO S, d.pyO S with
    | some (.list ps), some p => if SeqAt.shaped (.list ps) && SeqAt.shaped p then .ok (.int (ps.countP fun z => PyData.eqv z p : Nat)) S else .bad
    | _, _ => .bad
  | _ => .bad
theorem dm_countD (hK : X.K = G.K) (hu : X.A.units + 65 < cLine) : DMeth G X "list.count" mCountD := by
  refine ⟨_, mt_countD hu, fun W φ S H σ dx ds x xs Q s ix ids h => ?_⟩
  unfold mCountD at h
  split at h
  · obtain ⟨y, rfl, k⟩ := IsL.inv1 ids
    split at h
    · rename_i ps p e1 e2
      split at h
      · rename_i hs
        simp only [Bool.and_eq_true] at hs
        have d1 := D.pyO_dp s ix e1
        obtain ⟨a, rfl⟩ := Dp.isRef d1
        exact ⟨a, y, p, ps, rfl, rfl, by rw [hK]; exact d1, by rw [hK]; exact D.pyO_dp s k e2, hs.1, hs.2, h.now s rfl⟩
      · exact False.elim h
    · exact False.elim h
  · exact False.elim h
end DL
end
section
namespace DL
open PySem L2
variable [DL.Nm]
variable {G : Glb} {X : Cx} {W : WX}
/-- list + list, kept as a cell -/
noncomputable def opAddM (x y : D) (S : Store) : ER := match listD S x, listD S y with
  | some a, some b => if sz (a.length + b.length) then .ok (.loc S.length) (S ++ [.lst (a ++ b)]) else .bad
  | _, _ => .bad
@[simp] theorem opAddM_ll {a b : List D} {S : Store} : opAddM (.lst a) (.lst b) S = if sz (a.length + b.length) then .ok (.loc S.length) (S ++ [.lst (a ++ b)]) else .bad := rfl
end DL
end
section
namespace L2
open PySem PySem.Spec PyProof.Rows
variable [DL.Nm]
end L2
namespace DL
open PySem L2
variable [DL.Nm]
variable {G : Glb} {X : Cx} {W : WX}
/-- xs.extend(ys): ys any list -/
noncomputable def mExtendX (o : D) (ds : List D) (S : Store) : ER := cellL S o fun l xs => match ds with
  | [d] => match listD S d with
    | some ys => if sz (xs.length + ys.length) then .ok .non (S.set l (.lst (xs ++ ys))) else .bad
    | _ => .bad
  | _ => .bad
@[simp] theorem mExtendX_l {l : Nat} {ys : List D} {S : Store} : mExtendX (.loc l) [.lst ys] S = match cel S l with | some (.lst xs) => if sz (xs.length + ys.length) then .ok .non (S.set l (.lst (xs ++ ys))) else .bad | _ => .bad := by
  unfold mExtendX
  rw [cellL_c]
  rfl
end DL
end
section
/-! range(i, j, -1) -/
namespace DL
open PySem L2
variable [DL.Nm]
variable {G : Glb} {X : Cx} {W : WX}
def downD (lo : Int) (n : Nat) : List D := (List.range n).map fun k => .int (lo + (k : Nat) * -1)
noncomputable def iRangeDn (f : LM) : LM := fun env S => (f env S).bind fun ds S => match ds with
  | [.int i, .int j, .int c] => if rOk i ∧ rOk j ∧ c = -1 then .ok (downD i (i - j).toNat) S else .bad
  | _ => .bad
@[simp] theorem iRangeDn_is {f : LM} : iRangeDn f env S = (f env S).bind fun ds S => match ds with
  | [.int i, .int j, .int c] => if rOk i ∧ rOk j ∧ c = -1 then .ok (downD i (i - j).toNat) S else .bad
  | _ => .bad := rfl
end DL
end
section
/-! isinstance(e, ValueError); e.f of an exception that is data; raise C(x), where C's own __init__ keeps x. -/
namespace L2
open PySem PySem.Spec PyProof.Rows
variable [DL.Nm]
/-- e.f of a kept exception -/
def tXe (K : PySem.W.Frag) (f : Str) (te : TE) : TE := fun σ H Q => te σ H fun x H1 => ∃ (a C dd : Addr) (fs : List (Str × V)) (v : V), x = .ref a ∧ ExcD K C ∧ PySem.W.findIn K (.ref C) f = some none ∧ H1 a = some (DL.ExH (.ref C) (some dd) a) ∧ H1 dd = some (.xd fs) ∧ fs.lookup f = some v ∧ Q v H1
theorem pe_xe {X : Cx} {e : Expr} {te : TE} {pos : Pos} {n : Str} (he : PE X e te) (hb : attributeBase e n X.env (eval e X.env) = eval e X.env := by rfl) : PE X (.Attribute e n pos) (tXe X.K n te) := by
  refine ⟨fun pins s σ H Q I h => ?_⟩
  refine attr_of hb (thn (he.run pins s σ H _ I h) fun u s1 hh => ?_)
  obtain ⟨x, H1, I1, rx, a, C, dd, fs, v, ex, T, hno, ea, ed, l, q⟩ := hh
  subst ex
  obtain rfl : u = Value.ref a := rx
  obtain ⟨⟨oe, vs, g1, ⟨g2, g3⟩, g4⟩, _, _⟩ := (show ObjOk X.prog X.w H1 s1.heap a (DL.ExH (.ref C) (some dd) a) from I1.hok a _ ea)
  have hx : ObjOk X.prog X.w H1 s1.heap dd (.xd fs) := I1.hok dd _ ed
  obtain ⟨mA, hns, hr⟩ := hx
  obtain ⟨od, ho, hl⟩ := lookIn_ns hns
  obtain ⟨u, hu, ru⟩ := RelO.some_of (v := v) (o := mA n) (by rw [← l]; exact hr n)
  have J : PySem.W.InstAt s1.heap a oe C (some od) := ⟨g1, g2, by unfold PySem.W.notCls; rw [g4] <;> rfl, by rw [g3]; exact ho⟩
  exact HandSPX.exc_get I1.kIn J T.hg T.hk T.hs (PySem.W.findObj_own T.hd hno rfl (by rw [hl, hu])) (handed_of ru) ⟨v, H1, I1.tok _, ru, q⟩
/-- an __init__ that keeps its one argument -/
def spI (C : Addr) (f : Str) : Sp := fun vs H Q E => ∃ a y, vs = [.ref a, y] ∧ H a = some (exo a C none) ∧ ∀ dx, H dx = none → dx ≠ a → Q .non (upd (upd H dx (exd dx [(f, y)])) a (exo a C (some dx)))
theorem init1_ok {P : Program} {w : World} {K : PySem.W.Frag} {mg : Str → Option Value} {base : Heap} {x qual y f : Str} {st : Stmt} {fI C : Addr} {fd : FuncData} {p1 p2 p3 pos : Pos} (F : Fun K x qual st fI fd) (S : FnScope ["self", y] ["self", y] (defScope st)) (hb : defBody st = [.Assign [.Attribute (.Name "self" p1) f p2] (.Name y p3) pos])
    (T : OexC K C) (hno : PySem.W.findIn K (.ref C) f = some none) (v1 : Vis (defScope st) "self") (v2 : Vis (defScope st) y) (hd : (y == ("__debug__" : Str)) = false) (hcd : (y == ("__classdict__" : Str)) = false) (k : Nat) : FnOk P w K mg base (L2.CX P w) (k + 1) fI fd ["self", y] (spI C f) := by
  refine F.okX S (fun vs H Q E h => by obtain ⟨a, z, rfl, _⟩ := h; rfl) (fun cdv A outer s H vs Q E hr h => ?_)
  rw [hb]
  refine ⟨_, pss_one (ps_ost (pe_var (i := 0) rfl v1) (pe_var (i := 1) rfl v2 hd hcd)), ?_⟩
  obtain ⟨a, z, rfl, e, q⟩ := h
  exact ⟨z, rfl, .ref a, rfl, a, C, rfl, T, hno, .inl ⟨e, fun dx n ne => q dx n ne⟩⟩
/-- the class, by the written part -/
def oexB (K : PySem.W.Frag) (C : Addr) : Bool := match K.lookup C with
  | some ⟨.type "type", _, .cls cd, sl⟩ => (match cd.mro, sl.toList with
    | .ref C' :: bm, [_, _, _, _, some (.builtin n), _] => C' == C && n == "ValueError.__new__" && cd.hasDict && !cd.hasDel && PySem.HandSPX.refsVE bm
    | _, _ => false)
  | _ => false
theorem oexB_ok {K : PySem.W.Frag} {C : Addr} (q : oexB K C = true) (sa : PySem.W.findIn K (.ref C) "__setattr__" = some (some (.builtin "object.__setattr__"))) (exC : PySem.W.subIn K (.ref C) (.type "BaseException") = some true) (tyC : PySem.W.typeIn K (.ref C) = some (.type "type")) (kC : PySem.W.keepIn K (.ref C) = true) : OexC K C := by
  refine ⟨?_, sa, exC, tyC, kC⟩
  unfold oexB at q
  split at q
  · rename_i dd cd sl ho
    split at q
    · rename_i C' bm k0 k1 k2 k3 n k5 hm hs
      simp only [Bool.and_eq_true, beq_iff_eq, Bool.not_eq_true'] at q
      obtain ⟨⟨⟨⟨rfl, rfl⟩, hdi⟩, hdel⟩, ht⟩ := q
      obtain ⟨nm, bs, mro, ns, qn, hd, sn, sub, ab, col, del⟩ := cd
      dsimp only at hm hdel hdi
      subst hm hdel hdi
      have hsl : sl = #[k0, k1, k2, k3, some (.builtin "ValueError.__new__"), k5] := by
        obtain ⟨l⟩ := sl
        simp only at hs
        rw [hs]
      subst hsl
      exact ⟨nm, qn, ns, bs, bm, sn, sub, ab, col, dd, k0, k1, k2, k3, k5, ho, ht⟩
    · cases q
  · cases q
end L2
namespace DL
open PySem L2
variable [DL.Nm]
variable {G : Glb} {X : Cx} {W : WX}
/-! ### isinstance(e, ValueError) -/
theorem isT_v {T : String} (hM : PySem.W.kitMeta T = true) (hb : ∀ t : Ty, PySem.W.kitOne G.K (.type t.nm) (.type T) = some false) (ho : ∀ c C, G.ca c = some C → PySem.W.mroIn G.K C (.type T) = some false) (hx : ∀ c C, G.ce c = some C → PySem.W.mroIn G.K C (.type T) = some true) :
    IsTE G (.type T) (tabX fun _ => true) := by
  refine ⟨fun t tv r q1 q2 => ?_⟩
  cases t with
  | b t => cases (show tv = _ from q1); cases q2; exact hb t
  | o c =>
    obtain ⟨C, e1, rfl⟩ := (show ∃ C, G.ca c = some C ∧ tv = .ref C from q1); cases q2
    exact kit_type hM (ho c C e1)
  | x c =>
    obtain ⟨C, e1, rfl⟩ := (show ∃ C, G.ce c = some C ∧ tv = .ref C from q1); cases q2
    exact kit_type hM (hx c C e1)
theorem isT_VE (ho : ∀ c C, G.ca c = some C → PySem.W.mroIn G.K C (.type "ValueError") = some false) (hx : ∀ c C, G.ce c = some C → PySem.W.mroIn G.K C (.type "ValueError") = some true) : IsTE G (.type "ValueError") (tabX fun _ => true) :=
  isT_v (by decide +kernel) (fun t => kit_ty (by cases t <;> decide +kernel)) ho hx
/-! ### e.f -/
def xFld (d : D) (f : Str) : Option D := match d with
  | .exn _ [g] [x] => if g = f then some x else none
  | _ => none
def eXFld (f : Str) (g : EM) : EM := fun env S => (g env S).bind fun d S => match xFld d f with
  | some x => .ok x S
  | none => .bad
@[simp] theorem eXFld_is {f : Str} {g : EM} {env : EnvD} {S : Store} : eXFld f g env S = (g env S).bind fun d S => match xFld d f with
  | some x => .ok x S
  | none => .bad := rfl
theorem de_xFld {e : Expr} {f : Str} {g : EM} {pos : Pos} (hK : X.K = G.K) (hx : ∀ c C, G.ce c = some C → ExcD G.K C) (hno : ∀ c C, G.ce c = some C → PySem.W.findIn G.K (.ref C) f = some none) (he : DE G X W e g) (hb : attributeBase e f X.env (eval e X.env) = eval e X.env := by rfl) :
    DE G X W (.Attribute e f pos) (eXFld f g) := by
  obtain ⟨t, pt, qt⟩ := he
  refine ⟨_, pe_xe pt hb, fun σ H env φ S Q s re h => ?_⟩
  refine qt σ H env φ S _ s re (PostE.bind h fun d S1 φ1 H1 y e1 s1 i1 h1 => ?_)
  split at h1
  · rename_i x hf
    unfold xFld at hf
    split at hf
    · rename_i c g' x'
      split at hf
      · rename_i eg
        cases hf
        subst eg
        obtain ⟨a, C, d, rfl, ⟨_, h⟩, q1, q2⟩ := i1
        rcases q2 with ⟨_, z, _⟩ | ⟨b', fs, z, ⟨_, r⟩, hks, hvs⟩
        · cases z
        · obtain ⟨v, rest, e2, iv, e3⟩ := hvs
          obtain ⟨p, fs', rfl⟩ : ∃ p fs', fs = p :: fs' := by
            cases fs with
            | nil => cases e2
            | cons p fs' => exact ⟨p, fs', rfl⟩
          obtain ⟨f1, v1⟩ := p
          rw [List.map_cons] at hks e2
          have k1 : f1 = g' := (List.cons.inj hks).1
          have v1e : v1 = v := (List.cons.inj e2).1
          subst k1 v1e z
          exact ⟨a, C, b', _, v1, rfl, by rw [hK]; exact hx c C q1, by rw [hK]; exact hno c C q1, h, r, by simp [List.lookup], h1.now s1 iv⟩
      · cases hf
    · cases hf
  · exact False.elim h1
/-! ### raise C(x), where C's own __init__ keeps x -/
structure ExcF (G : Glb) (P : Program) (w : World) (mg : Str → Option Value) (base : Heap) (k : Nat) (c f : Str) : Prop where
  ex : ∃ C fI fd ps, mg c = some (.ref C) ∧ G.ce c = some C ∧ OexC G.K C ∧ PySem.W.findIn G.K (.ref C) "__init__" = some (some (.ref fI)) ∧ PySem.W.typeIn G.K (.ref fI) = some (.type "function") ∧ FnOk P w G.K mg base (L2.CX P w) k fI fd ps (spI C f) ∧ Binds G.K fd ps []
def sRaiseF (c f : Str) (g : EM) : SM := fun e S => (g e S).bindS e fun d S => .ex ⟨c, some (f, d)⟩ e S
@[simp] theorem sRaiseF_is {c f : Str} {g : EM} {e : EnvD} {S : Store} : sRaiseF c f g e S = (g e S).bindS e fun d S => .ex ⟨c, some (f, d)⟩ e S := rfl
theorem ds_raiseF {c f : Str} {k : Nat} {a : Expr} {p pos pos' : Pos} {g : EM} (xf : ExcF G X.prog X.w X.mg X.base k c f) (hK : X.K = G.K) (hc : X.calm = true) (hr : Room (k + 1) X.A) (tk : Takes X W) (hg : Gl X c) (ha : DE G X W a g)
    (hdb : (c == ("__debug__" : Str)) = false := by decide) (na : starEach [a] X.env = (false, eval a X.env) :: starEach [] X.env := by rfl) (hpl : (backTo pos (starEach [] X.env)).any (·.1) = false := by rfl) :
    DS G X W (.Raise (some (.Call (.Name c p) [a] [] pos)) none pos') (sRaiseF c f g) := by
  obtain ⟨C, fI, fd, ps, hm, hce, T, iC, tI, F1, hb⟩ := xf.ex
  rw [← hK] at T iC tI F1 hb
  obtain ⟨t, pt, qt⟩ := ha
  refine ⟨_, ps_raise hc tk (pmk_oex (dvs := []) T iC tI F1 hr hb .nil (passes_call tk fun _ _ _ _ h => h.elim) hg hm (pa_cons pt pa_nil na) hdb na hpl), fun σ H env φ S N s re h => ?_⟩
  refine qt σ H env φ S _ s re (PostE.bindS re (g := fun d S => .ex ⟨c, some (f, d)⟩ env S) h fun d S1 φ1 H1 y e1 s1 i1 h1 => ?_)
  refine ⟨by simp, fun a na => ⟨a, y, rfl, upd_same, fun dx nd ne => ⟨rfl, dx, [(f, y)], upd_same, ?_, ?_, ?_⟩⟩⟩
  · rw [upd_ne ne, upd_same]
  · rw [upd_ne ne] at nd; exact nd
  · have nd1 : H1 dx = none := by rw [upd_ne ne] at nd; exact nd
    have hH : upd (del (upd (upd (upd H1 a (exo a C none)) dx (exd dx [(f, y)])) a (exo a C (some dx))) a) dx (.xd [(f, y)]) = upd H1 dx (.xd [(f, y)]) := by
      funext b
      by_cases h1 : b = dx
      · rw [h1, upd_same, upd_same]
      · rw [upd_ne h1, upd_ne h1]
        by_cases h2 : b = a
        · rw [h2, del_same, na]
        · rw [del_ne h2, upd_ne h2, upd_ne h1, upd_ne h2]
    have e2 : Ext φ1 H1 φ1 (upd H1 dx (.xd [(f, y)])) := .laid nd1
    show W (.ref C) (some dx) σ _
    rw [hH]
    exact h1 φ1 _ σ (.ref C) (some dx) e2 (s1.laid nd1) ((re.ext e1).ext e2) ⟨C, hce, rfl, dx, y, rfl, s1.fresh nd1, upd_same, i1.ext e2⟩
end DL
end
section
namespace DL
open PySem L2
variable [DL.Nm]
noncomputable section
def g__law_alone : SM :=
(sSeq (sAsg (eLst (lCons (eIsE (tabX (fun c => decide (c = "NoName"))) (eVar 0)) (lCons (eIsE (tabX (fun c => decide (c = "NoDay"))) (eVar 0)) (lCons (eIsE (tabX (fun c => decide (c = "NoRace"))) (eVar 0)) (lCons (eIsE (tabX (fun c => decide (c = "NoMark"))) (eVar 0)) lNil))))) (bName 1))
(sSeq (sAsg (eOp opAdd (eVar 1) (eLst (lCons (eIsE (tabX (fun c => decide (c = "NoCode"))) (eVar 0)) (lCons (eIsE (tabX (fun c => decide (c = "NoPlace"))) (eVar 0)) (lCons (eIsE (tabX (fun c => decide (c = "NoStub"))) (eVar 0)) (lCons (eIsE (tabX (fun c => decide (c = "NoWay"))) (eVar 0)) lNil)))))) (bName 1))
(sSeq (sAsg (eOp opAdd (eVar 1) (eLst (lCons (eIsE (tabX (fun c => decide (c = "NoTime"))) (eVar 0)) (lCons (eIsE (tabX (fun c => decide (c = "NoLetter"))) (eVar 0)) (lCons (eIsE (tabX (fun c => decide (c = "NotWhole"))) (eVar 0)) lNil))))) (bName 1))
(sSeq (sAsg (eOp opAdd (eVar 1) (eLst (lCons (eIsE (tabX (fun c => decide (c = "NoRuling"))) (eVar 0)) (lCons (eIsE (tabX (fun c => decide (c = "NoChain"))) (eVar 0)) (lCons (eIsE (tabX (fun c => decide (c = "NoBits"))) (eVar 0)) (lCons (eIsE (tabX (fun c => decide (c = "NoLot"))) (eVar 0)) lNil)))))) (bName 1))
(sSeq (sAsg (eOp opAdd (eVar 1) (eLst (lCons (eIsE (tabX (fun c => decide (c = "NoCount"))) (eVar 0)) (lCons (eIsE (tabX (fun c => decide (c = "NoPhase"))) (eVar 0)) (lCons (eIsE (tabX (fun c => decide (c = "Twice"))) (eVar 0)) (lCons (eIsE (tabX (fun c => decide (c = "NotThere"))) (eVar 0)) lNil)))))) (bName 1))
(sSeq (sAsg (eOp opAdd (eVar 1) (eLst (lCons (eIsE (tabX (fun c => decide (c = "NoRow"))) (eVar 0)) (lCons (eIsE (tabX (fun c => decide (c = "NoText"))) (eVar 0)) lNil)))) (bName 1))
(sSeq (sIf (eOr (eOp opNe (eMeth "list" mCountD (eVar 1) (lCons (eC (.bl true)) lNil)) (eC (.int 1))) (eOr (eNot (eIsE (tabX (fun _ => true)) (eVar 0))) (eNot (eIsE (tabX (fun _ => true)) (eVar 0)))))
(sRet (eC (.str "")))
sSkip)
(sSeq (sAsg (eC (.str "NoName NoDay NoRace NoMark NoCode NoPlace NoStub NoWay NoTime NoLetter NotWhole NoRuling")) (bName 2))
(sSeq (sAsg (eOp opAdd (eVar 2) (eC (.str " NoChain NoBits NoLot NoCount NoPhase Twice NotThere NoRow NoText"))) (bName 2))
(sRet (eOp opIxX (eMeth "str" mSplit (eVar 2) (lCons (eC (.str " ")) lNil)) (eMeth "list" mIndex (eVar 1) (lCons (eC (.bl true)) lNil)))))))))))))
def d__law_alone : FD := fnF .pure 3 g__law_alone
def g__law_next : SM :=
(sSeq (sIf (eOp opGt (eOp opIxX (eVar 0) (eC (.int 0))) (eC (.int 0)))
(sSeq (sAsg (eOp opMod (eOp opIxX (eVar 0) (eC (.int 0))) (eVar 1)) (bName 2))
(sSeq (sPutX (eVar 0) (eC (.int 0)) (eOp opFdiv (eOp opIxX (eVar 0) (eC (.int 0))) (eVar 1)))
(sRet (eVar 2))))
sSkip)
(sSeq (sPutX (eVar 0) (eC (.int 2)) (eOp opAdd (eOp opIxX (eVar 0) (eC (.int 2))) (eC (.int 1))))
(sSeq (sAsg (eOp opMod (eOp opPow (eOp opAdd (eOp opAdd (eOp opMul (eOp opIxX (eVar 0) (eC (.int 1))) (eOp opAdd (eOp opMul (eC (.int 2)) (eOp opIxX (eVar 0) (eC (.int 2)))) (eC (.int 1)))) (eOp opMul (eOp opMul (eC (.int 7919)) (eOp opIxX (eVar 0) (eC (.int 2)))) (eOp opIxX (eVar 0) (eC (.int 2))))) (eC (.int 11))) (eC (.int 5))) (eC (.int 2147483647))) (bName 3))
(sRet (eOp opMod (eOp opFdiv (eVar 3) (eC (.int 11))) (eVar 1))))))
def d__law_next : FD := fnF .keep 4 g__law_next
def g__law_pick : SM :=
(sRet (eOp opIxX (eVar 1) (eCall d__law_next (lCons (eVar 0) (lCons (eCallB bLenX (lCons (eVar 1) lNil)) lNil)))))
def d__law_pick : FD := fnF .keep 2 g__law_pick
def g__law_any_sign : SM :=
(sSeq (sAsg (eC (.str " !\"#$&'()*+,-./0123456789:;<=>?@ABCDEFGHIJKLMNOPQRSTUVWXYZ[\\]^_`abcdefghijklmnopqrstuvwxyz{|}~")) (bName 1))
(sRet (eCall d__law_pick (lCons (eVar 0) (lCons (eVar 1) lNil)))))
def d__law_any_sign : FD := fnF .keep 2 g__law_any_sign
def g__law_begun : SM :=
(sSeq (sAsg (eOp opAdd (eC (.int 1)) (eOp opMod (eOp opPow (eOp opAdd (eOp opAdd (eOp opMul (eOp opMod (eVar 0) (eC (.int 2147483647))) (eC (.int 48271))) (eOp opMul (eC (.int 104729)) (eVar 1))) (eC (.int 7))) (eC (.int 3))) (eC (.int 2147483629)))) (bName 2))
(sSeq (sIf (eOp opGe (eVar 0) (eOp opPow (eC (.int 10)) (eC (.int 18))))
(sRet (eLstM (lCons (eOp opSub (eVar 0) (eOp opPow (eC (.int 10)) (eC (.int 18)))) (lCons (eVar 2) (lCons (eC (.int 0)) lNil)))))
sSkip)
(sRet (eLstM (lCons (eC (.int 0)) (lCons (eVar 2) (lCons (eC (.int 0)) lNil)))))))
def d__law_begun : FD := fnF .keep 3 g__law_begun
def g__law_changed_text : SM :=
(sSeq (sPar 2 3 (lCons (eCall d__law_next (lCons (eVar 0) (lCons (eC (.int 3)) lNil))) (lCons (eCall d__law_next (lCons (eVar 0) (lCons (eOp opAdd (eCallB bLenX (lCons (eVar 1) lNil)) (eC (.int 1))) lNil))) lNil)))
(sSeq (sAsg (eCall d__law_pick (lCons (eVar 0) (lCons (eOp opAdd (eC (.str "\"\\(), -01none")) (eVar 1)) lNil))) (bName 4))
(sSeq (sAsg (eIf (eOp opGt (eCall d__law_next (lCons (eVar 0) (lCons (eC (.int 5)) lNil))) (eC (.int 0))) (eVar 4) (eCall d__law_any_sign (lCons (eVar 0) lNil))) (bName 5))
(sSeq (sIf (eOp opEq (eVar 2) (eC (.int 0)))
(sRet (eOp opAdd (eOp opAdd (eSlice (eVar 1) oNone (oSome (eVar 3))) (eVar 5)) (eSlice (eVar 1) (oSome (eVar 3)) oNone)))
sSkip)
(sRet (eIf (eOp opEq (eVar 2) (eC (.int 1))) (eOp opAdd (eSlice (eVar 1) oNone (oSome (eVar 3))) (eSlice (eVar 1) (oSome (eOp opAdd (eVar 3) (eC (.int 1)))) oNone)) (eOp opAdd (eOp opAdd (eSlice (eVar 1) oNone (oSome (eVar 3))) (eVar 5)) (eSlice (eVar 1) (oSome (eOp opAdd (eVar 3) (eC (.int 1)))) oNone))))))))
def d__law_changed_text : FD := fnF .keep 6 g__law_changed_text
def g__law_ten_b1 : SM :=
(sAsg (eOp opMul (eVar 1) (eC (.int 10))) (bName 1))
def g__law_ten : SM :=
(sSeq (sAsg (eC (.int 1)) (bName 1))
(sSeq (sFor (iRange1 (lCons (eVar 0) lNil)) (bName 2) g__law_ten_b1)
(sRet (eVar 1))))
def d__law_ten : FD := fnF .pure 3 g__law_ten
def g__law_thing_b1 (r__law_thing : FD) : SM :=
(sDrop (eMeth "list" mAppend (eVar 5) (lCons (eIf (eOp opEq (eCall d__law_next (lCons (eVar 0) (lCons (eC (.int 2)) lNil))) (eC (.int 0))) (eCall d__law_pick (lCons (eVar 0) (lCons (eVar 4) lNil))) (eCall d__law_any_sign (lCons (eVar 0) lNil))) lNil)))
def g__law_thing_e1 (r__law_thing : FD) : EM :=
(eCall r__law_thing (lCons (eVar 0) (lCons (eOp opSub (eVar 1) (eC (.int 1))) lNil)))
def g__law_thing (r__law_thing : FD) : SM :=
(sSeq (sAsg (eCall d__law_next (lCons (eVar 0) (lCons (eC (.int 8)) lNil))) (bName 2))
(sSeq (sIf (eOp opLt (eVar 2) (eC (.int 2)))
(sSeq (sAsg (eLst (lCons (eC (.int 0)) (lCons (eC (.int 1)) (lCons (eC (.int 7)) (lCons (eNeg (eC (.int 1))) (lCons (eC (.int 10)) (lCons (eNeg (eC (.int 10))) (lCons (eC (.int 1000000000)) (lCons (eOp opSub (eCall d__law_next (lCons (eVar 0) (lCons (eC (.int 5000)) lNil))) (eC (.int 2500))) (lCons (eOp opAdd (eCall d__law_ten (lCons (eC (.int 39)) lNil)) (eC (.int 7))) (lCons (eOp opSub (eC (.int 1)) (eCall d__law_ten (lCons (eC (.int 30)) lNil))) lNil))))))))))) (bName 3))
(sRet (eCall d__law_pick (lCons (eVar 0) (lCons (eVar 3) lNil)))))
sSkip)
(sSeq (sIf (eOp opEq (eVar 2) (eC (.int 2)))
(sRet (eC .non))
sSkip)
(sSeq (sIf (eOr (eOp opLt (eVar 2) (eC (.int 5))) (eOp opEq (eVar 1) (eC (.int 0))))
(sSeq (sAsg (eLst (lCons (eC (.str "\"")) (lCons (eC (.str "\\")) (lCons (eC (.str "none")) (lCons (eC (.str "(")) (lCons (eC (.str ")")) (lCons (eC (.str ", ")) (lCons (eC (.str "-1")) (lCons (eC (.str "a")) (lCons (eC (.str " ")) (lCons (eC (.str "\\\"")) (lCons (eC (.str "\"\"")) (lCons (eC (.str "~")) (lCons (eC (.str "1")) lNil)))))))))))))) (bName 4))
(sSeq (sAsg (eLstM lNil) (bName 5))
(sSeq (sFor (iRange1 (lCons (eCall d__law_next (lCons (eVar 0) (lCons (eC (.int 5)) lNil))) lNil)) (bName 6) (g__law_thing_b1 r__law_thing))
(sRet eNev))))
sSkip)
(sRet (eCallB bTuple (lCons (eLc (iRange1 (lCons (eCall d__law_next (lCons (eVar 0) (lCons (eC (.int 4)) lNil))) lNil)) (bName 6) eYes (g__law_thing_e1 r__law_thing) [6]) lNil)))))))
def d__law_thing_n : Nat → FD
  | 0 => fnF .pure 7 sNev
  | n + 1 => fnF .pure 7 (g__law_thing (d__law_thing_n n))
def d__law_thing : FD := d__law_thing_n 12
def g__law_deep_thing_b1 : SM :=
(sAsg (eCall d__law_pick (lCons (eVar 0) (lCons (eLst (lCons (eTup (lCons (eVar 2) lNil)) (lCons (eTup (lCons (eC (.int 1)) (lCons (eVar 2) lNil))) (lCons (eTup (lCons (eVar 2) (lCons (eC .non) (lCons (eC (.str "x")) lNil)))) lNil)))) lNil))) (bName 2))
def g__law_deep_thing : SM :=
(sSeq (sAsg (eCall d__law_thing (lCons (eVar 0) (lCons (eC (.int 0)) lNil))) (bName 2))
(sSeq (sFor (iRange1 (lCons (eVar 1) lNil)) (bName 3) g__law_deep_thing_b1)
(sRet (eVar 2))))
def d__law_deep_thing : FD := fnF .keep 4 g__law_deep_thing
def g__law_refusal : SM :=
(sSeq (sAsg (eCall d__law_alone (lCons (eVar 0) lNil)) (bName 1))
(sSeq (sIf (eOp opEq (eVar 1) (eC (.str "NotThere")))
(sRet (eLst (lCons (eVar 1) (lCons (eXFld "thing" (eVar 0)) lNil))))
sSkip)
(sSeq (sIf (eOp opEq (eVar 1) (eC (.str "NoRow")))
(sRet (eLst (lCons (eVar 1) (lCons (eXFld "at" (eVar 0)) lNil))))
sSkip)
(sRet (eIf (eOp opEq (eVar 1) (eC (.str "NoText"))) (eLst (lCons (eVar 1) (lCons (eXFld "row" (eVar 0)) lNil))) (eLst (lCons (eVar 1) lNil)))))))
def d__law_refusal : FD := fnF .pure 2 g__law_refusal
def g__law_like_t1 (r__law_like : FD) : EM :=
(eNot (eCall r__law_like (lCons (eOp opIxX (eVar 0) (eVar 3)) (lCons (eOp opIxX (eVar 1) (eVar 3)) lNil))))
def g__law_like_t2 (r__law_like : FD) : EM :=
(eNot (eCall r__law_like (lCons (eOp opIxX (eVar 0) (eVar 4)) (lCons (eOp opIxX (eVar 1) (eVar 4)) lNil))))
def g__law_like (r__law_like : FD) : SM :=
(sSeq (sIf (eIsC (tabOr (tabB .tuple) (tabOr (tabB .list) tabF)) (eVar 1))
(sSeq (sIf (eOr (eNot (eIsC (tabOr (tabB .tuple) (tabOr (tabB .list) tabF)) (eVar 0))) (eOp opNe (eIsC (tabB .tuple) (eVar 0)) (eIsC (tabB .tuple) (eVar 1))))
(sRet (eC (.bl false)))
sSkip)
(sSeq (sAsg (eLc (iRange1 (lCons (eCallB (bII minII) (lCons (eCallB bLenX (lCons (eVar 0) lNil)) (lCons (eCallB bLenX (lCons (eVar 1) lNil)) lNil))) lNil)) (bName 3) (g__law_like_t1 r__law_like) (eVar 3) [3]) (bName 2))
(sRet (eAnd (eOp opEq (eCallB bLenX (lCons (eVar 0) lNil)) (eCallB bLenX (lCons (eVar 1) lNil))) (eOp opEq (eVar 2) (eLst lNil))))))
sSkip)
(sSeq (sIf (eIsC (tabB .dict) (eVar 1))
(sSeq (sIf (eOr (eNot (eIsC (tabB .dict) (eVar 0))) (eOp opNe (eCallB bListX (lCons (eVar 0) lNil)) (eCallB bListX (lCons (eVar 1) lNil))))
(sRet (eC (.bl false)))
sSkip)
(sRet (eOp opEq (eLc (iAny (eVar 1)) (bName 4) (g__law_like_t2 r__law_like) (eVar 4) [4]) (eLst lNil))))
sSkip)
(sSeq (sIf (eOr (eOp opIsN (eVar 1) (eC .non)) (eOp opIsN (eVar 0) (eC .non)))
(sRet (eAnd (eOp opIsN (eVar 0) (eC .non)) (eOp opIsN (eVar 1) (eC .non))))
sSkip)
(sSeq (sIf (eIsC (tabB .str) (eVar 1))
(sRet (eAnd (eIsC (tabB .str) (eVar 0)) (eOp opEq (eVar 0) (eVar 1))))
sSkip)
(sRet (eAnd (eIsC (tabB .int) (eVar 0)) (eAnd (eOp opEq (eIsC (tabB .bool) (eVar 0)) (eIsC (tabB .bool) (eVar 1))) (eOp opEq (eVar 0) (eVar 1)))))))))
def d__law_like_n : Nat → FD
  | 0 => fnF .pure 5 sNev
  | n + 1 => fnF .pure 5 (g__law_like (d__law_like_n n))
def d__law_like : FD := d__law_like_n 12
def g__law_names_e1 : EM :=
(eOp opAdd (eOp opIxX (eVar 2) (eOp opMod (eOp opAdd (eVar 3) (eOp opMul (eC (.int 5)) (eVar 5))) (eC (.int 26)))) (eOp opIxX (eVar 4) (eOp opMod (eOp opAdd (eVar 3) (eOp opMul (eVar 5) (eVar 5))) (eC (.int 6)))))
def g__law_names : SM :=
(sSeq (sAsg (eLst (lCons (eC (.str "place")) (lCons (eC (.str "letter")) (lCons (eC (.str "doubt")) (lCons (eC (.str "use")) (lCons (eC (.str "close")) (lCons (eC (.str "admit")) (lCons (eC (.str "refuse")) (lCons (eC (.str "counts")) (lCons (eC (.str "doubled")) (lCons (eC (.str "out")) (lCons (eC (.str "enter")) (lCons (eC (.str "move")) lNil))))))))))))) (bName 1))
(sSeq (sAsg (eOp opAdd (eVar 1) (eLst (lCons (eC (.str "strike")) (lCons (eC (.str "restore")) (lCons (eC (.str "one")) (lCons (eC (.str "any")) (lCons (eC (.str "rank")) (lCons (eC (.str "vote")) (lCons (eC (.str "roll")) (lCons (eC (.str "uses")) (lCons (eC (.str "settled")) (lCons (eC (.str "mixed")) (lCons (eC (.str "late")) (lCons (eC (.str "blank")) lNil)))))))))))))) (bName 1))
(sSeq (sAsg (eOp opAdd (eVar 1) (eLst (lCons (eC (.str "spoilt")) (lCons (eC (.str "stands")) lNil)))) (bName 1))
(sSeq (sAsg (eTup (lCons (eC (.str "abcdefghijklmnopqrstuvwxyz")) (lCons (eCall d__law_next (lCons (eVar 0) (lCons (eC (.int 26)) lNil))) lNil))) (bTup (bCons (bName 2) (bCons (bName 3) bNil))))
(sSeq (sIf (eOp opEq (eCall d__law_next (lCons (eVar 0) (lCons (eC (.int 4)) lNil))) (eC (.int 0)))
(sRet (eOp opAdd (eSlice (eVar 1) (oSome (eVar 3)) oNone) (eSlice (eVar 1) oNone (oSome (eVar 3)))))
sSkip)
(sSeq (sAsg (eLst (lCons (eC (.str "x")) (lCons (eC (.str "")) (lCons (eC (.str "qx")) (lCons (eC (.str "xxxqx")) (lCons (eC (.str "zq")) (lCons (eC (.str "qqqqqqq")) lNil))))))) (bName 4))
(sRet (eLc (iRange1 (lCons (eC (.int 26)) lNil)) (bName 5) eYes g__law_names_e1 [5]))))))))
def d__law_names : FD := fnF .keep 6 g__law_names
def g__law_read_number_c1 : EM :=
(eAnd (eOp opLt (eVar 2) (eCallB bLenX (lCons (eVar 0) lNil))) (eOr (eOp opIn (eOp opIxX (eVar 0) (eVar 2)) (eC (.str "0123456789"))) (eAnd (eOp opEq (eVar 2) (eVar 1)) (eOp opEq (eOp opIxX (eVar 0) (eVar 2)) (eC (.str "-"))))))
def g__law_read_number_b1 : SM :=
(sAsg (eOp opAdd (eVar 2) (eC (.int 1))) (bName 2))
def g__law_read_number : SM :=
(sSeq (sAsg (eVar 1) (bName 2))
(sSeq (sWhile g__law_read_number_c1 g__law_read_number_b1)
(sSeq (sAsg (eSlice (eVar 0) (oSome (eVar 1)) (oSome (eVar 2))) (bName 3))
(sSeq (sAsg (eIf (eOp opEq (eSlice (eVar 3) oNone (oSome (eC (.int 1)))) (eC (.str "-"))) (eSlice (eVar 3) (oSome (eC (.int 1))) oNone) (eVar 3)) (bName 4))
(sSeq (sIf (eOr (eOp opEq (eVar 4) (eC (.str ""))) (eOr (eOp opGt (eCallB bLenX (lCons (eVar 4) lNil)) (eC (.int 400))) (eAnd (eOp opEq (eOp opIxX (eVar 4) (eC (.int 0))) (eC (.str "0"))) (eOp opNe (eVar 3) (eC (.str "0"))))))
(sRet (eC .non))
sSkip)
(sRet (eTup (lCons (eCallB bInt (lCons (eVar 3) lNil)) (lCons (eVar 2) lNil)))))))))
def d__law_read_number : FD := fnF .pure 5 g__law_read_number
def g__law_read_word_c1 : EM :=
(eOp opLt (eVar 1) (eCallB bLenX (lCons (eVar 0) lNil)))
def g__law_read_word_b1 : SM :=
(sSeq (sAsg (eOp opIxX (eVar 0) (eVar 1)) (bName 3))
(sSeq (sIf (eOp opEq (eVar 3) (eC (.str "\"")))
(sRet (eTup (lCons eNev (lCons (eOp opAdd (eVar 1) (eC (.int 1))) lNil))))
sSkip)
(sSeq (sIf (eOp opEq (eVar 3) (eC (.str "\\")))
(sSeq (sAsg (eOp opAdd (eVar 1) (eC (.int 1))) (bName 1))
(sSeq (sAsg (eSlice (eVar 0) (oSome (eVar 1)) (oSome (eOp opAdd (eVar 1) (eC (.int 1))))) (bName 3))
(sIf (eOp opNotIn (eVar 3) (eLst (lCons (eC (.str "\"")) (lCons (eC (.str "\\")) lNil))))
(sRet (eC .non))
sSkip)))
sSkip)
(sSeq (sIf (eNot (eChain opLe opLe (eC (.str " ")) (eVar 3) (eC (.str "~"))))
(sRet (eC .non))
sSkip)
(sSeq (sDrop (eMeth "list" mAppend (eVar 2) (lCons (eVar 3) lNil)))
(sAsg (eOp opAdd (eVar 1) (eC (.int 1))) (bName 1)))))))
def g__law_read_word : SM :=
(sSeq (sAsg (eLstM lNil) (bName 2))
(sSeq (sWhile g__law_read_word_c1 g__law_read_word_b1)
(sRet (eC .non))))
def d__law_read_word : FD := fnF .pure 4 g__law_read_word
def g__law_text_e1 (r__law_text : FD) : EM :=
(eOp opAdd (eOp opMul (eC (.str "\\")) (eCallB bInt (lCons (eOp opIn (eVar 2) (eLst (lCons (eC (.str "\"")) (lCons (eC (.str "\\")) lNil)))) lNil))) (eVar 2))
def g__law_text (r__law_text : FD) : SM :=
(sSeq (sIf (eIsC (tabB .tuple) (eVar 0))
(sRet (eOp opAdd (eOp opAdd (eC (.str "(")) eNev) (eC (.str ")"))))
sSkip)
(sSeq (sIf (eIsC (tabB .str) (eVar 0))
(sSeq (sAsg (eLc (iSeq (eVar 0)) (bName 2) eYes (g__law_text_e1 r__law_text) [2]) (bName 1))
(sRet (eOp opAdd (eOp opAdd (eC (.str "\"")) eNev) (eC (.str "\"")))))
sSkip)
(sRet (eIf (eOp opIsN (eVar 0) (eC .non)) (eC (.str "none")) eNev))))
def d__law_text_n : Nat → FD
  | 0 => fnF .pure 4 sNev
  | n + 1 => fnF .pure 4 (g__law_text (d__law_text_n n))
def d__law_text : FD := d__law_text_n 12
def g_thing_text (r_thing_text : FD) : SM :=
(sSeq (sIf (eIsC (tabB .tuple) (eVar 0))
(sRet (eOp opAdd (eOp opAdd (eC (.str "(")) eNev) (eC (.str ")"))))
sSkip)
(sSeq (sIf (eOp opIsN (eVar 0) (eC .non))
(sRet (eC (.str "none")))
sSkip)
(sSeq (sIf (eIsC (tabB .str) (eVar 0))
(sRet (eOp opAdd (eOp opAdd (eC (.str "\"")) eNev) (eC (.str "\""))))
sSkip)
(sRet eNev))))
def d_thing_text_n : Nat → FD
  | 0 => fnF .pure 2 sNev
  | n + 1 => fnF .pure 2 (g_thing_text (d_thing_text_n n))
def d_thing_text : FD := d_thing_text_n 12
def g_board_text : SM :=
(sRet eNev)
def d_board_text : FD := fnF .pure 2 g_board_text
def g_number_from_c1 : EM :=
(eAnd (eOp opLt (eVar 2) (eCallB bLenX (lCons (eVar 0) lNil))) (eOp opIn (eOp opIxX (eVar 0) (eVar 2)) (eC (.str "0123456789"))))
def g_number_from_b1 : SM :=
(sAug 2 opAddI (eC (.int 1)))
def g_number_from : SM :=
(sSeq (sAsg (eIf (eOp opEq (eSlice (eVar 0) (oSome (eVar 1)) (oSome (eOp opAdd (eVar 1) (eC (.int 1))))) (eC (.str "-"))) (eOp opAdd (eVar 1) (eC (.int 1))) (eVar 1)) (bName 2))
(sSeq (sWhile g_number_from_c1 g_number_from_b1)
(sSeq (sAsg (eSlice (eVar 0) (oSome (eVar 1)) (oSome (eVar 2))) (bName 3))
(sSeq (sAsg eNev (bName 4))
(sSeq (sIf (eOr (eOp opEq (eVar 4) (eC (.str ""))) (eOr (eOp opGt (eCallB bLenX (lCons (eVar 4) lNil)) (eC (.int 400))) (eAnd (eOp opEq (eOp opIxX (eVar 4) (eC (.int 0))) (eC (.str "0"))) (eOp opNe (eVar 3) (eC (.str "0"))))))
(sRet (eC .non))
sSkip)
(sRet (eTup (lCons (eCallB bInt (lCons (eVar 3) lNil)) (lCons (eVar 2) lNil)))))))))
def d_number_from : FD := fnF .pure 5 g_number_from
def g_text_from_c1 : EM :=
(eAnd (eOp opLt (eVar 1) (eCallB bLenX (lCons (eVar 0) lNil))) (eOp opNe (eOp opIxX (eVar 0) (eVar 1)) (eC (.str "\""))))
def g_text_from_b1 : SM :=
(sSeq (sIf (eOp opEq (eOp opIxX (eVar 0) (eVar 1)) (eC (.str "\\")))
(sSeq (sAug 1 opAddI (eC (.int 1)))
(sIf (eOp opNotIn (eSlice (eVar 0) (oSome (eVar 1)) (oSome (eOp opAdd (eVar 1) (eC (.int 1))))) (eTup (lCons (eC (.str "\"")) (lCons (eC (.str "\\")) lNil))))
(sRet (eC .non))
sSkip))
sSkip)
(sSeq (sIf (eNot (eChain opLe opLe (eC (.str " ")) (eOp opIxX (eVar 0) (eVar 1)) (eC (.str "~"))))
(sRet (eC .non))
sSkip)
(sSeq (sDrop (eMeth "list" mAppend (eVar 2) (lCons (eOp opIxX (eVar 0) (eVar 1)) lNil)))
(sAug 1 opAddI (eC (.int 1))))))
def g_text_from : SM :=
(sSeq (sAsg (eLstM lNil) (bName 2))
(sSeq (sAug 1 opAddI (eC (.int 1)))
(sSeq (sWhile g_text_from_c1 g_text_from_b1)
(sRet (eIf (eOp opLt (eVar 1) (eCallB bLenX (lCons (eVar 0) lNil))) (eTup (lCons eNev (lCons (eOp opAdd (eVar 1) (eC (.int 1))) lNil))) (eC .non))))))
def d_text_from : FD := fnF .pure 3 g_text_from
end
end DL
end
section
/-! str(i), str(text), text.upper() -/
namespace DL
open PySem L2
variable [DL.Nm]
variable {G : Glb} {X : Cx} {W : WX}
def bStrX (ds : List D) (S : Store) : ER := match ds with
  | [.int i] => if i.natAbs.log2 < 1920 then .ok (.str (toString i)) S else .bad
  | _ => .bad
theorem dc_strX : DCall G X (.type "str") bStrX := by
  refine ⟨_, call_str_int, fun W φ S H σ ds xs Q s i h => ?_⟩
  unfold bStrX at h
  split at h
  · rename_i n
    split at h
    · rename_i hz
      obtain ⟨x, rfl, k⟩ := IsL.inv1 i
      cases (show x = _ from k)
      exact ⟨n, rfl, hz, h.now s rfl⟩
    · exact bad_no h
  · exact bad_no h
@[simp] theorem bStrX_i {i : Int} {S : Store} : bStrX [.int i] S = if i.natAbs.log2 < 1920 then .ok (.str (toString i)) S else .bad := rfl
def eUpper (f : EM) : EM := fun env S => (f env S).bind fun d S => match d with
  | .str a => if a.length ≤ 5592405 then .ok (.str (Txt.upper a)) S else .bad
  | _ => .bad
@[simp] theorem eUpper_is {f : EM} {env : EnvD} {S : Store} : eUpper f env S = (f env S).bind fun d S => match d with
  | .str a => if a.length ≤ 5592405 then .ok (.str (Txt.upper a)) S else .bad
  | _ => .bad := rfl
end DL
end
section
/-! a text * n -/
namespace L2
open PySem PySem.Spec PyProof.Rows
variable [DL.Nm]
/-- a text so many times -/
def repS (a : Str) (n : Nat) : Str := ⟨(List.replicate n a.cps).foldl (· ++ ·) #[]⟩
theorem repS_size (a : Str) (n : Nat) : (repS a n).cps.size = a.cps.size * n := by
  have go : ∀ (n : Nat) (acc : Array Nat), ((List.replicate n a.cps).foldl (· ++ ·) acc).size = acc.size + a.cps.size * n := by
    intro n
    induction n with
    | zero => intro acc; simp
    | succ n ih =>
      intro acc
      rw [List.replicate_succ, List.foldl_cons, ih, Array.size_append, Nat.mul_succ]
      omega
  have := go n #[]
  simpa [repS] using this
end L2
namespace DL
open PySem L2
variable [DL.Nm]
variable {G : Glb} {X : Cx} {W : WX}
end DL
end
section
/-! Loops, comprehensions and equality of plain lists. -/
namespace DL
open PySem L2
variable [DL.Nm]
theorem forD_cons {b : D → EnvD → Option EnvD} {body : SM} {d : D} {ds : List D} {e : EnvD} {S : Store} : forD b body (d :: ds) e S = match b d e with
    | none => .bad
    | some e1 => match body e1 S with
      | .nx e2 S2 => forD b body ds e2 S2
      | .ct e2 S2 => forD b body ds e2 S2
      | .bk e2 S2 => .nx e2 S2
      | .rt d S2 => .rt d S2
      | .ex x e2 S2 => .ex x e2 S2
      | .bad => .bad := rfl
/-- a loop that is never left, by what holds of the turn, the slots and the store -/
theorem forD_inv {b : D → EnvD → Option EnvD} {body : SM} (P : Nat → EnvD → Store → Prop) : ∀ (ds : List D) (n : Nat) {e : EnvD} {S : Store}, P n e S →
    (∀ i d e S, ds[i]? = some d → P (n + i) e S → ∃ e1, b d e = some e1 ∧ ∃ e2 S2, (body e1 S = .nx e2 S2 ∨ body e1 S = .ct e2 S2) ∧ P (n + i + 1) e2 S2) → ∃ e' S', forD b body ds e S = .nx e' S' ∧ P (n + ds.length) e' S'
  | [], n, e, S, h0, _ => ⟨e, S, rfl, h0⟩
  | d :: ds, n, e, S, h0, st => by
    obtain ⟨e1, hb, e2, S2, hg, h1⟩ := st 0 d e S rfl h0
    obtain ⟨e', S', hf, h2⟩ := forD_inv P ds (n + 1) (e := e2) (S := S2) h1 fun i d' e S hd hp => by
      have := st (i + 1) d' e S (by simpa using hd) (by rw [show n + (i + 1) = n + 1 + i by omega]; exact hp)
      rw [show n + (i + 1) + 1 = n + 1 + i + 1 by omega] at this
      exact this
    refine ⟨e', S', ?_, by rw [show n + (d :: ds).length = n + 1 + ds.length by simp; omega]; exact h2⟩
    rw [forD_cons, hb]
    dsimp only
    rcases hg with hg | hg <;> rw [hg] <;> exact hf
theorem range_get {lo : Int} {n i : Nat} {d : D} (h : (rangeD lo n)[i]? = some d) : i < n ∧ d = .int (lo + (i : Nat)) := by
  unfold rangeD at h
  rw [List.getElem?_map] at h
  obtain ⟨j, e1, e2⟩ := Option.map_eq_some_iff.mp h
  obtain ⟨hl, e3⟩ := List.getElem?_eq_some_iff.mp e1
  simp at hl e3
  subst e3 e2
  exact ⟨hl, rfl⟩
@[simp] theorem range_len {lo : Int} {n : Nat} : (rangeD lo n).length = n := by simp [rangeD]
/-- for k in range(n) -/
theorem forD_range {b : D → EnvD → Option EnvD} {body : SM} (P : Nat → EnvD → Store → Prop) {lo : Int} {n : Nat} {e : EnvD} {S : Store} (h0 : P 0 e S)
    (st : ∀ i e S, i < n → P i e S → ∃ e1, b (.int (lo + (i : Nat))) e = some e1 ∧ ∃ e2 S2, (body e1 S = .nx e2 S2 ∨ body e1 S = .ct e2 S2) ∧ P (i + 1) e2 S2) : ∃ e' S', forD b body (rangeD lo n) e S = .nx e' S' ∧ P n e' S' := by
  obtain ⟨e', S', h1, h2⟩ := forD_inv (b := b) (body := body) P (rangeD lo n) 0 h0 fun i d e S hd hp => by
    obtain ⟨hl, rfl⟩ := range_get hd
    have := st i e S hl (by simpa using hp)
    simpa using this
  exact ⟨e', S', h1, by simpa using h2⟩
/-- a comprehension whose parts leave the store: filter, then map -/
theorem lcD_fm {b : D → EnvD → Option EnvD} {tt elt : EM} {env : EnvD} {S : Store} (p : D → Bool) (f : D → D) : ∀ (ds acc : List D),
    (∀ d ∈ ds, ∃ e1, b d env = some e1 ∧ tt e1 S = .ok (.bl (p d)) S ∧ (p d = true → elt e1 S = .ok (f d) S)) → acc.length + ds.length ≤ 16777216 → lcD b tt elt env acc ds S = .ok (acc ++ (ds.filter p).map f) S
  | [], acc, _, _ => by simp
  | d :: ds, acc, h, hl => by
    obtain ⟨e1, hb, ht, he⟩ := h d List.mem_cons_self
    have hl' : acc.length + (ds.length + 1) ≤ 16777216 := hl
    unfold lcD
    rw [hb]
    dsimp only
    rw [ht]
    cases hp : p d with
    | true =>
      dsimp only
      rw [he hp]
      dsimp only
      rw [if_pos (show sz (acc.length + 1) by unfold sz; omega), lcD_fm p f ds _ (fun d' hd => h d' (List.mem_cons_of_mem _ hd)) (by simp; omega)]
      simp [List.filter_cons, hp]
    | false =>
      dsimp only
      rw [lcD_fm p f ds acc (fun d' hd => h d' (List.mem_cons_of_mem _ hd)) (by omega)]
      simp [List.filter_cons, hp]
theorem lcD_map {b : D → EnvD → Option EnvD} {elt : EM} {env : EnvD} {S : Store} (f : D → D) (ds : List D)
    (h : ∀ d ∈ ds, ∃ e1, b d env = some e1 ∧ elt e1 S = .ok (f d) S) (hl : ds.length ≤ 16777216) : lcD b eYes elt env [] ds S = .ok (ds.map f) S := by
  rw [lcD_fm (tt := eYes) (fun _ => true) f ds [] (fun d hd => let ⟨e1, a, c⟩ := h d hd; ⟨e1, a, rfl, fun _ => c⟩) (by simpa using hl), List.nil_append, List.filter_eq_self.mpr (fun _ _ => rfl)]
/-! equality of lists and tuples of whole numbers -/
theorem pys_ints {S : Store} : ∀ ns : List Int, D.pys S (ns.map .int) = some (ns.map .int)
  | [] => rfl
  | n :: ns => by simp [D.pys, D.py, pys_ints ns]
theorem eqv_ints : ∀ as bs : List Int, PyData.eqvAll (as.map .int) (bs.map .int) = decide (as = bs)
  | [], [] => rfl
  | [], _ :: _ => rfl
  | _ :: _, [] => rfl
  | a :: as, b :: bs => by
    show (PyData.eqv (.int a) (.int b) && PyData.eqvAll (as.map .int) (bs.map .int)) = _
    rw [eqv_ints as bs]
    show ((a == b) && decide (as = bs)) = _
    by_cases h : a = b
    · subst h; simp
    · simp [h]
/-- data whose texts may be laid, not deeper than k -/
def Shp (k : Nat) (p : PyData) : Prop := p.canLay0 = true ∧ p.depth ≤ k
theorem Shp.shaped {k : Nat} {p : PyData} (h : Shp k p) (hk : k ≤ 64) : SeqAt.shaped p = true := by
  unfold SeqAt.shaped
  rw [h.1, decide_eq_true (by have := h.2; omega : p.depth ≤ 64)]; rfl
theorem Shp.mono {k m : Nat} {p : PyData} (h : Shp k p) (hk : k ≤ m) : Shp m p := ⟨h.1, Nat.le_trans h.2 hk⟩
theorem Shp.int {k : Nat} (i : Int) : Shp k (.int i) := ⟨rfl, Nat.zero_le _⟩
theorem Shp.bool {k : Nat} (i : Bool) : Shp k (.bool i) := ⟨rfl, Nat.zero_le _⟩
theorem Shp.none {k : Nat} : Shp k .none := ⟨rfl, Nat.zero_le _⟩
theorem Shp.str {k : Nat} {x : Str} (h : PyData.strOk x = true) : Shp k (.str x) := ⟨h, Nat.zero_le _⟩
theorem Shp.all {k : Nat} : ∀ {ps : List PyData}, (∀ p ∈ ps, Shp k p) → PyData.canLayAll0 ps = true ∧ PyData.depthAll ps ≤ k
  | [], _ => ⟨rfl, Nat.zero_le _⟩
  | p :: ps, h => by
    obtain ⟨h1, h2⟩ := h p List.mem_cons_self
    obtain ⟨h3, h4⟩ := Shp.all fun q hq => h q (List.mem_cons_of_mem _ hq)
    refine ⟨?_, Nat.max_le.mpr ⟨h2, h4⟩⟩
    show (p.canLay0 && PyData.canLayAll0 ps) = true
    rw [h1, h3]; rfl
theorem Shp.list {k : Nat} {ps : List PyData} (h : ∀ p ∈ ps, Shp k p) : Shp (k + 1) (.list ps) := ⟨(Shp.all h).1, Nat.succ_le_succ (Shp.all h).2⟩
theorem Shp.tuple {k : Nat} {ps : List PyData} (h : ∀ p ∈ ps, Shp k p) : Shp (k + 1) (.tuple ps) := ⟨(Shp.all h).1, Nat.succ_le_succ (Shp.all h).2⟩
theorem Shp.ints {k : Nat} {ns : List Int} : ∀ p ∈ ns.map PyData.int, Shp k p := fun p hp => by
  obtain ⟨i, _, rfl⟩ := List.mem_map.mp hp
  exact .int i
theorem opEqB_of {neg : Bool} {x y : D} {S : Store} {p q : PyData} (hx : x.pyO S = some p) (hy : y.pyO S = some q) (h1 : SeqAt.shaped p = true) (h2 : SeqAt.shaped q = true) (ns : ∀ a b, x = .str a → y = .str b → False) :
    opEqB neg x y S = .ok (.bl (if neg then !PyData.eqv p q else PyData.eqv p q)) S := by
  unfold opEqB
  split
  · exact (ns _ _ rfl rfl).elim
  · rw [hx, hy]
    simp only [h1, h2, Bool.and_self, if_true]
@[simp] theorem opEq_tints {as bs : List Int} {S : Store} : opEq (.tup (as.map .int)) (.tup (bs.map .int)) S = .ok (.bl (decide (as = bs))) S := by
  rw [opEq, opEqB_of (p := .tuple (as.map .int)) (q := .tuple (bs.map .int)) (by simp [D.pyO, D.py, pys_ints]) (by simp [D.pyO, D.py, pys_ints]) ((Shp.tuple (k := 0) Shp.ints).shaped (by decide)) ((Shp.tuple (k := 0) Shp.ints).shaped (by decide)) (fun _ _ h => by cases h), PyData.eqv, eqv_ints]
  rfl
@[simp] theorem opNe_tints {as bs : List Int} {S : Store} : opNe (.tup (as.map .int)) (.tup (bs.map .int)) S = .ok (.bl (!decide (as = bs))) S := by
  rw [opNe, opEqB_of (p := .tuple (as.map .int)) (q := .tuple (bs.map .int)) (by simp [D.pyO, D.py, pys_ints]) (by simp [D.pyO, D.py, pys_ints]) ((Shp.tuple (k := 0) Shp.ints).shaped (by decide)) ((Shp.tuple (k := 0) Shp.ints).shaped (by decide)) (fun _ _ h => by cases h), PyData.eqv, eqv_ints]
  rfl
@[simp] theorem opEq_lints {as bs : List Int} {S : Store} : opEq (.lst (as.map .int)) (.lst (bs.map .int)) S = .ok (.bl (decide (as = bs))) S := by
  rw [opEq, opEqB_of (p := .list (as.map .int)) (q := .list (bs.map .int)) (by simp [D.pyO, D.py, pys_ints]) (by simp [D.pyO, D.py, pys_ints]) ((Shp.list (k := 0) Shp.ints).shaped (by decide)) ((Shp.list (k := 0) Shp.ints).shaped (by decide)) (fun _ _ h => by cases h), PyData.eqv, eqv_ints]
  rfl
@[simp] theorem opNe_lints {as bs : List Int} {S : Store} : opNe (.lst (as.map .int)) (.lst (bs.map .int)) S = .ok (.bl (!decide (as = bs))) S := by
  rw [opNe, opEqB_of (p := .list (as.map .int)) (q := .list (bs.map .int)) (by simp [D.pyO, D.py, pys_ints]) (by simp [D.pyO, D.py, pys_ints]) ((Shp.list (k := 0) Shp.ints).shaped (by decide)) ((Shp.list (k := 0) Shp.ints).shaped (by decide)) (fun _ _ h => by cases h), PyData.eqv, eqv_ints]
  rfl
@[simp] theorem exit_bl0 {b : Bool} {S : Store} : exitD .pure [] (.bl b) S = .ok (.bl b) [] := exit_of (d' := .bl b) rfl (by simp)
theorem cut_map {α β : Type} (f : α → β) (xs : List α) (lo hi : Option Int) : cutD (xs.map f) lo hi = (cutD xs lo hi).map f := by
  simp [cutD]
theorem cut_len {α : Type} (xs : List α) (lo hi : Option Int) : (cutD xs lo hi).length ≤ xs.length := by
  unfold cutD
  rw [List.length_take, List.length_drop]; omega
/-- the law's own loop: every cell of the script, with its number -/
theorem law_loop {b : D → EnvD → Option EnvD} {body : SM} {e : EnvD} {S : Store} (P : EnvD → Prop) (ms : List Int) (h0 : P e)
    (st : ∀ (i : Nat) (c : Int) (e : EnvD), i < ms.length → P e → ∃ e1 e2, b (.tup [.int (i : Nat), .int c]) e = some e1 ∧ body e1 S = .nx e2 S ∧ P e2) : ∃ e', forD b body (enumD 0 (ms.map .int)) e S = .nx e' S := by
  obtain ⟨e', S', h, _, rfl⟩ := forD_inv (b := b) (body := body) (fun _ e S' => P e ∧ S' = S) (enumD 0 (ms.map .int)) 0 (e := e) (S := S) ⟨h0, rfl⟩ (by
    rintro i d e S' hd ⟨hp, rfl⟩
    obtain ⟨x, hx, rfl⟩ := enumD_get 0 _ i d hd
    rw [List.getElem?_map] at hx
    obtain ⟨c, hc, rfl⟩ := Option.map_eq_some_iff.mp hx
    have hi : i < ms.length := (List.getElem?_eq_some_iff.mp hc).1
    obtain ⟨e1, e2, h1, h2, h3⟩ := st i c e hi hp
    rw [Nat.zero_add]
    exact ⟨e1, h1, e2, S', .inl h2, h3, rfl⟩)
  exact ⟨e', h⟩
end DL
end
section
/-! What a refusal is: `_law_alone`, `_law_refusal`. -/
namespace DL
open PySem L2
variable [DL.Nm]
variable {S : Store}
theorem bls_py : ∀ bs : List Bool, D.pys S (bs.map .bl) = some (bs.map .bool)
  | [] => rfl
  | b :: bs => by simp [D.pys, D.py, bls_py bs]
theorem bl_eqv (a b : Bool) : PyData.eqv (.bool a) (.bool b) = (a == b) := by cases a <;> cases b <;> rfl
theorem shp_bls (bs : List Bool) : SeqAt.shaped (.list (bs.map PyData.bool)) = true :=
  (Shp.list (k := 0) fun p hp => by obtain ⟨b, _, rfl⟩ := List.mem_map.mp hp; exact .bool b).shaped (by decide)
theorem bls_pyO (bs : List Bool) : D.pyO S (.lst (bs.map .bl)) = some (.list (bs.map .bool)) := by simp [D.pyO, D.py, bls_py]
theorem count_bls {bs : List Bool} : mCountD (.lst (bs.map .bl)) [.bl true] S = .ok (.int (bs.countP fun b => b == true : Nat)) S := by
  unfold mCountD
  dsimp only
  rw [bls_pyO, show D.pyO S (.bl true) = some (.bool true) from rfl]
  dsimp only
  rw [shp_bls, show SeqAt.shaped (.bool true) = true from rfl, if_pos (show (true && true) = true from rfl), List.countP_map]
  have e : (fun z => PyData.eqv z (.bool true)) ∘ PyData.bool = fun b => b == true := by funext b; exact bl_eqv b true
  rw [e]
theorem index_bls {bs : List Bool} (h : true ∈ bs) : mIndex (.lst (bs.map .bl)) [.bl true] S = .ok (.int (bs.idxOf true : Nat)) S := by
  unfold mIndex
  dsimp only
  rw [bls_pyO, show D.pyO S (.bl true) = some (.bool true) from rfl]
  dsimp only
  rw [shp_bls, show SeqAt.shaped (.bool true) = true from rfl]
  have g : ∀ l : List Bool, true ∈ l → (l.map PyData.bool).findIdx? (fun z => PyData.eqv z (.bool true)) = some (l.idxOf true) := fun l => by
    induction l with
    | nil => intro h; cases h
    | cons a l ih =>
      intro h
      rw [List.map_cons, List.findIdx?_cons, List.idxOf_cons, bl_eqv]
      cases a with
      | true => rfl
      | false =>
        have hb : true ∈ l := (List.mem_cons.mp h).resolve_left fun z => by cases z
        rw [ih hb]; rfl
  simp [g bs h]
def excNs : List Str := ["NoName", "NoDay", "NoRace", "NoMark", "NoCode", "NoPlace", "NoStub", "NoWay", "NoTime", "NoLetter", "NotWhole", "NoRuling", "NoChain", "NoBits", "NoLot", "NoCount", "NoPhase", "Twice", "NotThere", "NoRow", "NoText"]
theorem splA : Txt.split ("NoName NoDay NoRace NoMark NoCode NoPlace NoStub NoWay NoTime NoLetter NotWhole NoRuling" ++ " NoChain NoBits NoLot NoCount NoPhase Twice NotThere NoRow NoText" : Str) " " = excNs := by decide +kernel
theorem lenA : ("NoName NoDay NoRace NoMark NoCode NoPlace NoStub NoWay NoTime NoLetter NotWhole NoRuling" : Str).length + (" NoChain NoBits NoLot NoCount NoPhase Twice NotThere NoRow NoText" : Str).length ≤ 200 ∧ ("NoName NoDay NoRace NoMark NoCode NoPlace NoStub NoWay NoTime NoLetter NotWhole NoRuling" ++ " NoChain NoBits NoLot NoCount NoPhase Twice NotThere NoRow NoText" : Str).length ≤ 200 ∧ ((" " : Str).length == 0) = false := by decide +kernel
def isA (c : Str) : List Bool := excNs.map fun n => decide (c = n)
theorem isA_ok : ∀ c ∈ excNs, (isA c).countP (fun b => b == true) = 1 ∧ true ∈ isA c ∧ excNs[(isA c).idxOf true]? = some c ∧ (isA c).length = 21 := by decide +kernel
theorem alone_ok {c : Str} {ks : List Str} {ds : List D} (h : c ∈ excNs) : d__law_alone [.exn c ks ds] S = .ok (.str c) S := by
  obtain ⟨a1, a2, a3, a4⟩ := isA_ok c h
  have cn := count_bls (S := S) (bs := isA c)
  have ix := index_bls (S := S) a2
  rw [a1] at cn
  have at0 : atI (excNs.map D.str) ((isA c).idxOf true : Nat) = some (.str c) := atI_nat (by rw [List.getElem?_map, a3]; rfl)
  have ty : ∀ S, tyE S (.exn c ks ds) = some (.x c) := fun _ => rfl
  obtain ⟨l1, l3, l4⟩ := lenA
  have ad : ∀ S', opAdd (.str "NoName NoDay NoRace NoMark NoCode NoPlace NoStub NoWay NoTime NoLetter NotWhole NoRuling") (.str " NoChain NoBits NoLot NoCount NoPhase Twice NotThere NoRow NoText") S' = .ok (.str ("NoName NoDay NoRace NoMark NoCode NoPlace NoStub NoWay NoTime NoLetter NotWhole NoRuling" ++ " NoChain NoBits NoLot NoCount NoPhase Twice NotThere NoRow NoText" : Str)) S' := fun S' => by
    rw [opAdd_ss, if_pos (sz_is (Nat.le_trans l1 (by decide)))]
  have e : (isA c).map D.bl = [.bl (decide (c = "NoName")), .bl (decide (c = "NoDay")), .bl (decide (c = "NoRace")), .bl (decide (c = "NoMark")), .bl (decide (c = "NoCode")), .bl (decide (c = "NoPlace")), .bl (decide (c = "NoStub")), .bl (decide (c = "NoWay")), .bl (decide (c = "NoTime")), .bl (decide (c = "NoLetter")), .bl (decide (c = "NotWhole")), .bl (decide (c = "NoRuling")), .bl (decide (c = "NoChain")), .bl (decide (c = "NoBits")), .bl (decide (c = "NoLot")), .bl (decide (c = "NoCount")), .bl (decide (c = "NoPhase")), .bl (decide (c = "Twice")), .bl (decide (c = "NotThere")), .bl (decide (c = "NoRow")), .bl (decide (c = "NoText"))] := rfl
  rw [e] at cn ix
  generalize hX : D.exn c ks ds = X at *
  have sp : ∀ S', mSplit (.str ("NoName NoDay NoRace NoMark NoCode NoPlace NoStub NoWay NoTime NoLetter NotWhole NoRuling" ++ " NoChain NoBits NoLot NoCount NoPhase Twice NotThere NoRow NoText" : Str)) [.str " "] S' = .ok (.lst (excNs.map .str)) S' := fun S' => by
    unfold mSplit
    dsimp only
    rw [splA, if_pos ⟨l4, Nat.le_trans l3 (by decide)⟩]
  generalize (isA c).idxOf true = i at *
  have ts : ∀ S' (z : Str), tyD "str" S' (.str z) = true := fun _ _ => rfl
  have tl : ∀ S' (z : List D), tyD "list" S' (.lst z) = true := fun _ _ => rfl
  simp [-opAdd_ss, ts, tl, d__law_alone, g__law_alone, ty, tabX, sz_is, cn, ix, ad, sp, at0]
end DL
end
section
/-! b + n, b - n, -b, str(b) of a truth. -/
namespace L2
open PySem PySem.Spec PyProof.Rows
variable [DL.Nm]
section
variable {X : Cx}
end
end L2
namespace DL
open PySem L2
variable [DL.Nm]
variable {G : Glb} {X : Cx} {W : WX}
theorem UnR.or {f : Value → Sem Value} {r r' : V → Hp → VK → Prop} (h : UnR X f r) (h' : UnR X f r') : UnR X f (fun x H Q => r x H Q ∨ r' x H Q) := fun pins s σ H x v Q I rx z => z.elim (h pins s σ H x v Q I rx) (h' pins s σ H x v Q I rx)
/-! text[a:b], too -/
noncomputable def slDS (x : D) (lo hi : Option Int) (S : Store) : ER := match x with
  | .str z => if sz z.length then .ok (.str (cutS z lo hi)) S else .bad
  | x => slD x lo hi S
noncomputable def eSliceS (f : EM) (lo hi : OM) : EM := fun env S => (f env S).bind fun x S => (lo env S).bindE fun l S => (hi env S).bindE fun u S => slDS x l u S
theorem de_sliceS {e : Expr} {lo hi : Option Expr} {p2 pos : Pos} {f : EM} {fl fh : OM} (hK : X.K = G.K) (he : DE G X W e f) (hl : DO G X W lo fl) (hh : DO G X W hi fh) : DE G X W (.Subscript e (.Slice lo hi none p2) pos) (eSliceS f fl fh) := by
  obtain ⟨t, p, q⟩ := he
  obtain ⟨tl, pl, ql⟩ := hl
  obtain ⟨th, ph, qh⟩ := hh
  refine ⟨_, pe_slice (sl_str.or (sl_list.or sl_tupA)) p pl ph, fun σ H env φ S Q s re h => ?_⟩
  refine q σ H env φ S _ s re (PostE.bind h fun x S1 φ1 H1 v e1 s1 i1 h1 => ?_)
  refine ql σ H1 env φ1 S1 _ s1 (re.ext e1) (PostO.bindE h1 fun l S2 φ2 H2 e2 s2 h2 => ?_)
  refine qh σ H2 env φ2 S2 _ s2 ((re.ext e1).ext e2) (PostO.bindE h2 fun u S3 φ3 H3 e3 s3 h3 => ?_)
  have i3 := (i1.ext e2).ext e3
  unfold slDS at h3
  split at h3
  · rename_i z
    cases (show v = _ from i3)
    split at h3
    · exact .inl ⟨z, rfl, sizeLine_is (by assumption), h3.now s3 rfl⟩
    · exact False.elim h3
  · refine .inr ?_
    unfold slD at h3
    split at h3
    · rename_i ds
      obtain ⟨a, xs, rfl, r, il⟩ := i3
      refine .inr ⟨a, xs, rfl, by rw [hK]; exact r.seq, fun hw => ?_, fun _ p hp => tup_new s3 (il.cut l u) h3 hp⟩
      rw [← il.length] at hw
      rw [cut_whole hw] at h3
      exact h3.now s3 ⟨a, xs, rfl, r, il⟩
    · split at h3
      · rename_i ds e
        obtain ⟨a, xs, rfl, r, il⟩ := listD_sq s3 i3 e
        exact .inl ⟨a, xs, rfl, by rw [hK]; exact r, fun p hp => lst_new s3 (il.cut l u) h3 hp⟩
      · exact False.elim h3
section
variable {S : Store} {env : EnvD}
theorem eSliceS_is {f : EM} {lo hi : OM} : eSliceS f lo hi env S = (f env S).bind fun x S => (lo env S).bindE fun l S => (hi env S).bindE fun u S => slDS x l u S := rfl
theorem slDS_s {z : Str} {lo hi : Option Int} : slDS (.str z) lo hi S = if sz z.length then .ok (.str (cutS z lo hi)) S else .bad := rfl
theorem slDS_l {ds : List D} {a b : Option Int} : slDS (.lst ds) a b S = .ok (.lst (cutD ds a b)) S := rfl
end
end DL
end
section
/-! texts: join, lstrip of given signs, int of a text, replace of written texts, <= of texts. -/
namespace L2
open PySem PySem.Spec PyProof.Rows
variable [DL.Nm]
theorem repS_one {a : Str} : repS a 1 = a := by
  unfold repS
  obtain ⟨a⟩ := a
  simp
/-- a text * n, 0 and 1, too -/
theorem op_mulStrS {X : Cx} : OpR X (binaryOp .Mult) (fun x y H Q => ∃ a k, x = .str a ∧ y = .int k ∧ 0 ≤ k ∧ k ≤ 10000 ∧ 1 ≤ a.length ∧ a.length ≤ 1000 ∧ Q (.str (repS a k.toNat)) H) := by
  intro pins s σ H x y v u Q I rx ry h
  obtain ⟨a, k, rfl, rfl, h1, h2, h3, h4, q⟩ := h
  obtain ⟨t, rfl⟩ := rx
  obtain ⟨t', rfl⟩ := ry
  by_cases k0 : k < 1
  · have : k = 0 := by omega
    subst this
    exact P.mul_str_none (by decide) (by decide) ⟨.str (repS a 0), H, I.tok _, ⟨_, rfl⟩, q⟩
  obtain ⟨m, rfl⟩ := Int.eq_ofNat_of_zero_le (show 0 ≤ k by omega)
  have hm : m ≤ 10000 := by omega
  have le : a.length * m ≤ 1000 * 10000 := Nat.mul_le_mul h4 hm
  have tl : Builtin.Str.tooLong (a.length * m) = false := by
    unfold Builtin.Str.tooLong
    rw [sizeLine_eq]
    simp
    omega
  refine P.mul_str (by rw [decide_eq_false (by omega), decide_eq_false (by omega)]; rfl) (fun _ _ => ?_) (fun _ _ => by rw [Int.toNat_natCast]; exact tl) ?_
  · have : (1000 : Int) ≤ (2 ^ 63 - 1) / (m : Int) := by
      rw [Int.le_ediv_iff_mul_le (by omega)]
      have : (1000 : Int) * (m : Int) ≤ 1000 * 10000 := by omega
      omega
    omega
  · rw [if_neg k0]
    by_cases k1 : m = 1
    · subst k1
      rw [if_pos (by rfl)]
      have q' : Q (.str (repS a 1)) H := q
      rw [repS_one] at q'
      exact ⟨.str a, H, I, ⟨_, rfl⟩, q'⟩
    · have c2 : ((m : Int) == 1 || a.length == 0) = false := by
        rw [Bool.or_eq_false_iff]
        exact ⟨beq_eq_false_iff_ne.mpr (by omega), beq_eq_false_iff_ne.mpr (by omega)⟩
      rw [if_neg (by rw [c2]; exact Bool.false_ne_true)]
      refine ⟨?_, ?_⟩
      · first
        | (show Builtin.Str.tooLong (repS a m).length = false
           show Builtin.Str.tooLong (repS a m).cps.size = false
           rw [repS_size]; exact tl)
        | (show (repS a m).cps.size ≤ sizeLine
           rw [repS_size, sizeLine_eq]
           have : a.cps.size = a.length := rfl
           rw [this]; omega)
      · exact ⟨.str (repS a m), H, I.tok _, ⟨_, rfl⟩, q⟩
end L2
namespace DL
open PySem L2 PySem.Spec PyProof.Rows
variable [DL.Nm]
variable {G : Glb} {X : Cx} {W : WX}
def mJoin (o : D) (ds : List D) (S : Store) : ER := match o, ds with
  | .str a, [d] => (match (seqD S d).bind strsD with
    | some ys => if (ys.map (·.length)).sum + ys.length * a.length ≤ 16777216 then .ok (.str (Txt.join a ys)) S else .bad
    | none => .bad)
  | _, _ => .bad
theorem dm_join (hK : X.K = G.K) : DMeth G X "str.join" mJoin := by
  refine ⟨_, mt_join, fun W φ S H σ dx ds x xs Q s ix ids h => ?_⟩
  unfold mJoin at h
  split at h
  · rename_i a d
    obtain ⟨y, rfl, k⟩ := IsL.inv1 ids
    split at h
    · rename_i ys e
      obtain ⟨es, e1, e2⟩ := Option.bind_eq_some_iff.mp e
      obtain ⟨p, vs, rfl, sq, il⟩ := seqD_sq s k e1
      rw [strsD_is e2] at il
      rw [il.strs] at sq
      split at h
      · rename_i hz
        exact ⟨a, p, ys, ix, rfl, by rw [hK]; exact sq, hz, h.now s rfl⟩
      · exact bad_no h
    · exact bad_no h
  · exact bad_no h
def mLstrip (o : D) (ds : List D) (S : Store) : ER := match o, ds with
  | .str a, [.str b] => if a.length ≤ 10000000 then .ok (.str (Txt.lstripChars a b)) S else .bad
  | _, _ => .bad
theorem dm_lstrip : DMeth G X "str.lstrip" mLstrip := by
  refine ⟨_, mt_lstripChars, fun W φ S H σ dx ds x xs Q s ix ids h => ?_⟩
  unfold mLstrip at h
  split at h
  · rename_i a b
    obtain ⟨y, rfl, k⟩ := IsL.inv1 ids
    cases (show y = _ from k)
    split at h
    · rename_i c
      exact ⟨a, b, ix, rfl, by rw [sizeLine_eq]; omega, h.now s rfl⟩
    · exact bad_no h
  · exact bad_no h
noncomputable def opMulW (x y : D) (S : Store) : ER := match x, y with
  | .str a, .int k => if 0 ≤ k ∧ k ≤ 10000 ∧ 1 ≤ a.length ∧ a.length ≤ 1000 then .ok (.str (repS a k.toNat)) S else .bad
  | x, y => opMul x y S
theorem do_mulW : DOp G X (binaryOp .Mult) opMulW := by
  obtain ⟨r, hr, q⟩ := do_mul (G := G) (X := X)
  refine ⟨_, op_mulStrS.or hr, fun W φ S H σ dx dy x y Q s ix iy h => ?_⟩
  unfold opMulW at h
  split at h
  · rename_i a k
    split at h
    · rename_i hz
      cases (show x = _ from ix)
      cases (show y = _ from iy)
      exact .inl ⟨_, _, rfl, rfl, hz.1, hz.2.1, hz.2.2.1, hz.2.2.2, h.now s rfl⟩
    · exact bad_no h
  · exact .inr (q W φ S H σ dx dy x y Q s ix iy h)
@[simp] theorem opMulW_s {a : Str} {k : Int} {S : Store} : opMulW (.str a) (.int k) S = if 0 ≤ k ∧ k ≤ 10000 ∧ 1 ≤ a.length ∧ a.length ≤ 1000 then .ok (.str (repS a k.toNat)) S else .bad := rfl
/-- int of a text -/
def bIntS (ds : List D) (S : Store) : ER := match ds with
  | [.str a] => if a.length ≤ 640 then (match PySem.intText? a with | some n => .ok (.int n) S | none => .bad) else .bad
  | ds => bInt ds S
theorem CallR.or {f : Value} {r r' : List V → Hp → VK → Prop} (h : CallR X f r) (h' : CallR X f r') : CallR X f (fun x H Q => r x H Q ∨ r' x H Q) := fun pins s σ H xs us Q I rx z => z.elim (h pins s σ H xs us Q I rx) (h' pins s σ H xs us Q I rx)
theorem dc_intS : DCall G X (.type "int") bIntS := by
  obtain ⟨r, hr, q⟩ := dc_int (G := G) (X := X)
  refine ⟨_, CallR.or call_int_str hr, fun W φ S H σ ds xs Q s i h => ?_⟩
  unfold bIntS at h
  split at h
  · obtain ⟨x, rfl, k⟩ := IsL.inv1 i
    cases (show x = _ from k)
    split at h
    · rename_i hz
      split at h
      · rename_i n e
        exact .inl ⟨_, n, rfl, e, hz, h.now s rfl⟩
      · exact bad_no h
    · exact bad_no h
  · exact .inr (q W φ S H σ ds xs Q s i h)
/-- <= of texts, too -/
def opLeS (x y : D) (S : Store) : ER := match x, y with
  | .str i, .str j => .ok (.bl (!decide (j.cps.toList < i.cps.toList))) S
  | x, y => opLe x y S
theorem do_leS : DOp G X (compareOp .LtE) opLeS := by
  obtain ⟨r, hr, q⟩ := do_le (G := G) (X := X)
  refine ⟨_, op_le_str.or hr, fun W φ S H σ dx dy x y Q s ix iy h => ?_⟩
  unfold opLeS at h
  split at h
  · cases (show x = _ from ix); cases (show y = _ from iy)
    exact .inl ⟨_, _, rfl, rfl, h.now s rfl⟩
  · exact .inr (q W φ S H σ dx dy x y Q s ix iy h)
/-! 'c' + o.replace(y, z).replace(y2, z2) -/
noncomputable def eCRep (c y z y2 z2 : Str) (f : EM) : EM := fun env S => (f env S).bind fun d S => match d with
  | .str a => if a.length + (a.length + 1) * z.length ≤ 16777216 ∧ (Txt.replace a y z).length + ((Txt.replace a y z).length + 1) * z2.length ≤ 16777216 ∧ sz (c.length + (Txt.replace (Txt.replace a y z) y2 z2).length) then .ok (.str (c ++ Txt.replace (Txt.replace a y z) y2 z2)) S else .bad
  | _ => .bad
theorem de_cRep {c y z y2 z2 : Str} {o : Expr} {f : EM} {k0 j k j2 k2 : Nat} {p0 c0 c1 c2 c3 apos apos2 pos pos2 pos3 : Pos} (ho : DE G X W o f) (hyz : (y == z) = false := by decide) (hyz2 : (y2 == z2) = false := by decide)
    (hst : starEach [.Constant (.str y) j c0, .Constant (.str z) k c1] X.env = [(false, eval (.Constant (.str y) j c0) X.env), (false, eval (.Constant (.str z) k c1) X.env)] := by rfl)
    (hbase : attributeBase o "replace" X.env (eval o X.env) = eval o X.env := by rfl) (hline : (apos.endLine == pos.line) = true := by rfl)
    (hst2 : starEach [.Constant (.str y2) j2 c2, .Constant (.str z2) k2 c3] X.env = [(false, eval (.Constant (.str y2) j2 c2) X.env), (false, eval (.Constant (.str z2) k2 c3) X.env)] := by rfl)
    (hbase2 : attributeBase (.Call (.Attribute o "replace" apos) [.Constant (.str y) j c0, .Constant (.str z) k c1] [] pos) "replace" X.env (eval (.Call (.Attribute o "replace" apos) [.Constant (.str y) j c0, .Constant (.str z) k c1] [] pos) X.env) = eval (.Call (.Attribute o "replace" apos) [.Constant (.str y) j c0, .Constant (.str z) k c1] [] pos) X.env := by rfl) (hline2 : (apos2.endLine == pos2.line) = true := by rfl) :
    DE G X W (.BinOp (.Constant (.str c) k0 p0) .Add (.Call (.Attribute (.Call (.Attribute o "replace" apos) [.Constant (.str y) j c0, .Constant (.str z) k c1] [] pos) "replace" apos2) [.Constant (.str y2) j2 c2, .Constant (.str z2) k2 c3] [] pos2) pos3) (eCRep c y z y2 z2 f) := by
  obtain ⟨t, p, q⟩ := ho
  have P1 : L2.PET X _ _ := CwR.pet_replC (j := j) (k := k) (c0 := c0) (c1 := c1) (apos := apos) (pos := pos) p hyz hst hbase hline
  have P2 : L2.PET X _ _ := CwR.pet_replT (j := j2) (k := k2) (c0 := c2) (c1 := c3) (apos := apos2) (pos := pos2) P1 hyz2 hst2 hbase2 hline2
  refine ⟨fun σ H Q => CwR.tReplC (CwR.tReplC t y z) y2 z2 σ H fun v H1 => ∃ b, v = .str b ∧ sz (c.length + b.length) ∧ Q (.str (c ++ b)) H1, ⟨fun pins s σ H Q I h => ?_⟩, fun σ H env φ S Q s re h => ?_⟩
  · refine wpAny_BinOp (Calls.Constant_str ?_)
    refine thn (P2 pins { s with toks := s.toks + 1 } σ H _ (by show 1 ≤ s.toks + 1; omega) (I.tok _) h) fun v s1 ⟨x, H1, I1, r1, b, e1, hz, hq⟩ => ?_
    subst e1
    exact op_add_str pins s1 σ H1 (.str c) (.str b) _ v Q I1 ⟨_, rfl⟩ r1 ⟨c, b, rfl, rfl, sizeLine_is hz, hq⟩
  · refine q σ H env φ S _ s re (PostE.bind h fun d S1 φ1 H1 v e1 s1 i1 h1 => ?_)
    cases d with
    | str a =>
      dsimp only at h1
      split at h1
      · rename_i hz
        cases (show v = _ from i1)
        exact ⟨a, rfl, hz.1, _, rfl, hz.2.1, _, rfl, hz.2.2, h1.now s1 rfl⟩
      · exact h1.elim
    | _ => exact h1.elim
section
variable {S : Store} {env : EnvD}
@[simp] theorem bIntS_s {a : Str} : bIntS [.str a] S = if a.length ≤ 640 then (match PySem.intText? a with | some n => .ok (.int n) S | none => .bad) else .bad := rfl
@[simp] theorem bIntS_b {b : Bool} : bIntS [.bl b] S = .ok (.int (if b then 1 else 0)) S := rfl
@[simp] theorem opLeS_s {i j : Str} : opLeS (.str i) (.str j) S = .ok (.bl (!decide (j.cps.toList < i.cps.toList))) S := rfl
@[simp] theorem opLeS_i {i j : Int} : opLeS (.int i) (.int j) S = .ok (.bl (decide (i ≤ j))) S := rfl
@[simp] theorem mLstrip_s {a b : Str} : mLstrip (.str a) [.str b] S = if a.length ≤ 10000000 then .ok (.str (Txt.lstripChars a b)) S else .bad := rfl
theorem mJoin_l {a : Str} {ys : List Str} (h : (ys.map (·.length)).sum + ys.length * a.length ≤ 16777216) : mJoin (.str a) [.lst (ys.map .str)] S = .ok (.str (Txt.join a ys)) S := by
  unfold mJoin
  dsimp only
  rw [show seqD S (.lst (ys.map .str)) = some (ys.map .str) from rfl, Option.bind_some, strsD_map]
  exact if_pos h
theorem mJoin_c {a : Str} {ys : List Str} {l : Nat} (e : S[l]? = some (.lst (ys.map .str))) (h : (ys.map (·.length)).sum + ys.length * a.length ≤ 16777216) : mJoin (.str a) [.loc l] S = .ok (.str (Txt.join a ys)) S := by
  unfold mJoin
  dsimp only
  rw [show seqD S (.loc l) = some (ys.map .str) from by show listD S (.loc l) = _; unfold listD; dsimp only; rw [e], Option.bind_some, strsD_map]
  exact if_pos h
theorem eCRep_is {c y z y2 z2 : Str} {f : EM} : eCRep c y z y2 z2 f env S = (f env S).bind fun d S => match d with
  | .str a => if a.length + (a.length + 1) * z.length ≤ 16777216 ∧ (Txt.replace a y z).length + ((Txt.replace a y z).length + 1) * z2.length ≤ 16777216 ∧ sz (c.length + (Txt.replace (Txt.replace a y z) y2 z2).length) then .ok (.str (c ++ Txt.replace (Txt.replace a y z) y2 z2)) S else .bad
  | _ => .bad := rfl
end
end DL
end
section
/-! list(zip(a, b)), lists and tuples in any mixture: each pair that was drawn stays in the list. -/
namespace PySem
variable [DL.Nm]
end PySem
namespace DL
open PySem PySem.Spec PyProof.Rows L2
variable [DL.Nm]
section
variable {prog : Program} {w : World} {A : Around} {E : Value → Shared → Prop} {s : Shared} {z TI TO i1 i2 : Addr} {fp1 fp2 : List Addr} {n1 n2 i : Nat} {P1 P2 : Nat → Value → Prop} {St1 St2 : Nat → Heap → Prop} {T : Addr} {f : Bool} {oT : Obj}
end
section
variable {prog : Program} {w : World} {A : Around} {E : Value → Shared → Prop} {s : Shared} {z TI TO i1 i2 L : Addr} {fp1 fp2 : List Addr} {n1 n2 : Nat} {P1 P2 : Nat → Value → Prop} {St1 St2 : Nat → Heap → Prop}
/-- a zip that drew i times -/
structure ZAt (z TI TO i1 i2 L : Addr) (St1 St2 : Nat → Heap → Prop) (i : Nat) (h : Heap) : Prop where
  ti : IsTupOf2 h TI (.ref i1) (.ref i2)
  a : St1 i h
  b : St2 i h
  at_ : (IsZip h z TI TO .none ∧ ∃ x y, IsTupOf2 h TO x y) ∨ ∃ T f oT, IsZipHeld h z TI TO T f ∧ h.get? T = some oT ∧ L < T
/-- where it lies -/
structure ZLow (z TI TO i1 i2 L : Addr) (fp1 fp2 : List Addr) : Prop where
  z : z < L
  ti : TI < L
  to : TO < L
  f1 : ∀ b ∈ fp1, b < L
  f2 : ∀ b ∈ fp2, b < L
/-- the pairs as they lie -/
structure Prs (P1 P2 : Nat → Value → Prop) (L : Addr) (h : Heap) (as : List Addr) : Prop where
  rise : as.Pairwise (· < ·)
  above : ∀ a ∈ as, L < a
  at_ : ∀ j b, as[j]? = some b → ∃ x1 x2, P1 j x1 ∧ P2 j x2 ∧ IsTupOf2 h b x1 x2
theorem Prs.there {h : Heap} {as : List Addr} (p : Prs P1 P2 L h as) {a : Addr} (ha : a ∈ as) : a < h.objs.size := by
  obtain ⟨j, hj⟩ := List.getElem?_of_mem ha
  obtain ⟨_, _, _, _, e⟩ := p.at_ j a hj
  exact Heap.lt_size e
theorem ZAt.keep {i : Nat} {h h' : Heap} (D1 : ∀ i h h', St1 i h → (∀ b ∈ fp1, ∀ o, h.get? b = some o → h'.get? b = some o) → St1 i h') (D2 : ∀ i h h', St2 i h → (∀ b ∈ fp2, ∀ o, h.get? b = some o → h'.get? b = some o) → St2 i h') (lo : ZLow z TI TO i1 i2 L fp1 fp2)
    (q : ZAt z TI TO i1 i2 L St1 St2 i h) (k : ∀ b o, b ≠ L → h.get? b = some o → h'.get? b = some o) : ZAt z TI TO i1 i2 L St1 St2 i h' := by
  refine ⟨k _ _ (Nat.ne_of_lt lo.ti) q.ti, D1 _ _ _ q.a fun b hb o => k b o (Nat.ne_of_lt (lo.f1 b hb)), D2 _ _ _ q.b fun b hb o => k b o (Nat.ne_of_lt (lo.f2 b hb)), ?_⟩
  rcases q.at_ with ⟨e1, x, y, e2⟩ | ⟨T, f, oT, e1, e2, e3⟩
  · exact .inl ⟨k _ _ (Nat.ne_of_lt lo.z) e1, x, y, k _ _ (Nat.ne_of_lt lo.to) e2⟩
  · exact .inr ⟨T, f, oT, k _ _ (Nat.ne_of_lt lo.z) e1, k _ _ (Nat.ne_of_gt e3) e2, e3⟩
end
theorem HasG.kept {t : Bool} {h h' : Heap} {a : Addr} {its : Array Value} (p : HasG t h a its) (k : ∀ b o, h.get? b = some o → h'.get? b = some o) : HasG t h' a its := by
  cases t with
  | false => obtain ⟨o, e, r⟩ := p; exact ⟨o, k a o e, r⟩
  | true => obtain ⟨o, e, r⟩ := p; exact ⟨o, k a o e, r⟩
/-! ### what is tracked -/
section
variable {X : Cx} {pins : List (Addr × Obj)} {σ : L2.St} {H : Hp} {s : Shared}
end
variable {G : Glb} {X : Cx} {W : WX}
end DL
end
section
/-! a tuple == () -/
namespace PySem.SeqAt
open AutoSeq1 (wpAny_loadPart')
variable [DL.Nm]
section
variable {prog : Program} {w : World}
end
end PySem.SeqAt
namespace L2
open PySem PySem.Spec PyProof.Rows
variable [DL.Nm]
end L2
namespace DL
open PySem L2
variable [DL.Nm]
variable {G : Glb} {X : Cx} {W : WX}
/-- a tuple of anything == () -/
def opEq0 (x y : D) (S : Store) : ER := match x, y with
  | .tup ds, .tup [] => .ok (.bl (decide (ds.length = 0))) S
  | _, _ => .bad
def opNe0 (x y : D) (S : Store) : ER := match x, y with
  | .tup ds, .tup [] => .ok (.bl (!decide (ds.length = 0))) S
  | _, _ => .bad
@[simp] theorem opEq0_is {ds : List D} {S : Store} : opEq0 (.tup ds) (.tup []) S = .ok (.bl (decide (ds.length = 0))) S := rfl
@[simp] theorem opNe0_is {ds : List D} {S : Store} : opNe0 (.tup ds) (.tup []) S = .ok (.bl (!decide (ds.length = 0))) S := rfl
end DL
end
section
/-! repr of texts, None, tuples, dicts. -/
namespace L2
open PySem PySem.Spec PyProof.Rows
variable [DL.Nm]
section
variable {X : Cx}
end
end L2
namespace DL
open PySem L2
variable [DL.Nm]
variable {G : Glb} {X : Cx} {W : WX}
end DL
end
section
/-! == of dicts of whole numbers that hold the same, keys in any order. -/
namespace L2
open PySem PySem.Spec PyProof.Rows
variable [DL.Nm]
section
variable {X : Cx} {pins : List (Addr × Obj)} {σ : St} {H : Hp} {s : Shared}
end
end L2
namespace DL
open PySem L2
variable [DL.Nm]
variable {G : Glb} {X : Cx} {W : WX}
end DL
end
section
/-! == of two tuples that hold the same, dicts of whole numbers among them, keys in any order. -/
namespace PySem.SeqAt
open AutoSeq1 (wpAny_loadPart')
variable [DL.Nm]
section
variable {prog : Program} {w : World}
end
end PySem.SeqAt
namespace L2
open PySem PySem.Spec PyProof.Rows
variable [DL.Nm]
section
variable {X : Cx} {pins : List (Addr × Obj)} {σ : St} {H : Hp} {s : Shared}
end
end L2
namespace DL
open PySem L2
variable [DL.Nm]
variable {G : Glb} {X : Cx} {W : WX}
end DL
end
section
/-! sorted of a dict of texts; methods called with keywords. -/
namespace L2
open PySem PySem.Spec PyProof.Rows
variable [DL.Nm]
section
variable {X : Cx} {CX : CXT} {k n : Nat} {m : Str} {ks : List Str} {E : St → XK} {pos apos : Pos} {e o : Expr} {es : List Expr} {kws : List Keyword} {ta : TE} {t tk : TA} {Ok : Addr → Addr → Sp → Prop} {g : List Value → List Value → List Value} {gV : List V → List V → List V}
end
end L2
namespace DL
open PySem L2
variable [DL.Nm]
variable {G : Glb} {X : Cx} {W : WX}
/-- a method called with n values (self counted) and keywords ks: l parameters -/
structure MethKN (G : Glb) (P : Program) (w : World) (mg : Str → Option Value) (base : Heap) (k : Nat) (c m : Str) (n : Nat) (ks : List Str) (l : Nat) (gD : List D → List D → List D) (F : FD) : Prop where
  ex : ∃ C f fd ps g gV, G.ca c = some C ∧ Cls G.K C ∧ Meth G.K C m f ∧ FnG P w G.K mg base (L2.CX P w) k f fd ps (spD G l F) ∧ KBn G.K fd ps n ks g gV ∧
    ∀ {φ : Fi} {H : Hp} {ds es : List D} {vs zs : List V}, ds.length = n → es.length = ks.length → IsL G φ H ds vs → IsL G φ H es zs → IsL G φ H (gD ds es) (gV vs zs) ∧ (gD ds es).length = l
end DL
namespace DL
open PySem L2 PyProof.Rows
variable [DL.Nm]
end DL
end
section
/-! Steps: a def is walked statement by statement, what stands behind each is reckoned by simp only. -/
namespace DL
open PySem L2
variable [DL.Nm]
variable {S S' S1 : Store} {env e : EnvD} {r : SR} {d x : D}
theorem stN {a b : SM} (h : a env S = .nx e S') (k : b e S' = r) : sSeq a b env S = r := by rw [sSeq_is, h]; exact k
theorem stR {a b : SM} (h : a env S = .rt d S') (k : .rt d S' = r) : sSeq a b env S = r := by rw [sSeq_is, h]; exact k
theorem stX {a b : SM} {q : Exc} (h : a env S = .ex q e S') (k : .ex q e S' = r) : sSeq a b env S = r := by rw [sSeq_is, h]; exact k
theorem fnRt {m : Mode} {n : Nat} {g : SM} {ds : List D} {R : ER} (h : g (startD n ds) S = .rt d S') (k : exitD m S d S' = R) : fnF m n g ds S = R := by rw [fnF_is, h]; exact k
theorem fnEx {m : Mode} {n : Nat} {g : SM} {ds : List D} {q : Exc} (h : g (startD n ds) S = .ex q e S') : fnF m n g ds S = .ex q S' := by rw [fnF_is, h]
theorem startD_n {n : Nat} : startD n [] = List.replicate n none := by simp [startD]
theorem startD_c {n : Nat} {ds : List D} : startD (n + 1) (d :: ds) = some d :: startD n ds := by simp [startD]
theorem ifTB {c : EM} {a b : SM} (h : c env S = .ok (.bl true) S') (k : a env S' = r) : sIf c a b env S = r := by rw [sIf_is, h]; exact k
theorem ifFB {c : EM} {a b : SM} (h : c env S = .ok (.bl false) S') (k : b env S' = r) : sIf c a b env S = r := by rw [sIf_is, h]; exact k
/-- a for, one turn; what ends it -/
theorem forC {b : D → EnvD → Option EnvD} {body : SM} {ds : List D} {e1 e2 : EnvD} (h1 : b d env = some e1) (h2 : body e1 S = .nx e2 S') (k : forD b body ds e2 S' = r) : forD b body (d :: ds) env S = r := by
  conv => lhs; unfold forD
  rw [h1]; dsimp only; rw [h2]; exact k
theorem forR {b : D → EnvD → Option EnvD} {body : SM} {ds : List D} {e1 : EnvD} (h1 : b x env = some e1) (h2 : body e1 S = .rt d S') : forD b body (x :: ds) env S = .rt d S' := by
  conv => lhs; unfold forD
  rw [h1]; dsimp only; rw [h2]
end DL
end
section
/-! A lambda without parameters handed to a def of the law that calls it once, at its beginning, in a try: over data. -/
namespace DL
open PySem L2 PySem.Spec PyProof.Rows
variable [DL.Nm]
section
variable {X : Cx} {pins : List (Addr × Obj)} {σ : L2.St} {H HZ : Hp} {s s1 : Shared}
/-- what is called: x(), in the def that was handed the lambda, entered at s; each wish of its caller's is had -/
theorem lam_act {CXg : CXT} {Eg : XK} {Ng : List Str} {qg : Str} {sg : Scope} {g f d : Addr} {cdg pm ctv : Value} {params : Arguments} {body : Expr} {scope : Scope} {k i : Nat} {a : Str} {pn : List (Addr × Obj)} {xe : Value → Shared → Prop} {W : WX} {tb : XK → TE} {p1 p2 : Pos}
    (I : Inv X pins σ H s) (ls : LamX.LamS X.env.scope scope)
    (ob : s.heap.get? f = some (PySem.W.kla_obj "<lambda>" (X.env.qual ++ "<lambda>") params body scope (cloFrom X.env.cells scope.names []) pm d ctv)) (n1 : H f = none) (n2 : f ∉ frs X.stack)
    (nobind : bindArgs (PySem.W.kla_fn "<lambda>" (X.env.qual ++ "<lambda>") params body scope (cloFrom X.env.cells scope.names []) pm (.ref d) ctv) ⟨[], []⟩ = pure [])
    (tk : Takes ((cxOf CXg X.prog X.w X.K X.mg X.base Ng qg sg g cdg X.A X.stack s H Eg).tr pn xe) W)
    (room : Room (k + 1) (X.A.deeper (envOfC qg sg s.heap.objs.size g cdg)))
    (run : ∀ (outer : List Env) (s2 : Shared) (H2 : Hp) (E : XK), Room k ((X.A.deeper (envOfC qg sg s.heap.objs.size g cdg)).deeper (LamX.lamEnv X scope s2.heap.objs.size f d)) →
      PE (LamX.lamCx X (X.A.deeper (envOfC qg sg s.heap.objs.size g cdg)) outer s2 H2 E scope f d) body (tb E))
    (nm : Ng[i]? = some a) (vis : Vis sg a) (nd : (a == ("__debug__" : Str)) = false := by decide) (nc : (a == ("__classdict__" : Str)) = false := by decide) :
    PE ((cxOf CXg X.prog X.w X.K X.mg X.base Ng qg sg g cdg X.A X.stack s H Eg).tr pn xe) (.Call (.Name a p1) [] [] p2)
      (fun τ K Q => τ[i]? = some (some (.ref f)) ∧ K d = some (LamX.CodeO d (X.env.qual ++ "<lambda>")) ∧ tb (fun cls dx K' => W cls dx τ K') σ K Q) := by
  constructor
  intro pz sz τ Z Q J ⟨slot, code, body_⟩
  have named := (pe_var (pos := p1) (i := i) nm vis nd nc).run pz sz τ Z (fun v K' => v = .ref f ∧ K' = Z) J ⟨.ref f, slot, rfl, rfl⟩
  refine wpAny_Call_Name_kw (thn named fun u s1 ⟨v, K1, J1, rel, e1, e2⟩ => ?_)
  subst e1
  rw [e2] at J1
  clear e2
  obtain rfl : u = Value.ref f := rel
  have still : s1.heap.get? f = some (PySem.W.kla_obj "<lambda>" (X.env.qual ++ "<lambda>") params body scope (cloFrom X.env.cells scope.names []) pm d ctv) := by
    refine J1.base.keep f _ ob n1 n2 ?_
    intro z
    exact nomatch (show f ∈ ([] : List Addr) from z)
  have un : Un (frs X.stack) [] H Z s.heap s1.heap := J1.base
  obtain ⟨⟨oc, vs, t, c1, c2, c3⟩, -, -⟩ := J1.hok d _ code
  have made : ∀ (h₁ : Heap), (∀ b o, s1.heap.get? b = some o → h₁.get? b = some o) → h₁.Ns s1.heap.objs.size (fun y => ([] : List (Str × Value)).reverse.lookup y) →
      wpAny (model X.prog X.w) ((X.A.deeper (envOfC qg sg s.heap.objs.size g cdg)).deeper (LamX.lamEnv X scope s1.heap.objs.size f d)) (eval body (LamX.lamEnv X scope s1.heap.objs.size f d))
        (fun u s' => CE (envOfC qg sg s.heap.objs.size g cdg :: X.stack) X.prog X.w Z s1 Q u s')
        (LamX.lamCx X (X.A.deeper (envOfC qg sg s.heap.objs.size g cdg)) (envOfC qg sg s.heap.objs.size g cdg :: X.stack) s1 Z (fun cls dx K' => W cls dx τ K') scope f d).xe { s1 with heap := h₁, toks := s1.toks + 0 } := by
    intro h₁ kp hns
    have L := LamX.lam_start2 (E := fun cls dx K' => W cls dx τ K') I ls J1.env0 room.hd un hns kp (tk := s1.toks + 0) (c' := d) (f := f)
    refine wpAny_mono ((run _ s1 Z _ (room.deeper _)).run [] _ _ Z Q L body_) (fun u s' q => ?_) fun _ _ q => q
    obtain ⟨w', K', L', rel', q'⟩ := q
    exact ⟨w', K', L'.os, L'.bare, L'.base, L'.hok, rel', q'⟩
  refine PySem.W.callWith_F0 ⟨_, _, _, _, still⟩ (wpAny_call ?_)
  refine codeAny_mono (R := CR (L2.CX X.prog X.w) (envOfC qg sg s.heap.objs.size g cdg :: X.stack) X.prog X.w Z s1 Q (fun cls dx K' => W cls dx τ K')) ?_ fun r s' q => ?_
  · show codeAny (model X.prog X.w) (X.A.deeper (envOfC qg sg s.heap.objs.size g cdg)) (.call (.ref f) ⟨[], []⟩) _ _
    refine PySem.W.kla_callFunE room.depth still rfl ls.co ls.gen rfl ⟨d, oc, vs, t, rfl, c1, c2, c3⟩ ?_
    rw [nobind]
    refine wpAny_pure (wpAny_newFunctionEnv (fun y hy => (ls.own y hy).2) (fun y hy => absurd hy (by simp)) (fun h₁ hns hsb => ⟨J1.nolimit.fresh _ hsb, ?_⟩) ls.kind)
    exact PySem.W.kla_codeExpr (made h₁ (fun b o e => hsb.extBut b o (Nat.ne_of_lt (Heap.lt_size e)) (Heap.get?_push_of_some _ e)) hns)
  · cases r with
    | error e => exact passAt tk τ pz Z s1 e s' J1 q
    | ok fl =>
      cases fl with
      | ret u => exact J1.after q
      | next => exact False.elim q
      | brk => exact False.elim q
      | cont => exact False.elim q
/-- a lambda is made: its code is new, or stands in the table; all data stay -/
theorem lam_made {G : Glb} {φ : Fi} {S : Store} (so : SOk G φ S H) {c P : Addr} {params : Arguments} {body : Expr} {scope : Scope} {pos : Pos} {E Q : Value → Shared → Prop} (I : Inv X pins σ H s) (tb : LamX.TabB X.base X.mg c P) (own : X.env.code = .ref c)
    (mem : (P, X.env.qual ++ "<lambda>") ∈ G.T) (nodef : defaultsOf params X.env = ([], [])) (free : ∀ y ∈ scope.names, y.2 = .free → ∃ c, X.env.cells.lookup y.1 = some c)
    (then_ : ∀ (f d : Addr) (pm ctv : Value) (H1 : Hp) (s' : Shared), Inv X pins σ H1 s' → Ext φ H φ H1 → SOk G φ S H1 →
      s'.heap.get? f = some (PySem.W.kla_obj "<lambda>" (X.env.qual ++ "<lambda>") params body scope (cloFrom X.env.cells scope.names []) pm d ctv) → H1 f = none → f ∉ frs X.stack → H1 d = some (LamX.CodeO d (X.env.qual ++ "<lambda>")) → φ.out d → Q (.ref f) s') :
    wpAny (model X.prog X.w) X.A (eval (.Lambda params body scope pos) X.env) Q E s := by
  have tab := so.tab _ mem
  obtain ⟨nq, out, ps, hP, ht, ha⟩ := id tab
  have blt : s.heap.BuiltinsAt X.mg P := tb.bm.keeps I.bk
  have obP : s.heap.get? P = some { cls := .none, data := .fields ps } := I.hok P _ hP
  have off : ∀ f, s.heap.objs.size ≤ f → f ∉ frs X.stack := by
    intro f hf z
    rcases List.mem_cons.mp (I.stkSub _ z) with e | e
    · have lt := I.lt
      rw [← e] at lt
      exact Nat.lt_irrefl _ (Nat.lt_of_lt_of_le lt hf)
    · exact I.nofs hf e
  refine PySem.W.kla_eval nodef ?_
  rcases hc : codeAmong pos ps.toList with _ | cv
  · refine PySem.W.kla_makeFunction (mg := X.mg) (c := c) (P := P) (ps := ps) (closure_ok free) I.ok.glob (I.mod.glob.keeps I.bk) own (tb.code.keeps I.bk) obP ht hc tb.gP blt fun d ctv h' tk kept ge lt rec_ obP' => ?_
    obtain ⟨d', od, vs, t, e, g1, g2, g3⟩ := rec_
    cases e
    have fresh : H d = none := I.hok.fresh ge
    have nPd : P ≠ d := ne_of_none hP fresh
    have size : s.heap.objs.size ≤ h'.objs.size := by omega
    obtain ⟨ps', hps'⟩ : ∃ ps', ps' = ps ++ #[rawInt pos.line, rawInt pos.col, Value.ref d] := ⟨_, rfl⟩
    have I1 := LamX.inv_table (t' := tk) (q := X.env.qual ++ "<lambda>") (more := #[rawInt pos.line, rawInt pos.col, .ref d]) (h' := h'.push (PySem.W.kla_obj "<lambda>" (X.env.qual ++ "<lambda>") params body scope (cloFrom X.env.cells scope.names []) ((X.mg "__name__").getD .none) d ctv)) I hP
      (fun b o nb e => Heap.get?_push_of_some _ (kept b o nb e)) (Heap.get?_push_of_some _ obP') ge ⟨od, vs, t, Heap.get?_push_of_some _ g1, g2, g3⟩
    rw [← hps'] at I1
    obtain ⟨H1, hH1⟩ : ∃ H1, H1 = upd (upd H P (.tbl ps')) d (LamX.CodeO d (X.env.qual ++ "<lambda>")) := ⟨_, rfl⟩
    rw [← hH1] at I1
    have atP : H1 P = some (.tbl ps') := by rw [hH1, upd_ne nPd, upd_same]
    have atd : H1 d = some (LamX.CodeO d (X.env.qual ++ "<lambda>")) := by rw [hH1, upd_same]
    have atb : ∀ b o, H b = some o → b ≠ P → H1 b = some o := fun b o e nb => by rw [hH1, upd_ne (ne_of_none e fresh), upd_ne nb]; exact e
    have tab1 : TabX φ H1 P (X.env.qual ++ "<lambda>") := by
      refine ⟨nq, out, ps', atP, ?_, fun p' cv hcv => ?_⟩
      · rw [hps', Array.toList_append]
        exact PySem.TriplesOk_snoc _ _ _ _ ht
      · rw [hps', Array.toList_append] at hcv
        rcases LamX.among_app _ ht hcv with z | z
        · obtain ⟨c0, e1, n1, e2⟩ := ha p' cv z
          exact ⟨c0, e1, n1, atb _ _ e2 (fun z => by rw [z, hP] at e2; exact LamX.codeO_ne ps (Option.some.inj e2).symm)⟩
        · exact ⟨d, z, so.fresh fresh, atd⟩
    have ext : Ext φ H φ H1 := by
      refine ⟨⟨[], by simp, fun _ z => by simp at z⟩, rfl, fun b o nb e => ?_⟩
      by_cases hb : b = P
      · subst hb
        rw [hP] at e
        cases e
        exact .inr ⟨ps, ps', out.2, rfl, atP, fun q t => by rw [t.1, ← nq]; exact tab1⟩
      · exact .inl (.inl (atb b o e hb))
    have so1 : SOk G φ S H1 := so.step ext fun a ha' => by
      have h1 : a ≠ P := fun z => out.1 (by rw [← z]; exact ha')
      have h2 : a ≠ d := fun z => so.freshc fresh (by rw [← z]; exact ha')
      rw [hH1, upd_ne h2, upd_ne h1]
    refine then_ h'.objs.size d _ ctv H1 _ I1 ext so1 (Heap.get?_push_size _ rfl) ?_ (off _ size) atd (so.fresh fresh)
    have h1 : h'.objs.size ≠ d := by omega
    have h2 : h'.objs.size ≠ P := fun z => by
      rw [← z] at obP
      exact Nat.lt_irrefl _ (Nat.lt_of_lt_of_le (Heap.lt_size obP) size)
    rw [hH1, upd_ne h1, upd_ne h2]
    exact I.hok.fresh size
  · obtain ⟨d, rfl, nd, hd⟩ := ha pos cv hc
    refine PySem.W.kla_makeFunctionHit (mg := X.mg) (c := c) (P := P) (ps := ps) (closure_ok free) I.ok.glob (I.mod.glob.keeps I.bk) own (tb.code.keeps I.bk) obP ht hc blt fun ctv h' tk kept size => ?_
    have I1 : Inv X pins σ H { s with heap := h'.push (PySem.W.kla_obj "<lambda>" (X.env.qual ++ "<lambda>") params body scope (cloFrom X.env.cells scope.names []) ((X.mg "__name__").getD .none) d ctv), toks := tk } := I.kept fun b o e => Heap.get?_push_of_some _ (kept b o e)
    exact then_ h'.objs.size d _ ctv H _ I1 .refl so (Heap.get?_push_size _ rfl) (I.hok.fresh size) (off _ size) hd nd
end
section
variable {G : Glb} {X : Cx} {W : WX}
theorem post_sig {V : XK} {φ : Fi} {H : Hp} {σ τ : L2.St} {r : ER} {Q : VK} (h : PostE G (fun cls dx _ H2 => V cls dx H2) φ H σ r Q) : PostE G (fun cls dx _ H2 => V cls dx H2) φ H τ r Q := by
  cases r with
  | ok d S => exact h
  | ex x S => exact h
  | bad => exact h
theorem post_at {φ : Fi} {H : Hp} {σ τ : L2.St} {r : ER} {Q : VK} (h : PostE G W φ H σ r Q) : PostE G (fun cls dx _ H2 => W cls dx σ H2) φ H τ r Q := by
  cases r with
  | ok d S => exact h
  | ex x S => exact h
  | bad => exact h
/-- what a try wishes of its body -/
theorem try_post {c : Value} {i : Nat} {tab : Str → Bool} {f g : SM} (hK : X.K = G.K) (hx : ∀ cn C, G.ce cn = some C → PySem.W.exmOne G.K (.ref C) c = some (tab cn)) {φ : Fi} {H : Hp} {env : EnvD} {S : Store} {N : Ends} (h : PostS G W φ H (sTry tab i f g env S) N) :
    PostS G (wKp X.K c i (tOfS G W0 g) W N) φ H (f env S) N := by
  unfold sTry at h
  cases hr : f env S with
  | nx e S1 => rw [hr] at h; exact h
  | rt e S1 => rw [hr] at h; exact h
  | bk e S1 => rw [hr] at h; exact h
  | ct e S1 => rw [hr] at h; exact h
  | bad => rw [hr] at h; exact h
  | ex x1 e1 S1 =>
    rw [hr] at h
    dsimp only at h
    intro φ1 H1 σ1 cls d ext s1 re1 ix
    obtain ⟨C, ce, ec, _⟩ := id ix
    refine ⟨tab x1.cls, by rw [ec, hK]; exact hx _ _ ce, fun q a na => ?_, fun q => ?_⟩
    · rw [if_pos q] at h
      obtain ⟨i1, s2, e2⟩ := is_exn s1 na ix
      refine ⟨_, φ1, S1, s2, (re1.ext e2).set i1 i, ?_⟩
      have h' := PostS.ext (ext.trans e2) h
      cases hg : g (e1.set i (some (exnD x1))) S1 with
      | nx e S2 => rw [hg] at h'; exact fun φ3 H3 σ3 e3 s3 r3 => h' φ3 H3 _ e3 s3 (r3.drop i)
      | bk e S2 => rw [hg] at h'; exact fun φ3 H3 σ3 e3 s3 r3 => h' φ3 H3 _ e3 s3 (r3.drop i)
      | ct e S2 => rw [hg] at h'; exact fun φ3 H3 σ3 e3 s3 r3 => h' φ3 H3 _ e3 s3 (r3.drop i)
      | rt d S2 => rw [hg] at h'; exact h'
      | ex x e S2 => rw [hg] at h'; exact False.elim h'
      | bad => rw [hg] at h'; exact False.elim h'
    · rw [q] at h
      exact h φ1 H1 σ1 cls d ext s1 re1 ix
/-- what is known where the lambda is called -/
def tAct (G : Glb) (f : Addr) (φ : Fi) (H : Hp) (S : Store) (r : ER) (W : WX) : TE := fun τ H' Q' => τ[0]? = some (some (.ref f)) ∧ ∃ φ', Ext φ H φ' H' ∧ SOk G φ' S H' ∧ PostE G (fun cls dx _ H2 => W cls dx τ H2) φ' H' [] r Q'
theorem try_lam {x n : Str} {c : Value} {i : Nat} {body suite rest : List Stmt} {b₀ : Stmt} {np pos pos' : Pos} {tab : Str → Bool} {g grest : SM} {call : Expr} {lift : TE → TS} {gt : ER → SM} (hK : X.K = G.K) (hs : X.stack = X.env :: X.outer) (hf : X.env.frame = some X.env.locals) (hN : X.N.Nodup) (hi : X.N[i]? = some n) (hln : X.env.kindOf n = some .local)
    (hc : Names X x c) (hx : ∀ cn C, G.ce cn = some C → PySem.W.exmOne G.K (.ref C) c = some (tab cn)) (tk : Takes X W)
    (hlift : ∀ (pn : List (Addr × Obj)) (xe : Value → Shared → Prop) (T : TE), PE (X.tr pn xe) call T → PSs (X.tr pn xe) body (lift T))
    (hsu : ∀ (a : Addr) (pn : List (Addr × Obj)), DSs G (X.suite a pn) W0 (b₀ :: suite) g) (hrest : DSs G X W rest grest)
    (hgt : ∀ (f : Addr) (φ0 : Fi) (H0 : Hp) (φ : Fi) (H : Hp) (S : Store) (r : ER) (W : WX) (D : Ends) (σ : L2.St) (env : EnvD), Ext φ0 H0 φ H → SOk G φ S H → RepE G φ H σ env → σ[0]? = some (some (.ref f)) → PostS G W φ H (gt r env S) D → lift (tAct G f φ0 H0 S r W) D σ H)
    {f : Addr} {φ0 : Fi} {H0 : Hp} {S : Store} {r : ER} (act : ∀ (W : WX) (pn : List (Addr × Obj)) (xe : Value → Shared → Prop), Takes (X.tr pn xe) W → PE (X.tr pn xe) call (tAct G f φ0 H0 S r W)) :
    ∃ t, PSs X (.Try body [.ExceptHandler (some (.Name x np)) (some n) (b₀ :: suite) pos'] [] [] pos :: rest) t ∧
      ∀ (σ : L2.St) (env : EnvD) (φ : Fi) (H : Hp) (N : Ends), Ext φ0 H0 φ H → SOk G φ S H → RepE G φ H σ env → σ[0]? = some (some (.ref f)) → PostS G W φ H (sSeq (sTry tab i (gt r) g) grest env S) N → t N σ H := by
  obtain ⟨tr, pr, qr⟩ := hrest
  refine ⟨_, pss_cons (ps_tryKeep (tb := fun W => lift (tAct G f φ0 H0 S r W)) (ts := tOfS G W0 g) hs hf hN hi hln hc tk (fun W pn xe tk po => hlift pn xe _ (act W pn xe tk)) (fun a pn => (hsu a pn).can)) pr, fun σ env φ H N ex so re sl h => ?_⟩
  refine hgt f φ0 H0 φ H S r _ _ σ env ex so re sl (try_post (tab := tab) hK hx ?_)
  unfold sSeq at h
  cases hr : sTry tab i (gt r) g env S with
  | nx e S1 => rw [hr] at h; exact fun φ1 H1 σ1 e1 s1 r1 => qr σ1 H1 e φ1 S1 N s1 r1 (PostS.ext e1 h)
  | rt d S1 => rw [hr] at h; exact h
  | bk e S1 => rw [hr] at h; exact h
  | ct e S1 => rw [hr] at h; exact h
  | ex x e S1 => rw [hr] at h; exact h
  | bad => rw [hr] at h; exact h
/-- found = work() -/
theorem gt_set (j : Nat) (f : Addr) (φ0 : Fi) (H0 : Hp) (φ : Fi) (H : Hp) (S : Store) (r : ER) (W : WX) (D : Ends) (σ : L2.St) (env : EnvD) (ex : Ext φ0 H0 φ H) (so : SOk G φ S H) (re : RepE G φ H σ env) (sl : σ[0]? = some (some (.ref f))) (h : PostS G W φ H (sAsg (fun _ _ => r) (bName j) env S) D) : tAsg (tAct G f φ0 H0 S r W) (gName j) D σ H := by
  refine ⟨sl, φ, ex, so, ?_⟩
  cases r with
  | ok d S1 => exact fun φ1 H1 v e1 s1 i1 => h φ1 H1 _ e1 s1 ((re.ext e1).set i1 j)
  | ex x S1 => exact fun φ1 H1 cls dx e1 s1 ix => h φ1 H1 σ cls dx e1 s1 (re.ext e1) ix
  | bad => exact h
end
/-! ### the def that is handed the lambda -/
abbrev zOf (G : Glb) (P : Program) (w : World) (mg : Str → Option Value) (base : Heap) (N : List Str) (x : Str) (st : Stmt) (g : Addr) (cdv : Value) (A : Around) (outer : List Env) (s : Shared) (H : Hp) (E : XK) : Cx := cxOf (L2.CX P w) P w G.K mg base N x (defScope st) g cdv A outer s H E
/-- hR: what it tells, by what the lambda gives at its beginning -/
structure LamD (G : Glb) (P : Program) (w : World) (mg : Str → Option Value) (base : Heap) (k : Nat) (x : Str) (hR : ER → Store → ER) : Prop where
  ex : ∃ (g : Addr) (fd : FuncData) (st : Stmt) (a : Str) (N : List Str), Fun G.K x x st g fd ∧ FnScope N [a] (defScope st) ∧ N[0]? = some a ∧ Vis (defScope st) a ∧ (a == ("__debug__" : Str)) = false ∧ (a == ("__classdict__" : Str)) = false ∧ mg x = some (.ref g) ∧ Binds G.K fd [a] [] ∧
    ∀ (cdv : Value) (A : Around) (outer : List Env) (s : Shared) (H : Hp) (E : XK), A.guards = some [] → Room k (A.deeper (envOfC x (defScope st) s.heap.objs.size g cdv)) →
      ∀ (f : Addr) (φ : Fi) (S : Store) (r : ER) (Q : VK), SOk G φ S H →
        (∀ (W : WX) (pn : List (Addr × Obj)) (xe : Value → Shared → Prop) (p1 p2 : Pos), Takes ((zOf G P w mg base N x st g cdv A outer s H E).tr pn xe) W → PE ((zOf G P w mg base N x st g cdv A outer s H E).tr pn xe) (.Call (.Name a p1) [] [] p2) (tAct G f φ H S r W)) →
        PostE G (fun cls dx _ H2 => E cls dx H2) φ H [] (hR r S) Q →
        ∃ t, PSs (zOf G P w mg base N x st g cdv A outer s H E) (defBody st) t ∧ t { nx := fun _ H' => Q .non H', rt := Q } (L2.start N [.ref f]) H
def eLam (hR : ER → Store → ER) (f : EM) : EM := fun env S => hR (f env S) S
section
variable {G : Glb} {X : Cx} {W : WX}
theorem de_lam {x : Str} {c P : Addr} {k : Nat} {hR : ER → Store → ER} {params : Arguments} {body : Expr} {scope : Scope} {fB : EM} {p lpos pos : Pos} (tb : LamX.TabB X.base X.mg c P) (own : X.env.code = .ref c) (mem : (P, X.env.qual ++ "<lambda>") ∈ G.T) (hK : X.K = G.K) (gd : X.A.guards = some []) (hr : Room (k + 2) X.A)
    (hg : Gl X x) (tk : Takes X W) (d : LamD G X.prog X.w X.mg X.base (k + 1) x hR) (ls : LamX.LamS X.env.scope scope) (nodef : defaultsOf params X.env = ([], []))
    (nobind : ∀ (q : Str) (cl : List (Str × Addr)) (pm cv ctv : Value), bindArgs (PySem.W.kla_fn "<lambda>" q params body scope cl pm cv ctv) ⟨[], []⟩ = pure [])
    (hb : ∀ (A1 : Around) (outer : List Env) (s2 : Shared) (H2 : Hp) (E : XK) (f d : Addr), A1.guards = some [] → Room k (A1.deeper (LamX.lamEnv X scope s2.heap.objs.size f d)) → Takes (LamX.lamCx X A1 outer s2 H2 E scope f d) (fun cls dx _ H => E cls dx H) →
      DE G (LamX.lamCx X A1 outer s2 H2 E scope f d) (fun cls dx _ H => E cls dx H) body fB)
    (hdb : (x == ("__debug__" : Str)) = false := by decide) :
    DE G X W (.Call (.Name x p) [.Lambda params body scope lpos] [] pos) (eLam hR fB) := by
  refine ⟨tOf G W (eLam hR fB), ⟨fun pins s σ H Q I ⟨env, φ, S, so, re, h⟩ => ?_⟩, fun σ H env φ S Q s re h => ⟨env, φ, S, s, re, h⟩⟩
  obtain ⟨g, fd, st, a, N, F, Sc, h0, hv, n1, n2, hm, hbn, main⟩ := d.ex
  have F0 := F
  obtain ⟨oc, od, kV, doc, pm, an, cdv, ct, osl, rfl, lk, hcd⟩ := F.ex
  rw [← hK] at lk hcd hbn
  refine wpAny_Call_Name_kw (ld_glob I hg hm ?_ hdb)
  refine PySem.W.callWith_K (h₀ := X.base) I.ok.mod.kin (by rw [hK]; exact F0.kp) ?_ (by rfl) (by rfl)
  show wpAny _ _ (spliced ((false, eval (.Lambda params body scope lpos) X.env) :: backTo pos (starEach [] X.env))) _ _ s
  refine Calls.spliced_cons (lam_made so I tb own mem nodef (ls.has I.ok) fun f d pm' ctv H1 s' I1 ext so1 ob hf hfr code od => ?_)
  refine Calls.spliced_nil ⟨I1.kIn, ?_⟩
  have rc : codeAny (model X.prog X.w) X.A (.call (.ref g) ⟨[.ref f], []⟩) (CR (L2.CX X.prog X.w) X.stack X.prog X.w H1 s' Q (WE W σ)) s' := by
    refine LamX.run_ofS (N := N) (ps := [a]) (us := [.ref f]) (vs := [.ref f]) lk hcd Sc hr I1.env0 (hbn s' [.ref f] I1.kIn rfl) (.cons rfl .nil) rfl fun hr' => ?_
    have act := fun (W2 : WX) (pn : List (Addr × Obj)) (xe : Value → Shared → Prop) (p1 p2 : Pos) (tk2 : Takes ((cxOf (L2.CX X.prog X.w) X.prog X.w X.K X.mg X.base N x (defScope st) g cdv X.A X.stack s' H1 (WE W σ)).tr pn xe) W2) =>
      lam_act (p1 := p1) (p2 := p2) (tb := fun E => tOf G (fun cls dx _ H => E cls dx H) fB) I1 ls ob hf hfr (nobind _ _ _ _ _) tk2 hr' (fun outer s2 H2 E r2 => (hb (X.A.deeper (envOfC x (defScope st) s'.heap.objs.size g cdv)) outer s2 H2 E f d gd r2 (takes_of rfl rfl rfl rfl)).can) h0 hv n1 n2
    have m := main cdv X.A X.stack s' H1 (WE W σ) gd hr' f φ S (fB env S) Q so1
    unfold zOf at m
    rw [← hK] at m
    refine m (fun W2 pn xe p1 p2 tk2 => ⟨fun pz sz τ Z Q' J hz => ?_⟩) ?_
    · obtain ⟨e1, φ', e2, e4, e3⟩ := hz
      refine (act W2 pn xe p1 p2 tk2).run pz sz τ _ Q' J ⟨e1, e2.keepE od.1 code firm_ext, env, φ', S, e4, (re.ext ext).ext e2, post_sig e3⟩
    · exact post_at (PostE.ext (r := hR (fB env S) S) ext h)
  refine wpAny_call (codeAny_mono rc fun r s2 hq => ?_)
  cases r with
  | error e => exact passAt tk σ pins H1 s' e s2 I1 hq
  | ok fl =>
    cases fl with
    | ret u => exact I1.after hq
    | next => exact False.elim hq
    | brk => exact False.elim hq
    | cont => exact False.elim hq
end
/-! ### its promise, by its body: err = None; try: work() / found = work(); except C as e: ..; the rest -/
noncomputable def gLamB (i1 i2 j i : Nat) (tab : Str → Bool) (gs gr : SM) (r : ER) : SM := sSeq (sAsg (eTup (lCons (eC .non) (lCons (eC .non) lNil))) (bTup (bCons (bName i1) (bCons (bName i2) bNil)))) (sSeq (sTry tab i (sAsg (fun _ _ => r) (bName j)) gs) gr)
noncomputable def hLam (m : Mode) (n : Nat) (g : ER → SM) : ER → Store → ER := fun r S => fnF m n (g r) [] S
section
variable {G : Glb} {P : Program} {w : World} {mg : Str → Option Value} {base : Heap}
theorem fn_post {m : Mode} {n : Nat} {g : SM} {ds : List D} {φ : Fi} {H : Hp} {S : Store} {Q : VK} {E : XK} (so : SOk G φ S H) (hp : PostE G (fun cls dx _ H2 => E cls dx H2) φ H [] (fnF m n g ds S) Q) :
    PostS G (fun cls d _ H => E cls d H) φ H (g (startD n ds) S) { nx := fun _ H' => Q .non H', rt := Q } := by
  unfold fnF at hp
  cases hg : g (startD n ds) S with
  | nx e S1 => rw [hg] at hp; exact fun φ1 H1 σ1 e1 s1 r1 => exit_ok so e1 s1 (show Is G φ1 H1 .non .non from rfl) hp
  | rt d S1 => rw [hg] at hp; exact fun φ1 H1 v e1 s1 i1 => exit_ok so e1 s1 i1 hp
  | ex x e S1 => rw [hg] at hp; exact fun φ1 H1 σ1 cls dx e1 s1 r1 ix => hp φ1 H1 cls dx e1 s1 ix
  | bk e S1 => rw [hg] at hp; exact False.elim hp
  | ct e S1 => rw [hg] at hp; exact False.elim hp
  | bad => rw [hg] at hp; exact False.elim hp
theorem start_rep {N : List Str} {f : Addr} {φ : Fi} {H : Hp} (hN : 1 ≤ N.length) : RepE G φ H (L2.start N [.ref f]) (startD N.length []) ∧ (L2.start N [.ref f])[0]? = some (some (.ref f)) := by
  refine ⟨⟨by simp [L2.start, startD]; omega, fun i d h => ?_⟩, by simp [L2.start]⟩
  unfold startD at h
  rw [List.map_nil, List.nil_append, List.getElem?_replicate] at h
  split at h <;> cases h
section
variable {x a y xe n : Str} {g : Addr} {fd : FuncData} {st : Stmt} {N : List Str} {k i i1 : Nat} {c : Value} {suite rest : List Stmt} {b₀ : Stmt} {p1 p2 p3 p4 p5 p6 np pos pos' : Pos} {jj} {tab : Str → Bool} {gs gr : SM}
/-- what of the body is asked in its context -/
structure LamZ (G : Glb) (P : Program) (w : World) (mg : Str → Option Value) (base : Heap) (k : Nat) (N : List Str) (x : Str) (st : Stmt) (g : Addr) (xe : Str) (c : Value) (suite rest : List Stmt) (gs gr : SM) : Prop where
  ok : ∀ (cdv : Value) (A : Around) (outer : List Env) (s : Shared) (H : Hp) (E : XK), A.guards = some [] → Room k (A.deeper (envOfC x (defScope st) s.heap.objs.size g cdv)) →
    Takes (zOf G P w mg base N x st g cdv A outer s H E) (fun cls d _ H => E cls d H) →
    PassesOwn (model P w) (A.deeper (envOfC x (defScope st) s.heap.objs.size g cdv)) (envOfC x (defScope st) s.heap.objs.size g cdv) (zOf G P w mg base N x st g cdv A outer s H E).xe →
    Names (zOf G P w mg base N x st g cdv A outer s H E) xe c ∧ (∀ (a : Addr) (pn : List (Addr × Obj)), DSs G ((zOf G P w mg base N x st g cdv A outer s H E).suite a pn) W0 suite gs) ∧
    DSs G (zOf G P w mg base N x st g cdv A outer s H E) (fun cls d _ H => E cls d H) rest gr
theorem lamD_B {i2 j : Nat} {y2 z : Str} {kt k2} {pt pt2 p7 p8 p9 : Pos} {jj2} (m : Mode) (F : Fun G.K x x st g fd) (Sc : FnScope N [a] (defScope st)) (hm : mg x = some (.ref g)) (hb : Binds G.K fd [a] []) (h0 : N[0]? = some a) (hv : Vis (defScope st) a)
    (hbody : defBody st = .Assign [.Tuple [.Name y p1, .Name y2 p2] kt pt] (.Tuple [.Constant .none jj p3, .Constant .none jj2 p7] k2 pt2) p8 :: .Try [.Assign [.Name z p9] (.Call (.Name a p4) [] [] p5) p6] [.ExceptHandler (some (.Name xe np)) (some n) (b₀ :: suite) pos'] [] [] pos :: rest)
    (hy : N[i1]? = some y) (hyl : (defScope st).names.lookup y = some .local) (h1 : i1 ≠ 0) (hy2 : N[i2]? = some y2) (hyl2 : (defScope st).names.lookup y2 = some .local) (h2 : i2 ≠ 0) (h12 : i1 ≠ i2) (hz : N[j]? = some z) (hzl : (defScope st).names.lookup z = some .local) (hi : N[i]? = some n) (hln : (defScope st).names.lookup n = some .local)
    (hx : ∀ cn C, G.ce cn = some C → PySem.W.exmOne G.K (.ref C) c = some (tab cn)) (Z : LamZ G P w mg base k N x st g xe c (b₀ :: suite) rest gs gr)
    (hw : ∀ (cdv : Value) (A : Around) (outer : List Env) (s : Shared) (H : Hp) (E : XK), swapsWithSole [.Tuple [.Name y p1, .Name y2 p2] kt pt] (.Tuple [.Constant .none jj p3, .Constant .none jj2 p7] k2 pt2) p8.line (zOf G P w mg base N x st g cdv A outer s H E).env = pure false ∧ swappedStores [.Tuple [.Name y p1, .Name y2 p2] kt pt] (.Tuple [.Constant .none jj p3, .Constant .none jj2 p7] k2 pt2) (zOf G P w mg base N x st g cdv A outer s H E).env = pure none)
    (n1 : (a == ("__debug__" : Str)) = false := by decide) (n2 : (a == ("__classdict__" : Str)) = false := by decide) :
    LamD G P w mg base k x (hLam m N.length (gLamB i1 i2 j i tab gs gr)) := by
  refine ⟨g, fd, st, a, N, F, Sc, h0, hv, n1, n2, hm, hb, fun cdv A outer s H E gd hr f φ S r Q so act h => ?_⟩
  obtain ⟨z1, z2, z3⟩ := Z.ok cdv A outer s H E gd hr (takes_of rfl rfl rfl rfl) (passes_of rfl)
  have hp := fn_post so h
  obtain ⟨re, sl⟩ := start_rep (G := G) (f := f) (φ := φ) (H := H) (N := N) (by have := (List.getElem?_eq_some_iff.mp h0).1; omega)
  obtain ⟨t2, q1, q2⟩ := try_lam (X := zOf G P w mg base N x st g cdv A outer s H E) (W := fun cls d _ H => E cls d H) (lift := fun T => tAsg T (gName j)) (gt := fun r => sAsg (fun _ _ => r) (bName j)) (call := .Call (.Name a p4) [] [] p5) (pos := pos) (pos' := pos') (np := np) rfl rfl rfl Sc.nd hi hln z1 hx (takes_of rfl rfl rfl rfl)
    (fun pn xe T hT => pss_one (ps_set (X := (zOf G P w mg base N x st g cdv A outer s H E).tr pn xe) (pos := p6) Sc.nd hz (.inl hzl) hT rfl (.inl rfl))) z2 z3 (gt_set j) (fun W pn xe tk => act W pn xe p4 p5 tk)
  have p0 : PS (zOf G P w mg base N x st g cdv A outer s H E) (.Assign [.Tuple [.Name y p1, .Name y2 p2] kt pt] (.Tuple [.Constant .none jj p3, .Constant .none jj2 p7] k2 pt2) p8) (tAsg (tTup (tCons (tC .non) (tCons (tC .non) tNil))) (gTup G.K 2 (gCons (gName i1) (gCons (gName i2) gNil)))) :=
    ps_asg (X := zOf G P w mg base N x st g cdv A outer s H E) (pe_tup (pa_cons pe_non (pa_cons pe_non pa_nil))) (pg_tup (X := zOf G P w mg base N x st g cdv A outer s H E) (n := 2) rfl (pgs_cons (pg_name Sc.nd hy (.inl hyl) (.inl rfl)) (pgs_cons (pg_name Sc.nd hy2 (.inl hyl2) (.inl rfl)) pgs_nil))) (hw cdv A outer s H E).1 (hw cdv A outer s H E).2
  refine ⟨_, by rw [hbody]; exact pss_cons p0 q1, ?_⟩
  have e0 : ∀ env, gLamB i1 i2 j i tab gs gr r env S = sSeq (sTry tab i (sAsg (fun _ _ => r) (bName j)) gs) gr ((env.set i1 (some .non)).set i2 (some .non)) S := fun env => by
    unfold gLamB
    rw [sSeq_is]
    have z2 : sz 2 := by unfold sz; omega
    have : (sAsg (eTup (lCons (eC .non) (lCons (eC .non) lNil))) (bTup (bCons (bName i1) (bCons (bName i2) bNil)))) env S = .nx ((env.set i1 (some .non)).set i2 (some .non)) S := by simp [z2]
    rw [this]
    rfl
  rw [e0] at hp
  refine ⟨by decide, fun p hpn => ⟨p, [.non, .non], rfl, .inl (.inl upd_same), rfl, .non, [.non], rfl, .non, [], rfl, rfl, ?_⟩⟩
  exact q2 _ _ φ _ _ (.laid hpn) (so.laid hpn) (((re.ext (.laid hpn)).set (d := .non) (v := .non) rfl i1).set (d := .non) (v := .non) rfl i2) (by
    rw [List.getElem?_set_ne h2, List.getElem?_set_ne h1]
    exact sl) (PostS.ext (.laid hpn) hp)
end
end
end DL
end
section
/-! The end of a law whose defs make lambdas: the tables of their code objects are known and empty at first. -/
namespace L2
open PySem PySem.Spec PyProof.Rows
/-- what is tracked when the law is called: the script, if it is not of the text, and the tables -/
def heap0 (a : Addr) (seen : Bool) (o : Obj) (xs : List V) (ts : List Addr) : Hp := fun b => if b = a then (if seen = true then none else some (.frz o (.lst xs))) else if b ∈ ts then some (.tbl #[]) else none
theorem heap0_t {a : Addr} {seen : Bool} {o : Obj} {xs : List V} {ts : List Addr} {b : Addr} (h : b ∈ ts) (n : b ≠ a) : heap0 a seen o xs ts b = some (.tbl #[]) := by
  unfold heap0
  rw [if_neg n, if_pos h]
theorem heap0_cases {a : Addr} {seen : Bool} {o : Obj} {xs : List V} {ts : List Addr} {b : Addr} {u : HO} (h : heap0 a seen o xs ts b = some u) : (b = a ∧ seen = false ∧ u = .frz o (.lst xs)) ∨ (b ≠ a ∧ b ∈ ts ∧ u = .tbl #[]) := by
  unfold heap0 at h
  split at h
  · rename_i e
    split at h
    · cases h
    · rename_i z
      cases h
      exact .inl ⟨e, by simpa using z, rfl⟩
  · rename_i e
    split at h
    · rename_i z
      cases h
      exact .inr ⟨e, z, rfl⟩
    · cases h
theorem law_callGT {P : Program} {w : World} {K : PySem.W.Frag} {mg mb : Str → Option Value} {CX : CXT} {k : Nat} {fa a : Addr} {cs : List (Addr × Addr)} {fd : FuncData} {x : Str} {sp : Sp} {s₁ : Shared} {vs : List Value} {ns : List Int}
    (KX : K.In s₁.heap) (hns : s₁.heap.Ns mainGlobals mg) (hb : s₁.heap.Ns builtinsNs mb) (hbb : ∀ x : Str, x ≠ "__name__" → mb x = bootBuiltins x) (hlim : s₁.heap.NoLimit) (hg : s₁.gens = #[])
    (empty : ∀ p ∈ cs, s₁.heap.get? p.2 = some { cls := .none, data := .fields #[] }) (noK : ∀ p ∈ cs, K.lookup p.2 = none) (code : ∀ p ∈ cs, PySem.W.CodeHd s₁.heap p.1 p.2)
    (main : ∃ (bm : Addr) (ob : Obj), mg "__builtins__" = some (.ref bm) ∧ bm ≠ builtinsNs ∧ s₁.heap.get? bm = some ob ∧ ob.cls = .type "module" ∧ ob.dict = some builtinsNs ∧ ob.data = .plain)
    (ha : s₁.heap.get? a = some { cls := .type "list", data := .seq vs.toArray }) (hi : IntsAre vs ns) (hl : ns.length ≤ sizeLine) (hr : Room k callerA)
    (F : ∀ base : Heap, K.In base → base.Ns mainGlobals mg → (∀ p ∈ cs, LamX.TabB base mg p.1 p.2) → FnG P w K mg base CX k fa fd [x] sp) (hbind : ∀ (s : Shared) (u : Value), BindsTo s fd ⟨[u], []⟩ [(x, u)])
    (hsp : ∀ H : Hp, (∀ p ∈ cs, H p.2 = some (.tbl #[])) → SqL K H a (ns.map V.int) → sp [.ref a] H (fun v _ => v = .bl true) fun _ _ _ => False)
    (hCX : ∀ H e s', CX [] H s₁ (fun _ _ _ => False) e s' → False) :
    codeAny (model P w) callerA (.call (.ref fa) ⟨[.ref a], []⟩) (fun r s' => r = .ok (.ret (.bool true)) ∧ OldK s₁.heap s'.heap ∧ s'.os = s₁.os ∧ AllBare s'.gens) s₁ := by
  obtain ⟨ts, hts⟩ : ∃ ts, ts = cs.map (·.2) := ⟨_, rfl⟩
  have inT : ∀ b, b ∈ ts → ∃ p ∈ cs, p.2 = b := fun b h => by rw [hts] at h; exact List.mem_map.mp h
  have toT : ∀ p ∈ cs, p.2 ∈ ts := fun p h => by rw [hts]; exact List.mem_map.mpr ⟨p, h, rfl⟩
  have obT : ∀ b ∈ ts, s₁.heap.get? b = some { cls := .none, data := .fields #[] } := fun b h => by
    obtain ⟨p, hp, rfl⟩ := inT b h
    exact empty p hp
  have aT : ∀ b ∈ ts, b ≠ a := fun b h z => by
    have q := obT b h
    rw [z, ha] at q
    have := congrArg Obj.data (Option.some.inj q)
    cases this
  have lenV := hi.length
  have rv := vals_ints hi
  obtain ⟨H, hH⟩ : ∃ H, H = heap0 a (K.lookup a).isSome { cls := .type "list", data := .seq vs.toArray } (ns.map V.int) ts := ⟨_, rfl⟩
  have cas : ∀ {b u}, H b = some u → (b = a ∧ K.lookup a = none ∧ u = .frz { cls := .type "list", data := .seq vs.toArray } (.lst (ns.map V.int))) ∨ (b ≠ a ∧ b ∈ ts ∧ u = .tbl #[]) := fun {b u} h => by
    rw [hH] at h
    rcases heap0_cases h with ⟨e1, e2, e3⟩ | q
    · exact .inl ⟨e1, by simpa using e2, e3⟩
    · exact .inr q
  have HT : ∀ p ∈ cs, H p.2 = some (.tbl #[]) := fun p hp => by rw [hH]; exact heap0_t (toT p hp) (aT _ (toT p hp))
  have HS : SqL K H a (ns.map V.int) := by
    cases hk : K.lookup a with
    | some o =>
      have e := KX a o hk
      rw [ha] at e
      cases e
      exact .inr ⟨_, vs.toArray, _, hk, rfl, rfl, rfl, by rw [List.size_toArray, lenV]; exact hl, by simpa using rv⟩
    | none =>
      refine .inl (.inr ⟨{ cls := .type "list", data := .seq vs.toArray }, ?_⟩)
      rw [hH]
      unfold heap0
      rw [if_pos rfl, hk]
      rfl
  have hok : HOk P w H s₁.heap := fun b u z => by
    rcases cas z with ⟨rfl, _, rfl⟩ | ⟨_, h, rfl⟩
    · exact ⟨ha, by rw [List.length_map]; exact hl, vs, _, rv, ha⟩
    · exact obT b h
  -- what no one tracks lies below
  have free : ∀ {b : Addr} {o : Obj}, s₁.heap.get? b = some o → (∀ vs n, o.data ≠ .seq vs n) → o.data ≠ .fields #[] → H b = none := fun {b o} e h1 h2 => by
    cases q : H b with
    | none => rfl
    | some u =>
      rcases cas q with ⟨rfl, _, _⟩ | ⟨_, h, _⟩
      · rw [ha] at e
        cases e
        exact absurd rfl (h1 _ _)
      · rw [obT b h] at e
        cases e
        exact absurd rfl h2
  have low : ∀ {b : Addr} {o : Obj}, s₁.heap.get? b = some o → H b = none → (hidT s₁.heap H).get? b = some o := fun e n => hidT_get e n
  have ofDict : ∀ {b : Addr} {o : Obj} {es : Array DictEntry} {ep : Nat}, s₁.heap.get? b = some o → o.data = .dict es ep → H b = none := fun {b o es ep} e d =>
    free e (fun vs n z => by rw [d] at z; cases z) (fun z => by rw [d] at z; cases z)
  have names : ∀ {b : Addr} {m : Str → Option Value}, s₁.heap.Ns b m → (hidT s₁.heap H).Ns b m := fun {b m} ⟨o, es, ep, e, d, r⟩ => ⟨o, es, ep, low e (ofDict e d), d, r⟩
  have KB : K.In (hidT s₁.heap H) := fun b o e => low (KX b o e) (by
    cases q : H b with
    | none => rfl
    | some u =>
      rcases cas q with ⟨rfl, z, _⟩ | ⟨_, h, _⟩
      · rw [e] at z; cases z
      · obtain ⟨p, hp, rfl⟩ := inT b h
        rw [noK p hp] at e
        cases e)
  have mod : Mod K mg (hidT s₁.heap H) := ⟨KB, names hns, ⟨mb, names hb, hbb⟩, let ⟨mc, h1, h2⟩ := hlim; ⟨mc, names h1, h2⟩⟩
  have tabs : ∀ p ∈ cs, LamX.TabB (hidT s₁.heap H) mg p.1 p.2 := fun p hp => by
    have e := empty p hp
    refine ⟨?_, ?_, fun z => ?_⟩
    · obtain ⟨o, us, file, tf, flags, tg, inF, text, tt, e1, r1, r2, r3, r⟩ := code p hp
      refine ⟨o, us, file, tf, flags, tg, inF, text, tt, low e1 (free e1 (fun vs n z => by rw [r2] at z; cases z) fun z => ?_), r1, r2, r3, r⟩
      rw [r2] at z
      cases z
      simp at r3
    · obtain ⟨bm, ob, b1, b2, b3, b4, b5, b6⟩ := main
      refine ⟨bm, ob, b1, b2, fun z => ?_, fun z => ?_, low b3 (free b3 (fun vs n z => by rw [b6] at z; cases z) fun z => by rw [b6] at z; cases z), b4, b5, b6⟩
      · obtain ⟨o, es, ep, e, hd, _⟩ := hns
        rw [z, e] at b3
        cases b3
        rw [hd] at b6
        cases b6
      · rw [z, e] at b3
        cases b3
        cases b6
    · obtain ⟨o, es, ep, e2, hd, _⟩ := hns
      rw [z, e] at e2
      cases e2
      cases hd
  have e0 : Env0 P w K mg (hidT s₁.heap H) callerA [] s₁ H := ⟨rfl, mod, fun b o e => of_hidT e, Nat.le_of_eq (hidT_size _ _), trivial, fun b hb => absurd (show b ∈ ([] : List Addr) from hb) (by simp), hok, .of_eq hg⟩
  refine codeAny_mono ((F _ KB (names hns) tabs).run callerA [] s₁ H ⟨[.ref a], []⟩ [.ref a] [.ref a] _ _ rfl hr e0 (hbind s₁ (.ref a)) (.cons rfl .nil) (hsp H HT HS)) fun r s' h => ?_
  match r, h with
  | .error e, h => exact (hCX H e s' h).elim
  | .ok .next, h => exact False.elim h
  | .ok .brk, h => exact False.elim h
  | .ok .cont, h => exact False.elim h
  | .ok (.ret u), h =>
    obtain ⟨v, H', os, bare, un, hok', r', q⟩ := h
    have q' : v = .bl true := q
    subst q'
    obtain rfl : u = Value.bool true := r'
    have keep : ∀ b o, b ∉ ts → s₁.heap.get? b = some o → s'.heap.get? b = some o := fun b o nb e => by
      cases q : H b with
      | none => exact un.keep b o e q (by intro z; exact absurd (show b ∈ ([] : List Addr) from z) (by simp)) (by simp)
      | some u =>
        rcases cas q with ⟨rfl, _, rfl⟩ | ⟨_, h, _⟩
        · obtain ⟨e2, _⟩ := hok' b _ (un.frzs b _ _ q)
          rw [ha] at e
          cases e
          exact e2
        · exact absurd h nb
    have grown : ∀ p ∈ cs, ∃ more : Array Value, s'.heap.get? p.2 = some { cls := .none, data := .fields more } := fun p hp => by
      obtain ⟨more, z⟩ := un.tbls p.2 #[] (HT p hp)
      exact ⟨_, hok' p.2 _ z⟩
    refine ⟨rfl, ⟨fun b o e => ?_, fun b o e => ?_⟩, os, bare⟩
    · by_cases hb : b ∈ ts
      · obtain ⟨p, hp, rfl⟩ := inT b hb
        obtain ⟨more, hm⟩ := grown p hp
        rw [empty p hp] at e
        cases e
        exact .inr (.inl ⟨((code p hp).tab (empty p hp)).isCodeTable, rfl, #[], more, rfl, by rw [Array.empty_append]; exact hm⟩)
      · exact .inl (keep b o hb e)
    · by_cases hb : b ∈ ts
      · obtain ⟨p, hp, rfl⟩ := inT b hb
        obtain ⟨more, hm⟩ := grown p hp
        exact ⟨_, hm⟩
      · exact ⟨o, keep b o hb e⟩
/-- the tables of the defs that the text records are empty at first -/
def TabAt (K : PySem.W.Frag) (mg : Str → Option Value) (h : Heap) (x : Str) : Prop := ∀ (g c P : Addr) (o : Obj) (fd : FuncData) (e : Value) (dd : Option Addr) (vs : Array Value) (sl : Array (Option Value)), mg x = some (.ref g) → K.lookup g = some o → o.data = .func fd → fd.code = .ref c → K.lookup c = some ⟨e, dd, .fields vs, sl⟩ → vs[11]? = some (.ref P) →
  h.get? P = some { cls := .none, data := .fields #[] }
/-- what is known of the law's promise -/
def LawGT (l : PySem.W.OpenLaw) (w : World) (K : PySem.W.Frag) (CX : CXT) (k n : Nat) (x : Str) (mg : Str → Option Value) (fa : Addr) (h : Heap) : Prop :=
  ∃ (fd : FuncData) (cs : List (Addr × Addr)) (sp : Sp), (∀ p ∈ cs, h.get? p.2 = some { cls := .none, data := .fields #[] }) ∧ (∀ p ∈ cs, K.lookup p.2 = none) ∧ (∀ p ∈ cs, PySem.W.CodeHd h p.1 p.2) ∧ (∀ (s : Shared) (u : Value), BindsTo s fd ⟨[u], []⟩ [(x, u)]) ∧
    (∀ (H : Hp) (a : Addr) (ns : List Int), ns.length ≤ n → (∀ p ∈ cs, H p.2 = some (.tbl #[])) → SqL K H a (ns.map V.int) → sp [.ref a] H (fun v _ => v = .bl true) fun _ _ _ => False) ∧
    ∀ base : Heap, K.In base → base.Ns mainGlobals mg → (∀ p ∈ cs, LamX.TabB base mg p.1 p.2) → FnG l.prog w K mg base CX k fa fd [x] sp
theorem walk_ofGT {l : PySem.W.OpenLaw} {n k : Nat} {q : Program} {loose : List Str} {XP : (Str → Option Value) → Heap → Prop} {YP : World → Heap → Prop} {d : DefRec} {K : Params → PySem.W.Frag} {CX : World → CXT} {x : Str}
    (hn : l.most = some n) (hn2 : n ≤ sizeLine) (hdf : d.params.defaults = []) (hr : Room k callerA) (hY : ∀ (w : World) (h : Heap), YP w h → (K w.params).In h)
    (F : ∀ (w : World) (mg : Str → Option Value) (fa : Addr) (h : Heap), (K w.params).In h → h.Ns mainGlobals mg → mg d.name = some (.ref fa) → (∀ y : Str, ((recsOf q).any fun e => e.name == y) = true → TabAt (K w.params) mg h y) → LawGT l w (K w.params) (CX w) k n x mg fa h)
    (hCX : ∀ (w : World) (H : Hp) (s : Shared) (e : Value) (s' : Shared), CX w [] H s (fun _ _ _ => False) e s' → False) :
    PySem.W.WalkO q loose XP YP l.row.toRowW d [] (fun f vs => PySem.call f vs) := by
  refine Att.attach_call hn hdf fun w s₀ s₁ mg mb fa o pm cd doc a vs ns G Y ho hd hcd hmg hobj hints hlen hg => ?_
  have KX := hY w _ Y
  have own : ∀ y : Str, ((recsOf q).any fun e => e.name == y) = true → TabAt (K w.params) mg s₁.heap y := fun y hrec g c P o1 fd1 e dd vs1 sl k0 k1 k2 k3 k4 k5 => by
    obtain ⟨dL, hm, hn1⟩ := List.any_eq_true.mp hrec
    obtain rfl : dL.name = y := beq_iff_eq.mp hn1
    obtain ⟨a', o', fd', c', P', h1, h2, h3, h4, h5, ⟨⟨oc, vc, e1, _, e3, e4⟩, hP⟩⟩ := G.T.tab dL hm
    rw [k0] at h1
    cases h1
    have g1 := KX _ _ k1
    rw [g1] at h2
    cases h2
    rw [k2] at h3
    cases h3
    rw [k3] at h4
    cases h4
    have g2 := KX _ _ k4
    rw [g2] at e1
    cases e1
    cases e3
    rw [k5] at e4
    cases e4
    exact hP
  obtain ⟨fd, cs, sp, hT, nT, C, hb, hsp, hF⟩ := F w mg fa _ KX G.T.g hmg own
  exact law_callGT KX G.T.g G.T.b G.T.builtins G.T.nolimit hg hT nT C G.T.bmain hobj hints (Nat.le_trans hlen hn2) hr hF hb (fun H hH hS => hsp H a ns hlen hH hS) fun H e s' => hCX w H s₁ e s'
end L2
namespace DL
open PySem L2 PySem.Spec PyProof.Rows
variable [DL.Nm]
theorem LamD.mono {G : Glb} {P : Program} {w : World} {mg : Str → Option Value} {base : Heap} {j k : Nat} {x : Str} {hR : ER → Store → ER} (d : LamD G P w mg base j x hR) (h : j ≤ k) : LamD G P w mg base k x hR := by
  obtain ⟨g, fd, st, a, N, F, Sc, h0, hv, n1, n2, hm, hb, r⟩ := d.ex
  exact ⟨g, fd, st, a, N, F, Sc, h0, hv, n1, n2, hm, hb, fun cdv A outer s H E gd hr => r cdv A outer s H E gd (hr.mono h)⟩
/-- a def whose code object is known: it makes lambdas -/
theorem fnGC {G : Glb} {P : Program} {w : World} {mg : Str → Option Value} {base : Heap} {x qual : Str} {st : Stmt} {f c : Addr} {fd : FuncData} {N ps : List Str} {k : Nat} {g : SM} (m : Mode) (hc : fd.code = .ref c) (F : Fun G.K x qual st f fd) (S : FnScope N ps (defScope st))
    (body : ∀ (A : Around) (outer : List Env) (s : Shared) (H : Hp) (E : XK), Room k (A.deeper (envOfC qual (defScope st) s.heap.objs.size f (.ref c))) →
      Takes (cxOf (L2.CX P w) P w G.K mg base N qual (defScope st) f (.ref c) A outer s H E) (fun cls d _ H => E cls d H) →
      PassesOwn (model P w) (A.deeper (envOfC qual (defScope st) s.heap.objs.size f (.ref c))) (envOfC qual (defScope st) s.heap.objs.size f (.ref c)) (cxOf (L2.CX P w) P w G.K mg base N qual (defScope st) f (.ref c) A outer s H E).xe →
      (cxOf (L2.CX P w) P w G.K mg base N qual (defScope st) f (.ref c) A outer s H E).A.guards = some [] →
      DSs G (cxOf (L2.CX P w) P w G.K mg base N qual (defScope st) f (.ref c) A outer s H E) (fun cls d _ H => E cls d H) (defBody st) g) :
    FnG P w G.K mg base (L2.CX P w) (k + 1) f fd ps (spD G ps.length (fnF m N.length g)) := by
  refine F.okG S (fun vs H Q E h => h.1) (fun cdv A outer s H vs Q E ec gd hr h => ?_)
  obtain rfl : cdv = .ref c := ec.symm.trans hc
  obtain ⟨_, φ, S0, ds, so, il, hp⟩ := h
  obtain ⟨t, pt, qt⟩ := body A outer s H E hr (takes_of rfl rfl rfl rfl) (passes_of rfl) gd
  exact ⟨t, pt, qt (L2.start N vs) H (startD N.length ds) φ S0 _ so (rep_start N il) (by
    unfold fnF at hp
    cases hg : g (startD N.length ds) S0 with
    | nx e S1 => rw [hg] at hp; exact fun φ1 H1 σ1 e1 s1 r1 => exit_ok so e1 s1 (show Is G φ1 H1 .non .non from rfl) hp
    | rt d S1 => rw [hg] at hp; exact fun φ1 H1 v e1 s1 i1 => exit_ok so e1 s1 i1 hp
    | ex x e S1 => rw [hg] at hp; exact fun φ1 H1 σ1 cls dx e1 s1 r1 ix => hp φ1 H1 cls dx e1 s1 ix
    | bk e S1 => rw [hg] at hp; exact False.elim hp
    | ct e S1 => rw [hg] at hp; exact False.elim hp
    | bad => rw [hg] at hp; exact False.elim hp)⟩
omit [DL.Nm] in
theorem nm_head {P : Addr} {q : Str} {l : List (Addr × Str)} : q = @Nm.nm (nmOf ((P, q) :: l)) P := by
  show q = (List.lookup P ((P, q) :: l)).getD Str.empty
  simp [List.lookup]
end DL
end
section
namespace DX
open PySem L2 DL
variable [DL.Nm]
noncomputable section
def g__law_changed_text : SM :=
(sSeq (sPar 2 3 (lCons (eCall d__law_next (lCons (eVar 0) (lCons (eC (.int 3)) lNil))) (lCons (eCall d__law_next (lCons (eVar 0) (lCons (eOp opAdd (eCallB bLenX (lCons (eVar 1) lNil)) (eC (.int 1))) lNil))) lNil)))
(sSeq (sAsg (eCall d__law_pick (lCons (eVar 0) (lCons (eOp opAdd (eC (.str "\"\\(), -01none")) (eVar 1)) lNil))) (bName 4))
(sSeq (sAsg (eIf (eOp opGt (eCall d__law_next (lCons (eVar 0) (lCons (eC (.int 5)) lNil))) (eC (.int 0))) (eVar 4) (eCall d__law_any_sign (lCons (eVar 0) lNil))) (bName 5))
(sSeq (sIf (eOp opEq (eVar 2) (eC (.int 0)))
(sRet (eOp opAdd (eOp opAdd (eSliceS (eVar 1) oNone (oSome (eVar 3))) (eVar 5)) (eSliceS (eVar 1) (oSome (eVar 3)) oNone)))
sSkip)
(sRet (eIf (eOp opEq (eVar 2) (eC (.int 1))) (eOp opAdd (eSliceS (eVar 1) oNone (oSome (eVar 3))) (eSliceS (eVar 1) (oSome (eOp opAdd (eVar 3) (eC (.int 1)))) oNone)) (eOp opAdd (eOp opAdd (eSliceS (eVar 1) oNone (oSome (eVar 3))) (eVar 5)) (eSliceS (eVar 1) (oSome (eOp opAdd (eVar 3) (eC (.int 1)))) oNone))))))))
def d__law_changed_text : FD := fnF .keep 6 g__law_changed_text
def g__law_thing_b1 (r__law_thing : FD) : SM :=
(sDrop (eMeth "list" mAppend (eVar 5) (lCons (eIf (eOp opEq (eCall d__law_next (lCons (eVar 0) (lCons (eC (.int 2)) lNil))) (eC (.int 0))) (eCall d__law_pick (lCons (eVar 0) (lCons (eVar 4) lNil))) (eCall d__law_any_sign (lCons (eVar 0) lNil))) lNil)))
def g__law_thing_e1 (r__law_thing : FD) : EM :=
(eCall r__law_thing (lCons (eVar 0) (lCons (eOp opSub (eVar 1) (eC (.int 1))) lNil)))
def g__law_thing (r__law_thing : FD) : SM :=
(sSeq (sAsg (eCall d__law_next (lCons (eVar 0) (lCons (eC (.int 8)) lNil))) (bName 2))
(sSeq (sIf (eOp opLt (eVar 2) (eC (.int 2)))
(sSeq (sAsg (eLst (lCons (eC (.int 0)) (lCons (eC (.int 1)) (lCons (eC (.int 7)) (lCons (eNeg (eC (.int 1))) (lCons (eC (.int 10)) (lCons (eNeg (eC (.int 10))) (lCons (eC (.int 1000000000)) (lCons (eOp opSub (eCall d__law_next (lCons (eVar 0) (lCons (eC (.int 5000)) lNil))) (eC (.int 2500))) (lCons (eOp opAdd (eCall d__law_ten (lCons (eC (.int 39)) lNil)) (eC (.int 7))) (lCons (eOp opSub (eC (.int 1)) (eCall d__law_ten (lCons (eC (.int 30)) lNil))) lNil))))))))))) (bName 3))
(sRet (eCall d__law_pick (lCons (eVar 0) (lCons (eVar 3) lNil)))))
sSkip)
(sSeq (sIf (eOp opEq (eVar 2) (eC (.int 2)))
(sRet (eC .non))
sSkip)
(sSeq (sIf (eOr (eOp opLt (eVar 2) (eC (.int 5))) (eOp opEq (eVar 1) (eC (.int 0))))
(sSeq (sAsg (eLst (lCons (eC (.str "\"")) (lCons (eC (.str "\\")) (lCons (eC (.str "none")) (lCons (eC (.str "(")) (lCons (eC (.str ")")) (lCons (eC (.str ", ")) (lCons (eC (.str "-1")) (lCons (eC (.str "a")) (lCons (eC (.str " ")) (lCons (eC (.str "\\\"")) (lCons (eC (.str "\"\"")) (lCons (eC (.str "~")) (lCons (eC (.str "1")) lNil)))))))))))))) (bName 4))
(sSeq (sAsg (eLstM lNil) (bName 5))
(sSeq (sFor (iRange1 (lCons (eCall d__law_next (lCons (eVar 0) (lCons (eC (.int 5)) lNil))) lNil)) (bName 6) (g__law_thing_b1 r__law_thing))
(sRet (eMeth "str" mJoin (eC (.str "")) (lCons (eVar 5) lNil))))))
sSkip)
(sRet (eCallB bTuple (lCons (eLc (iRange1 (lCons (eCall d__law_next (lCons (eVar 0) (lCons (eC (.int 4)) lNil))) lNil)) (bName 6) eYes (g__law_thing_e1 r__law_thing) [6]) lNil)))))))
def d__law_thing_n : Nat → FD
  | 0 => fnF .pure 7 sNev
  | n + 1 => fnF .pure 7 (g__law_thing (d__law_thing_n n))
def d__law_thing : FD := d__law_thing_n 12
def g__law_deep_thing_b1 : SM :=
(sAsg (eCall d__law_pick (lCons (eVar 0) (lCons (eLst (lCons (eTup (lCons (eVar 2) lNil)) (lCons (eTup (lCons (eC (.int 1)) (lCons (eVar 2) lNil))) (lCons (eTup (lCons (eVar 2) (lCons (eC .non) (lCons (eC (.str "x")) lNil)))) lNil)))) lNil))) (bName 2))
def g__law_deep_thing : SM :=
(sSeq (sAsg (eCall d__law_thing (lCons (eVar 0) (lCons (eC (.int 0)) lNil))) (bName 2))
(sSeq (sFor (iRange1 (lCons (eVar 1) lNil)) (bName 3) g__law_deep_thing_b1)
(sRet (eVar 2))))
def d__law_deep_thing : FD := fnF .keep 4 g__law_deep_thing
def g__law_read_number_c1 : EM :=
(eAnd (eOp opLt (eVar 2) (eCallB bLenX (lCons (eVar 0) lNil))) (eOr (eOp opIn (eOp opIxX (eVar 0) (eVar 2)) (eC (.str "0123456789"))) (eAnd (eOp opEq (eVar 2) (eVar 1)) (eOp opEq (eOp opIxX (eVar 0) (eVar 2)) (eC (.str "-"))))))
def g__law_read_number_b1 : SM :=
(sAsg (eOp opAdd (eVar 2) (eC (.int 1))) (bName 2))
def g__law_read_number : SM :=
(sSeq (sAsg (eVar 1) (bName 2))
(sSeq (sWhile g__law_read_number_c1 g__law_read_number_b1)
(sSeq (sAsg (eSliceS (eVar 0) (oSome (eVar 1)) (oSome (eVar 2))) (bName 3))
(sSeq (sAsg (eIf (eOp opEq (eSliceS (eVar 3) oNone (oSome (eC (.int 1)))) (eC (.str "-"))) (eSliceS (eVar 3) (oSome (eC (.int 1))) oNone) (eVar 3)) (bName 4))
(sSeq (sIf (eOr (eOp opEq (eVar 4) (eC (.str ""))) (eOr (eOp opGt (eCallB bLenX (lCons (eVar 4) lNil)) (eC (.int 400))) (eAnd (eOp opEq (eOp opIxX (eVar 4) (eC (.int 0))) (eC (.str "0"))) (eOp opNe (eVar 3) (eC (.str "0"))))))
(sRet (eC .non))
sSkip)
(sRet (eTup (lCons (eCallB bIntS (lCons (eVar 3) lNil)) (lCons (eVar 2) lNil)))))))))
def d__law_read_number : FD := fnF .pure 5 g__law_read_number
def g__law_read_word_c1 : EM :=
(eOp opLt (eVar 1) (eCallB bLenX (lCons (eVar 0) lNil)))
def g__law_read_word_b1 : SM :=
(sSeq (sAsg (eOp opIxX (eVar 0) (eVar 1)) (bName 3))
(sSeq (sIf (eOp opEq (eVar 3) (eC (.str "\"")))
(sRet (eTup (lCons (eMeth "str" mJoin (eC (.str "")) (lCons (eVar 2) lNil)) (lCons (eOp opAdd (eVar 1) (eC (.int 1))) lNil))))
sSkip)
(sSeq (sIf (eOp opEq (eVar 3) (eC (.str "\\")))
(sSeq (sAsg (eOp opAdd (eVar 1) (eC (.int 1))) (bName 1))
(sSeq (sAsg (eSliceS (eVar 0) (oSome (eVar 1)) (oSome (eOp opAdd (eVar 1) (eC (.int 1))))) (bName 3))
(sIf (eOp opNotIn (eVar 3) (eLst (lCons (eC (.str "\"")) (lCons (eC (.str "\\")) lNil))))
(sRet (eC .non))
sSkip)))
sSkip)
(sSeq (sIf (eNot (eChain opLeS opLeS (eC (.str " ")) (eVar 3) (eC (.str "~"))))
(sRet (eC .non))
sSkip)
(sSeq (sDrop (eMeth "list" mAppend (eVar 2) (lCons (eVar 3) lNil)))
(sAsg (eOp opAdd (eVar 1) (eC (.int 1))) (bName 1)))))))
def g__law_read_word : SM :=
(sSeq (sAsg (eLstM lNil) (bName 2))
(sSeq (sWhile g__law_read_word_c1 g__law_read_word_b1)
(sRet (eC .non))))
def d__law_read_word : FD := fnF .pure 4 g__law_read_word
def g__law_read_tuple_c1 (r__law_read_thing : FD) : EM :=
(eOp opGt (eVar 2) (eC (.int 0)))
def g__law_read_tuple_b1 (r__law_read_thing : FD) : SM :=
(sSeq (sAsg (eCall r__law_read_thing (lCons (eVar 0) (lCons (eVar 1) (lCons (eOp opSub (eVar 2) (eC (.int 1))) lNil)))) (bName 4))
(sSeq (sIf (eOp opIsN (eVar 4) (eC .non))
(sRet (eC .non))
sSkip)
(sSeq (sDrop (eMeth "list" mAppend (eVar 3) (lCons (eOp opIxX (eVar 4) (eC (.int 0))) lNil)))
(sSeq (sAsg (eOp opIxX (eVar 4) (eC (.int 1))) (bName 1))
(sSeq (sIf (eOp opEq (eSliceS (eVar 0) (oSome (eVar 1)) (oSome (eOp opAdd (eVar 1) (eC (.int 1))))) (eC (.str ")")))
(sRet (eTup (lCons (eCallB bTuple (lCons (eVar 3) lNil)) (lCons (eOp opAdd (eVar 1) (eC (.int 1))) lNil))))
sSkip)
(sSeq (sIf (eOp opNe (eSliceS (eVar 0) (oSome (eVar 1)) (oSome (eOp opAdd (eVar 1) (eC (.int 2))))) (eC (.str ", ")))
(sRet (eC .non))
sSkip)
(sAsg (eOp opAdd (eVar 1) (eC (.int 2))) (bName 1))))))))
def g__law_read_tuple (r__law_read_thing : FD) : SM :=
(sSeq (sAsg (eLstM lNil) (bName 3))
(sSeq (sIf (eOp opEq (eSliceS (eVar 0) (oSome (eVar 1)) (oSome (eOp opAdd (eVar 1) (eC (.int 1))))) (eC (.str ")")))
(sRet (eTup (lCons (eTup lNil) (lCons (eOp opAdd (eVar 1) (eC (.int 1))) lNil))))
sSkip)
(sSeq (sWhile (g__law_read_tuple_c1 r__law_read_thing) (g__law_read_tuple_b1 r__law_read_thing))
(sRet (eC .non)))))
def d__law_read_tuple (r__law_read_thing : FD) : FD := fnF .pure 5 (g__law_read_tuple r__law_read_thing)
def g__law_read_thing (r__law_read_thing : FD) : SM :=
(sSeq (sIf (eOp opEq (eSliceS (eVar 0) (oSome (eVar 1)) (oSome (eOp opAdd (eVar 1) (eC (.int 1))))) (eC (.str "(")))
(sRet (eIf (eOp opGt (eVar 2) (eC (.int 0))) (eCall (d__law_read_tuple r__law_read_thing) (lCons (eVar 0) (lCons (eOp opAdd (eVar 1) (eC (.int 1))) (lCons (eVar 2) lNil)))) (eC .non)))
sSkip)
(sSeq (sIf (eOp opEq (eSliceS (eVar 0) (oSome (eVar 1)) (oSome (eOp opAdd (eVar 1) (eC (.int 1))))) (eC (.str "\"")))
(sRet (eCall d__law_read_word (lCons (eVar 0) (lCons (eOp opAdd (eVar 1) (eC (.int 1))) lNil))))
sSkip)
(sRet (eIf (eOp opEq (eSliceS (eVar 0) (oSome (eVar 1)) (oSome (eOp opAdd (eVar 1) (eC (.int 4))))) (eC (.str "none"))) (eTup (lCons (eC .non) (lCons (eOp opAdd (eVar 1) (eC (.int 4))) lNil))) (eCall d__law_read_number (lCons (eVar 0) (lCons (eVar 1) lNil)))))))
def d__law_read_thing_n : Nat → FD
  | 0 => fnF .pure 3 sNev
  | n + 1 => fnF .pure 3 (g__law_read_thing (d__law_read_thing_n n))
def d__law_read_thing : FD := d__law_read_thing_n 12
def g__law_text_e1 (r__law_text : FD) : EM :=
(eCall r__law_text (lCons (eVar 3) lNil))
def g__law_text_e2 (r__law_text : FD) : EM :=
(eOp opAdd (eOp opMulW (eC (.str "\\")) (eCallB bInt (lCons (eOp opIn (eVar 2) (eLst (lCons (eC (.str "\"")) (lCons (eC (.str "\\")) lNil)))) lNil))) (eVar 2))
def g__law_text (r__law_text : FD) : SM :=
(sSeq (sIf (eIsC (tabB .tuple) (eVar 0))
(sRet (eOp opAdd (eOp opAdd (eC (.str "(")) (eMeth "str" mJoin (eC (.str ", ")) (lCons (eLc (iSeq (eVar 0)) (bName 3) eYes (g__law_text_e1 r__law_text) [3]) lNil))) (eC (.str ")"))))
sSkip)
(sSeq (sIf (eIsC (tabB .str) (eVar 0))
(sSeq (sAsg (eLc (iSeq (eVar 0)) (bName 2) eYes (g__law_text_e2 r__law_text) [2]) (bName 1))
(sRet (eOp opAdd (eOp opAdd (eC (.str "\"")) (eMeth "str" mJoin (eC (.str "")) (lCons (eVar 1) lNil))) (eC (.str "\"")))))
sSkip)
(sRet (eIf (eOp opIsN (eVar 0) (eC .non)) (eC (.str "none")) (eCallB bStrX (lCons (eVar 0) lNil))))))
def d__law_text_n : Nat → FD
  | 0 => fnF .pure 4 sNev
  | n + 1 => fnF .pure 4 (g__law_text (d__law_text_n n))
def d__law_text : FD := d__law_text_n 12
def g__law_told_of : SM :=
(sSeq (sAsg (eCall d__law_read_thing (lCons (eVar 0) (lCons (eC (.int 0)) (lCons (eC (.int 8)) lNil)))) (bName 1))
(sRet (eIf (eAnd (eOp opNotN (eVar 1) (eC .non)) (eOp opEq (eOp opIxX (eVar 1) (eC (.int 1))) (eCallB bLenX (lCons (eVar 0) lNil)))) (eLst (lCons (eOp opIxX (eVar 1) (eC (.int 0))) lNil)) (eLst lNil))))
def d__law_told_of : FD := fnF .pure 2 g__law_told_of
def g_number_from_c1 : EM :=
(eAnd (eOp opLt (eVar 2) (eCallB bLenX (lCons (eVar 0) lNil))) (eOp opIn (eOp opIxX (eVar 0) (eVar 2)) (eC (.str "0123456789"))))
def g_number_from_b1 : SM :=
(sAug 2 opAddI (eC (.int 1)))
def g_number_from : SM :=
(sSeq (sAsg (eIf (eOp opEq (eSliceS (eVar 0) (oSome (eVar 1)) (oSome (eOp opAdd (eVar 1) (eC (.int 1))))) (eC (.str "-"))) (eOp opAdd (eVar 1) (eC (.int 1))) (eVar 1)) (bName 2))
(sSeq (sWhile g_number_from_c1 g_number_from_b1)
(sSeq (sAsg (eSliceS (eVar 0) (oSome (eVar 1)) (oSome (eVar 2))) (bName 3))
(sSeq (sAsg (eMeth "str" mLstrip (eVar 3) (lCons (eC (.str "-")) lNil)) (bName 4))
(sSeq (sIf (eOr (eOp opEq (eVar 4) (eC (.str ""))) (eOr (eOp opGt (eCallB bLenX (lCons (eVar 4) lNil)) (eC (.int 400))) (eAnd (eOp opEq (eOp opIxX (eVar 4) (eC (.int 0))) (eC (.str "0"))) (eOp opNe (eVar 3) (eC (.str "0"))))))
(sRet (eC .non))
sSkip)
(sRet (eTup (lCons (eCallB bIntS (lCons (eVar 3) lNil)) (lCons (eVar 2) lNil)))))))))
def d_number_from : FD := fnF .pure 5 g_number_from
def g_text_from_c1 : EM :=
(eAnd (eOp opLt (eVar 1) (eCallB bLenX (lCons (eVar 0) lNil))) (eOp opNe (eOp opIxX (eVar 0) (eVar 1)) (eC (.str "\""))))
def g_text_from_b1 : SM :=
(sSeq (sIf (eOp opEq (eOp opIxX (eVar 0) (eVar 1)) (eC (.str "\\")))
(sSeq (sAug 1 opAddI (eC (.int 1)))
(sIf (eOp opNotIn (eSliceS (eVar 0) (oSome (eVar 1)) (oSome (eOp opAdd (eVar 1) (eC (.int 1))))) (eTup (lCons (eC (.str "\"")) (lCons (eC (.str "\\")) lNil))))
(sRet (eC .non))
sSkip))
sSkip)
(sSeq (sIf (eNot (eChain opLeS opLeS (eC (.str " ")) (eOp opIxX (eVar 0) (eVar 1)) (eC (.str "~"))))
(sRet (eC .non))
sSkip)
(sSeq (sDrop (eMeth "list" mAppend (eVar 2) (lCons (eOp opIxX (eVar 0) (eVar 1)) lNil)))
(sAug 1 opAddI (eC (.int 1))))))
def g_text_from : SM :=
(sSeq (sAsg (eLstM lNil) (bName 2))
(sSeq (sAug 1 opAddI (eC (.int 1)))
(sSeq (sWhile g_text_from_c1 g_text_from_b1)
(sRet (eIf (eOp opLt (eVar 1) (eCallB bLenX (lCons (eVar 0) lNil))) (eTup (lCons (eMeth "str" mJoin (eC (.str "")) (lCons (eVar 2) lNil)) (lCons (eOp opAdd (eVar 1) (eC (.int 1))) lNil))) (eC .non))))))
def d_text_from : FD := fnF .pure 3 g_text_from
def g_tuple_from_c1 (r_thing_from : FD) : EM :=
(eC (.bl true))
def g_tuple_from_b1 (r_thing_from : FD) : SM :=
(sSeq (sAsg (eIf (eOp opGt (eVar 2) (eC (.int 0))) (eCall r_thing_from (lCons (eVar 0) (lCons (eOp opAdd (eVar 1) (eC (.int 1))) (lCons (eOp opSub (eVar 2) (eC (.int 1))) lNil)))) (eC .non)) (bName 4))
(sSeq (sIf (eOp opIsN (eVar 4) (eC .non))
(sRet (eC .non))
sSkip)
(sSeq (sAsg (eVar 4) (bTup (bCons (bName 5) (bCons (bName 1) bNil))))
(sSeq (sDrop (eMeth "list" mAppend (eVar 3) (lCons (eVar 5) lNil)))
(sSeq (sIf (eOp opEq (eSliceS (eVar 0) (oSome (eVar 1)) (oSome (eOp opAdd (eVar 1) (eC (.int 1))))) (eC (.str ")")))
(sRet (eTup (lCons (eCallB bTuple (lCons (eVar 3) lNil)) (lCons (eOp opAdd (eVar 1) (eC (.int 1))) lNil))))
sSkip)
(sSeq (sIf (eOp opNe (eSliceS (eVar 0) (oSome (eVar 1)) (oSome (eOp opAdd (eVar 1) (eC (.int 2))))) (eC (.str ", ")))
(sRet (eC .non))
sSkip)
(sAug 1 opAddI (eC (.int 1)))))))))
def g_tuple_from (r_thing_from : FD) : SM :=
(sSeq (sIf (eOp opEq (eSliceS (eVar 0) (oSome (eOp opAdd (eVar 1) (eC (.int 1)))) (oSome (eOp opAdd (eVar 1) (eC (.int 2))))) (eC (.str ")")))
(sRet (eTup (lCons (eTup lNil) (lCons (eOp opAdd (eVar 1) (eC (.int 2))) lNil))))
sSkip)
(sSeq (sAsg (eLstM lNil) (bName 3))
(sWhile (g_tuple_from_c1 r_thing_from) (g_tuple_from_b1 r_thing_from))))
def d_tuple_from (r_thing_from : FD) : FD := fnF .pure 6 (g_tuple_from r_thing_from)
def g_thing_from (r_thing_from : FD) : SM :=
(sSeq (sAsg (eSliceS (eVar 0) (oSome (eVar 1)) (oSome (eOp opAdd (eVar 1) (eC (.int 1))))) (bName 3))
(sSeq (sIf (eOp opEq (eVar 3) (eC (.str "(")))
(sRet (eIf (eOp opGt (eVar 2) (eC (.int 0))) (eCall (d_tuple_from r_thing_from) (lCons (eVar 0) (lCons (eVar 1) (lCons (eVar 2) lNil)))) (eC .non)))
sSkip)
(sSeq (sIf (eOp opEq (eVar 3) (eC (.str "\"")))
(sRet (eCall d_text_from (lCons (eVar 0) (lCons (eVar 1) lNil))))
sSkip)
(sSeq (sIf (eOp opEq (eSliceS (eVar 0) (oSome (eVar 1)) (oSome (eOp opAdd (eVar 1) (eC (.int 4))))) (eC (.str "none")))
(sRet (eTup (lCons (eC .non) (lCons (eOp opAdd (eVar 1) (eC (.int 4))) lNil))))
sSkip)
(sRet (eCall d_number_from (lCons (eVar 0) (lCons (eVar 1) lNil))))))))
def d_thing_from_n : Nat → FD
  | 0 => fnF .pure 4 sNev
  | n + 1 => fnF .pure 4 (g_thing_from (d_thing_from_n n))
def d_thing_from : FD := d_thing_from_n 12
def g_read_whole : SM :=
(sSeq (sAsg (eCall d_thing_from (lCons (eVar 0) (lCons (eC (.int 0)) (lCons (eC (.int 8)) lNil)))) (bName 2))
(sSeq (sIf (eOr (eOp opIsN (eVar 2) (eC .non)) (eOp opNe (eOp opIxX (eVar 2) (eC (.int 1))) (eCallB bLenX (lCons (eVar 0) lNil))))
(sRaiseF "NoText" "row" (eVar 1))
sSkip)
(sRet (eOp opIxX (eVar 2) (eC (.int 0))))))
def d_read_whole : FD := fnF .pure 3 g_read_whole
def g_read_thing : SM :=
(sSeq (sIf (eNot (eIsC (tabB .str) (eVar 0)))
(sRaiseF "NoText" "row" (eC (.int 0)))
sSkip)
(sRet (eCall d_read_whole (lCons (eVar 0) (lCons (eC (.int 0)) lNil)))))
def d_read_thing : FD := fnF .pure 1 g_read_thing
def g_thing_text_e1 (r_thing_text : FD) : EM :=
(eCall r_thing_text (lCons (eVar 1) lNil))
def g_thing_text (r_thing_text : FD) : SM :=
(sSeq (sIf (eIsC (tabB .tuple) (eVar 0))
(sRet (eOp opAdd (eOp opAdd (eC (.str "(")) (eMeth "str" mJoin (eC (.str ", ")) (lCons (eLc (iSeq (eVar 0)) (bName 1) eYes (g_thing_text_e1 r_thing_text) [1]) lNil))) (eC (.str ")"))))
sSkip)
(sSeq (sIf (eOp opIsN (eVar 0) (eC .non))
(sRet (eC (.str "none")))
sSkip)
(sSeq (sIf (eIsC (tabB .str) (eVar 0))
(sRet (eOp opAdd (eCRep "\"" "\\" "\\\\" "\"" "\\\"" (eVar 0)) (eC (.str "\""))))
sSkip)
(sRet (eCallB bStrX (lCons (eVar 0) lNil))))))
def d_thing_text_n : Nat → FD
  | 0 => fnF .pure 2 sNev
  | n + 1 => fnF .pure 2 (g_thing_text (d_thing_text_n n))
def d_thing_text : FD := d_thing_text_n 12
end
end DX
end
section
/-! A lambda handed on: a def that is handed it and hands it to another one. -/
namespace DL
open PySem L2 PySem.Spec PyProof.Rows
variable [DL.Nm]
/-- a lambda that stands at f, told at s; r: what a call of it gives -/
structure FnL (G : Glb) (P : Program) (w : World) (mg : Str → Option Value) (base : Heap) (k : Nat) (f : Addr) (φ : Fi) (H : Hp) (S : Store) (r : ER) (fs : List Addr) (s : Shared) : Prop where
  ob : ∃ (q : Str) (params : Arguments) (body : Expr) (scope : Scope) (cl : List (Str × Addr)) (pm ctv : Value) (d : Addr), s.heap.get? f = some (PySem.W.kla_obj "<lambda>" q params body scope cl pm d ctv)
  free : H f = none
  nf : f ∉ fs
  run : ∀ (A : Around) (outer : List Env) (s1 : Shared) (φ1 : Fi) (Z : Hp) (Q : VK) (E : XK), Room k A → A.guards = some [] → Env0 P w G.K mg base A outer s1 Z → Un fs [] H Z s.heap s1.heap → Ext φ H φ1 Z → SOk G φ1 S Z → PostE G (fun cls dx _ H2 => E cls dx H2) φ1 Z [] r Q →
    codeAny (model P w) A (.call (.ref f) ⟨[], []⟩) (CR (L2.CX P w) outer P w Z s1 Q E) s1
theorem FnL.mono {G : Glb} {P : Program} {w : World} {mg : Str → Option Value} {base : Heap} {j k : Nat} {f : Addr} {φ : Fi} {H : Hp} {S : Store} {r : ER} {fs : List Addr} {s : Shared} (F : FnL G P w mg base j f φ H S r fs s) (h : j ≤ k) : FnL G P w mg base k f φ H S r fs s :=
  ⟨F.ob, F.free, F.nf, fun A outer s1 φ1 Z Q E hr => F.run A outer s1 φ1 Z Q E (hr.mono h)⟩
section
variable {G : Glb} {P : Program} {w : World} {mg : Str → Option Value} {base : Heap}
/-- it is called, in the def that was handed it -/
theorem FnL.act {k : Nat} {N : List Str} {x a : Str} {st : Stmt} {g f : Addr} {cdv : Value} {A : Around} {outer : List Env} {s : Shared} {H : Hp} {E : XK} {φ : Fi} {S : Store} {r : ER} (F : FnL G P w mg base k f φ H S r (frs outer) s) (gd : A.guards = some [])
    (hr : Room k (A.deeper (envOfC x (defScope st) s.heap.objs.size g cdv))) (h0 : N[0]? = some a) (hv : Vis (defScope st) a) (n1 : (a == ("__debug__" : Str)) = false) (n2 : (a == ("__classdict__" : Str)) = false)
    (W : WX) (pn : List (Addr × Obj)) (xe : Value → Shared → Prop) (p1 p2 : Pos) (tk : Takes ((zOf G P w mg base N x st g cdv A outer s H E).tr pn xe) W) : PE ((zOf G P w mg base N x st g cdv A outer s H E).tr pn xe) (.Call (.Name a p1) [] [] p2) (tAct G f φ H S r W) := by
  constructor
  intro pz sz τ Z Q J ⟨slot, φ1, ex1, so1, post⟩
  have named := (pe_var (pos := p1) (i := 0) h0 hv n1 n2).run pz sz τ Z (fun v K' => v = .ref f ∧ K' = Z) J ⟨.ref f, slot, rfl, rfl⟩
  refine wpAny_Call_Name_kw (thn named fun u s1 ⟨v, K1, J1, rel, e1, e2⟩ => ?_)
  subst e1
  rw [e2] at J1
  clear e2
  obtain rfl : u = Value.ref f := rel
  obtain ⟨q, params, body, scope, cl, pm, ctv, d, ob⟩ := F.ob
  have un : Un (frs outer) [] H Z s.heap s1.heap := J1.base
  have still := un.keep f _ ob F.free F.nf (by simp)
  refine PySem.W.callWith_F0 ⟨_, _, _, _, still⟩ (wpAny_call ?_)
  refine codeAny_mono (F.run _ _ s1 φ1 Z Q (fun cls dx K' => W cls dx τ K') hr gd J1.env0 un ex1 so1 post) fun r s' q => ?_
  cases r with
  | error e => exact passAt tk τ pz Z s1 e s' J1 q
  | ok fl =>
    cases fl with
    | ret u => exact J1.after q
    | next => exact False.elim q
    | brk => exact False.elim q
    | cont => exact False.elim q
/-- a def that is handed a lambda, and calls it, or hands it on, dd times -/
structure LamF (G : Glb) (P : Program) (w : World) (mg : Str → Option Value) (base : Heap) (j dd : Nat) (x : Str) (hR : ER → Store → ER) : Prop where
  ex : ∃ (g : Addr) (fd : FuncData) (st : Stmt) (a : Str) (N : List Str), Fun G.K x x st g fd ∧ FnScope N [a] (defScope st) ∧ mg x = some (.ref g) ∧ Binds G.K fd [a] [] ∧
    ∀ (k : Nat) (cdv : Value) (A : Around) (outer : List Env) (s : Shared) (H : Hp) (E : XK), j ≤ k → A.guards = some [] → Room (k + dd) (A.deeper (envOfC x (defScope st) s.heap.objs.size g cdv)) →
      ∀ (f : Addr) (φ : Fi) (S : Store) (r : ER) (Q : VK), SOk G φ S H → FnL G P w mg base k f φ H S r (frs outer) s →
        PostE G (fun cls dx _ H2 => E cls dx H2) φ H [] (hR r S) Q →
        ∃ t, PSs (zOf G P w mg base N x st g cdv A outer s H E) (defBody st) t ∧ t { nx := fun _ H' => Q .non H', rt := Q } (L2.start N [.ref f]) H
theorem LamF.mono {j k dd : Nat} {x : Str} {hR : ER → Store → ER} (d : LamF G P w mg base j dd x hR) (h : j ≤ k) : LamF G P w mg base k dd x hR := by
  obtain ⟨g, fd, st, a, N, F, Sc, hm, hb, r⟩ := d.ex
  exact ⟨g, fd, st, a, N, F, Sc, hm, hb, fun k cdv A outer s H E hk => r k cdv A outer s H E (Nat.le_trans h hk)⟩
end
section
variable {G : Glb} {X : Cx} {W : WX}
end
section
variable {G : Glb} {P : Program} {w : World} {mg : Str → Option Value} {base : Heap}
end
end DL
end
section
/-! sorted, of a tuple of texts. -/
namespace L2
open PySem PySem.Spec PyProof.Rows PyProof
variable [DL.Nm]
section
variable {prog : Program} {w : World} {A : Around} {E : Value → Shared → Prop} {s : Shared}
end
section
variable {X : Cx}
end
end L2
namespace DL
open PySem L2
variable [DL.Nm]
variable {G : Glb} {X : Cx} {W : WX}
/-- sorted: a list or a tuple of texts -/
def bSortedU (ds : List D) (S : Store) : ER := match ds with
  | [.tup es] => match strsD es with
    | some ns => if ns.length < 64 then .ok (.lst ((sortS ns).map .str)) S else .bad
    | none => .bad
  | ds => bSortedS ds S
@[simp] theorem bSortedU_t {ns : List Str} {S : Store} : bSortedU [.tup (ns.map .str)] S = if ns.length < 64 then .ok (.lst ((sortS ns).map .str)) S else .bad := by
  unfold bSortedU
  dsimp only
  rw [strsD_map]
@[simp] theorem bSortedU_l {ns : List Str} {S : Store} : bSortedU [.lst (ns.map .str)] S = if ns.length < 64 then .ok (.lst ((sortS ns).map .str)) S else .bad := bSortedS_l
end DL
end
section
set_option maxHeartbeats 400000
/-! d.update(e): a dict's cell, a dict as data. -/
namespace L2
open PySem PySem.Spec PyProof.Rows
variable [DL.Nm]
section
variable {X : Cx}
end
end L2
namespace DL
open PySem L2
variable [DL.Nm]
section
variable {G : Glb} {X : Cx} {W : WX}
end
end DL
end
section
set_option maxHeartbeats 400000
/-! d.update({.. for x in e.values()}), both live dicts: e is read as data meanwhile, what was laid later is hidden. -/
namespace DL
open PySem L2
variable [DL.Nm]
def Fi.fold (φ : Fi) (l : Nat) : Fi := ⟨φ.c.take l, φ.h ++ φ.c.drop (l + 1)⟩
section
variable {G : Glb} {φ : Fi} {H : Hp} {S : Store}
theorem fold_out {l : Nat} {a : Addr} (h : φ.out a) : (φ.fold l).out a := ⟨fun z => h.1 (List.mem_of_mem_take z), fun z => by
  rcases List.mem_append.mp z with z | z
  · exact h.2 z
  · exact h.1 (List.mem_of_mem_drop z)⟩
theorem RdL.fold {n : Nat} {a : Addr} {xs : List V} (h : RdL G φ H a xs) : RdL G (φ.fold n) H a xs := h.elim (fun z => .inl ⟨fold_out z.1, z.2⟩) .inr
theorem RdT.fold {n : Nat} {a : Addr} {xs : List V} (h : RdT G φ H a xs) : RdT G (φ.fold n) H a xs := h.elim (fun z => .inl ⟨fold_out z.1, z.2⟩) .inr
mutual
theorem fold_is {n : Nat} : ∀ {d : D} {v : V}, belD n d = true → Is G φ H d v → Is G (φ.fold n) H d v
  | .non, _, _, i => i
  | .bl _, _, _, i => i
  | .int _, _, _, i => i
  | .str _, _, _, i => i
  | .tup ds, _, h, i => by obtain ⟨a, xs, e1, r, q⟩ := i; exact ⟨a, xs, e1, r.fold, fold_isL h q⟩
  | .lst ds, _, h, i => by obtain ⟨a, xs, e1, r, q⟩ := i; exact ⟨a, xs, e1, r.fold, fold_isL h q⟩
  | .dic _ ds, _, h, i => by obtain ⟨a, xs, e1, ⟨n1, r⟩, z, q⟩ := i; exact ⟨a, xs, e1, ⟨fold_out n1, r⟩, z, fold_isL h q⟩
  | .obj _ _ ds, _, h, i => by obtain ⟨a, C, dx, xs, e1, ⟨n1, r⟩, c, z, q⟩ := i; exact ⟨a, C, dx, xs, e1, ⟨fold_out n1, r⟩, c, z, fold_isL h q⟩
  | .dct _ ds, _, h, i => by obtain ⟨a, xs, e1, ⟨n1, r⟩, z, q⟩ := i; exact ⟨a, xs, e1, ⟨fold_out n1, r⟩, z, fold_isL h q⟩
  | .exn _ _ ds, _, h, i => by
    obtain ⟨a, C, d, e1, ⟨n1, r⟩, c, z⟩ := i
    refine ⟨a, C, d, e1, ⟨fold_out n1, r⟩, c, ?_⟩
    rcases z with z | ⟨b, fs, e4, ⟨n2, r2⟩, e5, q⟩
    · exact .inl z
    · exact .inr ⟨b, fs, e4, ⟨fold_out n2, r2⟩, e5, fold_isL h q⟩
  | .tpl _, _, h, i => by obtain ⟨a, xs, o, e1, ⟨n1, r⟩, q⟩ := i; exact ⟨a, xs, o, e1, ⟨fold_out n1, r⟩, fold_isL h q⟩
  | .loc l, _, h, i => by
    obtain ⟨a, ha, e⟩ := i
    have hl : l < n := of_decide_eq_true h
    exact ⟨a, by show (φ.c.take n)[l]? = _; rw [List.getElem?_take, if_pos hl]; exact ha, e⟩
theorem fold_isL {n : Nat} : ∀ {ds : List D} {vs : List V}, belDs n ds = true → IsL G φ H ds vs → IsL G (φ.fold n) H ds vs
  | [], _, _, i => i
  | d :: ds, _, h, i => by
    obtain ⟨x, r, e1, p, q⟩ := i
    have h' : (belD n d && belDs n ds) = true := h
    simp only [Bool.and_eq_true] at h'
    exact ⟨x, r, e1, fold_is h'.1 p, fold_isL h'.2 q⟩
end
theorem CellOk.fold {a : Addr} {c : Cell} {n : Nat} (hb : c.bel n = true) (h : CellOk G φ H a c) : CellOk G (φ.fold n) H a c := by
  cases c with
  | lst ds => obtain ⟨xs, k, q⟩ := h; exact ⟨xs, k, fold_isL hb q⟩
  | dic kvs => obtain ⟨xs, k, z, q⟩ := h; exact ⟨xs, k, z, fold_isL hb q⟩
  | ins c fs => obtain ⟨C, dx, xs, k, y, z, q⟩ := h; exact ⟨C, dx, xs, k, y, z, fold_isL hb q⟩
  | dct kvs => obtain ⟨xs, k, z, q⟩ := h; exact ⟨xs, k, z, fold_isL hb q⟩
  | lck kvs o => obtain ⟨od, xs, e1, k, z, q⟩ := h; exact ⟨od, xs, e1, k, z, fold_isL hb q⟩
theorem CellOk.notup {a : Addr} {c : Cell} (h : CellOk G φ H a c) : ∃ o, H a = Option.some o ∧ NoTup o := by
  cases c with
  | lst ds => obtain ⟨xs, k, _⟩ := h; exact ⟨_, k, trivial⟩
  | dic kvs => obtain ⟨xs, k, _⟩ := h; exact ⟨_, k, trivial⟩
  | ins c fs => obtain ⟨C, dx, xs, _, k, _⟩ := h; exact ⟨_, k, trivial⟩
  | dct kvs => obtain ⟨xs, k, _⟩ := h; exact ⟨_, k, trivial⟩
  | lck kvs o => obtain ⟨_, _, e1, k, _⟩ := h; subst e1; exact ⟨_, k, trivial⟩
theorem SOk.fold (s : SOk G φ S H) {n : Nat} (hb : ∀ c ∈ S.take n, c.bel n = true) : SOk G (φ.fold n) (S.take n) H := by
  refine ⟨by simp [Fi.fold, s.len], s.nd.sublist (List.take_sublist _ _), fun a ha => ?_, fun l c hc => ?_, fun p hp => (s.tab p hp).mono fun a n => fold_out n⟩
  · rcases List.mem_append.mp ha with z | z
    · obtain ⟨n1, q⟩ := s.hid a z
      exact ⟨fun z => n1 (List.mem_of_mem_take z), q⟩
    · obtain ⟨i, hi, e⟩ := List.getElem_of_mem z
      have hi2 : n + 1 + i < φ.c.length := by rw [List.length_drop] at hi; omega
      have e2 : φ.c[n + 1 + i]? = some a := by rw [List.getElem?_eq_getElem hi2, ← e, List.getElem_drop]
      have hi3 : n + 1 + i < S.length := by rw [← s.len]; exact hi2
      obtain ⟨a', ha', k⟩ := s.cell (n + 1 + i) _ (List.getElem?_eq_getElem hi3)
      rw [e2] at ha'
      cases ha'
      refine ⟨fun y => ?_, k.notup⟩
      obtain ⟨j, hj, e3⟩ := List.getElem_of_mem (show a ∈ φ.c.take n from y)
      rw [List.length_take] at hj
      have hj2 : j < φ.c.length := by omega
      have e4 : φ.c[j] = φ.c[n + 1 + i] := by
        rw [List.getElem_take] at e3
        rw [e3]
        have := List.getElem?_eq_getElem hi2
        rw [e2] at this
        exact Option.some.inj this
      have := (List.getElem_inj s.nd).mp e4
      omega
  · have hm := hb c (List.mem_of_getElem? hc)
    rw [List.getElem?_take] at hc
    split at hc
    · rename_i hl
      obtain ⟨a, ha, k⟩ := s.cell l c hc
      exact ⟨a, by show (φ.c.take n)[l]? = _; rw [List.getElem?_take, if_pos hl]; exact ha, k.fold hm⟩
    · cases hc
end
section
variable {G : Glb} {X : Cx} {W : WX}
end
end DL
end
section
/-! a list of anything != [] -/
namespace L2
open PySem PySem.Spec PyProof.Rows
variable [DL.Nm]
end L2
namespace DL
open PySem L2
variable [DL.Nm]
variable {G : Glb} {X : Cx} {W : WX}
/-- a list of anything != [] -/
def opNeL0 (x y : D) (S : Store) : ER := match listD S x, y with
  | some ds, .lst [] => .ok (.bl (!decide (ds.length = 0))) S
  | _, _ => .bad
@[simp] theorem opNeL0_l {ds : List D} {S : Store} : opNeL0 (.lst ds) (.lst []) S = .ok (.bl (!decide (ds.length = 0))) S := rfl
end DL
end
section
/-! a dict == {}. -/
namespace L2
open PySem PySem.Spec PyProof.Rows
variable [DL.Nm]
section
variable {X : Cx} {pins : List (Addr × Obj)} {σ : St} {H : Hp} {s : Shared}
end
end L2
namespace DL
open PySem L2
variable [DL.Nm]
variable {G : Glb} {X : Cx} {W : WX}
end DL
end
section
/-! d.setdefault(k, x) of a dict that is a cell. -/
namespace DL
open PySem L2
variable [DL.Nm]
variable {G : Glb} {X : Cx} {W : WX}
end DL
end
section
/-! repr of lists within dicts and dicts within lists; d != {}; d.pop(k); tuple * n. -/
namespace L2
open PySem PySem.Spec PyProof.Rows
variable [DL.Nm]
section
variable {X : Cx} {pins : List (Addr × Obj)} {σ : St} {H : Hp} {s : Shared}
/-! ### repr of nested data: dicts alone must not be the start's own -/
structure RpOk (P : Program) (w : World) (h : Heap) (v : Value) (d : PyData) : Prop where
  rd : ∃ as, Reads h v d as
  rp : d.showable = true → d.shown.length ≤ sizeLine → ∃ bs, ReadAtMost h d.depth bs ∧ ReprK P w bs h d.depth v d.shown
structure RpAll (P : Program) (w : World) (h : Heap) (vs : List Value) (ds : List PyData) : Prop where
  rd : ∃ as, ReadsAll h vs ds as
  rp : PyData.showableAll ds = true → (∀ t ∈ PyData.shownAll ds, t.length ≤ sizeLine) → ∃ bs, ReadAtMost h (PyData.depthAll ds) bs ∧ ReprAllK P w bs h (PyData.depthAll ds) vs (PyData.shownAll ds)
section
variable {P : Program} {w : World} {h : Heap}
theorem RpOk.none : RpOk P w h .none .none := ⟨⟨_, .none⟩, fun _ _ => ⟨[], (fun _ h => nomatch h), by simp only [PyData.shown]; exact .of_is ReprIs.none _ _ _⟩⟩
theorem RpOk.bool (b : Bool) : RpOk P w h (.bool b) (.bool b) := ⟨⟨_, .bool b⟩, fun _ _ => ⟨[], (fun _ h => nomatch h), by simp only [PyData.shown]; exact .of_is (ReprIs.bool b) _ _ _⟩⟩
theorem RpOk.int (i : Int) (t : Tok) : RpOk P w h (.int i t) (.int i) := ⟨⟨_, .int i t⟩, fun hs _ => ⟨[], (fun _ h => nomatch h), by simp only [PyData.shown]; exact .of_is (ReprIs.int t (by simpa [PyData.showable] using hs)) _ _ _⟩⟩
theorem RpOk.str (x : Str) (t : Tok) : RpOk P w h (.str x t) (.str x) := ⟨⟨_, .str x t⟩, fun _ hz => ⟨[], (fun _ h => nomatch h), by simp only [PyData.shown]; exact .of_is (ReprIs.str x t (by simpa only [PyData.shown] using hz)) _ _ _⟩⟩
theorem RpAll.nil : RpAll P w h [] [] := ⟨⟨_, .nil⟩, fun _ _ => ⟨[], (fun _ h => nomatch h), by simp only [PyData.shownAll]; exact .nil⟩⟩
theorem RpAll.cons {v : Value} {vs : List Value} {d : PyData} {ds : List PyData} (r : RpOk P w h v d) (rs : RpAll P w h vs ds) : RpAll P w h (v :: vs) (d :: ds) := by
  refine ⟨?_, fun hs hz => ?_⟩
  · obtain ⟨as, a⟩ := r.rd
    obtain ⟨bs, b⟩ := rs.rd
    exact ⟨_, .cons a b⟩
  · have hs' : d.showable = true ∧ PyData.showableAll ds = true := by simpa [PyData.showableAll] using hs
    obtain ⟨b1, hb1, k1⟩ := r.rp hs'.1 (hz _ (by simp only [PyData.shownAll]; exact List.mem_cons_self ..))
    obtain ⟨b2, hb2, k2⟩ := rs.rp hs'.2 (fun t ht => hz t (by simp only [PyData.shownAll]; exact List.mem_cons_of_mem _ ht))
    refine ⟨b1 ++ b2, ?_, ?_⟩
    · intro b hm
      simp only [PyData.depthAll]
      rcases List.mem_append.mp hm with hm | hm
      · obtain ⟨d', as', r', hd'⟩ := hb1 b hm
        exact ⟨d', as', r', Nat.le_trans hd' (Nat.le_max_left _ _)⟩
      · obtain ⟨d', as', r', hd'⟩ := hb2 b hm
        exact ⟨d', as', r', Nat.le_trans hd' (Nat.le_max_right _ _)⟩
    · simp only [PyData.depthAll, PyData.shownAll]
      exact .cons ((k1.more fun b hb => List.mem_append_left _ hb).level_le (Nat.le_max_left _ _)) (k2.more_le (fun b hb => List.mem_append_right _ hb) (Nat.le_max_right _ _))
/-- an object whose repr is known -/
structure RpObj (P : Program) (w : World) (h : Heap) (a : Addr) (d : PyData) : Prop where
  ok : RpOk P w h (.ref a) d
  sh : d.showable = true → d.shown.length ≤ sizeLine → ∃ T idr, ShowsBy P w h a d T idr
theorem RpObj.list {a : Addr} {o : Obj} {vs : Array Value} {n : Nat} {xs : List PyData} (h1 : h.get? a = some o) (h2 : o.cls = .type "list") (h3 : o.data = .seq vs n) (h4 : RpAll P w h vs.toList xs) : RpObj P w h a (.list xs) := by
  obtain ⟨as, r4⟩ := h4.rd
  have r : Reads h (.ref a) (.list xs) _ := .list h1 h2 h3 r4
  refine ⟨⟨⟨_, r⟩, fun hs hz => ?_⟩, fun hs hsz => ?_⟩
  · have hz' : (listText (PyData.shownAll xs)).length ≤ sizeLine := by simpa only [PyData.shown] using hz
    obtain ⟨bs, hb, hk⟩ := h4.rp (by simpa [PyData.showable] using hs) (fun t ht => Nat.le_trans (listText_mem_le ht) hz')
    have hna : a ∉ bs := not_mem_of_deeper r (by simp only [PyData.depth]; omega) hb
    refine ⟨a :: bs, ReadAtMost.cons r (by simp only [PyData.depth]; omega) hb, ?_⟩
    simp only [PyData.depth, PyData.shown]
    obtain ⟨l⟩ := vs
    cases l with
    | nil =>
      have h4' : ReadsAll h [] xs _ := r4
      cases h4'
      simp only [PyData.shownAll, listText_nil]
      exact ReprK.listEmpty h1 h2 h3
    | cons x l => exact ReprK.list h1 h2 h3 hna (by simpa using hk.length_eq) (fun i y e => hk.item i y (by simpa using e))
  · have hz' : (listText (PyData.shownAll xs)).length ≤ sizeLine := by simpa only [PyData.shown] using hsz
    obtain ⟨bs, hb, hk⟩ := h4.rp (by simpa [PyData.showable] using hs) (fun t ht => Nat.le_trans (listText_mem_le ht) hz')
    have hna : a ∉ bs := not_mem_of_deeper r (by simp only [PyData.depth]; omega) hb
    refine ⟨"list", "list.__repr__", F.slot_list_repr.toG, F.slot_list_str, F.slot_list_format, fun s hk0 => ⟨o, hk0 _ _ h1, h2⟩, fun A E s Q hg hu hk0 hQ => ?_⟩
    simp only [PyData.depth] at hu
    simp only [PyData.shown] at hQ
    obtain ⟨l⟩ := vs
    cases l with
    | nil =>
      have h4' : ReadsAll h [] xs _ := r4
      cases h4'
      simp only [PyData.shownAll, listText_nil] at hQ
      exact call_list_repr_empty ⟨o, hk0 _ _ h1, h2⟩ (hk0 _ _ h1) h3 (hQ s.heap _ _ fun _ _ e => e)
    | cons x l =>
      exact call_list_reprK h1 h2 h3 hna (by simpa using hk.length_eq) (fun i y e => hk.item i y (by simpa using e)) hg (fun b _ => Clear.nil b) hu hk0 hQ hz'
theorem RpObj.tuple {a : Addr} {o : Obj} {vs : Array Value} {n : Nat} {xs : List PyData} (h1 : h.get? a = some o) (h2 : o.cls = .type "tuple") (h3 : o.data = .seq vs n) (h4 : RpAll P w h vs.toList xs) : RpObj P w h a (.tuple xs) := by
  obtain ⟨as, r4⟩ := h4.rd
  have r : Reads h (.ref a) (.tuple xs) _ := .tuple h1 h2 h3 r4
  refine ⟨⟨⟨_, r⟩, fun hs hz => ?_⟩, fun hs hsz => ?_⟩
  · have hz' : (tupleText (PyData.shownAll xs)).length ≤ sizeLine := by simpa only [PyData.shown] using hz
    obtain ⟨bs, hb, hk⟩ := h4.rp (by simpa [PyData.showable] using hs) (fun t ht => Nat.le_trans (tupleText_mem_le ht) hz')
    have hna : a ∉ bs := not_mem_of_deeper r (by simp only [PyData.depth]; omega) hb
    refine ⟨a :: bs, ReadAtMost.cons r (by simp only [PyData.depth]; omega) hb, ?_⟩
    simp only [PyData.depth, PyData.shown]
    exact ReprK.tuple h1 h2 h3 hna hk
  · have hz' : (tupleText (PyData.shownAll xs)).length ≤ sizeLine := by simpa only [PyData.shown] using hsz
    obtain ⟨bs, hb, hk⟩ := h4.rp (by simpa [PyData.showable] using hs) (fun t ht => Nat.le_trans (tupleText_mem_le ht) hz')
    have hna : a ∉ bs := not_mem_of_deeper r (by simp only [PyData.depth]; omega) hb
    refine ⟨"tuple", "tuple.__repr__", F.slot_tuple_repr, F.slot_tuple_str, F.slot_tuple_format, fun s hk0 => ⟨o, hk0 _ _ h1, h2⟩, fun A E s Q hg hu hk0 hQ => ?_⟩
    simp only [PyData.depth] at hu
    simp only [PyData.shown] at hQ
    exact call_tuple_reprK h1 h2 h3 hna hk hg (fun b _ => Clear.nil b) hu hk0 hQ hz'
theorem RpObj.dict {a : Addr} {o : Obj} {es : Array DictEntry} {n : Nat} {kvs : List (PyData × PyData)} (h1 : h.get? a = some o) (h2 : o.cls = .type "dict") (h3 : o.data = .dict es n) (hsys : (a == sysModules) = false)
    (h4 : RpAll P w h (es.toList.map (·.key)) (kvs.map (·.1))) (h5 : RpAll P w h (es.toList.map (·.val)) (kvs.map (·.2))) : RpObj P w h a (.dict kvs) := by
  obtain ⟨as, r4⟩ := h4.rd
  obtain ⟨bs, r5⟩ := h5.rd
  have r : Reads h (.ref a) (.dict kvs) _ := .dict h1 h2 h3 r4 r5
  have both : (PyData.dict kvs).showable = true → (PyData.dict kvs).shown.length ≤ sizeLine → ∃ b1 b2, a ∉ b1 ++ b2 ∧ ReadAtMost h (PyData.depthKv kvs) (b1 ++ b2) ∧ (dictText (PyData.shownKv kvs)).length ≤ sizeLine ∧
      ReprEntriesK P w (b1 ++ b2) h (PyData.depthKv kvs) es.toList (List.zipWith (fun k v => k ++ ": " ++ v) (PyData.shownAll (kvs.map (·.1))) (PyData.shownAll (kvs.map (·.2)))) := fun hs hz => by
    have hz' : (dictText (PyData.shownKv kvs)).length ≤ sizeLine := by simpa only [PyData.shown] using hz
    obtain ⟨hs1, hs2⟩ := PyData.showableKv_split kvs (by simpa [PyData.showable] using hs)
    obtain ⟨b1, hb1, k1⟩ := h4.rp hs1 (fun t ht => let ⟨p, hp, hl⟩ := PyData.shownKv_key_le kvs t ht; Nat.le_trans hl (Nat.le_trans (dictText_mem_le hp) hz'))
    obtain ⟨b2, hb2, k2⟩ := h5.rp hs2 (fun t ht => let ⟨p, hp, hl⟩ := PyData.shownKv_val_le kvs t ht; Nat.le_trans hl (Nat.le_trans (dictText_mem_le hp) hz'))
    have hb : ReadAtMost h (PyData.depthKv kvs) (b1 ++ b2) := (hb1.mono (PyData.depthAll_keys_le kvs)).append (hb2.mono (PyData.depthAll_vals_le kvs))
    have hna : a ∉ b1 ++ b2 := not_mem_of_deeper r (by simp only [PyData.depth]; omega) hb
    exact ⟨b1, b2, hna, hb, hz', ReprEntriesK.of_two es.toList _ _
      (k1.more_le (fun b hb => List.mem_append_left _ hb) (PyData.depthAll_keys_le kvs)) (k2.more_le (fun b hb => List.mem_append_right _ hb) (PyData.depthAll_vals_le kvs))⟩
  refine ⟨⟨⟨_, r⟩, fun hs hz => ?_⟩, fun hs hsz => ?_⟩
  · obtain ⟨b1, b2, hna, hb, _, hk⟩ := both hs hz
    refine ⟨a :: (b1 ++ b2), ReadAtMost.cons r (by simp only [PyData.depth]; omega) hb, ?_⟩
    simp only [PyData.depth, PyData.shown, PyData.shownKv_eq]
    exact ReprK.dict h1 h2 h3 hsys hna hk
  · obtain ⟨b1, b2, hna, hb, hz', hk⟩ := both hs hsz
    refine ⟨"dict", "dict.__repr__", F.slot_dict_repr, F.slot_dict_str, F.slot_dict_format, fun s hk0 => ⟨o, hk0 _ _ h1, h2⟩, fun A E s Q hg hu hk0 hQ => ?_⟩
    simp only [PyData.depth] at hu
    simp only [PyData.shown, PyData.shownKv_eq] at hQ
    exact call_dict_reprK h1 h2 h3 hsys hna hk hg (fun b _ => Clear.nil b) hu hk0 hQ (by rw [← PyData.shownKv_eq]; exact hz')
end
/-- what stands at a value, told of any state -/
def RdM (K : PySem.W.Frag) (H : Hp) (v : V) (p : PyData) : Prop :=
  ∀ (X : Cx) (pins : List (Addr × Obj)) (σ : St) (s : Shared) (u : Value), X.K = K → Inv X pins σ H s → RelV v u → RpOk X.prog X.w s.heap u p
def RdO (K : PySem.W.Frag) (H : Hp) (a : Addr) (p : PyData) : Prop :=
  ∀ (X : Cx) (pins : List (Addr × Obj)) (σ : St) (s : Shared), X.K = K → Inv X pins σ H s → RpObj X.prog X.w s.heap a p
theorem RdO.m {K : PySem.W.Frag} {H : Hp} {a : Addr} {p : PyData} (h : RdO K H a p) : RdM K H (.ref a) p := fun X pins σ s u hK I r => by
  cases (show u = Value.ref a from r)
  exact (h X pins σ s hK I).ok
end
end L2
namespace DL
open PySem L2
variable [DL.Nm]
variable {G : Glb} {X : Cx} {W : WX}
/-! ### tuple * n -/
/-! ### d.pop(k) -/
/-! ### repr -/
/-- a thing as data: lists, tuples, dicts, of one another -/
def pyL (S : Store) : Nat → D → Option PyData
  | 0 => fun _ => none
  | n + 1 => fun d => match d with
    | .non => some .none
    | .bl b => some (.bool b)
    | .int i => some (.int i)
    | .str x => some (.str x)
    | .tup ds => (optL (pyL S n) ds).map .tuple
    | .tpl ds => (optL (pyL S n) ds).map .tuple
    | .lst ds => (optL (pyL S n) ds).map .list
    | .dic ks ds => (optL (pyL S n) ds).map fun ps => .dict ((ks.map keyPy).zip ps)
    | .loc l => match S[l]? with
      | some (.dic kvs) => (optL (pyL S n) (kvs.map (·.2))).map fun ps => .dict (((kvs.map (·.1)).map keyPy).zip ps)
      | some (.lst ds) => (optL (pyL S n) ds).map .list
      | _ => none
    | _ => none
section
variable {φ : Fi} {S : Store} {H : Hp}
theorem optL_m {f : D → Option PyData} (st : ∀ d v p, Is G φ H d v → f d = some p → RdM G.K H v p) {X : Cx} {pins : List (Addr × Obj)} {σ : L2.St} {s : Shared} (hK : X.K = G.K) (I : Inv X pins σ H s) :
    ∀ {ds : List D} {vs : List V} {ps : List PyData} {us : List Value}, IsL G φ H ds vs → optL f ds = some ps → Vals vs us → RpAll X.prog X.w s.heap us ps
  | [], vs, ps, us, i, e, r => by
    cases (show vs = [] from i); cases e; cases r
    exact .nil
  | d :: ds, vs, ps, us, i, e, r => by
    obtain ⟨x, r0, rfl, p, q⟩ := i
    obtain ⟨a, e1, e2⟩ := Option.bind_eq_some_iff.mp (show (f d).bind (fun b => (optL f ds).map (b :: ·)) = some ps from e)
    obtain ⟨b, e3, e4⟩ := Option.map_eq_some_iff.mp e2
    subst e4
    cases r with
    | cons r1 r2 => exact .cons (st _ _ _ p e1 X pins σ s _ hK I r1) (optL_m st hK I q e3 r2)
theorem keys_m {P : Program} {w : World} {h : Heap} : ∀ {es : List DictEntry} {vs : List (Key × Value)}, Pairs (mixKind P w) es vs → RpAll P w h (es.map (·.key)) ((vs.map (·.1)).map keyPy)
  | _, _, .nil => .nil
  | _, _, .cons (e := e) (kv := kv) h1 h2 r => by
    have ih := keys_m (h := h) r
    have rd : RpOk P w h e.key (keyPy kv.1) := by
      rcases keyIs_shape (show keyIs kv.1 e.key = true from h1) with ⟨i, t, e1, e2⟩ | ⟨x, t, e1, e2⟩
      · rw [e1, e2]; exact .int i t
      · rw [e1, e2]; exact .str x t
    exact .cons rd ih
theorem dic_m {f : D → Option PyData} (st : ∀ d v p, Is G φ H d v → f d = some p → RdM G.K H v p) {a : Addr} {kvs : List (Key × V)} {ds : List D} {ps : List PyData} (r : Rd H a (.dK kvs)) (il : IsL G φ H ds (kvs.map (·.2))) (e : optL f ds = some ps) : RdO G.K H a (.dict (((kvs.map (·.1)).map keyPy).zip ps)) := by
  intro X pins σ s hK I
  obtain ⟨hz, h0, vs, kv, o, es, ep, h1, h2, h3, h4, h5, h6⟩ := dk_rd I.hok r
  obtain ⟨v1, v2⟩ := vals_pairs h5 kv
  have q1 := optL_m st hK I il e v1
  have lp : ps.length = kvs.length := by rw [optL_len e, il.length, List.length_map]
  have z1 : ((((kvs.map (·.1)).map keyPy).zip ps).map (·.1)) = (kvs.map (·.1)).map keyPy := by
    rw [List.map_fst_zip (by simp; omega)]
  have z2 : ((((kvs.map (·.1)).map keyPy).zip ps).map (·.2)) = ps := by
    rw [List.map_snd_zip (by simp; omega)]
  exact .dict h1 h2.1 h3 h0 (by rw [z1, v2]; exact keys_m h5) (by rw [z2]; exact q1)
theorem lst_m {f : D → Option PyData} (st : ∀ d v p, Is G φ H d v → f d = some p → RdM G.K H v p) {a : Addr} {xs : List V} {ds : List D} {ps : List PyData} (r : SqL G.K H a xs) (il : IsL G φ H ds xs) (e : optL f ds = some ps) : RdO G.K H a (.list ps) := by
  intro X pins σ s hK I
  obtain ⟨its, rv, ⟨o, n, ho, hc, _, hd⟩, _⟩ := I.list (by rw [hK]; exact r)
  exact .list ho hc hd (optL_m st hK I il e rv)
theorem tup_m {f : D → Option PyData} (st : ∀ d v p, Is G φ H d v → f d = some p → RdM G.K H v p) {a : Addr} {xs : List V} {ds : List D} {ps : List PyData} (r : SqT G.K H a xs) (il : IsL G φ H ds xs) (e : optL f ds = some ps) : RdO G.K H a (.tuple ps) := by
  intro X pins σ s hK I
  obtain ⟨its, rv, ⟨o, ho, hc, m, hd⟩, _⟩ := I.tuple (by rw [hK]; exact r)
  exact .tuple ho hc hd (optL_m st hK I il e rv)
def isSeqL : D → Bool
  | .lst _ => true
  | .tup _ => true
  | .tpl _ => true
  | .dic _ _ => true
  | .loc _ => true
  | _ => false
mutual
theorem pyL_o (s : SOk G φ S H) : ∀ (n : Nat) (d : D) (v : V) (p : PyData), isSeqL d = true → Is G φ H d v → pyL S (n + 1) d = some p → ∃ a, v = .ref a ∧ RdO G.K H a p := fun n d v p hq i e => by
    cases d with
    | tup ds =>
      obtain ⟨a, xs, rfl, r, q⟩ := i
      obtain ⟨ps, e1, e2⟩ := Option.map_eq_some_iff.mp (show (optL (pyL S n) ds).map PyData.tuple = some p from e)
      subst e2
      exact ⟨a, rfl, tup_m (pyL_rd s n) r.seq q e1⟩
    | tpl ds =>
      obtain ⟨a, xs, o', rfl, ⟨_, r, _, _⟩, q⟩ := i
      obtain ⟨ps, e1, e2⟩ := Option.map_eq_some_iff.mp (show (optL (pyL S n) ds).map PyData.tuple = some p from e)
      subst e2
      exact ⟨a, rfl, tup_m (pyL_rd s n) (.inl (.inr ⟨_, r⟩)) q e1⟩
    | lst ds =>
      obtain ⟨a, xs, rfl, r, q⟩ := i
      obtain ⟨ps, e1, e2⟩ := Option.map_eq_some_iff.mp (show (optL (pyL S n) ds).map PyData.list = some p from e)
      subst e2
      exact ⟨a, rfl, lst_m (pyL_rd s n) r.seq q e1⟩
    | dic ks ds =>
      obtain ⟨a, kvs, rfl, ⟨_, r⟩, ek, il⟩ := i
      obtain ⟨ps, e1, e2⟩ := Option.map_eq_some_iff.mp (show (optL (pyL S n) ds).map (fun ps => PyData.dict ((ks.map keyPy).zip ps)) = some p from e)
      subst e2
      rw [← ek]
      exact ⟨a, rfl, dic_m (pyL_rd s n) r il e1⟩
    | loc l =>
      obtain ⟨a, ha, rfl⟩ := i
      simp only [pyL] at e
      split at e
      · rename_i kvs hc
        obtain ⟨ps, e1, e2⟩ := Option.map_eq_some_iff.mp e
        subst e2
        obtain ⟨ws, hx, hk, il⟩ := s.at_ hc ha
        rw [← hk]
        exact ⟨a, rfl, dic_m (pyL_rd s n) (.inl hx) il e1⟩
      · rename_i ds hc
        obtain ⟨ps, e1, e2⟩ := Option.map_eq_some_iff.mp e
        subst e2
        obtain ⟨xs, hx, il⟩ := s.at_ hc ha
        exact ⟨a, rfl, lst_m (pyL_rd s n) (SqL.of hx) il e1⟩
      · cases e
    | _ => cases hq
termination_by n => (n + 1, 0)
theorem pyL_rd (s : SOk G φ S H) : ∀ (n : Nat) (d : D) (v : V) (p : PyData), Is G φ H d v → pyL S n d = some p → RdM G.K H v p
  | 0, d, v, p, i, e => by cases e
  | n + 1, d, v, p, i, e => by
      cases hq : isSeqL d with
      | true =>
        obtain ⟨a, rfl, h⟩ := pyL_o s n d v p hq i e
        exact h.m
      | false =>
        cases d with
        | non => cases (show v = _ from i); cases e; exact fun X pins σ s u _ I r => by cases r; exact .none
        | bl b => cases (show v = _ from i); cases e; exact fun X pins σ s u _ I r => by cases r; exact .bool b
        | int b => cases (show v = _ from i); cases e; exact fun X pins σ s u _ I r => by obtain ⟨t, rfl⟩ := r; exact .int b t
        | str b => cases (show v = _ from i); cases e; exact fun X pins σ s u _ I r => by obtain ⟨t, rfl⟩ := r; exact .str b t
        | obj _ _ _ => cases e
        | dct _ _ => cases e
        | exn _ _ _ => cases e
        | _ => cases hq
termination_by n => (n, 1)
end
end
end DL
end
section
/-! sorted of a tuple of ints; a list of anything == []; *a, b = a tuple. -/
namespace L2
open PySem PySem.Spec PySem.Calls PyProof.Rows PyProof PySem.W
variable [DL.Nm]
section
variable {prog : Program} {w : World} {A : Around} {E : Value → Shared → Prop} {s : Shared}
end
section
variable {X : Cx} {pos : Pos}
theorem op_lstEq0 (hu : X.A.units + 100 < cLine) : OpR X (compareOp .Eq) (fun x y H Q => ∃ a b xs, x = .ref a ∧ y = .ref b ∧ SqL X.K H a xs ∧ SqL X.K H b [] ∧ Q (.bl (decide (xs = []))) H) := by
  rintro pins s σ H x y v u Q I rx ry ⟨a, b, xs, rfl, rfl, ha, hb, q⟩
  cases (show v = Value.ref a from rx)
  cases (show u = Value.ref b from ry)
  obtain ⟨us, r1, p1, _⟩ := I.list ha
  obtain ⟨ws, r2, p2, _⟩ := I.list hb
  cases r2
  have res : ∃ w H', Inv X pins σ H' s ∧ RelV w (.bool (decide (xs = []))) ∧ Q w H' := ⟨.bl (decide (xs = [])), H, I, rfl, q⟩
  cases xs with
  | nil =>
    cases r1
    refine (SeqAt.RcAt.lists (e := fun _ => true) p1.isList p2.isList rfl (by omega) (fun j h1 h2 => ?_)) X.prog X.w _ _ res
    simp at h1
  | cons x xs =>
    refine (SeqAt.RcAt.lists_lengths p1.isList p2.isList ?_ (by omega)) X.prog X.w _ _ res
    rw [List.size_toArray, ← r1.length]
    simp
end
end L2
namespace DL
open PySem L2
variable [DL.Nm]
variable {G : Glb} {X : Cx} {W : WX}
/-- sorted: a list, a dict or a tuple of ints -/
def bSortedV (ds : List D) (S : Store) : ER := match ds with
  | [.tup es] => match intsD es with
    | some ns => if ns.length < 64 then .ok (.lst ((sortI ns).map .int)) S else .bad
    | none => .bad
  | ds => bSortedX ds S
@[simp] theorem bSortedV_t {ns : List Int} {S : Store} : bSortedV [.tup (ns.map .int)] S = if ns.length < 64 then .ok (.lst ((sortI ns).map .int)) S else .bad := by
  unfold bSortedV
  dsimp only
  rw [intsD_map]
@[simp] theorem bSortedV_l {ns : List Int} {S : Store} : bSortedV [.lst (ns.map .int)] S = .ok (.lst ((sortI ns).map .int)) S := by
  show bSortedX [.lst (ns.map .int)] S = _
  rw [bSortedX_lst]
  unfold bSorted
  dsimp only [listD, Option.bind]
  rw [intsD_map]
/-- a list of anything == [] -/
def opEqL0 (x y : D) (S : Store) : ER := match listD S x, y with
  | some ds, .lst [] => .ok (.bl (decide (ds.length = 0))) S
  | _, _ => .bad
theorem do_eqL0 (hK : X.K = G.K) (hu : X.A.units + 100 < cLine) : DOp G X (compareOp .Eq) opEqL0 := by
  refine ⟨_, op_lstEq0 hu, fun W φ S H σ dx dy x y Q s ix iy h => ?_⟩
  unfold opEqL0 at h
  split at h
  · rename_i ds hd
    obtain ⟨p, xs, rfl, r1, q1⟩ := listD_sq s ix hd
    obtain ⟨p2, ys, rfl, r2, q2⟩ := listD_sq s iy (ds := []) rfl
    have z : ys = [] := List.eq_nil_of_length_eq_zero (by simpa using q2.length.symm)
    subst z
    have e : decide (xs = []) = decide (ds.length = 0) := by
      rw [q1.length]; cases xs <;> simp
    refine ⟨p, p2, xs, rfl, rfl, by rw [hK]; exact r1, by rw [hK]; exact r2, ?_⟩
    rw [e]
    exact h.now s rfl
  · exact bad_no h
@[simp] theorem opEqL0_l {ds : List D} {S : Store} : opEqL0 (.lst ds) (.lst []) S = .ok (.bl (decide (ds.length = 0))) S := rfl
/-- *a, b = a list or a tuple -/
def sqTL (S : Store) : D → Option (List D)
  | .tup ds => some ds
  | d => listD S d
def sStarT (i j : Nat) (f : EM) : SM := fun e S => (f e S).bindS e fun d S => match sqTL S d with
  | some ds => match ds.getLast? with
    | some x => .nx ((e.set i (some (.lst ds.dropLast))).set j (some x)) S
    | none => .bad
  | none => .bad
@[simp] theorem sStarT_is {i j : Nat} {f : EM} {e : EnvD} {S : Store} : sStarT i j f e S = (f e S).bindS e fun d S => match sqTL S d with
  | some ds => match ds.getLast? with
    | some x => .nx ((e.set i (some (.lst ds.dropLast))).set j (some x)) S
    | none => .bad
  | none => .bad := rfl
end DL
namespace L2
open PySem PySem.Spec PyProof.Rows
variable [DL.Nm]
/-! ### tuple * 1 -/
end L2
namespace DL
open PySem L2
variable [DL.Nm]
variable {G : Glb} {X : Cx} {W : WX}
end DL
end
section
namespace DX.K77
open PySem L2 DX 
open DL hiding g__law_changed_text d__law_changed_text g__law_thing_b1 g__law_thing_e1 g__law_thing d__law_thing_n d__law_thing g__law_deep_thing_b1 g__law_deep_thing d__law_deep_thing g__law_read_number_c1 g__law_read_number_b1 g__law_read_number d__law_read_number g__law_read_word_c1 g__law_read_word_b1 g__law_read_word d__law_read_word g__law_text_e1 g__law_text d__law_text_n d__law_text g_number_from_c1 g_number_from_b1 g_number_from d_number_from g_text_from_c1 g_text_from_b1 g_text_from d_text_from g_thing_text d_thing_text_n d_thing_text
variable [DL.Nm]
noncomputable section
def g_board_text_e1 : EM :=
(eOp opAdd (eCall d_thing_text (lCons (eVar 1) lNil)) (eC (.str "\n")))
def g_board_text : SM :=
(sRet (eMeth "str" mJoin (eC (.str "")) (lCons (eLc (iSeq (eVar 0)) (bName 1) eYes g_board_text_e1 [1]) lNil)))
def d_board_text : FD := fnF .pure 2 g_board_text
def g_read_board_b1 : SM :=
(sSeq (sAsg (eCall d_read_whole (lCons (eVar 5) (lCons (eVar 4) lNil))) (bName 6))
(sSeq (sIf (eNot (eIsC (tabB .tuple) (eVar 6)))
(sRaiseF "NoText" "row" (eVar 4))
sSkip)
(sDrop (eMeth "list" mAppend (eVar 3) (lCons (eVar 6) lNil)))))
def g_read_board : SM :=
(sSeq (sIf (eNot (eIsC (tabB .str) (eVar 0)))
(sRaiseF "NoText" "row" (eC (.int 0)))
sSkip)
(sSeq (sStar 1 2 (eMeth "str" mSplit (eVar 0) (lCons (eC (.str "\n")) lNil)))
(sSeq (sAsg (eLstM lNil) (bName 3))
(sSeq (sFor (iEnumX (lCons (eVar 1) lNil)) (bTup (bCons (bName 4) (bCons (bName 5) bNil))) g_read_board_b1)
(sSeq (sIf (eOp opNe (eVar 2) (eC (.str "")))
(sRaiseF "NoText" "row" (eCallB bLenX (lCons (eVar 1) lNil)))
sSkip)
(sRet (eCallB bTuple (lCons (eVar 3) lNil))))))))
def d_read_board : FD := fnF .pure 7 g_read_board
def g__law_is_wide_e1 : EM :=
(eTup (lCons (eC (.str "x")) (lCons (eVar 3) lNil)))
def g__law_is_wide_e2 : EM :=
(eOp opAdd (eCall d__law_text (lCons (eVar 2) lNil)) (eC (.str "\n")))
def g__law_is_wide : SM :=
(sSeq (sAsg (eTup (lCons (eTRg (rg1 (eC (.int 300)))) (lCons (eTup (lCons (eOp opMulW (eC (.str "a\\ \"")) (eC (.int 1250))) (lCons (eTup lNil) lNil))) (lCons (eCallB bTuple (lCons (eLc (iRange1 (lCons (eC (.int 100)) lNil)) (bName 3) eYes g__law_is_wide_e1 [3]) lNil)) lNil)))) (bName 0))
(sSeq (sAsg (eMeth "str" mJoin (eC (.str "")) (lCons (eLc (iSeq (eVar 0)) (bName 2) eYes g__law_is_wide_e2 [2]) lNil)) (bName 1))
(sRet (eCall d__law_like (lCons (eLst (lCons (eCall d_board_text (lCons (eVar 0) lNil)) (lCons (eCall d_read_board (lCons (eVar 1) lNil)) lNil))) (lCons (eLst (lCons (eVar 1) (lCons (eVar 0) lNil))) lNil))))))
def d__law_is_wide : FD := fnF .pure 4 g__law_is_wide
def g__law_changed_rows : SM :=
(sSeq (sPar 2 3 (lCons (eCall d__law_next (lCons (eVar 0) (lCons (eC (.int 7)) lNil))) (lCons (eCall d__law_next (lCons (eVar 0) (lCons (eOp opAdd (eCallB bLenX (lCons (eVar 1) lNil)) (eC (.int 1))) lNil))) lNil)))
(sSeq (sIf (eOr (eOp opEq (eVar 2) (eC (.int 0))) (eOp opEqL0 (eVar 1) (eLst lNil)))
(sSeq (sAsg (eLst (lCons (eC (.str "")) (lCons (eC (.str "none")) (lCons (eC (.str "5")) (lCons (eC (.str "()")) (lCons (eC (.str "(1)")) (lCons (eC (.str "\"a\"")) (lCons (eC (.str "(")) (lCons (eC (.str " ()")) (lCons (eC (.str "() ")) (lCons (eOp opAdd (eOp opAdd (eC (.str "(")) (eOp opMulW (eC (.str "1")) (eC (.int 400)))) (eC (.str ")"))) (lCons (eOp opAdd (eOp opAdd (eC (.str "(")) (eOp opMulW (eC (.str "1")) (eC (.int 401)))) (eC (.str ")"))) lNil)))))))))))) (bName 4))
(sRet (eOp opAdd (eOp opAdd (eSliceS (eVar 1) oNone (oSome (eVar 3))) (eLst (lCons (eCall d__law_pick (lCons (eVar 0) (lCons (eVar 4) lNil))) lNil))) (eSliceS (eVar 1) (oSome (eVar 3)) oNone))))
sSkip)
(sSeq (sIf (eOp opEq (eVar 2) (eC (.int 1)))
(sRet (eOp opAdd (eSliceS (eVar 1) oNone (oSome (eVar 3))) (eSliceS (eVar 1) (oSome (eOp opAdd (eVar 3) (eC (.int 1)))) oNone)))
sSkip)
(sSeq (sIf (eOp opEq (eVar 2) (eC (.int 2)))
(sRet (eOp opAdd (eOp opAdd (eSliceS (eVar 1) oNone (oSome (eVar 3))) (eSliceS (eVar 1) (oSome (eVar 3)) (oSome (eOp opAdd (eVar 3) (eC (.int 1)))))) (eSliceS (eVar 1) (oSome (eVar 3)) oNone)))
sSkip)
(sSeq (sAsg (eOp opMod (eVar 3) (eCallB bLenX (lCons (eVar 1) lNil))) (bName 3))
(sSeq (sIf (eOp opEq (eVar 2) (eC (.int 3)))
(sSeq (sAsg (eCall d__law_next (lCons (eVar 0) (lCons (eOp opAdd (eCallB bLenX (lCons (eOp opIxX (eVar 1) (eVar 3)) lNil)) (eC (.int 1))) lNil))) (bName 5))
(sRet (eOp opAdd (eOp opAdd (eSliceS (eVar 1) oNone (oSome (eVar 3))) (eLst (lCons (eSliceS (eOp opIxX (eVar 1) (eVar 3)) oNone (oSome (eVar 5))) (lCons (eSliceS (eOp opIxX (eVar 1) (eVar 3)) (oSome (eVar 5)) oNone) lNil)))) (eSliceS (eVar 1) (oSome (eOp opAdd (eVar 3) (eC (.int 1)))) oNone))))
sSkip)
(sRet (eOp opAdd (eOp opAdd (eSliceS (eVar 1) oNone (oSome (eVar 3))) (eLst (lCons (eCall d__law_changed_text (lCons (eVar 0) (lCons (eOp opIxX (eVar 1) (eVar 3)) lNil))) lNil))) (eSliceS (eVar 1) (oSome (eOp opAdd (eVar 3) (eC (.int 1)))) oNone)))))))))
def d__law_changed_rows : FD := fnF .keep 6 g__law_changed_rows
def g__law_safe_told_s1 : SM :=
(sAsg (eVar 3) (bName 2))
def g__law_safe_told_r1 : SM :=
(sRet (eIf (eOp opIsN (eVar 2) (eC .non)) (eVar 1) (eCall d__law_refusal (lCons (eVar 2) lNil))))
def h__law_safe_told : ER → Store → ER := hLam .keep 4 (gLamB 1 2 1 3 (fun _ => true) g__law_safe_told_s1 g__law_safe_told_r1)
def g__law_due_b1 : SM :=
(sSeq (sAsg (eCall d__law_told_of (lCons (eVar 4) lNil)) (bName 5))
(sSeq (sIf (eOr (eOp opEqL0 (eVar 5) (eLst lNil)) (eNot (eIsC (tabB .tuple) (eOp opIxX (eVar 5) (eC (.int 0))))))
(sRet (eLst (lCons (eC (.str "NoText")) (lCons (eVar 3) lNil))))
sSkip)
(sDrop (eMeth "list" mAppend (eVar 2) (lCons (eOp opIxX (eVar 5) (eC (.int 0))) lNil)))))
def g__law_due : SM :=
(sSeq (sIf (eNot (eIsC (tabB .str) (eVar 0)))
(sRet (eLst (lCons (eC (.str "NoText")) (lCons (eC (.int 0)) lNil))))
sSkip)
(sSeq (sPar 1 2 (lCons (eMeth "str" mSplit (eVar 0) (lCons (eC (.str "\n")) lNil)) (lCons (eLstM lNil) lNil)))
(sSeq (sFor (iEnumX (lCons (eSlice (eVar 1) oNone (oSome (eNeg (eC (.int 1))))) lNil)) (bTup (bCons (bName 3) (bCons (bName 4) bNil))) g__law_due_b1)
(sRet (eIf (eOp opEq (eOp opIxX (eVar 1) (eNeg (eC (.int 1)))) (eC (.str ""))) (eCallB bTuple (lCons (eVar 2) lNil)) (eLst (lCons (eC (.str "NoText")) (lCons (eOp opSub (eCallB bLenX (lCons (eVar 1) lNil)) (eC (.int 1))) lNil))))))))
def d__law_due : FD := fnF .pure 6 g__law_due
def g__law_right_e1 : EM :=
(eCall d__law_thing (lCons (eVar 2) (lCons (eC (.int 2)) lNil)))
def g__law_right_e2 : EM :=
(eCallB bTuple (lCons (eLc (iRange1 (lCons (eCall d__law_next (lCons (eVar 2) (lCons (eC (.int 5)) lNil))) lNil)) (bName 11) eYes g__law_right_e1 [11]) lNil))
def g__law_right_e3 : EM :=
(eCall d__law_text (lCons (eVar 10) lNil))
def g__law_right_e4 : EM :=
(eOp opAdd (eVar 10) (eC (.str "\n")))
def g__law_right_e5 : EM :=
(eOp opAdd (eVar 10) (eC (.str "\n")))
def g__law_right_l1 : EM :=
(eCall d_read_board (lCons (eVar 8) lNil))
def g__law_right_b1 : SM :=
(sSeq (sAsg (eCall d__law_changed_rows (lCons (eVar 2) (lCons (eVar 4) lNil))) (bName 7))
(sSeq (sAsg (eIf (eOp opEq (eCall d__law_next (lCons (eVar 2) (lCons (eC (.int 3)) lNil))) (eC (.int 0))) (eCall d__law_changed_rows (lCons (eVar 2) (lCons (eVar 7) lNil))) (eVar 7)) (bName 7))
(sSeq (sAsg (eMeth "str" mJoin (eC (.str "")) (lCons (eLc (iSeq (eVar 7)) (bName 10) eYes g__law_right_e5 [10]) lNil)) (bName 8))
(sSeq (sAsg (eIf (eOp opEq (eCall d__law_next (lCons (eVar 2) (lCons (eC (.int 6)) lNil))) (eC (.int 0))) (eSliceS (eVar 8) oNone (oSome (eNeg (eC (.int 1))))) (eVar 8)) (bName 8))
(sIf (eNot (eCall d__law_like (lCons (eLam h__law_safe_told g__law_right_l1) (lCons (eCall d__law_due (lCons (eVar 8) lNil)) lNil))))
(sRet (eC (.bl false)))
sSkip)))))
def g__law_right_l2 : EM :=
(eCall d_read_board (lCons (eVar 9) lNil))
def g__law_right : SM :=
(sSeq (sAsg (eCall d__law_begun (lCons (eVar 0) (lCons (eVar 1) lNil))) (bName 2))
(sSeq (sAsg (eLc (iRange1 (lCons (eCall d__law_next (lCons (eVar 2) (lCons (eC (.int 7)) lNil))) lNil)) (bName 10) eYes g__law_right_e2 [10]) (bName 3))
(sSeq (sAsg (eLc (iSeq (eVar 3)) (bName 10) eYes g__law_right_e3 [10]) (bName 4))
(sSeq (sAsg (eMeth "str" mJoin (eC (.str "")) (lCons (eLc (iSeq (eVar 4)) (bName 10) eYes g__law_right_e4 [10]) lNil)) (bName 5))
(sSeq (sIf (eNot (eCall d__law_like (lCons (eLst (lCons (eCall d_board_text (lCons (eVar 3) lNil)) (lCons (eCall d_board_text (lCons (eCallB bTuple (lCons (eVar 3) lNil)) lNil)) lNil))) (lCons (eLst (lCons (eVar 5) (lCons (eVar 5) lNil))) lNil))))
(sRet (eC (.bl false)))
sSkip)
(sSeq (sIf (eNot (eCall d__law_like (lCons (eCall d_read_board (lCons (eVar 5) lNil)) (lCons (eCallB bTuple (lCons (eVar 3) lNil)) lNil))))
(sRet (eC (.bl false)))
sSkip)
(sSeq (sFor (iRange1 (lCons (eC (.int 6)) lNil)) (bName 6) g__law_right_b1)
(sSeq (sAsg (eCall d__law_pick (lCons (eVar 2) (lCons (eLst (lCons (eC .non) (lCons (eC (.int 5)) (lCons (eLst lNil) (lCons (eTup lNil) (lCons (eC (.bl true)) (lCons (eLst (lCons (eVar 5) lNil)) lNil))))))) lNil))) (bName 9))
(sRet (eCall d__law_like (lCons (eLam h__law_safe_told g__law_right_l2) (lCons (eLst (lCons (eC (.str "NoText")) (lCons (eC (.int 0)) lNil))) lNil))))))))))))
def d__law_right : FD := fnF .pure 12 g__law_right
def g_law_b1 : SM :=
(sIf (eNot (eCall d__law_right (lCons (eVar 2) (lCons (eVar 1) lNil))))
(sRet (eC (.bl false)))
sSkip)
def g_law : SM :=
(sSeq (sIf (eNot (eCall d__law_is_wide lNil))
(sRet (eC (.bl false)))
sSkip)
(sSeq (sFor (iEnumX (lCons (eSlice (eOp opAdd (eVar 0) (eLst (lCons (eC (.int 3)) lNil))) oNone (oSome (eCallB (bII maxII) (lCons (eC (.int 1)) (lCons (eCallB (bII minII) (lCons (eC (.int 10)) (lCons (eCallB bLenX (lCons (eVar 0) lNil)) lNil))) lNil))))) lNil)) (bTup (bCons (bName 1) (bCons (bName 2) bNil))) g_law_b1)
(sRet (eC (.bl true)))))
def d_law : FD := fnF .pure 3 g_law
end
end DX.K77
end
section
/-! Things and their texts: how they are written, how they are read; what is written is read back. -/
namespace DX
open PySem L2 DL PySem.NumText
variable [DL.Nm]
abbrev cp (x : Str) : List Nat := x.cps.toList
def mkS (l : List Nat) : Str := ⟨l.toArray⟩
@[simp] theorem cp_mk {l : List Nat} : cp (mkS l) = l := by simp [cp, mkS]
@[simp] theorem mk_cp {x : Str} : mkS (cp x) = x := by simp [cp, mkS]
theorem cp_inj {x y : Str} (h : cp x = cp y) : x = y := by rw [← mk_cp (x := x), h, mk_cp]
theorem cp_app {a b : Str} : cp (a ++ b) = cp a ++ cp b := by
  show (a ++ b).cps.toList = _
  rw [PySem.Str.cps_append, Array.toList_append]
theorem cp_len {x : Str} : (cp x).length = x.length := Array.length_toList
theorem mk_app {a b : List Nat} : mkS (a ++ b) = mkS a ++ mkS b := cp_inj (by rw [cp_app]; simp)
theorem mk_len {l : List Nat} : (mkS l).length = l.length := by rw [← cp_len, cp_mk]
def isDig (c : Nat) : Bool := decide (48 ≤ c ∧ c ≤ 57)
def pre (c : Nat) (p : List Nat × List Nat) : List Nat × List Nat := (c :: p.1, p.2)
/-- what stands behind a stroke -/
def rdWord : List Nat → Option (List Nat × List Nat)
  | [] => none
  | [c] => if c = 34 then some ([], []) else none
  | c :: d :: r => if c = 34 then some ([], d :: r) else if c = 92 then (if d = 34 ∨ d = 92 then (rdWord r).map (pre d) else none) else if 32 ≤ c ∧ c ≤ 126 then (rdWord (d :: r)).map (pre c) else none
def wrSign (c : Nat) : List Nat := if c = 34 ∨ c = 92 then [92, c] else [c]
def wrWord (s : List Nat) : List Nat := s.flatMap wrSign
theorem rdWord_wr : ∀ (s r : List Nat), (∀ c ∈ s, 32 ≤ c ∧ c ≤ 126) → rdWord (wrWord s ++ 34 :: r) = some (s, r)
  | [], r, _ => by
    cases r with
    | nil => rfl
    | cons d r => rfl
  | c :: s, r, h => by
    have ih := rdWord_wr s r fun x hx => h x (List.mem_cons_of_mem _ hx)
    have hc := h c List.mem_cons_self
    have e : wrWord (c :: s) ++ 34 :: r = wrSign c ++ (wrWord s ++ 34 :: r) := by simp [wrWord]
    rw [e]
    generalize wrWord s ++ 34 :: r = u at ih
    unfold wrSign
    by_cases q : c = 34 ∨ c = 92
    · rw [if_pos q]
      show rdWord (92 :: c :: u) = _
      unfold rdWord
      rw [if_neg (by decide), if_pos rfl, if_pos q, ih]
      rfl
    · rw [if_neg q]
      show rdWord (c :: u) = _
      cases u with
      | nil => cases ih
      | cons d u =>
        unfold rdWord
        rw [if_neg (fun z => q (.inl z)), if_neg (fun z => q (.inr z)), if_pos hc, ih]
        rfl
def numBad (neg : Bool) (ds : List Nat) : Bool := decide (ds = []) || (decide (400 < ds.length) || (decide (ds.head? = some 48) && !(!neg && decide (ds = [48]))))
def isNeg (t : List Nat) : Bool := decide (t.head? = some 45)
def afterS (t : List Nat) : List Nat := if isNeg t then t.tail else t
def figs (t : List Nat) : List Nat := (afterS t).takeWhile isDig
def rdNum (t : List Nat) : Option (Int × List Nat) :=
  if numBad (isNeg t) (figs t) then none else some ((if isNeg t then -((digitsVal (figs t) : Nat) : Int) else ((digitsVal (figs t) : Nat) : Int)), (afterS t).drop (figs t).length)
/-- the figures of a number -/
def dg (n : Nat) : List Nat := (Nat.toDigits 10 n).map Char.toNat
theorem dg_dig (n : Nat) : ∀ c ∈ dg n, isDig c = true := by
  intro c hc
  obtain ⟨ch, hch, e⟩ := List.mem_map.mp hc
  have r := PyProof.Rows.digit_range (Nat.isDigit_of_mem_toDigits (by decide) (by decide) hch)
  rw [← e]
  exact decide_eq_true r
theorem dg_lt {n : Nat} (h : n < 10) : dg n = [48 + n] := by
  unfold dg
  rw [Nat.toDigits_of_lt_base h]
  have : ∀ d : Nat, d < 10 → [Nat.digitChar d].map Char.toNat = [48 + d] := by decide
  exact this n h
theorem dg_ge {n : Nat} (h : 10 ≤ n) : dg n = dg (n / 10) ++ [48 + n % 10] := by
  have hm : n % 10 < 10 := Nat.mod_lt n (by decide)
  have t : Nat.toDigits 10 (n / 10) ++ Nat.toDigits 10 (n % 10) = Nat.toDigits 10 (10 * (n / 10) + n % 10) := Nat.toDigits_append_toDigits (by decide) (by omega) hm
  rw [Nat.div_add_mod] at t
  have e := dg_lt hm
  unfold dg at e ⊢
  rw [← t, List.map_append, e]
theorem dg_head (n : Nat) : ∃ c l, dg n = c :: l ∧ (c = 48 → n = 0) := by
  induction n using Nat.strongRecOn with
  | _ n ih =>
    by_cases h : n < 10
    · exact ⟨48 + n, [], dg_lt h, fun z => by omega⟩
    · obtain ⟨c, l, e, z⟩ := ih (n / 10) (by omega)
      exact ⟨c, l ++ [48 + n % 10], by rw [dg_ge (by omega), e]; rfl, fun q => by have := z q; omega⟩
theorem dg_val (n : Nat) : digitsVal (dg n) = n := PySem.W.KIN.val_back n
theorem dg_len {n : Nat} {k : Nat} (h : n < 10 ^ (k + 1)) : (dg n).length ≤ k + 1 := by
  induction k generalizing n with
  | zero => rw [dg_lt (by simpa using h)]; simp
  | succ k ih =>
    by_cases q : n < 10
    · rw [dg_lt q]; simp
    · rw [dg_ge (by omega), List.length_append, List.length_singleton]
      have : n / 10 < 10 ^ (k + 1) := by
        rw [Nat.div_lt_iff_lt_mul (by decide)]
        rw [Nat.pow_succ] at h; exact h
      have := ih this
      omega
theorem cp_nat (m : Nat) : cp (toString ((m : Nat) : Int) : String) = dg m := PySem.W.KIN.signs_num m
theorem cp_neg (m : Nat) : cp (toString (Int.negSucc m) : String) = 45 :: dg (m + 1) := by
  have e : (toString (Int.negSucc m) : String) = "-" ++ Nat.repr (m + 1) := rfl
  show (Str.ofString (toString (Int.negSucc m))).cps.toList = _
  rw [e, PySem.Str.ofString_eq_toList]
  simp [dg, Nat.toList_repr]
theorem figs_of {ds r : List Nat} (h : ∀ c ∈ ds, isDig c = true) (hr : ∀ c, r.head? = some c → isDig c = false) : (ds ++ r).takeWhile isDig = ds := by
  rw [List.takeWhile_append_of_pos h]
  cases r with
  | nil => simp
  | cons c r => rw [List.takeWhile_cons, hr c rfl]; simp
theorem numBad_dg {n : Nat} (neg : Bool) (h : n < 10 ^ 400) (hn : neg = true → n ≠ 0) : numBad neg (dg n) = false := by
  obtain ⟨c, l, e, z⟩ := dg_head n
  have hl := dg_len (k := 399) h
  unfold numBad
  rw [decide_eq_false (show ¬ dg n = [] by rw [e]; simp), decide_eq_false (show ¬ 400 < (dg n).length by omega)]
  simp only [Bool.false_or]
  by_cases q : (dg n).head? = some 48
  · have n0 : n = 0 := z (by rw [e] at q; simpa using q)
    have : neg = false := by
      cases neg with
      | false => rfl
      | true => exact absurd n0 (hn rfl)
    subst this; subst n0
    rw [show dg 0 = [48] from dg_lt (by decide)]
    rfl
  · rw [decide_eq_false q, Bool.false_and]
theorem rdNum_wr (i : Int) (hi : i.natAbs < 10 ^ 400) (r : List Nat) (hr : ∀ c, r.head? = some c → isDig c = false) : rdNum (cp (toString i : String) ++ r) = some (i, r) := by
  cases i with
  | ofNat m =>
    have hm : m < 10 ^ 400 := hi
    show rdNum (cp (toString ((m : Nat) : Int) : String) ++ r) = _
    rw [cp_nat]
    obtain ⟨c, l, e, _⟩ := dg_head m
    have hd := dg_dig m
    have hn : isNeg (dg m ++ r) = false := by
      have := hd c (by rw [e]; simp)
      unfold isDig at this
      rw [e]
      exact decide_eq_false (by simp at this ⊢; omega)
    have ha : afterS (dg m ++ r) = dg m ++ r := by unfold afterS; rw [hn]; rfl
    have hf : figs (dg m ++ r) = dg m := by unfold figs; rw [ha]; exact figs_of hd hr
    unfold rdNum
    rw [hf, ha, hn, numBad_dg false hm (by simp), dg_val]
    simp
  | negSucc m =>
    have hm : m + 1 < 10 ^ 400 := hi
    rw [cp_neg]
    have hd := dg_dig (m + 1)
    have hn : isNeg (45 :: dg (m + 1) ++ r) = true := rfl
    have ha : afterS (45 :: dg (m + 1) ++ r) = dg (m + 1) ++ r := rfl
    have hf : figs (45 :: dg (m + 1) ++ r) = dg (m + 1) := by unfold figs; rw [ha]; exact figs_of hd hr
    unfold rdNum
    rw [hf, ha, hn, numBad_dg true hm (by simp), dg_val]
    simp
    omega
/-! things -/
def Fl (d : D) : Prop := d = .non ∨ (∃ i : Int, d = .int i ∧ i.natAbs < 10 ^ 400) ∨ ∃ s : Str, d = .str s ∧ ∀ c ∈ cp s, 32 ≤ c ∧ c ≤ 126
inductive Tg : Nat → D → Prop
  | fl {n : Nat} {d : D} (h : Fl d) : Tg n d
  | tup {n : Nat} {ds : List D} (h : ∀ x ∈ ds, Tg n x) : Tg (n + 1) (.tup ds)
def inter : List (List Nat) → List Nat
  | [] => []
  | [x] => x
  | x :: y :: r => x ++ 44 :: 32 :: inter (y :: r)
def wrF (d : D) : List Nat := match d with
  | .non => [110, 111, 110, 101]
  | .int i => cp (toString i : String)
  | .str s => 34 :: (wrWord (cp s) ++ [34])
  | _ => []
def wr : Nat → D → List Nat
  | 0, d => wrF d
  | n + 1, d => match d with
    | .tup ds => 40 :: (inter (ds.map (wr n)) ++ [41])
    | d => wrF d
def rdFlat (t : List Nat) : Option (D × List Nat) :=
  if t.head? = some 34 then (rdWord t.tail).map fun p => (.str (mkS p.1), p.2)
  else if t.take 4 = [110, 111, 110, 101] then some (.non, t.drop 4)
  else (rdNum t).map fun p => (.int p.1, p.2)
def rdTup (rd : List Nat → Option (D × List Nat)) : Nat → List Nat → Option (List D × List Nat)
  | 0, _ => none
  | k + 1, t => match rd t with
    | none => none
    | some (d, r) => if r.head? = some 41 then some ([d], r.tail) else if r.take 2 = [44, 32] then (rdTup rd k (r.drop 2)).map fun p => (d :: p.1, p.2) else none
def rdTh : Nat → List Nat → Option (D × List Nat)
  | 0, t => if t.head? = some 40 then none else rdFlat t
  | n + 1, t => if t.head? = some 40 then (if t.tail.head? = some 41 then some (.tup [], t.tail.tail) else (rdTup (rdTh n) t.length t.tail).map fun p => (.tup p.1, p.2)) else rdFlat t
abbrev Ends (r : List Nat) : Prop := ∀ c, r.head? = some c → isDig c = false
theorem wrF_fl {n : Nat} {d : D} (h : Fl d) : wr n d = wrF d := by
  cases n with
  | zero => rfl
  | succ n => rcases h with rfl | ⟨i, rfl, _⟩ | ⟨s, rfl, _⟩ <;> rfl
theorem num_head (i : Int) : ∃ c l, cp (toString i : String) = c :: l ∧ (c = 45 ∨ 48 ≤ c ∧ c ≤ 57) := by
  cases i with
  | ofNat m =>
    obtain ⟨c, l, e, _⟩ := dg_head m
    have := dg_dig m c (by rw [e]; simp)
    unfold isDig at this
    exact ⟨c, l, (cp_nat m).trans e, .inr (by simpa using this)⟩
  | negSucc m => exact ⟨45, _, cp_neg m, .inl rfl⟩
theorem rdFlat_wr {d : D} (h : Fl d) {r : List Nat} (hr : Ends r) : (wrF d ++ r).head? ≠ some 40 ∧ rdFlat (wrF d ++ r) = some (d, r) := by
  rcases h with rfl | ⟨i, rfl, hi⟩ | ⟨s, rfl, hs⟩
  · exact ⟨by simp [wrF], rfl⟩
  · obtain ⟨c, l, e, hc⟩ := num_head i
    refine ⟨by show (cp (toString i : String) ++ r).head? ≠ _; rw [e]; simp; omega, ?_⟩
    unfold rdFlat
    have h1 : ¬ (wrF (.int i) ++ r).head? = some 34 := by show ¬ (cp (toString i : String) ++ r).head? = _; rw [e]; simp; omega
    have h2 : ¬ (wrF (.int i) ++ r).take 4 = [110, 111, 110, 101] := by
      show ¬ (cp (toString i : String) ++ r).take 4 = _
      rw [e]
      intro z
      have z : c :: (l ++ r).take 3 = [110, 111, 110, 101] := z
      injection z with z1 _
      omega
    rw [if_neg h1, if_neg h2]
    show (rdNum (cp (toString i : String) ++ r)).map _ = _
    rw [rdNum_wr i hi r hr]
    rfl
  · refine ⟨by simp [wrF], ?_⟩
    unfold rdFlat
    rw [if_pos (by simp [wrF])]
    have e : (wrF (.str s) ++ r).tail = wrWord (cp s) ++ 34 :: r := by simp [wrF]
    rw [e, rdWord_wr _ _ hs]
    simp
theorem wr_head {n : Nat} {d : D} (h : Tg n d) : ∃ c l, wr n d = c :: l ∧ c ≠ 41 := by
  cases h with
  | fl h =>
    rw [wrF_fl h]
    rcases h with rfl | ⟨i, rfl, hi⟩ | ⟨s, rfl, hs⟩
    · exact ⟨110, _, rfl, by decide⟩
    · obtain ⟨c, l, e, hc⟩ := num_head i
      exact ⟨c, l, e, by omega⟩
    · exact ⟨34, _, rfl, by decide⟩
  | tup h => exact ⟨40, _, rfl, by decide⟩
theorem inter_head {x : List Nat} {l : List (List Nat)} {c : Nat} {u : List Nat} (h : x = c :: u) : ∃ v, inter (x :: l) = c :: v := by
  cases l with
  | nil => exact ⟨u, h⟩
  | cons y l => exact ⟨_, by unfold inter; rw [h]; rfl⟩
theorem rdTup_wr {w : D → List Nat} {rd : List Nat → Option (D × List Nat)} : ∀ (ds : List D) (x : D) (k : Nat) (r : List Nat), (∀ y ∈ x :: ds, ∀ r, Ends r → rd (w y ++ r) = some (y, r)) → ds.length + 1 ≤ k → rdTup rd k (inter ((x :: ds).map w) ++ 41 :: r) = some (x :: ds, r)
  | [], x, k, r, h, hk => by
    obtain ⟨k, rfl⟩ : ∃ j, k = j + 1 := ⟨k - 1, by omega⟩
    unfold rdTup
    show (match rd (w x ++ 41 :: r) with | none => none | some (d, r) => _) = _
    rw [h x (by simp) (41 :: r) (fun c hc => by cases hc; rfl)]
    rfl
  | y :: ds, x, k, r, h, hk => by
    obtain ⟨k, rfl⟩ : ∃ j, k = j + 1 := ⟨k - 1, by omega⟩
    have ih := rdTup_wr ds y k r (fun z hz => h z (List.mem_cons_of_mem _ hz)) (by simp at hk; omega)
    unfold rdTup
    have e : inter ((x :: y :: ds).map w) ++ 41 :: r = w x ++ 44 :: 32 :: (inter ((y :: ds).map w) ++ 41 :: r) := by simp [inter]
    rw [e, h x (by simp) _ (fun c hc => by cases hc; rfl)]
    dsimp only
    rw [if_neg (by simp)]
    refine (if_pos rfl).trans ?_
    show (rdTup rd k (inter ((y :: ds).map w) ++ 41 :: r)).map _ = _
    rw [ih]
    rfl
theorem inter_len {l : List (List Nat)} (h : ∀ x ∈ l, x ≠ []) : l.length ≤ (inter l).length := by
  induction l with
  | nil => simp
  | cons x l ih =>
    have hx : 1 ≤ x.length := by
      have := h x (by simp)
      cases x with
      | nil => exact absurd rfl this
      | cons => simp
    cases l with
    | nil => simpa [inter] using hx
    | cons y l =>
      have := ih fun z hz => h z (List.mem_cons_of_mem _ hz)
      unfold inter
      simp only [List.length_append, List.length_cons] at this ⊢
      omega
/-- what is written is read -/
theorem rd_wr : ∀ {n : Nat} {d : D}, Tg n d → ∀ r, Ends r → rdTh n (wr n d ++ r) = some (d, r)
  | n, d, .fl h, r, hr => by
    rw [wrF_fl h]
    obtain ⟨h1, h2⟩ := rdFlat_wr h hr
    cases n with
    | zero => unfold rdTh; rw [if_neg h1]; exact h2
    | succ n => unfold rdTh; rw [if_neg h1]; exact h2
  | _, _, .tup (n := n) (ds := ds) h, r, hr => by
    unfold rdTh
    show (if (40 :: (inter (ds.map (wr n)) ++ [41]) ++ r).head? = some 40 then _ else _) = _
    refine (if_pos rfl).trans ?_
    cases ds with
    | nil => rfl
    | cons x ds =>
      obtain ⟨c, l, e, hc⟩ := wr_head (h x (by simp))
      obtain ⟨v, hv⟩ := inter_head (l := ds.map (wr n)) e
      have e1 : (wr (n + 1) (.tup (x :: ds)) ++ r).tail = inter ((x :: ds).map (wr n)) ++ 41 :: r := by simp [wr]
      rw [e1, if_neg (by rw [List.map_cons, hv]; simpa using hc)]
      rw [rdTup_wr ds x _ r (fun y hy r hr => rd_wr (h y hy) r hr) ?_]
      · rfl
      · have q := inter_len (l := (x :: ds).map (wr n)) (fun z hz => by
          obtain ⟨y, hy, rfl⟩ := List.mem_map.mp hz
          obtain ⟨c, l, e, _⟩ := wr_head (h y hy)
          rw [e]; simp)
        simp only [wr, List.length_append, List.length_cons, List.length_map] at q ⊢
        omega
theorem Tg.mono {n : Nat} {d : D} (h : Tg n d) : ∀ {m : Nat}, n ≤ m → Tg m d := by
  induction h with
  | fl h => intro m _; exact .fl h
  | tup h ih =>
    intro m hm
    obtain ⟨k, rfl⟩ : ∃ k, m = k + 1 := ⟨m - 1, by omega⟩
    exact .tup fun x hx => ih x hx (by omega)
end DX
end
section
/-! Shares in lowest terms: the program's own lowest and the laws'. -/
namespace DL
open PySem L2
variable [DL.Nm]
@[simp] theorem sWhile_is {c : EM} {b : SM} {e : EnvD} {S : Store} : sWhile c b e S = whileD c b bigN e S := rfl
theorem whileD_succ {c : EM} {b : SM} {n : Nat} {e : EnvD} {S : Store} : whileD c b (n + 1) e S = match c e S with
    | .ok (.bl true) S1 => match b e S1 with
      | .nx e2 S2 => whileD c b n e2 S2
      | .ct e2 S2 => whileD c b n e2 S2
      | .bk e2 S2 => .nx e2 S2
      | .rt d S2 => .rt d S2
      | .ex x e2 S2 => .ex x e2 S2
      | .bad => .bad
    | .ok (.bl false) S1 => .nx e S1
    | .ex x S1 => .ex x e S1
    | _ => .bad := rfl
/-- the share x / y in lowest terms -/
def lowD (x y : Nat) : D := .tup [.int ((x / Nat.gcd x y : Nat) : Int), .int ((y / Nat.gcd x y : Nat) : Int)]
/-- n / d is x / y in lowest terms -/
structure IsLow (n d x y : Nat) : Prop where
  eq : n * y = x * d
  cop : Nat.gcd n d = 1
  pos : 0 < d
theorem isLow_of {x y : Nat} (hy : 0 < y) : IsLow (x / Nat.gcd x y) (y / Nat.gcd x y) x y := by
  have g0 : 0 < Nat.gcd x y := Nat.gcd_pos_of_pos_right _ hy
  refine ⟨?_, Nat.gcd_div_gcd_div_gcd_of_pos_right hy, Nat.div_pos (Nat.gcd_le_right _ hy) g0⟩
  have h1 := Nat.div_mul_cancel (Nat.gcd_dvd_left x y)
  have h2 := Nat.div_mul_cancel (Nat.gcd_dvd_right x y)
  generalize Nat.gcd x y = g at *
  generalize x / g = a at *
  generalize y / g = b at *
  rw [← h1, ← h2, Nat.mul_assoc, Nat.mul_comm b g]
theorem IsLow.unique {n d n' d' x y : Nat} (h : IsLow n d x y) (h' : IsLow n' d' x y) (hy : 0 < y) : n = n' ∧ d = d' := by
  have e : n * d' = n' * d := by
    have h1 := h.eq
    have h2 := h'.eq
    have : (n * d') * y = (n' * d) * y := by
      calc (n * d') * y = (n * y) * d' := by rw [Nat.mul_assoc, Nat.mul_comm d' y, ← Nat.mul_assoc]
        _ = (x * d) * d' := by rw [h1]
        _ = (x * d') * d := by rw [Nat.mul_assoc, Nat.mul_comm d d', ← Nat.mul_assoc]
        _ = (n' * y) * d := by rw [h2]
        _ = (n' * d) * y := by rw [Nat.mul_assoc, Nat.mul_comm y d, ← Nat.mul_assoc]
    exact Nat.eq_of_mul_eq_mul_right hy this
  have d1 : d ∣ d' := by
    have : d ∣ n * d' := by rw [e]; exact Nat.dvd_mul_left _ _
    exact Nat.Coprime.dvd_of_dvd_mul_left (show Nat.Coprime d n by rw [Nat.Coprime, Nat.gcd_comm]; exact h.cop) this
  have d2 : d' ∣ d := by
    have : d' ∣ n' * d := by rw [← e]; exact Nat.dvd_mul_left _ _
    exact Nat.Coprime.dvd_of_dvd_mul_left (show Nat.Coprime d' n' by rw [Nat.Coprime, Nat.gcd_comm]; exact h'.cop) this
  have ed := Nat.dvd_antisymm d1 d2
  subst ed
  exact ⟨Nat.eq_of_mul_eq_mul_right h.pos e, rfl⟩
theorem IsLow.low {n d x y : Nat} (h : IsLow n d x y) (hy : 0 < y) : lowD x y = .tup [.int n, .int d] := by
  obtain ⟨e1, e2⟩ := (isLow_of (x := x) hy).unique h hy
  unfold lowD
  rw [e1, e2]
theorem IsLow.le {n d x y : Nat} (h : IsLow n d x y) (hy : 0 < y) : d ≤ y := by
  have : d ∣ n * y := by rw [h.eq]; exact Nat.dvd_mul_left _ _
  exact Nat.le_of_dvd hy (Nat.Coprime.dvd_of_dvd_mul_left (show Nat.Coprime d n by rw [Nat.Coprime, Nat.gcd_comm]; exact h.cop) this)
end DL
end
section
namespace DW
open PySem L2 DL
variable [DL.Nm]
noncomputable section
def g__law_names_e1 : EM :=
(eOp opAdd (eOp opIxX (eVar 3) (eOp opMod (eOp opAdd (eVar 4) (eOp opMul (eC (.int 5)) (eVar 7))) (eC (.int 26)))) (eOp opIxX (eVar 6) (eOp opMod (eOp opAdd (eVar 5) (eOp opMul (eVar 7) (eVar 7))) (eC (.int 6)))))
def g__law_names : SM :=
(sSeq (sAsg (eC (.str "place letter doubt one any rank runoff pairs share each odd admit refuse counts doubled out enter move")) (bName 2))
(sSeq (sAsg (eMeth "str" mSplit (eOp opAdd (eVar 2) (eC (.str " strike restore vote roll uses none spoilt blank"))) (lCons (eC (.str " ")) lNil)) (bName 2))
(sSeq (sAsg (eC (.str "abcdefghijklmnopqrstuvwxyz")) (bName 3))
(sSeq (sAsg (eTup (lCons (eCall d__law_next (lCons (eVar 0) (lCons (eC (.int 26)) lNil))) (lCons (eCall d__law_next (lCons (eVar 0) (lCons (eC (.int 6)) lNil))) lNil))) (bTup (bCons (bName 4) (bCons (bName 5) bNil))))
(sSeq (sIf (eOp opEq (eCall d__law_next (lCons (eVar 0) (lCons (eC (.int 4)) lNil))) (eC (.int 0)))
(sRet (eSlice (eOp opAdd (eSlice (eVar 2) (oSome (eVar 4)) oNone) (eSlice (eVar 2) oNone (oSome (eVar 4)))) oNone (oSome (eVar 1))))
sSkip)
(sSeq (sAsg (eLst (lCons (eC (.str "")) (lCons (eC (.str "x")) (lCons (eC (.str "qx")) (lCons (eC (.str "qxqqx")) (lCons (eC (.str "qxqxqxq")) (lCons (eC (.str "xxqxqxq")) lNil))))))) (bName 6))
(sRet (eLc (iRange1 (lCons (eVar 1) lNil)) (bName 7) eYes g__law_names_e1 [7]))))))))
def d__law_names : FD := fnF .keep 8 g__law_names
end
end DW
end
section
namespace DR
open PySem L2 DL
variable [DL.Nm]
noncomputable section
def g__law_names_b1 : SM :=
(sDrop (eMeth "list" mAppend (eVar 7) (lCons (eOp opAdd (eOp opIxX (eVar 3) (eOp opMod (eOp opAdd (eVar 4) (eOp opMul (eC (.int 5)) (eVar 8))) (eC (.int 26)))) (eOp opIxX (eVar 6) (eOp opMod (eOp opAdd (eVar 5) (eOp opMul (eVar 8) (eVar 8))) (eC (.int 6))))) lNil)))
def g__law_names_e1 : EM :=
(eOp opAdd (eVar 9) (eC (.str "yyy")))
def g__law_names : SM :=
(sSeq (sAsg (eMeth "str" mSplit (eC (.str "one any rank runoff pairs in out place letter doubt counts doubled admit")) (lCons (eC (.str " ")) lNil)) (bName 2))
(sSeq (sAsg (eOp opAdd (eVar 2) (eMeth "str" mSplit (eC (.str "refuse again stands counted vote roll uses mixed late result use close")) (lCons (eC (.str " ")) lNil))) (bName 2))
(sSeq (sAsg (eOp opAdd (eVar 2) (eLst (lCons (eC (.str "each")) (lCons (eC (.str "odd")) (lCons (eC (.str "spoilt")) (lCons (eC (.str "good")) (lCons (eC (.str "blank")) lNil))))))) (bName 2))
(sSeq (sAsg (eC (.str "abcdefghijklmnopqrstuvwxyz")) (bName 3))
(sSeq (sPar 4 5 (lCons (eCall d__law_next (lCons (eVar 0) (lCons (eC (.int 26)) lNil))) (lCons (eCall d__law_next (lCons (eVar 0) (lCons (eC (.int 6)) lNil))) lNil)))
(sSeq (sIf (eOp opEq (eCall d__law_next (lCons (eVar 0) (lCons (eC (.int 4)) lNil))) (eC (.int 0)))
(sRet (eSlice (eOp opAdd (eSlice (eVar 2) (oSome (eVar 4)) oNone) (eSlice (eVar 2) oNone (oSome (eVar 4)))) oNone (oSome (eVar 1))))
sSkip)
(sSeq (sAsg (eLst (lCons (eC (.str "x")) (lCons (eC (.str "")) (lCons (eC (.str "qxqxqxq")) (lCons (eC (.str "xx")) (lCons (eC (.str "qxqxq")) (lCons (eC (.str "zq")) lNil))))))) (bName 6))
(sSeq (sAsg (eLstM lNil) (bName 7))
(sSeq (sFor (iRange1 (lCons (eC (.int 26)) lNil)) (bName 8) g__law_names_b1)
(sRet (eSlice (eOp opAdd (eVar 7) (eLc (iSeq (eVar 3)) (bName 9) eYes g__law_names_e1 [9])) oNone (oSome (eVar 1)))))))))))))
def d__law_names : FD := fnF .pure 10 g__law_names
def g__law_told_race : SM :=
(sSeq (sAsg (eCall d__law_names (lCons (eVar 0) (lCons (eC (.int 8)) lNil))) (bName 2))
(sSeq (sPar 3 4 (lCons (eCall d__law_pick (lCons (eVar 0) (lCons (eVar 1) lNil))) (lCons (eCallB bTuple (lCons (eSlice (eVar 2) (oSome (eC (.int 1))) (oSome (eOp opAdd (eC (.int 3)) (eCall d__law_next (lCons (eVar 0) (lCons (eC (.int 4)) lNil)))))) lNil)) lNil)))
(sSeq (sPar 5 6 (lCons (eOp opAdd (eC (.int 1)) (eCall d__law_next (lCons (eVar 0) (lCons (eCallB bLenX (lCons (eVar 4) lNil)) lNil)))) (lCons (eC (.str "")) lNil)))
(sSeq (sIf (eOp opEq (eVar 3) (eC (.str "rank")))
(sSeq (sAsg (eCall d__law_pick (lCons (eVar 0) (lCons (eLst (lCons (eC (.str "runoff")) (lCons (eC (.str "pairs")) (lCons (eC (.str "share")) (lCons (eC (.str "share")) lNil))))) lNil))) (bName 6))
(sAsg (eIf (eOp opEq (eVar 6) (eC (.str "share"))) (eVar 5) (eC (.int 1))) (bName 5)))
sSkip)
(sRet (eTup (lCons (eOp opIxX (eVar 2) (eC (.int 0))) (lCons (eVar 3) (lCons (eVar 4) (lCons (eVar 5) (lCons (eVar 6) lNil)))))))))))
def d__law_told_race : FD := fnF .keep 7 g__law_told_race
end
end DR
end
section
/-! The laws' draws. -/
namespace DL
open PySem L2
variable [DL.Nm]
/-- a row of draws of which at most m were drawn -/
structure Drw (c : Cell) (m : Nat) : Prop where
  ex : ∃ a s k : Int, c = .lst [.int a, .int s, .int k] ∧ 0 ≤ a ∧ 0 ≤ s ∧ s < 2147483648 ∧ 0 ≤ k ∧ k ≤ m
theorem Drw.mono {c : Cell} {m n : Nat} (d : Drw c m) (h : m ≤ n) : Drw c n := by
  obtain ⟨a, s, k, e, h1, h2, h3, h4, h5⟩ := d.ex
  exact ⟨a, s, k, e, h1, h2, h3, h4, by omega⟩
theorem next_ok {S : Store} {l : Nat} {c : Cell} {m : Nat} {n : Int} (hc : cel S l = some c) (d : Drw c m) (hm : m ≤ 100000) (hn : 0 < n) (hn2 : n < 1073741824) :
    ∃ x c', d__law_next [.loc l, .int n] S = .ok (.int x) (S.set l c') ∧ 0 ≤ x ∧ x < n ∧ Drw c' (m + 1) := by
  obtain ⟨a, s, k, rfl, ha, hs, hs2, hk, hk2⟩ := d.ex
  by_cases h0 : 0 < a
  · refine ⟨a % n, .lst [.int (a / n), .int s, .int k], ?_, Int.emod_nonneg _ (by omega), Int.emod_lt_of_pos _ hn, ⟨_, _, _, rfl, Int.ediv_nonneg ha (by omega), hs, hs2, hk, by omega⟩⟩
    simp [d__law_next, g__law_next, hc, h0, hn, hn2]
  · have e1 : (s * (2 * (k + 1) + 1) + 7919 * (k + 1) * (k + 1) + 11).natAbs < 2 ^ 64 := by
      have h1 : s * (2 * (k + 1) + 1) ≤ 2147483648 * (2 * (k + 1) + 1) := Int.mul_le_mul_of_nonneg_right (by omega) (by omega)
      have h2 : 0 ≤ s * (2 * (k + 1) + 1) := Int.mul_nonneg hs (by omega)
      have h3 : 7919 * (k + 1) * (k + 1) ≤ 7919 * 100001 * (k + 1) := Int.mul_le_mul_of_nonneg_right (by omega) (by omega)
      have h4 : 0 ≤ 7919 * (k + 1) * (k + 1) := Int.mul_nonneg (by omega) (by omega)
      omega
    refine ⟨((s * (2 * (k + 1) + 1) + 7919 * (k + 1) * (k + 1) + 11) ^ 5 % 2147483647) / 11 % n, .lst [.int a, .int s, .int (k + 1)], ?_, Int.emod_nonneg _ (by omega), Int.emod_lt_of_pos _ hn, ⟨_, _, _, rfl, ha, hs, hs2, by omega, by omega⟩⟩
    have m1 : s.natAbs < 18446744073709551616 := by omega
    have m2 : (k + 1).natAbs < 18446744073709551616 := by omega
    simp [d__law_next, g__law_next, hc, h0, hn, hn2, m1, m2, e1]
theorem begun_ok {S : Store} {a k : Int} (hk : 0 ≤ k) (hk2 : k ≤ 100000) : ∃ c, d__law_begun [.int a, .int k] S = .ok (.loc S.length) (S ++ [c]) ∧ Drw c 0 := by
  have h1 : 0 ≤ a % 2147483647 := Int.emod_nonneg _ (by omega)
  have h2 : a % 2147483647 < 2147483647 := Int.emod_lt_of_pos _ (by omega)
  have e1 : (a % 2147483647 * 48271 + 104729 * k + 7).natAbs < 2 ^ 64 := by omega
  have m1 : (a % 2147483647).natAbs < 18446744073709551616 := by omega
  have h3 : 0 ≤ (a % 2147483647 * 48271 + 104729 * k + 7) ^ 3 % 2147483629 := Int.emod_nonneg _ (by omega)
  have h4 : (a % 2147483647 * 48271 + 104729 * k + 7) ^ 3 % 2147483629 < 2147483629 := Int.emod_lt_of_pos _ (by omega)
  by_cases h : 1000000000000000000 ≤ a
  · refine ⟨.lst [.int (a - 1000000000000000000), .int (1 + (a % 2147483647 * 48271 + 104729 * k + 7) ^ 3 % 2147483629), .int 0], ?_, ⟨_, _, _, rfl, by omega, by omega, by omega, by omega, by omega⟩⟩
    simp [d__law_begun, g__law_begun, h, e1]
  · refine ⟨.lst [.int 0, .int (1 + (a % 2147483647 * 48271 + 104729 * k + 7) ^ 3 % 2147483629), .int 0], ?_, ⟨_, _, _, rfl, by omega, by omega, by omega, by omega, by omega⟩⟩
    simp [d__law_begun, g__law_begun, h, e1]
theorem atI_mem {α : Type} {ds : List α} {i : Int} (h0 : 0 ≤ i) (h1 : i < ds.length) : ∃ d ∈ ds, atI ds i = some d := by
  obtain ⟨j, rfl⟩ := Int.eq_ofNat_of_zero_le h0
  have hj : j < ds.length := by omega
  exact ⟨ds[j], List.getElem_mem hj, atI_nat (List.getElem?_eq_getElem hj)⟩
theorem pick_ok {S : Store} {l : Nat} {c : Cell} {m : Nat} {ds : List D} (hc : cel S l = some c) (d : Drw c m) (hm : m ≤ 100000) (hn : ds ≠ []) (hn2 : ds.length < 1073741824) :
    ∃ x ∈ ds, ∃ c', d__law_pick [.loc l, .lst ds] S = .ok x (S.set l c') ∧ Drw c' (m + 1) := by
  have hp : 0 < ds.length := List.length_pos_iff.mpr hn
  obtain ⟨i, c', e, h0, h1, d'⟩ := next_ok (n := ds.length) hc d hm (by omega) (by omega)
  obtain ⟨x, hx, e2⟩ := atI_mem h0 h1
  refine ⟨x, hx, c', ?_, d'⟩
  simp [d__law_pick, g__law_pick, e, e2]
end DL
namespace DL
open PySem L2
variable [DL.Nm]
/-! the same where the draws' cell stands alone -/
theorem next1 {c : Cell} {m : Nat} (n : Int) (d : Drw c m) (hm : m ≤ 100000) (hn : 0 < n) (hn2 : n < 1073741824) :
    ∃ x c', d__law_next [.loc 0, .int n] [c] = .ok (.int x) [c'] ∧ 0 ≤ x ∧ x < n ∧ Drw c' (m + 1) := next_ok (S := [c]) (l := 0) rfl d hm hn hn2
theorem begun1 (a : Int) {k : Int} (hk : 0 ≤ k) (hk2 : k ≤ 100000) : ∃ c, d__law_begun [.int a, .int k] [] = .ok (.loc 0) [c] ∧ Drw c 0 := begun_ok (S := []) hk hk2
theorem pick1 {c : Cell} {m : Nat} (ds : List D) (d : Drw c m) (hm : m ≤ 100000) (hn : ds ≠ []) (hn2 : ds.length < 1073741824) :
    ∃ x ∈ ds, ∃ c', d__law_pick [.loc 0, .lst ds] [c] = .ok x [c'] ∧ Drw c' (m + 1) := pick_ok (S := [c]) (l := 0) rfl d hm hn hn2
end DL
end
section
/-! numbers modulo 2147483647; polynomials through points -/
namespace Mp
abbrev p : Int := 2147483647
/-- alike modulo p -/
def E (a b : Int) : Prop := a % 2147483647 = b % 2147483647
theorem E.refl (a : Int) : E a a := rfl
theorem E.symm {a b : Int} (h : E a b) : E b a := Eq.symm h
theorem E.trans {a b c : Int} (h : E a b) (k : E b c) : E a c := Eq.trans h k
theorem E.of {a b : Int} (h : a = b) : E a b := by rw [h]; exact E.refl b
theorem E.mod (a : Int) : E (a % 2147483647) a := by unfold E; omega
theorem E.add {a b c d : Int} (h : E a b) (k : E c d) : E (a + c) (b + d) := by unfold E at *; omega
theorem E.sub {a b c d : Int} (h : E a b) (k : E c d) : E (a - c) (b - d) := by unfold E at *; omega
theorem E.neg {a b : Int} (h : E a b) : E (-a) (-b) := by unfold E at *; omega
theorem E.mul {a b c d : Int} (h : E a b) (k : E c d) : E (a * c) (b * d) := by
  unfold E at *
  rw [Int.mul_emod, h, k, ← Int.mul_emod]
theorem E.pow {a b : Int} (h : E a b) : ∀ n : Nat, E (a ^ n) (b ^ n)
  | 0 => by rw [Int.pow_zero, Int.pow_zero]; exact E.refl 1
  | n + 1 => by rw [Int.pow_succ, Int.pow_succ]; exact (E.pow h n).mul h
theorem E.eq {a b : Int} (h : E a b) (h0 : 0 ≤ a) (h1 : a < 2147483647) (h2 : 0 ≤ b) (h3 : b < 2147483647) : a = b := by unfold E at h; omega
theorem mod_lt (a : Int) : 0 ≤ a % 2147483647 ∧ a % 2147483647 < 2147483647 := by omega
/-- a number with an inverse -/
def Inv (a : Int) : Prop := ∃ b, E (a * b) 1
theorem Inv.mul {a b : Int} (h : Inv a) (k : Inv b) : Inv (a * b) := by
  obtain ⟨c, hc⟩ := h
  obtain ⟨d, hd⟩ := k
  refine ⟨c * d, (E.of (by grind : a * b * (c * d) = (a * c) * (b * d))).trans ?_⟩
  exact (hc.mul hd).trans (E.of (by decide))
theorem Inv.cancel {a b : Int} (h : Inv a) (z : E (a * b) 0) : E b 0 := by
  obtain ⟨c, hc⟩ := h
  have h1 : E (c * (a * b)) (c * 0) := (E.refl c).mul z
  have h2 : E (c * (a * b)) (1 * b) := (E.of (by grind : c * (a * b) = (a * c) * b)).trans (hc.mul (E.refl b))
  have h3 := h2.symm.trans h1
  rw [Int.one_mul, Int.mul_zero] at h3
  exact h3
/-! ### powers -/
/-- the exponent p - 1, bit by bit -/
def eb : List Bool := [true, true, true, true, true, true, true, true, true, true, true, true, true, true, true, true, true, true, true, true, true, true, true, true, true, true, true, true, true, true, false]
end Mp
end
section
namespace Mp
/-! ### polynomials: lists of coefficients, the least power first -/
def ev : List Int → Int → Int
  | [], _ => 0
  | a :: c, x => a + x * ev c x
/-- one step of a product with X - x, b ahead -/
def less (x : Int) : Int → List Int → List Int
  | b, [] => [b % 2147483647]
  | b, a :: c => (b - x * a) % 2147483647 :: less x a c
/-! ### as many roots as coefficients: all are 0 -/
def zeros (c : List Int) : Prop := ∀ a ∈ c, E a 0
/-- division by X - x -/
def quo (x : Int) : List Int → List Int
  | [] => []
  | [_] => []
  | _ :: b :: c => ev (b :: c) x :: quo x (b :: c)
theorem quo_len (x : Int) : ∀ c : List Int, (quo x c).length = c.length - 1
  | [] => rfl
  | [_] => rfl
  | _ :: b :: c => by simp [quo, quo_len x (b :: c)]
theorem quo_ev (x t : Int) : ∀ c : List Int, ev c t = ev c x + (t - x) * ev (quo x c) t
  | [] => by show (0 : Int) = 0 + (t - x) * 0; grind
  | [a] => by show a + t * 0 = a + x * 0 + (t - x) * 0; grind
  | a :: b :: c => by
    have ih := quo_ev x t (b :: c)
    show a + t * ev (b :: c) t = a + x * ev (b :: c) x + (t - x) * (ev (b :: c) x + t * ev (quo x (b :: c)) t)
    rw [ih]
    grind
theorem quo_zeros (x : Int) : ∀ c : List Int, zeros (quo x c) → E (ev c x) 0 → zeros c
  | [], _, _ => fun a h => by simp at h
  | [a], _, h => fun b hb => by
    simp at hb; subst hb
    have : ev [b] x = b := by show b + x * 0 = b; grind
    rw [this] at h; exact h
  | a :: b :: c, hz, h => by
    have h1 : E (ev (b :: c) x) 0 := hz _ (by simp [quo])
    have h2 := quo_zeros x (b :: c) (fun z hz' => hz z (by simp [quo, hz'])) h1
    intro z hm
    rcases List.mem_cons.mp hm with e | hm
    · subst e
      have h3 : E (z + x * ev (b :: c) x) 0 := h
      have h4 : E (x * ev (b :: c) x) (x * 0) := (E.refl x).mul h1
      have h5 := h3.sub h4
      have e1 : z + x * ev (b :: c) x - x * ev (b :: c) x = z := by grind
      have e2 : (0 : Int) - x * 0 = 0 := by grind
      rw [e1, e2] at h5
      exact h5
    · exact h2 z hm
/-- numbers that differ by what has an inverse -/
def Apart : List Int → Prop
  | [] => True
  | x :: xs => (∀ y ∈ xs, Inv (y - x)) ∧ Apart xs
theorem roots : ∀ (xs c : List Int), Apart xs → c.length ≤ xs.length → (∀ x ∈ xs, E (ev c x) 0) → zeros c
  | [], c, _, hl, _ => by
    have : c = [] := List.length_eq_zero_iff.mp (by simpa using hl)
    subst this
    intro a h; simp at h
  | x :: xs, c, ha, hl, hr => by
    have h0 := hr x (by simp)
    refine quo_zeros x c (roots xs (quo x c) ha.2 (by rw [quo_len]; simp at hl; omega) fun y hy => ?_) h0
    have h1 := hr y (by simp [hy])
    rw [quo_ev x y c] at h1
    have h2 := h1.sub h0
    have e1 : ev c x + (y - x) * ev (quo x c) y - ev c x = (y - x) * ev (quo x c) y := by grind
    have e2 : (0 : Int) - 0 = 0 := by decide
    rw [e1, e2] at h2
    exact (ha.1 y hy).cancel h2
/-- the differences of coefficients, and of worths -/
def dif : List Int → List Int → List Int
  | a :: c, b :: d => (a - b) :: dif c d
  | c, [] => c
  | [], d => d.map (fun b => -b)
theorem ev_neg (t : Int) : ∀ d : List Int, ev (d.map fun b => -b) t = -ev d t
  | [] => by show (0 : Int) = -0; decide
  | b :: d => by
    show -b + t * ev (d.map fun b => -b) t = -(b + t * ev d t)
    rw [ev_neg t d]; grind
theorem dif_ev (t : Int) : ∀ c d : List Int, ev (dif c d) t = ev c t - ev d t
  | [], [] => by show (0 : Int) = 0 - 0; decide
  | a :: c, [] => by show a + t * ev c t = a + t * ev c t - 0; grind
  | [], b :: d => by
    show ev ((b :: d).map fun b => -b) t = 0 - ev (b :: d) t
    rw [ev_neg]; grind
  | a :: c, b :: d => by
    show a - b + t * ev (dif c d) t = a + t * ev c t - (b + t * ev d t)
    rw [dif_ev t c d]; grind
theorem dif_len : ∀ c d : List Int, (dif c d).length = max c.length d.length
  | [], [] => rfl
  | _ :: _, [] => by simp [dif]
  | [], _ :: _ => by simp [dif]
  | a :: c, b :: d => by simp [dif, dif_len c d]
/-- two polynomials of few coefficients, alike at as many places: alike at every place, and in their first coefficients -/
theorem same {xs c d : List Int} (ha : Apart xs) (hc : c.length ≤ xs.length) (hd : d.length ≤ xs.length) (h : ∀ x ∈ xs, E (ev c x) (ev d x)) (t : Int) : E (ev c t) (ev d t) := by
  have hz := roots xs (dif c d) ha (by rw [dif_len]; omega) fun x hx => by
    rw [dif_ev]
    have := (h x hx).sub (E.refl (ev d x))
    have e : ev d x - ev d x = 0 := by omega
    rw [e] at this
    exact this
  have : ∀ l : List Int, zeros l → E (ev l t) 0 := fun l => by
    induction l with
    | nil => intro _; exact E.refl 0
    | cons a l ih =>
      intro hl
      have h1 := hl a (by simp)
      have h2 := ih fun b hb => hl b (by simp [hb])
      have h3 := h1.add ((E.refl t).mul h2)
      have e : (0 : Int) + t * 0 = 0 := by grind
      rw [e] at h3
      exact h3
  have h1 := this _ hz
  rw [dif_ev] at h1
  have h2 := h1.add (E.refl (ev d t))
  have e1 : ev c t - ev d t + ev d t = ev c t := by omega
  have e2 : (0 : Int) + ev d t = ev d t := by omega
  rw [e1, e2] at h2
  exact h2
end Mp
end
section
namespace Mp
/-! ### the polynomial through points -/
abbrev Pts := List (Int × Int)
def ownStep (x : Int) (o : List Int × Int) (q : Int × Int) : List Int × Int := if q.1 ≠ x then (less q.1 0 o.1, o.2 * (x - q.1) % 2147483647) else o
def own (pts : Pts) (x : Int) : List Int × Int := pts.foldl (ownStep x) ([1], 1)
/-- a number times its back is 1 -/
def Good (s : Int) : Prop := E (s * s ^ 2147483645) 1
theorem Good.one : Good 1 := by unfold Good; rw [Int.one_pow]; exact E.of (by decide)
theorem Good.mul {a b : Int} (h : Good a) (k : Good b) : Good (a * b) := by
  unfold Good at *
  rw [Int.mul_pow]
  exact (E.of (by grind : a * b * (a ^ 2147483645 * b ^ 2147483645) = a * a ^ 2147483645 * (b * b ^ 2147483645))).trans ((h.mul k).trans (E.of (by decide)))
theorem Good.mod {a : Int} (h : Good a) : Good (a % 2147483647) := by
  unfold Good at *
  exact ((E.mod a).mul ((E.mod a).pow _)).trans h
theorem Good.inv {a : Int} (h : Good a) : Inv a := ⟨_, h⟩
/-- points of unlike keepers, whose differences are good -/
structure Fine (pts : Pts) : Prop where
  nd : (pts.map (·.1)).Nodup
  good : ∀ q ∈ pts, ∀ r ∈ pts, r.1 ≠ q.1 → Good (q.1 - r.1)
theorem Fine.apart : ∀ {pts : Pts}, Fine pts → Apart (pts.map (·.1))
  | [], _ => trivial
  | q :: pts, f => by
    have nd := f.nd
    rw [List.map_cons, List.nodup_cons] at nd
    refine ⟨fun y hy => ?_, Fine.apart ⟨nd.2, fun a ha b hb => f.good a (by simp [ha]) b (by simp [hb])⟩⟩
    obtain ⟨r, hr, rfl⟩ := List.mem_map.mp hy
    exact (f.good r (by simp [hr]) q (by simp) fun e => nd.1 (by rw [e]; exact List.mem_map.mpr ⟨r, hr, rfl⟩)).inv
end Mp
end
section
/-! Keepers' numbers: what the program's defs reckon. -/
namespace DL
open PySem L2 Mp
variable [DL.Nm]
variable {S : Store}
end DL
end
section
namespace DL
open PySem L2 Mp
variable [DL.Nm]
variable {S : Store}
/-- pairs of whole numbers -/
def prD (q : Int × Int) : D := .tup [.int q.1, .int q.2]
/-- points, a list or a tuple -/
def PtsD (pts : Pts) (pd : D) : Prop := pd = .lst (pts.map prD) ∨ pd = .tup (pts.map prD)
theorem PtsD.seq {pts : Pts} {pd : D} (h : PtsD pts pd) {env : EnvD} {f : EM} (hf : f env S = .ok pd S) : iSeq f env S = .ok (pts.map prD) S := by
  rcases h with rfl | rfl <;> simp [hf]
theorem PtsD.len {pts : Pts} {pd : D} (h : PtsD pts pd) : bLenX [pd] S = .ok (.int pts.length) S := by
  rcases h with rfl | rfl <;> simp
/-- points that may be told -/
structure Sane (pts : Pts) : Prop where
  x : ∀ q ∈ pts, 1 ≤ q.1 ∧ q.1 ≤ 9
  v : ∀ q ∈ pts, 0 ≤ q.2 ∧ q.2 < 2147483647
  len : pts.length ≤ 100
end DL
end
section
namespace DL
open PySem L2 Mp
variable [DL.Nm]
variable {S : Store}
end DL
end
section
/-! The laws' helpers: like, shuffled, low. -/
namespace DL
open PySem L2 Mp
variable [DL.Nm]
variable {S : Store}
theorem opEq_nil : opEq (.lst []) (.lst []) S = .ok (.bl true) S := by
  have := opEq_lints (as := []) (bs := []) (S := S)
  simpa using this
theorem filter_no (l : List D) : (l.filter fun _ => false) = [] := List.filter_eq_nil_iff.mpr (by simp)
theorem atI_ofNat {α : Type} {l : List α} {i : Nat} (h : i < l.length) : atI l (i : Int) = some l[i] := by
  have : (i : Int) < l.length := by omega
  simp [atI, ixN, this, h]
theorem Drw.bel {c : Cell} {m n : Nat} (d : Drw c m) : c.bel n = true := by
  obtain ⟨a, s, k, rfl, _⟩ := d.ex
  rfl
theorem frzDs_map {α : Type} {ρ : Nat → Option D} {f : α → D} (hf : ∀ a, frzD ρ (f a) = some (f a)) : ∀ l : List α, frzDs ρ (l.map f) = some (l.map f)
  | [] => rfl
  | a :: l => by simp [frzDs, hf a, frzDs_map hf l]
end DL
end
section
/-! Names, as the laws with races draw them; what the program's forms say of them. -/
namespace DR
open PySem L2 DL
variable [DL.Nm]
variable {S : Store}
def abc : Str := "abcdefghijklmnopqrstuvwxyz"
/-- a good name -/
def goodN (s : Str) : Bool := (decide (1 ≤ s.length) && (decide (s ≠ "zz") && decide (s ≠ "zzzzzzzz"))) && decide (s.length ≤ 8) && s.cps.toList.all fun c => decide (c ∈ abc.cps.toList)
/-! what is drawn -/
def sgs : List Str := ["a", "b", "c", "d", "e", "f", "g", "h", "i", "j", "k", "l", "m", "n", "o", "p", "q", "r", "s", "t", "u", "v", "w", "x", "y", "z"]
def tls : List Str := ["x", "", "qxqxqxq", "xx", "qxqxq", "zq"]
def own1 : List Str := ["one", "any", "rank", "runoff", "pairs", "in", "out", "place", "letter", "doubt", "counts", "doubled", "admit"]
def own2 : List Str := ["refuse", "again", "stands", "counted", "vote", "roll", "uses", "mixed", "late", "result", "use", "close"]
def own3 : List Str := ["each", "odd", "spoilt", "good", "blank"]
def own : List Str := own1 ++ own2 ++ own3
theorem split1 : Txt.split "one any rank runoff pairs in out place letter doubt counts doubled admit" " " = own1 := by decide +kernel
theorem split2 : Txt.split "refuse again stands counted vote roll uses mixed late result use close" " " = own2 := by decide +kernel
theorem signs_abc : signsD abc = sgs.map .str := by
  have : abc.cps.toList.map (fun c => (⟨#[c]⟩ : Str)) = sgs := by decide +kernel
  rw [← this]; simp [signsD]
def nmB (i t k : Nat) : Str := sgs.getD ((i + 5 * k) % 26) "" ++ tls.getD ((t + k * k) % 6) ""
def namesA (i : Nat) : List Str := (own.drop i ++ own.take i).take 8
def namesB (i t : Nat) : List Str := (List.range 8).map (nmB i t)
/-- eight unlike good names -/
structure Names (ns : List Str) : Prop where
  len : ns.length = 8
  good : ∀ n ∈ ns, goodN n = true
  nd : ns.Nodup
def okNames (ns : List Str) : Bool := decide (ns.length = 8) && ns.all goodN && decide ns.Nodup
theorem okNames_is {ns : List Str} (h : okNames ns = true) : Names ns := by
  unfold okNames at h
  simp only [Bool.and_eq_true, decide_eq_true_eq, List.all_eq_true] at h
  exact ⟨h.1.1, h.1.2, h.2⟩
theorem okA : ∀ i, i < 26 → okNames (namesA i) = true := by decide +kernel
theorem okB : ∀ i, i < 26 → ∀ t, t < 6 → okNames (namesB i t) = true := by decide +kernel
end DR
end
section
/-! The names drawn. -/
namespace DR
open PySem L2 DL
variable [DL.Nm]
variable {S : Store}
theorem opAdd_locL {l : Nat} {a b : List D} (h : cel S l = some (.lst a)) : opAdd (.loc l) (.lst b) S = if sz (a.length + b.length) then .ok (.lst (a ++ b)) S else .bad := by
  unfold cel at h
  show (match listD S (.loc l), listD S (.lst b) with
    | some a, some b => if sz (a.length + b.length) then ER.ok (.lst (a ++ b)) S else .bad
    | _, _ => .bad) = _
  have e : listD S (.loc l) = some a := by
    unfold listD
    dsimp only
    rw [h]
  rw [e]; rfl
theorem sIx_n (n L d : Nat) : HT.sIx L d (some (n : Int)) = min n L := HT.sIx_nat L d n
theorem cut_hi {α : Type} (xs : List α) (n : Nat) : cutD xs none (some (n : Int)) = xs.take n := by
  unfold cutD
  rw [sIx_n]
  show (xs.drop 0).take (min n xs.length - 0) = _
  rw [List.drop_zero, Nat.sub_zero]
  by_cases h : n ≤ xs.length
  · rw [Nat.min_eq_left h]
  · rw [Nat.min_eq_right (by omega), List.take_length, List.take_of_length_le (by omega)]
theorem cut_lo {α : Type} (xs : List α) (n : Nat) : cutD xs (some (n : Int)) none = xs.drop n := by
  unfold cutD
  rw [sIx_n]
  show (xs.drop (min n xs.length)).take (xs.length - min n xs.length) = _
  by_cases h : n ≤ xs.length
  · rw [Nat.min_eq_left h, List.take_of_length_le (by simp)]
  · rw [Nat.min_eq_right (by omega), List.drop_length, List.drop_of_length_le (by omega)]; simp
theorem sg_at {j : Nat} (h : j < 26) : strAt abc (j : Int) = some (.str (sgs.getD j "")) := by
  have hl : abc.cps.toList.length = 26 := by decide +kernel
  have e : ∀ j, j < 26 → (⟨#[abc.cps.toList.getD j 0]⟩ : Str) = sgs.getD j "" := by decide +kernel
  unfold strAt
  rw [atI_ofNat (by omega), ← e j h]
  simp [List.getD, List.getElem?_eq_getElem (by omega : j < abc.cps.toList.length)]
theorem tl_at {j : Nat} (h : j < 6) : atI ([.str "x", .str "", .str "qxqxqxq", .str "xx", .str "qxqxq", .str "zq"] : List D) (j : Int) = some (.str (tls.getD j "")) := by
  have : ([.str "x", .str "", .str "qxqxqxq", .str "xx", .str "qxqxq", .str "zq"] : List D) = tls.map .str := rfl
  rw [this, atI_ofNat (by simp [tls]; omega)]
  simp [List.getD, List.getElem?_eq_getElem (by simp [tls]; omega : j < tls.length)]
theorem nmB_sz {i t k : Nat} : (sgs.getD ((i + 5 * k) % 26) "").length + (tls.getD ((t + k * k) % 6) "").length ≤ 8 := by
  have h1 : ∀ j, j < 26 → (sgs.getD j "").length = 1 := by decide +kernel
  have h2 : ∀ j, j < 6 → (tls.getD j "").length ≤ 7 := by decide +kernel
  have := h1 ((i + 5 * k) % 26) (Nat.mod_lt _ (by decide))
  have := h2 ((t + k * k) % 6) (Nat.mod_lt _ (by decide))
  omega
theorem loop_b0 {c : Cell} {i t k : Nat} {a b s w : Option D} {A T : D} {x y : Str} {acc : List D} (hk : k < 26) (hA : ∀ S, opIxX A (.int (((i + 5 * k) % 26 : Nat) : Int)) S = .ok (.str x) S) (hT : ∀ S, opIxX T (.int (((t + k * k) % 6 : Nat) : Int)) S = .ok (.str y) S) (hz : x.length + y.length ≤ 8) (hl : acc.length ≤ 1000) :
    g__law_names_b1 [a, b, s, some A, some (.int (i : Nat)), some (.int (t : Nat)), some T, some (.loc 1), some (.int (k : Nat)), w] [c, .lst acc] =
      .nx [a, b, s, some A, some (.int (i : Nat)), some (.int (t : Nat)), some T, some (.loc 1), some (.int (k : Nat)), w] [c, .lst (acc ++ [.str (x ++ y)])] := by
  have c1 : cel [c, .lst acc] 1 = some (.lst acc) := rfl
  have m1 : mulOk (5 : Int) (k : Int) := mulOk_l (by decide)
  have m2 : mulOk (k : Int) (k : Int) := mulOk_l (by omega)
  have e1 : ((i : Int) + 5 * (k : Int)) % 26 = (((i + 5 * k) % 26 : Nat) : Int) := by omega
  have e2 : ((t : Int) + (k : Int) * (k : Int)) % 6 = (((t + k * k) % 6 : Nat) : Int) := by
    rw [← Int.natCast_mul]; omega
  have z1 := sz_is (n := x.length + y.length) (by omega)
  have z2 : sz (acc.length + 1) := sz_is (by omega)
  simp [g__law_names_b1, c1, m1, m2, e1, e2, hA, hT, z1, z2, -Int.natCast_emod, -Int.natCast_add, -Int.natCast_mul]
theorem loop_b1 {c : Cell} {i t k : Nat} {a b s w : Option D} (hk : k < 26) :
    g__law_names_b1 [a, b, s, some (.str abc), some (.int (i : Nat)), some (.int (t : Nat)), some (.lst [.str "x", .str "", .str "qxqxqxq", .str "xx", .str "qxqxq", .str "zq"]), some (.loc 1), some (.int (k : Nat)), w] [c, .lst (((List.range k).map (nmB i t)).map .str)] =
      .nx [a, b, s, some (.str abc), some (.int (i : Nat)), some (.int (t : Nat)), some (.lst [.str "x", .str "", .str "qxqxqxq", .str "xx", .str "qxqxq", .str "zq"]), some (.loc 1), some (.int (k : Nat)), w] [c, .lst (((List.range (k + 1)).map (nmB i t)).map .str)] := by
  have z0 : sz abc.length := sz_is (by decide +kernel)
  have s1 := sg_at (j := (i + 5 * k) % 26) (Nat.mod_lt _ (by decide))
  have s2 := tl_at (j := (t + k * k) % 6) (Nat.mod_lt _ (by decide))
  have e := loop_b0 (c := c) (i := i) (t := t) (a := a) (b := b) (s := s) (w := w) (A := .str abc) (T := .lst [.str "x", .str "", .str "qxqxqxq", .str "xx", .str "qxqxq", .str "zq"]) (acc := ((List.range k).map (nmB i t)).map .str) hk
    (x := sgs.getD ((i + 5 * k) % 26) "") (y := tls.getD ((t + k * k) % 6) "") (fun S => by rw [opIxX_s, if_pos z0, s1]) (fun S => by rw [opIxX_l, s2]) nmB_sz (by simp; omega)
  rw [e, List.range_succ, List.map_append, List.map_append]
  rfl
end DR
end
section
namespace DR
open PySem L2 DL
variable [DL.Nm]
variable {S : Store}
theorem frz_strs {ρ : Nat → Option D} (l : List Str) : frzDs ρ (l.map .str) = some (l.map .str) := frzDs_map (fun _ => rfl) l
theorem sp1 {c : Cell} : mSplit (.str "one any rank runoff pairs in out place letter doubt counts doubled admit") [.str " "] [c] = .ok (.lst (own1.map .str)) [c] := by
    show (if ((" " : Str).length == 0) = false ∧ ("one any rank runoff pairs in out place letter doubt counts doubled admit" : Str).length ≤ 10000000 then ER.ok (D.lst ((Txt.split "one any rank runoff pairs in out place letter doubt counts doubled admit" " ").map D.str)) [c] else ER.bad) = _
    rw [split1]
    exact if_pos ⟨by decide +kernel, by decide +kernel⟩
theorem sp2 {c : Cell} : mSplit (.str "refuse again stands counted vote roll uses mixed late result use close") [.str " "] [c] = .ok (.lst (own2.map .str)) [c] := by
    show (if ((" " : Str).length == 0) = false ∧ ("refuse again stands counted vote roll uses mixed late result use close" : Str).length ≤ 10000000 then ER.ok (D.lst ((Txt.split "refuse again stands counted vote roll uses mixed late result use close" " ").map D.str)) [c] else ER.bad) = _
    rw [split2]
    exact if_pos ⟨by decide +kernel, by decide +kernel⟩
theorem ad1 {c : Cell} : opAdd (.lst (own1.map .str)) (.lst (own2.map .str)) [c] = .ok (.lst ((own1 ++ own2).map .str)) [c] := by
    have l1 : own1.length = 13 := rfl
    have l2 : own2.length = 12 := rfl
    rw [opAdd_ll, if_pos (sz_is (by rw [List.length_map, List.length_map, l1, l2]; decide)), List.map_append]
theorem ad2 {c : Cell} : opAdd (.lst ((own1 ++ own2).map .str)) (.lst (own3.map .str)) [c] = .ok (.lst (own.map .str)) [c] := by
    have l1 : own1.length = 13 := rfl
    have l2 : own2.length = 12 := rfl
    have l3 : own3.length = 5 := rfl
    rw [opAdd_ll, if_pos (sz_is (by rw [List.length_map, List.length_map, List.length_append, l1, l2, l3]; decide)), ← List.map_append]; rfl

theorem namesA_run {c c1 c2 c3 : Cell} {i t n : Nat} (hn : n ≤ 8) (hi : i < 26) (n1 : d__law_next [.loc 0, .int 26] [c] = .ok (.int (i : Nat)) [c1]) (n2 : d__law_next [.loc 0, .int 6] [c1] = .ok (.int (t : Nat)) [c2]) (n3 : d__law_next [.loc 0, .int 4] [c2] = .ok (.int 0) [c3]) :
    g__law_names [some (.loc 0), some (.int (n : Nat)), none, none, none, none, none, none, none, none] [c] = .rt (.lst (((namesA i).take n).map .str)) [c3] := by
  have ty : ∀ s, tyD "str" [c] (.str s) = true := fun _ => rfl
  have ad1 := ad1 (c := c)
  have ad2 := ad2 (c := c)
  have sp1 := sp1 (c := c)
  have sp2 := sp2 (c := c)
  have ad3 : opAdd (.lst ((own.drop i).map .str)) (.lst ((own.take i).map .str)) [c3] = .ok (.lst ((own.drop i ++ own.take i).map .str)) [c3] := by
      have : own.length = 30 := rfl
      rw [opAdd_ll, if_pos (sz_is (by simp; omega)), List.map_append]
  have k1 : cutD (own.map D.str) (some (i : Int)) none = (own.drop i).map .str := by rw [cut_lo, List.map_drop]
  have k2 : cutD (own.map D.str) none (some (i : Int)) = (own.take i).map .str := by rw [cut_hi, List.map_take]
  have k3 : cutD ((own.drop i ++ own.take i).map D.str) none (some (n : Int)) = ((namesA i).take n).map .str := by
      rw [cut_hi, namesA, List.take_take, Nat.min_eq_left hn, List.map_take]
  have e3 : eLst (lCons (eC (.str "each")) (lCons (eC (.str "odd")) (lCons (eC (.str "spoilt")) (lCons (eC (.str "good")) (lCons (eC (.str "blank")) lNil))))) = fun env S => .ok (.lst (own3.map .str)) S := by
    funext env S
    simp [own3]
  unfold g__law_names
  rw [e3]
  generalize hL1 : own1.map D.str = L1 at *
  generalize hL2 : own2.map D.str = L2 at *
  generalize hL3 : own3.map D.str = L3 at *
  generalize hL12 : (own1 ++ own2).map D.str = L12 at *
  generalize hO : own.map D.str = O at *
  generalize hd : (own.drop i).map D.str = O1 at *
  generalize ht : (own.take i).map D.str = O2 at *
  generalize hdt : (own.drop i ++ own.take i).map D.str = O3 at *
  generalize hna : ((namesA i).take n).map D.str = NA at *
  simp [oSome, oNone, ty, sp1, sp2, ad1, ad2, n1, n2, n3, k1, k2, ad3, k3, -opAdd_ll]

def yyy (s : Str) : D := .str (s ++ "yyy")
abbrev tl6 : D := .lst [.str "x", .str "", .str "qxqxqxq", .str "xx", .str "qxqxq", .str "zq"]
theorem namesB_loop {c : Cell} {i t n : Nat} {O : D} : ∃ k, forD (bName 8) g__law_names_b1 (rangeD 0 26) [some (.loc 0), some (.int (n : Nat)), some O, some (.str abc), some (.int (i : Nat)), some (.int (t : Nat)), some tl6, some (.loc 1), none, none] [c, .lst []] =
    .nx [some (.loc 0), some (.int (n : Nat)), some O, some (.str abc), some (.int (i : Nat)), some (.int (t : Nat)), some tl6, some (.loc 1), k, none] [c, .lst (((List.range 26).map (nmB i t)).map .str)] := by
  obtain ⟨e', S', hf, k, rfl, rfl⟩ := forD_range (b := bName 8) (body := g__law_names_b1)
      (fun q e S => ∃ k, e = [some (.loc 0), some (.int (n : Nat)), some O, some (.str abc), some (.int (i : Nat)), some (.int (t : Nat)), some tl6, some (.loc 1), k, none] ∧ S = [c, .lst (((List.range q).map (nmB i t)).map .str)])
      (lo := 0) (n := 26) (e := [some (.loc 0), some (.int (n : Nat)), some O, some (.str abc), some (.int (i : Nat)), some (.int (t : Nat)), some tl6, some (.loc 1), none, none]) (S := [c, .lst []]) ⟨none, rfl, rfl⟩ (by
        rintro q e S hn ⟨k, rfl, rfl⟩
        have e := loop_b1 (c := c) (i := i) (t := t) (k := q) (a := some (.loc 0)) (b := some (.int (n : Nat))) (s := some O) (w := none) hn
        rw [Int.zero_add]
        exact ⟨_, rfl, _, _, .inl e, _, rfl, rfl⟩)
  exact ⟨k, hf⟩
theorem namesB_lc {S : Store} {env : EnvD} (he : env.length = 10) : lcD (bName 9) eYes g__law_names_e1 env [] (sgs.map .str) S = .ok (sgs.map yyy) S :=
  by
    have h := lcD_map (S := S) (b := bName 9) (elt := g__law_names_e1) (env := env) (fun d => match d with | .str s => yyy s | d => d) (sgs.map .str) (fun d hd => by
        obtain ⟨s, hs, rfl⟩ := List.mem_map.mp hd
        have l1 : s.length = 1 := by
          have h : ∀ s ∈ sgs, s.length = 1 := by decide +kernel
          exact h s hs
        have l2 : ("yyy" : Str).length = 3 := by decide +kernel
        have zz : sz (s.length + ("yyy" : Str).length) := sz_is (by omega)
        refine ⟨_, rfl, ?_⟩
        have ev : eVar 9 (env.set 9 (some (.str s))) S = .ok (.str s) S := eVar_at (List.getElem?_set_self (by omega))
        show (eOp opAdd (eVar 9) (eC (.str "yyy"))) (env.set 9 (some (.str s))) S = _
        rw [eOp_is, ev]
        simp only [ER.bind_ok, eC_is, opAdd_ss]
        rw [if_pos zz]; rfl) (by decide)
    rw [List.map_map] at h
    exact h
theorem namesB_run {c c1 c2 c3 : Cell} {i t n : Nat} {z : Int} (hn : n ≤ 8) (hz : z ≠ 0) (n1 : d__law_next [.loc 0, .int 26] [c] = .ok (.int (i : Nat)) [c1]) (n2 : d__law_next [.loc 0, .int 6] [c1] = .ok (.int (t : Nat)) [c2]) (n3 : d__law_next [.loc 0, .int 4] [c2] = .ok (.int z) [c3]) :
    g__law_names [some (.loc 0), some (.int (n : Nat)), none, none, none, none, none, none, none, none] [c] = .rt (.lst (((namesB i t).take n).map .str)) [c3, .lst (((List.range 26).map (nmB i t)).map .str)] := by
  have ty : ∀ s, tyD "str" [c] (.str s) = true := fun _ => rfl
  have ad1 := ad1 (c := c)
  have ad2 := ad2 (c := c)
  have sp1 := sp1 (c := c)
  have sp2 := sp2 (c := c)
  have e3 : eLst (lCons (eC (.str "each")) (lCons (eC (.str "odd")) (lCons (eC (.str "spoilt")) (lCons (eC (.str "good")) (lCons (eC (.str "blank")) lNil))))) = fun env S => .ok (.lst (own3.map .str)) S := by
    funext env S
    simp [own3]
  have e6 : eLst (lCons (eC (.str "x")) (lCons (eC (.str "")) (lCons (eC (.str "qxqxqxq")) (lCons (eC (.str "xx")) (lCons (eC (.str "qxqxq")) (lCons (eC (.str "zq")) lNil)))))) = fun env S => .ok tl6 S := by
    funext env S
    simp
  have ea : eC (.str "abcdefghijklmnopqrstuvwxyz") = eC (.str abc) := rfl
  obtain ⟨k, hf⟩ := namesB_loop (c := c3) (i := i) (t := t) (n := n) (O := .lst (own.map .str))
  have lc := namesB_lc (S := [c3, .lst (((List.range 26).map (nmB i t)).map .str)]) (env := [some (.loc 0), some (.int (n : Nat)), some (.lst (own.map .str)), some (.str abc), some (.int (i : Nat)), some (.int (t : Nat)), some tl6, some (.loc 1), k, none]) rfl
  have ad4 := opAdd_locL (S := [c3, .lst (((List.range 26).map (nmB i t)).map D.str)]) (l := 1) (a := ((List.range 26).map (nmB i t)).map .str) (b := sgs.map yyy) rfl
  rw [if_pos (sz_is (by simp [sgs]))] at ad4
  have k3 : cutD (((List.range 26).map (nmB i t)).map D.str ++ sgs.map yyy) none (some (n : Int)) = ((namesB i t).take n).map .str := by
      rw [cut_hi, List.take_append_of_le_length (by simp; omega), namesB, ← List.map_take, ← List.map_take, ← List.map_take, List.take_range, List.take_range, Nat.min_eq_left (by omega), Nat.min_eq_left (by omega)]
  have sa := signs_abc
  unfold g__law_names
  rw [e3, e6, ea]
  generalize hL1 : own1.map D.str = L1 at *
  generalize hL2 : own2.map D.str = L2 at *
  generalize hL3 : own3.map D.str = L3 at *
  generalize hL12 : (own1 ++ own2).map D.str = L12 at *
  generalize hO : own.map D.str = O at *
  generalize hna : ((namesB i t).take n).map D.str = NA at *
  generalize hfo : ((List.range 26).map (nmB i t)).map D.str = FO at *
  generalize hy : sgs.map yyy = Y at *
  generalize hs : sgs.map D.str = SG at *
  generalize tl6 = T at *
  have r26 : rOk (26 : Int) := ⟨by decide, by decide⟩
  simp [oSome, oNone, ty, sp1, sp2, ad1, ad2, n1, n2, n3, hz, r26, -opAdd_ll]
  rw [hf]
  simp [oSome, oNone, sa, lc, ad4, k3, -opAdd_ll]
theorem names_okN {c : Cell} {m n : Nat} (hn : n ≤ 8) (d : Drw c m) (hm : m ≤ 90000) : ∃ ns c', d__law_names [.loc 0, .int (n : Nat)] [c] = .ok (.lst ((ns.take n).map .str)) [c'] ∧ Names ns ∧ Drw c' (m + 3) := by
  obtain ⟨x, c1, n1, x0, x1, d1⟩ := next1 26 d (by omega) (by decide) (by decide)
  obtain ⟨y, c2, n2, y0, y1, d2⟩ := next1 6 d1 (by omega) (by decide) (by decide)
  obtain ⟨z, c3, n3, z0, z1, d3⟩ := next1 4 d2 (by omega) (by decide) (by decide)
  obtain ⟨i, rfl⟩ := Int.eq_ofNat_of_zero_le x0
  obtain ⟨t, rfl⟩ := Int.eq_ofNat_of_zero_le y0
  have hi : i < 26 := by omega
  have ht : t < 6 := by omega
  by_cases hz : z = 0
  · subst hz
    refine ⟨namesA i, c3, ?_, okNames_is (okA i hi), d3⟩
    have ex := exit_draw (c := c) (c' := c3) (T := []) (d := .lst (((namesA i).take n).map .str)) (d' := .lst (((namesA i).take n).map .str)) (by simp [frzD, frz_strs, -List.map_take]) d3.bel
    have r := namesA_run hn hi n1 n2 n3
    show (match g__law_names [some (.loc 0), some (.int (n : Nat)), none, none, none, none, none, none, none, none] [c] with
      | .nx _ S1 => exitD .pure [c] .non S1
      | .rt d S1 => exitD .pure [c] d S1
      | .ex x _ S1 => .ex x S1
      | _ => .bad) = _
    rw [r]
    exact ex
  · refine ⟨namesB i t, c3, ?_, okNames_is (okB i hi t ht), d3⟩
    have ex := exit_draw (c := c) (c' := c3) (T := [.lst (((List.range 26).map (nmB i t)).map .str)]) (d := .lst (((namesB i t).take n).map .str)) (d' := .lst (((namesB i t).take n).map .str)) (by simp [frzD, frz_strs, -List.map_take]) d3.bel
    have r := namesB_run hn hz n1 n2 n3
    show (match g__law_names [some (.loc 0), some (.int (n : Nat)), none, none, none, none, none, none, none, none] [c] with
      | .nx _ S1 => exitD .pure [c] .non S1
      | .rt d S1 => exitD .pure [c] d S1
      | .ex x _ S1 => .ex x S1
      | _ => .bad) = _
    rw [r]
    exact ex
theorem names_ok {c : Cell} {m : Nat} (d : Drw c m) (hm : m ≤ 90000) : ∃ ns c', d__law_names [.loc 0, .int 8] [c] = .ok (.lst (ns.map .str)) [c'] ∧ Names ns ∧ Drw c' (m + 3) := by
  obtain ⟨ns, c', h1, h2, h3⟩ := names_okN (n := 8) (Nat.le_refl _) d hm
  exact ⟨ns, c', by rw [List.take_of_length_le (Nat.le_of_eq h2.len)] at h1; exact h1, h2, h3⟩
end DR
end
section
/-! Races told and made; marks; what the program says of marks. -/
namespace DR
open PySem L2 DL
variable [DL.Nm]
variable {S : Store}
abbrev tupS (l : List Str) : D := .tup (l.map .str)
abbrev toldD (nm kd : Str) (cs : List Str) (seats : Int) (way : Str) : D := .tup [.str nm, .str kd, tupS cs, .int seats, .str way]
abbrev raceD (nm kd : Str) (cs : List Str) (seats : Int) (way : Str) : D := .obj "Race" ["name", "kind", "choices", "districts", "seats", "by"] [.str nm, .str kd, tupS cs, .tup [.str "here"], .int seats, .str way]
/-- what a race may be made of -/
structure Told (nm kd : Str) (cs : List Str) (seats : Int) (way : Str) : Prop where
  nm : goodN nm = true
  good : ∀ n ∈ cs, goodN n = true
  nd : cs.Nodup
  l2 : 2 ≤ cs.length
  l5 : cs.length ≤ 5
  kdOk : kd = "one" ∨ kd = "any" ∨ kd = "rank"
  s1 : 1 ≤ seats
  s2 : seats ≤ cs.length
  w : (kd ≠ "rank" ∧ way = "") ∨ (kd = "rank" ∧ (way = "runoff" ∨ way = "pairs" ∨ way = "share") ∧ (way = "share" ∨ seats = 1))
theorem Told.as {nm kd : Str} {cs : List Str} {seats seats' : Int} {way way' : Str} (t : Told nm kd cs seats way) (s1 : 1 ≤ seats') (s2 : seats' ≤ cs.length) (w : (kd ≠ "rank" ∧ way' = "") ∨ (kd = "rank" ∧ (way' = "runoff" ∨ way' = "pairs" ∨ way' = "share") ∧ (way' = "share" ∨ seats' = 1))) : Told nm kd cs seats' way' :=
  ⟨t.nm, t.good, t.nd, t.l2, t.l5, t.kdOk, s1, s2, w⟩
end DR
end
section
/-! A race told, drawn. -/
namespace DR
open PySem L2 DL
variable [DL.Nm]
theorem cut_mid {α : Type} (xs : List α) (a b : Nat) (h : a ≤ b) (hb : b ≤ xs.length) : cutD xs (some (a : Int)) (some (b : Int)) = (xs.take b).drop a := by
  unfold cutD
  rw [sIx_n, sIx_n, Nat.min_eq_left (show a ≤ xs.length by omega), Nat.min_eq_left hb, List.drop_take]
theorem told_ok {c : Cell} {m : Nat} (ks : List Str) (hk : ks ≠ []) (hk3 : ∀ k ∈ ks, k = "one" ∨ k = "any" ∨ k = "rank") (hkl : ks.length ≤ 1000) (d : Drw c m) (hm : m ≤ 80000) :
    ∃ nm kd cs seats way c', d__law_told_race [.loc 0, .lst (ks.map .str)] [c] = .ok (toldD nm kd cs seats way) [c'] ∧ Told nm kd cs seats way ∧ kd ∈ ks ∧ Drw c' (m + 10) := by
  obtain ⟨ns, c1, n1, N, d1⟩ := names_ok d (by omega)
  obtain ⟨x, hx, c2, p2, d2⟩ := pick1 (ks.map .str) d1 (by omega) (by simpa using hk) (by simp; omega)
  obtain ⟨kd, hkd, rfl⟩ := List.mem_map.mp hx
  obtain ⟨y, c3, n3, y0, y1, d3⟩ := next1 4 d2 (by omega) (by decide) (by decide)
  obtain ⟨j, rfl⟩ := Int.eq_ofNat_of_zero_le y0
  have hj : j < 4 := by omega
  obtain ⟨cs, hcs⟩ : ∃ cs, cs = (ns.take (3 + j)).drop 1 := ⟨_, rfl⟩
  have lcs : cs.length = 2 + j := by rw [hcs, List.length_drop, List.length_take, N.len]; omega
  have csub : ∀ n ∈ cs, n ∈ ns := fun n hn => by rw [hcs] at hn; exact List.mem_of_mem_take (List.mem_of_mem_drop hn)
  have cnd : cs.Nodup := by rw [hcs]; exact (N.nd.sublist (List.take_sublist _ _)).sublist (List.drop_sublist _ _)
  obtain ⟨z, c4, n4, z0, z1, d4⟩ := next1 (cs.length : Int) d3 (by omega) (by omega) (by omega)
  obtain ⟨nm, hnm⟩ : ∃ nm, ns[0]? = some nm := ⟨_, List.getElem?_eq_getElem (by rw [N.len]; decide)⟩
  have a0 : atI (ns.map D.str) 0 = some (.str nm) := by
    have := atI_nat (xs := ns.map D.str) (j := 0) (v := .str nm) (by rw [List.getElem?_map, hnm]; rfl)
    exact this
  have ct : cutD (ns.map D.str) (some 1) (some (3 + (j : Int))) = cs.map .str := by
    have e := cut_mid (ns.map D.str) 1 (3 + j) (by omega) (by rw [List.length_map, N.len]; omega)
    rw [show ((1 : Nat) : Int) = 1 from rfl, show ((3 + j : Nat) : Int) = 3 + (j : Int) by omega] at e
    rw [e, hcs, List.map_drop, List.map_take]
  have good : ∀ n ∈ cs, goodN n = true := fun n hn => N.good n (csub n hn)
  have gnm : goodN nm = true := N.good nm (List.mem_of_getElem? hnm)
  have bt : ∀ l : List D, ∀ S, bTuple [.lst l] S = .ok (.tup l) S := fun _ _ => rfl
  by_cases hr : kd = "rank"
  · obtain ⟨w, hw, c5, p5, d5⟩ := pick1 [.str "runoff", .str "pairs", .str "share", .str "share"] d4 (by omega) (by simp) (by simp)
    have hw' : ∃ way : Str, w = .str way ∧ (way = "runoff" ∨ way = "pairs" ∨ way = "share") := by
      simp at hw
      rcases hw with rfl | rfl | rfl
      · exact ⟨_, rfl, .inl rfl⟩
      · exact ⟨_, rfl, .inr (.inl rfl)⟩
      · exact ⟨_, rfl, .inr (.inr rfl)⟩
    obtain ⟨way, rfl, hway⟩ := hw'
    by_cases hs : way = "share"
    · refine ⟨nm, kd, cs, 1 + z, way, c5, ?_, ⟨gnm, good, cnd, by omega, by omega, hk3 _ hkd, by omega, by omega, .inr ⟨hr, hway, .inl hs⟩⟩, hkd, d5.mono (by omega)⟩
      simp only [d__law_told_race, g__law_told_race, fnF]
      generalize hC : cs.map D.str = C at *
      have lC : C.length = cs.length := by rw [← hC]; simp
      simp [oSome, n1, p2, n3, ct, bt, lC, n4, hr, p5, hs, a0]
      exact hC.symm
    · refine ⟨nm, kd, cs, 1, way, c5, ?_, ⟨gnm, good, cnd, by omega, by omega, hk3 _ hkd, by omega, by omega, .inr ⟨hr, hway, .inr rfl⟩⟩, hkd, d5.mono (by omega)⟩
      simp only [d__law_told_race, g__law_told_race, fnF]
      generalize hC : cs.map D.str = C at *
      have lC : C.length = cs.length := by rw [← hC]; simp
      simp [oSome, n1, p2, n3, ct, bt, lC, n4, hr, p5, hs, a0]
      exact hC.symm
  · refine ⟨nm, kd, cs, 1 + z, "", c4, ?_, ⟨gnm, good, cnd, by omega, by omega, hk3 _ hkd, by omega, by omega, .inl ⟨hr, rfl⟩⟩, hkd, d4.mono (by omega)⟩
    simp only [d__law_told_race, g__law_told_race, fnF]
    generalize hC : cs.map D.str = C at *
    have lC : C.length = cs.length := by rw [← hC]; simp
    simp [oSome, n1, p2, n3, ct, bt, lC, n4, hr, a0]
    exact hC.symm
end DR
end
section
/-! Dicts by names: what stands in them. -/
namespace DR
open PySem L2 DL
variable [DL.Nm]
variable {S : Store}
end DR
end
section
/-! Marks drawn; good ones. -/
namespace DR
open PySem L2 DL
variable [DL.Nm]
variable {S : Store}
/-- a comprehension whose every turn draws -/
theorem lc_draw {α : Type} (f : α → D) (P : α → Prop) (st i M : Nat) {elt : EM} {env : EnvD} (he : ∀ (k : D) (c : Cell) (m : Nat), Drw c m → m ≤ M → ∃ a c', elt (env.set i (some k)) [c] = .ok (f a) [c'] ∧ P a ∧ Drw c' (m + st)) :
    ∀ (ds : List D) (acc : List D) (c : Cell) (m : Nat), Drw c m → m + st * ds.length ≤ M → acc.length + ds.length ≤ 100000 →
      ∃ (l : List α) (c' : Cell), lcD (bName i) eYes elt env acc ds [c] = .ok (acc ++ l.map f) [c'] ∧ l.length = ds.length ∧ (∀ a ∈ l, P a) ∧ Drw c' (m + st * ds.length)
  | [], acc, c, m, d, _, _ => ⟨[], c, by simp, rfl, fun _ h => by simp at h, d⟩
  | k :: ds, acc, c, m, d, hm, hl => by
    have hl' : acc.length + (ds.length + 1) ≤ 100000 := hl
    have hm' : m + st * (ds.length + 1) ≤ M := hm
    rw [Nat.mul_succ] at hm'
    obtain ⟨a, c1, h1, h2, h3⟩ := he k c m d (by omega)
    obtain ⟨l, c2, h4, h5, h6, h7⟩ := lc_draw f P st i M he ds (acc ++ [f a]) c1 (m + st) h3 (by omega) (by simp; omega)
    refine ⟨a :: l, c2, ?_, by simp [h5], fun b hb => ?_, ?_⟩
    · unfold lcD
      dsimp only [bName, eYes]
      rw [h1]
      dsimp only
      rw [if_pos (show sz (acc.length + 1) from sz_is (by omega)), h4]
      simp
    · rcases List.mem_cons.mp hb with e | hb
      · subst e; exact h2
      · exact h6 b hb
    · have e : m + st * (k :: ds).length = m + st + st * ds.length := by
        rw [List.length_cons, Nat.mul_succ]; omega
      rw [e]; exact h7
/-- what stands on a paper: nothing, the sign of spoilt ones, or choices -/
inductive Mk where
  | no | odd | good (l : List Str)
def Mk.D (one : Bool) : Mk → PySem.Str → D
  | .no, _ => .non
  | .odd, _ => .str "?"
  | .good l, _ => if one then .str (l.headD "") else .tup (l.map .str)
structure MkOk (one : Bool) (cs : List Str) (mk : Mk) : Prop where
  ok : ∀ l, mk = .good l → l ≠ [] ∧ l.Nodup ∧ (∀ c ∈ l, c ∈ cs) ∧ (one = true → l.length = 1)
end DR
end
section
/-! What the program and the laws say of marks. -/
namespace DR
open PySem L2 DL
variable [DL.Nm]
variable {S : Store}
/-! the program's words -/
@[simp] theorem fld_kind {nm kd : Str} {cs : List Str} {seats : Int} {way : Str} : fldC S (raceD nm kd cs seats way) "kind" = some (("Race" : Str), D.str kd) := rfl
@[simp] theorem fld_choices {nm kd : Str} {cs : List Str} {seats : Int} {way : Str} : fldC S (raceD nm kd cs seats way) "choices" = some (("Race" : Str), tupS cs) := rfl
@[simp] theorem fld_seats {nm kd : Str} {cs : List Str} {seats : Int} {way : Str} : fldC S (raceD nm kd cs seats way) "seats" = some (("Race" : Str), D.int seats) := rfl
end DR
end
section
/-! Good marks; counting loops. -/
namespace DR
open PySem L2 DL
variable [DL.Nm]
variable {S : Store}
theorem lcD_fa {α : Type} {b : D → EnvD → Option EnvD} {tt elt : EM} {env : EnvD} (h : α → D) (p : α → Bool) (f : α → D) : ∀ (l : List α) (acc : List D),
    (∀ a ∈ l, ∃ e1, b (h a) env = some e1 ∧ tt e1 S = .ok (.bl (p a)) S ∧ (p a = true → elt e1 S = .ok (f a) S)) → acc.length + l.length ≤ 16777216 → lcD b tt elt env acc (l.map h) S = .ok (acc ++ (l.filter p).map f) S
  | [], acc, _, _ => by simp
  | a :: l, acc, st, hl => by
    obtain ⟨e1, hb, ht, he⟩ := st a List.mem_cons_self
    have hl' : acc.length + (l.length + 1) ≤ 16777216 := hl
    rw [List.map_cons]
    unfold lcD
    rw [hb]
    dsimp only
    rw [ht]
    cases hp : p a with
    | true =>
      dsimp only
      rw [he hp]
      dsimp only
      rw [if_pos (show sz (acc.length + 1) by unfold sz; omega), lcD_fa h p f l _ (fun d' hd => st d' (List.mem_cons_of_mem _ hd)) (by simp; omega)]
      simp [List.filter_cons, hp]
    | false =>
      dsimp only
      rw [lcD_fa h p f l acc (fun d' hd => st d' (List.mem_cons_of_mem _ hd)) (by omega)]
      simp [List.filter_cons, hp]
theorem lcD_ma {α : Type} {b : D → EnvD → Option EnvD} {elt : EM} {env : EnvD} (h : α → D) (f : α → D) (l : List α) (st : ∀ a ∈ l, ∃ e1, b (h a) env = some e1 ∧ elt e1 S = .ok (f a) S) (hl : l.length ≤ 16777216) : lcD b eYes elt env [] (l.map h) S = .ok (l.map f) S := by
  rw [lcD_fa (tt := eYes) h (fun _ => true) f l [] (fun a ha => let ⟨e1, x, y⟩ := st a ha; ⟨e1, x, rfl, fun _ => y⟩) (by simpa using hl), List.nil_append, List.filter_eq_self.mpr (fun _ _ => rfl)]
section
variable {nm kd : Str} {cs : List Str} {seats : Int} {way : Str}
end
end DR
end
section
/-! The first of the greatest, one after the other: the sorted row. No program. -/
namespace DR
variable {α : Type} [DecidableEq α]
end DR
end
section
/-! The order of names: more first, as much by the lot. -/
namespace DR
open PySem L2 DL
variable [DL.Nm]
variable {S : Store}
end DR
end
section
/-! Counting names; things that are like themselves. -/
namespace DR
open PySem L2 DL
variable [DL.Nm]
variable {S : Store}
structure Sm (k : Nat) (p : PyData) : Prop where
  shp : Shp k p
  refl : PyData.eqv p p = true
theorem Sm.int {k : Nat} (i : Int) : Sm k (.int i) := ⟨.int i, by show (i == i) = true; simp⟩
theorem Sm.none {k : Nat} : Sm k .none := ⟨.none, rfl⟩
theorem Sm.str {k : Nat} {x : Str} (h : PyData.strOk x = true) : Sm k (.str x) := ⟨.str h, by show (x == x) = true; simp⟩
theorem Sm.all {k : Nat} : ∀ {ps : List PyData}, (∀ p ∈ ps, Sm k p) → PyData.eqvAll ps ps = true
  | [], _ => rfl
  | p :: ps, h => by
    show (PyData.eqv p p && PyData.eqvAll ps ps) = true
    rw [(h p List.mem_cons_self).refl, Sm.all fun q hq => h q (List.mem_cons_of_mem _ hq)]; rfl
theorem Sm.list {k : Nat} {ps : List PyData} (h : ∀ p ∈ ps, Sm k p) : Sm (k + 1) (.list ps) := ⟨.list fun p hp => (h p hp).shp, Sm.all h⟩
theorem Sm.tuple {k : Nat} {ps : List PyData} (h : ∀ p ∈ ps, Sm k p) : Sm (k + 1) (.tuple ps) := ⟨.tuple fun p hp => (h p hp).shp, Sm.all h⟩
/-! counting -/
end DR
end
section
/-! Marks of one and any: names in the order of choices; all parts of a row of names. -/
namespace DR
open PySem L2 DL
variable [DL.Nm]
variable {S : Store}
/-! all parts -/
def subStep (acc : List (List Str)) (c : Str) : List (List Str) := acc ++ acc.map (· ++ [c])
def subsL (cs : List Str) : List (List Str) := cs.foldl subStep [[]]
structure SubsOk (cs : List Str) : Prop where
  hd : ∃ T, subsL cs = [] :: T ∧ ∀ l ∈ T, l ≠ []
  len : (subsL cs).length = 2 ^ cs.length
  mem : ∀ l, l ∈ subsL cs ↔ l.Sublist cs
/-! marks beside one another -/
instance : DecidableEq Mk := fun a b => match a, b with
  | .no, .no => isTrue rfl
  | .odd, .odd => isTrue rfl
  | .good l, .good m => if h : l = m then isTrue (by rw [h]) else isFalse fun z => h (by cases z; rfl)
  | .no, .odd => isFalse fun z => by cases z
  | .no, .good _ => isFalse fun z => by cases z
  | .odd, .no => isFalse fun z => by cases z
  | .odd, .good _ => isFalse fun z => by cases z
  | .good _, .no => isFalse fun z => by cases z
  | .good _, .odd => isFalse fun z => by cases z
end DR
end
section
/-! Names, drawn (parts, codes). -/
namespace DW
open PySem L2 DL DR
variable [DL.Nm]
variable {S : Store}
def ownW : List Str := ["place", "letter", "doubt", "one", "any", "rank", "runoff", "pairs", "share", "each", "odd", "admit", "refuse", "counts", "doubled", "out", "enter", "move", "strike", "restore", "vote", "roll", "uses", "none", "spoilt", "blank"]
def tlW : List Str := ["", "x", "qx", "qxqqx", "qxqxqxq", "xxqxqxq"]
def txW : Str := "place letter doubt one any rank runoff pairs share each odd admit refuse counts doubled out enter move" ++ " strike restore vote roll uses none spoilt blank"
theorem splitW : Txt.split txW " " = ownW := by decide +kernel
theorem spW {c : Cell} : mSplit (.str txW) [.str " "] [c] = .ok (.lst (ownW.map .str)) [c] := by
  show (if ((" " : Str).length == 0) = false ∧ txW.length ≤ 10000000 then ER.ok (D.lst ((Txt.split txW " ").map D.str)) [c] else ER.bad) = _
  rw [splitW]
  exact if_pos ⟨by decide +kernel, by decide +kernel⟩
theorem adW : opAdd (.str "place letter doubt one any rank runoff pairs share each odd admit refuse counts doubled out enter move") (.str " strike restore vote roll uses none spoilt blank") S = .ok (.str txW) S := by
  rw [opAdd_ss, if_pos (sz_is (by decide +kernel))]; rfl
def nmW (i t k : Nat) : Str := sgs.getD ((i + 5 * k) % 26) "" ++ tlW.getD ((t + k * k) % 6) ""
def namesA (i n : Nat) : List Str := (ownW.drop i ++ ownW.take i).take n
def namesB (i t n : Nat) : List Str := (List.range n).map (nmW i t)
/-- unlike good names -/
structure NamesN (n : Nat) (ns : List Str) : Prop where
  len : ns.length = n
  good : ∀ n ∈ ns, goodN n = true
  nd : ns.Nodup
theorem NamesN.take {n m : Nat} {ns : List Str} (h : NamesN n ns) (hm : m ≤ n) : NamesN m (ns.take m) :=
  ⟨by rw [List.length_take, h.len]; omega, fun x hx => h.good x (List.mem_of_mem_take hx), h.nd.sublist (List.take_sublist _ _)⟩
def okN (ns : List Str) : Bool := decide (ns.length = 26) && ns.all goodN && decide ns.Nodup
theorem okN_is {ns : List Str} (h : okN ns = true) : NamesN 26 ns := by
  unfold okN at h
  simp only [Bool.and_eq_true, decide_eq_true_eq, List.all_eq_true] at h
  exact ⟨h.1.1, h.1.2, h.2⟩
theorem okN_of {ns : List Str} (h : NamesN 26 ns) : okN ns = true := by
  unfold okN
  rw [decide_eq_true h.len, decide_eq_true h.nd, Bool.true_and, Bool.and_true, List.all_eq_true]
  exact h.good
theorem ownW_ok : NamesN 26 ownW := ⟨by decide, by
  have : ownW.all goodN = true := by decide +kernel
  exact List.all_eq_true.mp this, by decide +kernel⟩
theorem okA : ∀ i, i < 26 → okN (namesA i 26) = true := fun i hi => by
  have p : (ownW.drop i ++ ownW.take i).Perm ownW := by
    have := List.perm_append_comm (l₁ := ownW.drop i) (l₂ := ownW.take i)
    rw [List.take_append_drop] at this
    exact this
  have e : namesA i 26 = ownW.drop i ++ ownW.take i := by
    unfold namesA
    exact List.take_of_length_le (by rw [p.length_eq, ownW_ok.len]; exact Nat.le_refl _)
  rw [e]
  exact okN_of ⟨by rw [p.length_eq, ownW_ok.len], fun x hx => ownW_ok.good x (p.subset hx), p.nodup_iff.mpr ownW_ok.nd⟩
theorem nm_good : ∀ j, j < 26 → ∀ u, u < 6 → goodN (sgs.getD j "" ++ tlW.getD u "") = true := by decide +kernel
theorem nm_head : ∀ j, j < 26 → ∀ u, u < 6 → (sgs.getD j "" ++ tlW.getD u "").cps[0]? = some (97 + j) := by decide +kernel
theorem okB : ∀ i, i < 26 → ∀ t, t < 6 → okN (namesB i t 26) = true := fun i hi t ht => by
  refine okN_of ⟨by unfold namesB; rw [List.length_map, List.length_range], fun x hx => ?_, ?_⟩
  · obtain ⟨k, _, rfl⟩ := List.mem_map.mp hx
    exact nm_good _ (Nat.mod_lt _ (by decide)) _ (Nat.mod_lt _ (by decide))
  · unfold namesB
    refine List.pairwise_map.mpr ((List.nodup_range (n := 26)).imp_of_mem fun {a b} ha hb hab e => hab ?_)
    have ha := List.mem_range.mp ha
    have hb := List.mem_range.mp hb
    have h1 := nm_head ((i + 5 * a) % 26) (Nat.mod_lt _ (by decide)) ((t + a * a) % 6) (Nat.mod_lt _ (by decide))
    have h2 := nm_head ((i + 5 * b) % 26) (Nat.mod_lt _ (by decide)) ((t + b * b) % 6) (Nat.mod_lt _ (by decide))
    unfold nmW at e
    rw [e, h2] at h1
    have h3 := Option.some.inj h1
    omega
theorem takeA {i n : Nat} (h : n ≤ 26) : namesA i n = (namesA i 26).take n := by
  unfold namesA; rw [List.take_take, Nat.min_eq_left h]
theorem takeB {i t n : Nat} (h : n ≤ 26) : namesB i t n = (namesB i t 26).take n := by
  unfold namesB; rw [← List.map_take, List.take_range, Nat.min_eq_left h]
theorem tl_atW {j : Nat} (h : j < 6) : atI ([.str "", .str "x", .str "qx", .str "qxqqx", .str "qxqxqxq", .str "xxqxqxq"] : List D) (j : Int) = some (.str (tlW.getD j "")) := by
  have : ([.str "", .str "x", .str "qx", .str "qxqqx", .str "qxqxqxq", .str "xxqxqxq"] : List D) = tlW.map .str := rfl
  rw [this, atI_ofNat (by simp [tlW]; omega)]
  simp [List.getD, List.getElem?_eq_getElem (by simp [tlW]; omega : j < tlW.length)]
theorem nmW_sz {i t k : Nat} : (sgs.getD ((i + 5 * k) % 26) "").length + (tlW.getD ((t + k * k) % 6) "").length ≤ 8 := by
  have h1 : ∀ j, j < 26 → (sgs.getD j "").length = 1 := by decide +kernel
  have h2 : ∀ j, j < 6 → (tlW.getD j "").length ≤ 7 := by decide +kernel
  have := h1 ((i + 5 * k) % 26) (Nat.mod_lt _ (by decide))
  have := h2 ((t + k * k) % 6) (Nat.mod_lt _ (by decide))
  omega
theorem lc_names {i t n : Nat} {a b s w : Option D} (hn : n ≤ 26) : lcD (bName 7) eYes g__law_names_e1 [a, b, s, some (.str abc), some (.int (i : Nat)), some (.int (t : Nat)), some (.lst [.str "", .str "x", .str "qx", .str "qxqqx", .str "qxqxqxq", .str "xxqxqxq"]), none] [] (rangeD 0 n) S = .ok ((namesB i t n).map .str) S := by
  have e := lcD_ma (S := S) (b := bName 7) (elt := g__law_names_e1) (env := [a, b, s, some (.str abc), some (.int (i : Nat)), some (.int (t : Nat)), some (.lst [.str "", .str "x", .str "qx", .str "qxqqx", .str "qxqxqxq", .str "xxqxqxq"]), none]) (fun k : Nat => D.int (0 + (k : Int))) (fun k => .str (nmW i t k)) (List.range n) (fun k hk => by
    have hk' : k < n := List.mem_range.mp hk
    refine ⟨_, rfl, ?_⟩
    have z0 : sz abc.length := sz_is (by decide +kernel)
    have s1 := sg_at (j := (i + 5 * k) % 26) (Nat.mod_lt _ (by decide))
    have s2 := tl_atW (j := (t + k * k) % 6) (Nat.mod_lt _ (by decide))
    have m1 : mulOk (5 : Int) (k : Int) := mulOk_l (by decide)
    have m2 : mulOk (k : Int) (k : Int) := mulOk_l (by omega)
    have e1 : ((i : Int) + 5 * (k : Int)) % 26 = (((i + 5 * k) % 26 : Nat) : Int) := by omega
    have e2 : ((t : Int) + (k : Int) * (k : Int)) % 6 = (((t + k * k) % 6 : Nat) : Int) := by
      rw [← Int.natCast_mul]; omega
    have z1 := sz_is (n := (sgs.getD ((i + 5 * k) % 26) "").length + (tlW.getD ((t + k * k) % 6) "").length) (by have := nmW_sz (i := i) (t := t) (k := k); omega)
    have hs : ∀ S, opIxX (.str abc) (.int (((i + 5 * k) % 26 : Nat) : Int)) S = .ok (.str (sgs.getD ((i + 5 * k) % 26) "")) S := fun S => by rw [opIxX_s, if_pos z0, s1]
    have ht : ∀ S, opIxX (.lst [.str "", .str "x", .str "qx", .str "qxqqx", .str "qxqxqxq", .str "xxqxqxq"]) (.int (((t + k * k) % 6 : Nat) : Int)) S = .ok (.str (tlW.getD ((t + k * k) % 6) "")) S := fun S => by rw [opIxX_l, s2]
    have k0 : (0 : Int) + (k : Int) = (k : Int) := Int.zero_add _
    have res : D.str (nmW i t k) = .str (sgs.getD ((i + 5 * k) % 26) "" ++ tlW.getD ((t + k * k) % 6) "") := rfl
    rw [res]
    generalize sgs.getD ((i + 5 * k) % 26) "" = x at *
    generalize tlW.getD ((t + k * k) % 6) "" = y at *
    generalize (D.lst [.str "", .str "x", .str "qx", .str "qxqqx", .str "qxqxqxq", .str "xxqxqxq"]) = T at *
    generalize (D.str abc) = A at *
    simp [g__law_names_e1, m1, m2, e1, e2, hs, ht, z1, k0, -Int.natCast_emod, -Int.natCast_add, -Int.natCast_mul]) (by simp; omega)
  have r1 : (List.range n).map (fun k : Nat => D.int (0 + (k : Int))) = rangeD 0 n := rfl
  have r2 : (List.range n).map (fun k => D.str (nmW i t k)) = (namesB i t n).map .str := by unfold namesB; rw [List.map_map]; rfl
  rw [r1, r2] at e
  exact e
theorem names_ok {c : Cell} {m n : Nat} (hn : n ≤ 26) (d : Drw c m) (hm : m ≤ 90000) : ∃ ns c', d__law_names [.loc 0, .int (n : Nat)] [c] = .ok (.lst (ns.map .str)) [c'] ∧ NamesN n ns ∧ Drw c' (m + 3) := by
  obtain ⟨x, c1, n1, x0, x1, d1⟩ := next1 26 d (by omega) (by decide) (by decide)
  obtain ⟨y, c2, n2, y0, y1, d2⟩ := next1 6 d1 (by omega) (by decide) (by decide)
  obtain ⟨z, c3, n3, z0, z1, d3⟩ := next1 4 d2 (by omega) (by decide) (by decide)
  obtain ⟨i, rfl⟩ := Int.eq_ofNat_of_zero_le x0
  obtain ⟨t, rfl⟩ := Int.eq_ofNat_of_zero_le y0
  have hi : i < 26 := by omega
  have ht : t < 6 := by omega
  have ty : ∀ s, tyD "str" [c] (.str s) = true := fun _ => rfl
  have ad := adW (S := [c])
  have sp := spW (c := c)
  have st : ∀ a b : D, startD 8 [a, b] = [some a, some b, none, none, none, none, none, none] := fun _ _ => rfl
  have ol : ownW.length = 26 := rfl
  have ty' : tyD "str" [c] (.str txW) = true := rfl
  by_cases hz : z = 0
  · subst hz
    refine ⟨namesA i n, c3, ?_, by rw [takeA hn]; exact (okN_is (okA i hi)).take hn, d3⟩
    have ad3 : opAdd (.lst ((ownW.drop i).map .str)) (.lst ((ownW.take i).map .str)) [c3] = .ok (.lst ((ownW.drop i ++ ownW.take i).map .str)) [c3] := by
      rw [opAdd_ll, if_pos (sz_is (by simp; omega)), List.map_append]
    have k1 : cutD (ownW.map D.str) (some (i : Int)) none = (ownW.drop i).map .str := by rw [cut_lo, List.map_drop]
    have k2 : cutD (ownW.map D.str) none (some (i : Int)) = (ownW.take i).map .str := by rw [cut_hi, List.map_take]
    have k3 : cutD ((ownW.drop i ++ ownW.take i).map D.str) none (some (n : Int)) = (namesA i n).map .str := by rw [cut_hi, namesA, List.map_take]
    have ex : exitD .keep [c] (.lst ((namesA i n).map .str)) [c3] = .ok (.lst ((namesA i n).map .str)) [c3] := rfl
    generalize (ownW.drop i ++ ownW.take i).map D.str = O3 at *
    generalize (ownW.drop i).map D.str = O1 at *
    generalize (ownW.take i).map D.str = O2 at *
    generalize ownW.map D.str = O at *
    generalize (namesA i n).map D.str = NA at *
    generalize (D.str txW) = TX at *
    simp [d__law_names, g__law_names, st, oSome, oNone, ty, ty', sp, ad, n1, n2, n3, k1, k2, ad3, k3, ex, -opAdd_ll, -opAdd_ss]
  · refine ⟨namesB i t n, c3, ?_, by rw [takeB hn]; exact (okN_is (okB i hi t ht)).take hn, d3⟩
    have lc := lc_names (S := [c3]) (i := i) (t := t) (n := n) (a := some (.loc 0)) (b := some (.int (n : Nat))) (s := some (.lst (ownW.map .str))) (w := none) hn
    have ex : exitD .keep [c] (.lst ((namesB i t n).map .str)) [c3] = .ok (.lst ((namesB i t n).map .str)) [c3] := rfl
    have rk : rOk (n : Int) := rOk_n (by omega)
    have ea : (Str.ofString "abcdefghijklmnopqrstuvwxyz") = abc := rfl
    have z6 : sz 6 := sz_is (by decide)
    generalize ownW.map D.str = O at *
    generalize (namesB i t n).map D.str = NA at *
    simp [d__law_names, g__law_names, st, oSome, oNone, ty, ty', sp, ad, n1, n2, n3, hz, rk, z6, ea, lc, ex, -opAdd_ll, -opAdd_ss]
end DW
end
section
/-! Things in a drawn order; races by their parts. -/
namespace DW
open PySem L2 DL DR
variable [DL.Nm]
variable {S : Store}
structure Dst (ds : List Str) : Prop where
  good : ∀ n ∈ ds, goodN n = true
  nd : ds.Nodup
  l1 : 1 ≤ ds.length
  l6 : ds.length ≤ 6
end DW
end
section
namespace DW
open PySem L2 DL DR
variable [DL.Nm]
variable {S : Store}
end DW
end
section
/-! like, of nice data -/
namespace DL
open PySem L2
variable [DL.Nm]
variable {S : Store}
structure SeqV (S : Store) (x : D) (t : Ty) (ds : List D) : Prop where
  ty : tyO S x = some (.b t)
  len : bLenX [x] S = .ok (.int ds.length) S
  ix : ∀ (i : Nat) d, ds[i]? = some d → opIxX x (.int (i : Int)) S = .ok d S
theorem seq_tup {ds : List D} (hl : ds.length ≤ 100000) : SeqV S (.tup ds) .tuple ds := by
  refine ⟨rfl, by simp, fun i d h => ?_⟩
  have e := atI_nat (xs := ds) (j := i) (v := d) h
  simp [e]
theorem seq_lst {ds : List D} (hl : ds.length ≤ 100000) : SeqV S (.lst ds) .list ds := by
  refine ⟨rfl, by simp, fun i d h => ?_⟩
  have e := atI_nat (xs := ds) (j := i) (v := d) h
  simp [e]
theorem like_seq (n : Nat) {x y : D} {t : Ty} {ds : List D} (vx : SeqV S x t ds) (vy : SeqV S y t ds) (ht : t = .tuple ∨ t = .list) (h : ∀ d ∈ ds, d__law_like_n n [d, d] S = .ok (.bl true) S) (hl : ds.length ≤ 100000) : d__law_like_n (n + 1) [x, y] S = .ok (.bl true) S := by
  have lc := lcD_fm (S := S) (b := bName 3) (tt := g__law_like_t1 (d__law_like_n n)) (elt := eVar 3) (env := [some x, some y, none, none, none]) (fun _ => false) id (rangeD 0 ds.length) [] (fun d hd => by
    obtain ⟨i, hi, he⟩ := List.getElem_of_mem hd
    have hg := range_get (lo := 0) (n := ds.length) (i := i) (d := d) (by rw [List.getElem?_eq_getElem hi, he])
    obtain ⟨h1, rfl⟩ := hg
    refine ⟨_, rfl, ?_, fun z => by cases z⟩
    have ex := vx.ix i ds[i] (List.getElem?_eq_getElem h1)
    have ey := vy.ix i ds[i] (List.getElem?_eq_getElem h1)
    have el := h ds[i] (List.getElem_mem h1)
    simp only [Int.zero_add] at *
    simp [g__law_like_t1, ex, ey, el]) (by simp; omega)
  have r1 : rOk (ds.length : Int) := rOk_n (by omega)
  have mi : minII (ds.length : Int) ds.length = ds.length := by unfold minII; simp
  simp only [filter_no, List.map_nil, List.nil_append] at lc
  have lx := vx.len
  have ly := vy.len
  have tx := vx.ty
  have ty := vy.ty
  show fnF .pure 5 (g__law_like (d__law_like_n n)) _ S = _
  generalize d__law_like_n n = r at lc ⊢
  rcases ht with rfl | rfl <;> simp [g__law_like, tx, ty, lx, ly, Ty.isa, mi, r1, lc, opEq_nil]
inductive Nice : Nat → D → Prop
  | non {k} : Nice k .non
  | bl {k b} : Nice k (.bl b)
  | int {k i} : Nice k (.int i)
  | str {k s} : Nice k (.str s)
  | tup {k ds} (h : ∀ d ∈ ds, Nice k d) (hl : ds.length ≤ 100000) : Nice (k + 1) (.tup ds)
  | lst {k ds} (h : ∀ d ∈ ds, Nice k d) (hl : ds.length ≤ 100000) : Nice (k + 1) (.lst ds)
theorem like_nice : ∀ {k : Nat} {d : D}, Nice k d → ∀ n, k < n → d__law_like_n n [d, d] S = .ok (.bl true) S
  | _, _, .non, 0, h => absurd h (Nat.not_lt_zero _)
  | _, _, .non, n + 1, _ => by simp [d__law_like_n, g__law_like, Ty.isa]
  | _, _, .bl, 0, h => absurd h (Nat.not_lt_zero _)
  | _, _, .bl, n + 1, _ => by simp [d__law_like_n, g__law_like, Ty.isa]
  | _, _, .int, 0, h => absurd h (Nat.not_lt_zero _)
  | _, _, .int, n + 1, _ => by simp [d__law_like_n, g__law_like, Ty.isa]
  | _, _, .str, 0, h => absurd h (Nat.not_lt_zero _)
  | _, _, .str, n + 1, _ => by simp [d__law_like_n, g__law_like, Ty.isa]
  | _, _, .tup _ _, 0, h => absurd h (Nat.not_lt_zero _)
  | _, _, .tup h hl, n + 1, hn => like_seq n (seq_tup hl) (seq_tup hl) (.inl rfl) (fun d hd => like_nice (h d hd) n (by omega)) hl
  | _, _, .lst _ _, 0, h => absurd h (Nat.not_lt_zero _)
  | _, _, .lst h hl, n + 1, hn => like_seq n (seq_lst hl) (seq_lst hl) (.inr rfl) (fun d hd => like_nice (h d hd) n (by omega)) hl
theorem like_ok {k : Nat} {d : D} (h : Nice k d) (hk : k < 12 := by decide) : d__law_like [d, d] S = .ok (.bl true) S := like_nice h 12 hk
end DL
end
section
/-! Signs and parts of a text; the text behind a stroke. -/
namespace DX
open PySem L2 DL PySem.NumText
variable [DL.Nm]
variable {S : Store} {x : Str} {a : Nat}
def sg (c : Nat) : Str := ⟨#[c]⟩
theorem cp_sg {c : Nat} : cp (sg c) = [c] := rfl
theorem sg_mk {c : Nat} : mkS [c] = sg c := rfl
theorem st_at {c : Nat} {r : List Nat} (h : (cp x).drop a = c :: r) : strAt x (a : Int) = some (.str (sg c)) := by
  have e : (cp x)[a]? = some c := by rw [← List.head?_drop, h]; rfl
  unfold strAt
  rw [atI_nat e]
  rfl
theorem st_at1 {c : Nat} {r : List Nat} (h : (cp x).drop (a + 1) = c :: r) : strAt x ((a : Int) + 1) = some (.str (sg c)) := st_at (a := a + 1) h
theorem sl_gen {b : Nat} (hx : x.length ≤ 10000000) (k : Nat) (hb : b = a + k) : slDS (.str x) (some (a : Int)) (some (b : Int)) S = .ok (.str (mkS (((cp x).drop a).take k))) S := by
  subst hb
  rw [slDS_s, if_pos (show sz x.length from by show x.length ≤ 16777216; omega)]
  have e : cutS x (some (a : Int)) (some ((a + k : Nat) : Int)) = mkS (((cp x).drop a).take k) := by
    unfold cutS mkS
    rw [HT.sIx_nat, HT.sIx_nat]
    congr 2
    have hl : x.cps.toList.length = x.length := Array.length_toList
    by_cases q : a ≤ x.length
    · rw [Nat.min_eq_left q]
      show List.take _ (List.drop a x.cps.toList) = List.take k (List.drop a x.cps.toList)
      rw [List.take_eq_take_iff]
      rw [List.length_drop, hl]
      omega
    · rw [List.drop_eq_nil_of_le (by rw [hl]; omega), show List.drop a (cp x) = [] from List.drop_eq_nil_of_le (by rw [cp_len]; omega)]
      simp
  rw [e]
theorem sl1 (hx : x.length ≤ 10000000) : slDS (.str x) (some (a : Int)) (some ((a : Int) + 1)) S = .ok (.str (mkS (((cp x).drop a).take 1))) S := sl_gen (b := a + 1) hx 1 rfl
theorem sl2 (hx : x.length ≤ 10000000) : slDS (.str x) (some (a : Int)) (some ((a : Int) + 2)) S = .ok (.str (mkS (((cp x).drop a).take 2))) S := sl_gen (b := a + 2) hx 2 rfl
theorem sl4 (hx : x.length ≤ 10000000) : slDS (.str x) (some (a : Int)) (some ((a : Int) + 4)) S = .ok (.str (mkS (((cp x).drop a).take 4))) S := sl_gen (b := a + 4) hx 4 rfl
theorem sl12 (hx : x.length ≤ 10000000) : slDS (.str x) (some ((a : Int) + 1)) (some ((a : Int) + 2)) S = .ok (.str (mkS (((cp x).drop (a + 1)).take 1))) S := sl_gen (a := a + 1) (b := a + 2) hx 1 rfl
theorem mk_eq {l : List Nat} {y : Str} : decide (mkS l = y) = decide (l = cp y) := by
  by_cases h : l = cp y
  · rw [decide_eq_true h, decide_eq_true (by rw [h, mk_cp])]
  · rw [decide_eq_false h, decide_eq_false (fun z => h (by rw [← z, cp_mk]))]
theorem sg_eq {c d : Nat} : decide (sg c = sg d) = decide (c = d) := by
  by_cases h : c = d
  · rw [decide_eq_true h, decide_eq_true (by rw [h])]
  · rw [decide_eq_false h, decide_eq_false (fun z => h (by have := congrArg cp z; simpa [cp_sg] using this))]
theorem take1 {l : List Nat} {c : Nat} : decide (l.take 1 = [c]) = decide (l.head? = some c) := by
  cases l with
  | nil => simp
  | cons d l => simp
theorem q34 : ("\"" : Str) = sg 34 := by decide +kernel
theorem q92 : ("\\" : Str) = sg 92 := by decide +kernel
theorem q40 : ("(" : Str) = sg 40 := by decide +kernel
theorem q41 : (")" : Str) = sg 41 := by decide +kernel
theorem q45 : ("-" : Str) = sg 45 := by decide +kernel
theorem q32 : (" " : Str) = sg 32 := by decide +kernel
theorem q126 : ("~" : Str) = sg 126 := by decide +kernel
theorem qe : ("" : Str) = mkS [] := by decide +kernel
theorem qn : ("none" : Str) = mkS [110, 111, 110, 101] := by decide +kernel
theorem q44 : (", " : Str) = mkS [44, 32] := by decide +kernel
theorem notin_two {l : List Nat} : opNotIn (.str (mkS l)) (.tup [.str "\"", .str "\\"]) S = .ok (.bl (!(decide (l = [34]) || decide (l = [92])))) S := by
  rw [opNotIn_tt]
  show (if (flatD (.str (mkS l)) && [D.str "\"", D.str "\\"].all flatD) = true then ER.ok (D.bl (!(eqF (.str "\"") (.str (mkS l)) || (eqF (.str "\\") (.str (mkS l)) || false)))) S else _) = _
  rw [if_pos (show (flatD (.str (mkS l)) && [D.str "\"", D.str "\\"].all flatD) = true from rfl)]
  have e : ∀ u : Str, eqF (.str u) (.str (mkS l)) = decide (l = cp u) := fun u => by
    show decide (u = mkS l) = _
    rw [← mk_eq]
    exact decide_eq_decide.mpr ⟨fun z => z.symm, fun z => z.symm⟩
  rw [e, e, Bool.or_false, q34, q92, cp_sg, cp_sg]
theorem le_sg {c d : Nat} : opLeS (.str (sg c)) (.str (sg d)) S = .ok (.bl (decide (c ≤ d))) S := by
  rw [opLeS_s]
  congr 2
  show (!decide ([d] < [c])) = _
  by_cases h : c ≤ d
  · rw [decide_eq_true h, decide_eq_false (by simp [List.cons_lt_cons_iff]; omega)]; rfl
  · rw [decide_eq_false h, decide_eq_true (by simp [List.cons_lt_cons_iff]; omega)]; rfl
end DX
end
section
/-! text_from -/
namespace DX
open PySem L2 DL PySem.NumText
variable [DL.Nm]
variable {S : Store} {x : Str}
abbrev sD (c : Nat) : D := .str (sg c)
/-- the state of text_from's loop -/
abbrev tE (x : Str) (a l : Nat) : EnvD := [some (.str x), some (.int (a : Int)), some (.loc l)]
abbrev tS (S : Store) (f : List Nat) : Store := S ++ [.lst (f.map sD)]
theorem tS_at {f : List Nat} : (tS S f)[S.length]? = some (.lst (f.map sD)) := by simp [tS]
theorem app_at {f : List Nat} {c : Nat} (hf : f.length < 10000000) : mAppend (.loc S.length) [sD c] (tS S f) = .ok .non (tS S (f ++ [c])) := by
  unfold mAppend
  simp [cellL, tS, sz_is (show f.length + 1 ≤ 16777216 by omega)]
theorem tail_drop {t : List Nat} {a : Nat} {c : Nat} {r : List Nat} (h : t.drop a = c :: r) : t.drop (a + 1) = r := by
  rw [← List.drop_drop, h]; rfl
def wOut (S : Store) (x : Str) (f : List Nat) : Option (List Nat × List Nat) → SR → Prop
  | some (s, r), q => q = .nx (tE x (x.length - (r.length + 1)) S.length) (tS S (f ++ s))
  | none, q => (∃ f', q = .rt .non (tS S f')) ∨ ∃ f', q = .nx (tE x x.length S.length) (tS S f')
theorem cond_ge {a : Nat} {f : List Nat} (hx : x.length ≤ 10000000) (h : a = x.length) : g_text_from_c1 (tE x a S.length) (tS S f) = .ok (.bl false) (tS S f) := by
  subst h
  unfold g_text_from_c1
  simp [sz_is (show x.length ≤ 16777216 by omega)]
theorem cond_lt {a : Nat} {f : List Nat} {c : Nat} {r : List Nat} (hx : x.length ≤ 10000000) (h : (cp x).drop a = c :: r) : g_text_from_c1 (tE x a S.length) (tS S f) = .ok (.bl (!decide (c = 34))) (tS S f) := by
  have hl : a < x.length := by
    rw [← cp_len]
    have := congrArg List.length h
    simp only [List.length_drop, List.length_cons] at this
    omega
  have e := st_at h
  unfold g_text_from_c1
  simp [sz_is (show x.length ≤ 16777216 by omega), e, hl, q34, sg_eq]
theorem body_ok {a : Nat} {f : List Nat} {c : Nat} {r : List Nat} (hx : x.length ≤ 10000000) (h : (cp x).drop a = c :: r) (h34 : c ≠ 34) (h92 : c ≠ 92) (hf : f.length < 10000000) :
    g_text_from_b1 (tE x a S.length) (tS S f) = if 32 ≤ c ∧ c ≤ 126 then .nx (tE x (a + 1) S.length) (tS S (f ++ [c])) else .rt .non (tS S f) := by
  have e := st_at h
  have z := sz_is (show x.length ≤ 16777216 by omega)
  have e92 : decide (sg c = sg 92) = false := by rw [sg_eq]; exact decide_eq_false h92
  have l1 := le_sg (S := tS S f) (c := 32) (d := c)
  have l2 := le_sg (S := tS S f) (c := c) (d := 126)
  have ap := app_at (S := S) (c := c) hf
  have zf := sz_is (show f.length + 1 ≤ 16777216 by omega)
  unfold g_text_from_b1
  by_cases p1 : 32 ≤ c
  · by_cases p2 : c ≤ 126
    · simp [-opLeS_s, e, z, q92, e92, q32, q126, l1, l2, p1, p2, ap, zf, tS]
    · simp [-opLeS_s, e, z, q92, e92, q32, q126, l1, l2, p1, p2, ap]
  · simp [-opLeS_s, e, z, q92, e92, q32, q126, l1, l2, p1, ap]
theorem body_esc {a : Nat} {f : List Nat} {d : Nat} {r : List Nat} (hx : x.length ≤ 10000000) (h : (cp x).drop a = 92 :: d :: r) (hf : f.length < 10000000) :
    g_text_from_b1 (tE x a S.length) (tS S f) = if d = 34 ∨ d = 92 then .nx (tE x (a + 2) S.length) (tS S (f ++ [d])) else .rt .non (tS S f) := by
  have e := st_at h
  have h1 := tail_drop h
  have e1 := st_at1 h1
  have sl := sl12 (S := tS S f) (a := a) hx
  rw [h1] at sl
  have z := sz_is (show x.length ≤ 16777216 by omega)
  have ni := notin_two (S := tS S f) (l := [d])
  have l1 := le_sg (S := tS S f) (c := 32) (d := d)
  have l2 := le_sg (S := tS S f) (c := d) (d := 126)
  have ap := app_at (S := S) (c := d) hf
  have i2 : (a : Int) + 1 + 1 = ((a + 2 : Nat) : Int) := by omega
  have sl' : slDS (.str x) (some ((a : Int) + 1)) (some ((a : Int) + 1 + 1)) (tS S f) = .ok (.str (mkS [d])) (tS S f) := by
    have : (a : Int) + 1 + 1 = (a : Int) + 2 := by omega
    rw [this]; simpa using sl
  have zf := sz_is (show f.length + 1 ≤ 16777216 by omega)
  have t92 : decide (sg 92 = sg 92) = true := decide_eq_true rfl
  unfold g_text_from_b1
  by_cases q : d = 34 ∨ d = 92
  · have p1 : 32 ≤ d := by omega
    have p2 : d ≤ 126 := by omega
    have n1 : (!(decide ([d] = [34]) || decide ([d] = [92]))) = false := by
      rcases q with rfl | rfl <;> rfl
    rw [n1, q34, q92] at ni
    rw [if_pos q]
    simp [-opLeS_s, e, e1, z, q34, q92, t92, q32, q126, l1, l2, p1, p2, ap, eSliceS_is, oSome, -opNotIn_tt, sl', ni, zf, tS]
    try omega
  · have n1 : (!(decide ([d] = [34]) || decide ([d] = [92]))) = true := by
      have h1 : ¬ d = 34 := fun z => q (.inl z)
      have h2 : ¬ d = 92 := fun z => q (.inr z)
      simp [h1, h2]
    rw [n1, q34, q92] at ni
    rw [if_neg q]
    simp [-opLeS_s, e, e1, z, q34, q92, t92, eSliceS_is, oSome, -opNotIn_tt, sl', ni]
theorem body_esc0 {a : Nat} {f : List Nat} (hx : x.length ≤ 10000000) (h : (cp x).drop a = [92]) :
    g_text_from_b1 (tE x a S.length) (tS S f) = .rt .non (tS S f) := by
  have e := st_at h
  have h1 := tail_drop h
  have sl := sl12 (S := tS S f) (a := a) hx
  rw [h1] at sl
  have z := sz_is (show x.length ≤ 16777216 by omega)
  have ni := notin_two (S := tS S f) (l := [])
  have sl' : slDS (.str x) (some ((a : Int) + 1)) (some ((a : Int) + 1 + 1)) (tS S f) = .ok (.str (mkS [])) (tS S f) := by
    have : (a : Int) + 1 + 1 = (a : Int) + 2 := by omega
    rw [this]; simpa using sl
  have t92 : decide (sg 92 = sg 92) = true := decide_eq_true rfl
  rw [show (!(decide (([] : List Nat) = [34]) || decide (([] : List Nat) = [92]))) = true from rfl, q34, q92] at ni
  unfold g_text_from_b1
  simp [-opLeS_s, e, z, q34, q92, t92, eSliceS_is, oSome, -opNotIn_tt, sl', ni]
theorem word_loop (hx : x.length ≤ 10000000) : ∀ (t : List Nat) (a : Nat) (f : List Nat) (n : Nat), (cp x).drop a = t → a + t.length = x.length → f.length + t.length < 10000000 → t.length < n →
    wOut S x f (rdWord t) (whileD g_text_from_c1 g_text_from_b1 n (tE x a S.length) (tS S f))
  | [], a, f, n, h, ha, hf, hn => by
    obtain ⟨n, rfl⟩ : ∃ m, n = m + 1 := ⟨n - 1, by omega⟩
    simp at ha
    rw [whileD_succ, cond_ge hx ha]
    exact .inr ⟨f, by rw [ha]⟩
  | [c], a, f, n, h, ha, hf, hn => by
    obtain ⟨n, rfl⟩ : ∃ m, n = m + 1 := ⟨n - 1, by omega⟩
    simp at ha hn hf
    rw [whileD_succ, cond_lt hx h]
    unfold rdWord
    by_cases q : c = 34
    · rw [if_pos q, decide_eq_true q]
      show _ = _
      simp only [Bool.not_true, List.length_nil, List.append_nil]
      rw [← ha]; rfl
    · rw [if_neg q, decide_eq_false q]
      have fin : ∀ g, wOut S x f none (whileD g_text_from_c1 g_text_from_b1 n (tE x (a + 1) S.length) (tS S g)) := fun g => by
        obtain ⟨n, rfl⟩ : ∃ m, n = m + 1 := ⟨n - 1, by omega⟩
        rw [whileD_succ, cond_ge hx ha]
        exact .inr ⟨g, by rw [ha]⟩
      by_cases q2 : c = 92
      · subst q2
        simp only [Bool.not_false, body_esc0 hx h]
        exact .inl ⟨f, rfl⟩
      · simp only [Bool.not_false, body_ok hx h q q2 (show f.length < 10000000 by omega)]
        by_cases q3 : 32 ≤ c ∧ c ≤ 126
        · rw [if_pos q3]; exact fin _
        · rw [if_neg q3]; exact .inl ⟨f, rfl⟩
  | c :: d :: r, a, f, n, h, ha, hf, hn => by
    obtain ⟨n, rfl⟩ : ∃ m, n = m + 1 := ⟨n - 1, by omega⟩
    simp only [List.length_cons] at ha hn hf
    rw [whileD_succ, cond_lt hx h]
    have h1 := tail_drop h
    have h2 := tail_drop h1
    have step : ∀ (e : Nat) (u : Option (List Nat × List Nat)) (q : SR), wOut S x (f ++ [e]) u q → wOut S x f (u.map (pre e)) q := fun e u q w => by
      cases u with
      | none => exact w
      | some p => obtain ⟨s, r⟩ := p; simpa [wOut, pre] using w
    unfold rdWord
    by_cases q : c = 34
    · rw [if_pos q, decide_eq_true q]
      show _ = _
      simp only [Bool.not_true, List.length_cons, List.append_nil]
      rw [← ha, show a + (r.length + 1 + 1) - (r.length + 1 + 1) = a by omega]
    · rw [if_neg q, decide_eq_false q]
      by_cases q2 : c = 92
      · subst q2
        rw [if_pos rfl]
        simp only [Bool.not_false, body_esc hx h (by omega : f.length < 10000000)]
        by_cases q3 : d = 34 ∨ d = 92
        · rw [if_pos q3, if_pos q3]
          exact step d _ _ (word_loop hx r (a + 2) (f ++ [d]) n h2 (by omega) (by simp; omega) (by omega))
        · rw [if_neg q3, if_neg q3]; exact .inl ⟨f, rfl⟩
      · rw [if_neg q2]
        simp only [Bool.not_false, body_ok hx h q q2 (show f.length < 10000000 by omega)]
        by_cases q3 : 32 ≤ c ∧ c ≤ 126
        · rw [if_pos q3, if_pos q3]
          exact step c _ _ (word_loop hx (d :: r) (a + 1) (f ++ [c]) n h1 (by simp; omega) (by simp; omega) (by simp; omega))
        · rw [if_neg q3, if_neg q3]; exact .inl ⟨f, rfl⟩
theorem rdWord_len : ∀ {t s r : List Nat}, rdWord t = some (s, r) → s.length + r.length < t.length
  | [], s, r, h => by cases h
  | [c], s, r, h => by
    unfold rdWord at h
    split at h
    · cases h; simp
    · cases h
  | c :: d :: u, s, r, h => by
    unfold rdWord at h
    split at h
    · cases h; simp
    · split at h
      · split at h
        · obtain ⟨⟨s', r'⟩, e, q⟩ := Option.map_eq_some_iff.mp h
          have := rdWord_len e
          cases q
          simp; omega
        · cases h
      · split at h
        · obtain ⟨⟨s', r'⟩, e, q⟩ := Option.map_eq_some_iff.mp h
          have := rdWord_len e
          cases q
          simp at this ⊢; omega
        · cases h
theorem join_sg (s : List Nat) : Txt.join "" (s.map sg) = mkS s := by
  refine cp_inj ?_
  rw [TL.join_eq]
  have e := TL.tl_join "" (s.map sg)
  rw [cp_mk]
  refine e.trans ?_
  have : ∀ l : List Nat, TL.joinL (TL.tl "") ((l.map sg).map TL.tl) = l := fun l => by
    induction l with
    | nil => rfl
    | cons c l ih =>
      cases l with
      | nil => rfl
      | cons d l =>
        show [c] ++ (TL.tl "" ++ TL.joinL (TL.tl "") (((d :: l).map sg).map TL.tl)) = _
        rw [ih]; rfl
  exact this s
theorem exit_dat {m : Store} {d : D} (h : ∀ ρ, frzD ρ d = some d) : exitD .pure S d (S ++ m) = .ok d S := exit_of (h _) (by simp)
def wD (x : Str) : Option (List Nat × List Nat) → D
  | some (s, r) => .tup [.str (mkS s), .int ((x.length - r.length : Nat) : Int)]
  | none => .non
theorem text_ok {a : Nat} (hx : x.length ≤ 1000000) (ha : a + 1 ≤ x.length) : d_text_from [.str x, .int (a : Int)] S = .ok (wD x (rdWord ((cp x).drop (a + 1)))) S := by
  have hl : ((cp x).drop (a + 1)).length = x.length - (a + 1) := by rw [List.length_drop, cp_len]
  have w := word_loop (S := S) (show x.length ≤ 10000000 by omega) _ (a + 1) [] bigN rfl (by rw [hl]; omega) (by rw [hl]; simp; omega) (by rw [hl]; unfold bigN; omega)
  have zx := sz_is (show x.length ≤ 16777216 by omega)
  have i1 : (a : Int) + 1 = ((a + 1 : Nat) : Int) := rfl
  have w' : whileD g_text_from_c1 g_text_from_b1 bigN [some (.str x), some (.int ((a : Int) + 1)), some (.loc S.length)] (S ++ [.lst []]) = whileD g_text_from_c1 g_text_from_b1 bigN (tE x (a + 1) S.length) (tS S []) := rfl
  cases hr : rdWord ((cp x).drop (a + 1)) with
  | none =>
    rw [hr] at w
    rcases w with ⟨f', hw⟩ | ⟨f', hw⟩
    · refine fnRt (d := .non) (S' := tS S f') ?_ (exit_dat (m := [.lst (f'.map sD)]) (fun _ => rfl))
      unfold g_text_from
      simp [startD_c, startD_n, w', hw]
    · refine fnRt (d := .non) (S' := tS S f') ?_ (exit_dat (m := [.lst (f'.map sD)]) (fun _ => rfl))
      unfold g_text_from
      simp [startD_c, startD_n, w', hw, zx]
  | some p =>
    obtain ⟨s, r⟩ := p
    rw [hr] at w
    have q := rdWord_len hr
    rw [hl] at q
    have hs : ((s.map sg).map (·.length)).sum + (s.map sg).length * ("" : Str).length ≤ 16777216 := by
      have e : ∀ l : List Nat, ((l.map sg).map (·.length)).sum = l.length := fun l => by
        induction l with
        | nil => rfl
        | cons c l ih => simp only [List.map_cons, List.sum_cons, ih, List.length_cons]; rw [show (sg c).length = 1 from rfl]; omega
      rw [e, show ("" : Str).length = 0 from rfl]; omega
    have j := mJoin_c (S := tS S s) (a := "") (ys := s.map sg) (l := S.length) (by rw [tS_at]; simp [sD, List.map_map, Function.comp_def]) hs
    rw [join_sg] at j
    have jt : tyD "str" (tS S s) (.str "") = true := rfl
    have hlt : ((x.length - (r.length + 1) : Nat) : Int) < (x.length : Int) := by omega
    have hi : ((x.length - (r.length + 1) : Nat) : Int) + 1 = ((x.length - r.length : Nat) : Int) := by omega
    simp only [wOut, List.nil_append] at w
    refine fnRt (d := wD x (some (s, r))) (S' := tS S s) ?_ (exit_dat (m := [.lst (s.map sD)]) (fun _ => rfl))
    unfold g_text_from
    simp [startD_c, startD_n, w', w, zx, hlt, j, jt, wD, hi]
end DX
end
section
/-! number_from -/
namespace DX
open PySem L2 DL PySem.NumText
variable [DL.Nm]
variable {S : Store} {x : Str}
theorem figs_cps : cp "0123456789" = [48, 49, 50, 51, 52, 53, 54, 55, 56, 57] := by decide +kernel
theorem in_figs {c : Nat} : opIn (.str (sg c)) (.str "0123456789") S = .ok (.bl (isDig c)) S := by
  have e : opIn (.str (sg c)) (.str "0123456789") S = .ok (.bl (decide (c ∈ cp "0123456789"))) S := rfl
  rw [e, figs_cps]
  congr 2
  unfold isDig
  refine decide_eq_decide.mpr ?_
  simp
  omega
abbrev nE (x : Str) (a e : Nat) : EnvD := [some (.str x), some (.int (a : Int)), some (.int (e : Int)), none, none]
theorem num_loop (hx : x.length ≤ 10000000) {a : Nat} : ∀ (t : List Nat) (e n : Nat), (cp x).drop e = t → e + t.length = x.length → t.length < n →
    whileD g_number_from_c1 g_number_from_b1 n (nE x a e) S = .nx (nE x a (e + (t.takeWhile isDig).length)) S
  | [], e, n, h, hl, hn => by
    obtain ⟨n, rfl⟩ : ∃ m, n = m + 1 := ⟨n - 1, by omega⟩
    simp at hl
    rw [whileD_succ]
    have c : g_number_from_c1 (nE x a e) S = .ok (.bl false) S := by
      unfold g_number_from_c1
      simp [sz_is (show x.length ≤ 16777216 by omega), hl]
    rw [c]; rfl
  | c :: r, e, n, h, hl, hn => by
    obtain ⟨n, rfl⟩ : ∃ m, n = m + 1 := ⟨n - 1, by omega⟩
    simp only [List.length_cons] at hl hn
    have i := st_at h
    have f := in_figs (S := S) (c := c)
    have hlt : e < x.length := by omega
    rw [whileD_succ]
    have cc : g_number_from_c1 (nE x a e) S = .ok (.bl (isDig c)) S := by
      unfold g_number_from_c1
      simp [sz_is (show x.length ≤ 16777216 by omega), hlt, i, f]
    have b : g_number_from_b1 (nE x a e) S = .nx (nE x a (e + 1)) S := by
      unfold g_number_from_b1
      simp
    rw [cc, List.takeWhile_cons]
    cases hd : isDig c with
    | false => rfl
    | true =>
      dsimp only
      rw [b]
      dsimp only
      rw [num_loop hx r (e + 1) n (tail_drop h) (by omega) (by omega)]
      simp [Nat.add_assoc, Nat.add_comm 1]
theorem lstrip_minus (l : List Nat) : Txt.lstripChars (mkS l) "-" = mkS (l.dropWhile (· == 45)) := by
  have g : ∀ c : Nat, ("-" : Str).cps.contains c = (c == 45) := fun c => by
    have e : ("-" : Str).cps = #[45] := by decide +kernel
    rw [e]
    simp [Bool.beq_eq_decide_eq]
    
  unfold Txt.lstripChars
  rw [PySem.W.stripBy_eq]
  have g' : (fun c => ("-" : Str).cps.contains c) = (fun c : Nat => c == 45) := funext g
  rw [show ("-" : Str).cps.contains = (fun c : Nat => c == 45) from g']
  refine cp_inj ?_
  rw [cp_mk]
  unfold PySem.W.stripped
  show (Builtin.Str.strSub (mkS l) _ _).cps.toList = _
  rw [PySem.StrLaws.strSub_toList]
  show List.take _ (List.drop _ (cp (mkS l))) = _
  rw [if_pos rfl, if_neg (by decide)]
  show List.take ((mkS l).length - _) (List.drop (List.takeWhile _ (cp (mkS l))).length (cp (mkS l))) = _
  rw [cp_mk, mk_len]
  have e := List.takeWhile_append_dropWhile (p := fun c : Nat => c == 45) (l := l)
  have d : List.drop (List.takeWhile (fun c : Nat => c == 45) l).length l = l.dropWhile (fun c : Nat => c == 45) := by
    conv => lhs; rw [← e]; 
    rw [e]
    conv => lhs; arg 2; rw [← e]
    exact List.drop_left
  rw [d]
  refine List.take_of_length_le ?_
  have := congrArg List.length e
  rw [List.length_append] at this
  rw [show (mkS l).cps.toList = l from cp_mk]
  omega
theorem tw_all {p : Nat → Bool} : ∀ (l : List Nat), ∀ c ∈ l.takeWhile p, p c = true
  | [], c, h => by simp at h
  | d :: l, c, h => by
    rw [List.takeWhile_cons] at h
    split at h
    · rename_i hd
      rcases List.mem_cons.mp h with rfl | h
      · exact hd
      · exact tw_all l c h
    · simp at h
theorem drop_dig {l : List Nat} (h : ∀ c ∈ l, isDig c = true) : l.dropWhile (· == 45) = l := by
  cases l with
  | nil => rfl
  | cons c l =>
    have := h c (by simp)
    unfold isDig at this
    rw [List.dropWhile_cons, if_neg]
    simp at this ⊢
    omega
theorem take_tw {p : Nat → Bool} (l : List Nat) : l.take (l.takeWhile p).length = l.takeWhile p := by
  have e := List.takeWhile_append_dropWhile (p := p) (l := l)
  conv => lhs; arg 2; rw [← e]
  exact List.take_left
theorem figs_dig {t : List Nat} : ∀ c ∈ figs t, isDig c = true := fun c hc => by
  unfold figs at hc
  exact tw_all _ c hc
def numW (t : List Nat) : List Nat := if isNeg t then 45 :: figs t else figs t
theorem numW_take {t : List Nat} : t.take ((if isNeg t then 1 else 0) + (figs t).length) = numW t := by
  unfold numW figs afterS
  by_cases h : isNeg t = true
  · rw [if_pos h, if_pos h, if_pos h]
    cases t with
    | nil => exact absurd h (by decide)
    | cons c r =>
      have : c = 45 := by simpa [isNeg] using h
      subst this
      rw [Nat.add_comm, List.take_succ_cons]
      exact congrArg _ (take_tw r)
  · rw [if_neg h, if_neg h, if_neg h, Nat.zero_add]
    exact take_tw t
theorem numW_strip {t : List Nat} : (numW t).dropWhile (· == 45) = figs t := by
  unfold numW
  by_cases h : isNeg t = true
  · rw [if_pos h, List.dropWhile_cons, if_pos (by rfl)]
    exact drop_dig figs_dig
  · rw [if_neg h]; exact drop_dig figs_dig
theorem allD {l : List Nat} (h : ∀ c ∈ l, isDig c = true) : AllDigits l := fun c hc => by
  have := h c hc
  unfold isDig at this
  simpa using this
theorem int_numW {t : List Nat} (h0 : figs t ≠ []) (h4 : (figs t).length ≤ 400) : PySem.intText? (mkS (numW t)) = some (if isNeg t then -((digitsVal (figs t) : Nat) : Int) else ((digitsVal (figs t) : Nat) : Int)) := by
  by_cases h : isNeg t = true
  · rw [if_pos h]
    have e : numW t = 45 :: figs t := by unfold numW; rw [if_pos h]
    exact intText_neg (x := mkS (numW t)) (cs := figs t) (by rw [e]; exact cp_mk) (allD figs_dig) h0 (by rw [mk_len, e]; simp; omega)
  · rw [if_neg h]
    have e : numW t = figs t := by unfold numW; rw [if_neg h]
    have q := intText_digits (x := mkS (numW t)) (by show AllDigits (cp (mkS (numW t))); rw [cp_mk, e]; exact allD figs_dig) (by show cp (mkS (numW t)) ≠ []; rw [cp_mk, e]; exact h0) (by rw [mk_len, e]; omega)
    rw [q]
    show some ((digitsVal (cp (mkS (numW t))) : Nat) : Int) = _
    rw [cp_mk, e]
def nD (x : Str) : Option (Int × List Nat) → D
  | some (i, r) => .tup [.int i, .int ((x.length - r.length : Nat) : Int)]
  | none => .non
theorem number_ok {a : Nat} (hx : x.length ≤ 1000000) (ha : a ≤ x.length) : d_number_from [.str x, .int (a : Int)] S = .ok (nD x (rdNum ((cp x).drop a))) S := by
  have hx' : x.length ≤ 10000000 := by omega
  have zx := sz_is (show x.length ≤ 16777216 by omega)
  generalize ht : (cp x).drop a = t
  have hlt : t.length = x.length - a := by rw [← ht, List.length_drop, cp_len]
  have s1 := sl1 (S := S) (a := a) hx'
  rw [ht] at s1
  have dn : decide (mkS (t.take 1) = sg 45) = isNeg t := by rw [mk_eq, cp_sg, take1]; rfl
  have h1 : (sAsg (eIf (eOp opEq (eSliceS (eVar 0) (oSome (eVar 1)) (oSome (eOp opAdd (eVar 1) (eC (.int 1))))) (eC (.str "-"))) (eOp opAdd (eVar 1) (eC (.int 1))) (eVar 1)) (bName 2)) [some (.str x), some (.int (a : Int)), none, none, none] S = .nx (nE x a (a + if isNeg t then 1 else 0)) S := by
    cases hn : isNeg t with
    | true => rw [hn] at dn; simp [eSliceS_is, oSome, s1, q45, dn]
    | false => rw [hn] at dn; simp [eSliceS_is, oSome, s1, q45, dn]
  have hneg1 : isNeg t = true → 1 ≤ t.length := fun h => by
    cases t with
    | nil => exact absurd h (by decide)
    | cons c r => simp
  have hdrop : (cp x).drop (a + if isNeg t then 1 else 0) = afterS t := by
    rw [← List.drop_drop, ht]
    unfold afterS
    by_cases h : isNeg t = true
    · rw [if_pos h, if_pos h]; cases t <;> rfl
    · rw [if_neg h, if_neg h]; rfl
  have hla : (a + if isNeg t then 1 else 0) + (afterS t).length = x.length := by
    rw [← hdrop, List.length_drop, cp_len]
    by_cases h : isNeg t = true
    · have := hneg1 h; rw [if_pos h]; omega
    · rw [if_neg h]; omega
  have h2 := num_loop (S := S) hx' (a := a) (afterS t) _ bigN hdrop hla (by unfold bigN; omega)
  have he : (a + if isNeg t then 1 else 0) + ((afterS t).takeWhile isDig).length = a + ((if isNeg t then 1 else 0) + (figs t).length) := by unfold figs; omega
  rw [he] at h2
  have h3 := sl_gen (S := S) (x := x) (a := a) hx' ((if isNeg t then 1 else 0) + (figs t).length) rfl
  rw [ht, numW_take] at h3
  have hfl : (figs t).length ≤ (afterS t).length := (List.takeWhile_sublist _).length_le
  have hwl : (numW t).length ≤ 1000000 := by
    unfold numW
    by_cases h : isNeg t = true
    · rw [if_pos h] at *; simp; omega
    · rw [if_neg h] at *; omega
  have h4 : mLstrip (.str (mkS (numW t))) [.str "-"] S = .ok (.str (mkS (figs t))) S := by
    rw [mLstrip_s, if_pos (by rw [mk_len]; omega), lstrip_minus, numW_strip]
  have hrest : ((afterS t).drop (figs t).length).length = x.length - (a + ((if isNeg t then 1 else 0) + (figs t).length)) := by
    rw [List.length_drop]; omega
  have hle : a + ((if isNeg t then 1 else 0) + (figs t).length) ≤ x.length := by omega
  generalize a + ((if isNeg t then 1 else 0) + (figs t).length) = e at h2 h3 hrest hle
  have R : nD x (rdNum t) = if numBad (isNeg t) (figs t) = true then .non else .tup [.int (if isNeg t then -((digitsVal (figs t) : Nat) : Int) else ((digitsVal (figs t) : Nat) : Int)), .int (e : Int)] := by
    unfold rdNum
    split
    · rfl
    · show D.tup [_, .int ((x.length - ((afterS t).drop (figs t).length).length : Nat) : Int)] = _
      rw [hrest, show x.length - (x.length - e) = e by omega]
  refine fnRt (d := nD x (rdNum t)) (S' := S) ?_ (exit_same (by rw [R]; split <;> rfl))
  unfold g_number_from
  rw [show startD 5 [D.str x, D.int (a : Int)] = [some (.str x), some (.int (a : Int)), none, none, none] from by simp [startD_c, startD_n]]
  refine stN h1 (stN (show (sWhile _ _) _ _ = _ from h2) ?_)
  refine stN (e := [some (.str x), some (.int (a : Int)), some (.int (e : Int)), some (.str (mkS (numW t))), none]) (S' := S) (by simp [eSliceS_is, oSome, h3]) ?_
  refine stN (e := [some (.str x), some (.int (a : Int)), some (.int (e : Int)), some (.str (mkS (numW t))), some (.str (mkS (figs t)))]) (S' := S) (by
    have jt : tyD "str" S (.str (mkS (numW t))) = true := rfl
    simp [eMeth, jt, h4]) ?_
  rw [R]
  have zf := sz_is (show (mkS (figs t)).length ≤ 16777216 by rw [mk_len]; omega)
  have d0 : decide (mkS (figs t) = mkS []) = decide (figs t = []) := by rw [mk_eq, cp_mk]
  by_cases f0 : figs t = []
  · rw [if_pos (by unfold numBad; rw [decide_eq_true f0]; rfl)]
    refine stR (d := .non) (S' := S) ?_ rfl
    rw [decide_eq_true f0] at d0
    simp [qe, d0]
  · rw [decide_eq_false f0] at d0
    have lf : (((mkS (figs t)).length : Nat) : Int) = ((figs t).length : Int) := by rw [mk_len]
    by_cases f4 : 400 < (figs t).length
    · rw [if_pos (by unfold numBad; rw [decide_eq_true f4]; simp)]
      refine stR (d := .non) (S' := S) ?_ rfl
      have : (400 : Int) < ((mkS (figs t)).length : Int) := by rw [lf]; omega
      simp [qe, d0, zf, this]
    · have hn : ¬ (400 : Int) < ((mkS (figs t)).length : Int) := by rw [lf]; omega
      obtain ⟨c, r, hc⟩ := List.exists_cons_of_ne_nil f0
      have si : strAt (mkS (figs t)) 0 = some (.str (sg c)) := st_at (a := 0) (x := mkS (figs t)) (r := r) (by rw [cp_mk, hc]; rfl)
      have dc : decide (sg c = sg 48) = decide ((figs t).head? = some 48) := by rw [sg_eq, hc]; simp
      have dw : decide (mkS (numW t) = sg 48) = (!isNeg t && decide (figs t = [48])) := by
        rw [mk_eq, cp_sg]
        unfold numW
        cases hN : isNeg t with
        | true => simp
        | false => simp
      have q0 : ("0" : Str) = sg 48 := by decide +kernel
      have B : numBad (isNeg t) (figs t) = (decide ((figs t).head? = some 48) && !(!isNeg t && decide (figs t = [48]))) := by
        unfold numBad; rw [decide_eq_false f0, decide_eq_false f4]; rfl
      have hi := int_numW f0 (by omega : (figs t).length ≤ 400)
      have hwl' : (mkS (numW t)).length ≤ 640 := by
        rw [mk_len]
        unfold numW
        split
        · simp; omega
        · omega
      rw [B]
      by_cases g1 : (figs t).head? = some 48
      · rw [decide_eq_true g1] at dc ⊢
        by_cases g2 : (!isNeg t && decide (figs t = [48])) = true
        · rw [g2] at dw ⊢
          rw [if_neg (by simp)]
          refine stN (e := [some (.str x), some (.int (a : Int)), some (.int (e : Int)), some (.str (mkS (numW t))), some (.str (mkS (figs t)))]) (S' := S) (by simp [qe, d0, zf, hn, si, q0, dc, dw]) ?_
          simp [hwl', hi]
        · have g2' : (!isNeg t && decide (figs t = [48])) = false := by simpa using g2
          rw [g2'] at dw ⊢
          rw [if_pos (by simp)]
          exact stR (d := .non) (S' := S) (by simp [qe, d0, zf, hn, si, q0, dc, dw]) rfl
      · rw [decide_eq_false g1] at dc ⊢
        rw [if_neg (by simp)]
        refine stN (e := [some (.str x), some (.int (a : Int)), some (.int (e : Int)), some (.str (mkS (numW t))), some (.str (mkS (figs t)))]) (S' := S) (by simp [qe, d0, zf, hn, si, q0, dc, dw]) ?_
        simp [hwl', hi]
end DX
end
section
/-! thing_from, tuple_from -/
namespace DX
open PySem L2 DL PySem.NumText
variable [DL.Nm]
variable {S : Store} {x : Str}
def RdOk (rd : List Nat → Option (D × List Nat)) : Prop := ∀ t d r, rd t = some (d, r) → r <:+ t ∧ r.length < t.length ∧ ∀ ρ, frzD ρ d = some d
theorem rdWord_suf : ∀ {t s r : List Nat}, rdWord t = some (s, r) → r <:+ t
  | [], s, r, h => by cases h
  | [c], s, r, h => by
    unfold rdWord at h
    split at h
    · cases h; exact List.nil_suffix
    · cases h
  | c :: d :: u, s, r, h => by
    unfold rdWord at h
    split at h
    · cases h; exact List.suffix_cons _ _
    · split at h
      · split at h
        · obtain ⟨⟨s', r'⟩, e, q⟩ := Option.map_eq_some_iff.mp h
          cases q
          exact ((rdWord_suf e).trans (List.suffix_cons _ _)).trans (List.suffix_cons _ _)
        · cases h
      · split at h
        · obtain ⟨⟨s', r'⟩, e, q⟩ := Option.map_eq_some_iff.mp h
          cases q
          exact (rdWord_suf e).trans (List.suffix_cons _ _)
        · cases h
theorem rdNum_suf {t : List Nat} {i : Int} {r : List Nat} (h : rdNum t = some (i, r)) : r <:+ t ∧ r.length < t.length := by
  unfold rdNum at h
  split at h
  · cases h
  · rename_i hb
    cases h
    have h0 : figs t ≠ [] := fun z => hb (by unfold numBad; rw [decide_eq_true z]; rfl)
    have h1 : 1 ≤ (figs t).length := by
      cases hq : figs t with
      | nil => exact absurd hq h0
      | cons c l => simp
    have h2 : (figs t).length ≤ (afterS t).length := (List.takeWhile_sublist _).length_le
    have h3 : afterS t <:+ t := by
      unfold afterS
      split
      · exact List.tail_suffix _
      · exact List.suffix_refl _
    refine ⟨(List.drop_suffix _ _).trans h3, ?_⟩
    have := h3.length_le
    rw [List.length_drop]; omega
theorem rdFlat_ok : RdOk rdFlat := by
  intro t d r h
  unfold rdFlat at h
  split at h
  · rename_i hh
    obtain ⟨⟨s, r'⟩, e, q⟩ := Option.map_eq_some_iff.mp h
    cases q
    refine ⟨(rdWord_suf e).trans (List.tail_suffix _), ?_, fun _ => rfl⟩
    have := rdWord_len e
    rw [List.length_tail] at this; show r'.length < _; omega
  · split at h
    · rename_i h4
      cases h
      have := congrArg List.length h4
      simp at this
      refine ⟨List.drop_suffix _ _, ?_, fun _ => rfl⟩
      rw [List.length_drop]; omega
    · obtain ⟨⟨i, r'⟩, e, q⟩ := Option.map_eq_some_iff.mp h
      cases q
      exact ⟨(rdNum_suf e).1, (rdNum_suf e).2, fun _ => rfl⟩
theorem rdTup_ok {rd : List Nat → Option (D × List Nat)} (ok : RdOk rd) : ∀ (k : Nat) {t : List Nat} {ds : List D} {r : List Nat}, rdTup rd k t = some (ds, r) → r <:+ t ∧ r.length < t.length ∧ ∀ ρ, frzDs ρ ds = some ds
  | 0, t, ds, r, h => by cases h
  | k + 1, t, ds, r, h => by
    unfold rdTup at h
    cases e : rd t with
    | none => rw [e] at h; cases h
    | some p =>
      obtain ⟨d, r1⟩ := p
      obtain ⟨o1, o2, o3⟩ := ok t d r1 e
      rw [e] at h
      dsimp only at h
      split at h
      · cases h
        refine ⟨(List.tail_suffix _).trans o1, by rw [List.length_tail]; omega, fun ρ => ?_⟩
        show (frzD ρ d).bind (fun a => (frzDs ρ []).map (a :: ·)) = _
        rw [o3]; rfl
      · split at h
        · obtain ⟨⟨ds', r'⟩, e2, q⟩ := Option.map_eq_some_iff.mp h
          cases q
          obtain ⟨p1, p2, p3⟩ := rdTup_ok ok k e2
          refine ⟨(p1.trans (List.drop_suffix _ _)).trans o1, by rw [List.length_drop] at p2; show r'.length < _; omega, fun ρ => ?_⟩
          show (frzD ρ d).bind (fun a => (frzDs ρ ds').map (a :: ·)) = _
          rw [o3, p3]; rfl
        · cases h
theorem rdTh_ok : ∀ n : Nat, RdOk (rdTh n)
  | 0 => fun t d r h => by
    unfold rdTh at h
    split at h
    · cases h
    · exact rdFlat_ok t d r h
  | n + 1 => fun t d r h => by
    unfold rdTh at h
    split at h
    · rename_i h40
      cases t with
      | nil => cases h40
      | cons c t =>
        split at h
        · cases h
          exact ⟨(List.tail_suffix _).trans (List.suffix_cons _ _), by simp only [List.length_tail, List.length_cons]; omega, fun _ => rfl⟩
        · obtain ⟨⟨ds, r'⟩, e, q⟩ := Option.map_eq_some_iff.mp h
          cases q
          obtain ⟨p1, p2, p3⟩ := rdTup_ok (rdTh_ok n) _ e
          exact ⟨p1.trans (List.suffix_cons _ _), by simp only [List.tail_cons] at p2; simp only [List.length_cons]; omega, fun ρ => by show (frzDs ρ ds).map D.tup = _; rw [p3]; rfl⟩
    · exact rdFlat_ok t d r h
def thD (x : Str) : Option (D × List Nat) → D
  | some (d, r) => .tup [d, .int ((x.length - r.length : Nat) : Int)]
  | none => .non
theorem suf_pos {r : List Nat} (h : r <:+ cp x) : (cp x).drop (x.length - r.length) = r := by
  have := List.suffix_iff_eq_drop.mp h
  rw [cp_len] at this
  exact this.symm
abbrev uE (x : Str) (a n l : Nat) (w4 w5 : Option D) : EnvD := [some (.str x), some (.int (a : Int)), some (.int (n : Int)), some (.loc l), w4, w5]
abbrev uS (S : Store) (f : List D) : Store := S ++ [.lst f]
def uOut (S : Store) (x : Str) (f : List D) : Option (List D × List Nat) → SR → Prop
  | some (ds, r), q => q = .rt (.tup [.tup (f ++ ds), .int ((x.length - r.length : Nat) : Int)]) (uS S (f ++ ds))
  | none, q => ∃ f', q = .rt .non (uS S f')
theorem uapp {f : List D} {d : D} (hf : f.length < 10000000) : mAppend (.loc S.length) [d] (uS S f) = .ok .non (uS S (f ++ [d])) := by
  unfold mAppend
  simp [cellL, sz_is (show f.length + 1 ≤ 16777216 by omega)]
theorem utup {f : List D} : bTuple [.loc S.length] (uS S f) = .ok (.tup f) (uS S f) := by
  unfold bTuple
  simp [seqD, listD]
theorem tup_loop {rf : FD} {rd : List Nat → Option (D × List Nat)} {n : Nat} (hx : x.length ≤ 1000000) (ok : RdOk rd)
    (hr : ∀ (a : Nat) (S' : Store), a ≤ x.length → rf [.str x, .int (a : Int), .int (n : Int)] S' = .ok (thD x (rd ((cp x).drop a))) S') :
    ∀ (k : Nat) (a m : Nat) (f : List D) (w4 w5 : Option D), a + 1 ≤ x.length → ((cp x).drop (a + 1)).length ≤ k → k < m → f.length + k < 10000000 →
      uOut S x f (rdTup rd k ((cp x).drop (a + 1))) (whileD (g_tuple_from_c1 rf) (g_tuple_from_b1 rf) m (uE x a (n + 1) S.length w4 w5) (uS S f)) := by
  have hx' : x.length ≤ 10000000 := by omega
  have zx := sz_is (show x.length ≤ 16777216 by omega)
  intro k
  induction k with
  | zero =>
    intro a m f w4 w5 ha hl hm hf
    obtain ⟨m, rfl⟩ : ∃ j, m = j + 1 := ⟨m - 1, by omega⟩
    have hn : rd ((cp x).drop (a + 1)) = none := by
      cases e : rd ((cp x).drop (a + 1)) with
      | none => rfl
      | some p => have := (ok _ p.1 p.2 e).2.1; omega
    have hc : rf [.str x, .int ((a : Int) + 1), .int (n : Int)] (uS S f) = .ok (thD x (rd ((cp x).drop (a + 1)))) (uS S f) := hr (a + 1) (uS S f) ha
    rw [hn] at hc
    rw [whileD_succ, show g_tuple_from_c1 rf (uE x a (n + 1) S.length w4 w5) (uS S f) = .ok (.bl true) (uS S f) from rfl]
    have b : g_tuple_from_b1 rf (uE x a (n + 1) S.length w4 w5) (uS S f) = .rt .non (uS S f) := by
      have hp : (0 : Int) < (n : Int) + 1 := by omega
      unfold g_tuple_from_b1
      refine stN (e := uE x a (n + 1) S.length (some .non) w5) (S' := uS S f) ?_ ?_
      · simp [hp, hc, thD]
      · exact stR (d := .non) (S' := uS S f) (by simp) rfl
    dsimp only
    rw [b]
    exact ⟨f, rfl⟩
  | succ k ih =>
    intro a m f w4 w5 ha hl hm hf
    obtain ⟨m, rfl⟩ : ∃ j, m = j + 1 := ⟨m - 1, by omega⟩
    have hp : (0 : Int) < (n : Int) + 1 := by omega
    have hc : rf [.str x, .int ((a : Int) + 1), .int (n : Int)] (uS S f) = .ok (thD x (rd ((cp x).drop (a + 1)))) (uS S f) := hr (a + 1) (uS S f) ha
    rw [whileD_succ, show g_tuple_from_c1 rf (uE x a (n + 1) S.length w4 w5) (uS S f) = .ok (.bl true) (uS S f) from rfl]
    dsimp only
    unfold rdTup
    cases e : rd ((cp x).drop (a + 1)) with
    | none =>
      rw [e] at hc
      have b : g_tuple_from_b1 rf (uE x a (n + 1) S.length w4 w5) (uS S f) = .rt .non (uS S f) := by
        unfold g_tuple_from_b1
        refine stN (e := uE x a (n + 1) S.length (some .non) w5) (S' := uS S f) ?_ ?_
        · simp [hp, hc, thD]
        · exact stR (d := .non) (S' := uS S f) (by simp) rfl
      rw [b]
      exact ⟨f, rfl⟩
    | some p =>
      obtain ⟨d, r⟩ := p
      rw [e] at hc
      obtain ⟨o1, o2, o3⟩ := ok _ d r e
      have sx : r <:+ cp x := o1.trans (List.drop_suffix _ _)
      have hp2 := suf_pos sx
      have hrl : r.length ≤ x.length := by have := sx.length_le; rw [cp_len] at this; exact this
      dsimp only
      generalize hq : x.length - r.length = q at hc hp2
      have hc' : rf [.str x, .int ((a : Int) + 1), .int (n : Int)] (uS S f) = .ok (.tup [d, .int (q : Int)]) (uS S f) := by rw [hc]; unfold thD; dsimp only; rw [hq]
      have up := uapp (S := S) (f := f) (d := d) (by omega)
      have s1 := sl1 (S := uS S (f ++ [d])) (a := q) hx'
      have s2 := sl2 (S := uS S (f ++ [d])) (a := q) hx'
      rw [hp2] at s1 s2
      have d1 : decide (mkS (r.take 1) = sg 41) = decide (r.head? = some 41) := by rw [mk_eq, cp_sg, take1]
      have d2 : decide (mkS (r.take 2) = mkS [44, 32]) = decide (r.take 2 = [44, 32]) := by rw [mk_eq, cp_mk]
      have ut := utup (S := S) (f := f ++ [d])
      have step : g_tuple_from_b1 rf (uE x a (n + 1) S.length w4 w5) (uS S f) =
          (if r.head? = some 41 then .rt (.tup [.tup (f ++ [d]), .int ((q : Int) + 1)]) (uS S (f ++ [d])) else if r.take 2 = [44, 32] then .nx (uE x (q + 1) (n + 1) S.length (some (.tup [d, .int (q : Int)])) (some d)) (uS S (f ++ [d])) else .rt .non (uS S (f ++ [d]))) := by
        unfold g_tuple_from_b1
        refine stN (e := uE x a (n + 1) S.length (some (.tup [d, .int (q : Int)])) w5) (S' := uS S f) (by simp [hp, hc']) ?_
        refine stN (e := uE x a (n + 1) S.length (some (.tup [d, .int (q : Int)])) w5) (S' := uS S f) (by simp) ?_
        refine stN (e := uE x q (n + 1) S.length (some (.tup [d, .int (q : Int)])) (some d)) (S' := uS S f) (by simp) ?_
        have ty : tyD "list" (uS S f) (.loc S.length) = true := by simp [tyD, listD]
        refine stN (e := uE x q (n + 1) S.length (some (.tup [d, .int (q : Int)])) (some d)) (S' := uS S (f ++ [d])) (by
          have zf := sz_is (show f.length + 1 ≤ 16777216 by omega)
          simp only [sDrop_is, eMeth]
          simp [ty, up, zf]) ?_
        by_cases g1 : r.head? = some 41
        · rw [decide_eq_true g1] at d1
          rw [if_pos g1]
          exact stR (d := .tup [.tup (f ++ [d]), .int ((q : Int) + 1)]) (S' := uS S (f ++ [d])) (by simp [eSliceS_is, oSome, s1, q41, d1, ut]) rfl
        · rw [decide_eq_false g1] at d1
          rw [if_neg g1]
          refine stN (e := uE x q (n + 1) S.length (some (.tup [d, .int (q : Int)])) (some d)) (S' := uS S (f ++ [d])) (by simp [eSliceS_is, oSome, s1, q41, d1]) ?_
          by_cases g2 : r.take 2 = [44, 32]
          · rw [decide_eq_true g2] at d2
            rw [if_pos g2]
            refine stN (e := uE x q (n + 1) S.length (some (.tup [d, .int (q : Int)])) (some d)) (S' := uS S (f ++ [d])) (by simp [eSliceS_is, oSome, s2, q44, d2]) ?_
            simp
          · rw [decide_eq_false g2] at d2
            rw [if_neg g2]
            exact stR (d := .non) (S' := uS S (f ++ [d])) (by simp [eSliceS_is, oSome, s2, q44, d2]) rfl
      rw [step]
      by_cases g1 : r.head? = some 41
      · rw [if_pos g1, if_pos g1]
        have hr1 : 1 ≤ r.length := by cases r with
          | nil => cases g1
          | cons => simp
        show _ = _
        rw [List.length_tail, show ((x.length - (r.length - 1) : Nat) : Int) = (q : Int) + 1 by omega]
      · rw [if_neg g1, if_neg g1]
        by_cases g2 : r.take 2 = [44, 32]
        · rw [if_pos g2, if_pos g2]
          have hr2 : 2 ≤ r.length := by have := congrArg List.length g2; simp at this; omega
          have hd2 : (cp x).drop (q + 1 + 1) = r.drop 2 := by rw [← hp2, List.drop_drop]
          have := ih (q + 1) m (f ++ [d]) (some (.tup [d, .int (q : Int)])) (some d) (by omega) (by rw [hd2, List.length_drop]; omega) (by omega) (by simp; omega)
          rw [hd2] at this
          cases e2 : rdTup rd k (r.drop 2) with
          | none => rw [e2] at this; exact this
          | some p => rw [e2] at this; simpa [uOut] using this
        · rw [if_neg g2, if_neg g2]
          exact ⟨f ++ [d], rfl⟩
def tupR (n : Nat) (t : List Nat) : Option (D × List Nat) := if t.tail.head? = some 41 then some (.tup [], t.tail.tail) else (rdTup (rdTh n) t.length t.tail).map fun p => (.tup p.1, p.2)
theorem frz_thD {o : Option (D × List Nat)} (h : ∀ d r, o = some (d, r) → ∀ ρ, frzD ρ d = some d) (ρ : Nat → Option D) : frzD ρ (thD x o) = some (thD x o) := by
  cases o with
  | none => rfl
  | some p =>
    obtain ⟨d, r⟩ := p
    show (frzDs ρ [d, .int _]).map D.tup = _
    show ((frzD ρ d).bind (fun a => (frzDs ρ [.int _]).map (a :: ·))).map D.tup = _
    rw [h d r rfl]; rfl
theorem tuple_ok {rf : FD} {n a : Nat} (hx : x.length ≤ 1000000) (ha : a + 1 ≤ x.length)
    (hr : ∀ (a : Nat) (S' : Store), a ≤ x.length → rf [.str x, .int (a : Int), .int (n : Int)] S' = .ok (thD x (rdTh n ((cp x).drop a))) S') :
    d_tuple_from rf [.str x, .int (a : Int), .int ((n + 1 : Nat) : Int)] S = .ok (thD x (tupR n ((cp x).drop a))) S := by
  have hx' : x.length ≤ 10000000 := by omega
  generalize ht : (cp x).drop a = t
  have htl : (cp x).drop (a + 1) = t.tail := by rw [← List.drop_drop, ht]; cases t <;> rfl
  have hl : t.length = x.length - a := by rw [← ht, List.length_drop, cp_len]
  have s1 := sl12 (S := S) (a := a) hx'
  rw [htl] at s1
  have d1 : decide (mkS (t.tail.take 1) = sg 41) = decide (t.tail.head? = some 41) := by rw [mk_eq, cp_sg, take1]
  have st : startD 6 [D.str x, D.int (a : Int), D.int ((n + 1 : Nat) : Int)] = [some (.str x), some (.int (a : Int)), some (.int ((n + 1 : Nat) : Int)), none, none, none] := by simp [startD_c, startD_n]
  by_cases g1 : t.tail.head? = some 41
  · rw [decide_eq_true g1] at d1
    have hr1 : 1 ≤ t.tail.length := by
      cases hq : t.tail with
      | nil => rw [hq] at g1; cases g1
      | cons => simp
    have e : thD x (tupR n t) = .tup [.tup [], .int ((a : Int) + 2)] := by
      unfold tupR
      rw [if_pos g1]
      show D.tup [_, .int ((x.length - t.tail.tail.length : Nat) : Int)] = _
      rw [List.length_tail, List.length_tail] at *
      rw [show ((x.length - (t.length - 1 - 1) : Nat) : Int) = (a : Int) + 2 by omega]
    rw [e]
    refine fnRt (d := .tup [.tup [], .int ((a : Int) + 2)]) (S' := S) ?_ (exit_same rfl)
    rw [st]
    unfold g_tuple_from
    exact stR (d := .tup [.tup [], .int ((a : Int) + 2)]) (S' := S) (by simp [eSliceS_is, oSome, s1, q41, d1]) rfl
  · rw [decide_eq_false g1] at d1
    have w := tup_loop (S := S) (rf := rf) hx (rdTh_ok n) hr t.length a bigN [] none none ha (by rw [htl, List.length_tail]; omega) (by unfold bigN; omega) (by simp; omega)
    rw [htl] at w
    have e : tupR n t = (rdTup (rdTh n) t.length t.tail).map fun p => (.tup p.1, p.2) := by unfold tupR; rw [if_neg g1]
    rw [e]
    have go : ∀ (d : D) (f : List D), (whileD (g_tuple_from_c1 rf) (g_tuple_from_b1 rf) bigN (uE x a (n + 1) S.length none none) (uS S [])) = .rt d (uS S f) → (∀ ρ, frzD ρ d = some d) → d_tuple_from rf [.str x, .int (a : Int), .int ((n + 1 : Nat) : Int)] S = .ok d S := fun d f hw hd => by
      refine fnRt (d := d) (S' := uS S f) ?_ (exit_dat hd)
      rw [st]
      unfold g_tuple_from
      refine stN (e := [some (.str x), some (.int (a : Int)), some (.int ((n + 1 : Nat) : Int)), none, none, none]) (S' := S) (by simp [eSliceS_is, oSome, s1, q41, d1]) ?_
      refine stN (e := uE x a (n + 1) S.length none none) (S' := uS S []) (by simp) hw
    cases hq : rdTup (rdTh n) t.length t.tail with
    | none =>
      rw [hq] at w
      obtain ⟨f', hw⟩ := w
      exact go _ f' hw fun _ => rfl
    | some p =>
      obtain ⟨ds, r⟩ := p
      rw [hq] at w
      obtain ⟨_, _, o3⟩ := rdTup_ok (rdTh_ok n) _ hq
      refine go _ _ w fun ρ => ?_
      show ((frzD ρ (.tup ds)).bind (fun a => (frzDs ρ [.int _]).map (a :: ·))).map D.tup = _
      rw [show frzD ρ (.tup ds) = some (.tup ds) from by show (frzDs ρ ds).map D.tup = _; rw [o3]; rfl]; rfl
abbrev hE (x : Str) (a : Nat) (n : Int) (t : List Nat) : EnvD := [some (.str x), some (.int (a : Int)), some (.int n), some (.str (mkS (t.take 1)))]
theorem th_sign {a : Nat} {n : Int} {t : List Nat} (hx : x.length ≤ 1000000) (ht : (cp x).drop a = t) :
    (sAsg (eSliceS (eVar 0) (oSome (eVar 1)) (oSome (eOp opAdd (eVar 1) (eC (.int 1))))) (bName 3)) [some (.str x), some (.int (a : Int)), some (.int n), none] S = .nx (hE x a n t) S := by
  have s1 := sl1 (S := S) (a := a) (show x.length ≤ 10000000 by omega)
  rw [ht] at s1
  simp [eSliceS_is, oSome, s1]
theorem th_flat {rf : FD} {a : Nat} {n : Int} {t : List Nat} (hx : x.length ≤ 1000000) (ha : a ≤ x.length) (ht : (cp x).drop a = t) (h40 : ¬ t.head? = some 40) :
    g_thing_from rf [some (.str x), some (.int (a : Int)), some (.int n), none] S = .rt (thD x (rdFlat t)) S := by
  have hx' : x.length ≤ 10000000 := by omega
  have hl : t.length = x.length - a := by rw [← ht, List.length_drop, cp_len]
  have d40 : decide (mkS (t.take 1) = sg 40) = false := by rw [mk_eq, cp_sg, take1]; exact decide_eq_false h40
  have d34 : decide (mkS (t.take 1) = sg 34) = decide (t.head? = some 34) := by rw [mk_eq, cp_sg, take1]
  unfold g_thing_from
  refine stN (th_sign hx ht) ?_
  refine stN (e := hE x a n t) (S' := S) (by simp [q40, d40]) ?_
  unfold rdFlat
  by_cases g1 : t.head? = some 34
  · rw [decide_eq_true g1] at d34
    rw [if_pos g1]
    have h1 : 1 ≤ t.length := by cases t with
      | nil => cases g1
      | cons => simp
    have tx := text_ok (S := S) (a := a) hx (by omega)
    have htl : (cp x).drop (a + 1) = t.tail := by rw [← List.drop_drop, ht]; cases t <;> rfl
    rw [htl] at tx
    have e : wD x (rdWord t.tail) = thD x ((rdWord t.tail).map fun p => (.str (mkS p.1), p.2)) := by cases rdWord t.tail <;> rfl
    rw [e] at tx
    exact stR (d := thD x ((rdWord t.tail).map fun p => (.str (mkS p.1), p.2))) (S' := S) (by simp [q34, d34, tx]) rfl
  · rw [decide_eq_false g1] at d34
    rw [if_neg g1]
    refine stN (e := hE x a n t) (S' := S) (by simp [q34, d34]) ?_
    have s4 := sl4 (S := S) (a := a) hx'
    rw [ht] at s4
    have d4 : decide (mkS (t.take 4) = mkS [110, 111, 110, 101]) = decide (t.take 4 = [110, 111, 110, 101]) := by rw [mk_eq, cp_mk]
    by_cases g2 : t.take 4 = [110, 111, 110, 101]
    · rw [decide_eq_true g2] at d4
      rw [if_pos g2]
      have h4 : 4 ≤ t.length := by have := congrArg List.length g2; simp at this; omega
      have e : thD x (some (D.non, t.drop 4)) = .tup [.non, .int ((a : Int) + 4)] := by
        show D.tup [_, .int ((x.length - (t.drop 4).length : Nat) : Int)] = _
        rw [List.length_drop, show ((x.length - (t.length - 4) : Nat) : Int) = (a : Int) + 4 by omega]
      rw [e]
      exact stR (d := .tup [.non, .int ((a : Int) + 4)]) (S' := S) (by simp [eSliceS_is, oSome, s4, qn, d4]) rfl
    · rw [decide_eq_false g2] at d4
      rw [if_neg g2]
      refine stN (e := hE x a n t) (S' := S) (by simp [eSliceS_is, oSome, s4, qn, d4]) ?_
      have nx := number_ok (S := S) (a := a) hx ha
      rw [ht] at nx
      have e : nD x (rdNum t) = thD x ((rdNum t).map fun p => (.int p.1, p.2)) := by cases rdNum t <;> rfl
      rw [e] at nx
      simp [nx]
/-- what begins at a sign, as the program reads it -/
theorem th_ok (hx : x.length ≤ 1000000) : ∀ (n k a : Nat) (S : Store), n < k → a ≤ x.length → d_thing_from_n k [.str x, .int (a : Int), .int (n : Int)] S = .ok (thD x (rdTh n ((cp x).drop a))) S := by
  have st : ∀ (n : Int) (a : Nat), startD 4 [D.str x, D.int (a : Int), D.int n] = [some (.str x), some (.int (a : Int)), some (.int n), none] := fun n a => by simp [startD_c, startD_n]
  intro n
  induction n with
  | zero =>
    intro k a S hk ha
    obtain ⟨k, rfl⟩ : ∃ j, k = j + 1 := ⟨k - 1, by omega⟩
    refine fnRt (d := thD x (rdTh 0 ((cp x).drop a))) (S' := S) ?_ (exit_same (frz_thD (fun d r h => (rdTh_ok 0 _ d r h).2.2) _))
    rw [show ((0 : Nat) : Int) = 0 from rfl, st]
    by_cases h40 : ((cp x).drop a).head? = some 40
    · have d40 : decide (mkS (((cp x).drop a).take 1) = sg 40) = true := by rw [mk_eq, cp_sg, take1]; exact decide_eq_true h40
      have e : rdTh 0 ((cp x).drop a) = none := by unfold rdTh; rw [if_pos h40]
      rw [e]
      unfold g_thing_from
      refine stN (th_sign hx rfl) ?_
      exact stR (d := .non) (S' := S) (by simp [q40, d40]) rfl
    · have e : rdTh 0 ((cp x).drop a) = rdFlat ((cp x).drop a) := by unfold rdTh; rw [if_neg h40]
      rw [e]
      exact th_flat hx ha rfl h40
  | succ n ih =>
    intro k a S hk ha
    obtain ⟨k, rfl⟩ : ∃ j, k = j + 1 := ⟨k - 1, by omega⟩
    refine fnRt (d := thD x (rdTh (n + 1) ((cp x).drop a))) (S' := S) ?_ (exit_same (frz_thD (fun d r h => (rdTh_ok (n + 1) _ d r h).2.2) _))
    rw [st]
    by_cases h40 : ((cp x).drop a).head? = some 40
    · have d40 : decide (mkS (((cp x).drop a).take 1) = sg 40) = true := by rw [mk_eq, cp_sg, take1]; exact decide_eq_true h40
      have e : rdTh (n + 1) ((cp x).drop a) = tupR n ((cp x).drop a) := by unfold rdTh; rw [if_pos h40]; rfl
      have h1 : a + 1 ≤ x.length := by
        have : 1 ≤ ((cp x).drop a).length := by
          cases hq : (cp x).drop a with
          | nil => rw [hq] at h40; cases h40
          | cons => simp
        rw [List.length_drop, cp_len] at this; omega
      have tk := tuple_ok (S := S) (rf := d_thing_from_n k) (n := n) (a := a) hx h1 (fun a S' h => ih k a S' (by omega) h)
      have tk' : d_tuple_from (d_thing_from_n k) [.str x, .int (a : Int), .int ((n : Int) + 1)] S = .ok (thD x (tupR n ((cp x).drop a))) S := tk
      have hp : (0 : Int) < (n : Int) + 1 := by omega
      rw [e]
      unfold g_thing_from
      refine stN (th_sign hx rfl) ?_
      exact stR (d := thD x (tupR n ((cp x).drop a))) (S' := S) (by simp [q40, d40, hp, tk']) rfl
    · have e : rdTh (n + 1) ((cp x).drop a) = rdFlat ((cp x).drop a) := by unfold rdTh; rw [if_neg h40]
      rw [e]
      exact th_flat hx ha rfl h40
/-- the thing of a whole text -/
def whole (l : List Nat) : Option D := match rdTh 8 l with
  | some (d, []) => some d
  | _ => none
theorem readThing_ok (hx : x.length ≤ 1000000) {d : D} (h : rdTh 8 (cp x) = some (d, [])) : d_read_thing [.str x] S = .ok d S := by
  have t := th_ok hx 8 12 0 S (by decide) (Nat.zero_le _)
  rw [List.drop_zero, h] at t
  have t' : d_thing_from [.str x, .int 0, .int 8] S = .ok (.tup [d, .int (x.length : Int)]) S := t
  have fz := (rdTh_ok 8 _ d [] h).2.2
  have zx := sz_is (show x.length ≤ 16777216 by omega)
  have w : d_read_whole [.str x, .int 0] S = .ok d S := by
    refine fnRt (d := d) (S' := S) ?_ (exit_same (fz _))
    rw [show startD 3 [D.str x, D.int 0] = [some (.str x), some (.int 0), none] from by simp [startD_c, startD_n]]
    unfold g_read_whole
    refine stN (e := [some (.str x), some (.int 0), some (.tup [d, .int (x.length : Int)])]) (S' := S) (by simp [t']) ?_
    refine stN (e := [some (.str x), some (.int 0), some (.tup [d, .int (x.length : Int)])]) (S' := S) (by
      have i1 : atI [d, D.int (x.length : Int)] 1 = some (.int (x.length : Int)) := rfl
      simp [zx, i1]) ?_
    have i0 : atI [d, D.int (x.length : Int)] 0 = some d := rfl
    simp [i0]
  refine fnRt (d := d) (S' := S) ?_ (exit_same (fz _))
  rw [show startD 1 [D.str x] = [some (.str x)] from by simp [startD_c, startD_n]]
  unfold g_read_thing
  refine stN (e := [some (.str x)]) (S' := S) (by simp [Ty.isa]) ?_
  simp [w]
end DX
end
section
/-! How a thing is written: thing_text, and the law's own. -/
namespace DX
open PySem L2 DL PySem.NumText
variable [DL.Nm]
variable {S : Store} {x : Str}
theorem inter_join : ∀ l : List (List Nat), TL.joinL [44, 32] l = inter l
  | [] => rfl
  | [_] => rfl
  | x :: y :: r => by
    show x ++ ([44, 32] ++ TL.joinL [44, 32] (y :: r)) = _
    rw [inter_join (y :: r)]; rfl
theorem join_comma (l : List (List Nat)) : Txt.join ", " (l.map mkS) = mkS (inter l) := by
  refine cp_inj ?_
  rw [TL.join_eq, cp_mk]
  refine (TL.tl_join ", " (l.map mkS)).trans ?_
  rw [List.map_map, show TL.tl ", " = [44, 32] from by decide +kernel, show (l.map (TL.tl ∘ mkS)) = l from by
    conv => rhs; rw [← List.map_id l]
    exact List.map_congr_left fun a _ => cp_mk]
  exact inter_join l
theorem inter_sum : ∀ l : List (List Nat), (l.map List.length).sum + l.length * 2 ≤ (inter l).length + 2
  | [] => by simp [inter]
  | [x] => by simp [inter]
  | x :: y :: r => by
    have := inter_sum (y :: r)
    unfold inter
    simp only [List.map_cons, List.sum_cons, List.length_cons, List.length_append] at this ⊢
    omega
theorem inter_le {l : List (List Nat)} {x : List Nat} (h : x ∈ l) : x.length ≤ (inter l).length := by
  have := inter_sum l
  have h2 : x.length ≤ (l.map List.length).sum := by
    clear this
    induction l with
    | nil => cases h
    | cons y l ih =>
      rcases List.mem_cons.mp h with rfl | h
      · simp
      · have := ih h; simp; omega
  have h3 : 1 ≤ l.length := List.length_pos_of_mem h
  omega
theorem len_sum (l : List (List Nat)) : ((l.map mkS).map (·.length)).sum = (l.map List.length).sum := by
  rw [List.map_map]
  exact congrArg List.sum (List.map_congr_left fun a _ => mk_len)
theorem mJoin_things {l : List (List Nat)} (h : (inter l).length ≤ 10000000) : mJoin (.str ", ") [.lst (l.map fun a => D.str (mkS a))] S = .ok (.str (mkS (inter l))) S := by
  have e := mJoin_l (S := S) (a := ", ") (ys := l.map mkS) (by
    rw [len_sum, List.length_map, show (", " : Str).length = 2 from by decide +kernel]
    have := inter_sum l
    omega)
  rw [join_comma, List.map_map] at e
  exact e
theorem wr_len {n : Nat} {d : D} {ds : List D} (h : d ∈ ds) : (wr n d).length ≤ (inter (ds.map (wr n))).length := inter_le (List.mem_map_of_mem h)
theorem repl1 (c : Nat) (z : List Nat) : ∀ l : List Nat, PySem.StrLaws.replL [c] z l = l.flatMap fun d => if d = c then z else [d]
  | [] => PySem.StrLaws.replL_nil
  | d :: r => by
    have ih := repl1 c z r
    unfold PySem.StrLaws.replL at ih ⊢
    rw [PySem.StrLaws.replS, List.flatMap_cons]
    show (if [d] = [c] then z ++ PySem.StrLaws.replS [c] z 0 r else d :: PySem.StrLaws.replS [c] z 0 r) = _
    rw [ih]
    by_cases h : d = c
    · rw [if_pos (by rw [h]), if_pos h]
    · rw [if_neg (by simpa using h), if_neg h]; rfl
theorem repl_word (s : Str) : Txt.replace (Txt.replace s "\\" "\\\\") "\"" "\\\"" = mkS (wrWord (cp s)) := by
  refine cp_inj ?_
  rw [cp_mk]
  show (Txt.replace (Txt.replace s "\\" "\\\\") "\"" "\\\"").cps.toList = _
  rw [PySem.StrLaws.replace_list (by decide +kernel), PySem.StrLaws.replace_list (by decide +kernel)]
  rw [show (Str.ofString "\"").cps.toList = [34] from by decide +kernel, show (Str.ofString "\\").cps.toList = [92] from by decide +kernel, show (Str.ofString "\\\\").cps.toList = [92, 92] from by decide +kernel, show (Str.ofString "\\\"").cps.toList = [92, 34] from by decide +kernel]
  rw [repl1, repl1]
  unfold wrWord
  rw [List.flatMap_assoc]
  refine congrArg (fun f => List.flatMap f (cp s)) (funext fun c => ?_)
  unfold wrSign
  by_cases h : c = 92
  · subst h; rfl
  · rw [if_neg h]
    by_cases h2 : c = 34
    · subst h2; rfl
    · rw [if_neg (by omega)]
      simp [h2]
theorem log_ok {i : Int} (h : i.natAbs < 10 ^ 400) : i.natAbs.log2 < 1920 := by
  by_cases h0 : i.natAbs = 0
  · rw [h0]; decide
  · rw [Nat.log2_lt h0]
    have e : (2 : Nat) ^ 1920 = (2 ^ 4) ^ 480 := by rw [← Nat.pow_mul]
    have h1 : (10 : Nat) ^ 400 ≤ (2 ^ 4) ^ 400 := Nat.pow_le_pow_left (by decide) 400
    have h2 : ((2 : Nat) ^ 4) ^ 400 ≤ (2 ^ 4) ^ 480 := Nat.pow_le_pow_right (by decide) (by decide)
    rw [e]
    exact Nat.lt_of_lt_of_le h (Nat.le_trans h1 h2)
theorem wrSign_len (c : Nat) : 1 ≤ (wrSign c).length := by unfold wrSign; split <;> simp
theorem wrWord_len (s : List Nat) : s.length ≤ (wrWord s).length := by
  induction s with
  | nil => simp
  | cons c s ih =>
    have := wrSign_len c
    unfold wrWord at ih ⊢
    rw [List.flatMap_cons, List.length_append, List.length_cons]; omega
theorem rstr_len (s : Str) (y z : Str) : (Txt.replace s y z).length ≤ s.length + (s.length + 1) * z.length := TK.replace_len s y z
/-- thing_text of flat things -/
theorem text_flat {d : D} (h : Fl d) (k : Nat) (hl : (wrF d).length ≤ 1000000) : d_thing_text_n (k + 1) [d] S = .ok (.str (mkS (wrF d))) S := by
  rcases h with rfl | ⟨i, rfl, hi⟩ | ⟨s, rfl, hs⟩
  · refine fnRt (d := .str (mkS [110, 111, 110, 101])) (S' := S) ?_ exit_str
    rw [show startD 2 [D.non] = [some .non, none] from by simp [startD_c, startD_n]]
    unfold g_thing_text
    refine stN (e := [some .non, none]) (S' := S) (by simp [Ty.isa]) ?_
    exact stR (d := .str (mkS [110, 111, 110, 101])) (S' := S) (by simp [qn]) rfl
  · have e : mkS (wrF (.int i)) = (Str.ofString (toString i)) := mk_cp
    rw [e]
    have lg := log_ok hi
    refine fnRt (d := .str (toString i : String)) (S' := S) ?_ exit_str
    rw [show startD 2 [D.int i] = [some (.int i), none] from by simp [startD_c, startD_n]]
    unfold g_thing_text
    refine stN (e := [some (.int i), none]) (S' := S) (by simp [Ty.isa]) ?_
    refine stN (e := [some (.int i), none]) (S' := S) (by simp) ?_
    refine stN (e := [some (.int i), none]) (S' := S) (by simp [Ty.isa]) ?_
    simp [lg]
  · have e : mkS (wrF (.str s)) = (("\"" : Str) ++ Txt.replace (Txt.replace s "\\" "\\\\") "\"" "\\\"") ++ "\"" := by
      rw [repl_word, q34]
      show mkS (34 :: (wrWord (cp s) ++ [34])) = _
      refine cp_inj ?_
      rw [cp_app, cp_app, cp_mk, cp_mk]; rfl
    have sl : s.length ≤ 1000000 := by
      have := wrWord_len (cp s)
      rw [cp_len] at this
      have h2 : (wrF (.str s)).length = (wrWord (cp s)).length + 2 := by simp [wrF]
      omega
    have wl : (wrWord (cp s)).length ≤ 1000000 := by
      have h2 : (wrF (.str s)).length = (wrWord (cp s)).length + 2 := by simp [wrF]
      omega
    have c1 : s.length + (s.length + 1) * ("\\\\" : Str).length ≤ 16777216 := by rw [show ("\\\\" : Str).length = 2 from by decide +kernel]; omega
    have r1 := rstr_len s "\\" "\\\\"
    rw [show ("\\\\" : Str).length = 2 from by decide +kernel] at r1
    have c2 : (Txt.replace s "\\" "\\\\").length + ((Txt.replace s "\\" "\\\\").length + 1) * ("\\\"" : Str).length ≤ 16777216 := by rw [show ("\\\"" : Str).length = 2 from by decide +kernel]; omega
    have c3 : (Txt.replace (Txt.replace s "\\" "\\\\") "\"" "\\\"").length = (wrWord (cp s)).length := by rw [repl_word, mk_len]
    have c4 := sz_is (show ("\"" : Str).length + (Txt.replace (Txt.replace s "\\" "\\\\") "\"" "\\\"").length ≤ 16777216 by rw [c3, show ("\"" : Str).length = 1 from by decide +kernel]; omega)
    have c5 := sz_is (show (("\"" : Str) ++ Txt.replace (Txt.replace s "\\" "\\\\") "\"" "\\\"").length + ("\"" : Str).length ≤ 16777216 by rw [PySem.Str.length_append, c3, show ("\"" : Str).length = 1 from by decide +kernel]; omega)
    rw [e]
    refine fnRt (d := .str ((("\"" : Str) ++ Txt.replace (Txt.replace s "\\" "\\\\") "\"" "\\\"") ++ "\"")) (S' := S) ?_ exit_str
    rw [show startD 2 [D.str s] = [some (.str s), none] from by simp [startD_c, startD_n]]
    unfold g_thing_text
    refine stN (e := [some (.str s), none]) (S' := S) (by simp [Ty.isa]) ?_
    refine stN (e := [some (.str s), none]) (S' := S) (by simp) ?_
    refine stR (d := .str ((("\"" : Str) ++ Txt.replace (Txt.replace s "\\" "\\\\") "\"" "\\\"") ++ "\"")) (S' := S) ?_ rfl
    simp [Ty.isa, eCRep_is, c1, c2, c4, c5, -PySem.Str.length_append]
/-- what thing_text writes -/
theorem text_ok2 : ∀ {n : Nat} {d : D}, Tg n d → ∀ (k : Nat) (S : Store), n < k → (wr n d).length ≤ 1000000 → d_thing_text_n k [d] S = .ok (.str (mkS (wr n d))) S
  | n, d, .fl h, k, S, hk, hl => by
    obtain ⟨k, rfl⟩ : ∃ j, k = j + 1 := ⟨k - 1, by omega⟩
    rw [wrF_fl h] at hl ⊢
    exact text_flat h k hl
  | _, _, .tup (n := n) (ds := ds) h, k, S, hk, hl => by
    obtain ⟨k, rfl⟩ : ∃ j, k = j + 1 := ⟨k - 1, by omega⟩
    have hi : (inter (ds.map (wr n))).length + 2 ≤ 1000000 := by
      have : (wr (n + 1) (.tup ds)).length = (inter (ds.map (wr n))).length + 2 := by simp [wr]
      omega
    have dl : ds.length ≤ 1000000 := by
      have := inter_sum (ds.map (wr n))
      rw [List.length_map] at this; omega
    have lc := lcD_map (S := S) (b := bName 1) (elt := g_thing_text_e1 (d_thing_text_n k)) (env := [some (.tup ds), none]) (fun d => .str (mkS (wr n d))) ds (fun d hd => by
      have e := text_ok2 (h d hd) k S (by omega) (Nat.le_trans (wr_len hd) (by omega))
      exact ⟨_, rfl, by unfold g_thing_text_e1; simp [e]⟩) (by omega)
    have j := mJoin_things (S := S) (l := ds.map (wr n)) (by omega)
    rw [List.map_map] at j
    have e : mkS (wr (n + 1) (.tup ds)) = ("(" : Str) ++ mkS (inter (ds.map (wr n))) ++ ")" := by
      refine cp_inj ?_
      rw [cp_app, cp_app, cp_mk, cp_mk, q40, q41]; simp [wr, cp_sg]
    have c1 := sz_is (show ("(" : Str).length + (mkS (inter (ds.map (wr n)))).length ≤ 16777216 by rw [mk_len, show ("(" : Str).length = 1 from by decide +kernel]; omega)
    have c2 := sz_is (show (("(" : Str) ++ mkS (inter (ds.map (wr n)))).length + (")" : Str).length ≤ 16777216 by rw [PySem.Str.length_append, mk_len, show ("(" : Str).length = 1 from by decide +kernel, show (")" : Str).length = 1 from by decide +kernel]; omega)
    have jt : tyD "str" S (.str ", ") = true := rfl
    rw [e]
    refine fnRt (d := .str (("(" : Str) ++ mkS (inter (ds.map (wr n))) ++ ")")) (S' := S) ?_ exit_str
    rw [show startD 2 [D.tup ds] = [some (.tup ds), none] from by simp [startD_c, startD_n]]
    unfold g_thing_text
    refine stR (d := .str (("(" : Str) ++ mkS (inter (ds.map (wr n))) ++ ")")) (S' := S) ?_ rfl
    have j' : mJoin (.str ", ") [.lst (ds.map fun d => .str (mkS (wr n d)))] S = .ok (.str (mkS (inter (ds.map (wr n))))) S := j
    simp [Ty.isa, eMeth, jt, lc, j', c1, c2, -PySem.Str.length_append]
end DX
end
section
/-! The law's own writing. -/
namespace DX
open PySem L2 DL PySem.NumText
variable [DL.Nm]
variable {S : Store} {x : Str}
theorem in_two {c : Nat} : opIn (.str (sg c)) (.lst [.str "\"", .str "\\"]) S = .ok (.bl (decide (c = 34 ∨ c = 92))) S := by
  have e : ∀ u d : Nat, eqF (.str (sg u)) (.str (sg d)) = decide (u = d) := fun u d => sg_eq
  rw [opIn_ll, if_pos (show (flatD (.str (sg c)) && [D.str "\"", D.str "\\"].all flatD) = true from rfl)]
  show ER.ok (D.bl (eqF (.str "\"") (.str (sg c)) || (eqF (.str "\\") (.str (sg c)) || false))) S = _
  rw [q34, q92, e, e, Bool.or_false, ← Bool.decide_or]
  congr 2
  exact decide_eq_decide.mpr ⟨fun h => h.elim (fun z => .inl z.symm) fun z => .inr z.symm, fun h => h.elim (fun z => .inl z.symm) fun z => .inr z.symm⟩
theorem join_flat (l : List (List Nat)) : Txt.join "" (l.map mkS) = mkS l.flatten := by
  refine cp_inj ?_
  rw [TL.join_eq, cp_mk]
  refine (TL.tl_join "" (l.map mkS)).trans ?_
  have : ∀ l : List (List Nat), TL.joinL (TL.tl "") ((l.map mkS).map TL.tl) = l.flatten := fun l => by
    induction l with
    | nil => rfl
    | cons a l ih =>
      cases l with
      | nil => show TL.tl (mkS a) = _; rw [List.flatten_cons, List.flatten_nil, List.append_nil]; exact cp_mk
      | cons b l =>
        show TL.tl (mkS a) ++ (TL.tl "" ++ TL.joinL (TL.tl "") (((b :: l).map mkS).map TL.tl)) = _
        rw [ih, List.flatten_cons, show TL.tl (mkS a) = a from cp_mk]; rfl
  exact this l
theorem mJoin_flat {l : List (List Nat)} (h : l.flatten.length ≤ 16000000) : mJoin (.str "") [.lst (l.map fun a => D.str (mkS a))] S = .ok (.str (mkS l.flatten)) S := by
  have e := mJoin_l (S := S) (a := "") (ys := l.map mkS) (by
    rw [len_sum, List.length_map, show ("" : Str).length = 0 from rfl]
    rw [List.length_flatten] at h
    omega)
  rw [join_flat, List.map_map] at e
  exact e
theorem mJoin_flatC {l : List (List Nat)} {n : Nat} (hc : S[n]? = some (.lst (l.map fun a => D.str (mkS a)))) (h : l.flatten.length ≤ 16000000) : mJoin (.str "") [.loc n] S = .ok (.str (mkS l.flatten)) S := by
  have e := mJoin_c (S := S) (a := "") (ys := l.map mkS) (l := n) (by rw [hc, List.map_map]; rfl) (by
    rw [len_sum, List.length_map, show ("" : Str).length = 0 from rfl]
    rw [List.length_flatten] at h
    omega)
  rw [join_flat] at e
  exact e
theorem ltext_e2 {r : FD} {c : Nat} {a b d : Option D} : (g__law_text_e2 r) [a, b, some (.str (sg c)), d] S = .ok (.str (mkS (wrSign c))) S := by
  have i := in_two (S := S) (c := c)
  unfold g__law_text_e2
  have l1 : ("\\" : Str).length = 1 := by decide +kernel
  by_cases h : c = 34 ∨ c = 92
  · rw [decide_eq_true h] at i
    have z := sz_is (show (repS "\\" 1).length + (sg c).length ≤ 16777216 by rw [repS_one, l1, show (sg c).length = 1 from rfl]; omega)
    have e : repS "\\" 1 ++ sg c = mkS (wrSign c) := by
      rw [repS_one, q92]
      refine cp_inj ?_
      rw [cp_app, cp_mk, cp_sg, cp_sg]
      unfold wrSign
      rw [if_pos h]; rfl
    simp [-opIn_ll, i, l1, z, e, -PySem.Str.length_append]
  · rw [decide_eq_false h] at i
    have z := sz_is (show (repS "\\" 0).length + (sg c).length ≤ 16777216 by rw [show (repS "\\" 0).length = 0 from rfl, show (sg c).length = 1 from rfl]; omega)
    have e : repS "\\" 0 ++ sg c = mkS (wrSign c) := by
      refine cp_inj ?_
      rw [cp_app, cp_mk, cp_sg, show cp (repS "\\" 0) = [] from rfl]
      unfold wrSign
      rw [if_neg h]; rfl
    simp [-opIn_ll, i, l1, z, e, -PySem.Str.length_append]
theorem ltext_flat {d : D} (h : Fl d) (k : Nat) (hl : (wrF d).length ≤ 1000000) : d__law_text_n (k + 1) [d] S = .ok (.str (mkS (wrF d))) S := by
  rcases h with rfl | ⟨i, rfl, hi⟩ | ⟨s, rfl, hs⟩
  · refine fnRt (d := .str (mkS [110, 111, 110, 101])) (S' := S) ?_ exit_str
    rw [show startD 4 [D.non] = [some .non, none, none, none] from by simp [startD_c, startD_n]]
    unfold g__law_text
    refine stN (e := [some .non, none, none, none]) (S' := S) (by simp [Ty.isa]) ?_
    refine stN (e := [some .non, none, none, none]) (S' := S) (by simp [Ty.isa]) ?_
    simp [qn]
  · have e : mkS (wrF (.int i)) = (Str.ofString (toString i)) := mk_cp
    rw [e]
    have lg := log_ok hi
    refine fnRt (d := .str (toString i : String)) (S' := S) ?_ exit_str
    rw [show startD 4 [D.int i] = [some (.int i), none, none, none] from by simp [startD_c, startD_n]]
    unfold g__law_text
    refine stN (e := [some (.int i), none, none, none]) (S' := S) (by simp [Ty.isa]) ?_
    refine stN (e := [some (.int i), none, none, none]) (S' := S) (by simp [Ty.isa]) ?_
    simp [lg]
  · have wl : (wrWord (cp s)).length ≤ 1000000 := by
      have h2 : (wrF (.str s)).length = (wrWord (cp s)).length + 2 := by simp [wrF]
      omega
    have sl := wrWord_len (cp s)
    have lc := lcD_map (S := S) (b := bName 2) (elt := g__law_text_e2 (d__law_text_n k)) (env := [some (.str s), none, none, none]) (fun d => match d with | .str y => .str (mkS ((cp y).flatMap wrSign)) | d => d) (signsD s) (fun d hd => by
      obtain ⟨c, _, rfl⟩ := List.mem_map.mp hd
      refine ⟨_, rfl, ?_⟩
      refine (ltext_e2 (c := c)).trans ?_
      show _ = ER.ok (D.str (mkS ((cp (sg c)).flatMap wrSign))) S
      rw [cp_sg]; simp) (by unfold signsD; rw [List.length_map]; show (cp s).length ≤ _; omega)
    have ml : (signsD s).map (fun d => match d with | .str y => D.str (mkS ((cp y).flatMap wrSign)) | d => d) = ((cp s).map wrSign).map fun a => D.str (mkS a) := by
      unfold signsD
      rw [List.map_map, List.map_map]
      refine List.map_congr_left fun c _ => ?_
      show D.str (mkS ((cp (sg c)).flatMap wrSign)) = _
      rw [cp_sg]; simp
    rw [ml] at lc
    have fl : ((cp s).map wrSign).flatten = wrWord (cp s) := by unfold wrWord; rw [List.flatMap_def]
    have j := mJoin_flat (S := S) (l := (cp s).map wrSign) (by rw [fl]; omega)
    rw [fl] at j
    have e : mkS (wrF (.str s)) = (("\"" : Str) ++ mkS (wrWord (cp s))) ++ "\"" := by
      rw [q34]
      show mkS (34 :: (wrWord (cp s) ++ [34])) = _
      refine cp_inj ?_
      rw [cp_app, cp_app, cp_mk, cp_mk]; rfl
    have c1 := sz_is (show ("\"" : Str).length + (mkS (wrWord (cp s))).length ≤ 16777216 by rw [mk_len, show ("\"" : Str).length = 1 from by decide +kernel]; omega)
    have c2 := sz_is (show (("\"" : Str) ++ mkS (wrWord (cp s))).length + ("\"" : Str).length ≤ 16777216 by rw [PySem.Str.length_append, mk_len, show ("\"" : Str).length = 1 from by decide +kernel]; omega)
    have jt : tyD "str" S (.str "") = true := rfl
    rw [e]
    refine fnRt (d := .str ((("\"" : Str) ++ mkS (wrWord (cp s))) ++ "\"")) (S' := S) ?_ exit_str
    rw [show startD 4 [D.str s] = [some (.str s), none, none, none] from by simp [startD_c, startD_n]]
    unfold g__law_text
    refine stN (e := [some (.str s), none, none, none]) (S' := S) (by simp [Ty.isa]) ?_
    refine stR (d := .str ((("\"" : Str) ++ mkS (wrWord (cp s))) ++ "\"")) (S' := S) ?_ rfl
    refine ifTB (by simp [Ty.isa]; rfl) ?_
    refine stN (e := [some (.str s), some (.lst (((cp s).map wrSign).map fun a => D.str (mkS a))), none, none]) (S' := S) (by simp [lc]) ?_
    simp [eMeth, jt, j, c1, c2, -PySem.Str.length_append, -List.map_map]
theorem ltext_ok : ∀ {n : Nat} {d : D}, Tg n d → ∀ (k : Nat) (S : Store), n < k → (wr n d).length ≤ 1000000 → d__law_text_n k [d] S = .ok (.str (mkS (wr n d))) S
  | n, d, .fl h, k, S, hk, hl => by
    obtain ⟨k, rfl⟩ : ∃ j, k = j + 1 := ⟨k - 1, by omega⟩
    rw [wrF_fl h] at hl ⊢
    exact ltext_flat h k hl
  | _, _, .tup (n := n) (ds := ds) h, k, S, hk, hl => by
    obtain ⟨k, rfl⟩ : ∃ j, k = j + 1 := ⟨k - 1, by omega⟩
    have hi : (inter (ds.map (wr n))).length + 2 ≤ 1000000 := by
      have : (wr (n + 1) (.tup ds)).length = (inter (ds.map (wr n))).length + 2 := by simp [wr]
      omega
    have dl : ds.length ≤ 1000000 := by
      have := inter_sum (ds.map (wr n))
      rw [List.length_map] at this; omega
    have lc := lcD_map (S := S) (b := bName 3) (elt := g__law_text_e1 (d__law_text_n k)) (env := [some (.tup ds), none, none, none]) (fun d => .str (mkS (wr n d))) ds (fun d hd => by
      have e := ltext_ok (h d hd) k S (by omega) (Nat.le_trans (wr_len hd) (by omega))
      exact ⟨_, rfl, by unfold g__law_text_e1; simp [e]⟩) (by omega)
    have j := mJoin_things (S := S) (l := ds.map (wr n)) (by omega)
    rw [List.map_map] at j
    have e : mkS (wr (n + 1) (.tup ds)) = ("(" : Str) ++ mkS (inter (ds.map (wr n))) ++ ")" := by
      refine cp_inj ?_
      rw [cp_app, cp_app, cp_mk, cp_mk, q40, q41]; simp [wr, cp_sg]
    have c1 := sz_is (show ("(" : Str).length + (mkS (inter (ds.map (wr n)))).length ≤ 16777216 by rw [mk_len, show ("(" : Str).length = 1 from by decide +kernel]; omega)
    have c2 := sz_is (show (("(" : Str) ++ mkS (inter (ds.map (wr n)))).length + (")" : Str).length ≤ 16777216 by rw [PySem.Str.length_append, mk_len, show ("(" : Str).length = 1 from by decide +kernel, show (")" : Str).length = 1 from by decide +kernel]; omega)
    have jt : tyD "str" S (.str ", ") = true := rfl
    rw [e]
    refine fnRt (d := .str (("(" : Str) ++ mkS (inter (ds.map (wr n))) ++ ")")) (S' := S) ?_ exit_str
    rw [show startD 4 [D.tup ds] = [some (.tup ds), none, none, none] from by simp [startD_c, startD_n]]
    unfold g__law_text
    refine stR (d := .str (("(" : Str) ++ mkS (inter (ds.map (wr n))) ++ ")")) (S' := S) ?_ rfl
    have j' : mJoin (.str ", ") [.lst (ds.map fun d => .str (mkS (wr n d)))] S = .ok (.str (mkS (inter (ds.map (wr n))))) S := j
    simp [Ty.isa, eMeth, jt, lc, j', c1, c2, -PySem.Str.length_append]
end DX
end
section
/-! Things drawn. -/
namespace DX
open PySem L2 DL PySem.NumText
variable [DL.Nm]
variable {S : Store} {x : Str} {T : Store} {c : Cell} {m : Nat}
theorem wr_mono : ∀ {n : Nat} {d : D}, Tg n d → ∀ {j : Nat}, n ≤ j → wr j d = wr n d
  | n, d, .fl h, j, _ => by rw [wrF_fl h, wrF_fl h]
  | _, _, .tup (n := n) (ds := ds) h, j, hj => by
    obtain ⟨j, rfl⟩ : ∃ i, j = i + 1 := ⟨j - 1, by omega⟩
    show 40 :: (inter (ds.map (wr j)) ++ [41]) = 40 :: (inter (ds.map (wr n)) ++ [41])
    rw [List.map_congr_left fun d hd => wr_mono (h d hd) (show n ≤ j by omega)]
theorem Fl.frz {d : D} (h : Fl d) (ρ : Nat → Option D) : frzD ρ d = some d := by
  rcases h with rfl | ⟨i, rfl, _⟩ | ⟨s, rfl, _⟩ <;> rfl
theorem frzDs_all {ρ : Nat → Option D} : ∀ {ds : List D}, (∀ d ∈ ds, frzD ρ d = some d) → frzDs ρ ds = some ds
  | [], _ => rfl
  | d :: ds, h => by
    show (frzD ρ d).bind (fun a => (frzDs ρ ds).map (a :: ·)) = _
    rw [h d List.mem_cons_self, frzDs_all fun x hx => h x (List.mem_cons_of_mem _ hx)]; rfl
theorem Tg.frz {n : Nat} {d : D} (h : Tg n d) (ρ : Nat → Option D) : frzD ρ d = some d := by
  induction h with
  | fl h => exact h.frz ρ
  | tup h ih => show (frzDs ρ _).map D.tup = _; rw [frzDs_all ih]; rfl
theorem nextX (n : Int) (d : Drw c m) (hm : m ≤ 100000) (hn : 0 < n) (hn2 : n < 1073741824) :
    ∃ (k : Nat) (c' : Cell), d__law_next [.loc 0, .int n] (c :: T) = .ok (.int (k : Int)) (c' :: T) ∧ (k : Int) < n ∧ Drw c' (m + 1) := by
  obtain ⟨x, c', e, h0, h1, d'⟩ := next_ok (S := c :: T) (l := 0) (n := n) rfl d hm hn hn2
  obtain ⟨k, rfl⟩ := Int.eq_ofNat_of_zero_le h0
  exact ⟨k, c', e, h1, d'⟩
theorem pickX (ds : List D) (d : Drw c m) (hm : m ≤ 100000) (hn : ds ≠ []) (hn2 : ds.length < 1073741824) :
    ∃ x ∈ ds, ∃ c', d__law_pick [.loc 0, .lst ds] (c :: T) = .ok x (c' :: T) ∧ Drw c' (m + 1) := pick_ok (S := c :: T) (l := 0) rfl d hm hn hn2
theorem pickS (x : Str) (d : Drw c m) (hm : m ≤ 100000) (hn : cp x ≠ []) (hn2 : x.length ≤ 1000000) :
    ∃ k ∈ cp x, ∃ c', d__law_pick [.loc 0, .str x] (c :: T) = .ok (.str (sg k)) (c' :: T) ∧ Drw c' (m + 1) := by
  have hp : 0 < x.length := by rw [← cp_len]; exact List.length_pos_iff.mpr hn
  obtain ⟨i, c', e, h1, d'⟩ := nextX (T := T) (x.length : Int) d hm (by omega) (by omega)
  have hi : i < (cp x).length := by rw [cp_len]; omega
  have st := st_at (x := x) (a := i) (c := (cp x)[i]) (r := (cp x).drop (i + 1)) (List.drop_eq_getElem_cons hi)
  have zx := sz_is (show x.length ≤ 16777216 by omega)
  refine ⟨_, List.getElem_mem hi, c', ?_, d'⟩
  simp [d__law_pick, g__law_pick, e, zx, st]
theorem sign_ok (d : Drw c m) (hm : m ≤ 100000) : ∃ k c', d__law_any_sign [.loc 0] (c :: T) = .ok (.str (sg k)) (c' :: T) ∧ (32 ≤ k ∧ k ≤ 126) ∧ Drw c' (m + 1) := by
  have all : ∀ k ∈ cp " !\"#$&'()*+,-./0123456789:;<=>?@ABCDEFGHIJKLMNOPQRSTUVWXYZ[\\]^_`abcdefghijklmnopqrstuvwxyz{|}~", 32 ≤ k ∧ k ≤ 126 := by decide +kernel
  obtain ⟨k, hk, c', e, d'⟩ := pickS (T := T) " !\"#$&'()*+,-./0123456789:;<=>?@ABCDEFGHIJKLMNOPQRSTUVWXYZ[\\]^_`abcdefghijklmnopqrstuvwxyz{|}~" d hm (by decide +kernel) (by decide +kernel)
  exact ⟨k, c', by simp [d__law_any_sign, g__law_any_sign, e], all k hk, d'⟩
theorem ten_loop {a0 : Option D} : ∀ (ds : List D) (v : Int) (w : Option D), ∃ w', forD (bName 2) g__law_ten_b1 ds [a0, some (.int v), w] S = .nx [a0, some (.int (v * 10 ^ ds.length)), w'] S
  | [], v, w => ⟨w, by simp [forD]⟩
  | d :: ds, v, w => by
    obtain ⟨w', e⟩ := ten_loop ds (v * 10) (some d)
    refine ⟨w', forC (e1 := [a0, some (.int v), some d]) (e2 := [a0, some (.int (v * 10)), some d]) (S' := S) rfl ?_ ?_⟩
    · unfold g__law_ten_b1
      simp
    · rw [e, List.length_cons, Int.pow_succ, Int.mul_assoc, Int.mul_comm 10]
theorem ten_ok {n : Nat} (hn : n ≤ 1000) : d__law_ten [.int (n : Int)] S = .ok (.int (10 ^ n)) S := by
  obtain ⟨w', e⟩ := ten_loop (S := S) (a0 := some (.int (n : Int))) (rangeD 0 n) 1 none
  rw [range_len, Int.one_mul] at e
  have r1 : rOk (n : Int) := rOk_n (by omega)
  refine fnRt (d := .int (10 ^ n)) (S' := S) ?_ exit_int
  rw [show startD 3 [D.int (n : Int)] = [some (.int (n : Int)), none, none] from by simp [startD_c, startD_n]]
  unfold g__law_ten
  refine stN (e := [some (.int (n : Int)), some (.int 1), none]) (S' := S) (by simp) ?_
  refine stN (e := [some (.int (n : Int)), some (.int (10 ^ n)), w']) (S' := S) ?_ (by simp)
  have z := sz_is (show n ≤ 16777216 by omega)
  simp [r1, z, e]
def Pr (w : List Nat) : Prop := ∀ k ∈ w, 32 ≤ k ∧ k ≤ 126
abbrev wD2 (w : List Nat) : D := .str (mkS w)
def someW : List (List Nat) := [[34], [92], [110, 111, 110, 101], [40], [41], [44, 32], [45, 49], [97], [32], [92, 34], [34, 34], [126], [49]]
theorem words_loop {r : FD} {a1 a2 a3 : Option D} : ∀ (ds : List D) (f : List (List Nat)) (w : Option D) (c : Cell) (m : Nat), Drw c m → m + 2 * ds.length ≤ 100000 → f.length + ds.length ≤ 1000 → (∀ u ∈ f, Pr u ∧ u.length ≤ 4) →
    ∃ (f' : List (List Nat)) (w' : Option D) (c' : Cell), forD (bName 6) (g__law_thing_b1 r) ds [some (.loc 0), a1, a2, a3, some (.lst (someW.map wD2)), some (.loc 1), w] [c, .lst (f.map wD2)] = .nx [some (.loc 0), a1, a2, a3, some (.lst (someW.map wD2)), some (.loc 1), w'] [c', .lst (f'.map wD2)] ∧
      (∀ u ∈ f', Pr u ∧ u.length ≤ 4) ∧ f'.length = f.length + ds.length ∧ Drw c' (m + 2 * ds.length) := by
  intro ds
  induction ds with
  | nil => intro f w c m d _ _ hf; exact ⟨f, w, c, by simp [forD], hf, by simp, d⟩
  | cons k ds ih =>
    intro f w c m d hm hl hf
    simp only [List.length_cons] at hm hl
    have one : ∃ (u : List Nat) (c1 : Cell), (g__law_thing_b1 r) [some (.loc 0), a1, a2, a3, some (.lst (someW.map wD2)), some (.loc 1), some k] [c, .lst (f.map wD2)] = .nx [some (.loc 0), a1, a2, a3, some (.lst (someW.map wD2)), some (.loc 1), some k] [c1, .lst ((f ++ [u]).map wD2)] ∧ (Pr u ∧ u.length ≤ 4) ∧ Drw c1 (m + 2) := by
      obtain ⟨i, c1, e1, h1, d1⟩ := nextX (T := [.lst (f.map wD2)]) 2 d (by omega) (by omega) (by omega)
      have zf := sz_is (show f.length + 1 ≤ 16777216 by omega)
      by_cases hi : (i : Int) = 0
      · obtain ⟨x, hx, c2, e2, d2⟩ := pickX (T := [.lst (f.map wD2)]) (someW.map wD2) d1 (by omega) (by simp [someW]) (by simp [someW])
        obtain ⟨u, hu, rfl⟩ := List.mem_map.mp hx
        have all : ∀ u ∈ someW, Pr u ∧ u.length ≤ 4 := by unfold Pr; decide
        refine ⟨u, c2, ?_, all u hu, d2⟩
        unfold g__law_thing_b1
        rw [hi] at e1
        simp only [sDrop_is, eMeth]
        simp [e1, e2, tyD, listD, mAppend, cellL, zf]
      · obtain ⟨k2, c2, e2, hk2, d2⟩ := sign_ok (T := [.lst (f.map wD2)]) d1 (by omega)
        refine ⟨[k2], c2, ?_, ⟨fun z hz => by rcases List.mem_singleton.mp hz with rfl; exact hk2, by simp⟩, d2⟩
        unfold g__law_thing_b1
        have hi' : ¬ i = 0 := by omega
        simp only [sDrop_is, eMeth]
        simp [e1, e2, tyD, listD, mAppend, cellL, zf, hi', sg_mk]
    obtain ⟨u, c1, e1, hu, d1⟩ := one
    obtain ⟨f', w', c', e2, h1, h2, h3⟩ := ih (f ++ [u]) (some k) c1 (m + 2) d1 (by omega) (by simp; omega) (fun z hz => by
      rcases List.mem_append.mp hz with hz | hz
      · exact hf z hz
      · rcases List.mem_singleton.mp hz with rfl; exact hu)
    exact ⟨f', w', c', forC (e1 := [some (.loc 0), a1, a2, a3, some (.lst (someW.map wD2)), some (.loc 1), some k]) rfl e1 e2, h1, by rw [h2]; simp; omega, by rw [show m + 2 * (k :: ds).length = m + 2 + 2 * ds.length by simp; omega]; exact h3⟩
theorem wrWord_le (s : List Nat) : (wrWord s).length ≤ 2 * s.length := by
  induction s with
  | nil => simp [wrWord]
  | cons c s ih =>
    have : (wrSign c).length ≤ 2 := by unfold wrSign; split <;> simp
    unfold wrWord at ih ⊢
    rw [List.flatMap_cons, List.length_append, List.length_cons]; omega
def Lg : Nat → Nat
  | 0 => 100
  | n + 1 => 3 * Lg n + 10
def Sg : Nat → Nat
  | 0 => 12
  | n + 1 => 4 * Sg n + 12
theorem Lg_ge : ∀ n, 100 ≤ Lg n
  | 0 => Nat.le_refl _
  | n + 1 => by have := Lg_ge n; unfold Lg; omega
theorem Sg_ge : ∀ n, 12 ≤ Sg n
  | 0 => Nat.le_refl _
  | n + 1 => by have := Sg_ge n; unfold Sg; omega
structure Good (n : Nat) (L : Nat) (d : D) : Prop where
  tg : Tg n d
  len : (wr n d).length ≤ L
theorem int_wr {i : Int} {k : Nat} (h : i.natAbs < 10 ^ (k + 1)) : (cp (toString i : String)).length ≤ k + 2 := by
  cases i with
  | ofNat n =>
    have := dg_len (n := n) (k := k) h
    rw [show cp (toString (Int.ofNat n) : String) = dg n from cp_nat n]; omega
  | negSucc n =>
    have := dg_len (n := n + 1) (k := k) h
    rw [cp_neg, List.length_cons]; omega
theorem good_int {n : Nat} {i : Int} (h : i.natAbs < 10 ^ 41) : Good n 100 (.int i) := by
  have lt : (10 : Nat) ^ 41 ≤ 10 ^ 400 := Nat.pow_le_pow_right (by decide) (by decide)
  have f : Fl (.int i) := .inr (.inl ⟨i, rfl, Nat.lt_of_lt_of_le h lt⟩)
  refine ⟨.fl f, ?_⟩
  rw [wrF_fl f]
  have := int_wr (k := 40) h
  show (cp (toString i : String)).length ≤ 100
  omega
theorem good_str {n : Nat} {w : List Nat} (h : Pr w) (hl : w.length ≤ 40) : Good n 100 (.str (mkS w)) := by
  have f : Fl (.str (mkS w)) := .inr (.inr ⟨mkS w, rfl, by rw [cp_mk]; exact h⟩)
  refine ⟨.fl f, ?_⟩
  rw [wrF_fl f]
  show (34 :: (wrWord (cp (mkS w)) ++ [34])).length ≤ 100
  rw [cp_mk]
  have := wrWord_le w
  simp; omega
theorem good_non {n : Nat} : Good n 100 .non := ⟨.fl (.inl rfl), by rw [wrF_fl (.inl rfl)]; decide⟩
theorem Good.up {n j L L' : Nat} {d : D} (h : Good n L d) (hn : n ≤ j) (hL : L ≤ L') : Good j L' d := ⟨h.tg.mono hn, by rw [wr_mono h.tg hn]; exact Nat.le_trans h.len hL⟩
theorem inter_up : ∀ l : List (List Nat), (inter l).length ≤ (l.map List.length).sum + l.length * 2
  | [] => by simp [inter]
  | [x] => by simp [inter]
  | x :: y :: r => by
    have := inter_up (y :: r)
    unfold inter
    simp only [List.map_cons, List.sum_cons, List.length_cons, List.length_append] at this ⊢
    omega
theorem sum_up {α : Type} {g : α → Nat} {B : Nat} : ∀ l : List α, (∀ a ∈ l, g a ≤ B) → (l.map g).sum ≤ l.length * B
  | [], _ => by simp
  | a :: l, h => by
    have h1 := h a List.mem_cons_self
    have h2 := sum_up l fun b hb => h b (List.mem_cons_of_mem _ hb)
    simp only [List.map_cons, List.sum_cons, List.length_cons, Nat.succ_mul]; omega
theorem good_tup {n L : Nat} {ds : List D} (h : ∀ d ∈ ds, Good n L d) : Good (n + 1) (ds.length * (L + 2) + 2) (.tup ds) := by
  refine ⟨.tup fun d hd => (h d hd).tg, ?_⟩
  have e : (wr (n + 1) (.tup ds)).length = (inter (ds.map (wr n))).length + 2 := by simp [wr]
  have h1 := inter_up (ds.map (wr n))
  rw [List.map_map, List.length_map] at h1
  have h2 := sum_up (g := List.length ∘ wr n) (B := L) ds fun d hd => (h d hd).len
  rw [e, Nat.mul_add]; omega
theorem exit_tgX {n : Nat} {d : D} {c c' : Cell} {T : Store} (h : Tg n d) (hd : Drw c' m) : exitD .pure [c] d (c' :: T) = .ok d [c'] := exit_draw (h.frz _) hd.bel
abbrev gE (n : Nat) (a2 a3 a4 a5 a6 : Option D) : EnvD := [some (.loc 0), some (.int (n : Int)), a2, a3, a4, a5, a6]
theorem someW_is : [D.str "\"", D.str "\\", D.str "none", D.str "(", D.str ")", D.str ", ", D.str "-1", D.str "a", D.str " ", D.str "\\\"", D.str "\"\"", D.str "~", D.str "1"] = someW.map wD2 := by
  have e : (["\"", "\\", "none", "(", ")", ", ", "-1", "a", " ", "\\\"", "\"\"", "~", "1"] : List Str) = someW.map mkS := by decide +kernel
  have q := congrArg (List.map D.str) e
  rw [List.map_map] at q
  exact q
def nums (k : Nat) : List D := [.int 0, .int 1, .int 7, .int (-1), .int 10, .int (-10), .int 1000000000, .int ((k : Int) - 2500), .int 1000000000000000000000000000000000000007, .int (-999999999999999999999999999999)]
theorem nums_good {n k : Nat} (hk : k < 5000) : ∀ x ∈ nums k, Good n 100 x := by
  intro x hx
  have big : (10 : Int) ^ 39 + 7 < 10 ^ 41 := by decide
  unfold nums at hx
  simp only [List.mem_cons, List.not_mem_nil, or_false] at hx
  rcases hx with rfl | rfl | rfl | rfl | rfl | rfl | rfl | rfl | rfl | rfl
  all_goals first
    | (refine good_int ?_; decide)
    | (refine good_int ?_
       have : (5000 : Nat) < 10 ^ 41 := by decide
       omega)
theorem run_ok {r : FD} {n : Nat} (d : Drw c m) (hm : m + Sg n ≤ 90000) (hr : ∀ n', n = n' + 1 → ∀ (c : Cell) (m : Nat), Drw c m → m + Sg n' ≤ 90000 → ∃ d c', r [.loc 0, .int (n' : Int)] [c] = .ok d [c'] ∧ Good n' (Lg n') d ∧ Drw c' (m + Sg n')) :
    ∃ d c' T, g__law_thing r (gE n none none none none none) [c] = .rt d (c' :: T) ∧ Good n (Lg n) d ∧ Drw c' (m + Sg n) := by
  have hS := Sg_ge n
  have hL := Lg_ge n
  obtain ⟨i, c1, e1, h1, d1⟩ := nextX (T := []) 8 d (by omega) (by omega) (by omega)
  have s1 : (sAsg (eCall d__law_next (lCons (eVar 0) (lCons (eC (.int 8)) lNil))) (bName 2)) (gE n none none none none none) [c] = .nx (gE n (some (.int (i : Int))) none none none none) [c1] := by simp [e1]
  unfold g__law_thing
  by_cases c0 : i < 2
  · obtain ⟨k, c2, e2, h2, d2⟩ := nextX (T := []) 5000 d1 (by omega) (by omega) (by omega)
    obtain ⟨x, hx, c3, e3, d3⟩ := pickX (T := []) (nums k) d2 (by omega) (by simp [nums]) (by simp [nums])
    have t39 := ten_ok (S := [c2]) (n := 39) (by decide)
    have t30 := ten_ok (S := [c2]) (n := 30) (by decide)
    have t39' : d__law_ten [.int 39] [c2] = .ok (.int (10 ^ 39)) [c2] := t39
    have t30' : d__law_ten [.int 30] [c2] = .ok (.int (10 ^ 30)) [c2] := t30
    refine ⟨x, c3, [], ?_, (nums_good (by omega) x hx).up (Nat.le_refl _) hL, d3.mono (by omega)⟩
    refine stN s1 ?_
    refine stR (d := x) (S' := [c3]) ?_ rfl
    refine ifTB (S' := [c1]) (by simp; omega) ?_
    refine stN (e := gE n (some (.int (i : Int))) (some (.lst (nums k))) none none none) (S' := [c2]) (by
      simp [e2, t39', t30', nums]) ?_
    simp [e3]
  · have c0i : ¬ (i : Int) < 2 := by omega
    by_cases c2 : i = 2
    · refine ⟨.non, c1, [], ?_, good_non.up (Nat.le_refl _) hL, d1.mono (by omega)⟩
      refine stN s1 ?_
      refine stN (e := gE n (some (.int (i : Int))) none none none none) (S' := [c1]) (by simp [c0i]) ?_
      refine stR (d := .non) (S' := [c1]) (by subst c2; simp) rfl
    · have c2i : ¬ (i : Int) = 2 := by omega
      by_cases c5 : i < 5 ∨ n = 0
      · obtain ⟨k, cc, e2, h2, d2⟩ := nextX (T := [.lst []]) 5 d1 (by omega) (by omega) (by omega)
        obtain ⟨f', w', c', e3, h3, h4, d3⟩ := words_loop (r := r) (a1 := some (.int (n : Int))) (a2 := some (.int (i : Int))) (a3 := none) (rangeD 0 k) [] none cc (m + 1 + 1) d2 (by rw [range_len]; omega) (by rw [range_len]; simp; omega) (by simp)
        rw [range_len] at h4 d3
        have hpr : Pr f'.flatten := fun z hz => by
          obtain ⟨u, hu, hz⟩ := List.mem_flatten.mp hz
          exact (h3 u hu).1 z hz
        have hfl : f'.flatten.length ≤ 16 := by
          rw [List.length_flatten]
          have := sum_up (g := List.length) (B := 4) f' fun u hu => (h3 u hu).2
          simp at h4; omega
        have j := mJoin_flatC (S := [c', .lst (f'.map wD2)]) (l := f') (n := 1) rfl (by omega)
        refine ⟨.str (mkS f'.flatten), c', [.lst (f'.map wD2)], ?_, (good_str hpr (by omega)).up (Nat.le_refl _) hL, d3.mono (by omega)⟩
        have e3' : forD (bName 6) (g__law_thing_b1 r) (rangeD 0 k) (gE n (some (.int (i : Int))) none (some (.lst (someW.map wD2))) (some (.loc 1)) none) [cc, .lst []] = .nx (gE n (some (.int (i : Int))) none (some (.lst (someW.map wD2))) (some (.loc 1)) w') [c', .lst (f'.map wD2)] := e3
        have e2' : d__law_next [.loc 0, .int 5] [c1, .lst []] = .ok (.int (k : Int)) [cc, .lst []] := e2
        have r1 : rOk (k : Int) := rOk_n (by omega)
        have zk := sz_is (show k ≤ 16777216 by omega)
        have jt : tyD "str" [c', .lst (f'.map wD2)] (.str "") = true := rfl
        refine stN s1 ?_
        refine stN (e := gE n (some (.int (i : Int))) none none none none) (S' := [c1]) (by simp [c0i]) ?_
        refine stN (e := gE n (some (.int (i : Int))) none none none none) (S' := [c1]) (by simp [c2i]) ?_
        refine stR (d := .str (mkS f'.flatten)) (S' := [c', .lst (f'.map wD2)]) ?_ rfl
        refine ifTB (S' := [c1]) (by
          by_cases q : i < 5
          · have q' : (i : Int) < 5 := by omega
            simp [q']
          · have : n = 0 := c5.resolve_left q
            have q' : ¬ (i : Int) < 5 := by omega
            simp [q', this]) ?_
        refine stN (e := gE n (some (.int (i : Int))) none (some (.lst (someW.map wD2))) none none) (S' := [c1]) (by rw [← someW_is]; simp) ?_
        refine stN (e := gE n (some (.int (i : Int))) none (some (.lst (someW.map wD2))) (some (.loc 1)) none) (S' := [c1, .lst []]) (by simp) ?_
        refine stN (e := gE n (some (.int (i : Int))) none (some (.lst (someW.map wD2))) (some (.loc 1)) w') (S' := [c', .lst (f'.map wD2)]) (by
          simp only [sFor_is]
          simp [e2', r1, zk, e3']) ?_
        simp [eMeth, jt, j]
      · obtain ⟨n', hn'⟩ : ∃ n', n = n' + 1 := ⟨n - 1, by omega⟩
        subst hn'
        obtain ⟨k, cc, e2, h2, d2⟩ := nextX (T := []) 4 d1 (by omega) (by omega) (by omega)
        have hS' : Sg (n' + 1) = 4 * Sg n' + 12 := rfl
        have hk4 : k ≤ 3 := by omega
        have hkS : Sg n' * k ≤ Sg n' * 3 := Nat.mul_le_mul_left _ hk4
        obtain ⟨l, c', e3, hl, hP, d3⟩ := DR.lc_draw (fun d : D => d) (fun d => Good n' (Lg n') d) (Sg n') 6 (90000 - Sg n') (elt := g__law_thing_e1 r) (env := gE (n' + 1) (some (.int (i : Int))) none none none none) (fun kk c m d hm => by
          obtain ⟨x, c', e, g, d'⟩ := hr n' rfl c m d (by omega)
          refine ⟨x, c', ?_, g, d'⟩
          unfold g__law_thing_e1
          simp [e]) (rangeD 0 k) [] cc (m + 1 + 1) d2 (by rw [range_len]; omega) (by rw [range_len]; simp; omega)
        rw [range_len] at hl d3
        rw [List.nil_append, List.map_id'] at e3
        have gd := good_tup hP
        have r1 : rOk (k : Int) := rOk_n (by omega)
        have zk := sz_is (show k ≤ 16777216 by omega)
        have c5a : ¬ (i : Int) < 5 := fun z => c5 (.inl (by omega))
        have c5b : ¬ ((n' : Int) + 1 = 0) := by omega
        have hlk : l.length * (Lg n' + 2) ≤ 3 * (Lg n' + 2) := Nat.mul_le_mul_right _ (by omega)
        refine ⟨.tup l, c', [], ?_, gd.up (Nat.le_refl _) (by show _ ≤ 3 * Lg n' + 10; omega), d3.mono (by omega)⟩
        refine stN s1 ?_
        refine stN (e := gE (n' + 1) (some (.int (i : Int))) none none none none) (S' := [c1]) (by simp [c0i]) ?_
        refine stN (e := gE (n' + 1) (some (.int (i : Int))) none none none none) (S' := [c1]) (by simp [c2i]) ?_
        refine stN (e := gE (n' + 1) (some (.int (i : Int))) none none none none) (S' := [c1]) (by simp [c5a, c5b]) ?_
        have e3' : lcD (bName 6) eYes (g__law_thing_e1 r) [some (.loc 0), some (.int ((n' : Int) + 1)), some (.int (i : Int)), none, none, none, none] [] (rangeD 0 k) [cc] = .ok l [c'] := e3
        simp [e2, r1, zk, e3']
theorem thing_ok : ∀ (n k : Nat) (c : Cell) (m : Nat), n < k → Drw c m → m + Sg n ≤ 90000 →
    ∃ d c', d__law_thing_n k [.loc 0, .int (n : Int)] [c] = .ok d [c'] ∧ Good n (Lg n) d ∧ Drw c' (m + Sg n) := by
  intro n
  induction n with
  | zero =>
    intro k c m hk d hm
    obtain ⟨k, rfl⟩ : ∃ j, k = j + 1 := ⟨k - 1, by omega⟩
    obtain ⟨x, c', T, e, g, d'⟩ := run_ok (r := d__law_thing_n k) (n := 0) d hm (fun n' h => by omega)
    refine ⟨x, c', fnRt (d := x) (S' := c' :: T) ?_ (exit_tgX g.tg d'), g, d'⟩
    rw [show startD 7 [D.loc 0, D.int ((0 : Nat) : Int)] = gE 0 none none none none none from by simp [startD_c, startD_n]]
    exact e
  | succ n ih =>
    intro k c m hk d hm
    obtain ⟨k, rfl⟩ : ∃ j, k = j + 1 := ⟨k - 1, by omega⟩
    obtain ⟨x, c', T, e, g, d'⟩ := run_ok (r := d__law_thing_n k) (n := n + 1) d hm (fun n' h c1 m1 d1 hm1 => by
      have e : n' = n := by omega
      rw [e] at hm1 ⊢
      exact ih k c1 m1 (by omega) d1 hm1)
    refine ⟨x, c', fnRt (d := x) (S' := c' :: T) ?_ (exit_tgX g.tg d'), g, d'⟩
    rw [show startD 7 [D.loc 0, D.int ((n + 1 : Nat) : Int)] = gE (n + 1) none none none none none from by simp [startD_c, startD_n]]
    exact e
end DX
end
section
/-! The law's own reading: words and numbers. -/
namespace DX
open PySem L2 DL PySem.NumText
variable [DL.Nm]
variable {S : Store} {x : Str}
theorem notin_twoL {l : List Nat} : opNotIn (.str (mkS l)) (.lst [.str "\"", .str "\\"]) S = .ok (.bl (!(decide (l = [34]) || decide (l = [92])))) S := by
  rw [opNotIn_ll]
  show (if (flatD (.str (mkS l)) && [D.str "\"", D.str "\\"].all flatD) = true then ER.ok (D.bl (!(eqF (.str "\"") (.str (mkS l)) || (eqF (.str "\\") (.str (mkS l)) || false)))) S else _) = _
  rw [if_pos (show (flatD (.str (mkS l)) && [D.str "\"", D.str "\\"].all flatD) = true from rfl)]
  have e : ∀ u : Str, eqF (.str u) (.str (mkS l)) = decide (l = cp u) := fun u => by
    show decide (u = mkS l) = _
    rw [← mk_eq]
    exact decide_eq_decide.mpr ⟨fun z => z.symm, fun z => z.symm⟩
  rw [e, e, Bool.or_false, q34, q92, cp_sg, cp_sg]
abbrev lE (x : Str) (a l : Nat) (w : Option D) : EnvD := [some (.str x), some (.int (a : Int)), some (.loc l), w]
def lOut (S : Store) (x : Str) (f : List Nat) : Option (List Nat × List Nat) → SR → Prop
  | some (s, r), q => q = .rt (.tup [.str (mkS (f ++ s)), .int ((x.length - r.length : Nat) : Int)]) (tS S (f ++ s))
  | none, q => (∃ f', q = .rt .non (tS S f')) ∨ ∃ f' e, q = .nx e (tS S f')
theorem lcond_ge {a : Nat} {f : List Nat} {w : Option D} (hx : x.length ≤ 10000000) (h : a = x.length) : g__law_read_word_c1 (lE x a S.length w) (tS S f) = .ok (.bl false) (tS S f) := by
  subst h
  unfold g__law_read_word_c1
  simp [sz_is (show x.length ≤ 16777216 by omega)]
theorem lcond_lt {a : Nat} {f : List Nat} {w : Option D} {c : Nat} {r : List Nat} (hx : x.length ≤ 10000000) (h : (cp x).drop a = c :: r) : g__law_read_word_c1 (lE x a S.length w) (tS S f) = .ok (.bl true) (tS S f) := by
  have hl : a < x.length := by
    rw [← cp_len]
    have := congrArg List.length h
    simp only [List.length_drop, List.length_cons] at this
    omega
  unfold g__law_read_word_c1
  simp [sz_is (show x.length ≤ 16777216 by omega), hl]
theorem join_at {f : List Nat} (hf : f.length < 10000000) : mJoin (.str "") [.loc S.length] (tS S f) = .ok (.str (mkS f)) (tS S f) := by
  have hs : ((f.map sg).map (·.length)).sum + (f.map sg).length * ("" : Str).length ≤ 16777216 := by
    have e : ∀ l : List Nat, ((l.map sg).map (·.length)).sum = l.length := fun l => by
      induction l with
      | nil => rfl
      | cons c l ih => simp only [List.map_cons, List.sum_cons, ih, List.length_cons]; rw [show (sg c).length = 1 from rfl]; omega
    rw [e, show ("" : Str).length = 0 from rfl]; omega
  have j := mJoin_c (S := tS S f) (a := "") (ys := f.map sg) (l := S.length) (by rw [tS_at]; simp [sD, List.map_map, Function.comp_def]) hs
  rwa [join_sg] at j
theorem lbody_q {a : Nat} {f : List Nat} {w : Option D} {r : List Nat} (hx : x.length ≤ 10000000) (h : (cp x).drop a = 34 :: r) (hf : f.length < 10000000) :
    g__law_read_word_b1 (lE x a S.length w) (tS S f) = .rt (.tup [.str (mkS f), .int ((a : Int) + 1)]) (tS S f) := by
  have e := st_at h
  have z := sz_is (show x.length ≤ 16777216 by omega)
  have j := join_at (S := S) hf
  have jt : tyD "str" (tS S f) (.str "") = true := rfl
  have t34 : decide (sg 34 = sg 34) = true := decide_eq_true rfl
  unfold g__law_read_word_b1
  refine stN (e := lE x a S.length (some (.str (sg 34)))) (S' := tS S f) (by simp [e, z]) ?_
  exact stR (d := .tup [.str (mkS f), .int ((a : Int) + 1)]) (S' := tS S f) (by simp [q34, j, jt]) rfl
theorem lbody_ok {a : Nat} {f : List Nat} {w : Option D} {c : Nat} {r : List Nat} (hx : x.length ≤ 10000000) (h : (cp x).drop a = c :: r) (h34 : c ≠ 34) (h92 : c ≠ 92) (hf : f.length < 10000000) :
    g__law_read_word_b1 (lE x a S.length w) (tS S f) = if 32 ≤ c ∧ c ≤ 126 then .nx (lE x (a + 1) S.length (some (.str (sg c)))) (tS S (f ++ [c])) else .rt .non (tS S f) := by
  have e := st_at h
  have z := sz_is (show x.length ≤ 16777216 by omega)
  have e92 : decide (sg c = sg 92) = false := by rw [sg_eq]; exact decide_eq_false h92
  have e34 : decide (sg c = sg 34) = false := by rw [sg_eq]; exact decide_eq_false h34
  have l1 := le_sg (S := tS S f) (c := 32) (d := c)
  have l2 := le_sg (S := tS S f) (c := c) (d := 126)
  have ap := app_at (S := S) (c := c) hf
  have zf := sz_is (show f.length + 1 ≤ 16777216 by omega)
  unfold g__law_read_word_b1
  refine stN (e := lE x a S.length (some (.str (sg c)))) (S' := tS S f) (by simp [e, z]) ?_
  refine stN (e := lE x a S.length (some (.str (sg c)))) (S' := tS S f) (by simp [q34, e34]) ?_
  refine stN (e := lE x a S.length (some (.str (sg c)))) (S' := tS S f) (by simp [q92, e92]) ?_
  by_cases p1 : 32 ≤ c
  · by_cases p2 : c ≤ 126
    · simp [-opLeS_s, q32, q126, l1, l2, p1, p2, ap, zf, tS]
    · simp [-opLeS_s, q32, q126, l1, l2, p1, p2, ap]
  · simp [-opLeS_s, q32, q126, l1, l2, p1, ap]
theorem lbody_esc {a : Nat} {f : List Nat} {w : Option D} {d : Nat} {r : List Nat} (hx : x.length ≤ 10000000) (h : (cp x).drop a = 92 :: d :: r) (hf : f.length < 10000000) :
    g__law_read_word_b1 (lE x a S.length w) (tS S f) = if d = 34 ∨ d = 92 then .nx (lE x (a + 2) S.length (some (.str (sg d)))) (tS S (f ++ [d])) else .rt .non (tS S f) := by
  have e := st_at h
  have h1 := tail_drop h
  have sl := sl12 (S := tS S f) (a := a) hx
  rw [h1] at sl
  have z := sz_is (show x.length ≤ 16777216 by omega)
  have zf := sz_is (show f.length + 1 ≤ 16777216 by omega)
  have ni := notin_twoL (S := tS S f) (l := [d])
  have l1 := le_sg (S := tS S f) (c := 32) (d := d)
  have l2 := le_sg (S := tS S f) (c := d) (d := 126)
  have ap := app_at (S := S) (c := d) hf
  have sl' : slDS (.str x) (some ((a : Int) + 1)) (some ((a : Int) + 1 + 1)) (tS S f) = .ok (.str (sg d)) (tS S f) := by
    have : (a : Int) + 1 + 1 = (a : Int) + 2 := by omega
    rw [this]; simpa [sg_mk] using sl
  have n92 : decide (sg 92 = sg 34) = false := by rw [sg_eq]; rfl
  rw [sg_mk] at ni
  have i2 : (a : Int) + 1 + 1 = ((a + 2 : Nat) : Int) := by omega
  unfold g__law_read_word_b1
  refine stN (e := lE x a S.length (some (.str (sg 92)))) (S' := tS S f) (by simp [e, z]) ?_
  refine stN (e := lE x a S.length (some (.str (sg 92)))) (S' := tS S f) (by simp [q34, n92]) ?_
  by_cases q : d = 34 ∨ d = 92
  · have p1 : 32 ≤ d := by omega
    have p2 : d ≤ 126 := by omega
    have n1 : (!(decide ([d] = [34]) || decide ([d] = [92]))) = false := by
      rcases q with rfl | rfl <;> rfl
    rw [n1, q34, q92] at ni
    rw [if_pos q]
    refine stN (e := lE x (a + 1) S.length (some (.str (sg d)))) (S' := tS S f) (by
      simp [q92, q34, eSliceS_is, oSome, -opNotIn_ll, sl', ni]) ?_
    refine stN (e := lE x (a + 1) S.length (some (.str (sg d)))) (S' := tS S f) (by simp [-opLeS_s, q32, q126, l1, l2, p1, p2]) ?_
    simp [ap, zf, tS]
    try omega
  · have n1 : (!(decide ([d] = [34]) || decide ([d] = [92]))) = true := by
      have h1 : ¬ d = 34 := fun z => q (.inl z)
      have h2 : ¬ d = 92 := fun z => q (.inr z)
      simp [h1, h2]
    rw [n1, q34, q92] at ni
    rw [if_neg q]
    exact stR (d := .non) (S' := tS S f) (by simp [q92, q34, eSliceS_is, oSome, -opNotIn_ll, sl', ni]) rfl
theorem lbody_esc0 {a : Nat} {f : List Nat} {w : Option D} (hx : x.length ≤ 10000000) (h : (cp x).drop a = [92]) :
    g__law_read_word_b1 (lE x a S.length w) (tS S f) = .rt .non (tS S f) := by
  have e := st_at h
  have h1 := tail_drop h
  have sl := sl12 (S := tS S f) (a := a) hx
  rw [h1] at sl
  have z := sz_is (show x.length ≤ 16777216 by omega)
  have ni := notin_twoL (S := tS S f) (l := [])
  have sl' : slDS (.str x) (some ((a : Int) + 1)) (some ((a : Int) + 1 + 1)) (tS S f) = .ok (.str (mkS [])) (tS S f) := by
    have : (a : Int) + 1 + 1 = (a : Int) + 2 := by omega
    rw [this]; simpa using sl
  have n92 : decide (sg 92 = sg 34) = false := by rw [sg_eq]; rfl
  rw [show (!(decide (([] : List Nat) = [34]) || decide (([] : List Nat) = [92]))) = true from rfl, q34, q92] at ni
  unfold g__law_read_word_b1
  refine stN (e := lE x a S.length (some (.str (sg 92)))) (S' := tS S f) (by simp [e, z]) ?_
  refine stN (e := lE x a S.length (some (.str (sg 92)))) (S' := tS S f) (by simp [q34, n92]) ?_
  exact stR (d := .non) (S' := tS S f) (by simp [q92, q34, eSliceS_is, oSome, -opNotIn_ll, sl', ni]) rfl
theorem lword_loop (hx : x.length ≤ 10000000) : ∀ (t : List Nat) (a : Nat) (f : List Nat) (w : Option D) (n : Nat), (cp x).drop a = t → a + t.length = x.length → f.length + t.length < 10000000 → t.length < n →
    lOut S x f (rdWord t) (whileD g__law_read_word_c1 g__law_read_word_b1 n (lE x a S.length w) (tS S f))
  | [], a, f, w, n, h, ha, hf, hn => by
    obtain ⟨n, rfl⟩ : ∃ m, n = m + 1 := ⟨n - 1, by omega⟩
    simp at ha
    rw [whileD_succ, lcond_ge hx ha]
    exact .inr ⟨f, _, rfl⟩
  | [c], a, f, w, n, h, ha, hf, hn => by
    obtain ⟨n, rfl⟩ : ∃ m, n = m + 1 := ⟨n - 1, by omega⟩
    simp at ha hn hf
    rw [whileD_succ, lcond_lt hx h]
    unfold rdWord
    by_cases q : c = 34
    · subst q
      rw [if_pos rfl]
      simp only [lbody_q hx h (show f.length < 10000000 by omega)]
      show _ = _
      rw [List.append_nil, ← ha]; rfl
    · rw [if_neg q]
      have fin : ∀ g w, lOut S x f none (whileD g__law_read_word_c1 g__law_read_word_b1 n (lE x (a + 1) S.length w) (tS S g)) := fun g w => by
        obtain ⟨n, rfl⟩ : ∃ m, n = m + 1 := ⟨n - 1, by omega⟩
        rw [whileD_succ, lcond_ge hx ha]
        exact .inr ⟨g, _, rfl⟩
      by_cases q2 : c = 92
      · subst q2
        simp only [lbody_esc0 hx h]
        exact .inl ⟨f, rfl⟩
      · simp only [lbody_ok hx h q q2 (show f.length < 10000000 by omega)]
        by_cases q3 : 32 ≤ c ∧ c ≤ 126
        · rw [if_pos q3]; exact fin _ _
        · rw [if_neg q3]; exact .inl ⟨f, rfl⟩
  | c :: d :: r, a, f, w, n, h, ha, hf, hn => by
    obtain ⟨n, rfl⟩ : ∃ m, n = m + 1 := ⟨n - 1, by omega⟩
    simp only [List.length_cons] at ha hn hf
    rw [whileD_succ, lcond_lt hx h]
    have h1 := tail_drop h
    have h2 := tail_drop h1
    have step : ∀ (e : Nat) (u : Option (List Nat × List Nat)) (q : SR), lOut S x (f ++ [e]) u q → lOut S x f (u.map (pre e)) q := fun e u q w => by
      cases u with
      | none => exact w
      | some p => obtain ⟨s, r⟩ := p; simpa [lOut, pre] using w
    unfold rdWord
    by_cases q : c = 34
    · subst q
      rw [if_pos rfl]
      simp only [lbody_q hx h (show f.length < 10000000 by omega)]
      show _ = _
      rw [List.append_nil, List.length_cons, ← ha, show a + (r.length + 1 + 1) - (r.length + 1) = a + 1 by omega]; rfl
    · rw [if_neg q]
      by_cases q2 : c = 92
      · subst q2
        rw [if_pos rfl]
        simp only [lbody_esc hx h (by omega : f.length < 10000000)]
        by_cases q3 : d = 34 ∨ d = 92
        · rw [if_pos q3, if_pos q3]
          exact step d _ _ (lword_loop hx r (a + 2) (f ++ [d]) _ n h2 (by omega) (by simp; omega) (by omega))
        · rw [if_neg q3, if_neg q3]; exact .inl ⟨f, rfl⟩
      · rw [if_neg q2]
        simp only [lbody_ok hx h q q2 (show f.length < 10000000 by omega)]
        by_cases q3 : 32 ≤ c ∧ c ≤ 126
        · rw [if_pos q3, if_pos q3]
          exact step c _ _ (lword_loop hx (d :: r) (a + 1) (f ++ [c]) _ n h1 (by simp; omega) (by simp; omega) (by simp; omega))
        · rw [if_neg q3, if_neg q3]; exact .inl ⟨f, rfl⟩
theorem lword_ok {a : Nat} (hx : x.length ≤ 1000000) (ha : a ≤ x.length) : d__law_read_word [.str x, .int (a : Int)] S = .ok (wD x (rdWord ((cp x).drop a))) S := by
  have hl : ((cp x).drop a).length = x.length - a := by rw [List.length_drop, cp_len]
  have w := lword_loop (S := S) (show x.length ≤ 10000000 by omega) _ a [] none bigN rfl (by rw [hl]; omega) (by rw [hl]; simp; omega) (by rw [hl]; unfold bigN; omega)
  have st : startD 4 [D.str x, D.int (a : Int)] = [some (.str x), some (.int (a : Int)), none, none] := by simp [startD_c, startD_n]
  have s1 : (sAsg (eLstM lNil) (bName 2)) [some (.str x), some (.int (a : Int)), none, none] S = .nx (lE x a S.length none) (tS S []) := by simp
  cases hr : rdWord ((cp x).drop a) with
  | none =>
    rw [hr] at w
    rcases w with ⟨f', hw⟩ | ⟨f', e, hw⟩
    · refine fnRt (d := .non) (S' := tS S f') ?_ (exit_dat (m := [.lst (f'.map sD)]) (fun _ => rfl))
      rw [st]; unfold g__law_read_word
      exact stN s1 (stR hw rfl)
    · refine fnRt (d := .non) (S' := tS S f') ?_ (exit_dat (m := [.lst (f'.map sD)]) (fun _ => rfl))
      rw [st]; unfold g__law_read_word
      exact stN s1 (stN hw (by simp))
  | some p =>
    obtain ⟨s, r⟩ := p
    rw [hr] at w
    simp only [lOut, List.nil_append] at w
    refine fnRt (d := wD x (some (s, r))) (S' := tS S s) ?_ (exit_dat (m := [.lst (s.map sD)]) (fun _ => rfl))
    rw [st]; unfold g__law_read_word
    exact stN s1 (stR w rfl)
end DX
end
section
/-! The law's own reading: numbers, tuples, things. -/
namespace DX
open PySem L2 DL PySem.NumText
variable [DL.Nm]
variable {S : Store} {x : Str}
theorem lnum_b {a e : Nat} : g__law_read_number_b1 (nE x a e) S = .nx (nE x a (e + 1)) S := by
  unfold g__law_read_number_b1
  simp
theorem lnum_loop (hx : x.length ≤ 10000000) {a : Nat} : ∀ (t : List Nat) (e n : Nat), (cp x).drop e = t → e + t.length = x.length → t.length < n → a < e →
    whileD g__law_read_number_c1 g__law_read_number_b1 n (nE x a e) S = .nx (nE x a (e + (t.takeWhile isDig).length)) S
  | [], e, n, h, hl, hn, he => by
    obtain ⟨n, rfl⟩ : ∃ m, n = m + 1 := ⟨n - 1, by omega⟩
    simp at hl
    rw [whileD_succ]
    have c : g__law_read_number_c1 (nE x a e) S = .ok (.bl false) S := by
      unfold g__law_read_number_c1
      simp [sz_is (show x.length ≤ 16777216 by omega), hl]
    rw [c]; rfl
  | c :: r, e, n, h, hl, hn, he => by
    obtain ⟨n, rfl⟩ : ∃ m, n = m + 1 := ⟨n - 1, by omega⟩
    simp only [List.length_cons] at hl hn
    have i := st_at h
    have f := in_figs (S := S) (c := c)
    have hlt : (e : Int) < (x.length : Int) := by omega
    have hne : ¬ (e : Int) = (a : Int) := by omega
    rw [whileD_succ]
    have cc : g__law_read_number_c1 (nE x a e) S = .ok (.bl (isDig c)) S := by
      unfold g__law_read_number_c1
      cases hd : isDig c with
      | true => rw [hd] at f; simp [sz_is (show x.length ≤ 16777216 by omega), hlt, i, f]
      | false => rw [hd] at f; simp [sz_is (show x.length ≤ 16777216 by omega), hlt, i, f, hne]
    rw [cc, List.takeWhile_cons]
    cases hd : isDig c with
    | false => rfl
    | true =>
      dsimp only
      rw [lnum_b]
      dsimp only
      rw [lnum_loop hx r (e + 1) n (tail_drop h) (by omega) (by omega) (by omega)]
      simp [Nat.add_assoc, Nat.add_comm 1]
theorem lnum_all (hx : x.length ≤ 10000000) {a : Nat} {t : List Nat} (h : (cp x).drop a = t) (hl : a + t.length = x.length) :
    whileD g__law_read_number_c1 g__law_read_number_b1 bigN (nE x a a) S = .nx (nE x a (a + ((if isNeg t then 1 else 0) + (figs t).length))) S := by
  obtain ⟨n, hn⟩ : ∃ n, bigN = n + 1 := ⟨bigN - 1, by unfold bigN; omega⟩
  have hb : t.length < n := by
    have : n = bigN - 1 := by omega
    rw [this]; unfold bigN; omega
  rw [hn, whileD_succ]
  cases t with
  | nil =>
    simp at hl
    have c : g__law_read_number_c1 (nE x a a) S = .ok (.bl false) S := by
      unfold g__law_read_number_c1
      simp [sz_is (show x.length ≤ 16777216 by omega), hl]
    rw [c]; rfl
  | cons c r =>
    simp only [List.length_cons] at hl hb
    have i := st_at h
    have f := in_figs (S := S) (c := c)
    have hlt : (a : Int) < (x.length : Int) := by omega
    have e45 : decide (sg c = sg 45) = isNeg (c :: r) := by rw [sg_eq]; unfold isNeg; simp
    have cc : g__law_read_number_c1 (nE x a a) S = .ok (.bl (isDig c || isNeg (c :: r))) S := by
      unfold g__law_read_number_c1
      cases hd : isDig c with
      | true => rw [hd] at f; simp [sz_is (show x.length ≤ 16777216 by omega), hlt, i, f]
      | false => rw [hd] at f; simp [sz_is (show x.length ≤ 16777216 by omega), hlt, i, f, q45, e45]
    rw [cc]
    by_cases hN : isNeg (c :: r) = true
    · rw [hN, Bool.or_true, if_pos rfl]
      dsimp only
      rw [lnum_b]
      dsimp only
      rw [lnum_loop hx r (a + 1) n (tail_drop h) (by omega) (by omega) (by omega)]
      unfold figs afterS
      rw [if_pos hN, Nat.add_assoc]; rfl
    · have hN' : isNeg (c :: r) = false := by simpa using hN
      rw [hN', Bool.or_false]
      unfold figs afterS
      rw [hN']
      show (match ER.ok (D.bl (isDig c)) S with
        | .ok (.bl true) S1 => _
        | .ok (.bl false) S1 => _
        | .ex x S1 => _
        | _ => SR.bad) = SR.nx (nE x a (a + (0 + (List.takeWhile isDig (c :: r)).length))) S
      rw [List.takeWhile_cons]
      cases hd : isDig c with
      | false => rfl
      | true =>
        dsimp only
        rw [lnum_b]
        dsimp only
        rw [lnum_loop hx r (a + 1) n (tail_drop h) (by omega) (by omega) (by omega)]
        simp [Nat.add_assoc, Nat.add_comm 1]
theorem sl_to {l : List Nat} (h : l.length ≤ 10000000) : slDS (.str (mkS l)) none (some 1) S = .ok (.str (mkS (l.take 1))) S := by
  have e := sl_gen (S := S) (x := mkS l) (a := 0) (by rw [mk_len]; exact h) 1 rfl
  rw [slDS_s] at e ⊢
  rw [cp_mk, List.drop_zero] at e
  exact e
theorem sl_from {l : List Nat} (h : l.length ≤ 10000000) : slDS (.str (mkS l)) (some 1) none S = .ok (.str (mkS (l.drop 1))) S := by
  rw [slDS_s, if_pos (show sz (mkS l).length from by show _ ≤ 16777216; rw [mk_len]; omega)]
  have e : cutS (mkS l) (some 1) none = mkS (l.drop 1) := by
    unfold cutS
    rw [show HT.sIx (mkS l).length 0 (some 1) = min 1 (mkS l).length from HT.sIx_nat _ _ 1, HT.sIx_none, mk_len]
    refine cp_inj ?_
    rw [cp_mk]
    show (List.take _ (List.drop _ (cp (mkS l)))).toArray.toList = _
    rw [cp_mk, List.toList_toArray]
    by_cases q : 1 ≤ l.length
    · rw [Nat.min_eq_left q, List.take_of_length_le (by rw [List.length_drop]; omega)]
    · have : l = [] := List.length_eq_zero_iff.mp (by omega)
      subst this; rfl
  rw [e]
theorem lnumber_ok {a : Nat} (hx : x.length ≤ 1000000) (ha : a ≤ x.length) : d__law_read_number [.str x, .int (a : Int)] S = .ok (nD x (rdNum ((cp x).drop a))) S := by
  have hx' : x.length ≤ 10000000 := by omega
  generalize ht : (cp x).drop a = t
  have hlt : t.length = x.length - a := by rw [← ht, List.length_drop, cp_len]
  have hneg1 : isNeg t = true → 1 ≤ t.length := fun h => by
    cases t with
    | nil => exact absurd h (by decide)
    | cons c r => simp
  have hla : (if isNeg t then 1 else 0) + (afterS t).length = t.length := by
    unfold afterS
    by_cases h : isNeg t = true
    · have := hneg1 h; rw [if_pos h, if_pos h, List.length_tail]; omega
    · rw [if_neg h, if_neg h]; omega
  have h2 := lnum_all (S := S) hx' ht (by omega)
  have h3 := sl_gen (S := S) (x := x) (a := a) hx' ((if isNeg t then 1 else 0) + (figs t).length) rfl
  rw [ht, numW_take] at h3
  have hfl : (figs t).length ≤ (afterS t).length := (List.takeWhile_sublist _).length_le
  have hwl : (numW t).length ≤ 1000000 := by
    unfold numW
    by_cases h : isNeg t = true
    · rw [if_pos h] at *; simp; omega
    · rw [if_neg h] at *; omega
  have k1 := sl_to (S := S) (l := numW t) (by omega)
  have k2 := sl_from (S := S) (l := numW t) (by omega)
  have dk : decide (mkS ((numW t).take 1) = sg 45) = isNeg t := by
    rw [mk_eq, cp_sg, take1]
    unfold numW
    by_cases h : isNeg t = true
    · rw [if_pos h, h]; rfl
    · have h' : isNeg t = false := by simpa using h
      rw [if_neg h, h']
      refine decide_eq_false fun z => ?_
      cases hq : figs t with
      | nil => rw [hq] at z; cases z
      | cons c r =>
        rw [hq] at z
        have : c = 45 := by simpa using z
        have := figs_dig (t := t) c (by rw [hq]; simp)
        subst_vars
        exact absurd this (by decide)
  have hrest : ((afterS t).drop (figs t).length).length = x.length - (a + ((if isNeg t then 1 else 0) + (figs t).length)) := by
    rw [List.length_drop]; omega
  have hle : a + ((if isNeg t then 1 else 0) + (figs t).length) ≤ x.length := by omega
  generalize a + ((if isNeg t then 1 else 0) + (figs t).length) = e at h2 h3 hrest hle
  have R : nD x (rdNum t) = if numBad (isNeg t) (figs t) = true then .non else .tup [.int (if isNeg t then -((digitsVal (figs t) : Nat) : Int) else ((digitsVal (figs t) : Nat) : Int)), .int (e : Int)] := by
    unfold rdNum
    split
    · rfl
    · show D.tup [_, .int ((x.length - ((afterS t).drop (figs t).length).length : Nat) : Int)] = _
      rw [hrest, show x.length - (x.length - e) = e by omega]
  refine fnRt (d := nD x (rdNum t)) (S' := S) ?_ (exit_same (by rw [R]; split <;> rfl))
  unfold g__law_read_number
  rw [show startD 5 [D.str x, D.int (a : Int)] = [some (.str x), some (.int (a : Int)), none, none, none] from by simp [startD_c, startD_n]]
  refine stN (e := nE x a a) (S' := S) (by simp) (stN (show (sWhile _ _) _ _ = _ from h2) ?_)
  refine stN (e := [some (.str x), some (.int (a : Int)), some (.int (e : Int)), some (.str (mkS (numW t))), none]) (S' := S) (by simp [eSliceS_is, oSome, h3]) ?_
  refine stN (e := [some (.str x), some (.int (a : Int)), some (.int (e : Int)), some (.str (mkS (numW t))), some (.str (mkS (figs t)))]) (S' := S) (by
    cases hN : isNeg t with
    | true =>
      rw [hN] at dk
      have w1 : (numW t).drop 1 = figs t := by unfold numW; rw [if_pos hN]; rfl
      rw [w1] at k2
      simp [eSliceS_is, oSome, oNone, k1, k2, q45, dk]
    | false =>
      rw [hN] at dk
      have w1 : numW t = figs t := by unfold numW; rw [if_neg (by rw [hN]; simp)]
      simp [eSliceS_is, oSome, oNone, k1, q45, dk]
      rw [w1]) ?_
  rw [R]
  have zf := sz_is (show (mkS (figs t)).length ≤ 16777216 by rw [mk_len]; omega)
  have d0 : decide (mkS (figs t) = mkS []) = decide (figs t = []) := by rw [mk_eq, cp_mk]
  by_cases f0 : figs t = []
  · rw [if_pos (by unfold numBad; rw [decide_eq_true f0]; rfl)]
    rw [decide_eq_true f0] at d0
    exact stR (d := .non) (S' := S) (by simp [qe, d0]) rfl
  · rw [decide_eq_false f0] at d0
    have lf : (((mkS (figs t)).length : Nat) : Int) = ((figs t).length : Int) := by rw [mk_len]
    by_cases f4 : 400 < (figs t).length
    · rw [if_pos (by unfold numBad; rw [decide_eq_true f4]; simp)]
      have : (400 : Int) < ((mkS (figs t)).length : Int) := by rw [lf]; omega
      exact stR (d := .non) (S' := S) (by simp [qe, d0, zf, this]) rfl
    · have hn : ¬ (400 : Int) < ((mkS (figs t)).length : Int) := by rw [lf]; omega
      obtain ⟨c, r, hc⟩ := List.exists_cons_of_ne_nil f0
      have si : strAt (mkS (figs t)) 0 = some (.str (sg c)) := st_at (a := 0) (x := mkS (figs t)) (r := r) (by rw [cp_mk, hc]; rfl)
      have dc : decide (sg c = sg 48) = decide ((figs t).head? = some 48) := by rw [sg_eq, hc]; simp
      have dw : decide (mkS (numW t) = sg 48) = (!isNeg t && decide (figs t = [48])) := by
        rw [mk_eq, cp_sg]
        unfold numW
        cases hN : isNeg t with
        | true => simp
        | false => simp
      have q0 : ("0" : Str) = sg 48 := by decide +kernel
      have B : numBad (isNeg t) (figs t) = (decide ((figs t).head? = some 48) && !(!isNeg t && decide (figs t = [48]))) := by
        unfold numBad; rw [decide_eq_false f0, decide_eq_false f4]; rfl
      have hi := int_numW f0 (by omega : (figs t).length ≤ 400)
      have hwl' : (mkS (numW t)).length ≤ 640 := by
        rw [mk_len]
        unfold numW
        split
        · simp; omega
        · omega
      rw [B]
      by_cases g1 : (figs t).head? = some 48
      · rw [decide_eq_true g1] at dc ⊢
        by_cases g2 : (!isNeg t && decide (figs t = [48])) = true
        · rw [g2] at dw ⊢
          rw [if_neg (by simp)]
          refine stN (e := [some (.str x), some (.int (a : Int)), some (.int (e : Int)), some (.str (mkS (numW t))), some (.str (mkS (figs t)))]) (S' := S) (by simp [qe, d0, zf, hn, si, q0, dc, dw]) ?_
          simp [hwl', hi]
        · have g2' : (!isNeg t && decide (figs t = [48])) = false := by simpa using g2
          rw [g2'] at dw ⊢
          rw [if_pos (by simp)]
          exact stR (d := .non) (S' := S) (by simp [qe, d0, zf, hn, si, q0, dc, dw]) rfl
      · rw [decide_eq_false g1] at dc ⊢
        rw [if_neg (by simp)]
        refine stN (e := [some (.str x), some (.int (a : Int)), some (.int (e : Int)), some (.str (mkS (numW t))), some (.str (mkS (figs t)))]) (S' := S) (by simp [qe, d0, zf, hn, si, q0, dc, dw]) ?_
        simp [hwl', hi]
end DX
end
section
/-! The law's own reading: tuples, things, whole texts. -/
namespace DX
open PySem L2 DL PySem.NumText
variable [DL.Nm]
variable {S : Store} {x : Str}
abbrev vE (x : Str) (a n l : Nat) (w4 : Option D) : EnvD := [some (.str x), some (.int (a : Int)), some (.int (n : Int)), some (.loc l), w4]
theorem ltup_loop {rf : FD} {rd : List Nat → Option (D × List Nat)} {n : Nat} (hx : x.length ≤ 1000000) (ok : RdOk rd)
    (hr : ∀ (a : Nat) (S' : Store), a ≤ x.length → rf [.str x, .int (a : Int), .int (n : Int)] S' = .ok (thD x (rd ((cp x).drop a))) S') :
    ∀ (k : Nat) (a m : Nat) (f : List D) (w4 : Option D), a ≤ x.length → ((cp x).drop a).length ≤ k → k < m → f.length + k < 10000000 →
      uOut S x f (rdTup rd k ((cp x).drop a)) (whileD (g__law_read_tuple_c1 rf) (g__law_read_tuple_b1 rf) m (vE x a (n + 1) S.length w4) (uS S f)) := by
  have hx' : x.length ≤ 10000000 := by omega
  have zx := sz_is (show x.length ≤ 16777216 by omega)
  have hp : (0 : Int) < (n : Int) + 1 := by omega
  have hcond : ∀ (a : Nat) (w4 : Option D) (f : List D), g__law_read_tuple_c1 rf (vE x a (n + 1) S.length w4) (uS S f) = .ok (.bl true) (uS S f) := fun a w4 f => by
    unfold g__law_read_tuple_c1
    simp [hp]
  intro k
  induction k with
  | zero =>
    intro a m f w4 ha hl hm hf
    obtain ⟨m, rfl⟩ : ∃ j, m = j + 1 := ⟨m - 1, by omega⟩
    have hn : rd ((cp x).drop a) = none := by
      cases e : rd ((cp x).drop a) with
      | none => rfl
      | some p => have := (ok _ p.1 p.2 e).2.1; omega
    have hc := hr a (uS S f) ha
    rw [hn] at hc
    rw [whileD_succ, hcond]
    have b : g__law_read_tuple_b1 rf (vE x a (n + 1) S.length w4) (uS S f) = .rt .non (uS S f) := by
      unfold g__law_read_tuple_b1
      refine stN (e := vE x a (n + 1) S.length (some .non)) (S' := uS S f) ?_ ?_
      · simp [hc, thD]
      · exact stR (d := .non) (S' := uS S f) (by simp) rfl
    dsimp only
    rw [b]
    exact ⟨f, rfl⟩
  | succ k ih =>
    intro a m f w4 ha hl hm hf
    obtain ⟨m, rfl⟩ : ∃ j, m = j + 1 := ⟨m - 1, by omega⟩
    have hc := hr a (uS S f) ha
    rw [whileD_succ, hcond]
    dsimp only
    unfold rdTup
    cases e : rd ((cp x).drop a) with
    | none =>
      rw [e] at hc
      have b : g__law_read_tuple_b1 rf (vE x a (n + 1) S.length w4) (uS S f) = .rt .non (uS S f) := by
        unfold g__law_read_tuple_b1
        refine stN (e := vE x a (n + 1) S.length (some .non)) (S' := uS S f) ?_ ?_
        · simp [hc, thD]
        · exact stR (d := .non) (S' := uS S f) (by simp) rfl
      rw [b]
      exact ⟨f, rfl⟩
    | some p =>
      obtain ⟨d, r⟩ := p
      rw [e] at hc
      obtain ⟨o1, o2, o3⟩ := ok _ d r e
      have sx : r <:+ cp x := o1.trans (List.drop_suffix _ _)
      have hp2 := suf_pos sx
      have hrl : r.length ≤ x.length := by have := sx.length_le; rw [cp_len] at this; exact this
      dsimp only
      generalize hq : x.length - r.length = q at hc hp2
      have hc' : rf [.str x, .int (a : Int), .int (n : Int)] (uS S f) = .ok (.tup [d, .int (q : Int)]) (uS S f) := by rw [hc]; unfold thD; dsimp only; rw [hq]
      have up := uapp (S := S) (f := f) (d := d) (by omega)
      have s1 := sl1 (S := uS S (f ++ [d])) (a := q) hx'
      have s2 := sl2 (S := uS S (f ++ [d])) (a := q) hx'
      rw [hp2] at s1 s2
      have d1 : decide (mkS (r.take 1) = sg 41) = decide (r.head? = some 41) := by rw [mk_eq, cp_sg, take1]
      have d2 : decide (mkS (r.take 2) = mkS [44, 32]) = decide (r.take 2 = [44, 32]) := by rw [mk_eq, cp_mk]
      have ut := utup (S := S) (f := f ++ [d])
      have i0 : atI [d, D.int (q : Int)] 0 = some d := rfl
      have i1 : atI [d, D.int (q : Int)] 1 = some (.int (q : Int)) := rfl
      have step : g__law_read_tuple_b1 rf (vE x a (n + 1) S.length w4) (uS S f) =
          (if r.head? = some 41 then .rt (.tup [.tup (f ++ [d]), .int ((q : Int) + 1)]) (uS S (f ++ [d])) else if r.take 2 = [44, 32] then .nx (vE x (q + 2) (n + 1) S.length (some (.tup [d, .int (q : Int)]))) (uS S (f ++ [d])) else .rt .non (uS S (f ++ [d]))) := by
        unfold g__law_read_tuple_b1
        refine stN (e := vE x a (n + 1) S.length (some (.tup [d, .int (q : Int)]))) (S' := uS S f) (by simp [hc']) ?_
        refine stN (e := vE x a (n + 1) S.length (some (.tup [d, .int (q : Int)]))) (S' := uS S f) (by simp) ?_
        have ty : tyD "list" (uS S f) (.loc S.length) = true := by simp [tyD, listD]
        refine stN (e := vE x a (n + 1) S.length (some (.tup [d, .int (q : Int)]))) (S' := uS S (f ++ [d])) (by
          have zf := sz_is (show f.length + 1 ≤ 16777216 by omega)
          simp only [sDrop_is, eMeth]
          simp [ty, up, zf, i0]) ?_
        refine stN (e := vE x q (n + 1) S.length (some (.tup [d, .int (q : Int)]))) (S' := uS S (f ++ [d])) (by simp [i1]) ?_
        by_cases g1 : r.head? = some 41
        · rw [decide_eq_true g1] at d1
          rw [if_pos g1]
          exact stR (d := .tup [.tup (f ++ [d]), .int ((q : Int) + 1)]) (S' := uS S (f ++ [d])) (by simp [eSliceS_is, oSome, s1, q41, d1, ut]) rfl
        · rw [decide_eq_false g1] at d1
          rw [if_neg g1]
          refine stN (e := vE x q (n + 1) S.length (some (.tup [d, .int (q : Int)]))) (S' := uS S (f ++ [d])) (by simp [eSliceS_is, oSome, s1, q41, d1]) ?_
          by_cases g2 : r.take 2 = [44, 32]
          · rw [decide_eq_true g2] at d2
            rw [if_pos g2]
            refine stN (e := vE x q (n + 1) S.length (some (.tup [d, .int (q : Int)]))) (S' := uS S (f ++ [d])) (by simp [eSliceS_is, oSome, s2, q44, d2]) ?_
            simp
          · rw [decide_eq_false g2] at d2
            rw [if_neg g2]
            exact stR (d := .non) (S' := uS S (f ++ [d])) (by simp [eSliceS_is, oSome, s2, q44, d2]) rfl
      rw [step]
      by_cases g1 : r.head? = some 41
      · rw [if_pos g1, if_pos g1]
        have hr1 : 1 ≤ r.length := by cases r with
          | nil => cases g1
          | cons => simp
        show _ = _
        rw [List.length_tail, show ((x.length - (r.length - 1) : Nat) : Int) = (q : Int) + 1 by omega]
      · rw [if_neg g1, if_neg g1]
        by_cases g2 : r.take 2 = [44, 32]
        · rw [if_pos g2, if_pos g2]
          have hr2 : 2 ≤ r.length := by have := congrArg List.length g2; simp at this; omega
          have hd2 : (cp x).drop (q + 2) = r.drop 2 := by rw [← hp2, List.drop_drop]
          have := ih (q + 2) m (f ++ [d]) (some (.tup [d, .int (q : Int)])) (by omega) (by rw [hd2, List.length_drop]; omega) (by omega) (by simp; omega)
          rw [hd2] at this
          cases e2 : rdTup rd k (r.drop 2) with
          | none => rw [e2] at this; exact this
          | some p => rw [e2] at this; simpa [uOut] using this
        · rw [if_neg g2, if_neg g2]
          exact ⟨f ++ [d], rfl⟩
theorem ltuple_ok {rf : FD} {n a : Nat} (hx : x.length ≤ 1000000) (ha : a + 1 ≤ x.length)
    (hr : ∀ (a : Nat) (S' : Store), a ≤ x.length → rf [.str x, .int (a : Int), .int (n : Int)] S' = .ok (thD x (rdTh n ((cp x).drop a))) S') :
    d__law_read_tuple rf [.str x, .int ((a + 1 : Nat) : Int), .int ((n + 1 : Nat) : Int)] S = .ok (thD x (tupR n ((cp x).drop a))) S := by
  have hx' : x.length ≤ 10000000 := by omega
  generalize ht : (cp x).drop a = t
  have htl : (cp x).drop (a + 1) = t.tail := by rw [← List.drop_drop, ht]; cases t <;> rfl
  have hl : t.length = x.length - a := by rw [← ht, List.length_drop, cp_len]
  have s1 := sl1 (S := uS S []) (a := a + 1) hx'
  rw [htl] at s1
  have d1 : decide (mkS (t.tail.take 1) = sg 41) = decide (t.tail.head? = some 41) := by rw [mk_eq, cp_sg, take1]
  have st : startD 5 [D.str x, D.int ((a + 1 : Nat) : Int), D.int ((n + 1 : Nat) : Int)] = [some (.str x), some (.int ((a + 1 : Nat) : Int)), some (.int ((n + 1 : Nat) : Int)), none, none] := by simp [startD_c, startD_n]
  have h1 : (sAsg (eLstM lNil) (bName 3)) [some (.str x), some (.int ((a + 1 : Nat) : Int)), some (.int ((n + 1 : Nat) : Int)), none, none] S = .nx (vE x (a + 1) (n + 1) S.length none) (uS S []) := by simp
  have s1' : slDS (.str x) (some ((a : Int) + 1)) (some ((a : Int) + 1 + 1)) (uS S []) = .ok (.str (mkS (t.tail.take 1))) (uS S []) := s1
  by_cases g1 : t.tail.head? = some 41
  · rw [decide_eq_true g1] at d1
    have hr1 : 1 ≤ t.tail.length := by
      cases hq : t.tail with
      | nil => rw [hq] at g1; cases g1
      | cons => simp
    have e : thD x (tupR n t) = .tup [.tup [], .int ((a : Int) + 1 + 1)] := by
      unfold tupR
      rw [if_pos g1]
      show D.tup [_, .int ((x.length - t.tail.tail.length : Nat) : Int)] = _
      rw [List.length_tail, List.length_tail] at *
      rw [show ((x.length - (t.length - 1 - 1) : Nat) : Int) = (a : Int) + 1 + 1 by omega]
    rw [e]
    refine fnRt (d := .tup [.tup [], .int ((a : Int) + 1 + 1)]) (S' := uS S []) ?_ (exit_dat (m := [.lst []]) fun _ => rfl)
    rw [st]
    unfold g__law_read_tuple
    refine stN h1 ?_
    exact stR (d := .tup [.tup [], .int ((a : Int) + 1 + 1)]) (S' := uS S []) (by simp [eSliceS_is, oSome, s1', q41, d1]) rfl
  · rw [decide_eq_false g1] at d1
    have w := ltup_loop (S := S) (rf := rf) hx (rdTh_ok n) hr t.length (a + 1) bigN [] none ha (by rw [htl, List.length_tail]; omega) (by unfold bigN; omega) (by simp; omega)
    rw [htl] at w
    have e : tupR n t = (rdTup (rdTh n) t.length t.tail).map fun p => (.tup p.1, p.2) := by unfold tupR; rw [if_neg g1]
    rw [e]
    have go : ∀ (d : D) (f : List D), (whileD (g__law_read_tuple_c1 rf) (g__law_read_tuple_b1 rf) bigN (vE x (a + 1) (n + 1) S.length none) (uS S [])) = .rt d (uS S f) → (∀ ρ, frzD ρ d = some d) → d__law_read_tuple rf [.str x, .int ((a + 1 : Nat) : Int), .int ((n + 1 : Nat) : Int)] S = .ok d S := fun d f hw hd => by
      refine fnRt (d := d) (S' := uS S f) ?_ (exit_dat hd)
      rw [st]
      unfold g__law_read_tuple
      refine stN h1 ?_
      refine stN (e := vE x (a + 1) (n + 1) S.length none) (S' := uS S []) (by simp [eSliceS_is, oSome, s1', q41, d1]) ?_
      exact stR hw rfl
    cases hq : rdTup (rdTh n) t.length t.tail with
    | none =>
      rw [hq] at w
      obtain ⟨f', hw⟩ := w
      exact go _ f' hw fun _ => rfl
    | some p =>
      obtain ⟨ds, r⟩ := p
      rw [hq] at w
      obtain ⟨_, _, o3⟩ := rdTup_ok (rdTh_ok n) _ hq
      refine go _ _ w fun ρ => ?_
      show ((frzD ρ (.tup ds)).bind (fun a => (frzDs ρ [.int _]).map (a :: ·))).map D.tup = _
      rw [show frzD ρ (.tup ds) = some (.tup ds) from by show (frzDs ρ ds).map D.tup = _; rw [o3]; rfl]; rfl
theorem lth_flat {rf : FD} {a : Nat} {n : Int} {t : List Nat} (hx : x.length ≤ 1000000) (ha : a ≤ x.length) (ht : (cp x).drop a = t) (h40 : ¬ t.head? = some 40) :
    g__law_read_thing rf [some (.str x), some (.int (a : Int)), some (.int n)] S = .rt (thD x (rdFlat t)) S := by
  have hx' : x.length ≤ 10000000 := by omega
  have hl : t.length = x.length - a := by rw [← ht, List.length_drop, cp_len]
  have s1 := sl1 (S := S) (a := a) hx'
  rw [ht] at s1
  have d40 : decide (mkS (t.take 1) = sg 40) = false := by rw [mk_eq, cp_sg, take1]; exact decide_eq_false h40
  have d34 : decide (mkS (t.take 1) = sg 34) = decide (t.head? = some 34) := by rw [mk_eq, cp_sg, take1]
  unfold g__law_read_thing
  refine stN (e := [some (.str x), some (.int (a : Int)), some (.int n)]) (S' := S) (by simp [eSliceS_is, oSome, s1, q40, d40]) ?_
  unfold rdFlat
  by_cases g1 : t.head? = some 34
  · rw [decide_eq_true g1] at d34
    rw [if_pos g1]
    have h1 : 1 ≤ t.length := by cases t with
      | nil => cases g1
      | cons => simp
    have tx := lword_ok (S := S) (a := a + 1) hx (by omega)
    have htl : (cp x).drop (a + 1) = t.tail := by rw [← List.drop_drop, ht]; cases t <;> rfl
    rw [htl] at tx
    have e : wD x (rdWord t.tail) = thD x ((rdWord t.tail).map fun p => (.str (mkS p.1), p.2)) := by cases rdWord t.tail <;> rfl
    rw [e] at tx
    have tx' : d__law_read_word [.str x, .int ((a : Int) + 1)] S = .ok (thD x ((rdWord t.tail).map fun p => (.str (mkS p.1), p.2))) S := tx
    exact stR (d := thD x ((rdWord t.tail).map fun p => (.str (mkS p.1), p.2))) (S' := S) (by simp [eSliceS_is, oSome, s1, q34, d34, tx']) rfl
  · rw [decide_eq_false g1] at d34
    rw [if_neg g1]
    refine stN (e := [some (.str x), some (.int (a : Int)), some (.int n)]) (S' := S) (by simp [eSliceS_is, oSome, s1, q34, d34]) ?_
    have s4 := sl4 (S := S) (a := a) hx'
    rw [ht] at s4
    have d4 : decide (mkS (t.take 4) = mkS [110, 111, 110, 101]) = decide (t.take 4 = [110, 111, 110, 101]) := by rw [mk_eq, cp_mk]
    by_cases g2 : t.take 4 = [110, 111, 110, 101]
    · rw [decide_eq_true g2] at d4
      rw [if_pos g2]
      have h4 : 4 ≤ t.length := by have := congrArg List.length g2; simp at this; omega
      have e : thD x (some (D.non, t.drop 4)) = .tup [.non, .int ((a : Int) + 4)] := by
        show D.tup [_, .int ((x.length - (t.drop 4).length : Nat) : Int)] = _
        rw [List.length_drop, show ((x.length - (t.length - 4) : Nat) : Int) = (a : Int) + 4 by omega]
      rw [e]
      simp [eSliceS_is, oSome, s4, qn, d4]
    · rw [decide_eq_false g2] at d4
      rw [if_neg g2]
      have nx := lnumber_ok (S := S) (a := a) hx ha
      rw [ht] at nx
      have e : nD x (rdNum t) = thD x ((rdNum t).map fun p => (.int p.1, p.2)) := by cases rdNum t <;> rfl
      rw [e] at nx
      simp [eSliceS_is, oSome, s4, qn, d4, nx]
theorem lth_ok (hx : x.length ≤ 1000000) : ∀ (n k a : Nat) (S : Store), n < k → a ≤ x.length → d__law_read_thing_n k [.str x, .int (a : Int), .int (n : Int)] S = .ok (thD x (rdTh n ((cp x).drop a))) S := by
  have hx' : x.length ≤ 10000000 := by omega
  have st : ∀ (n : Int) (a : Nat), startD 3 [D.str x, D.int (a : Int), D.int n] = [some (.str x), some (.int (a : Int)), some (.int n)] := fun n a => by simp [startD_c, startD_n]
  intro n
  induction n with
  | zero =>
    intro k a S hk ha
    obtain ⟨k, rfl⟩ : ∃ j, k = j + 1 := ⟨k - 1, by omega⟩
    refine fnRt (d := thD x (rdTh 0 ((cp x).drop a))) (S' := S) ?_ (exit_same (frz_thD (fun d r h => (rdTh_ok 0 _ d r h).2.2) _))
    rw [show ((0 : Nat) : Int) = 0 from rfl, st]
    by_cases h40 : ((cp x).drop a).head? = some 40
    · have d40 : decide (mkS (((cp x).drop a).take 1) = sg 40) = true := by rw [mk_eq, cp_sg, take1]; exact decide_eq_true h40
      have s1 := sl1 (S := S) (a := a) hx'
      have e : rdTh 0 ((cp x).drop a) = none := by unfold rdTh; rw [if_pos h40]
      rw [e]
      unfold g__law_read_thing
      exact stR (d := .non) (S' := S) (by simp [eSliceS_is, oSome, s1, q40, d40]) rfl
    · have e : rdTh 0 ((cp x).drop a) = rdFlat ((cp x).drop a) := by unfold rdTh; rw [if_neg h40]
      rw [e]
      exact lth_flat hx ha rfl h40
  | succ n ih =>
    intro k a S hk ha
    obtain ⟨k, rfl⟩ : ∃ j, k = j + 1 := ⟨k - 1, by omega⟩
    refine fnRt (d := thD x (rdTh (n + 1) ((cp x).drop a))) (S' := S) ?_ (exit_same (frz_thD (fun d r h => (rdTh_ok (n + 1) _ d r h).2.2) _))
    rw [st]
    by_cases h40 : ((cp x).drop a).head? = some 40
    · have d40 : decide (mkS (((cp x).drop a).take 1) = sg 40) = true := by rw [mk_eq, cp_sg, take1]; exact decide_eq_true h40
      have s1 := sl1 (S := S) (a := a) hx'
      have e : rdTh (n + 1) ((cp x).drop a) = tupR n ((cp x).drop a) := by unfold rdTh; rw [if_pos h40]; rfl
      have h1 : a + 1 ≤ x.length := by
        have : 1 ≤ ((cp x).drop a).length := by
          cases hq : (cp x).drop a with
          | nil => rw [hq] at h40; cases h40
          | cons => simp
        rw [List.length_drop, cp_len] at this; omega
      have tk := ltuple_ok (S := S) (rf := d__law_read_thing_n k) (n := n) (a := a) hx h1 (fun a S' h => ih k a S' (by omega) h)
      have tk' : d__law_read_tuple (d__law_read_thing_n k) [.str x, .int ((a : Int) + 1), .int ((n : Int) + 1)] S = .ok (thD x (tupR n ((cp x).drop a))) S := tk
      have hp : (0 : Int) < (n : Int) + 1 := by omega
      rw [e]
      unfold g__law_read_thing
      exact stR (d := thD x (tupR n ((cp x).drop a))) (S' := S) (by simp [eSliceS_is, oSome, s1, q40, d40, hp, tk']) rfl
    · have e : rdTh (n + 1) ((cp x).drop a) = rdFlat ((cp x).drop a) := by unfold rdTh; rw [if_neg h40]
      rw [e]
      exact lth_flat hx ha rfl h40
def toldD (l : List Nat) : D := match rdTh 8 l with
  | some (d, []) => .lst [d]
  | _ => .lst []
theorem told_ok (hx : x.length ≤ 1000000) : d__law_told_of [.str x] S = .ok (toldD (cp x)) S := by
  have t := lth_ok hx 8 12 0 S (by decide) (Nat.zero_le _)
  rw [List.drop_zero] at t
  have t' : d__law_read_thing [.str x, .int 0, .int 8] S = .ok (thD x (rdTh 8 (cp x))) S := t
  have zx := sz_is (show x.length ≤ 16777216 by omega)
  have st : startD 2 [D.str x] = [some (.str x), none] := by simp [startD_c, startD_n]
  unfold toldD
  cases h : rdTh 8 (cp x) with
  | none =>
    rw [h] at t'
    refine fnRt (d := .lst []) (S' := S) ?_ (exit_same rfl)
    rw [st]; unfold g__law_told_of
    refine stN (e := [some (.str x), some .non]) (S' := S) (by simp [t', thD]) ?_
    simp
  | some p =>
    obtain ⟨d, r⟩ := p
    rw [h] at t'
    have ok := rdTh_ok 8 _ d r h
    have hr := ok.1.length_le
    rw [cp_len] at hr
    have i0 : ∀ y : D, atI [d, y] 0 = some d := fun y => rfl
    have i1 : ∀ y : D, atI [d, y] 1 = some y := fun y => rfl
    cases r with
    | nil =>
      refine fnRt (d := .lst [d]) (S' := S) ?_ (exit_same (by show (frzDs _ [d]).map D.lst = _; show ((frzD _ d).bind (fun a => (frzDs _ []).map (a :: ·))).map D.lst = _; rw [ok.2.2]; rfl))
      rw [st]; unfold g__law_told_of
      refine stN (e := [some (.str x), some (.tup [d, .int (x.length : Int)])]) (S' := S) (by simp [t', thD]) ?_
      simp [i0, i1, zx]
    | cons c r =>
      refine fnRt (d := .lst []) (S' := S) ?_ (exit_same rfl)
      rw [st]; unfold g__law_told_of
      simp only [List.length_cons] at hr
      have hne : ¬ ((x.length - (r.length + 1) : Nat) : Int) = (x.length : Int) := by omega
      refine stN (e := [some (.str x), some (.tup [d, .int ((x.length - (r.length + 1) : Nat) : Int)])]) (S' := S) (by simp [t', thD]) ?_
      simp [i0, i1, zx, hne]
end DX
end
section
/-! What is read is what was written (no other text tells it). -/
namespace DX
open PySem L2 DL PySem.NumText
variable [DL.Nm]
variable {S : Store} {x : Str}
theorem rdWord_back : ∀ {t s r : List Nat}, rdWord t = some (s, r) → t = wrWord s ++ 34 :: r ∧ Pr s
  | [], s, r, h => by cases h
  | [c], s, r, h => by
    unfold rdWord at h
    split at h
    · rename_i e; cases h; subst e; exact ⟨rfl, fun _ z => by cases z⟩
    · cases h
  | c :: d :: u, s, r, h => by
    unfold rdWord at h
    split at h
    · rename_i e; cases h; subst e; exact ⟨rfl, fun _ z => by cases z⟩
    · rename_i n34
      split at h
      · rename_i e92
        split at h
        · rename_i hd
          obtain ⟨⟨s', r'⟩, e, q⟩ := Option.map_eq_some_iff.mp h
          cases q
          obtain ⟨b1, b2⟩ := rdWord_back e
          subst e92
          refine ⟨?_, fun z hz => ?_⟩
          · show 92 :: d :: u = wrSign d ++ wrWord s' ++ 34 :: r'
            unfold wrSign
            rw [if_pos hd, b1]; simp
          · rcases List.mem_cons.mp hz with rfl | hz
            · omega
            · exact b2 z hz
        · cases h
      · rename_i n92
        split at h
        · rename_i hc
          obtain ⟨⟨s', r'⟩, e, q⟩ := Option.map_eq_some_iff.mp h
          cases q
          obtain ⟨b1, b2⟩ := rdWord_back e
          refine ⟨?_, fun z hz => ?_⟩
          · show c :: d :: u = wrSign c ++ wrWord s' ++ 34 :: r'
            unfold wrSign
            rw [if_neg (by omega), b1]; simp
          · rcases List.mem_cons.mp hz with rfl | hz
            · exact hc
            · exact b2 z hz
        · cases h
theorem dg_pow (n : Nat) : n < 10 ^ (dg n).length := by
  induction n using Nat.strongRecOn with
  | _ n ih =>
    by_cases h : n < 10
    · rw [dg_lt h]; simpa using h
    · have := ih (n / 10) (by omega)
      rw [dg_ge (by omega), List.length_append, List.length_singleton, Nat.pow_succ]
      omega
theorem dg_back {ds : List Nat} (h : ∀ c ∈ ds, isDig c = true) (h0 : ds ≠ []) (h1 : ds.head? = some 48 → ds = [48]) : dg (digitsVal ds) = ds := by
  have ad := allD h
  have e := toDigits_digitsVal (ds.length - 1) ds (by have := List.length_pos_iff.mpr h0; omega) ad (by
    cases ds with
    | nil => exact absurd rfl h0
    | cons c r =>
      by_cases q : c = 48
      · subst q
        have := h1 rfl
        rw [this]; exact .inl rfl
      · have := ad.head
        exact .inr ⟨c, r, rfl, by omega⟩)
  unfold dg
  rw [e, List.map_map]
  conv => rhs; rw [← List.map_id ds]
  refine List.map_congr_left fun c hc => ?_
  have := ad c hc
  have k : ∀ c : Nat, c < 58 → (Char.toNat ∘ Char.ofNat) c = id c := by decide
  exact k c (by omega)
theorem rdNum_back {t : List Nat} {i : Int} {r : List Nat} (h : rdNum t = some (i, r)) : t = cp (toString i : String) ++ r ∧ i.natAbs < 10 ^ 400 := by
  unfold rdNum at h
  split at h
  · cases h
  · rename_i hb
    have hb : numBad (isNeg t) (figs t) = false := by simpa using hb
    injection h with h
    injection h with h1 h2
    have h0 : figs t ≠ [] := fun z => by unfold numBad at hb; rw [decide_eq_true z] at hb; cases hb
    have h4 : ¬ 400 < (figs t).length := fun z => by unfold numBad at hb; rw [decide_eq_true z] at hb; simp at hb
    have h48 : (figs t).head? = some 48 → isNeg t = false ∧ figs t = [48] := fun z => by
      unfold numBad at hb
      rw [decide_eq_false h0, decide_eq_false h4, decide_eq_true z] at hb
      simpa using hb
    have db := dg_back (ds := figs t) figs_dig h0 fun z => (h48 z).2
    have af : afterS t = figs t ++ r := by
      rw [← h2]
      unfold figs
      have e := List.takeWhile_append_dropWhile (p := isDig) (l := afterS t)
      conv => lhs; rw [← e]
      congr 1
      conv => rhs; arg 2; rw [← e]
      exact List.drop_left.symm
    have lt : digitsVal (figs t) < 10 ^ 400 := by
      have := dg_pow (digitsVal (figs t))
      rw [db] at this
      exact Nat.lt_of_lt_of_le this (Nat.pow_le_pow_right (by decide) (by omega))
    by_cases hN : isNeg t = true
    · rw [if_pos hN] at h1
      have tt : t = 45 :: afterS t := by
        unfold afterS
        rw [if_pos hN]
        cases t with
        | nil => exact absurd hN (by decide)
        | cons c u =>
          have : c = 45 := by simpa [isNeg] using hN
          rw [this]; rfl
      have vp : digitsVal (figs t) ≠ 0 := fun z => by
        rw [z] at db
        have e0 : figs t = [48] := by rw [← db]; exact dg_lt (by decide)
        have := (h48 (by rw [e0]; rfl)).1
        rw [this] at hN; cases hN
      obtain ⟨v, hv⟩ : ∃ v, digitsVal (figs t) = v + 1 := ⟨digitsVal (figs t) - 1, by omega⟩
      rw [hv] at h1 lt db
      have e : i = Int.negSucc v := by rw [← h1]; rfl
      rw [e, cp_neg, db]
      refine ⟨?_, lt⟩
      conv => lhs; rw [tt, af]
      simp
    · rw [if_neg hN] at h1
      have tt : t = afterS t := by unfold afterS; rw [if_neg hN]
      rw [← h1, cp_nat, db]
      refine ⟨?_, by simpa using lt⟩
      conv => lhs; rw [tt, af]
theorem rdFlat_back {t : List Nat} {d : D} {r : List Nat} (h : rdFlat t = some (d, r)) : Fl d ∧ t = wrF d ++ r := by
  unfold rdFlat at h
  split at h
  · rename_i hh
    obtain ⟨⟨s, r'⟩, e, q⟩ := Option.map_eq_some_iff.mp h
    cases q
    obtain ⟨b1, b2⟩ := rdWord_back e
    refine ⟨.inr (.inr ⟨mkS s, rfl, by rw [cp_mk]; exact b2⟩), ?_⟩
    cases t with
    | nil => cases hh
    | cons c u =>
      have : c = 34 := by simpa using hh
      subst this
      show 34 :: u = (34 :: (wrWord (cp (mkS s)) ++ [34])) ++ r'
      rw [cp_mk, show u = _ from b1]; simp
  · split at h
    · rename_i h4
      cases h
      refine ⟨.inl rfl, ?_⟩
      conv => lhs; rw [← List.take_append_drop 4 t, h4]
      rfl
    · obtain ⟨⟨i, r'⟩, e, q⟩ := Option.map_eq_some_iff.mp h
      cases q
      obtain ⟨b1, b2⟩ := rdNum_back e
      exact ⟨.inr (.inl ⟨i, rfl, b2⟩), b1⟩
theorem rdTup_back {w : D → List Nat} {P : D → Prop} {rd : List Nat → Option (D × List Nat)} (ok : ∀ t d r, rd t = some (d, r) → P d ∧ t = w d ++ r) : ∀ (k : Nat) {t : List Nat} {ds : List D} {r : List Nat}, rdTup rd k t = some (ds, r) → ds ≠ [] ∧ (∀ d ∈ ds, P d) ∧ t = inter (ds.map w) ++ 41 :: r
  | 0, t, ds, r, h => by cases h
  | k + 1, t, ds, r, h => by
    unfold rdTup at h
    cases e : rd t with
    | none => rw [e] at h; cases h
    | some p =>
      obtain ⟨d, r1⟩ := p
      obtain ⟨o1, o2⟩ := ok t d r1 e
      rw [e] at h
      dsimp only at h
      split at h
      · rename_i h41
        cases h
        refine ⟨by simp, fun z hz => by rcases List.mem_singleton.mp hz with rfl; exact o1, ?_⟩
        cases r1 with
        | nil => cases h41
        | cons c u =>
          have : c = 41 := by simpa using h41
          subst this
          rw [o2]; rfl
      · split at h
        · rename_i h2
          obtain ⟨⟨ds', r'⟩, e2, q⟩ := Option.map_eq_some_iff.mp h
          cases q
          obtain ⟨p0, p1, p2⟩ := rdTup_back ok k e2
          refine ⟨by simp, fun z hz => ?_, ?_⟩
          · rcases List.mem_cons.mp hz with rfl | hz
            · exact o1
            · exact p1 z hz
          · cases ds' with
            | nil => exact absurd rfl p0
            | cons y ys =>
              have : r1 = 44 :: 32 :: (r1.drop 2) := by
                conv => lhs; rw [← List.take_append_drop 2 r1, h2]
                rfl
              rw [o2, this, p2]
              simp [inter]
        · cases h
theorem rdTh_back : ∀ (n : Nat) {t : List Nat} {d : D} {r : List Nat}, rdTh n t = some (d, r) → Tg n d ∧ t = wr n d ++ r
  | 0, t, d, r, h => by
    unfold rdTh at h
    split at h
    · cases h
    · obtain ⟨f, e⟩ := rdFlat_back h
      exact ⟨.fl f, by rw [wrF_fl f]; exact e⟩
  | n + 1, t, d, r, h => by
    unfold rdTh at h
    split at h
    · rename_i h40
      cases t with
      | nil => cases h40
      | cons c t =>
        have : c = 40 := by simpa using h40
        subst this
        split at h
        · rename_i h41
          cases h
          refine ⟨.tup fun x hx => (by cases hx), ?_⟩
          cases t with
          | nil => cases h41
          | cons c t =>
            have : c = 41 := by simpa using h41
            subst this; rfl
        · obtain ⟨⟨ds, r'⟩, e, q⟩ := Option.map_eq_some_iff.mp h
          cases q
          obtain ⟨p0, p1, p2⟩ := rdTup_back (w := wr n) (P := Tg n) (fun t d r h => rdTh_back n h) _ e
          refine ⟨.tup p1, ?_⟩
          show 40 :: t = (40 :: (inter (ds.map (wr n)) ++ [41])) ++ r'
          rw [show t = _ from p2]; simp
    · obtain ⟨f, e⟩ := rdFlat_back h
      exact ⟨.fl f, by rw [wrF_fl f]; exact e⟩
theorem read_good {d : D} (h : rdTh 8 (cp x) = some (d, [])) : Good 8 x.length d ∧ mkS (wr 8 d) = x := by
  obtain ⟨g, e⟩ := rdTh_back 8 h
  rw [List.append_nil] at e
  exact ⟨⟨g, by rw [← e, cp_len]; exact Nat.le_refl _⟩, by rw [← e, mk_cp]⟩
end DX
end
section
/-! Things so deep; like themselves; written and read. -/
namespace DX
open PySem L2 DL PySem.NumText
variable [DL.Nm]
variable {S : Store} {x : Str} {T : Store} {c : Cell} {m : Nat}
theorem fl_x : Fl (.str "x") := .inr (.inr ⟨"x", rfl, by decide +kernel⟩)
theorem wr_tup {n : Nat} {ds : List D} : (wr (n + 1) (.tup ds)).length = (inter (ds.map (wr n))).length + 2 := by simp [wr]
theorem wr_x {n : Nat} : (wr n (.str "x")).length = 3 := by rw [wrF_fl fl_x]; decide +kernel
theorem Good.nice {n L : Nat} {d : D} (g : Good n L d) (hL : L ≤ 100000) : Nice n d := by
  obtain ⟨t, l⟩ := g
  induction t generalizing L with
  | fl h => rcases h with rfl | ⟨i, rfl, _⟩ | ⟨s, rfl, _⟩ <;> constructor
  | tup h ih =>
    rename_i n ds
    rw [wr_tup] at l
    have h1 := inter_sum (ds.map (wr n))
    rw [List.length_map] at h1
    exact .tup (fun d hd => ih d hd (L := L) hL (Nat.le_trans (wr_len hd) (by omega))) (by omega)
/-- what is written of a thing, and read of it -/
theorem written {n L : Nat} {d : D} (g : Good n L d) (hn : n ≤ 8) (hL : L ≤ 100000) :
    d_thing_text [d] S = .ok (.str (mkS (wr 8 d))) S ∧ d__law_text [d] S = .ok (.str (mkS (wr 8 d))) S ∧ d_read_thing [.str (mkS (wr 8 d))] S = .ok d S := by
  have g8 := g.up hn hL
  have l8 := g8.len
  refine ⟨text_ok2 g8.tg 12 S (by decide) (by omega), ltext_ok g8.tg 12 S (by decide) (by omega), ?_⟩
  have r := rd_wr g8.tg [] (fun c h => by cases h)
  rw [List.append_nil] at r
  exact readThing_ok (by rw [mk_len]; omega) (by rw [cp_mk]; exact r)
end DX
end
section
/-! What is refused; texts changed by a sign. -/
namespace DX
open PySem L2 DL PySem.NumText
variable [DL.Nm]
variable {S : Store} {x : Str} {T : Store} {c : Cell} {m : Nat}
theorem refusal_text {i : Int} : d__law_refusal [.exn "NoText" ["row"] [.int i]] S = .ok (.lst [.str "NoText", .int i]) S := by
  have a := fun S' => alone_ok (S := S') (c := "NoText") (ks := ["row"]) (ds := [.int i]) (by decide +kernel)
  have ex : exitD .pure S (.lst [.str "NoText", .int i]) S = .ok (.lst [.str "NoText", .int i]) S := exit_same (by simp [frzD, frzDs])
  have xf : xFld (.exn "NoText" ["row"] [.int i]) "row" = some (.int i) := rfl
  have n1 : ¬ ("NoText" : Str) = "NotThere" := by decide +kernel
  have n2 : ¬ ("NoText" : Str) = "NoRow" := by decide +kernel
  generalize D.exn "NoText" ["row"] [.int i] = X at *
  simp [d__law_refusal, g__law_refusal, a, n1, n2, xf, ex]
abbrev noT (i : Int) : Exc := ⟨"NoText", some ("row", .int i)⟩
theorem whole_no {i : Int} (hx : x.length ≤ 1000000) (h : ∀ d, rdTh 8 (cp x) ≠ some (d, [])) : d_read_whole [.str x, .int i] S = .ex (noT i) S := by
  have t := th_ok hx 8 12 0 S (by decide) (Nat.zero_le _)
  rw [List.drop_zero] at t
  have t' : d_thing_from [.str x, .int 0, .int 8] S = .ok (thD x (rdTh 8 (cp x))) S := t
  have zx := sz_is (show x.length ≤ 16777216 by omega)
  have st : startD 3 [D.str x, D.int i] = [some (.str x), some (.int i), none] := by simp [startD_c, startD_n]
  cases hq : rdTh 8 (cp x) with
  | none =>
    rw [hq] at t'
    refine fnEx (e := [some (.str x), some (.int i), some .non]) ?_
    rw [st]; unfold g_read_whole
    refine stN (e := [some (.str x), some (.int i), some .non]) (S' := S) (by simp [t', thD]) ?_
    exact stX (q := noT i) (e := [some (.str x), some (.int i), some .non]) (S' := S) (by simp) rfl
  | some p =>
    obtain ⟨d, r⟩ := p
    rw [hq] at t'
    have ok := rdTh_ok 8 _ d r hq
    have hr := ok.1.length_le
    rw [cp_len] at hr
    have i1 : ∀ y : D, atI [d, y] 1 = some y := fun y => rfl
    cases r with
    | nil => exact absurd hq (h d)
    | cons c r =>
      simp only [List.length_cons] at hr
      have hne : ¬ ((x.length - (r.length + 1) : Nat) : Int) = (x.length : Int) := by omega
      refine fnEx (e := [some (.str x), some (.int i), some (.tup [d, .int ((x.length - (r.length + 1) : Nat) : Int)])]) ?_
      rw [st]; unfold g_read_whole
      refine stN (e := [some (.str x), some (.int i), some (.tup [d, .int ((x.length - (r.length + 1) : Nat) : Int)])]) (S' := S) (by simp [t', thD]) ?_
      exact stX (q := noT i) (e := [some (.str x), some (.int i), some (.tup [d, .int ((x.length - (r.length + 1) : Nat) : Int)])]) (S' := S) (by simp [zx, i1, hne]) rfl
theorem lit_app {x : Str} : cp (("\"\\(), -01none" : Str) ++ x) ≠ [] := by
  rw [cp_app]
  have : cp "\"\\(), -01none" ≠ [] := by decide +kernel
  intro z
  exact this (List.append_eq_nil_iff.mp z).1
end DX
end
section
/-! k77: boards written and read; the law's own reading of them. -/
namespace DX.K77
open PySem L2 DL PySem.NumText
variable [DL.Nm]
variable {S : Store} {x : Str}
theorem whole_yes {d : D} {i : Int} (hx : x.length ≤ 1000000) (h : rdTh 8 (cp x) = some (d, [])) : d_read_whole [.str x, .int i] S = .ok d S := by
  have t := th_ok hx 8 12 0 S (by decide) (Nat.zero_le _)
  rw [List.drop_zero, h] at t
  have t' : d_thing_from [.str x, .int 0, .int 8] S = .ok (.tup [d, .int (x.length : Int)]) S := t
  have fz := (rdTh_ok 8 _ d [] h).2.2
  have zx := sz_is (show x.length ≤ 16777216 by omega)
  refine fnRt (d := d) (S' := S) ?_ (exit_same (fz _))
  rw [show startD 3 [D.str x, D.int i] = [some (.str x), some (.int i), none] from by simp [startD_c, startD_n]]
  unfold g_read_whole
  refine stN (e := [some (.str x), some (.int i), some (.tup [d, .int (x.length : Int)])]) (S' := S) (by simp [t']) ?_
  refine stN (e := [some (.str x), some (.int i), some (.tup [d, .int (x.length : Int)])]) (S' := S) (by
    have i1 : atI [d, D.int (x.length : Int)] 1 = some (.int (x.length : Int)) := rfl
    simp [zx, i1]) ?_
  have i0 : atI [d, D.int (x.length : Int)] 0 = some d := rfl
  simp [i0]
/-- a row of a board's text -/
def rowOf (r : Str) : Option (List D) := match rdTh 8 (cp r) with
  | some (.tup es, []) => some es
  | _ => none
def rdRows : Nat → List Str → Sum Nat (List D)
  | _, [] => .inr []
  | k, r :: rs => match rowOf r with
    | none => .inl k
    | some es => match rdRows (k + 1) rs with
      | .inl j => .inl j
      | .inr ds => .inr (.tup es :: ds)
def isTup : D → Bool
  | .tup _ => true
  | _ => false
theorem tg_ty {n : Nat} {d : D} (h : Tg n d) : ∃ u, tyO S d = some (.b u) ∧ u.isa .tuple = isTup d := by
  cases h with
  | fl h => rcases h with rfl | ⟨i, rfl, _⟩ | ⟨s, rfl, _⟩ <;> exact ⟨_, rfl, rfl⟩
  | tup h => exact ⟨_, rfl, rfl⟩
theorem row_cases (r : Str) : (∃ es, rdTh 8 (cp r) = some (.tup es, []) ∧ rowOf r = some es) ∨ (∃ d, rdTh 8 (cp r) = some (d, []) ∧ isTup d = false ∧ rowOf r = none) ∨ ((∀ d, rdTh 8 (cp r) ≠ some (d, [])) ∧ rowOf r = none) := by
  by_cases h : ∃ d, rdTh 8 (cp r) = some (d, [])
  · obtain ⟨d, h⟩ := h
    by_cases q : isTup d = true
    · cases d with
      | tup es => exact .inl ⟨es, h, by unfold rowOf; rw [h]⟩
      | _ => cases q
    · refine .inr (.inl ⟨d, h, by simpa using q, ?_⟩)
      unfold rowOf
      rw [h]
      split
      · rename_i es e
        cases e
        exact absurd rfl q
      · rfl
  · refine .inr (.inr ⟨fun d z => h ⟨d, z⟩, ?_⟩)
    unfold rowOf
    split
    · rename_i es e; exact absurd ⟨_, e⟩ h
    · rfl
abbrev rE (x : Str) (R : List D) (w : Option D) (l : Nat) (a b c : Option D) : EnvD := [some (.str x), some (.lst R), w, some (.loc l), a, b, c]
abbrev bT2 : D → EnvD → Option EnvD := bTup (bCons (bName 4) (bCons (bName 5) bNil))
def rOut (S : Store) (x : Str) (R : List D) (w : Option D) (f : List D) : Sum Nat (List D) → SR → Prop
  | .inr ds, q => ∃ a b c, q = .nx (rE x R w S.length a b c) (uS S (f ++ ds))
  | .inl k, q => ∃ e f', q = .ex (noT k) e (uS S f')
theorem rows_loop {R : List D} {w : Option D} : ∀ (rs : List Str) (k : Nat) (f : List D) (a b c : Option D), (∀ r ∈ rs, r.length ≤ 1000000) → f.length + rs.length < 10000000 →
    rOut S x R w f (rdRows k rs) (forD bT2 g_read_board_b1 (enumD k (rs.map .str)) (rE x R w S.length a b c) (uS S f))
  | [], k, f, a, b, c, _, _ => ⟨a, b, c, by simp [forD, enumD]⟩
  | r :: rs, k, f, a, b, c, hr, hf => by
    have r1 := hr r List.mem_cons_self
    simp only [List.length_cons] at hf
    have hb : bT2 (.tup [.int (k : Int), .str r]) (rE x R w S.length a b c) = some (rE x R w S.length (some (.int (k : Int))) (some (.str r)) c) := rfl
    have e0 : enumD k ((r :: rs).map .str) = .tup [.int (k : Int), .str r] :: enumD (k + 1) (rs.map .str) := rfl
    rw [e0]
    unfold rdRows
    have ex : ∀ (q : Exc) (e : EnvD) (S' : Store), g_read_board_b1 (rE x R w S.length (some (.int (k : Int))) (some (.str r)) c) (uS S f) = .ex q e S' → forD bT2 g_read_board_b1 (.tup [.int (k : Int), .str r] :: enumD (k + 1) (rs.map .str)) (rE x R w S.length a b c) (uS S f) = .ex q e S' := fun q e S' h => by
      conv => lhs; unfold forD
      rw [hb]; dsimp only; rw [h]
    rcases row_cases r with ⟨es, h, e⟩ | ⟨d, h, ht, e⟩ | ⟨h, e⟩
    · rw [e]
      have wy := whole_yes (S := uS S f) (i := (k : Int)) r1 h
      have up := uapp (S := S) (f := f) (d := .tup es) (by omega)
      have zf := sz_is (show f.length + 1 ≤ 16777216 by omega)
      have ty : tyD "list" (uS S f) (.loc S.length) = true := by simp [tyD, listD]
      have b1 : g_read_board_b1 (rE x R w S.length (some (.int (k : Int))) (some (.str r)) c) (uS S f) = .nx (rE x R w S.length (some (.int (k : Int))) (some (.str r)) (some (.tup es))) (uS S (f ++ [.tup es])) := by
        unfold g_read_board_b1
        refine stN (e := rE x R w S.length (some (.int (k : Int))) (some (.str r)) (some (.tup es))) (S' := uS S f) (by simp [wy]) ?_
        refine stN (e := rE x R w S.length (some (.int (k : Int))) (some (.str r)) (some (.tup es))) (S' := uS S f) (by simp [Ty.isa]) ?_
        simp only [sDrop_is, eMeth]
        simp [ty, up, zf]
      have ih := rows_loop (R := R) (w := w) rs (k + 1) (f ++ [.tup es]) (some (.int (k : Int))) (some (.str r)) (some (.tup es)) (fun z hz => hr z (List.mem_cons_of_mem _ hz)) (by simp; omega)
      have fc : forD bT2 g_read_board_b1 (.tup [.int (k : Int), .str r] :: enumD (k + 1) (rs.map .str)) (rE x R w S.length a b c) (uS S f) = forD bT2 g_read_board_b1 (enumD (k + 1) (rs.map .str)) (rE x R w S.length (some (.int (k : Int))) (some (.str r)) (some (.tup es))) (uS S (f ++ [.tup es])) := forC hb b1 rfl
      rw [fc]
      cases hq : rdRows (k + 1) rs with
      | inl j => rw [hq] at ih; exact ih
      | inr ds => rw [hq] at ih; obtain ⟨a', b', c', q⟩ := ih; exact ⟨a', b', c', by rw [q]; simp⟩
    · rw [e]
      have wy := whole_yes (S := uS S f) (i := (k : Int)) r1 h
      obtain ⟨u, hu, hs⟩ := tg_ty (S := uS S f) (rdTh_back 8 h).1
      rw [ht] at hs
      refine ⟨_, f, ex (noT k) (rE x R w S.length (some (.int (k : Int))) (some (.str r)) (some d)) _ ?_⟩
      unfold g_read_board_b1
      refine stN (e := rE x R w S.length (some (.int (k : Int))) (some (.str r)) (some d)) (S' := uS S f) (by simp [wy]) ?_
      exact stX (q := noT k) (e := rE x R w S.length (some (.int (k : Int))) (some (.str r)) (some d)) (S' := uS S f) (by simp [hu, hs]) rfl
    · rw [e]
      have wn := whole_no (S := uS S f) (i := (k : Int)) r1 h
      refine ⟨_, f, ex (noT k) (rE x R w S.length (some (.int (k : Int))) (some (.str r)) c) _ ?_⟩
      unfold g_read_board_b1
      exact stX (q := noT k) (e := rE x R w S.length (some (.int (k : Int))) (some (.str r)) c) (S' := uS S f) (by simp [wn]) rfl
/-- the board of a text's parts -/
def brdOf (ps : List Str) : Sum Nat (List D) := match rdRows 0 ps.dropLast with
  | .inl k => .inl k
  | .inr ds => if ps.getLast? = some (mkS []) then .inr ds else .inl ps.dropLast.length
abbrev parts (x : Str) : List Str := Txt.split x "\n"
theorem parts_ne (x : Str) : parts x ≠ [] := fun h => by
  have := PyProof.Rows.split_pos x "\n"
  rw [show Txt.split x "\n" = [] from h] at this
  simp at this
theorem parts_len {x : Str} (hx : x.length ≤ 900000) : (∀ p ∈ parts x, p.length ≤ 1000000) ∧ (parts x).length ≤ 1000000 :=
  ⟨fun p hp => Nat.le_trans (PyProof.Rows.part_short hp) (by omega), Nat.le_trans (PyProof.Rows.split_le x "\n") (by omega)⟩
theorem split_n {x : Str} (hx : x.length ≤ 900000) : mSplit (.str x) [.str "\n"] S = .ok (.lst ((parts x).map .str)) S := by
  show (if (("\n" : Str).length == 0) = false ∧ x.length ≤ 10000000 then ER.ok (D.lst ((Txt.split x "\n").map D.str)) S else ER.bad) = _
  exact if_pos ⟨by decide +kernel, by omega⟩
theorem rdRows_frz : ∀ (rs : List Str) (k : Nat) {ds : List D}, rdRows k rs = .inr ds → (∀ d ∈ ds, ∀ ρ, frzD ρ d = some d) ∧ (∀ B, (∀ r ∈ rs, r.length ≤ B) → ∀ d ∈ ds, Good 8 B d) ∧ ds.length = rs.length
  | [], k, ds, h => by cases h; exact ⟨by simp, by simp, rfl⟩
  | r :: rs, k, ds, h => by
    unfold rdRows at h
    cases e : rowOf r with
    | none => rw [e] at h; cases h
    | some es =>
      rw [e] at h
      dsimp only at h
      cases e2 : rdRows (k + 1) rs with
      | inl j => rw [e2] at h; cases h
      | inr ds' =>
        rw [e2] at h
        cases h
        obtain ⟨i1, i2, i3⟩ := rdRows_frz rs (k + 1) e2
        have hr : rdTh 8 (cp r) = some (.tup es, []) := by
          rcases row_cases r with ⟨es', h, e'⟩ | ⟨d, h, ht, e'⟩ | ⟨h, e'⟩
          · rw [e] at e'; cases e'; exact h
          · rw [e] at e'; cases e'
          · rw [e] at e'; cases e'
        have g := (read_good hr).1
        refine ⟨fun d hd => ?_, fun B hB d hd => ?_, by simp [i3]⟩
        · rcases List.mem_cons.mp hd with rfl | hd
          · exact g.tg.frz
          · exact i1 d hd
        · rcases List.mem_cons.mp hd with rfl | hd
          · exact g.up (Nat.le_refl _) (hB r List.mem_cons_self)
          · exact i2 B (fun z hz => hB z (List.mem_cons_of_mem _ hz)) d hd
theorem frz_tup {ds : List D} (h : ∀ d ∈ ds, ∀ ρ, frzD ρ d = some d) (ρ : Nat → Option D) : frzD ρ (.tup ds) = some (.tup ds) := by
  show (frzDs ρ ds).map D.tup = _
  rw [frzDs_all fun d hd => h d hd ρ]; rfl
/-- read_board, of any text -/
theorem read_ok {x : Str} (hx : x.length ≤ 900000) : match brdOf (parts x) with
    | .inr ds => d_read_board [.str x] S = .ok (.tup ds) S
    | .inl k => ∃ S', d_read_board [.str x] S = .ex (noT k) (S ++ S') := by
  obtain ⟨h1, h2⟩ := parts_len hx
  have ne := parts_ne x
  have sp := split_n (S := S) hx
  generalize parts x = ps at *
  obtain ⟨p, hp⟩ : ∃ p, ps.getLast? = some p := by
    cases h : ps.getLast? with
    | none => exact absurd (List.getLast?_eq_none_iff.mp h) ne
    | some p => exact ⟨p, rfl⟩
  have st : startD 7 [D.str x] = [some (.str x), none, none, none, none, none, none] := by simp [startD_c, startD_n]
  have jt : tyD "str" S (.str x) = true := rfl
  have gl : (ps.map D.str).getLast? = some (.str p) := by rw [List.getLast?_map, hp]; rfl
  have dl : (ps.map D.str).dropLast = ps.dropLast.map .str := by rw [List.map_dropLast]
  have s1 : (sStar 1 2 (eMeth "str" mSplit (eVar 0) (lCons (eC (.str "\n")) lNil))) [some (.str x), none, none, none, none, none, none] S = .nx [some (.str x), some (.lst (ps.dropLast.map .str)), some (.str p), none, none, none, none] S := by
    have m1 : (eMeth "str" mSplit (eVar 0) (lCons (eC (.str "\n")) lNil)) [some (.str x), none, none, none, none, none, none] S = .ok (.lst (ps.map .str)) S := by simp [eMeth, jt, sp]
    rw [sStar_is, m1]
    show (match (ps.map D.str).getLast? with
      | some z => SR.nx ((([some (D.str x), none, none, none, none, none, none] : EnvD).set 1 (some (D.lst (ps.map D.str).dropLast))).set 2 (some z)) S
      | none => .bad) = _
    rw [gl, dl]; rfl
  have s2 : (sAsg (eLstM lNil) (bName 3)) [some (.str x), some (.lst (ps.dropLast.map .str)), some (.str p), none, none, none, none] S = .nx (rE x (ps.dropLast.map .str) (some (.str p)) S.length none none none) (uS S []) := by simp
  have dln : ps.dropLast.length ≤ 1000000 := by rw [List.length_dropLast]; omega
  have w := rows_loop (S := S) (x := x) (R := ps.dropLast.map .str) (w := some (.str p)) ps.dropLast 0 [] none none none (fun r hr => h1 r ((List.dropLast_sublist ps).subset hr)) (by simp at dln ⊢; omega)
  have it : (iEnumX (lCons (eVar 1) lNil)) (rE x (ps.dropLast.map .str) (some (.str p)) S.length none none none) (uS S []) = .ok (enumD 0 (ps.dropLast.map .str)) (uS S []) := by simp
  have s3 : (sFor (iEnumX (lCons (eVar 1) lNil)) bT2 g_read_board_b1) (rE x (ps.dropLast.map .str) (some (.str p)) S.length none none none) (uS S []) = forD bT2 g_read_board_b1 (enumD 0 (ps.dropLast.map .str)) (rE x (ps.dropLast.map .str) (some (.str p)) S.length none none none) (uS S []) := by
    rw [sFor_is, it]; rfl
  have s0 : (sIf (eNot (eIsC (tabB .str) (eVar 0))) (sRaiseF "NoText" "row" (eC (.int 0))) sSkip) [some (.str x), none, none, none, none, none, none] S = .nx [some (.str x), none, none, none, none, none, none] S := by simp [Ty.isa]
  unfold brdOf
  cases hq : rdRows 0 ps.dropLast with
  | inl k =>
    rw [hq] at w
    obtain ⟨e, f', w⟩ := w
    refine ⟨[.lst f'], fnEx (e := e) ?_⟩
    rw [st]; unfold g_read_board
    refine stN s0 (stN s1 (stN s2 ?_))
    exact stX (s3.trans w) rfl
  | inr ds =>
    rw [hq] at w
    obtain ⟨a, b, c, w⟩ := w
    rw [List.nil_append] at w
    obtain ⟨fz, _, _⟩ := rdRows_frz _ _ hq
    dsimp only
    have d0 : decide (p = mkS []) = decide (ps.getLast? = some (mkS [])) := by rw [hp]; simp
    by_cases g : ps.getLast? = some (mkS [])
    · rw [if_pos g]
      rw [decide_eq_true g] at d0
      refine fnRt (d := .tup ds) (S' := uS S ds) ?_ (exit_dat (frz_tup fz))
      rw [st]; unfold g_read_board
      refine stN s0 (stN s1 (stN s2 (stN (s3.trans w) ?_)))
      refine stN (e := rE x (ps.dropLast.map .str) (some (.str p)) S.length a b c) (S' := uS S ds) (by simp [qe, d0]) ?_
      have ut := utup (S := S) (f := ds)
      simp [ut]
    · rw [if_neg g]
      rw [decide_eq_false g] at d0
      refine ⟨[.lst ds], fnEx (e := rE x (ps.dropLast.map .str) (some (.str p)) S.length a b c) ?_⟩
      rw [st]; unfold g_read_board
      refine stN s0 (stN s1 (stN s2 (stN (s3.trans w) ?_)))
      have zl := sz_is (show ps.dropLast.length ≤ 16777216 by omega)
      exact stX (q := noT ps.dropLast.length) (e := rE x (ps.dropLast.map .str) (some (.str p)) S.length a b c) (S' := uS S ds) (by simp [qe, d0]) rfl
end DX.K77
end
section
/-! k77: the law's own reading of boards; boards written. -/
namespace DX.K77
open PySem L2 DL PySem.NumText
variable [DL.Nm]
variable {S : Store} {x : Str}
def noL (k : Int) : D := .lst [.str "NoText", .int k]
abbrev qE (x : Str) (R : List D) (l : Nat) (a b c : Option D) : EnvD := [some (.str x), some (.lst R), some (.loc l), a, b, c]
abbrev bT3 : D → EnvD → Option EnvD := bTup (bCons (bName 3) (bCons (bName 4) bNil))
def qOut (S : Store) (x : Str) (R : List D) (f : List D) : Sum Nat (List D) → SR → Prop
  | .inr ds, q => ∃ a b c, q = .nx (qE x R S.length a b c) (uS S (f ++ ds))
  | .inl k, q => ∃ f', q = .rt (noL k) (uS S f')
theorem lrows_loop {R : List D} : ∀ (rs : List Str) (k : Nat) (f : List D) (a b c : Option D), (∀ r ∈ rs, r.length ≤ 1000000) → f.length + rs.length < 10000000 →
    qOut S x R f (rdRows k rs) (forD bT3 g__law_due_b1 (enumD k (rs.map .str)) (qE x R S.length a b c) (uS S f))
  | [], k, f, a, b, c, _, _ => ⟨a, b, c, by simp [forD, enumD]⟩
  | r :: rs, k, f, a, b, c, hr, hf => by
    have r1 := hr r List.mem_cons_self
    simp only [List.length_cons] at hf
    have hb : bT3 (.tup [.int (k : Int), .str r]) (qE x R S.length a b c) = some (qE x R S.length (some (.int (k : Int))) (some (.str r)) c) := rfl
    have e0 : enumD k ((r :: rs).map .str) = .tup [.int (k : Int), .str r] :: enumD (k + 1) (rs.map .str) := rfl
    rw [e0]
    unfold rdRows
    have told := told_ok (S := uS S f) (x := r) r1
    have i0 : ∀ y : D, atI [y] 0 = some y := fun y => rfl
    have z2 : sz 2 := sz_is (by decide)
    rcases row_cases r with ⟨es, h, e⟩ | ⟨d, h, ht, e⟩ | ⟨h, e⟩
    · rw [e]
      rw [show toldD (cp r) = .lst [.tup es] from by unfold toldD; rw [h]] at told
      have up := uapp (S := S) (f := f) (d := .tup es) (by omega)
      have zf := sz_is (show f.length + 1 ≤ 16777216 by omega)
      have ty : tyD "list" (uS S f) (.loc S.length) = true := by simp [tyD, listD]
      have b1 : g__law_due_b1 (qE x R S.length (some (.int (k : Int))) (some (.str r)) c) (uS S f) = .nx (qE x R S.length (some (.int (k : Int))) (some (.str r)) (some (.lst [.tup es]))) (uS S (f ++ [.tup es])) := by
        unfold g__law_due_b1
        refine stN (e := qE x R S.length (some (.int (k : Int))) (some (.str r)) (some (.lst [.tup es]))) (S' := uS S f) (by simp [told]) ?_
        refine stN (e := qE x R S.length (some (.int (k : Int))) (some (.str r)) (some (.lst [.tup es]))) (S' := uS S f) (by simp [i0, Ty.isa]) ?_
        simp only [sDrop_is, eMeth]
        simp [ty, up, zf, i0]
      have ih := lrows_loop (R := R) rs (k + 1) (f ++ [.tup es]) (some (.int (k : Int))) (some (.str r)) (some (.lst [.tup es])) (fun z hz => hr z (List.mem_cons_of_mem _ hz)) (by simp; omega)
      have fc : forD bT3 g__law_due_b1 (.tup [.int (k : Int), .str r] :: enumD (k + 1) (rs.map .str)) (qE x R S.length a b c) (uS S f) = forD bT3 g__law_due_b1 (enumD (k + 1) (rs.map .str)) (qE x R S.length (some (.int (k : Int))) (some (.str r)) (some (.lst [.tup es]))) (uS S (f ++ [.tup es])) := forC hb b1 rfl
      rw [fc]
      cases hq : rdRows (k + 1) rs with
      | inl j => rw [hq] at ih; exact ih
      | inr ds => rw [hq] at ih; obtain ⟨a', b', c', q⟩ := ih; exact ⟨a', b', c', by rw [q]; simp⟩
    · rw [e]
      rw [show toldD (cp r) = .lst [d] from by unfold toldD; rw [h]] at told
      obtain ⟨u, hu, hs⟩ := tg_ty (S := uS S f) (rdTh_back 8 h).1
      rw [ht] at hs
      refine ⟨f, forR hb ?_⟩
      unfold g__law_due_b1
      refine stN (e := qE x R S.length (some (.int (k : Int))) (some (.str r)) (some (.lst [d]))) (S' := uS S f) (by simp [told]) ?_
      exact stR (d := noL k) (S' := uS S f) (by unfold noL; simp [i0, hu, hs, z2]) rfl
    · rw [e]
      rw [show toldD (cp r) = .lst [] from by
        unfold toldD
        split
        · rename_i d e; exact absurd e (h d)
        · rfl] at told
      refine ⟨f, forR hb ?_⟩
      unfold g__law_due_b1
      refine stN (e := qE x R S.length (some (.int (k : Int))) (some (.str r)) (some (.lst []))) (S' := uS S f) (by simp [told]) ?_
      exact stR (d := noL k) (S' := uS S f) (by unfold noL; simp [z2]) rfl
theorem cut_init {α : Type} {ps : List α} (h : ps ≠ []) : cutD ps none (some (-1)) = ps.dropLast := by
  have hl := List.length_pos_iff.mpr h
  unfold cutD
  rw [HT.sIx_none, List.drop_zero, List.dropLast_eq_take]
  congr 1
  have e : HT.sIx ps.length ps.length (some (-1)) = ((-1 : Int) + (ps.length : Int)).toNat := by
    unfold HT.sIx
    exact if_pos (by decide)
  rw [e]; omega
theorem at_last {α : Type} {ps : List α} (h : ps ≠ []) : atI ps (-1) = ps.getLast? := by
  have hl := List.length_pos_iff.mpr h
  rw [List.getLast?_eq_getElem?]
  unfold atI ixN
  rw [if_neg (by decide), if_pos (by omega)]
  show ps[_]? = _
  congr 1
  omega
def dueD (x : Str) : D := match brdOf (parts x) with
  | .inr ds => .tup ds
  | .inl k => noL k
theorem due_ok {x : Str} (hx : x.length ≤ 900000) : d__law_due [.str x] S = .ok (dueD x) S := by
  obtain ⟨h1, h2⟩ := parts_len hx
  have ne := parts_ne x
  have sp := split_n (S := S) hx
  unfold dueD
  generalize parts x = ps at *
  obtain ⟨p, hp⟩ : ∃ p, ps.getLast? = some p := by
    cases h : ps.getLast? with
    | none => exact absurd (List.getLast?_eq_none_iff.mp h) ne
    | some p => exact ⟨p, rfl⟩
  have st : startD 6 [D.str x] = [some (.str x), none, none, none, none, none] := by simp [startD_c, startD_n]
  have jt : tyD "str" S (.str x) = true := rfl
  have nem : ps.map D.str ≠ [] := fun z => ne (List.map_eq_nil_iff.mp z)
  have dln : ps.dropLast.length ≤ 1000000 := by rw [List.length_dropLast]; omega
  have w := lrows_loop (S := S) (x := x) (R := ps.map .str) ps.dropLast 0 [] none none none (fun r hr => h1 r ((List.dropLast_sublist ps).subset hr)) (by simp at dln ⊢; omega)
  have c1 : cutD (ps.map D.str) none (some (-1)) = ps.dropLast.map .str := by rw [cut_init nem, List.map_dropLast]
  have s0 : (sIf (eNot (eIsC (tabB .str) (eVar 0))) (sRet (eLst (lCons (eC (.str "NoText")) (lCons (eC (.int 0)) lNil)))) sSkip) [some (.str x), none, none, none, none, none] S = .nx [some (.str x), none, none, none, none, none] S := by simp [Ty.isa]
  have s1 : (sPar 1 2 (lCons (eMeth "str" mSplit (eVar 0) (lCons (eC (.str "\n")) lNil)) (lCons (eLstM lNil) lNil))) [some (.str x), none, none, none, none, none] S = .nx (qE x (ps.map .str) S.length none none none) (uS S []) := by simp [eMeth, jt, sp]
  have it : (iEnumX (lCons (eSlice (eVar 1) oNone (oSome (eNeg (eC (.int 1))))) lNil)) (qE x (ps.map .str) S.length none none none) (uS S []) = .ok (enumD 0 (ps.dropLast.map .str)) (uS S []) := by simp [oSome, oNone, c1, -List.map_dropLast]
  have s3 : (sFor (iEnumX (lCons (eSlice (eVar 1) oNone (oSome (eNeg (eC (.int 1))))) lNil)) bT3 g__law_due_b1) (qE x (ps.map .str) S.length none none none) (uS S []) = forD bT3 g__law_due_b1 (enumD 0 (ps.dropLast.map .str)) (qE x (ps.map .str) S.length none none none) (uS S []) := by
    rw [sFor_is, it]; rfl
  unfold brdOf
  cases hq : rdRows 0 ps.dropLast with
  | inl k =>
    rw [hq] at w
    obtain ⟨f', w⟩ := w
    refine fnRt (d := noL k) (S' := uS S f') ?_ (exit_dat (m := [.lst f']) fun _ => rfl)
    rw [st]; unfold g__law_due
    refine stN s0 (stN s1 ?_)
    exact stR (s3.trans w) rfl
  | inr ds =>
    rw [hq] at w
    obtain ⟨a, b, c, w⟩ := w
    rw [List.nil_append] at w
    obtain ⟨fz, _, _⟩ := rdRows_frz _ _ hq
    dsimp only
    have al : atI (ps.map D.str) (-1) = some (.str p) := by rw [at_last nem, List.getLast?_map, hp]; rfl
    have d0 : decide (p = mkS []) = decide (ps.getLast? = some (mkS [])) := by rw [hp]; simp
    by_cases g : ps.getLast? = some (mkS [])
    · rw [if_pos g]
      rw [decide_eq_true g] at d0
      refine fnRt (d := .tup ds) (S' := uS S ds) ?_ (exit_dat (frz_tup fz))
      rw [st]; unfold g__law_due
      refine stN s0 (stN s1 (stN (s3.trans w) ?_))
      have ut := utup (S := S) (f := ds)
      simp [qe, d0, ut, al]
    · rw [if_neg g]
      rw [decide_eq_false g] at d0
      refine fnRt (d := noL ps.dropLast.length) (S' := uS S ds) ?_ (exit_dat (m := [.lst ds]) fun _ => rfl)
      rw [st]; unfold g__law_due
      refine stN s0 (stN s1 (stN (s3.trans w) ?_))
      have hl := List.length_pos_iff.mpr ne
      have li : ((ps.length : Nat) : Int) - 1 = ((ps.dropLast.length : Nat) : Int) := by rw [List.length_dropLast]; omega
      have z2 : sz 2 := sz_is (by decide)
      unfold noL
      simp [qe, d0, al, li, z2, -List.length_dropLast]
/-! boards written -/
def brdL (rows : List D) : List Nat := (rows.map fun r => wr 8 r ++ [10]).flatten
theorem nl_is : ("\n" : Str) = mkS [10] := by decide +kernel
theorem btext_ok {rows : List D} {L : Nat} (hL : L ≤ 100000) (g : ∀ r ∈ rows, Good 8 L r) (hl : (brdL rows).length ≤ 900000) (hn : rows.length ≤ 100000) :
    d_board_text [.lst rows] S = .ok (.str (mkS (brdL rows))) S ∧ d_board_text [.tup rows] S = .ok (.str (mkS (brdL rows))) S := by
  have one : ∀ (r : D) (v : Option D), Good 8 L r → g_board_text_e1 [v, some r] S = .ok (.str (mkS (wr 8 r ++ [10]))) S := fun r v gr => by
    obtain ⟨w1, _, _⟩ := written (S := S) gr (Nat.le_refl _) hL
    have z := sz_is (show (mkS (wr 8 r)).length + (mkS [10]).length ≤ 16777216 by rw [mk_len, mk_len]; have := gr.len; simp; omega)
    unfold g_board_text_e1
    rw [nl_is, mk_app]
    simp [w1, z, -PySem.Str.length_append]
  have lc : ∀ v : Option D, lcD (bName 1) eYes g_board_text_e1 [v, none] [] rows S = .ok (rows.map fun r => .str (mkS (wr 8 r ++ [10]))) S := fun v => lcD_map _ rows (fun r hr => ⟨_, rfl, one r v (g r hr)⟩) (by omega)
  have j := mJoin_flat (S := S) (l := rows.map fun r => wr 8 r ++ [10]) (by show (brdL rows).length ≤ _; omega)
  rw [List.map_map] at j
  have j' : mJoin (.str "") [.lst (rows.map fun r => .str (mkS (wr 8 r ++ [10])))] S = .ok (.str (mkS (brdL rows))) S := j
  have jt : tyD "str" S (.str "") = true := rfl
  refine ⟨fnRt (d := .str (mkS (brdL rows))) (S' := S) ?_ exit_str, fnRt (d := .str (mkS (brdL rows))) (S' := S) ?_ exit_str⟩
  · rw [show startD 2 [D.lst rows] = [some (.lst rows), none] from by simp [startD_c, startD_n]]
    unfold g_board_text
    simp [eMeth, jt, lc, j']
  · rw [show startD 2 [D.tup rows] = [some (.tup rows), none] from by simp [startD_c, startD_n]]
    unfold g_board_text
    simp [eMeth, jt, lc, j']
theorem wr_pr : ∀ {n : Nat} {d : D}, Tg n d → ∀ c ∈ wr n d, 32 ≤ c ∧ c ≤ 126
  | n, d, .fl h, c, hc => by
    rw [wrF_fl h] at hc
    rcases h with rfl | ⟨i, rfl, _⟩ | ⟨s, rfl, hs⟩
    · have : ∀ c ∈ wrF .non, 32 ≤ c ∧ c ≤ 126 := by decide
      exact this c hc
    · have dd : ∀ n : Nat, ∀ c ∈ dg n, 32 ≤ c ∧ c ≤ 126 := fun n c hc => by
        have := dg_dig n c hc
        unfold isDig at this
        simp at this; omega
      cases i with
      | ofNat n => exact dd n c (by rw [← cp_nat]; exact hc)
      | negSucc n =>
        have hc : c ∈ cp (toString (Int.negSucc n) : String) := hc
        rw [cp_neg] at hc
        rcases List.mem_cons.mp hc with rfl | hc
        · decide
        · exact dd _ c hc
    · have hc : c ∈ 34 :: (wrWord (cp s) ++ [34]) := hc
      simp only [List.mem_cons, List.mem_append, List.not_mem_nil, or_false] at hc
      rcases hc with rfl | hc | rfl
      · decide
      · unfold wrWord at hc
        obtain ⟨z, hz, hc⟩ := List.mem_flatMap.mp hc
        unfold wrSign at hc
        split at hc
        · simp only [List.mem_cons, List.not_mem_nil, or_false] at hc
          rcases hc with rfl | rfl
          · decide
          · exact hs _ hz
        · rcases List.mem_singleton.mp hc with rfl; exact hs _ hz
      · decide
  | _, _, .tup (n := n) (ds := ds) h, c, hc => by
    have hc : c ∈ 40 :: (inter (ds.map (wr n)) ++ [41]) := hc
    have hi : ∀ (l : List (List Nat)), (∀ x ∈ l, ∀ c ∈ x, 32 ≤ c ∧ c ≤ 126) → ∀ c ∈ inter l, 32 ≤ c ∧ c ≤ 126 := fun l => by
      induction l with
      | nil => intro _ c hc; cases hc
      | cons x l ih =>
        intro hl c hc
        cases l with
        | nil => exact hl x (by simp) c hc
        | cons y r =>
          unfold inter at hc
          simp only [List.mem_append, List.mem_cons] at hc
          rcases hc with hc | rfl | rfl | hc
          · exact hl x (by simp) c hc
          · decide
          · decide
          · exact ih (fun z hz => hl z (List.mem_cons_of_mem _ hz)) c hc
    simp only [List.mem_cons, List.mem_append, List.not_mem_nil, or_false] at hc
    rcases hc with rfl | hc | rfl
    · decide
    · exact hi _ (fun z hz c hc => by
        obtain ⟨d, hd, rfl⟩ := List.mem_map.mp hz
        exact wr_pr (h d hd) c hc) c hc
    · decide
theorem joinL_nl : ∀ l : List (List Nat), TL.joinL [10] (l ++ [[]]) = (l.map (· ++ [10])).flatten
  | [] => rfl
  | [x] => by show x ++ ([10] ++ []) = (x ++ [10]) ++ []; simp
  | x :: y :: r => by
    show x ++ ([10] ++ TL.joinL [10] ((y :: r) ++ [[]])) = _
    rw [joinL_nl (y :: r), List.map_cons (f := (· ++ [10])) (a := x), List.flatten_cons]
    simp
theorem parts_brd {rows : List D} (g : ∀ r ∈ rows, Tg 8 r) : parts (mkS (brdL rows)) = rows.map (fun r => mkS (wr 8 r)) ++ [mkS []] := by
  have e : mkS (brdL rows) = Txt.join "\n" (rows.map (fun r => mkS (wr 8 r)) ++ [mkS []]) := by
    refine cp_inj ?_
    rw [TL.join_eq, cp_mk]
    refine Eq.symm ((TL.tl_join "\n" _).trans ?_)
    rw [show TL.tl "\n" = [10] from by decide +kernel, List.map_append, List.map_map]
    have m : rows.map (TL.tl ∘ fun r => mkS (wr 8 r)) = rows.map (wr 8) := List.map_congr_left fun r _ => cp_mk
    rw [m, show [mkS []].map TL.tl = [[]] from by rw [List.map_cons, List.map_nil, show TL.tl (mkS []) = [] from cp_mk], joinL_nl, List.map_map]
    rfl
  rw [e]
  refine TL.split_join (s := 10) (S := []) (by decide +kernel) (by decide +kernel) (by simp) fun p hp hs => ?_
  rcases List.mem_append.mp hp with hp | hp
  · obtain ⟨r, hr, rfl⟩ := List.mem_map.mp hp
    have hs : 10 ∈ cp (mkS (wr 8 r)) := hs
    rw [cp_mk] at hs
    have := wr_pr (g r hr) 10 hs
    omega
  · rcases List.mem_singleton.mp hp with rfl
    have hs : 10 ∈ cp (mkS []) := hs
    rw [cp_mk] at hs; cases hs
theorem rdRows_brd : ∀ (rows : List D) (k : Nat), (∀ r ∈ rows, Tg 8 r ∧ isTup r = true) → rdRows k (rows.map fun r => mkS (wr 8 r)) = .inr rows
  | [], k, _ => rfl
  | r :: rows, k, h => by
    obtain ⟨t, ht⟩ := h r List.mem_cons_self
    have e := rd_wr t [] (fun c h => by cases h)
    rw [List.append_nil] at e
    show (match rowOf (mkS (wr 8 r)) with | none => _ | some es => _) = _
    cases r with
    | tup es =>
      rw [show rowOf (mkS (wr 8 (.tup es))) = some es from by unfold rowOf; rw [cp_mk, e]]
      dsimp only
      rw [rdRows_brd rows (k + 1) fun z hz => h z (List.mem_cons_of_mem _ hz)]
    | _ => cases ht
theorem read_brd {rows : List D} (g : ∀ r ∈ rows, Tg 8 r ∧ isTup r = true) (hl : (brdL rows).length ≤ 900000) : d_read_board [.str (mkS (brdL rows))] S = .ok (.tup rows) S := by
  have r := read_ok (S := S) (x := mkS (brdL rows)) (by rw [mk_len]; exact hl)
  have b : brdOf (parts (mkS (brdL rows))) = .inr rows := by
    rw [parts_brd fun r hr => (g r hr).1]
    unfold brdOf
    rw [List.dropLast_concat, rdRows_brd rows 0 g]
    dsimp only
    rw [if_pos (by simp)]
  rw [b] at r
  exact r
end DX.K77
end
section
/-! Texts changed by a sign: their lengths. -/
namespace DX
open PySem L2 DL PySem.NumText
variable [DL.Nm]
variable {S : Store} {x : Str} {T : Store} {c : Cell} {m : Nat}
theorem changed_ok2 (hx : x.length ≤ 100000) (d : Drw c m) (hm : m ≤ 80000) :
    ∃ (y : Str) (c' : Cell), d__law_changed_text [.loc 0, .str x] (c :: T) = .ok (.str y) (c' :: T) ∧ y.length ≤ x.length + 1 ∧ Drw c' (m + 5) := by
  have zx := sz_is (show x.length ≤ 16777216 by omega)
  obtain ⟨i, c1, e1, h1, d1⟩ := nextX (T := T) 3 d (by omega) (by omega) (by omega)
  obtain ⟨a, c2, e2, h2, d2⟩ := nextX (T := T) ((x.length : Int) + 1) d1 (by omega) (by omega) (by omega)
  have ll : ("\"\\(), -01none" : Str).length = 13 := by decide +kernel
  obtain ⟨k, _, c3, e3, d3⟩ := pickS (T := T) (("\"\\(), -01none" : Str) ++ x) d2 (by omega) lit_app (by rw [PySem.Str.length_append, ll]; omega)
  have za := sz_is (show ("\"\\(), -01none" : Str).length + x.length ≤ 16777216 by rw [ll]; omega)
  obtain ⟨j, c4, e4, h4, d4⟩ := nextX (T := T) 5 d3 (by omega) (by omega) (by omega)
  -- the sign
  obtain ⟨s, c5, e5, d5⟩ : ∃ (s : Nat) (c5 : Cell), (eIf (eOp opGt (eCall d__law_next (lCons (eVar 0) (lCons (eC (.int 5)) lNil))) (eC (.int 0))) (eVar 4) (eCall d__law_any_sign (lCons (eVar 0) lNil))) [some (.loc 0), some (.str x), some (.int (i : Int)), some (.int (a : Int)), some (.str (sg k)), none] (c3 :: T) = .ok (.str (sg s)) (c5 :: T) ∧ Drw c5 (m + 5) := by
    by_cases hj : 0 < j
    · exact ⟨k, c4, by simp [e4, hj], d4.mono (by omega)⟩
    · obtain ⟨s, c5, e5, _, d5⟩ := sign_ok (T := T) d4 (by omega)
      exact ⟨s, c5, by simp [e4, hj, e5], d5.mono (by omega)⟩
  have lA : (cutS x none (some (a : Int))).length ≤ a := by
    unfold cutS
    show (List.take _ (List.drop _ x.cps.toList)).toArray.size ≤ _
    rw [List.size_toArray, List.length_take, show HT.sIx x.length x.length (some (a : Int)) = min a x.length from HT.sIx_nat _ _ a]
    omega
  have lBx : ∀ b : Nat, (cutS x (some (b : Int)) none).length ≤ x.length - min b x.length := fun b => by
    unfold cutS
    show (List.take _ (List.drop _ x.cps.toList)).toArray.size ≤ _
    rw [List.size_toArray, List.length_take, show HT.sIx x.length 0 (some (b : Int)) = min b x.length from HT.sIx_nat _ _ b, HT.sIx_none]
    omega
  have lB := lBx a
  have lC : (cutS x (some ((a : Int) + 1)) none).length ≤ x.length - min (a + 1) x.length := lBx (a + 1)
  have ls : (sg s).length = 1 := rfl
  have sA : ∀ S, slDS (.str x) none (some (a : Int)) S = .ok (.str (cutS x none (some (a : Int)))) S := fun S => by rw [slDS_s, if_pos zx]
  have sB : ∀ S, slDS (.str x) (some (a : Int)) none S = .ok (.str (cutS x (some (a : Int)) none)) S := fun S => by rw [slDS_s, if_pos zx]
  have sC : ∀ S, slDS (.str x) (some ((a : Int) + 1)) none S = .ok (.str (cutS x (some ((a : Int) + 1)) none)) S := fun S => by rw [slDS_s, if_pos zx]
  generalize cutS x none (some (a : Int)) = A at *
  generalize cutS x (some (a : Int)) none = B at *
  generalize cutS x (some ((a : Int) + 1)) none = C at *
  have z1 := sz_is (show A.length + (sg s).length ≤ 16777216 by omega)
  have z2 := sz_is (show (A ++ sg s).length + B.length ≤ 16777216 by rw [PySem.Str.length_append]; omega)
  have z3 := sz_is (show A.length + C.length ≤ 16777216 by omega)
  have z4 := sz_is (show (A ++ sg s).length + C.length ≤ 16777216 by rw [PySem.Str.length_append]; omega)
  generalize hy : (if (i : Int) = 0 then A ++ sg s ++ B else if (i : Int) = 1 then A ++ C else A ++ sg s ++ C) = y
  refine ⟨y, c5, fnRt (d := .str y) (S' := c5 :: T) ?_ rfl, ?_, d5⟩
  · rw [show startD 6 [D.loc 0, D.str x] = [some (.loc 0), some (.str x), none, none, none, none] from by simp [startD_c, startD_n]]
    unfold g__law_changed_text
    refine stN (e := [some (.loc 0), some (.str x), some (.int (i : Int)), some (.int (a : Int)), none, none]) (S' := c2 :: T) (by simp [e1, e2, zx]) ?_
    refine stN (e := [some (.loc 0), some (.str x), some (.int (i : Int)), some (.int (a : Int)), some (.str (sg k)), none]) (S' := c3 :: T) (by simp [za, e3, -PySem.Str.length_append]) ?_
    refine stN (e := [some (.loc 0), some (.str x), some (.int (i : Int)), some (.int (a : Int)), some (.str (sg k)), some (.str (sg s))]) (S' := c5 :: T) (by
      show (eIf _ _ _ _ _).bindS _ _ = _
      rw [e5]; rfl) ?_
    by_cases h0 : (i : Int) = 0
    · rw [if_pos h0] at hy
      subst hy
      exact stR (d := .str (A ++ sg s ++ B)) (S' := c5 :: T) (by rw [h0]; simp [eSliceS_is, oSome, oNone, sA, sB, z1, z2, -PySem.Str.length_append]) rfl
    · rw [if_neg h0] at hy
      refine stN (e := [some (.loc 0), some (.str x), some (.int (i : Int)), some (.int (a : Int)), some (.str (sg k)), some (.str (sg s))]) (S' := c5 :: T) (by
        have h0' : ¬ i = 0 := by omega
        simp [h0']) ?_
      by_cases h1' : (i : Int) = 1
      · rw [if_pos h1'] at hy
        subst hy
        rw [h1']
        simp [eSliceS_is, oSome, oNone, sA, sC, z3, -PySem.Str.length_append]
      · rw [if_neg h1'] at hy
        subst hy
        have h1'' : ¬ (i : Int) = 1 := h1'
        simp [eSliceS_is, oSome, oNone, sA, sC, z1, z4, h1'', -PySem.Str.length_append]
  · rw [← hy]
    split
    · rw [PySem.Str.length_append, PySem.Str.length_append]; omega
    · split
      · rw [PySem.Str.length_append]; omega
      · rw [PySem.Str.length_append, PySem.Str.length_append]; omega
theorem Good.nice2 {n L : Nat} {d : D} (g : Good n L d) (hL : L ≤ 190000) : Nice n d := by
  obtain ⟨t, l⟩ := g
  induction t generalizing L with
  | fl h => rcases h with rfl | ⟨i, rfl, _⟩ | ⟨s, rfl, _⟩ <;> constructor
  | tup h ih =>
    rename_i n ds
    rw [wr_tup] at l
    have h1 := inter_sum (ds.map (wr n))
    rw [List.length_map] at h1
    exact .tup (fun d hd => ih d hd (L := L) hL (Nat.le_trans (wr_len hd) (by omega))) (by omega)
theorem cut_to {α : Type} (xs : List α) (a : Nat) : (cutD xs none (some (a : Int))).length ≤ a := by
  unfold cutD
  rw [List.length_take, show HT.sIx xs.length xs.length (some (a : Int)) = min a xs.length from HT.sIx_nat _ _ a]
  omega
theorem cut_from {α : Type} (xs : List α) (b : Nat) : (cutD xs (some (b : Int)) none).length ≤ xs.length - min b xs.length := by
  unfold cutD
  rw [List.length_take, show HT.sIx xs.length 0 (some (b : Int)) = min b xs.length from HT.sIx_nat _ _ b, HT.sIx_none]
  omega
end DX
end
section
/-! k77: rows changed. -/
namespace DX.K77
open PySem L2 DL PySem.NumText
variable [DL.Nm]
variable {S : Store} {x : Str} {T : Store} {c : Cell} {m : Nat}
def Tx (B : Nat) (ds : List D) : Prop := ∀ d ∈ ds, ∃ x : Str, d = .str x ∧ x.length ≤ B
theorem Tx.app {B : Nat} {a b : List D} (ha : Tx B a) (hb : Tx B b) : Tx B (a ++ b) := fun d hd => (List.mem_append.mp hd).elim (ha d) (hb d)
theorem Tx.up {B B' : Nat} {a : List D} (ha : Tx B a) (h : B ≤ B') : Tx B' a := fun d hd => by
  obtain ⟨x, e, l⟩ := ha d hd
  exact ⟨x, e, by omega⟩
theorem Tx.cut {B : Nat} {a : List D} (ha : Tx B a) (lo hi : Option Int) : Tx B (cutD a lo hi) := fun d hd => ha d (by
  unfold cutD at hd
  exact List.mem_of_mem_drop (List.mem_of_mem_take hd))
theorem Tx.one {B : Nat} {x : Str} (h : x.length ≤ B) : Tx B [.str x] := fun d hd => by
  rcases List.mem_singleton.mp hd with rfl; exact ⟨x, rfl, h⟩
def someR : List D := [.str "", .str "none", .str "5", .str "()", .str "(1)", .str "\"a\"", .str "(", .str " ()", .str "() ", .str ("(" ++ repS "1" 400 ++ ")"), .str ("(" ++ repS "1" 401 ++ ")")]
theorem someR_tx : Tx 403 someR := by
  have k1 : ("1" : Str).length = 1 := by decide +kernel
  have ko : ("(" : Str).length = 1 := by decide +kernel
  have kc : (")" : Str).length = 1 := by decide +kernel
  have l (n : Nat) : (repS "1" n).length = n := by
    show (repS "1" n).cps.size = n
    rw [repS_size, show ("1" : Str).cps.size = 1 from k1, Nat.one_mul]
  intro d hd
  unfold someR at hd
  simp only [List.mem_cons, List.not_mem_nil, or_false] at hd
  rcases hd with rfl | rfl | rfl | rfl | rfl | rfl | rfl | rfl | rfl | rfl | rfl
  · exact ⟨_, rfl, by decide +kernel⟩
  · exact ⟨_, rfl, by decide +kernel⟩
  · exact ⟨_, rfl, by decide +kernel⟩
  · exact ⟨_, rfl, by decide +kernel⟩
  · exact ⟨_, rfl, by decide +kernel⟩
  · exact ⟨_, rfl, by decide +kernel⟩
  · exact ⟨_, rfl, by decide +kernel⟩
  · exact ⟨_, rfl, by decide +kernel⟩
  · exact ⟨_, rfl, by decide +kernel⟩
  · exact ⟨_, rfl, by rw [PySem.Str.length_append, PySem.Str.length_append, l, ko, kc]; decide⟩
  · exact ⟨_, rfl, by rw [PySem.Str.length_append, PySem.Str.length_append, l, ko, kc]; decide⟩
theorem mulW {a : Str} {n : Nat} (ha : a.length = 1) (hn : n ≤ 10000) : opMulW (.str a) (.int (n : Int)) S = .ok (.str (repS a n)) S := by
  rw [opMulW_s, if_pos ⟨by omega, by omega, by omega, by omega⟩, Int.toNat_natCast]
theorem addS {a b : Str} (h : a.length + b.length ≤ 1000000) : opAdd (.str a) (.str b) S = .ok (.str (a ++ b)) S := by
  rw [opAdd_ss, if_pos (sz_is (by omega))]
theorem dispR {env : EnvD} : (eLst (lCons (eC (.str "")) (lCons (eC (.str "none")) (lCons (eC (.str "5")) (lCons (eC (.str "()")) (lCons (eC (.str "(1)")) (lCons (eC (.str "\"a\"")) (lCons (eC (.str "(")) (lCons (eC (.str " ()")) (lCons (eC (.str "() ")) (lCons (eOp opAdd (eOp opAdd (eC (.str "(")) (eOp opMulW (eC (.str "1")) (eC (.int 400)))) (eC (.str ")"))) (lCons (eOp opAdd (eOp opAdd (eC (.str "(")) (eOp opMulW (eC (.str "1")) (eC (.int 401)))) (eC (.str ")"))) lNil)))))))))))) env S = .ok (.lst someR) S := by
  have k1 : ("1" : Str).length = 1 := by decide +kernel
  have ko : ("(" : Str).length = 1 := by decide +kernel
  have kc : (")" : Str).length = 1 := by decide +kernel
  have l (n : Nat) : (repS "1" n).length = n := by
    show (repS "1" n).cps.size = n
    rw [repS_size, show ("1" : Str).cps.size = 1 from k1, Nat.one_mul]
  have m1 : opMulW (.str "1") (.int 400) S = .ok (.str (repS "1" 400)) S := mulW (n := 400) k1 (by decide)
  have m2 : opMulW (.str "1") (.int 401) S = .ok (.str (repS "1" 401)) S := mulW (n := 401) k1 (by decide)
  have l1 := l 400
  have l2 := l 401
  unfold someR
  generalize repS "1" 400 = A at *
  generalize repS "1" 401 = B at *
  have a1 := addS (S := S) (a := "(") (b := A) (by omega)
  have a2 := addS (S := S) (a := "(") (b := B) (by omega)
  have q1 : (("(" : Str) ++ A).length = 401 := by rw [PySem.Str.length_append]; omega
  have q2 : (("(" : Str) ++ B).length = 402 := by rw [PySem.Str.length_append]; omega
  have a3 := addS (S := S) (a := ("(" : Str) ++ A) (b := ")") (by omega)
  have a4 := addS (S := S) (a := ("(" : Str) ++ B) (b := ")") (by omega)
  simp [-opMulW_s, -opAdd_ss, m1, m2, a1, a2, a3, a4]
theorem cutn {α : Type} (xs : List α) (lo hi : Option Int) : (cutD xs lo hi).length ≤ xs.length := cut_len xs lo hi
theorem rows_ok {rs : List D} {B : Nat} (hB : 403 ≤ B) (hB2 : B ≤ 100000) (h : Tx B rs) (hn : rs.length ≤ 1000) (d : Drw c m) (hm : m ≤ 70000) :
    ∃ rs' c', d__law_changed_rows [.loc 0, .lst rs] (c :: T) = .ok (.lst rs') (c' :: T) ∧ Tx (B + 1) rs' ∧ rs'.length ≤ rs.length + 1 ∧ Drw c' (m + 10) := by
  obtain ⟨i, c1, e1, h1, d1⟩ := nextX (T := T) 7 d (by omega) (by omega) (by omega)
  obtain ⟨a, c2, e2, h2, d2⟩ := nextX (T := T) ((rs.length : Int) + 1) d1 (by omega) (by omega) (by omega)
  have up := h.up (show B ≤ B + 1 by omega)
  have st : startD 6 [D.loc 0, D.lst rs] = [some (.loc 0), some (.lst rs), none, none, none, none] := by simp [startD_c, startD_n]
  have s1 : (sPar 2 3 (lCons (eCall d__law_next (lCons (eVar 0) (lCons (eC (.int 7)) lNil))) (lCons (eCall d__law_next (lCons (eVar 0) (lCons (eOp opAdd (eCallB bLenX (lCons (eVar 1) lNil)) (eC (.int 1))) lNil))) lNil))) [some (.loc 0), some (.lst rs), none, none, none, none] (c :: T) = .nx [some (.loc 0), some (.lst rs), some (.int (i : Int)), some (.int (a : Int)), none, none] (c2 :: T) := by simp [e1, e2]
  have lA := cut_to rs a
  have lB := cut_from rs a
  have lC : (cutD rs (some ((a : Int) + 1)) none).length ≤ rs.length - min (a + 1) rs.length := cut_from rs (a + 1)
  have lD := cutn rs (some (a : Int)) (some ((a : Int) + 1))
  have tA := up.cut none (some (a : Int))
  have tB := up.cut (some (a : Int)) none
  have tC := up.cut (some ((a : Int) + 1)) none
  have tD := up.cut (some (a : Int)) (some ((a : Int) + 1))
  by_cases c0 : (i : Int) = 0 ∨ rs.length = 0
  · obtain ⟨y, hy, c3, e3, d3⟩ := pickX (T := T) someR d2 (by omega) (by simp [someR]) (by simp [someR])
    obtain ⟨x, rfl, hx⟩ := someR_tx y hy
    have za := sz_is (show (cutD rs none (some (a : Int))).length + 1 ≤ 16777216 by omega)
    have zb := sz_is (show (cutD rs none (some (a : Int)) ++ [D.str x]).length + (cutD rs (some (a : Int)) none).length ≤ 16777216 by rw [List.length_append]; simp; omega)
    have z1 : sz 1 := sz_is (by decide)
    have dr := dispR (S := c2 :: T) (env := [some (.loc 0), some (.lst rs), some (.int (i : Int)), some (.int (a : Int)), none, none])
    have l1 : cutD rs none (some (a : Int)) = rs.take (min a rs.length) ∨ True := .inr trivial
    refine ⟨cutD rs none (some (a : Int)) ++ [.str x] ++ cutD rs (some (a : Int)) none, c3, fnRt (d := .lst _) (S' := c3 :: T) ?_ rfl, (tA.app (Tx.one (by omega))).app tB, ?_, d3.mono (by omega)⟩
    · rw [st]; unfold g__law_changed_rows
      refine stN s1 ?_
      refine stR (d := .lst (cutD rs none (some (a : Int)) ++ [.str x] ++ cutD rs (some (a : Int)) none)) (S' := c3 :: T) ?_ rfl
      refine ifTB (S' := c2 :: T) (by
        by_cases q : i = 0
        · simp [q]
        · have : rs.length = 0 := c0.resolve_left (by omega)
          have q0 : rs = [] := List.length_eq_zero_iff.mp this
          simp [q, q0]) ?_
      refine stN (e := [some (.loc 0), some (.lst rs), some (.int (i : Int)), some (.int (a : Int)), some (.lst someR), none]) (S' := c2 :: T) (by
        show (eLst _ _ _).bindS _ _ = _
        rw [dr]; rfl) ?_
      have zb' := sz_is (show (cutD rs none (some (a : Int))).length + ((cutD rs (some (a : Int)) none).length + 1) ≤ 16777216 by omega)
      have zb2 := sz_is (show (cutD rs none (some (a : Int))).length + 1 + (cutD rs (some (a : Int)) none).length ≤ 16777216 by omega)
      simp [eSliceS_is, oSome, oNone, slDS_l, e3, z1, za, zb', zb2]
    · have : (cutD rs none (some (a : Int)) ++ [D.str x] ++ cutD rs (some (a : Int)) none).length = (cutD rs none (some (a : Int))).length + 1 + (cutD rs (some (a : Int)) none).length := by simp; omega
      omega
  · have i0 : ¬ i = 0 := fun z => c0 (.inl (by omega))
    have n0 : rs.length ≠ 0 := fun z => c0 (.inr z)
    have q0 : ¬ rs = [] := fun z => n0 (by rw [z]; rfl)
    have s2 : (sIf (eOr (eOp opEq (eVar 2) (eC (.int 0))) (eOp opEqL0 (eVar 1) (eLst lNil))) (sSeq (sAsg (eLst (lCons (eC (.str "")) (lCons (eC (.str "none")) (lCons (eC (.str "5")) (lCons (eC (.str "()")) (lCons (eC (.str "(1)")) (lCons (eC (.str "\"a\"")) (lCons (eC (.str "(")) (lCons (eC (.str " ()")) (lCons (eC (.str "() ")) (lCons (eOp opAdd (eOp opAdd (eC (.str "(")) (eOp opMulW (eC (.str "1")) (eC (.int 400)))) (eC (.str ")"))) (lCons (eOp opAdd (eOp opAdd (eC (.str "(")) (eOp opMulW (eC (.str "1")) (eC (.int 401)))) (eC (.str ")"))) lNil)))))))))))) (bName 4)) (sRet (eOp opAdd (eOp opAdd (eSliceS (eVar 1) oNone (oSome (eVar 3))) (eLst (lCons (eCall d__law_pick (lCons (eVar 0) (lCons (eVar 4) lNil))) lNil))) (eSliceS (eVar 1) (oSome (eVar 3)) oNone)))) sSkip) [some (.loc 0), some (.lst rs), some (.int (i : Int)), some (.int (a : Int)), none, none] (c2 :: T) = .nx [some (.loc 0), some (.lst rs), some (.int (i : Int)), some (.int (a : Int)), none, none] (c2 :: T) := ifFB (S' := c2 :: T) (by simp [i0, q0]) rfl
    by_cases c1' : i = 1
    · have zac := sz_is (show (cutD rs none (some (a : Int))).length + (cutD rs (some ((a : Int) + 1)) none).length ≤ 16777216 by omega)
      refine ⟨cutD rs none (some (a : Int)) ++ cutD rs (some ((a : Int) + 1)) none, c2, fnRt (d := .lst _) (S' := c2 :: T) ?_ rfl, tA.app tC, by rw [List.length_append]; omega, d2.mono (by omega)⟩
      rw [st]; unfold g__law_changed_rows
      refine stN s1 (stN s2 ?_)
      exact stR (d := .lst (cutD rs none (some (a : Int)) ++ cutD rs (some ((a : Int) + 1)) none)) (S' := c2 :: T) (by subst c1'; simp [eSliceS_is, oSome, oNone, slDS_l, zac]) rfl
    · have s3 : ∀ (u : SM), (sIf (eOp opEq (eVar 2) (eC (.int 1))) u sSkip) [some (.loc 0), some (.lst rs), some (.int (i : Int)), some (.int (a : Int)), none, none] (c2 :: T) = .nx [some (.loc 0), some (.lst rs), some (.int (i : Int)), some (.int (a : Int)), none, none] (c2 :: T) := fun u => ifFB (S' := c2 :: T) (by
          have : ¬ (i : Int) = 1 := by omega
          simp [this]) rfl
      by_cases c2' : i = 2
      · have lD1 : (cutD rs (some (a : Int)) (some ((a : Int) + 1))).length ≤ 1 := by
          unfold cutD
          have e1 : HT.sIx rs.length 0 (some (a : Int)) = min a rs.length := HT.sIx_nat _ _ a
          have e2 : HT.sIx rs.length rs.length (some ((a : Int) + 1)) = min (a + 1) rs.length := HT.sIx_nat _ _ (a + 1)
          rw [List.length_take, e1, e2]; omega
        have z1 := sz_is (show (cutD rs none (some (a : Int))).length + (cutD rs (some (a : Int)) (some ((a : Int) + 1))).length ≤ 16777216 by omega)
        have z2 := sz_is (show (cutD rs none (some (a : Int))).length + (cutD rs (some (a : Int)) (some ((a : Int) + 1))).length + (cutD rs (some (a : Int)) none).length ≤ 16777216 by omega)
        refine ⟨cutD rs none (some (a : Int)) ++ cutD rs (some (a : Int)) (some ((a : Int) + 1)) ++ cutD rs (some (a : Int)) none, c2, fnRt (d := .lst _) (S' := c2 :: T) ?_ rfl, (tA.app tD).app tB, by rw [List.length_append, List.length_append]; omega, d2.mono (by omega)⟩
        rw [st]; unfold g__law_changed_rows
        refine stN s1 (stN s2 (stN (s3 _) ?_))
        exact stR (d := .lst (cutD rs none (some (a : Int)) ++ cutD rs (some (a : Int)) (some ((a : Int) + 1)) ++ cutD rs (some (a : Int)) none)) (S' := c2 :: T) (by
          subst c2'
          rw [List.append_assoc] 
          simp [eSliceS_is, oSome, oNone, slDS_l, z1, z2, Nat.add_assoc] at *
          simp [*]) rfl
      · have s4 : ∀ (u : SM), (sIf (eOp opEq (eVar 2) (eC (.int 2))) u sSkip) [some (.loc 0), some (.lst rs), some (.int (i : Int)), some (.int (a : Int)), none, none] (c2 :: T) = .nx [some (.loc 0), some (.lst rs), some (.int (i : Int)), some (.int (a : Int)), none, none] (c2 :: T) := fun u => ifFB (S' := c2 :: T) (by
            have : ¬ (i : Int) = 2 := by omega
            simp [this]) rfl
        have hb : a % rs.length < rs.length := Nat.mod_lt _ (by omega)
        have hmod : (a : Int) % (rs.length : Int) = ((a % rs.length : Nat) : Int) := by simp
        have s5 : (sAsg (eOp opMod (eVar 3) (eCallB bLenX (lCons (eVar 1) lNil))) (bName 3)) [some (.loc 0), some (.lst rs), some (.int (i : Int)), some (.int (a : Int)), none, none] (c2 :: T) = .nx [some (.loc 0), some (.lst rs), some (.int (i : Int)), some (.int ((a % rs.length : Nat) : Int)), none, none] (c2 :: T) := by
          have hp : (0 : Int) < (rs.length : Int) := by omega
          have hl : (rs.length : Int) < 1073741824 := by omega
          rw [← hmod]
          have hp' : 0 < rs.length := by omega
          simp [hp']
        generalize a % rs.length = b at hb s5
        obtain ⟨y, hy, ly⟩ := h rs[b] (List.getElem_mem hb)
        have at1 : atI rs (b : Int) = some (.str y) := by rw [← hy]; exact atI_nat (List.getElem?_eq_getElem hb)
        have lA' := cut_to rs b
        have lC' : (cutD rs (some ((b : Int) + 1)) none).length ≤ rs.length - min (b + 1) rs.length := cut_from rs (b + 1)
        have tA' := up.cut none (some (b : Int))
        have tC' := up.cut (some ((b : Int) + 1)) none
        have lAC : (cutD rs none (some (b : Int))).length + (cutD rs (some ((b : Int) + 1)) none).length ≤ 2 * rs.length := by omega
        have zy := sz_is (show y.length ≤ 16777216 by omega)
        by_cases c3' : i = 3
        · obtain ⟨k, c3, e3, h3, d3⟩ := nextX (T := T) ((y.length : Int) + 1) d2 (by omega) (by omega) (by omega)
          have y1 := cutS_length y none (some (k : Int))
          have y2 := cutS_length y (some (k : Int)) none
          have z1 := sz_is (show (cutD rs none (some (b : Int))).length + 2 ≤ 16777216 by omega)
          have z2 := sz_is (show (cutD rs none (some (b : Int))).length + 2 + (cutD rs (some ((b : Int) + 1)) none).length ≤ 16777216 by omega)
          refine ⟨cutD rs none (some (b : Int)) ++ [.str (cutS y none (some (k : Int))), .str (cutS y (some (k : Int)) none)] ++ cutD rs (some ((b : Int) + 1)) none, c3, fnRt (d := .lst _) (S' := c3 :: T) ?_ rfl, (tA'.app ((Tx.one (by omega)).app (Tx.one (by omega)))).app tC', by simp only [List.length_append, List.length_cons, List.length_nil]; omega, d3.mono (by omega)⟩
          rw [st]; unfold g__law_changed_rows
          refine stN s1 (stN s2 (stN (s3 _) (stN (s4 _) (stN s5 ?_))))
          refine stR (d := .lst (cutD rs none (some (b : Int)) ++ [.str (cutS y none (some (k : Int))), .str (cutS y (some (k : Int)) none)] ++ cutD rs (some ((b : Int) + 1)) none)) (S' := c3 :: T) ?_ rfl
          refine ifTB (S' := c2 :: T) (by subst c3'; simp) ?_
          refine stN (e := [some (.loc 0), some (.lst rs), some (.int (i : Int)), some (.int (b : Int)), none, some (.int (k : Int))]) (S' := c3 :: T) (by simp [at1, zy, e3]) ?_
          have z2' : sz 2 := sz_is (by decide)
          have sA : slDS (.str y) none (some (k : Int)) (c3 :: T) = .ok (.str (cutS y none (some (k : Int)))) (c3 :: T) := by rw [slDS_s, if_pos zy]
          have sB : slDS (.str y) (some (k : Int)) none (c3 :: T) = .ok (.str (cutS y (some (k : Int)) none)) (c3 :: T) := by rw [slDS_s, if_pos zy]
          simp [eSliceS_is, oSome, oNone, slDS_l, at1, sA, sB, z2', z1, z2]
        · obtain ⟨z, c3, e3, h3, d3⟩ := changed_ok2 (x := y) (T := T) (by omega) d2 (by omega)
          have z1 := sz_is (show (cutD rs none (some (b : Int))).length + 1 ≤ 16777216 by omega)
          have z2 := sz_is (show (cutD rs none (some (b : Int))).length + 1 + (cutD rs (some ((b : Int) + 1)) none).length ≤ 16777216 by omega)
          refine ⟨cutD rs none (some (b : Int)) ++ [.str z] ++ cutD rs (some ((b : Int) + 1)) none, c3, fnRt (d := .lst _) (S' := c3 :: T) ?_ rfl, (tA'.app (Tx.one (by omega))).app tC', by simp only [List.length_append, List.length_cons, List.length_nil]; omega, d3.mono (by omega)⟩
          rw [st]; unfold g__law_changed_rows
          refine stN s1 (stN s2 (stN (s3 _) (stN (s4 _) (stN s5 ?_))))
          refine stN (e := [some (.loc 0), some (.lst rs), some (.int (i : Int)), some (.int (b : Int)), none, none]) (S' := c2 :: T) (ifFB (S' := c2 :: T) (by
            have : ¬ (i : Int) = 3 := by omega
            simp [this]) rfl) ?_
          have z1' : sz 1 := sz_is (by decide)
          simp [eSliceS_is, oSome, oNone, slDS_l, at1, e3, z1', z1, z2]
end DX.K77
end
section
/-! k77: each turn; the wide board; the law. -/
namespace DX.K77
open PySem L2 DL PySem.NumText
variable [DL.Nm]
variable {S : Store} {x : Str} {T : Store} {c : Cell} {m : Nat}
theorem told_no {S1 : Store} {i : Int} : h__law_safe_told (.ex (noT i) S1) S = .ok (noL i) S1 := by
  have r := refusal_text (S := S1) (i := i)
  unfold h__law_safe_told hLam
  refine fnRt (S' := S1) (d := .lst [.str "NoText", .int i]) ?_ rfl
  unfold gLamB g__law_safe_told_s1 g__law_safe_told_r1
  have nn : (D.exn "NoText" ["row"] [.int i]).isN = false := rfl
  have z2 : sz 2 := sz_is (by decide)
  simp [startD, sTry_is, r, nn, z2]
theorem told_yes {d : D} {S1 : Store} : h__law_safe_told (.ok d S1) S = .ok d S1 := by
  unfold h__law_safe_told hLam
  refine fnRt (S' := S1) (d := d) ?_ rfl
  unfold gLamB g__law_safe_told_s1 g__law_safe_told_r1
  have nn : D.non.isN = true := rfl
  have z2 : sz 2 := sz_is (by decide)
  simp [startD, sTry_is, nn, z2]
theorem like_no {i : Int} : d__law_like [noL i, noL i] S = .ok (.bl true) S := like_ok (k := 1) (.lst (fun x hx => by
  simp only [List.mem_cons, List.not_mem_nil, or_false] at hx
  rcases hx with rfl | rfl
  · exact .str
  · exact .int) (by simp)) (by decide)
/-- what is told of a text, and what is due -/
theorem text_turn {x : Str} (hx : x.length ≤ 90000) {F : EM} {env : EnvD} (hF : F env S = d_read_board [.str x] S) :
    ∃ T', eLam h__law_safe_told F env S = .ok (dueD x) (S ++ T') ∧ ∀ S', d__law_like [dueD x, dueD x] S' = .ok (.bl true) S' := by
  have r := read_ok (S := S) (x := x) (by omega)
  unfold eLam
  rw [hF]
  unfold dueD
  cases hb : brdOf (parts x) with
  | inl k =>
    rw [hb] at r
    obtain ⟨T', r⟩ := r
    exact ⟨T', by rw [r]; exact told_no, fun S' => like_no⟩
  | inr ds =>
    rw [hb] at r
    refine ⟨[], by rw [r, List.append_nil]; exact told_yes, fun S' => ?_⟩
    have hq : rdRows 0 (parts x).dropLast = .inr ds := by
      unfold brdOf at hb
      cases hq : rdRows 0 (parts x).dropLast with
      | inl k => rw [hq] at hb; cases hb
      | inr ds' =>
        rw [hq] at hb
        dsimp only at hb
        split at hb
        · cases hb; rfl
        · cases hb
    obtain ⟨_, g, hl⟩ := rdRows_frz _ _ hq
    have pl : ∀ p ∈ (parts x).dropLast, p.length ≤ 90000 := fun p hp => Nat.le_trans (PyProof.Rows.part_short ((List.dropLast_sublist _).subset hp)) hx
    have nl : (parts x).length ≤ x.length + 2 := PyProof.Rows.split_le x "\n"
    exact like_ok (k := 9) (.tup (fun d hd => (g 90000 pl d hd).nice2 (by omega)) (by rw [hl, List.length_dropLast]; omega)) (by decide)
theorem Tx.lists {B : Nat} : ∀ {ds : List D}, Tx B ds → ∃ l : List (List Nat), ds = l.map (fun a => D.str (mkS a)) ∧ ∀ a ∈ l, a.length ≤ B
  | [], _ => ⟨[], rfl, by simp⟩
  | d :: ds, h => by
    obtain ⟨x, rfl, hx⟩ := h d List.mem_cons_self
    obtain ⟨l, e, hl⟩ := Tx.lists fun y hy => h y (List.mem_cons_of_mem _ hy)
    refine ⟨cp x :: l, by rw [e, List.map_cons, mk_cp], fun a ha => ?_⟩
    rcases List.mem_cons.mp ha with rfl | ha
    · rw [cp_len]; exact hx
    · exact hl a ha
theorem flat_len {B : Nat} {l : List (List Nat)} (h : ∀ a ∈ l, a.length ≤ B) : ((l.map (· ++ [10])).flatten).length ≤ l.length * (B + 1) := by
  rw [List.length_flatten, List.map_map]
  exact sum_up l fun a ha => by have := h a ha; simp; omega
theorem lines_ok {i : Nat} {elt : EM} {env : EnvD} {l : List (List Nat)} {B : Nat} (hB : B ≤ 100000) (h : ∀ a ∈ l, a.length ≤ B) (hl : l.length ≤ 1000) (he : ∀ a : List Nat, a.length ≤ B → elt (env.set i (some (.str (mkS a)))) S = .ok (.str (mkS (a ++ [10]))) S) :
    lcD (bName i) eYes elt env [] (l.map fun a => .str (mkS a)) S = .ok ((l.map (· ++ [10])).map fun a => .str (mkS a)) S := by
  have lc := lcD_map (S := S) (b := bName i) (elt := elt) (env := env) (fun d => match d with | .str y => .str (mkS (cp y ++ [10])) | d => d) (l.map fun a => .str (mkS a)) (fun d hd => by
    obtain ⟨a, ha, rfl⟩ := List.mem_map.mp hd
    refine ⟨_, rfl, ?_⟩
    rw [he a (h a ha)]
    show _ = ER.ok (D.str (mkS (cp (mkS a) ++ [10]))) S
    rw [cp_mk]) (by rw [List.length_map]; omega)
  rw [lc, List.map_map, List.map_map]
  refine congrArg (fun z => LR.ok z S) (List.map_congr_left fun a _ => ?_)
  show D.str (mkS (cp (mkS a) ++ [10])) = D.str (mkS (a ++ [10]))
  rw [cp_mk]
theorem add_nl {a : List Nat} {B : Nat} (hB : B ≤ 100000) (h : a.length ≤ B) : opAdd (.str (mkS a)) (.str "\n") S = .ok (.str (mkS (a ++ [10]))) S := by
  rw [nl_is, mk_app, opAdd_ss, if_pos (sz_is (by rw [mk_len, mk_len]; simp; omega))]
abbrev kE (a0 a1 a3 a5 a6 a7 a8 a9 a10 a11 : Option D) (R : List D) : EnvD := [a0, a1, some (.loc 0), a3, some (.lst R), a5, a6, a7, a8, a9, a10, a11]
theorem turn_ok {R : List D} (hR : Tx 4000 R) (hn : R.length ≤ 6) (d : Drw c m) (hm : m ≤ 60000) {a0 a1 a3 a5 a6 a7 a8 a9 : Option D} :
    ∃ b7 b8 c' T', g__law_right_b1 (kE a0 a1 a3 a5 a6 a7 a8 a9 none none R) (c :: T) = .nx (kE a0 a1 a3 a5 a6 b7 b8 a9 none none R) (c' :: T') ∧ Drw c' (m + 22) := by
  obtain ⟨R1, c1, e1, t1, n1, d1⟩ := rows_ok (T := T) (by decide) (by decide) hR (by omega) d (by omega)
  obtain ⟨i, c2, e2, h2, d2⟩ := nextX (T := T) 3 d1 (by omega) (by omega) (by omega)
  obtain ⟨R2, c3, e3, t3, n3, d3⟩ : ∃ R2 c3, (eIf (eOp opEq (eCall d__law_next (lCons (eVar 2) (lCons (eC (.int 3)) lNil))) (eC (.int 0))) (eCall d__law_changed_rows (lCons (eVar 2) (lCons (eVar 7) lNil))) (eVar 7)) (kE a0 a1 a3 a5 a6 (some (.lst R1)) a8 a9 none none R) (c1 :: T) = .ok (.lst R2) (c3 :: T) ∧ Tx 4002 R2 ∧ R2.length ≤ 8 ∧ Drw c3 (m + 21) := by
    by_cases hi : i = 0
    · obtain ⟨R2, c3, e3, t3, n3, d3⟩ := rows_ok (T := T) (by decide) (by decide) t1 (by omega) d2 (by omega)
      exact ⟨R2, c3, by subst hi; simp [e2, e3], t3, by omega, d3⟩
    · exact ⟨R1, c2, by simp [e2, hi], t1.up (by omega), by omega, d2.mono (by omega)⟩
  obtain ⟨l, rfl, hl⟩ := t3.lists
  rw [List.length_map] at n3
  have lc := lines_ok (S := c3 :: T) (i := 10) (elt := g__law_right_e5) (env := kE a0 a1 a3 a5 a6 (some (.lst (l.map fun a => .str (mkS a)))) a8 a9 none none R) (by decide) hl (by omega) (fun a ha => by
    have q := add_nl (S := c3 :: T) (a := a) (by decide : 4002 ≤ 100000) ha
    unfold g__law_right_e5
    simp [-opAdd_ss, q])
  have fl := flat_len hl
  have fl' : ((l.map (· ++ [10])).flatten).length ≤ 8 * 4003 := Nat.le_trans fl (Nat.mul_le_mul_right _ n3)
  have j := mJoin_flat (S := c3 :: T) (l := l.map (· ++ [10])) (by omega)
  generalize hx : mkS ((l.map (· ++ [10])).flatten) = x at j
  have xl : x.length ≤ 32024 := by rw [← hx, mk_len]; omega
  have jt : tyD "str" (c3 :: T) (.str "") = true := rfl
  obtain ⟨k, c4, e4, h4, d4⟩ := nextX (T := T) 6 d3 (by omega) (by omega) (by omega)
  have zx := sz_is (show x.length ≤ 16777216 by omega)
  obtain ⟨y, e5, yl⟩ : ∃ y : Str, (eIf (eOp opEq (eCall d__law_next (lCons (eVar 2) (lCons (eC (.int 6)) lNil))) (eC (.int 0))) (eSliceS (eVar 8) oNone (oSome (eNeg (eC (.int 1))))) (eVar 8)) (kE a0 a1 a3 a5 a6 (some (.lst (l.map fun a => .str (mkS a)))) (some (.str x)) a9 none none R) (c3 :: T) = .ok (.str y) (c4 :: T) ∧ y.length ≤ 32024 := by
    by_cases hk : k = 0
    · have sl : slDS (.str x) none (some (-1)) (c4 :: T) = .ok (.str (cutS x none (some (-1)))) (c4 :: T) := by rw [slDS_s, if_pos zx]
      exact ⟨cutS x none (some (-1)), by subst hk; simp [e4, eSliceS_is, oSome, oNone, sl], Nat.le_trans (cutS_length x none (some (-1))) xl⟩
    · exact ⟨x, by simp [e4, hk], xl⟩
  obtain ⟨T', lam, lk⟩ := text_turn (S := c4 :: T) (x := y) (by omega) (F := g__law_right_l1) (env := kE a0 a1 a3 a5 a6 (some (.lst (l.map fun a => .str (mkS a)))) (some (.str y)) a9 none none R) (by unfold g__law_right_l1; simp)
  have due := due_ok (S := c4 :: (T ++ T')) (x := y) (by omega)
  have lk' := lk (c4 :: (T ++ T'))
  refine ⟨some (.lst (l.map fun a => .str (mkS a))), some (.str y), c4, T ++ T', ?_, d4.mono (by omega)⟩
  unfold g__law_right_b1
  refine stN (e := kE a0 a1 a3 a5 a6 (some (.lst R1)) a8 a9 none none R) (S' := c1 :: T) (by simp [e1]) ?_
  refine stN (e := kE a0 a1 a3 a5 a6 (some (.lst (l.map fun a => .str (mkS a)))) a8 a9 none none R) (S' := c3 :: T) (by
    show (eIf _ _ _ _ _).bindS _ _ = _
    rw [e3]; rfl) ?_
  refine stN (e := kE a0 a1 a3 a5 a6 (some (.lst (l.map fun a => .str (mkS a)))) (some (.str x)) a9 none none R) (S' := c3 :: T) (by simp [eMeth, jt, lc, j, -List.map_map]) ?_
  refine stN (e := kE a0 a1 a3 a5 a6 (some (.lst (l.map fun a => .str (mkS a)))) (some (.str y)) a9 none none R) (S' := c4 :: T) (by
    show (eIf _ _ _ _ _).bindS _ _ = _
    rw [e5]; rfl) ?_
  simp [lam, due, lk']
theorem turns_ok {R : List D} (hR : Tx 4000 R) (hn : R.length ≤ 6) {a0 a1 a3 a5 a9 : Option D} : ∀ (ks : List D) (a6 a7 a8 : Option D) (c : Cell) (T : Store) (m : Nat), Drw c m → m + 22 * ks.length ≤ 60000 →
    ∃ b6 b7 b8 c' T', forD (bName 6) g__law_right_b1 ks (kE a0 a1 a3 a5 a6 a7 a8 a9 none none R) (c :: T) = .nx (kE a0 a1 a3 a5 b6 b7 b8 a9 none none R) (c' :: T') ∧ Drw c' (m + 22 * ks.length)
  | [], a6, a7, a8, c, T, m, d, _ => ⟨a6, a7, a8, c, T, by simp [forD], d⟩
  | k :: ks, a6, a7, a8, c, T, m, d, hm => by
    simp only [List.length_cons] at hm
    obtain ⟨b7, b8, c1, T1, e1, d1⟩ := turn_ok (T := T) hR hn d (by omega) (a0 := a0) (a1 := a1) (a3 := a3) (a5 := a5) (a6 := some k) (a7 := a7) (a8 := a8) (a9 := a9)
    obtain ⟨f6, f7, f8, c', T', e2, d2⟩ := turns_ok hR hn ks (some k) b7 b8 c1 T1 (m + 22) d1 (by omega)
    exact ⟨f6, f7, f8, c', T', forC (e1 := kE a0 a1 a3 a5 (some k) a7 a8 a9 none none R) rfl e1 e2, by rw [List.length_cons, show m + 22 * (ks.length + 1) = m + 22 + 22 * ks.length by omega]; exact d2⟩
/-- a board of rows, checked -/
theorem nice_rows {rows : List D} {L : Nat} (g : ∀ r ∈ rows, Good 8 L r) (hL : L ≤ 100000) (hn : rows.length ≤ 100000) : Nice 9 (.tup rows) := .tup (fun r hr => (g r hr).nice hL) hn
theorem brd_len {rows : List D} {L : Nat} (g : ∀ r ∈ rows, Good 8 L r) : (brdL rows).length ≤ rows.length * (L + 1) := by
  unfold brdL
  rw [List.length_flatten, List.map_map]
  exact sum_up rows fun r hr => by have := (g r hr).len; simp; omega
structure Row (d : D) : Prop where
  g : Good 3 3770 d
  t : isTup d = true
theorem row_draw {cell k0 : D} (d : Drw c m) (hm : m ≤ 70000) (kk : D) : ∃ a c', g__law_right_e2 ([some cell, some k0, some (.loc 0), none, none, none, none, none, none, none, some kk, none]) [c] = .ok a [c'] ∧ Row a ∧ Drw c' (m + 1009) := by
  obtain ⟨i, c1, e1, h1, d1⟩ := nextX (T := []) 5 d (by omega) (by omega) (by omega)
  have hS : Sg 2 = 252 := rfl
  obtain ⟨l, c', e3, hl, hP, d3⟩ := DR.lc_draw (fun d : D => d) (fun d => Good 2 (Lg 2) d) 252 11 80000 (elt := g__law_right_e1) (env := [some cell, some k0, some (.loc 0), none, none, none, none, none, none, none, some kk, none]) (fun kk2 c m d hm => by
    obtain ⟨x, c', e, g, d'⟩ := thing_ok 2 12 c m (by decide) d (by omega)
    have e' : d__law_thing [.loc 0, .int 2] [c] = .ok x [c'] := e
    refine ⟨x, c', ?_, g, d'⟩
    unfold g__law_right_e1
    simp [e']) (rangeD 0 i) [] c1 (m + 1) d1 (by rw [range_len]; omega) (by rw [range_len]; simp; omega)
  rw [range_len] at hl d3
  rw [List.nil_append, List.map_id'] at e3
  have r1 : rOk (i : Int) := rOk_n (by omega)
  have zk := sz_is (show i ≤ 16777216 by omega)
  have gd := good_tup hP
  have hL : Lg 2 = 940 := rfl
  have hlk : l.length * (Lg 2 + 2) ≤ 4 * (Lg 2 + 2) := Nat.mul_le_mul_right _ (by omega)
  refine ⟨.tup l, c', ?_, ⟨gd.up (Nat.le_refl _) (by omega), rfl⟩, d3.mono (by omega)⟩
  unfold g__law_right_e2
  simp [e1, r1, zk, e3]
theorem right_ok (cell : Int) {k0 : Nat} (hk : k0 ≤ 100) : d__law_right [.int cell, .int (k0 : Int)] [] = .ok (.bl true) [] := by
  obtain ⟨c0, p0, d0⟩ := begun1 cell (k := (k0 : Int)) (by omega) (by omega)
  obtain ⟨n, c1, e1, h1, d1⟩ := nextX (T := []) 7 d0 (by omega) (by omega) (by omega)
  obtain ⟨rows, c2, e2, hl, hP, d2⟩ := DR.lc_draw (fun d : D => d) Row 1009 10 60000 (elt := g__law_right_e2) (env := [some (.int cell), some (.int (k0 : Int)), some (.loc 0), none, none, none, none, none, none, none, none, none]) (fun kk c m d hm => row_draw d (by omega) kk) (rangeD 0 n) [] c1 (0 + 1) d1 (by rw [range_len]; omega) (by rw [range_len]; simp; omega)
  rw [range_len] at hl d2
  rw [List.nil_append, List.map_id'] at e2
  have n6 : rows.length ≤ 6 := by omega
  have G : ∀ r ∈ rows, Good 8 3770 r := fun r hr => (hP r hr).g.up (by omega) (Nat.le_refl _)
  have bl := brd_len G
  have bl2 : (brdL rows).length ≤ 6 * 3771 := Nat.le_trans bl (Nat.mul_le_mul_right _ n6)
  have tx : ∀ S, lcD (bName 10) eYes g__law_right_e3 [some (.int cell), some (.int (k0 : Int)), some (.loc 0), some (.lst rows), none, none, none, none, none, none, none, none] [] rows S = .ok (rows.map fun r => .str (mkS (wr 8 r))) S := fun S => lcD_map _ rows (fun r hr => by
    obtain ⟨_, w, _⟩ := written (S := S) (G r hr) (Nat.le_refl _) (by omega)
    exact ⟨_, rfl, by unfold g__law_right_e3; simp [w]⟩) (by omega)
  have R : Tx 4000 (rows.map fun r => .str (mkS (wr 8 r))) := fun d hd => by
    obtain ⟨r, hr, rfl⟩ := List.mem_map.mp hd
    exact ⟨_, rfl, by rw [mk_len]; have := (G r hr).len; omega⟩
  have wl : ∀ a ∈ rows.map (wr 8), a.length ≤ 3770 := fun a ha => by
    obtain ⟨r, hr, rfl⟩ := List.mem_map.mp ha
    exact (G r hr).len
  have lc : ∀ S, lcD (bName 10) eYes g__law_right_e4 [some (.int cell), some (.int (k0 : Int)), some (.loc 0), some (.lst rows), some (.lst (rows.map fun r => .str (mkS (wr 8 r)))), none, none, none, none, none, none, none] [] (rows.map fun r => .str (mkS (wr 8 r))) S = .ok (((rows.map (wr 8)).map (· ++ [10])).map fun a => .str (mkS a)) S := fun S => by
    have := lines_ok (S := S) (i := 10) (elt := g__law_right_e4) (env := [some (.int cell), some (.int (k0 : Int)), some (.loc 0), some (.lst rows), some (.lst (rows.map fun r => .str (mkS (wr 8 r)))), none, none, none, none, none, none, none]) (by decide) wl (by rw [List.length_map]; omega) (fun a ha => by
      have q := add_nl (S := S) (a := a) (by decide : 3770 ≤ 100000) ha
      unfold g__law_right_e4
      simp [-opAdd_ss, q])
    rw [List.map_map (l := rows)] at this
    exact this
  have fb : ((rows.map (wr 8)).map (· ++ [10])).flatten = brdL rows := by unfold brdL; rw [List.map_map]; rfl
  have j : ∀ S, mJoin (.str "") [.lst (((rows.map (wr 8)).map (· ++ [10])).map fun a => .str (mkS a))] S = .ok (.str (mkS (brdL rows))) S := fun S => by
    have := mJoin_flat (S := S) (l := (rows.map (wr 8)).map (· ++ [10])) (by rw [fb]; omega)
    rw [fb] at this; exact this
  have jt : ∀ S, tyD "str" S (.str "") = true := fun S => rfl
  obtain ⟨bt1, bt2⟩ := btext_ok (S := [c2]) (rows := rows) (L := 3770) (by decide) G (by omega) (by omega)
  have rb := read_brd (S := [c2]) (rows := rows) (fun r hr => ⟨(G r hr).tg, (hP r hr).t⟩) (by omega)
  have lk1 : d__law_like [.lst [.str (mkS (brdL rows)), .str (mkS (brdL rows))], .lst [.str (mkS (brdL rows)), .str (mkS (brdL rows))]] [c2] = .ok (.bl true) [c2] := like_ok (k := 1) (.lst (fun x hx => by
    simp only [List.mem_cons, List.not_mem_nil, or_false, or_self] at hx
    subst hx; exact .str) (by simp)) (by decide)
  have lk2 := like_ok (S := [c2]) (nice_rows G (by decide) (by omega)) (by decide)
  obtain ⟨b6, b7, b8, c3, T3, e3, d3⟩ := turns_ok R (by rw [List.length_map]; exact n6) (a0 := some (.int cell)) (a1 := some (.int (k0 : Int))) (a3 := some (.lst rows)) (a5 := some (.str (mkS (brdL rows)))) (a9 := none) (rangeD 0 6) none none none c2 [] _ d2 (by rw [range_len]; omega)
  rw [range_len] at d3
  obtain ⟨o, ho, c4, e4, d4⟩ := pickX (T := T3) [.non, .int 5, .lst [], .tup [], .bl true, .lst [.str (mkS (brdL rows))]] d3 (by omega) (by simp) (by simp)
  have ro : ∀ S, d_read_board [o] S = .ex (noT 0) S := fun S => by
    have odd : ∀ {d : D} {u : Ty}, tyO S d = some (.b u) → u.isa .str = false → d_read_board [d] S = .ex (noT 0) S := fun {d u} hu hs => by
      refine fnEx (e := [some d, none, none, none, none, none, none]) ?_
      rw [show startD 7 [d] = [some d, none, none, none, none, none, none] from by simp [startD_c, startD_n]]
      unfold g_read_board
      exact stX (q := noT 0) (e := [some d, none, none, none, none, none, none]) (S' := S) (by simp [hu, hs]) rfl
    simp only [List.mem_cons, List.not_mem_nil, or_false] at ho
    rcases ho with rfl | rfl | rfl | rfl | rfl | rfl
    all_goals exact odd (u := _) rfl rfl
  have r6 : rOk (6 : Int) := ⟨by decide, by decide⟩
  have r1 : rOk (n : Int) := rOk_n (by omega)
  have zn := sz_is (show n ≤ 16777216 by omega)
  generalize hq : mkS (brdL rows) = Q at *
  generalize hw : (rows.map fun r => D.str (mkS (wr 8 r))) = ws at *
  refine fnRt (d := .bl true) (S' := c4 :: T3) ?_ (exit_of rfl rfl)
  rw [show startD 12 [D.int cell, D.int (k0 : Int)] = [some (.int cell), some (.int (k0 : Int)), none, none, none, none, none, none, none, none, none, none] from by simp [startD_c, startD_n]]
  unfold g__law_right
  refine stN (e := [some (.int cell), some (.int (k0 : Int)), some (.loc 0), none, none, none, none, none, none, none, none, none]) (S' := [c0]) (by simp [p0]) ?_
  refine stN (e := [some (.int cell), some (.int (k0 : Int)), some (.loc 0), some (.lst rows), none, none, none, none, none, none, none, none]) (S' := [c2]) (by simp [e1, r1, zn, e2]) ?_
  refine stN (e := [some (.int cell), some (.int (k0 : Int)), some (.loc 0), some (.lst rows), some (.lst ws), none, none, none, none, none, none, none]) (S' := [c2]) (by simp [tx]) ?_
  refine stN (e := kE (some (.int cell)) (some (.int (k0 : Int))) (some (.lst rows)) (some (.str Q)) none none none none none none ws) (S' := [c2]) (by simp [eMeth, jt, lc, j, -List.map_map]) ?_
  refine stN (e := kE (some (.int cell)) (some (.int (k0 : Int))) (some (.lst rows)) (some (.str Q)) none none none none none none ws) (S' := [c2]) (by simp [bt1, bt2, lk1]) ?_
  refine stN (e := kE (some (.int cell)) (some (.int (k0 : Int))) (some (.lst rows)) (some (.str Q)) none none none none none none ws) (S' := [c2]) (by simp [rb, lk2]) ?_
  refine stN (e := kE (some (.int cell)) (some (.int (k0 : Int))) (some (.lst rows)) (some (.str Q)) b6 b7 b8 none none none ws) (S' := c3 :: T3) (by
    rw [sFor_is, show iRange1 (lCons (eC (.int 6)) lNil) (kE (some (.int cell)) (some (.int (k0 : Int))) (some (.lst rows)) (some (.str Q)) none none none none none none ws) [c2] = .ok (rangeD 0 6) [c2] from by simp [r6]]
    exact e3) ?_
  refine stN (e := kE (some (.int cell)) (some (.int (k0 : Int))) (some (.lst rows)) (some (.str Q)) b6 b7 b8 (some o) none none ws) (S' := c4 :: T3) (by simp [e4]) ?_
  have lam : eLam h__law_safe_told g__law_right_l2 (kE (some (.int cell)) (some (.int (k0 : Int))) (some (.lst rows)) (some (.str Q)) b6 b7 b8 (some o) none none ws) (c4 :: T3) = .ok (noL 0) (c4 :: T3) := by
    unfold eLam
    rw [show g__law_right_l2 (kE (some (.int cell)) (some (.int (k0 : Int))) (some (.lst rows)) (some (.str Q)) b6 b7 b8 (some o) none none ws) (c4 :: T3) = .ex (noT 0) (c4 :: T3) from by unfold g__law_right_l2; simp [ro]]
    exact told_no
  have nl := like_no (S := c4 :: T3) (i := 0)
  unfold noL at lam nl
  have z2 : sz 2 := sz_is (by decide)
  simp [lam, nl, z2]
end DX.K77
end
section
/-! k77: the wide board; the law. -/
namespace DX.K77
open PySem L2 DL PySem.NumText
variable [DL.Nm]
variable {S : Store}
theorem cp_rep {a : Str} {n : Nat} : ∀ c ∈ cp (repS a n), c ∈ cp a := by
  have go : ∀ (n : Nat) (acc : Array Nat), ∀ c ∈ ((List.replicate n a.cps).foldl (· ++ ·) acc).toList, c ∈ acc.toList ∨ c ∈ a.cps.toList := by
    intro n
    induction n with
    | zero => intro acc c h; exact .inl h
    | succ n ih =>
      intro acc c h
      rw [List.replicate_succ, List.foldl_cons] at h
      rcases ih _ c h with h | h
      · rw [Array.toList_append] at h
        exact List.mem_append.mp h
      · exact .inr h
  intro c h
  rcases go n #[] c h with h | h
  · simp at h
  · exact h
abbrev wA : D := .tup (rangeD 0 300)
abbrev wB : D := .tup [.str (repS "a\\ \"" 1250), .tup []]
abbrev wC : D := .tup ((rangeD 0 100).map fun k => .tup [.str "x", k])
theorem ran_mem {n : Nat} {d : D} (h : d ∈ rangeD 0 n) : ∃ i : Nat, i < n ∧ d = .int (i : Int) := by
  obtain ⟨i, hi, he⟩ := List.getElem_of_mem h
  obtain ⟨h1, h2⟩ := range_get (lo := 0) (n := n) (i := i) (d := d) (by rw [List.getElem?_eq_getElem hi, he])
  exact ⟨i, h1, by rw [h2, Int.zero_add]⟩
theorem gA : Good 8 30602 wA := by
  have g := good_tup (n := 7) (L := 100) (ds := rangeD 0 300) fun d hd => by
    obtain ⟨i, hi, rfl⟩ := ran_mem hd
    have : (300 : Nat) < 10 ^ 41 := by decide
    exact good_int (by omega)
  rw [range_len] at g
  exact g
theorem repB : (repS "a\\ \"" 1250).length = 5000 := by
  show (repS "a\\ \"" 1250).cps.size = _
  rw [repS_size, show ("a\\ \"" : Str).cps.size = 4 from by decide +kernel]
theorem gB : Good 8 30602 wB := by
  have pr : Pr (cp (repS "a\\ \"" 1250)) := fun c hc => by
    have : ∀ c ∈ cp "a\\ \"", 32 ≤ c ∧ c ≤ 126 := by decide +kernel
    exact this c (cp_rep c hc)
  have f : Fl (.str (repS "a\\ \"" 1250)) := .inr (.inr ⟨_, rfl, pr⟩)
  have g1 : Good 7 10002 (.str (repS "a\\ \"" 1250)) := by
    refine ⟨.fl f, ?_⟩
    rw [wrF_fl f]
    show (34 :: (wrWord (cp (repS "a\\ \"" 1250)) ++ [34])).length ≤ _
    have := wrWord_le (cp (repS "a\\ \"" 1250))
    rw [cp_len, repB] at this
    simp; omega
  have g2 : Good 7 10002 (.tup []) := by
    have : Good 1 2 (.tup []) := ⟨.tup (fun x hx => by cases hx), by rw [wr_tup]; decide⟩
    exact this.up (by decide) (by decide)
  exact (good_tup (n := 7) (L := 10002) fun d hd => by
    simp only [List.mem_cons, List.not_mem_nil, or_false] at hd
    rcases hd with rfl | rfl
    · exact g1
    · exact g2).up (by decide) (by decide)
theorem gC : Good 8 30602 wC := by
  have gx : Good 5 100 (.str "x") := ⟨.fl fl_x, by rw [wr_x]; decide⟩
  have g := good_tup (n := 6) (L := 206) (ds := (rangeD 0 100).map fun k => D.tup [.str "x", k]) fun d hd => by
    obtain ⟨k, hk, rfl⟩ := List.mem_map.mp hd
    obtain ⟨i, hi, rfl⟩ := ran_mem hk
    have h41 : (100 : Nat) < 10 ^ 41 := by decide
    exact good_tup (n := 5) (L := 100) (ds := [.str "x", .int (i : Int)]) fun d hd => by
      simp only [List.mem_cons, List.not_mem_nil, or_false] at hd
      rcases hd with rfl | rfl
      · exact gx
      · exact good_int (by omega)
  rw [List.length_map, range_len] at g
  exact g.up (by decide) (by decide)
theorem wide_of {rows : List D} (G : ∀ r ∈ rows, Good 8 30602 r) (I : ∀ r ∈ rows, isTup r = true) (hl3 : rows.length = 3) (s1 : (sAsg (eTup (lCons (eTRg (rg1 (eC (.int 300)))) (lCons (eTup (lCons (eOp opMulW (eC (.str "a\\ \"")) (eC (.int 1250))) (lCons (eTup lNil) lNil))) (lCons (eCallB bTuple (lCons (eLc (iRange1 (lCons (eC (.int 100)) lNil)) (bName 3) eYes g__law_is_wide_e1 [3]) lNil)) lNil)))) (bName 0)) [none, none, none, none] S = .nx [some (.tup rows), none, none, none] S) : d__law_is_wide [] S = .ok (.bl true) S := by
  have bl := brd_len G
  have hn : rows.length ≤ 100000 := by omega
  have st : startD 4 [] = [none, none, none, none] := by simp [startD_n]
  have bl2 : (brdL rows).length ≤ 91809 := by rw [hl3] at bl; exact bl
  have lc2 : lcD (bName 2) eYes g__law_is_wide_e2 [some (.tup rows), none, none, none] [] rows S = .ok (rows.map fun r => .str (mkS (wr 8 r ++ [10]))) S := lcD_map _ rows (fun r hr => ⟨_, rfl, by
    obtain ⟨_, w, _⟩ := written (S := S) (G r hr) (Nat.le_refl _) (by decide)
    have q := add_nl (S := S) (a := wr 8 r) (by decide : 30602 ≤ 100000) (G r hr).len
    unfold g__law_is_wide_e2
    simp [-opAdd_ss, w, q]⟩) (by omega)
  have j := mJoin_flat (S := S) (l := rows.map fun r => wr 8 r ++ [10]) (by show (brdL rows).length ≤ _; omega)
  rw [List.map_map] at j
  have j' : mJoin (.str "") [.lst (rows.map fun r => .str (mkS (wr 8 r ++ [10])))] S = .ok (.str (mkS (brdL rows))) S := j
  have jt : tyD "str" S (.str "") = true := rfl
  obtain ⟨bt1, bt2⟩ := btext_ok (S := S) (rows := rows) (L := 30602) (by decide) G (by omega) hn
  have rb := read_brd (S := S) (rows := rows) (fun r hr => ⟨(G r hr).tg, I r hr⟩) (by omega)
  have lk : d__law_like [.lst [.str (mkS (brdL rows)), .tup rows], .lst [.str (mkS (brdL rows)), .tup rows]] S = .ok (.bl true) S := like_ok (k := 10) (.lst (fun x hx => by
    simp only [List.mem_cons, List.not_mem_nil, or_false] at hx
    rcases hx with rfl | rfl
    · exact .str
    · exact nice_rows G (by decide) hn) (by simp)) (by decide)
  generalize mkS (brdL rows) = Q at *
  refine fnRt (d := .bl true) (S' := S) ?_ (exit_bl)
  rw [st]; unfold g__law_is_wide
  refine stN s1 ?_
  refine stN (e := [some (.tup rows), some (.str Q), none, none]) (S' := S) (by simp [eMeth, jt, lc2, j']) ?_
  simp [bt2, rb, lk]
theorem wide_ok : d__law_is_wide [] S = .ok (.bl true) S := by
  have G : ∀ r ∈ [wA, wB, wC], Good 8 30602 r := fun r hr => by
    simp only [List.mem_cons, List.not_mem_nil, or_false] at hr
    rcases hr with rfl | rfl | rfl
    · exact gA
    · exact gB
    · exact gC
  have I : ∀ r ∈ [wA, wB, wC], isTup r = true := fun r hr => by
    simp only [List.mem_cons, List.not_mem_nil, or_false] at hr
    rcases hr with rfl | rfl | rfl <;> rfl
  have m1 : opMulW (.str "a\\ \"") (.int 1250) S = .ok (.str (repS "a\\ \"" 1250)) S := by
    rw [opMulW_s, if_pos ⟨by decide, by decide, by decide +kernel, by decide +kernel⟩]; rfl
  have lc1 : lcD (bName 3) eYes g__law_is_wide_e1 [none, none, none, none] [] (rangeD 0 100) S = .ok ((rangeD 0 100).map fun k => .tup [.str "x", k]) S := lcD_map _ _ (fun d hd => ⟨_, rfl, by
    have z2 : sz 2 := sz_is (by decide)
    unfold g__law_is_wide_e1
    simp⟩) (by rw [range_len]; decide)
  have r100 : rOk (100 : Int) := ⟨by decide, by decide⟩
  have r300 : rOk (300 : Int) := ⟨by decide, by decide⟩
  have s1 : (sAsg (eTup (lCons (eTRg (rg1 (eC (.int 300)))) (lCons (eTup (lCons (eOp opMulW (eC (.str "a\\ \"")) (eC (.int 1250))) (lCons (eTup lNil) lNil))) (lCons (eCallB bTuple (lCons (eLc (iRange1 (lCons (eC (.int 100)) lNil)) (bName 3) eYes g__law_is_wide_e1 [3]) lNil)) lNil)))) (bName 0)) [none, none, none, none] S = .nx [some (.tup [wA, wB, wC]), none, none, none] S := by
    have z1 := sz_is (show 300 ≤ 16777216 by decide)
    have z2 := sz_is (show 100 ≤ 16777216 by decide)
    simp [-opMulW_s, m1, lc1, r100, r300, z1, z2]
  exact wide_of G I rfl s1
theorem law_true (ns : List Int) (h : ns.length ≤ 63) : ∃ S, d_law [.lst (ns.map .int)] [] = .ok (.bl true) S := by
  have e3 : (ns.map D.int ++ [.int 3]) = (ns ++ [3]).map D.int := by simp
  have hl : (cutD (ns ++ [3]) none (some (maxII 1 (minII 10 (ns.length : Int))))).length ≤ 100 := Nat.le_trans (cut_len _ _ _) (by simp; omega)
  obtain ⟨e', he⟩ := law_loop (S := []) (b := bTup (bCons (bName 1) (bCons (bName 2) bNil))) (body := g_law_b1) (e := [some (.lst (ns.map D.int)), none, none])
    (fun e => ∃ a b, e = [some (.lst (ns.map D.int)), a, b]) (cutD (ns ++ [3]) none (some (maxII 1 (minII 10 (ns.length : Int))))) ⟨_, _, rfl⟩ (by
      rintro i c e hi ⟨a, b, rfl⟩
      have hr := right_ok c (k0 := i) (by omega)
      refine ⟨[some (.lst (ns.map D.int)), some (.int (i : Nat)), some (.int c)], [some (.lst (ns.map D.int)), some (.int (i : Nat)), some (.int c)], rfl, ?_, _, _, rfl⟩
      simp [g_law_b1, hr])
  have w := wide_ok (S := [])
  unfold d_law g_law
  refine ⟨[], ?_⟩
  have e4 : cutD (ns.map D.int ++ [.int 3]) none (some (maxII 1 (minII 10 (ns.length : Int)))) = (cutD (ns ++ [3]) none (some (maxII 1 (minII 10 (ns.length : Int))))).map D.int := by rw [e3, cut_map]
  have hz : sz (ns.length + 1) := sz_is (by omega)
  simp [hz, e4, he, w]
end DX.K77
end
section
namespace DX.K77
open PySem L2 DX 
open DL hiding g__law_changed_text d__law_changed_text g__law_thing_b1 g__law_thing_e1 g__law_thing d__law_thing_n d__law_thing g__law_deep_thing_b1 g__law_deep_thing d__law_deep_thing g__law_read_number_c1 g__law_read_number_b1 g__law_read_number d__law_read_number g__law_read_word_c1 g__law_read_word_b1 g__law_read_word d__law_read_word g__law_text_e1 g__law_text d__law_text_n d__law_text g_number_from_c1 g_number_from_b1 g_number_from d_number_from g_text_from_c1 g_text_from_b1 g_text_from d_text_from g_thing_text d_thing_text_n d_thing_text
variable [DL.Nm]
def top (i : Nat) : Stmt := PySem.Challenge.pw_rolltally_k77_boards_of_rows.main.body.getD i (.Pass ⟨0, 0, 0, 0⟩)
structure Txt (K : PySem.W.Frag) (mg : Str → Option Value) (ca ce : Str → Option Addr) (Ts : List (Addr × Str)) (w : World) : Prop where
  own : ∀ c C, ca c = some C → OwnC K C
  b_ValueError : mg "ValueError" = none
  b_bool : mg "bool" = none
  b_dict : mg "dict" = none
  b_enumerate : mg "enumerate" = none
  b_int : mg "int" = none
  b_isinstance : mg "isinstance" = none
  b_len : mg "len" = none
  b_list : mg "list" = none
  b_max : mg "max" = none
  b_min : mg "min" = none
  b_range : mg "range" = none
  b_str : mg "str" = none
  b_tuple : mg "tuple" = none
  g_DEEPEST : ∃ t, mg "DEEPEST" = some (.int (8) t)
  g_FIGURES : ∃ t, mg "FIGURES" = some (.str "0123456789" t)
  g_MOST_FIGURES : ∃ t, mg "MOST_FIGURES" = some (.int (400) t)
  is_bool : IsT ⟨K, ca, ce, Ts⟩ (.type "bool") (tabB .bool)
  is_dict : IsT ⟨K, ca, ce, Ts⟩ (.type "dict") (tabB .dict)
  is_int : IsT ⟨K, ca, ce, Ts⟩ (.type "int") (tabB .int)
  is_list : IsT ⟨K, ca, ce, Ts⟩ (.type "list") (tabB .list)
  is_str : IsT ⟨K, ca, ce, Ts⟩ (.type "str") (tabB .str)
  is_tuple : IsT ⟨K, ca, ce, Ts⟩ (.type "tuple") (tabB .tuple)
  t_VoteError : ∃ C, mg "VoteError" = some (.ref C) ∧ ∀ cn C1, ce cn = some C1 → PySem.W.exmOne K (.ref C1) (.ref C) = some ((fun _ => true) cn)
  e_NoBits : ∃ C, mg "NoBits" = some (.ref C) ∧ IsTE ⟨K, ca, ce, Ts⟩ (.ref C) (tabX (fun c => decide (c = "NoBits")))
  e_NoChain : ∃ C, mg "NoChain" = some (.ref C) ∧ IsTE ⟨K, ca, ce, Ts⟩ (.ref C) (tabX (fun c => decide (c = "NoChain")))
  e_NoCode : ∃ C, mg "NoCode" = some (.ref C) ∧ IsTE ⟨K, ca, ce, Ts⟩ (.ref C) (tabX (fun c => decide (c = "NoCode")))
  e_NoCount : ∃ C, mg "NoCount" = some (.ref C) ∧ IsTE ⟨K, ca, ce, Ts⟩ (.ref C) (tabX (fun c => decide (c = "NoCount")))
  e_NoDay : ∃ C, mg "NoDay" = some (.ref C) ∧ IsTE ⟨K, ca, ce, Ts⟩ (.ref C) (tabX (fun c => decide (c = "NoDay")))
  e_NoLetter : ∃ C, mg "NoLetter" = some (.ref C) ∧ IsTE ⟨K, ca, ce, Ts⟩ (.ref C) (tabX (fun c => decide (c = "NoLetter")))
  e_NoLot : ∃ C, mg "NoLot" = some (.ref C) ∧ IsTE ⟨K, ca, ce, Ts⟩ (.ref C) (tabX (fun c => decide (c = "NoLot")))
  e_NoMark : ∃ C, mg "NoMark" = some (.ref C) ∧ IsTE ⟨K, ca, ce, Ts⟩ (.ref C) (tabX (fun c => decide (c = "NoMark")))
  e_NoName : ∃ C, mg "NoName" = some (.ref C) ∧ IsTE ⟨K, ca, ce, Ts⟩ (.ref C) (tabX (fun c => decide (c = "NoName")))
  e_NoPhase : ∃ C, mg "NoPhase" = some (.ref C) ∧ IsTE ⟨K, ca, ce, Ts⟩ (.ref C) (tabX (fun c => decide (c = "NoPhase")))
  e_NoPlace : ∃ C, mg "NoPlace" = some (.ref C) ∧ IsTE ⟨K, ca, ce, Ts⟩ (.ref C) (tabX (fun c => decide (c = "NoPlace")))
  e_NoRace : ∃ C, mg "NoRace" = some (.ref C) ∧ IsTE ⟨K, ca, ce, Ts⟩ (.ref C) (tabX (fun c => decide (c = "NoRace")))
  e_NoRow : ∃ C, mg "NoRow" = some (.ref C) ∧ IsTE ⟨K, ca, ce, Ts⟩ (.ref C) (tabX (fun c => decide (c = "NoRow")))
  e_NoRuling : ∃ C, mg "NoRuling" = some (.ref C) ∧ IsTE ⟨K, ca, ce, Ts⟩ (.ref C) (tabX (fun c => decide (c = "NoRuling")))
  e_NoStub : ∃ C, mg "NoStub" = some (.ref C) ∧ IsTE ⟨K, ca, ce, Ts⟩ (.ref C) (tabX (fun c => decide (c = "NoStub")))
  e_NoText : ∃ C, mg "NoText" = some (.ref C) ∧ IsTE ⟨K, ca, ce, Ts⟩ (.ref C) (tabX (fun c => decide (c = "NoText")))
  e_NoTime : ∃ C, mg "NoTime" = some (.ref C) ∧ IsTE ⟨K, ca, ce, Ts⟩ (.ref C) (tabX (fun c => decide (c = "NoTime")))
  e_NoWay : ∃ C, mg "NoWay" = some (.ref C) ∧ IsTE ⟨K, ca, ce, Ts⟩ (.ref C) (tabX (fun c => decide (c = "NoWay")))
  e_NotThere : ∃ C, mg "NotThere" = some (.ref C) ∧ IsTE ⟨K, ca, ce, Ts⟩ (.ref C) (tabX (fun c => decide (c = "NotThere")))
  e_NotWhole : ∃ C, mg "NotWhole" = some (.ref C) ∧ IsTE ⟨K, ca, ce, Ts⟩ (.ref C) (tabX (fun c => decide (c = "NotWhole")))
  e_Twice : ∃ C, mg "Twice" = some (.ref C) ∧ IsTE ⟨K, ca, ce, Ts⟩ (.ref C) (tabX (fun c => decide (c = "Twice")))
  e_VoteError : ∃ C, mg "VoteError" = some (.ref C) ∧ IsTE ⟨K, ca, ce, Ts⟩ (.ref C) (tabX (fun _ => true))
  xd : ∀ c C, ce c = some C → ExcD K C
  v_ValueError : IsTE ⟨K, ca, ce, Ts⟩ (.type "ValueError") (tabX (fun _ => true))
  xf_at : ∀ c C, ce c = some C → PySem.W.findIn K (.ref C) "at" = some none
  xf_row : ∀ c C, ce c = some C → PySem.W.findIn K (.ref C) "row" = some none
  xf_thing : ∀ c C, ce c = some C → PySem.W.findIn K (.ref C) "thing" = some none
section
variable {P : Program} {w : World} {K : PySem.W.Frag} {ca ce : Str → Option Addr} {Ts : List (Addr × Str)} {mg : Str → Option Value} {base : Heap}
abbrev s_NoText_init : Stmt := inClass (top 22) 0
theorem sc_NoText_init : FnScope ["self", "row"] ["self", "row"] (defScope s_NoText_init) := ⟨rfl, rfl, rfl, by decide +kernel, rfl, by decide +kernel, by decide +kernel⟩
abbrev s__law_like : Stmt := top 39
theorem sc__law_like : FnScope ["_law_found", "_law_due_here", "_law_wrong", "_law_k", "_law_key"] ["_law_found", "_law_due_here"] (defScope s__law_like) := ⟨rfl, rfl, rfl, by decide +kernel, rfl, by decide +kernel, by decide +kernel⟩
theorem ok__law_like {f : Addr} {fd : FuncData} (F : Fun K "_law_like" "_law_like" s__law_like f fd) (T : Txt K mg ca ce Ts w) (hm : mg "_law_like" = some (.ref f)) (hk : PySem.W.keepIn K (.ref f) = true) (hb : Binds K fd ["_law_found", "_law_due_here"] [])  : ∀ n : Nat, FnG P w K mg base (L2.CX P w) (n + 1) f fd ["_law_found", "_law_due_here"] (spD ⟨K, ca, ce, Ts⟩ 2 (d__law_like_n n))
  | 0 => fnG (G := ⟨K, ca, ce, Ts⟩) (N := ["_law_found", "_law_due_here", "_law_wrong", "_law_k", "_law_key"]) (k := 0) .pure F sc__law_like fun cdv A outer s H E hr tk po gd => dss_nev
  | n + 1 => by
    have c__law_like : DefG ⟨K, ca, ce, Ts⟩ P w mg base (n + 1) "_law_like" 2 (d__law_like_n n) := ⟨⟨f, fd, ["_law_found", "_law_due_here"], ok__law_like F T hm hk hb  n, hm, hk, hb⟩⟩
    exact fnG (G := ⟨K, ca, ce, Ts⟩) (N := ["_law_found", "_law_due_here", "_law_wrong", "_law_k", "_law_key"]) (k := n + 1) .pure F sc__law_like fun cdv A outer s H E hr tk po gd =>
(dss_cons (ds_if (dt_val (de_isCs rfl T.own (CNames.cons (cn_ty rfl T.b_tuple (by decide +kernel)) T.is_tuple (CNames.cons (cn_ty rfl T.b_list (by decide +kernel)) T.is_list CNames.nil)) (by decide) rfl T.b_isinstance (de_var 1)))
(dss_cons (ds_if (DW.t (dw_or (dt_not (dt_val (de_isCs rfl T.own (CNames.cons (cn_ty rfl T.b_tuple (by decide +kernel)) T.is_tuple (CNames.cons (cn_ty rfl T.b_list (by decide +kernel)) T.is_list CNames.nil)) (by decide) rfl T.b_isinstance (de_var 0)))) (dw_or1 (dt_cmp (do_ne rfl (units100 hr)) (de_isC rfl T.own T.is_tuple (cn_ty rfl T.b_tuple (by decide +kernel)) rfl T.b_isinstance (de_var 0)) (de_isC rfl T.own T.is_tuple (cn_ty rfl T.b_tuple (by decide +kernel)) rfl T.b_isinstance (de_var 1))))))
(dss_one (ds_ret de_bl))
dss_nil)
(dss_cons (ds_setLc (own := [("_law_k", 3)]) (i := 2) rfl sc__law_like.nd (di_range1 rfl T.b_range (da_cons (de_callB (dc_min2 rfl) rfl T.b_min (by decide +kernel) (da_cons (de_callB (dc_lenX rfl) rfl T.b_len (by decide +kernel) (da_cons (de_var 0) da_nil)) (da_cons (de_callB (dc_lenX rfl) rfl T.b_len (by decide +kernel) (da_cons (de_var 1) da_nil)) da_nil))) da_nil)) (blkOk_by (N := ["_law_found", "_law_due_here", "_law_wrong", "_law_k", "_law_key"]) (sc := defScope s__law_like) (own := [("_law_k", 3)]) (by decide +kernel)) (fun _ _ _ _ _ => (dg_name sc__law_like.nd rfl (by first | exact Or.inl rfl | exact Or.inr rfl))) (fun _ _ _ _ _ => (dts_one (dt_not (dt_val (de_callG c__law_like gd rfl (hr.mono (by omega)) rfl takes0 (da_cons (de_ixX rfl (units1 hr) (de_var 0) (de_var 3)) (da_cons (de_ixX rfl (units1 hr) (de_var 1) (de_var 3)) da_nil)) rfl (la_cons (la_cons la_nil))))))) (fun _ _ _ _ _ => (de_var 3)) (by decide) rfl rfl (sw_true rfl rfl rfl (by decide +kernel)))
(dss_one (ds_ret (de_and (de_cmp (do_eq rfl (units100 hr)) (de_callB (dc_lenX rfl) rfl T.b_len (by decide +kernel) (da_cons (de_var 0) da_nil)) (de_callB (dc_lenX rfl) rfl T.b_len (by decide +kernel) (da_cons (de_var 1) da_nil))) (de_one (de_cmp (do_eq rfl (units100 hr)) (de_var 2) (de_lst da_nil))))))))
dss_nil)
(dss_cons (ds_if (dt_val (de_isC rfl T.own T.is_dict (cn_ty rfl T.b_dict (by decide +kernel)) rfl T.b_isinstance (de_var 1)))
(dss_cons (ds_if (DW.t (dw_or (dt_not (dt_val (de_isC rfl T.own T.is_dict (cn_ty rfl T.b_dict (by decide +kernel)) rfl T.b_isinstance (de_var 0)))) (dw_or1 (dt_cmp (do_ne rfl (units100 hr)) (de_callTy (dc_listX rfl rfl) rfl T.b_list (by decide +kernel) (da_cons (de_var 0) da_nil)) (de_callTy (dc_listX rfl rfl) rfl T.b_list (by decide +kernel) (da_cons (de_var 1) da_nil))))))
(dss_one (ds_ret de_bl))
dss_nil)
(dss_one (ds_ret (de_cmp (do_eq rfl (units100 hr)) (de_lc (own := [("_law_key", 4)]) rfl sc__law_like.nd (di_any rfl (de_var 1)) (blkOk_by (N := ["_law_found", "_law_due_here", "_law_wrong", "_law_k", "_law_key"]) (sc := defScope s__law_like) (own := [("_law_key", 4)]) (by decide +kernel)) (fun _ _ _ _ _ => (dg_name sc__law_like.nd rfl (by first | exact Or.inl rfl | exact Or.inr rfl))) (fun _ _ _ _ _ => (dts_one (dt_not (dt_val (de_callG c__law_like gd rfl (hr.mono (by omega)) rfl takes0 (da_cons (de_ixX rfl (units1 hr) (de_var 0) (de_var 4)) (da_cons (de_ixX rfl (units1 hr) (de_var 1) (de_var 4)) da_nil)) rfl (la_cons (la_cons la_nil))))))) (fun _ _ _ _ _ => (de_var 4)) (by decide)) (de_lst da_nil)))))
dss_nil)
(dss_cons (ds_if (DW.t (dw_or (dt_cmp do_isN (de_var 1) de_non) (dw_or1 (dt_cmp do_isN (de_var 0) de_non))))
(dss_one (ds_ret (de_and (de_cmp do_isN (de_var 0) de_non) (de_one (de_cmp do_isN (de_var 1) de_non)))))
dss_nil)
(dss_cons (ds_if (dt_val (de_isC rfl T.own T.is_str (cn_ty rfl T.b_str (by decide +kernel)) rfl T.b_isinstance (de_var 1)))
(dss_one (ds_ret (de_and (de_isC rfl T.own T.is_str (cn_ty rfl T.b_str (by decide +kernel)) rfl T.b_isinstance (de_var 0)) (de_one (de_cmp (do_eq rfl (units100 hr)) (de_var 0) (de_var 1))))))
dss_nil)
(dss_one (ds_ret (de_and (de_isC rfl T.own T.is_int (cn_ty rfl T.b_int (by decide +kernel)) rfl T.b_isinstance (de_var 0)) (de_and (de_cmp (do_eq rfl (units100 hr)) (de_isC rfl T.own T.is_bool (cn_ty rfl T.b_bool (by decide +kernel)) rfl T.b_isinstance (de_var 0)) (de_isC rfl T.own T.is_bool (cn_ty rfl T.b_bool (by decide +kernel)) rfl T.b_isinstance (de_var 1))) (de_one (de_cmp (do_eq rfl (units100 hr)) (de_var 0) (de_var 1)))))))))))

abbrev s_thing_text : Stmt := top 27
theorem sc_thing_text : FnScope ["thing", "one"] ["thing"] (defScope s_thing_text) := ⟨rfl, rfl, rfl, by decide +kernel, rfl, by decide +kernel, by decide +kernel⟩
theorem ok_thing_text {f : Addr} {fd : FuncData} (F : Fun K "thing_text" "thing_text" s_thing_text f fd) (T : Txt K mg ca ce Ts w) (hm : mg "thing_text" = some (.ref f)) (hk : PySem.W.keepIn K (.ref f) = true) (hb : Binds K fd ["thing"] [])  : ∀ n : Nat, FnG P w K mg base (L2.CX P w) (n + 1) f fd ["thing"] (spD ⟨K, ca, ce, Ts⟩ 1 (d_thing_text_n n))
  | 0 => fnG (G := ⟨K, ca, ce, Ts⟩) (N := ["thing", "one"]) (k := 0) .pure F sc_thing_text fun cdv A outer s H E hr tk po gd => dss_nev
  | n + 1 => by
    have c_thing_text : DefG ⟨K, ca, ce, Ts⟩ P w mg base (n + 1) "thing_text" 1 (d_thing_text_n n) := ⟨⟨f, fd, ["thing"], ok_thing_text F T hm hk hb  n, hm, hk, hb⟩⟩
    exact fnG (G := ⟨K, ca, ce, Ts⟩) (N := ["thing", "one"]) (k := n + 1) .pure F sc_thing_text fun cdv A outer s H E hr tk po gd =>
(dss_cons (ds_if (dt_val (de_isC rfl T.own T.is_tuple (cn_ty rfl T.b_tuple (by decide +kernel)) rfl T.b_isinstance (de_var 0)))
(dss_one (ds_ret (de_op (do_add rfl) (de_op (do_add rfl) de_str (de_meth PySem.F.plainAttrs_str PySem.F.slot_str_join PySem.F.type_str_join (dm_join rfl) rfl de_str (da_cons (de_lc (own := [("one", 1)]) rfl sc_thing_text.nd (di_seq rfl (de_var 0)) (blkOk_by (N := ["thing", "one"]) (sc := defScope s_thing_text) (own := [("one", 1)]) (by decide +kernel)) (fun _ _ _ _ _ => (dg_name sc_thing_text.nd rfl (by first | exact Or.inl rfl | exact Or.inr rfl))) (fun _ _ _ _ _ => dts_nil) (fun _ _ _ _ _ => (de_callG c_thing_text gd rfl (hr.mono (by omega)) rfl takes0 (da_cons (de_var 1) da_nil) rfl (la_cons la_nil))) (by decide)) da_nil))) de_str)))
dss_nil)
(dss_cons (ds_if (dt_cmp do_isN (de_var 0) de_non)
(dss_one (ds_ret de_str))
dss_nil)
(dss_cons (ds_if (dt_val (de_isC rfl T.own T.is_str (cn_ty rfl T.b_str (by decide +kernel)) rfl T.b_isinstance (de_var 0)))
(dss_one (ds_ret (de_op (do_add rfl) (de_cRep (de_var 0)) de_str)))
dss_nil)
(dss_one (ds_ret (de_callTy dc_strX rfl T.b_str (by decide +kernel) (da_cons (de_var 0) da_nil)))))))

abbrev s_board_text : Stmt := top 33
theorem sc_board_text : FnScope ["board", "row"] ["board"] (defScope s_board_text) := ⟨rfl, rfl, rfl, by decide +kernel, rfl, by decide +kernel, by decide +kernel⟩
theorem ok_board_text {f : Addr} {fd : FuncData} (F : Fun K "board_text" "board_text" s_board_text f fd) (T : Txt K mg ca ce Ts w) (c_thing_text : DefG ⟨K, ca, ce, Ts⟩ P w mg base 13 "thing_text" 1 d_thing_text) : FnG P w K mg base (L2.CX P w) 14 f fd ["board"] (spD ⟨K, ca, ce, Ts⟩ 1 d_board_text) :=
fnG (G := ⟨K, ca, ce, Ts⟩) (N := ["board", "row"]) .pure F sc_board_text fun cdv A outer s H E hr tk po gd =>
(dss_one (ds_ret (de_meth PySem.F.plainAttrs_str PySem.F.slot_str_join PySem.F.type_str_join (dm_join rfl) rfl de_str (da_cons (de_lc (own := [("row", 1)]) rfl sc_board_text.nd (di_seq rfl (de_var 0)) (blkOk_by (N := ["board", "row"]) (sc := defScope s_board_text) (own := [("row", 1)]) (by decide +kernel)) (fun _ _ _ _ _ => (dg_name sc_board_text.nd rfl (by first | exact Or.inl rfl | exact Or.inr rfl))) (fun _ _ _ _ _ => dts_nil) (fun _ _ _ _ _ => (de_op (do_add rfl) (de_callG c_thing_text gd rfl (hr.mono (by omega)) rfl takes0 (da_cons (de_var 1) da_nil) rfl (la_cons la_nil)) de_str)) (by decide)) da_nil))))

abbrev s_number_from : Stmt := top 28
theorem sc_number_from : FnScope ["text", "at", "end", "word", "figures"] ["text", "at"] (defScope s_number_from) := ⟨rfl, rfl, rfl, by decide +kernel, rfl, by decide +kernel, by decide +kernel⟩
theorem ok_number_from {f : Addr} {fd : FuncData} (F : Fun K "number_from" "number_from" s_number_from f fd) (T : Txt K mg ca ce Ts w)  : FnG P w K mg base (L2.CX P w) 1 f fd ["text", "at"] (spD ⟨K, ca, ce, Ts⟩ 2 d_number_from) :=
fnG (G := ⟨K, ca, ce, Ts⟩) (N := ["text", "at", "end", "word", "figures"]) .pure F sc_number_from fun cdv A outer s H E hr tk po gd =>
(dss_cons (ds_set (i := 2) sc_number_from.nd rfl (Or.inl rfl) (de_if (dt_cmp (do_eq rfl (units100 hr)) (de_sliceS rfl (de_var 0) (do_some (de_var 1)) (do_some (de_op (do_add rfl) (de_var 1) de_int))) de_str) (de_op (do_add rfl) (de_var 1) de_int) (de_var 1)))
(dss_cons (ds_while po (DW.t (dw_and (dt_cmp do_lt (de_var 2) (de_callB (dc_lenX rfl) rfl T.b_len (by decide +kernel) (da_cons (de_var 0) da_nil))) (dw_and1 (dt_cmp (do_in rfl (units65 hr)) (de_ixX rfl (units1 hr) (de_var 0) (de_var 2)) (de_gStr T.g_FIGURES rfl)))))
(dss_one (ds_aug (i := 2) sc_number_from.nd rfl (Or.inl rfl) do_iadd de_int)))
(dss_cons (ds_set (i := 3) sc_number_from.nd rfl (Or.inl rfl) (de_sliceS rfl (de_var 0) (do_some (de_var 1)) (do_some (de_var 2))))
(dss_cons (ds_set (i := 4) sc_number_from.nd rfl (Or.inl rfl) (de_meth PySem.F.plainAttrs_str PySem.F.slot_str_lstrip PySem.F.type_str_lstrip dm_lstrip rfl (de_var 3) (da_cons de_str da_nil)))
(dss_cons (ds_if (DW.t (dw_or (dt_cmp (do_eq rfl (units100 hr)) (de_var 4) de_str) (dw_or (dt_cmp do_gt (de_callB (dc_lenX rfl) rfl T.b_len (by decide +kernel) (da_cons (de_var 4) da_nil)) (de_gInt T.g_MOST_FIGURES rfl)) (dw_or1 (DW.t (dw_and (dt_cmp (do_eq rfl (units100 hr)) (de_ixX rfl (units1 hr) (de_var 4) de_int) de_str) (dw_and1 (dt_cmp (do_ne rfl (units100 hr)) (de_var 3) de_str))))))))
(dss_one (ds_ret de_non))
dss_nil)
(dss_one (ds_ret (de_tup (da_cons (de_callTy dc_intS rfl T.b_int (by decide +kernel) (da_cons (de_var 3) da_nil)) (da_cons (de_var 2) da_nil))))))))))

abbrev s_text_from : Stmt := top 29
theorem sc_text_from : FnScope ["text", "at", "signs"] ["text", "at"] (defScope s_text_from) := ⟨rfl, rfl, rfl, by decide +kernel, rfl, by decide +kernel, by decide +kernel⟩
theorem ok_text_from {f : Addr} {fd : FuncData} (F : Fun K "text_from" "text_from" s_text_from f fd) (T : Txt K mg ca ce Ts w)  : FnG P w K mg base (L2.CX P w) 1 f fd ["text", "at"] (spD ⟨K, ca, ce, Ts⟩ 2 d_text_from) :=
fnG (G := ⟨K, ca, ce, Ts⟩) (N := ["text", "at", "signs"]) .pure F sc_text_from fun cdv A outer s H E hr tk po gd =>
(dss_cons (ds_set (i := 2) sc_text_from.nd rfl (Or.inl rfl) (de_lstM da_nil))
(dss_cons (ds_aug (i := 1) sc_text_from.nd rfl (Or.inl rfl) do_iadd de_int)
(dss_cons (ds_while po (DW.t (dw_and (dt_cmp do_lt (de_var 1) (de_callB (dc_lenX rfl) rfl T.b_len (by decide +kernel) (da_cons (de_var 0) da_nil))) (dw_and1 (dt_cmp (do_ne rfl (units100 hr)) (de_ixX rfl (units1 hr) (de_var 0) (de_var 1)) de_str))))
(dss_cons (ds_if (dt_cmp (do_eq rfl (units100 hr)) (de_ixX rfl (units1 hr) (de_var 0) (de_var 1)) de_str)
(dss_cons (ds_aug (i := 1) sc_text_from.nd rfl (Or.inl rfl) do_iadd de_int)
(dss_one (ds_if (dt_cmp (do_notIn rfl (units65 hr)) (de_sliceS rfl (de_var 0) (do_some (de_var 1)) (do_some (de_op (do_add rfl) (de_var 1) de_int))) (de_tup (da_cons de_str (da_cons de_str da_nil))))
(dss_one (ds_ret de_non))
dss_nil)))
dss_nil)
(dss_cons (ds_if (dt_not (dt_chain do_leS do_leS de_str (de_ixX rfl (units1 hr) (de_var 0) (de_var 1)) de_str))
(dss_one (ds_ret de_non))
dss_nil)
(dss_cons (ds_expr (de_meth PySem.F.plainAttrs_list PySem.F.slot_list_append PySem.F.type_list_append dm_append rfl (de_var 2) (da_cons (de_ixX rfl (units1 hr) (de_var 0) (de_var 1)) da_nil)))
(dss_one (ds_aug (i := 1) sc_text_from.nd rfl (Or.inl rfl) do_iadd de_int))))))
(dss_one (ds_ret (de_if (dt_cmp do_lt (de_var 1) (de_callB (dc_lenX rfl) rfl T.b_len (by decide +kernel) (da_cons (de_var 0) da_nil))) (de_tup (da_cons (de_meth PySem.F.plainAttrs_str PySem.F.slot_str_join PySem.F.type_str_join (dm_join rfl) rfl de_str (da_cons (de_var 2) da_nil)) (da_cons (de_op (do_add rfl) (de_var 1) de_int) da_nil))) de_non))))))

abbrev s_tuple_from : Stmt := top 30
theorem sc_tuple_from : FnScope ["text", "at", "deep", "found", "told", "thing"] ["text", "at", "deep"] (defScope s_tuple_from) := ⟨rfl, rfl, rfl, by decide +kernel, rfl, by decide +kernel, by decide +kernel⟩
theorem ok_tuple_from {f : Addr} {fd : FuncData} {r_thing_from : FD} {lx : Nat} (F : Fun K "tuple_from" "tuple_from" s_tuple_from f fd) (T : Txt K mg ca ce Ts w) (c_thing_from : DefG ⟨K, ca, ce, Ts⟩ P w mg base lx "thing_from" 3 r_thing_from)  : FnG P w K mg base (L2.CX P w) (lx + 1) f fd ["text", "at", "deep"] (spD ⟨K, ca, ce, Ts⟩ 3 (d_tuple_from r_thing_from)) :=
fnG (G := ⟨K, ca, ce, Ts⟩) (N := ["text", "at", "deep", "found", "told", "thing"]) (k := lx) .pure F sc_tuple_from fun cdv A outer s H E hr tk po gd =>
(dss_cons (ds_if (dt_cmp (do_eq rfl (units100 hr)) (de_sliceS rfl (de_var 0) (do_some (de_op (do_add rfl) (de_var 1) de_int)) (do_some (de_op (do_add rfl) (de_var 1) de_int))) de_str)
(dss_one (ds_ret (de_tup (da_cons (de_tup da_nil) (da_cons (de_op (do_add rfl) (de_var 1) de_int) da_nil)))))
dss_nil)
(dss_cons (ds_set (i := 3) sc_tuple_from.nd rfl (Or.inl rfl) (de_lstM da_nil))
(dss_one (ds_while po (dt_val de_bl)
(dss_cons (ds_set (i := 4) sc_tuple_from.nd rfl (Or.inl rfl) (de_if (dt_cmp do_gt (de_var 2) de_int) (de_callG c_thing_from gd rfl (hr.mono (by omega)) rfl tk (da_cons (de_var 0) (da_cons (de_op (do_add rfl) (de_var 1) de_int) (da_cons (de_op do_sub (de_var 2) de_int) da_nil))) rfl (la_cons (la_cons (la_cons la_nil)))) de_non))
(dss_cons (ds_if (dt_cmp do_isN (de_var 4) de_non)
(dss_one (ds_ret de_non))
dss_nil)
(dss_cons (ds_asg (de_var 4) (dg_tup rfl rfl (dgs_cons (dg_name sc_tuple_from.nd rfl (by first | exact Or.inl rfl | exact Or.inr rfl)) (dgs_cons (dg_name sc_tuple_from.nd rfl (by first | exact Or.inl rfl | exact Or.inr rfl)) dgs_nil)) (blen_cons (blen_cons blen_nil))))
(dss_cons (ds_expr (de_meth PySem.F.plainAttrs_list PySem.F.slot_list_append PySem.F.type_list_append dm_append rfl (de_var 3) (da_cons (de_var 5) da_nil)))
(dss_cons (ds_if (dt_cmp (do_eq rfl (units100 hr)) (de_sliceS rfl (de_var 0) (do_some (de_var 1)) (do_some (de_op (do_add rfl) (de_var 1) de_int))) de_str)
(dss_one (ds_ret (de_tup (da_cons (de_callTy (dc_tuple rfl) rfl T.b_tuple (by decide +kernel) (da_cons (de_var 3) da_nil)) (da_cons (de_op (do_add rfl) (de_var 1) de_int) da_nil)))))
dss_nil)
(dss_cons (ds_if (dt_cmp (do_ne rfl (units100 hr)) (de_sliceS rfl (de_var 0) (do_some (de_var 1)) (do_some (de_op (do_add rfl) (de_var 1) de_int))) de_str)
(dss_one (ds_ret de_non))
dss_nil)
(dss_one (ds_aug (i := 1) sc_tuple_from.nd rfl (Or.inl rfl) do_iadd de_int))))))))))))

abbrev s_thing_from : Stmt := top 31
theorem sc_thing_from : FnScope ["text", "at", "deep", "sign"] ["text", "at", "deep"] (defScope s_thing_from) := ⟨rfl, rfl, rfl, by decide +kernel, rfl, by decide +kernel, by decide +kernel⟩
theorem ok_thing_from {f : Addr} {fd : FuncData} (F : Fun K "thing_from" "thing_from" s_thing_from f fd) (T : Txt K mg ca ce Ts w) (hm : mg "thing_from" = some (.ref f)) (hk : PySem.W.keepIn K (.ref f) = true) (hb : Binds K fd ["text", "at", "deep"] []) {f_tuple_from : Addr} {fd_tuple_from : FuncData} (F_tuple_from : Fun K "tuple_from" "tuple_from" s_tuple_from f_tuple_from fd_tuple_from) (hm_tuple_from : mg "tuple_from" = some (.ref f_tuple_from)) (hk_tuple_from : PySem.W.keepIn K (.ref f_tuple_from) = true) (hb_tuple_from : Binds K fd_tuple_from ["text", "at", "deep"] []) (c_number_from : DefG ⟨K, ca, ce, Ts⟩ P w mg base 1 "number_from" 2 d_number_from) (c_text_from : DefG ⟨K, ca, ce, Ts⟩ P w mg base 1 "text_from" 2 d_text_from) : ∀ n : Nat, FnG P w K mg base (L2.CX P w) (2 * n + 2) f fd ["text", "at", "deep"] (spD ⟨K, ca, ce, Ts⟩ 3 (d_thing_from_n n))
  | 0 => fnG (G := ⟨K, ca, ce, Ts⟩) (N := ["text", "at", "deep", "sign"]) (k := 2 * 0 + 1) .pure F sc_thing_from fun cdv A outer s H E hr tk po gd => dss_nev
  | n + 1 => by
    have c_thing_from : DefG ⟨K, ca, ce, Ts⟩ P w mg base (2 * n + 2) "thing_from" 3 (d_thing_from_n n) := ⟨⟨f, fd, ["text", "at", "deep"], ok_thing_from F T hm hk hb F_tuple_from hm_tuple_from hk_tuple_from hb_tuple_from c_number_from c_text_from n, hm, hk, hb⟩⟩
    have c_tuple_from : DefG ⟨K, ca, ce, Ts⟩ P w mg base (2 * n + 2 + 1) "tuple_from" 3 (d_tuple_from (d_thing_from_n n)) := ⟨⟨f_tuple_from, fd_tuple_from, ["text", "at", "deep"], ok_tuple_from F_tuple_from T c_thing_from, hm_tuple_from, hk_tuple_from, hb_tuple_from⟩⟩
    have e : 2 * (n + 1) + 2 = (2 * n + 2 + 1) + 1 := by omega
    rw [e]
    exact fnG (G := ⟨K, ca, ce, Ts⟩) (N := ["text", "at", "deep", "sign"]) (k := 2 * n + 2 + 1) .pure F sc_thing_from fun cdv A outer s H E hr tk po gd =>
(dss_cons (ds_set (i := 3) sc_thing_from.nd rfl (Or.inl rfl) (de_sliceS rfl (de_var 0) (do_some (de_var 1)) (do_some (de_op (do_add rfl) (de_var 1) de_int))))
(dss_cons (ds_if (dt_cmp (do_eq rfl (units100 hr)) (de_var 3) de_str)
(dss_one (ds_ret (de_if (dt_cmp do_gt (de_var 2) de_int) (de_callG c_tuple_from gd rfl (hr.mono (by omega)) rfl tk (da_cons (de_var 0) (da_cons (de_var 1) (da_cons (de_var 2) da_nil))) rfl (la_cons (la_cons (la_cons la_nil)))) de_non)))
dss_nil)
(dss_cons (ds_if (dt_cmp (do_eq rfl (units100 hr)) (de_var 3) de_str)
(dss_one (ds_ret (de_callG c_text_from gd rfl (hr.mono (by omega)) rfl tk (da_cons (de_var 0) (da_cons (de_var 1) da_nil)) rfl (la_cons (la_cons la_nil)))))
dss_nil)
(dss_cons (ds_if (dt_cmp (do_eq rfl (units100 hr)) (de_sliceS rfl (de_var 0) (do_some (de_var 1)) (do_some (de_op (do_add rfl) (de_var 1) de_int))) de_str)
(dss_one (ds_ret (de_tup (da_cons de_non (da_cons (de_op (do_add rfl) (de_var 1) de_int) da_nil)))))
dss_nil)
(dss_one (ds_ret (de_callG c_number_from gd rfl (hr.mono (by omega)) rfl tk (da_cons (de_var 0) (da_cons (de_var 1) da_nil)) rfl (la_cons (la_cons la_nil)))))))))

abbrev s_read_whole : Stmt := top 32
theorem sc_read_whole : FnScope ["text", "row", "told"] ["text", "row"] (defScope s_read_whole) := ⟨rfl, rfl, rfl, by decide +kernel, rfl, by decide +kernel, by decide +kernel⟩
theorem ok_read_whole {f : Addr} {fd : FuncData} (F : Fun K "read_whole" "read_whole" s_read_whole f fd) (T : Txt K mg ca ce Ts w) (c_NoText__raise : ExcF ⟨K, ca, ce, Ts⟩ P w mg base 1 "NoText" "row") (c_thing_from : DefG ⟨K, ca, ce, Ts⟩ P w mg base 26 "thing_from" 3 d_thing_from) : FnG P w K mg base (L2.CX P w) 27 f fd ["text", "row"] (spD ⟨K, ca, ce, Ts⟩ 2 d_read_whole) :=
fnG (G := ⟨K, ca, ce, Ts⟩) (N := ["text", "row", "told"]) .pure F sc_read_whole fun cdv A outer s H E hr tk po gd =>
(dss_cons (ds_set (i := 2) sc_read_whole.nd rfl (Or.inl rfl) (de_callG c_thing_from gd rfl (hr.mono (by omega)) rfl tk (da_cons (de_var 0) (da_cons de_int (da_cons (de_gInt T.g_DEEPEST rfl) da_nil))) rfl (la_cons (la_cons (la_cons la_nil)))))
(dss_cons (ds_if (DW.t (dw_or (dt_cmp do_isN (de_var 2) de_non) (dw_or1 (dt_cmp (do_ne rfl (units100 hr)) (de_ixX rfl (units1 hr) (de_var 2) de_int) (de_callB (dc_lenX rfl) rfl T.b_len (by decide +kernel) (da_cons (de_var 0) da_nil))))))
(dss_one (ds_raiseF c_NoText__raise rfl rfl (hr.mono (by omega)) tk rfl (de_var 1)))
dss_nil)
(dss_one (ds_ret (de_ixX rfl (units1 hr) (de_var 2) de_int)))))

abbrev s_read_board : Stmt := top 34
theorem sc_read_board : FnScope ["text", "rows", "rest", "found", "at", "row", "thing"] ["text"] (defScope s_read_board) := ⟨rfl, rfl, rfl, by decide +kernel, rfl, by decide +kernel, by decide +kernel⟩
theorem ok_read_board {f : Addr} {fd : FuncData} (F : Fun K "read_board" "read_board" s_read_board f fd) (T : Txt K mg ca ce Ts w) (c_NoText__raise : ExcF ⟨K, ca, ce, Ts⟩ P w mg base 1 "NoText" "row") (c_read_whole : DefG ⟨K, ca, ce, Ts⟩ P w mg base 27 "read_whole" 2 d_read_whole) : FnG P w K mg base (L2.CX P w) 28 f fd ["text"] (spD ⟨K, ca, ce, Ts⟩ 1 d_read_board) :=
fnG (G := ⟨K, ca, ce, Ts⟩) (N := ["text", "rows", "rest", "found", "at", "row", "thing"]) .pure F sc_read_board fun cdv A outer s H E hr tk po gd =>
(dss_cons (ds_if (dt_not (dt_val (de_isC rfl T.own T.is_str (cn_ty rfl T.b_str (by decide +kernel)) rfl T.b_isinstance (de_var 0))))
(dss_one (ds_raiseF c_NoText__raise rfl rfl (hr.mono (by omega)) tk rfl de_int))
dss_nil)
(dss_cons (ds_star (i := 1) (j := 2) rfl rfl sc_read_board.nd rfl rfl (Or.inl rfl) (Or.inl rfl) (de_meth PySem.F.plainAttrs_str PySem.F.slot_str_split PySem.F.type_str_split dm_split rfl (de_var 0) (da_cons de_str da_nil)))
(dss_cons (ds_set (i := 3) sc_read_board.nd rfl (Or.inl rfl) (de_lstM da_nil))
(dss_cons (ds_for po rfl (di_enumX rfl rfl T.b_enumerate (da_cons (de_var 1) da_nil)) (dg_tup rfl rfl (dgs_cons (dg_name sc_read_board.nd rfl (by first | exact Or.inl rfl | exact Or.inr rfl)) (dgs_cons (dg_name sc_read_board.nd rfl (by first | exact Or.inl rfl | exact Or.inr rfl)) dgs_nil)) (blen_cons (blen_cons blen_nil)))
(dss_cons (ds_set (i := 6) sc_read_board.nd rfl (Or.inl rfl) (de_callG c_read_whole gd rfl (hr.mono (by omega)) rfl tk (da_cons (de_var 5) (da_cons (de_var 4) da_nil)) rfl (la_cons (la_cons la_nil))))
(dss_cons (ds_if (dt_not (dt_val (de_isC rfl T.own T.is_tuple (cn_ty rfl T.b_tuple (by decide +kernel)) rfl T.b_isinstance (de_var 6))))
(dss_one (ds_raiseF c_NoText__raise rfl rfl (hr.mono (by omega)) tk rfl (de_var 4)))
dss_nil)
(dss_one (ds_expr (de_meth PySem.F.plainAttrs_list PySem.F.slot_list_append PySem.F.type_list_append dm_append rfl (de_var 3) (da_cons (de_var 6) da_nil)))))))
(dss_cons (ds_if (dt_cmp (do_ne rfl (units100 hr)) (de_var 2) de_str)
(dss_one (ds_raiseF c_NoText__raise rfl rfl (hr.mono (by omega)) tk rfl (de_callB (dc_lenX rfl) rfl T.b_len (by decide +kernel) (da_cons (de_var 1) da_nil))))
dss_nil)
(dss_one (ds_ret (de_callTy (dc_tuple rfl) rfl T.b_tuple (by decide +kernel) (da_cons (de_var 3) da_nil)))))))))

abbrev s__law_text : Stmt := top 46
theorem sc__law_text : FnScope ["_law_thing_here", "_law_signs", "_law_sign", "_law_one"] ["_law_thing_here"] (defScope s__law_text) := ⟨rfl, rfl, rfl, by decide +kernel, rfl, by decide +kernel, by decide +kernel⟩
theorem ok__law_text {f : Addr} {fd : FuncData} (F : Fun K "_law_text" "_law_text" s__law_text f fd) (T : Txt K mg ca ce Ts w) (hm : mg "_law_text" = some (.ref f)) (hk : PySem.W.keepIn K (.ref f) = true) (hb : Binds K fd ["_law_thing_here"] [])  : ∀ n : Nat, FnG P w K mg base (L2.CX P w) (n + 1) f fd ["_law_thing_here"] (spD ⟨K, ca, ce, Ts⟩ 1 (d__law_text_n n))
  | 0 => fnG (G := ⟨K, ca, ce, Ts⟩) (N := ["_law_thing_here", "_law_signs", "_law_sign", "_law_one"]) (k := 0) .pure F sc__law_text fun cdv A outer s H E hr tk po gd => dss_nev
  | n + 1 => by
    have c__law_text : DefG ⟨K, ca, ce, Ts⟩ P w mg base (n + 1) "_law_text" 1 (d__law_text_n n) := ⟨⟨f, fd, ["_law_thing_here"], ok__law_text F T hm hk hb  n, hm, hk, hb⟩⟩
    exact fnG (G := ⟨K, ca, ce, Ts⟩) (N := ["_law_thing_here", "_law_signs", "_law_sign", "_law_one"]) (k := n + 1) .pure F sc__law_text fun cdv A outer s H E hr tk po gd =>
(dss_cons (ds_if (dt_val (de_isC rfl T.own T.is_tuple (cn_ty rfl T.b_tuple (by decide +kernel)) rfl T.b_isinstance (de_var 0)))
(dss_one (ds_ret (de_op (do_add rfl) (de_op (do_add rfl) de_str (de_meth PySem.F.plainAttrs_str PySem.F.slot_str_join PySem.F.type_str_join (dm_join rfl) rfl de_str (da_cons (de_lc (own := [("_law_one", 3)]) rfl sc__law_text.nd (di_seq rfl (de_var 0)) (blkOk_by (N := ["_law_thing_here", "_law_signs", "_law_sign", "_law_one"]) (sc := defScope s__law_text) (own := [("_law_one", 3)]) (by decide +kernel)) (fun _ _ _ _ _ => (dg_name sc__law_text.nd rfl (by first | exact Or.inl rfl | exact Or.inr rfl))) (fun _ _ _ _ _ => dts_nil) (fun _ _ _ _ _ => (de_callG c__law_text gd rfl (hr.mono (by omega)) rfl takes0 (da_cons (de_var 3) da_nil) rfl (la_cons la_nil))) (by decide)) da_nil))) de_str)))
dss_nil)
(dss_cons (ds_if (dt_val (de_isC rfl T.own T.is_str (cn_ty rfl T.b_str (by decide +kernel)) rfl T.b_isinstance (de_var 0)))
(dss_cons (ds_setLc (own := [("_law_sign", 2)]) (i := 1) rfl sc__law_text.nd (di_seq rfl (de_var 0)) (blkOk_by (N := ["_law_thing_here", "_law_signs", "_law_sign", "_law_one"]) (sc := defScope s__law_text) (own := [("_law_sign", 2)]) (by decide +kernel)) (fun _ _ _ _ _ => (dg_name sc__law_text.nd rfl (by first | exact Or.inl rfl | exact Or.inr rfl))) (fun _ _ _ _ _ => dts_nil) (fun _ _ _ _ _ => (de_op (do_add rfl) (de_op do_mulW de_str (de_callTy dc_int rfl T.b_int (by decide +kernel) (da_cons (de_cmp (do_in rfl (units65 hr)) (de_var 2) (de_lst (da_cons de_str (da_cons de_str da_nil)))) da_nil))) (de_var 2))) (by decide) rfl rfl (sw_true rfl rfl rfl (by decide +kernel)))
(dss_one (ds_ret (de_op (do_add rfl) (de_op (do_add rfl) de_str (de_meth PySem.F.plainAttrs_str PySem.F.slot_str_join PySem.F.type_str_join (dm_join rfl) rfl de_str (da_cons (de_var 1) da_nil))) de_str))))
dss_nil)
(dss_one (ds_ret (de_if (dt_cmp do_isN (de_var 0) de_non) de_str (de_callTy dc_strX rfl T.b_str (by decide +kernel) (da_cons (de_var 0) da_nil)))))))

abbrev s__law_is_wide : Stmt := top 56
theorem sc__law_is_wide : FnScope ["_law_board", "_law_due_here", "_law_row", "_law_k"] [] (defScope s__law_is_wide) := ⟨rfl, rfl, rfl, by decide +kernel, rfl, by decide +kernel, by decide +kernel⟩
theorem ok__law_is_wide {f : Addr} {fd : FuncData} (F : Fun K "_law_is_wide" "_law_is_wide" s__law_is_wide f fd) (T : Txt K mg ca ce Ts w) (c__law_like : DefG ⟨K, ca, ce, Ts⟩ P w mg base 13 "_law_like" 2 d__law_like) (c_board_text : DefG ⟨K, ca, ce, Ts⟩ P w mg base 14 "board_text" 1 d_board_text) (c_read_board : DefG ⟨K, ca, ce, Ts⟩ P w mg base 28 "read_board" 1 d_read_board) (c__law_text : DefG ⟨K, ca, ce, Ts⟩ P w mg base 13 "_law_text" 1 d__law_text) : FnG P w K mg base (L2.CX P w) 29 f fd [] (spD ⟨K, ca, ce, Ts⟩ 0 d__law_is_wide) :=
fnG (G := ⟨K, ca, ce, Ts⟩) (N := ["_law_board", "_law_due_here", "_law_row", "_law_k"]) .pure F sc__law_is_wide fun cdv A outer s H E hr tk po gd =>
(dss_cons (ds_set (i := 0) sc__law_is_wide.nd rfl (Or.inl rfl) (de_tup (da_cons (de_tupRg rfl rfl T.b_tuple rgOk1 (dr_1 rfl T.b_range de_int)) (da_cons (de_tup (da_cons (de_op do_mulW de_str de_int) (da_cons (de_tup da_nil) da_nil))) (da_cons (de_callTy (dc_tuple rfl) rfl T.b_tuple (by decide +kernel) (da_cons (de_lc (own := [("_law_k", 3)]) rfl sc__law_is_wide.nd (di_range1 rfl T.b_range (da_cons de_int da_nil)) (blkOk_by (N := ["_law_board", "_law_due_here", "_law_row", "_law_k"]) (sc := defScope s__law_is_wide) (own := [("_law_k", 3)]) (by decide +kernel)) (fun _ _ _ _ _ => (dg_name sc__law_is_wide.nd rfl (by first | exact Or.inl rfl | exact Or.inr rfl))) (fun _ _ _ _ _ => dts_nil) (fun _ _ _ _ _ => (de_tup (da_cons de_str (da_cons (de_var 3) da_nil)))) (by decide)) da_nil)) da_nil)))))
(dss_cons (ds_set (i := 1) sc__law_is_wide.nd rfl (Or.inl rfl) (de_meth PySem.F.plainAttrs_str PySem.F.slot_str_join PySem.F.type_str_join (dm_join rfl) rfl de_str (da_cons (de_lc (own := [("_law_row", 2)]) rfl sc__law_is_wide.nd (di_seq rfl (de_var 0)) (blkOk_by (N := ["_law_board", "_law_due_here", "_law_row", "_law_k"]) (sc := defScope s__law_is_wide) (own := [("_law_row", 2)]) (by decide +kernel)) (fun _ _ _ _ _ => (dg_name sc__law_is_wide.nd rfl (by first | exact Or.inl rfl | exact Or.inr rfl))) (fun _ _ _ _ _ => dts_nil) (fun _ _ _ _ _ => (de_op (do_add rfl) (de_callG c__law_text gd rfl (hr.mono (by omega)) rfl takes0 (da_cons (de_var 2) da_nil) rfl (la_cons la_nil)) de_str)) (by decide)) da_nil)))
(dss_one (ds_ret (de_callG c__law_like gd rfl (hr.mono (by omega)) rfl tk (da_cons (de_lst (da_cons (de_callG c_board_text gd rfl (hr.mono (by omega)) rfl tk (da_cons (de_var 0) da_nil) rfl (la_cons la_nil)) (da_cons (de_callG c_read_board gd rfl (hr.mono (by omega)) rfl tk (da_cons (de_var 1) da_nil) rfl (la_cons la_nil)) da_nil))) (da_cons (de_lst (da_cons (de_var 1) (da_cons (de_var 0) da_nil))) da_nil)) rfl (la_cons (la_cons la_nil)))))))

abbrev s__law_begun : Stmt := top 36
theorem sc__law_begun : FnScope ["_law_cell", "_law_k", "_law_seed"] ["_law_cell", "_law_k"] (defScope s__law_begun) := ⟨rfl, rfl, rfl, by decide +kernel, rfl, by decide +kernel, by decide +kernel⟩
theorem ok__law_begun {f : Addr} {fd : FuncData} (F : Fun K "_law_begun" "_law_begun" s__law_begun f fd) (T : Txt K mg ca ce Ts w)  : FnG P w K mg base (L2.CX P w) 1 f fd ["_law_cell", "_law_k"] (spD ⟨K, ca, ce, Ts⟩ 2 d__law_begun) :=
fnG (G := ⟨K, ca, ce, Ts⟩) (N := ["_law_cell", "_law_k", "_law_seed"]) .keep F sc__law_begun fun cdv A outer s H E hr tk po gd =>
(dss_cons (ds_set (i := 2) sc__law_begun.nd rfl (Or.inl rfl) (de_op (do_add rfl) de_int (de_op do_mod (de_op do_pow (de_op (do_add rfl) (de_op (do_add rfl) (de_op do_mul (de_op do_mod (de_var 0) de_int) de_int) (de_op do_mul de_int (de_var 1))) de_int) de_int) de_int)))
(dss_cons (ds_if (dt_cmp do_ge (de_var 0) (de_op do_pow de_int de_int))
(dss_one (ds_ret (de_lstM (da_cons (de_op do_sub (de_var 0) (de_op do_pow de_int de_int)) (da_cons (de_var 2) (da_cons de_int da_nil))))))
dss_nil)
(dss_one (ds_ret (de_lstM (da_cons de_int (da_cons (de_var 2) (da_cons de_int da_nil))))))))

abbrev s__law_next : Stmt := top 37
theorem sc__law_next : FnScope ["_law_draw", "_law_size", "_law_found", "_law_mixed"] ["_law_draw", "_law_size"] (defScope s__law_next) := ⟨rfl, rfl, rfl, by decide +kernel, rfl, by decide +kernel, by decide +kernel⟩
theorem ok__law_next {f : Addr} {fd : FuncData} (F : Fun K "_law_next" "_law_next" s__law_next f fd) (T : Txt K mg ca ce Ts w)  : FnG P w K mg base (L2.CX P w) 1 f fd ["_law_draw", "_law_size"] (spD ⟨K, ca, ce, Ts⟩ 2 d__law_next) :=
fnG (G := ⟨K, ca, ce, Ts⟩) (N := ["_law_draw", "_law_size", "_law_found", "_law_mixed"]) .keep F sc__law_next fun cdv A outer s H E hr tk po gd =>
(dss_cons (ds_if (dt_cmp do_gt (de_ixX rfl (units1 hr) (de_var 0) de_int) de_int)
(dss_cons (ds_set (i := 2) sc__law_next.nd rfl (Or.inl rfl) (de_op do_mod (de_ixX rfl (units1 hr) (de_var 0) de_int) (de_var 1)))
(dss_cons (ds_putX (units1 hr) (de_op do_fdiv (de_ixX rfl (units1 hr) (de_var 0) de_int) (de_var 1)) (de_var 0) de_int)
(dss_one (ds_ret (de_var 2)))))
dss_nil)
(dss_cons (ds_putX (units1 hr) (de_op (do_add rfl) (de_ixX rfl (units1 hr) (de_var 0) de_int) de_int) (de_var 0) de_int)
(dss_cons (ds_set (i := 3) sc__law_next.nd rfl (Or.inl rfl) (de_op do_mod (de_op do_pow (de_op (do_add rfl) (de_op (do_add rfl) (de_op do_mul (de_ixX rfl (units1 hr) (de_var 0) de_int) (de_op (do_add rfl) (de_op do_mul de_int (de_ixX rfl (units1 hr) (de_var 0) de_int)) de_int)) (de_op do_mul (de_op do_mul de_int (de_ixX rfl (units1 hr) (de_var 0) de_int)) (de_ixX rfl (units1 hr) (de_var 0) de_int))) de_int) de_int) de_int))
(dss_one (ds_ret (de_op do_mod (de_op do_fdiv (de_var 3) de_int) (de_var 1)))))))

abbrev s__law_pick : Stmt := top 38
theorem sc__law_pick : FnScope ["_law_draw", "_law_some"] ["_law_draw", "_law_some"] (defScope s__law_pick) := ⟨rfl, rfl, rfl, by decide +kernel, rfl, by decide +kernel, by decide +kernel⟩
theorem ok__law_pick {f : Addr} {fd : FuncData} (F : Fun K "_law_pick" "_law_pick" s__law_pick f fd) (T : Txt K mg ca ce Ts w) (c__law_next : DefG ⟨K, ca, ce, Ts⟩ P w mg base 1 "_law_next" 2 d__law_next) : FnG P w K mg base (L2.CX P w) 2 f fd ["_law_draw", "_law_some"] (spD ⟨K, ca, ce, Ts⟩ 2 d__law_pick) :=
fnG (G := ⟨K, ca, ce, Ts⟩) (N := ["_law_draw", "_law_some"]) .keep F sc__law_pick fun cdv A outer s H E hr tk po gd =>
(dss_one (ds_ret (de_ixX rfl (units1 hr) (de_var 1) (de_callG c__law_next gd rfl (hr.mono (by omega)) rfl tk (da_cons (de_var 0) (da_cons (de_callB (dc_lenX rfl) rfl T.b_len (by decide +kernel) (da_cons (de_var 1) da_nil)) da_nil)) rfl (la_cons (la_cons la_nil))))))

abbrev s__law_any_sign : Stmt := top 40
theorem sc__law_any_sign : FnScope ["_law_draw", "_law_some"] ["_law_draw"] (defScope s__law_any_sign) := ⟨rfl, rfl, rfl, by decide +kernel, rfl, by decide +kernel, by decide +kernel⟩
theorem ok__law_any_sign {f : Addr} {fd : FuncData} (F : Fun K "_law_any_sign" "_law_any_sign" s__law_any_sign f fd) (T : Txt K mg ca ce Ts w) (c__law_pick : DefG ⟨K, ca, ce, Ts⟩ P w mg base 2 "_law_pick" 2 d__law_pick) : FnG P w K mg base (L2.CX P w) 3 f fd ["_law_draw"] (spD ⟨K, ca, ce, Ts⟩ 1 d__law_any_sign) :=
fnG (G := ⟨K, ca, ce, Ts⟩) (N := ["_law_draw", "_law_some"]) .keep F sc__law_any_sign fun cdv A outer s H E hr tk po gd =>
(dss_cons (ds_set (i := 1) sc__law_any_sign.nd rfl (Or.inl rfl) de_str)
(dss_one (ds_ret (de_callG c__law_pick gd rfl (hr.mono (by omega)) rfl tk (da_cons (de_var 0) (da_cons (de_var 1) da_nil)) rfl (la_cons (la_cons la_nil))))))

abbrev s__law_changed_text : Stmt := top 52
theorem sc__law_changed_text : FnScope ["_law_draw", "_law_text_here", "_law_way", "_law_at", "_law_own", "_law_sign"] ["_law_draw", "_law_text_here"] (defScope s__law_changed_text) := ⟨rfl, rfl, rfl, by decide +kernel, rfl, by decide +kernel, by decide +kernel⟩
theorem ok__law_changed_text {f : Addr} {fd : FuncData} (F : Fun K "_law_changed_text" "_law_changed_text" s__law_changed_text f fd) (T : Txt K mg ca ce Ts w) (c__law_next : DefG ⟨K, ca, ce, Ts⟩ P w mg base 1 "_law_next" 2 d__law_next) (c__law_pick : DefG ⟨K, ca, ce, Ts⟩ P w mg base 2 "_law_pick" 2 d__law_pick) (c__law_any_sign : DefG ⟨K, ca, ce, Ts⟩ P w mg base 3 "_law_any_sign" 1 d__law_any_sign) : FnG P w K mg base (L2.CX P w) 4 f fd ["_law_draw", "_law_text_here"] (spD ⟨K, ca, ce, Ts⟩ 2 d__law_changed_text) :=
fnG (G := ⟨K, ca, ce, Ts⟩) (N := ["_law_draw", "_law_text_here", "_law_way", "_law_at", "_law_own", "_law_sign"]) .keep F sc__law_changed_text fun cdv A outer s H E hr tk po gd =>
(dss_cons (ds_par (i := 2) (j := 3) rfl sc__law_changed_text.nd rfl rfl (by decide) rfl rfl (da_cons (de_callG c__law_next gd rfl (hr.mono (by omega)) rfl tk (da_cons (de_var 0) (da_cons de_int da_nil)) rfl (la_cons (la_cons la_nil))) (da_cons (de_callG c__law_next gd rfl (hr.mono (by omega)) rfl tk (da_cons (de_var 0) (da_cons (de_op (do_add rfl) (de_callB (dc_lenX rfl) rfl T.b_len (by decide +kernel) (da_cons (de_var 1) da_nil)) de_int) da_nil)) rfl (la_cons (la_cons la_nil))) da_nil)) (by rfl))
(dss_cons (ds_set (i := 4) sc__law_changed_text.nd rfl (Or.inl rfl) (de_callG c__law_pick gd rfl (hr.mono (by omega)) rfl tk (da_cons (de_var 0) (da_cons (de_op (do_add rfl) de_str (de_var 1)) da_nil)) rfl (la_cons (la_cons la_nil))))
(dss_cons (ds_set (i := 5) sc__law_changed_text.nd rfl (Or.inl rfl) (de_if (dt_cmp do_gt (de_callG c__law_next gd rfl (hr.mono (by omega)) rfl tk (da_cons (de_var 0) (da_cons de_int da_nil)) rfl (la_cons (la_cons la_nil))) de_int) (de_var 4) (de_callG c__law_any_sign gd rfl (hr.mono (by omega)) rfl tk (da_cons (de_var 0) da_nil) rfl (la_cons la_nil))))
(dss_cons (ds_if (dt_cmp (do_eq rfl (units100 hr)) (de_var 2) de_int)
(dss_one (ds_ret (de_op (do_add rfl) (de_op (do_add rfl) (de_sliceS rfl (de_var 1) do_none (do_some (de_var 3))) (de_var 5)) (de_sliceS rfl (de_var 1) (do_some (de_var 3)) do_none))))
dss_nil)
(dss_one (ds_ret (de_if (dt_cmp (do_eq rfl (units100 hr)) (de_var 2) de_int) (de_op (do_add rfl) (de_sliceS rfl (de_var 1) do_none (do_some (de_var 3))) (de_sliceS rfl (de_var 1) (do_some (de_op (do_add rfl) (de_var 3) de_int)) do_none)) (de_op (do_add rfl) (de_op (do_add rfl) (de_sliceS rfl (de_var 1) do_none (do_some (de_var 3))) (de_var 5)) (de_sliceS rfl (de_var 1) (do_some (de_op (do_add rfl) (de_var 3) de_int)) do_none)))))))))

abbrev s__law_changed_rows : Stmt := top 54
theorem sc__law_changed_rows : FnScope ["_law_draw", "_law_rows", "_law_way", "_law_at", "_law_some", "_law_cut"] ["_law_draw", "_law_rows"] (defScope s__law_changed_rows) := ⟨rfl, rfl, rfl, by decide +kernel, rfl, by decide +kernel, by decide +kernel⟩
theorem ok__law_changed_rows {f : Addr} {fd : FuncData} (F : Fun K "_law_changed_rows" "_law_changed_rows" s__law_changed_rows f fd) (T : Txt K mg ca ce Ts w) (c__law_next : DefG ⟨K, ca, ce, Ts⟩ P w mg base 1 "_law_next" 2 d__law_next) (c__law_pick : DefG ⟨K, ca, ce, Ts⟩ P w mg base 2 "_law_pick" 2 d__law_pick) (c__law_changed_text : DefG ⟨K, ca, ce, Ts⟩ P w mg base 4 "_law_changed_text" 2 d__law_changed_text) : FnG P w K mg base (L2.CX P w) 5 f fd ["_law_draw", "_law_rows"] (spD ⟨K, ca, ce, Ts⟩ 2 d__law_changed_rows) :=
fnG (G := ⟨K, ca, ce, Ts⟩) (N := ["_law_draw", "_law_rows", "_law_way", "_law_at", "_law_some", "_law_cut"]) .keep F sc__law_changed_rows fun cdv A outer s H E hr tk po gd =>
(dss_cons (ds_par (i := 2) (j := 3) rfl sc__law_changed_rows.nd rfl rfl (by decide) rfl rfl (da_cons (de_callG c__law_next gd rfl (hr.mono (by omega)) rfl tk (da_cons (de_var 0) (da_cons de_int da_nil)) rfl (la_cons (la_cons la_nil))) (da_cons (de_callG c__law_next gd rfl (hr.mono (by omega)) rfl tk (da_cons (de_var 0) (da_cons (de_op (do_add rfl) (de_callB (dc_lenX rfl) rfl T.b_len (by decide +kernel) (da_cons (de_var 1) da_nil)) de_int) da_nil)) rfl (la_cons (la_cons la_nil))) da_nil)) (by rfl))
(dss_cons (ds_if (DW.t (dw_or (dt_cmp (do_eq rfl (units100 hr)) (de_var 2) de_int) (dw_or1 (dt_cmp (do_eqL0 rfl (units100 hr)) (de_var 1) (de_lst da_nil)))))
(dss_cons (ds_set (i := 4) sc__law_changed_rows.nd rfl (Or.inl rfl) (de_lst (da_cons de_str (da_cons de_str (da_cons de_str (da_cons de_str (da_cons de_str (da_cons de_str (da_cons de_str (da_cons de_str (da_cons de_str (da_cons (de_op (do_add rfl) (de_op (do_add rfl) de_str (de_op do_mulW de_str de_int)) de_str) (da_cons (de_op (do_add rfl) (de_op (do_add rfl) de_str (de_op do_mulW de_str de_int)) de_str) da_nil)))))))))))))
(dss_one (ds_ret (de_op (do_add rfl) (de_op (do_add rfl) (de_sliceS rfl (de_var 1) do_none (do_some (de_var 3))) (de_lst (da_cons (de_callG c__law_pick gd rfl (hr.mono (by omega)) rfl tk (da_cons (de_var 0) (da_cons (de_var 4) da_nil)) rfl (la_cons (la_cons la_nil))) da_nil))) (de_sliceS rfl (de_var 1) (do_some (de_var 3)) do_none)))))
dss_nil)
(dss_cons (ds_if (dt_cmp (do_eq rfl (units100 hr)) (de_var 2) de_int)
(dss_one (ds_ret (de_op (do_add rfl) (de_sliceS rfl (de_var 1) do_none (do_some (de_var 3))) (de_sliceS rfl (de_var 1) (do_some (de_op (do_add rfl) (de_var 3) de_int)) do_none))))
dss_nil)
(dss_cons (ds_if (dt_cmp (do_eq rfl (units100 hr)) (de_var 2) de_int)
(dss_one (ds_ret (de_op (do_add rfl) (de_op (do_add rfl) (de_sliceS rfl (de_var 1) do_none (do_some (de_var 3))) (de_sliceS rfl (de_var 1) (do_some (de_var 3)) (do_some (de_op (do_add rfl) (de_var 3) de_int)))) (de_sliceS rfl (de_var 1) (do_some (de_var 3)) do_none))))
dss_nil)
(dss_cons (ds_set (i := 3) sc__law_changed_rows.nd rfl (Or.inl rfl) (de_op do_mod (de_var 3) (de_callB (dc_lenX rfl) rfl T.b_len (by decide +kernel) (da_cons (de_var 1) da_nil))))
(dss_cons (ds_if (dt_cmp (do_eq rfl (units100 hr)) (de_var 2) de_int)
(dss_cons (ds_set (i := 5) sc__law_changed_rows.nd rfl (Or.inl rfl) (de_callG c__law_next gd rfl (hr.mono (by omega)) rfl tk (da_cons (de_var 0) (da_cons (de_op (do_add rfl) (de_callB (dc_lenX rfl) rfl T.b_len (by decide +kernel) (da_cons (de_ixX rfl (units1 hr) (de_var 1) (de_var 3)) da_nil)) de_int) da_nil)) rfl (la_cons (la_cons la_nil))))
(dss_one (ds_ret (de_op (do_add rfl) (de_op (do_add rfl) (de_sliceS rfl (de_var 1) do_none (do_some (de_var 3))) (de_lst (da_cons (de_sliceS rfl (de_ixX rfl (units1 hr) (de_var 1) (de_var 3)) do_none (do_some (de_var 5))) (da_cons (de_sliceS rfl (de_ixX rfl (units1 hr) (de_var 1) (de_var 3)) (do_some (de_var 5)) do_none) da_nil)))) (de_sliceS rfl (de_var 1) (do_some (de_op (do_add rfl) (de_var 3) de_int)) do_none)))))
dss_nil)
(dss_one (ds_ret (de_op (do_add rfl) (de_op (do_add rfl) (de_sliceS rfl (de_var 1) do_none (do_some (de_var 3))) (de_lst (da_cons (de_callG c__law_changed_text gd rfl (hr.mono (by omega)) rfl tk (da_cons (de_var 0) (da_cons (de_ixX rfl (units1 hr) (de_var 1) (de_var 3)) da_nil)) rfl (la_cons (la_cons la_nil))) da_nil))) (de_sliceS rfl (de_var 1) (do_some (de_op (do_add rfl) (de_var 3) de_int)) do_none))))))))))

abbrev s__law_alone : Stmt := top 42
theorem sc__law_alone : FnScope ["_law_e", "_law_kinds", "_law_words"] ["_law_e"] (defScope s__law_alone) := ⟨rfl, rfl, rfl, by decide +kernel, rfl, by decide +kernel, by decide +kernel⟩
theorem ok__law_alone {f : Addr} {fd : FuncData} (F : Fun K "_law_alone" "_law_alone" s__law_alone f fd) (T : Txt K mg ca ce Ts w)  : FnG P w K mg base (L2.CX P w) 1 f fd ["_law_e"] (spD ⟨K, ca, ce, Ts⟩ 1 d__law_alone) :=
fnG (G := ⟨K, ca, ce, Ts⟩) (N := ["_law_e", "_law_kinds", "_law_words"]) .pure F sc__law_alone fun cdv A outer s H E hr tk po gd =>
(dss_cons (ds_set (i := 1) sc__law_alone.nd rfl (Or.inl rfl) (de_lst (da_cons (let ⟨_, q0, r0⟩ := T.e_NoName; de_isE rfl T.own T.xd r0 (cn_own rfl q0) rfl T.b_isinstance (de_var 0)) (da_cons (let ⟨_, q0, r0⟩ := T.e_NoDay; de_isE rfl T.own T.xd r0 (cn_own rfl q0) rfl T.b_isinstance (de_var 0)) (da_cons (let ⟨_, q0, r0⟩ := T.e_NoRace; de_isE rfl T.own T.xd r0 (cn_own rfl q0) rfl T.b_isinstance (de_var 0)) (da_cons (let ⟨_, q0, r0⟩ := T.e_NoMark; de_isE rfl T.own T.xd r0 (cn_own rfl q0) rfl T.b_isinstance (de_var 0)) da_nil))))))
(dss_cons (ds_set (i := 1) sc__law_alone.nd rfl (Or.inl rfl) (de_op (do_add rfl) (de_var 1) (de_lst (da_cons (let ⟨_, q0, r0⟩ := T.e_NoCode; de_isE rfl T.own T.xd r0 (cn_own rfl q0) rfl T.b_isinstance (de_var 0)) (da_cons (let ⟨_, q0, r0⟩ := T.e_NoPlace; de_isE rfl T.own T.xd r0 (cn_own rfl q0) rfl T.b_isinstance (de_var 0)) (da_cons (let ⟨_, q0, r0⟩ := T.e_NoStub; de_isE rfl T.own T.xd r0 (cn_own rfl q0) rfl T.b_isinstance (de_var 0)) (da_cons (let ⟨_, q0, r0⟩ := T.e_NoWay; de_isE rfl T.own T.xd r0 (cn_own rfl q0) rfl T.b_isinstance (de_var 0)) da_nil)))))))
(dss_cons (ds_set (i := 1) sc__law_alone.nd rfl (Or.inl rfl) (de_op (do_add rfl) (de_var 1) (de_lst (da_cons (let ⟨_, q0, r0⟩ := T.e_NoTime; de_isE rfl T.own T.xd r0 (cn_own rfl q0) rfl T.b_isinstance (de_var 0)) (da_cons (let ⟨_, q0, r0⟩ := T.e_NoLetter; de_isE rfl T.own T.xd r0 (cn_own rfl q0) rfl T.b_isinstance (de_var 0)) (da_cons (let ⟨_, q0, r0⟩ := T.e_NotWhole; de_isE rfl T.own T.xd r0 (cn_own rfl q0) rfl T.b_isinstance (de_var 0)) da_nil))))))
(dss_cons (ds_set (i := 1) sc__law_alone.nd rfl (Or.inl rfl) (de_op (do_add rfl) (de_var 1) (de_lst (da_cons (let ⟨_, q0, r0⟩ := T.e_NoRuling; de_isE rfl T.own T.xd r0 (cn_own rfl q0) rfl T.b_isinstance (de_var 0)) (da_cons (let ⟨_, q0, r0⟩ := T.e_NoChain; de_isE rfl T.own T.xd r0 (cn_own rfl q0) rfl T.b_isinstance (de_var 0)) (da_cons (let ⟨_, q0, r0⟩ := T.e_NoBits; de_isE rfl T.own T.xd r0 (cn_own rfl q0) rfl T.b_isinstance (de_var 0)) (da_cons (let ⟨_, q0, r0⟩ := T.e_NoLot; de_isE rfl T.own T.xd r0 (cn_own rfl q0) rfl T.b_isinstance (de_var 0)) da_nil)))))))
(dss_cons (ds_set (i := 1) sc__law_alone.nd rfl (Or.inl rfl) (de_op (do_add rfl) (de_var 1) (de_lst (da_cons (let ⟨_, q0, r0⟩ := T.e_NoCount; de_isE rfl T.own T.xd r0 (cn_own rfl q0) rfl T.b_isinstance (de_var 0)) (da_cons (let ⟨_, q0, r0⟩ := T.e_NoPhase; de_isE rfl T.own T.xd r0 (cn_own rfl q0) rfl T.b_isinstance (de_var 0)) (da_cons (let ⟨_, q0, r0⟩ := T.e_Twice; de_isE rfl T.own T.xd r0 (cn_own rfl q0) rfl T.b_isinstance (de_var 0)) (da_cons (let ⟨_, q0, r0⟩ := T.e_NotThere; de_isE rfl T.own T.xd r0 (cn_own rfl q0) rfl T.b_isinstance (de_var 0)) da_nil)))))))
(dss_cons (ds_set (i := 1) sc__law_alone.nd rfl (Or.inl rfl) (de_op (do_add rfl) (de_var 1) (de_lst (da_cons (let ⟨_, q0, r0⟩ := T.e_NoRow; de_isE rfl T.own T.xd r0 (cn_own rfl q0) rfl T.b_isinstance (de_var 0)) (da_cons (let ⟨_, q0, r0⟩ := T.e_NoText; de_isE rfl T.own T.xd r0 (cn_own rfl q0) rfl T.b_isinstance (de_var 0)) da_nil)))))
(dss_cons (ds_if (DW.t (dw_or (dt_cmp (do_ne rfl (units100 hr)) (de_meth PySem.F.plainAttrs_list PySem.F.slot_list_count PySem.F.type_list_count (dm_countD rfl (units65 hr)) rfl (de_var 1) (da_cons de_bl da_nil)) de_int) (dw_or (dt_not (dt_val (let ⟨_, q0, r0⟩ := T.e_VoteError; de_isE rfl T.own T.xd r0 (cn_own rfl q0) rfl T.b_isinstance (de_var 0)))) (dw_or1 (dt_not (dt_val (de_isE rfl T.own T.xd T.v_ValueError (cn_ty rfl T.b_ValueError (by decide +kernel)) rfl T.b_isinstance (de_var 0))))))))
(dss_one (ds_ret de_str))
dss_nil)
(dss_cons (ds_set (i := 2) sc__law_alone.nd rfl (Or.inl rfl) de_str)
(dss_cons (ds_set (i := 2) sc__law_alone.nd rfl (Or.inl rfl) (de_op (do_add rfl) (de_var 2) de_str))
(dss_one (ds_ret (de_ixX rfl (units1 hr) (de_meth PySem.F.plainAttrs_str PySem.F.slot_str_split PySem.F.type_str_split dm_split rfl (de_var 2) (da_cons de_str da_nil)) (de_meth PySem.F.plainAttrs_list PySem.F.slot_list_index PySem.F.type_list_index (dm_index rfl (units65 hr)) rfl (de_var 1) (da_cons de_bl da_nil))))))))))))))

abbrev s__law_refusal : Stmt := top 43
theorem sc__law_refusal : FnScope ["_law_e", "_law_word"] ["_law_e"] (defScope s__law_refusal) := ⟨rfl, rfl, rfl, by decide +kernel, rfl, by decide +kernel, by decide +kernel⟩
theorem ok__law_refusal {f : Addr} {fd : FuncData} (F : Fun K "_law_refusal" "_law_refusal" s__law_refusal f fd) (T : Txt K mg ca ce Ts w) (c__law_alone : DefG ⟨K, ca, ce, Ts⟩ P w mg base 1 "_law_alone" 1 d__law_alone) : FnG P w K mg base (L2.CX P w) 2 f fd ["_law_e"] (spD ⟨K, ca, ce, Ts⟩ 1 d__law_refusal) :=
fnG (G := ⟨K, ca, ce, Ts⟩) (N := ["_law_e", "_law_word"]) .pure F sc__law_refusal fun cdv A outer s H E hr tk po gd =>
(dss_cons (ds_set (i := 1) sc__law_refusal.nd rfl (Or.inl rfl) (de_callG c__law_alone gd rfl (hr.mono (by omega)) rfl tk (da_cons (de_var 0) da_nil) rfl (la_cons la_nil)))
(dss_cons (ds_if (dt_cmp (do_eq rfl (units100 hr)) (de_var 1) de_str)
(dss_one (ds_ret (de_lst (da_cons (de_var 1) (da_cons (de_xFld rfl T.xd T.xf_thing (de_var 0)) da_nil)))))
dss_nil)
(dss_cons (ds_if (dt_cmp (do_eq rfl (units100 hr)) (de_var 1) de_str)
(dss_one (ds_ret (de_lst (da_cons (de_var 1) (da_cons (de_xFld rfl T.xd T.xf_at (de_var 0)) da_nil)))))
dss_nil)
(dss_one (ds_ret (de_if (dt_cmp (do_eq rfl (units100 hr)) (de_var 1) de_str) (de_lst (da_cons (de_var 1) (da_cons (de_xFld rfl T.xd T.xf_row (de_var 0)) da_nil))) (de_lst (da_cons (de_var 1) da_nil))))))))

abbrev s__law_safe_told : Stmt := top 44
theorem sc__law_safe_told : FnScope ["_law_work", "_law_found", "_law_refused", "_law_e"] ["_law_work"] (defScope s__law_safe_told) := ⟨rfl, rfl, rfl, by decide +kernel, rfl, by decide +kernel, by decide +kernel⟩
theorem lam__law_safe_told {f : Addr} {fd : FuncData} (F : Fun K "_law_safe_told" "_law_safe_told" s__law_safe_told f fd) (T : Txt K mg ca ce Ts w) (hm : mg "_law_safe_told" = some (.ref f)) (hb : Binds K fd ["_law_work"] []) (c__law_refusal : DefG ⟨K, ca, ce, Ts⟩ P w mg base 2 "_law_refusal" 1 d__law_refusal) : LamD ⟨K, ca, ce, Ts⟩ P w mg base 2 "_law_safe_told" h__law_safe_told := by
  obtain ⟨_, q1, q2⟩ := T.t_VoteError
  exact lamD_B (G := ⟨K, ca, ce, Ts⟩) (N := ["_law_work", "_law_found", "_law_refused", "_law_e"]) .keep F sc__law_safe_told hm hb rfl (Or.inl rfl) rfl rfl rfl (by decide) rfl rfl (by decide) (by decide) rfl rfl rfl rfl q2 ⟨fun cdv A outer s H E gd hr tk po => ⟨⟨by rfl, by decide, .inl q1⟩, fun a pn => (dss_one (ds_set (i := 2) sc__law_safe_told.nd rfl (Or.inl rfl) (de_var 3))),
(dss_one (ds_ret (de_if (dt_cmp do_isN (de_var 2) de_non) (de_var 1) (de_callG c__law_refusal gd rfl (hr.mono (by omega)) rfl tk (da_cons (de_var 2) da_nil) rfl (la_cons la_nil)))))⟩⟩ (fun _ _ _ _ _ _ => ⟨rfl, rfl⟩)

abbrev s__law_ten : Stmt := top 41
theorem sc__law_ten : FnScope ["_law_many", "_law_found", "_law_k"] ["_law_many"] (defScope s__law_ten) := ⟨rfl, rfl, rfl, by decide +kernel, rfl, by decide +kernel, by decide +kernel⟩
theorem ok__law_ten {f : Addr} {fd : FuncData} (F : Fun K "_law_ten" "_law_ten" s__law_ten f fd) (T : Txt K mg ca ce Ts w)  : FnG P w K mg base (L2.CX P w) 1 f fd ["_law_many"] (spD ⟨K, ca, ce, Ts⟩ 1 d__law_ten) :=
fnG (G := ⟨K, ca, ce, Ts⟩) (N := ["_law_many", "_law_found", "_law_k"]) .pure F sc__law_ten fun cdv A outer s H E hr tk po gd =>
(dss_cons (ds_set (i := 1) sc__law_ten.nd rfl (Or.inl rfl) de_int)
(dss_cons (ds_for po rfl (di_range1 rfl T.b_range (da_cons (de_var 0) da_nil)) (dg_name sc__law_ten.nd rfl (by first | exact Or.inl rfl | exact Or.inr rfl))
(dss_one (ds_set (i := 1) sc__law_ten.nd rfl (Or.inl rfl) (de_op do_mul (de_var 1) de_int))))
(dss_one (ds_ret (de_var 1)))))

abbrev s__law_thing : Stmt := top 45
theorem sc__law_thing : FnScope ["_law_draw", "_law_deep", "_law_way", "_law_small", "_law_some", "_law_words", "_law_k"] ["_law_draw", "_law_deep"] (defScope s__law_thing) := ⟨rfl, rfl, rfl, by decide +kernel, rfl, by decide +kernel, by decide +kernel⟩
theorem ok__law_thing {f : Addr} {fd : FuncData} (F : Fun K "_law_thing" "_law_thing" s__law_thing f fd) (T : Txt K mg ca ce Ts w) (hm : mg "_law_thing" = some (.ref f)) (hk : PySem.W.keepIn K (.ref f) = true) (hb : Binds K fd ["_law_draw", "_law_deep"] []) (c__law_next : DefG ⟨K, ca, ce, Ts⟩ P w mg base 1 "_law_next" 2 d__law_next) (c__law_pick : DefG ⟨K, ca, ce, Ts⟩ P w mg base 2 "_law_pick" 2 d__law_pick) (c__law_any_sign : DefG ⟨K, ca, ce, Ts⟩ P w mg base 3 "_law_any_sign" 1 d__law_any_sign) (c__law_ten : DefG ⟨K, ca, ce, Ts⟩ P w mg base 1 "_law_ten" 1 d__law_ten) : ∀ n : Nat, FnG P w K mg base (L2.CX P w) (n + 4) f fd ["_law_draw", "_law_deep"] (spD ⟨K, ca, ce, Ts⟩ 2 (d__law_thing_n n))
  | 0 => fnG (G := ⟨K, ca, ce, Ts⟩) (N := ["_law_draw", "_law_deep", "_law_way", "_law_small", "_law_some", "_law_words", "_law_k"]) (k := 3) .pure F sc__law_thing fun cdv A outer s H E hr tk po gd => dss_nev
  | n + 1 => by
    have c__law_thing : DefG ⟨K, ca, ce, Ts⟩ P w mg base (n + 4) "_law_thing" 2 (d__law_thing_n n) := ⟨⟨f, fd, ["_law_draw", "_law_deep"], ok__law_thing F T hm hk hb c__law_next c__law_pick c__law_any_sign c__law_ten n, hm, hk, hb⟩⟩
    exact fnG (G := ⟨K, ca, ce, Ts⟩) (N := ["_law_draw", "_law_deep", "_law_way", "_law_small", "_law_some", "_law_words", "_law_k"]) (k := n + 4) .pure F sc__law_thing fun cdv A outer s H E hr tk po gd =>
(dss_cons (ds_set (i := 2) sc__law_thing.nd rfl (Or.inl rfl) (de_callG c__law_next gd rfl (hr.mono (by omega)) rfl tk (da_cons (de_var 0) (da_cons de_int da_nil)) rfl (la_cons (la_cons la_nil))))
(dss_cons (ds_if (dt_cmp do_lt (de_var 2) de_int)
(dss_cons (ds_set (i := 3) sc__law_thing.nd rfl (Or.inl rfl) (de_lst (da_cons de_int (da_cons de_int (da_cons de_int (da_cons (de_neg de_int) (da_cons de_int (da_cons (de_neg de_int) (da_cons de_int (da_cons (de_op do_sub (de_callG c__law_next gd rfl (hr.mono (by omega)) rfl tk (da_cons (de_var 0) (da_cons de_int da_nil)) rfl (la_cons (la_cons la_nil))) de_int) (da_cons (de_op (do_add rfl) (de_callG c__law_ten gd rfl (hr.mono (by omega)) rfl tk (da_cons de_int da_nil) rfl (la_cons la_nil)) de_int) (da_cons (de_op do_sub de_int (de_callG c__law_ten gd rfl (hr.mono (by omega)) rfl tk (da_cons de_int da_nil) rfl (la_cons la_nil))) da_nil))))))))))))
(dss_one (ds_ret (de_callG c__law_pick gd rfl (hr.mono (by omega)) rfl tk (da_cons (de_var 0) (da_cons (de_var 3) da_nil)) rfl (la_cons (la_cons la_nil))))))
dss_nil)
(dss_cons (ds_if (dt_cmp (do_eq rfl (units100 hr)) (de_var 2) de_int)
(dss_one (ds_ret de_non))
dss_nil)
(dss_cons (ds_if (DW.t (dw_or (dt_cmp do_lt (de_var 2) de_int) (dw_or1 (dt_cmp (do_eq rfl (units100 hr)) (de_var 1) de_int))))
(dss_cons (ds_set (i := 4) sc__law_thing.nd rfl (Or.inl rfl) (de_lst (da_cons de_str (da_cons de_str (da_cons de_str (da_cons de_str (da_cons de_str (da_cons de_str (da_cons de_str (da_cons de_str (da_cons de_str (da_cons de_str (da_cons de_str (da_cons de_str (da_cons de_str da_nil)))))))))))))))
(dss_cons (ds_set (i := 5) sc__law_thing.nd rfl (Or.inl rfl) (de_lstM da_nil))
(dss_cons (ds_for po rfl (di_range1 rfl T.b_range (da_cons (de_callG c__law_next gd rfl (hr.mono (by omega)) rfl tk (da_cons (de_var 0) (da_cons de_int da_nil)) rfl (la_cons (la_cons la_nil))) da_nil)) (dg_name sc__law_thing.nd rfl (by first | exact Or.inl rfl | exact Or.inr rfl))
(dss_one (ds_expr (de_meth PySem.F.plainAttrs_list PySem.F.slot_list_append PySem.F.type_list_append dm_append rfl (de_var 5) (da_cons (de_if (dt_cmp (do_eq rfl (units100 hr)) (de_callG c__law_next gd rfl (hr.mono (by omega)) rfl tk (da_cons (de_var 0) (da_cons de_int da_nil)) rfl (la_cons (la_cons la_nil))) de_int) (de_callG c__law_pick gd rfl (hr.mono (by omega)) rfl tk (da_cons (de_var 0) (da_cons (de_var 4) da_nil)) rfl (la_cons (la_cons la_nil))) (de_callG c__law_any_sign gd rfl (hr.mono (by omega)) rfl tk (da_cons (de_var 0) da_nil) rfl (la_cons la_nil))) da_nil)))))
(dss_one (ds_ret (de_meth PySem.F.plainAttrs_str PySem.F.slot_str_join PySem.F.type_str_join (dm_join rfl) rfl de_str (da_cons (de_var 5) da_nil)))))))
dss_nil)
(dss_one (ds_ret (de_callTy (dc_tuple rfl) rfl T.b_tuple (by decide +kernel) (da_cons (de_lc (own := [("_law_k", 6)]) rfl sc__law_thing.nd (di_range1 rfl T.b_range (da_cons (de_callG c__law_next gd rfl (hr.mono (by omega)) rfl tk (da_cons (de_var 0) (da_cons de_int da_nil)) rfl (la_cons (la_cons la_nil))) da_nil)) (blkOk_by (N := ["_law_draw", "_law_deep", "_law_way", "_law_small", "_law_some", "_law_words", "_law_k"]) (sc := defScope s__law_thing) (own := [("_law_k", 6)]) (by decide +kernel)) (fun _ _ _ _ _ => (dg_name sc__law_thing.nd rfl (by first | exact Or.inl rfl | exact Or.inr rfl))) (fun _ _ _ _ _ => dts_nil) (fun _ _ _ _ _ => (de_callG c__law_thing gd rfl (hr.mono (by omega)) rfl takes0 (da_cons (de_var 0) (da_cons (de_op do_sub (de_var 1) de_int) da_nil)) rfl (la_cons (la_cons la_nil)))) (by decide)) da_nil))))))))

abbrev s__law_read_word : Stmt := top 47
theorem sc__law_read_word : FnScope ["_law_text_here", "_law_at", "_law_signs", "_law_sign"] ["_law_text_here", "_law_at"] (defScope s__law_read_word) := ⟨rfl, rfl, rfl, by decide +kernel, rfl, by decide +kernel, by decide +kernel⟩
theorem ok__law_read_word {f : Addr} {fd : FuncData} (F : Fun K "_law_read_word" "_law_read_word" s__law_read_word f fd) (T : Txt K mg ca ce Ts w)  : FnG P w K mg base (L2.CX P w) 1 f fd ["_law_text_here", "_law_at"] (spD ⟨K, ca, ce, Ts⟩ 2 d__law_read_word) :=
fnG (G := ⟨K, ca, ce, Ts⟩) (N := ["_law_text_here", "_law_at", "_law_signs", "_law_sign"]) .pure F sc__law_read_word fun cdv A outer s H E hr tk po gd =>
(dss_cons (ds_set (i := 2) sc__law_read_word.nd rfl (Or.inl rfl) (de_lstM da_nil))
(dss_cons (ds_while po (dt_cmp do_lt (de_var 1) (de_callB (dc_lenX rfl) rfl T.b_len (by decide +kernel) (da_cons (de_var 0) da_nil)))
(dss_cons (ds_set (i := 3) sc__law_read_word.nd rfl (Or.inl rfl) (de_ixX rfl (units1 hr) (de_var 0) (de_var 1)))
(dss_cons (ds_if (dt_cmp (do_eq rfl (units100 hr)) (de_var 3) de_str)
(dss_one (ds_ret (de_tup (da_cons (de_meth PySem.F.plainAttrs_str PySem.F.slot_str_join PySem.F.type_str_join (dm_join rfl) rfl de_str (da_cons (de_var 2) da_nil)) (da_cons (de_op (do_add rfl) (de_var 1) de_int) da_nil)))))
dss_nil)
(dss_cons (ds_if (dt_cmp (do_eq rfl (units100 hr)) (de_var 3) de_str)
(dss_cons (ds_set (i := 1) sc__law_read_word.nd rfl (Or.inl rfl) (de_op (do_add rfl) (de_var 1) de_int))
(dss_cons (ds_set (i := 3) sc__law_read_word.nd rfl (Or.inl rfl) (de_sliceS rfl (de_var 0) (do_some (de_var 1)) (do_some (de_op (do_add rfl) (de_var 1) de_int))))
(dss_one (ds_if (dt_cmp (do_notIn rfl (units65 hr)) (de_var 3) (de_lst (da_cons de_str (da_cons de_str da_nil))))
(dss_one (ds_ret de_non))
dss_nil))))
dss_nil)
(dss_cons (ds_if (dt_not (dt_chain do_leS do_leS de_str (de_var 3) de_str))
(dss_one (ds_ret de_non))
dss_nil)
(dss_cons (ds_expr (de_meth PySem.F.plainAttrs_list PySem.F.slot_list_append PySem.F.type_list_append dm_append rfl (de_var 2) (da_cons (de_var 3) da_nil)))
(dss_one (ds_set (i := 1) sc__law_read_word.nd rfl (Or.inl rfl) (de_op (do_add rfl) (de_var 1) de_int)))))))))
(dss_one (ds_ret de_non))))

abbrev s__law_read_number : Stmt := top 48
theorem sc__law_read_number : FnScope ["_law_text_here", "_law_at", "_law_end", "_law_word", "_law_figures"] ["_law_text_here", "_law_at"] (defScope s__law_read_number) := ⟨rfl, rfl, rfl, by decide +kernel, rfl, by decide +kernel, by decide +kernel⟩
theorem ok__law_read_number {f : Addr} {fd : FuncData} (F : Fun K "_law_read_number" "_law_read_number" s__law_read_number f fd) (T : Txt K mg ca ce Ts w)  : FnG P w K mg base (L2.CX P w) 1 f fd ["_law_text_here", "_law_at"] (spD ⟨K, ca, ce, Ts⟩ 2 d__law_read_number) :=
fnG (G := ⟨K, ca, ce, Ts⟩) (N := ["_law_text_here", "_law_at", "_law_end", "_law_word", "_law_figures"]) .pure F sc__law_read_number fun cdv A outer s H E hr tk po gd =>
(dss_cons (ds_set (i := 2) sc__law_read_number.nd rfl (Or.inl rfl) (de_var 1))
(dss_cons (ds_while po (DW.t (dw_and (dt_cmp do_lt (de_var 2) (de_callB (dc_lenX rfl) rfl T.b_len (by decide +kernel) (da_cons (de_var 0) da_nil))) (dw_and1 (DW.t (dw_or (dt_cmp (do_in rfl (units65 hr)) (de_ixX rfl (units1 hr) (de_var 0) (de_var 2)) de_str) (dw_or1 (DW.t (dw_and (dt_cmp (do_eq rfl (units100 hr)) (de_var 2) (de_var 1)) (dw_and1 (dt_cmp (do_eq rfl (units100 hr)) (de_ixX rfl (units1 hr) (de_var 0) (de_var 2)) de_str))))))))))
(dss_one (ds_set (i := 2) sc__law_read_number.nd rfl (Or.inl rfl) (de_op (do_add rfl) (de_var 2) de_int))))
(dss_cons (ds_set (i := 3) sc__law_read_number.nd rfl (Or.inl rfl) (de_sliceS rfl (de_var 0) (do_some (de_var 1)) (do_some (de_var 2))))
(dss_cons (ds_set (i := 4) sc__law_read_number.nd rfl (Or.inl rfl) (de_if (dt_cmp (do_eq rfl (units100 hr)) (de_sliceS rfl (de_var 3) do_none (do_some de_int)) de_str) (de_sliceS rfl (de_var 3) (do_some de_int) do_none) (de_var 3)))
(dss_cons (ds_if (DW.t (dw_or (dt_cmp (do_eq rfl (units100 hr)) (de_var 4) de_str) (dw_or (dt_cmp do_gt (de_callB (dc_lenX rfl) rfl T.b_len (by decide +kernel) (da_cons (de_var 4) da_nil)) de_int) (dw_or1 (DW.t (dw_and (dt_cmp (do_eq rfl (units100 hr)) (de_ixX rfl (units1 hr) (de_var 4) de_int) de_str) (dw_and1 (dt_cmp (do_ne rfl (units100 hr)) (de_var 3) de_str))))))))
(dss_one (ds_ret de_non))
dss_nil)
(dss_one (ds_ret (de_tup (da_cons (de_callTy dc_intS rfl T.b_int (by decide +kernel) (da_cons (de_var 3) da_nil)) (da_cons (de_var 2) da_nil))))))))))

abbrev s__law_read_tuple : Stmt := top 49
theorem sc__law_read_tuple : FnScope ["_law_text_here", "_law_at", "_law_deep", "_law_found", "_law_told"] ["_law_text_here", "_law_at", "_law_deep"] (defScope s__law_read_tuple) := ⟨rfl, rfl, rfl, by decide +kernel, rfl, by decide +kernel, by decide +kernel⟩
theorem ok__law_read_tuple {f : Addr} {fd : FuncData} {r__law_read_thing : FD} {lx : Nat} (F : Fun K "_law_read_tuple" "_law_read_tuple" s__law_read_tuple f fd) (T : Txt K mg ca ce Ts w) (c__law_read_thing : DefG ⟨K, ca, ce, Ts⟩ P w mg base lx "_law_read_thing" 3 r__law_read_thing)  : FnG P w K mg base (L2.CX P w) (lx + 1) f fd ["_law_text_here", "_law_at", "_law_deep"] (spD ⟨K, ca, ce, Ts⟩ 3 (d__law_read_tuple r__law_read_thing)) :=
fnG (G := ⟨K, ca, ce, Ts⟩) (N := ["_law_text_here", "_law_at", "_law_deep", "_law_found", "_law_told"]) (k := lx) .pure F sc__law_read_tuple fun cdv A outer s H E hr tk po gd =>
(dss_cons (ds_set (i := 3) sc__law_read_tuple.nd rfl (Or.inl rfl) (de_lstM da_nil))
(dss_cons (ds_if (dt_cmp (do_eq rfl (units100 hr)) (de_sliceS rfl (de_var 0) (do_some (de_var 1)) (do_some (de_op (do_add rfl) (de_var 1) de_int))) de_str)
(dss_one (ds_ret (de_tup (da_cons (de_tup da_nil) (da_cons (de_op (do_add rfl) (de_var 1) de_int) da_nil)))))
dss_nil)
(dss_cons (ds_while po (dt_cmp do_gt (de_var 2) de_int)
(dss_cons (ds_set (i := 4) sc__law_read_tuple.nd rfl (Or.inl rfl) (de_callG c__law_read_thing gd rfl (hr.mono (by omega)) rfl tk (da_cons (de_var 0) (da_cons (de_var 1) (da_cons (de_op do_sub (de_var 2) de_int) da_nil))) rfl (la_cons (la_cons (la_cons la_nil)))))
(dss_cons (ds_if (dt_cmp do_isN (de_var 4) de_non)
(dss_one (ds_ret de_non))
dss_nil)
(dss_cons (ds_expr (de_meth PySem.F.plainAttrs_list PySem.F.slot_list_append PySem.F.type_list_append dm_append rfl (de_var 3) (da_cons (de_ixX rfl (units1 hr) (de_var 4) de_int) da_nil)))
(dss_cons (ds_set (i := 1) sc__law_read_tuple.nd rfl (Or.inl rfl) (de_ixX rfl (units1 hr) (de_var 4) de_int))
(dss_cons (ds_if (dt_cmp (do_eq rfl (units100 hr)) (de_sliceS rfl (de_var 0) (do_some (de_var 1)) (do_some (de_op (do_add rfl) (de_var 1) de_int))) de_str)
(dss_one (ds_ret (de_tup (da_cons (de_callTy (dc_tuple rfl) rfl T.b_tuple (by decide +kernel) (da_cons (de_var 3) da_nil)) (da_cons (de_op (do_add rfl) (de_var 1) de_int) da_nil)))))
dss_nil)
(dss_cons (ds_if (dt_cmp (do_ne rfl (units100 hr)) (de_sliceS rfl (de_var 0) (do_some (de_var 1)) (do_some (de_op (do_add rfl) (de_var 1) de_int))) de_str)
(dss_one (ds_ret de_non))
dss_nil)
(dss_one (ds_set (i := 1) sc__law_read_tuple.nd rfl (Or.inl rfl) (de_op (do_add rfl) (de_var 1) de_int))))))))))
(dss_one (ds_ret de_non)))))

abbrev s__law_read_thing : Stmt := top 50
theorem sc__law_read_thing : FnScope ["_law_text_here", "_law_at", "_law_deep"] ["_law_text_here", "_law_at", "_law_deep"] (defScope s__law_read_thing) := ⟨rfl, rfl, rfl, by decide +kernel, rfl, by decide +kernel, by decide +kernel⟩
theorem ok__law_read_thing {f : Addr} {fd : FuncData} (F : Fun K "_law_read_thing" "_law_read_thing" s__law_read_thing f fd) (T : Txt K mg ca ce Ts w) (hm : mg "_law_read_thing" = some (.ref f)) (hk : PySem.W.keepIn K (.ref f) = true) (hb : Binds K fd ["_law_text_here", "_law_at", "_law_deep"] []) {f__law_read_tuple : Addr} {fd__law_read_tuple : FuncData} (F__law_read_tuple : Fun K "_law_read_tuple" "_law_read_tuple" s__law_read_tuple f__law_read_tuple fd__law_read_tuple) (hm__law_read_tuple : mg "_law_read_tuple" = some (.ref f__law_read_tuple)) (hk__law_read_tuple : PySem.W.keepIn K (.ref f__law_read_tuple) = true) (hb__law_read_tuple : Binds K fd__law_read_tuple ["_law_text_here", "_law_at", "_law_deep"] []) (c__law_read_word : DefG ⟨K, ca, ce, Ts⟩ P w mg base 1 "_law_read_word" 2 d__law_read_word) (c__law_read_number : DefG ⟨K, ca, ce, Ts⟩ P w mg base 1 "_law_read_number" 2 d__law_read_number) : ∀ n : Nat, FnG P w K mg base (L2.CX P w) (2 * n + 2) f fd ["_law_text_here", "_law_at", "_law_deep"] (spD ⟨K, ca, ce, Ts⟩ 3 (d__law_read_thing_n n))
  | 0 => fnG (G := ⟨K, ca, ce, Ts⟩) (N := ["_law_text_here", "_law_at", "_law_deep"]) (k := 2 * 0 + 1) .pure F sc__law_read_thing fun cdv A outer s H E hr tk po gd => dss_nev
  | n + 1 => by
    have c__law_read_thing : DefG ⟨K, ca, ce, Ts⟩ P w mg base (2 * n + 2) "_law_read_thing" 3 (d__law_read_thing_n n) := ⟨⟨f, fd, ["_law_text_here", "_law_at", "_law_deep"], ok__law_read_thing F T hm hk hb F__law_read_tuple hm__law_read_tuple hk__law_read_tuple hb__law_read_tuple c__law_read_word c__law_read_number n, hm, hk, hb⟩⟩
    have c__law_read_tuple : DefG ⟨K, ca, ce, Ts⟩ P w mg base (2 * n + 2 + 1) "_law_read_tuple" 3 (d__law_read_tuple (d__law_read_thing_n n)) := ⟨⟨f__law_read_tuple, fd__law_read_tuple, ["_law_text_here", "_law_at", "_law_deep"], ok__law_read_tuple F__law_read_tuple T c__law_read_thing, hm__law_read_tuple, hk__law_read_tuple, hb__law_read_tuple⟩⟩
    have e : 2 * (n + 1) + 2 = (2 * n + 2 + 1) + 1 := by omega
    rw [e]
    exact fnG (G := ⟨K, ca, ce, Ts⟩) (N := ["_law_text_here", "_law_at", "_law_deep"]) (k := 2 * n + 2 + 1) .pure F sc__law_read_thing fun cdv A outer s H E hr tk po gd =>
(dss_cons (ds_if (dt_cmp (do_eq rfl (units100 hr)) (de_sliceS rfl (de_var 0) (do_some (de_var 1)) (do_some (de_op (do_add rfl) (de_var 1) de_int))) de_str)
(dss_one (ds_ret (de_if (dt_cmp do_gt (de_var 2) de_int) (de_callG c__law_read_tuple gd rfl (hr.mono (by omega)) rfl tk (da_cons (de_var 0) (da_cons (de_op (do_add rfl) (de_var 1) de_int) (da_cons (de_var 2) da_nil))) rfl (la_cons (la_cons (la_cons la_nil)))) de_non)))
dss_nil)
(dss_cons (ds_if (dt_cmp (do_eq rfl (units100 hr)) (de_sliceS rfl (de_var 0) (do_some (de_var 1)) (do_some (de_op (do_add rfl) (de_var 1) de_int))) de_str)
(dss_one (ds_ret (de_callG c__law_read_word gd rfl (hr.mono (by omega)) rfl tk (da_cons (de_var 0) (da_cons (de_op (do_add rfl) (de_var 1) de_int) da_nil)) rfl (la_cons (la_cons la_nil)))))
dss_nil)
(dss_one (ds_ret (de_if (dt_cmp (do_eq rfl (units100 hr)) (de_sliceS rfl (de_var 0) (do_some (de_var 1)) (do_some (de_op (do_add rfl) (de_var 1) de_int))) de_str) (de_tup (da_cons de_non (da_cons (de_op (do_add rfl) (de_var 1) de_int) da_nil))) (de_callG c__law_read_number gd rfl (hr.mono (by omega)) rfl tk (da_cons (de_var 0) (da_cons (de_var 1) da_nil)) rfl (la_cons (la_cons la_nil))))))))

abbrev s__law_told_of : Stmt := top 51
theorem sc__law_told_of : FnScope ["_law_text_here", "_law_told"] ["_law_text_here"] (defScope s__law_told_of) := ⟨rfl, rfl, rfl, by decide +kernel, rfl, by decide +kernel, by decide +kernel⟩
theorem ok__law_told_of {f : Addr} {fd : FuncData} (F : Fun K "_law_told_of" "_law_told_of" s__law_told_of f fd) (T : Txt K mg ca ce Ts w) (c__law_read_thing : DefG ⟨K, ca, ce, Ts⟩ P w mg base 26 "_law_read_thing" 3 d__law_read_thing) : FnG P w K mg base (L2.CX P w) 27 f fd ["_law_text_here"] (spD ⟨K, ca, ce, Ts⟩ 1 d__law_told_of) :=
fnG (G := ⟨K, ca, ce, Ts⟩) (N := ["_law_text_here", "_law_told"]) .pure F sc__law_told_of fun cdv A outer s H E hr tk po gd =>
(dss_cons (ds_set (i := 1) sc__law_told_of.nd rfl (Or.inl rfl) (de_callG c__law_read_thing gd rfl (hr.mono (by omega)) rfl tk (da_cons (de_var 0) (da_cons de_int (da_cons de_int da_nil))) rfl (la_cons (la_cons (la_cons la_nil)))))
(dss_one (ds_ret (de_if (DW.t (dw_and (dt_cmp do_notN (de_var 1) de_non) (dw_and1 (dt_cmp (do_eq rfl (units100 hr)) (de_ixX rfl (units1 hr) (de_var 1) de_int) (de_callB (dc_lenX rfl) rfl T.b_len (by decide +kernel) (da_cons (de_var 0) da_nil)))))) (de_lst (da_cons (de_ixX rfl (units1 hr) (de_var 1) de_int) da_nil)) (de_lst da_nil)))))

abbrev s__law_due : Stmt := top 53
theorem sc__law_due : FnScope ["_law_text_here", "_law_rows", "_law_found", "_law_at", "_law_row", "_law_told"] ["_law_text_here"] (defScope s__law_due) := ⟨rfl, rfl, rfl, by decide +kernel, rfl, by decide +kernel, by decide +kernel⟩
theorem ok__law_due {f : Addr} {fd : FuncData} (F : Fun K "_law_due" "_law_due" s__law_due f fd) (T : Txt K mg ca ce Ts w) (c__law_told_of : DefG ⟨K, ca, ce, Ts⟩ P w mg base 27 "_law_told_of" 1 d__law_told_of) : FnG P w K mg base (L2.CX P w) 28 f fd ["_law_text_here"] (spD ⟨K, ca, ce, Ts⟩ 1 d__law_due) :=
fnG (G := ⟨K, ca, ce, Ts⟩) (N := ["_law_text_here", "_law_rows", "_law_found", "_law_at", "_law_row", "_law_told"]) .pure F sc__law_due fun cdv A outer s H E hr tk po gd =>
(dss_cons (ds_if (dt_not (dt_val (de_isC rfl T.own T.is_str (cn_ty rfl T.b_str (by decide +kernel)) rfl T.b_isinstance (de_var 0))))
(dss_one (ds_ret (de_lst (da_cons de_str (da_cons de_int da_nil)))))
dss_nil)
(dss_cons (ds_par (i := 1) (j := 2) rfl sc__law_due.nd rfl rfl (by decide) rfl rfl (da_cons (de_meth PySem.F.plainAttrs_str PySem.F.slot_str_split PySem.F.type_str_split dm_split rfl (de_var 0) (da_cons de_str da_nil)) (da_cons (de_lstM da_nil) da_nil)) (by rfl))
(dss_cons (ds_for po rfl (di_enumX rfl rfl T.b_enumerate (da_cons (de_slice rfl (de_var 1) do_none (do_some (de_neg de_int))) da_nil)) (dg_tup rfl rfl (dgs_cons (dg_name sc__law_due.nd rfl (by first | exact Or.inl rfl | exact Or.inr rfl)) (dgs_cons (dg_name sc__law_due.nd rfl (by first | exact Or.inl rfl | exact Or.inr rfl)) dgs_nil)) (blen_cons (blen_cons blen_nil)))
(dss_cons (ds_set (i := 5) sc__law_due.nd rfl (Or.inl rfl) (de_callG c__law_told_of gd rfl (hr.mono (by omega)) rfl tk (da_cons (de_var 4) da_nil) rfl (la_cons la_nil)))
(dss_cons (ds_if (DW.t (dw_or (dt_cmp (do_eqL0 rfl (units100 hr)) (de_var 5) (de_lst da_nil)) (dw_or1 (dt_not (dt_val (de_isC rfl T.own T.is_tuple (cn_ty rfl T.b_tuple (by decide +kernel)) rfl T.b_isinstance (de_ixX rfl (units1 hr) (de_var 5) de_int)))))))
(dss_one (ds_ret (de_lst (da_cons de_str (da_cons (de_var 3) da_nil)))))
dss_nil)
(dss_one (ds_expr (de_meth PySem.F.plainAttrs_list PySem.F.slot_list_append PySem.F.type_list_append dm_append rfl (de_var 2) (da_cons (de_ixX rfl (units1 hr) (de_var 5) de_int) da_nil)))))))
(dss_one (ds_ret (de_if (dt_cmp (do_eq rfl (units100 hr)) (de_ixX rfl (units1 hr) (de_var 1) (de_neg de_int)) de_str) (de_callTy (dc_tuple rfl) rfl T.b_tuple (by decide +kernel) (da_cons (de_var 2) da_nil)) (de_lst (da_cons de_str (da_cons (de_op do_sub (de_callB (dc_lenX rfl) rfl T.b_len (by decide +kernel) (da_cons (de_var 1) da_nil)) de_int) da_nil)))))))))

abbrev s__law_right : Stmt := top 55
theorem sc__law_right : FnScope ["_law_cell", "_law_k", "_law_draw", "_law_board", "_law_rows", "_law_whole", "_law_turn", "_law_some", "_law_text_here", "_law_odd", "_law_row", "_law_one"] ["_law_cell", "_law_k"] (defScope s__law_right) := ⟨rfl, rfl, rfl, by decide +kernel, rfl, by decide +kernel, by decide +kernel⟩
theorem ok__law_right {f c0 P0 : Addr} {fd : FuncData} (F : Fun K "_law_right" "_law_right" s__law_right f fd) (hc : fd.code = .ref c0) (TB : LamX.TabB base mg c0 P0) (mT : (P0, ((PyProof.Rows.envOfC "_law_right" (defScope s__law_right) 0 0 .none).qual ++ ("<lambda>" : Str))) ∈ Ts) (T : Txt K mg ca ce Ts w) (c__law_like : DefG ⟨K, ca, ce, Ts⟩ P w mg base 13 "_law_like" 2 d__law_like) (c_board_text : DefG ⟨K, ca, ce, Ts⟩ P w mg base 14 "board_text" 1 d_board_text) (c_read_board : DefG ⟨K, ca, ce, Ts⟩ P w mg base 28 "read_board" 1 d_read_board) (c__law_text : DefG ⟨K, ca, ce, Ts⟩ P w mg base 13 "_law_text" 1 d__law_text) (c__law_begun : DefG ⟨K, ca, ce, Ts⟩ P w mg base 1 "_law_begun" 2 d__law_begun) (c__law_next : DefG ⟨K, ca, ce, Ts⟩ P w mg base 1 "_law_next" 2 d__law_next) (c__law_pick : DefG ⟨K, ca, ce, Ts⟩ P w mg base 2 "_law_pick" 2 d__law_pick) (c__law_changed_rows : DefG ⟨K, ca, ce, Ts⟩ P w mg base 5 "_law_changed_rows" 2 d__law_changed_rows) (c__law_safe_told : LamD ⟨K, ca, ce, Ts⟩ P w mg base 2 "_law_safe_told" h__law_safe_told) (c__law_thing : DefG ⟨K, ca, ce, Ts⟩ P w mg base 16 "_law_thing" 2 d__law_thing) (c__law_due : DefG ⟨K, ca, ce, Ts⟩ P w mg base 28 "_law_due" 1 d__law_due) : FnG P w K mg base (L2.CX P w) 31 f fd ["_law_cell", "_law_k"] (spD ⟨K, ca, ce, Ts⟩ 2 d__law_right) :=
fnGC (G := ⟨K, ca, ce, Ts⟩) (N := ["_law_cell", "_law_k", "_law_draw", "_law_board", "_law_rows", "_law_whole", "_law_turn", "_law_some", "_law_text_here", "_law_odd", "_law_row", "_law_one"]) .pure hc F sc__law_right fun A outer s H E hr tk po gd =>
(dss_cons (ds_set (i := 2) sc__law_right.nd rfl (Or.inr rfl) (de_callG c__law_begun gd rfl (hr.mono (by omega)) rfl tk (da_cons (de_var 0) (da_cons (de_var 1) da_nil)) rfl (la_cons (la_cons la_nil))))
(dss_cons (ds_setLc (own := [("_law_row", 10)]) (i := 3) rfl sc__law_right.nd (di_range1 rfl T.b_range (da_cons (de_callG c__law_next gd rfl (hr.mono (by omega)) rfl tk (da_cons (de_var 2) (da_cons de_int da_nil)) rfl (la_cons (la_cons la_nil))) da_nil)) (blkOk_by (N := ["_law_cell", "_law_k", "_law_draw", "_law_board", "_law_rows", "_law_whole", "_law_turn", "_law_some", "_law_text_here", "_law_odd", "_law_row", "_law_one"]) (sc := defScope s__law_right) (own := [("_law_row", 10)]) (by decide +kernel)) (fun _ _ _ _ _ => (dg_name sc__law_right.nd rfl (by first | exact Or.inl rfl | exact Or.inr rfl))) (fun _ _ _ _ _ => dts_nil) (fun _ _ _ _ _ => (de_callTy (dc_tuple rfl) rfl T.b_tuple (by decide +kernel) (da_cons (de_lc (own := [("_law_one", 11)]) rfl sc__law_right.nd (di_range1 rfl T.b_range (da_cons (de_callG c__law_next gd rfl (hr.mono (by omega)) rfl takes0 (da_cons (de_var 2) (da_cons de_int da_nil)) rfl (la_cons (la_cons la_nil))) da_nil)) (blkOk_by (by kernel_rfl)) (fun _ _ _ _ _ => (dg_name sc__law_right.nd rfl (by first | exact Or.inl rfl | exact Or.inr rfl))) (fun _ _ _ _ _ => dts_nil) (fun _ _ _ _ _ => (de_callG c__law_thing gd rfl (hr.mono (by omega)) rfl takes0 (da_cons (de_var 2) (da_cons de_int da_nil)) rfl (la_cons (la_cons la_nil)))) (by decide)) da_nil))) (by decide) rfl rfl (sw_true rfl rfl rfl (by decide +kernel)))
(dss_cons (ds_setLc (own := [("_law_row", 10)]) (i := 4) rfl sc__law_right.nd (di_seq rfl (de_var 3)) (blkOk_by (N := ["_law_cell", "_law_k", "_law_draw", "_law_board", "_law_rows", "_law_whole", "_law_turn", "_law_some", "_law_text_here", "_law_odd", "_law_row", "_law_one"]) (sc := defScope s__law_right) (own := [("_law_row", 10)]) (by decide +kernel)) (fun _ _ _ _ _ => (dg_name sc__law_right.nd rfl (by first | exact Or.inl rfl | exact Or.inr rfl))) (fun _ _ _ _ _ => dts_nil) (fun _ _ _ _ _ => (de_callG c__law_text gd rfl (hr.mono (by omega)) rfl takes0 (da_cons (de_var 10) da_nil) rfl (la_cons la_nil))) (by decide) rfl rfl (sw_true rfl rfl rfl (by decide +kernel)))
(dss_cons (ds_set (i := 5) sc__law_right.nd rfl (Or.inl rfl) (de_meth PySem.F.plainAttrs_str PySem.F.slot_str_join PySem.F.type_str_join (dm_join rfl) rfl de_str (da_cons (de_lc (own := [("_law_row", 10)]) rfl sc__law_right.nd (di_seq rfl (de_var 4)) (blkOk_by (N := ["_law_cell", "_law_k", "_law_draw", "_law_board", "_law_rows", "_law_whole", "_law_turn", "_law_some", "_law_text_here", "_law_odd", "_law_row", "_law_one"]) (sc := defScope s__law_right) (own := [("_law_row", 10)]) (by decide +kernel)) (fun _ _ _ _ _ => (dg_name sc__law_right.nd rfl (by first | exact Or.inl rfl | exact Or.inr rfl))) (fun _ _ _ _ _ => dts_nil) (fun _ _ _ _ _ => (de_op (do_add rfl) (de_var 10) de_str)) (by decide)) da_nil)))
(dss_cons (ds_if (dt_not (dt_val (de_callG c__law_like gd rfl (hr.mono (by omega)) rfl tk (da_cons (de_lst (da_cons (de_callG c_board_text gd rfl (hr.mono (by omega)) rfl tk (da_cons (de_var 3) da_nil) rfl (la_cons la_nil)) (da_cons (de_callG c_board_text gd rfl (hr.mono (by omega)) rfl tk (da_cons (de_callTy (dc_tuple rfl) rfl T.b_tuple (by decide +kernel) (da_cons (de_var 3) da_nil)) da_nil) rfl (la_cons la_nil)) da_nil))) (da_cons (de_lst (da_cons (de_var 5) (da_cons (de_var 5) da_nil))) da_nil)) rfl (la_cons (la_cons la_nil)))))
(dss_one (ds_ret de_bl))
dss_nil)
(dss_cons (ds_if (dt_not (dt_val (de_callG c__law_like gd rfl (hr.mono (by omega)) rfl tk (da_cons (de_callG c_read_board gd rfl (hr.mono (by omega)) rfl tk (da_cons (de_var 5) da_nil) rfl (la_cons la_nil)) (da_cons (de_callTy (dc_tuple rfl) rfl T.b_tuple (by decide +kernel) (da_cons (de_var 3) da_nil)) da_nil)) rfl (la_cons (la_cons la_nil)))))
(dss_one (ds_ret de_bl))
dss_nil)
(dss_cons (ds_for po rfl (di_range1 rfl T.b_range (da_cons de_int da_nil)) (dg_name sc__law_right.nd rfl (by first | exact Or.inl rfl | exact Or.inr rfl))
(dss_cons (ds_set (i := 7) sc__law_right.nd rfl (Or.inl rfl) (de_callG c__law_changed_rows gd rfl (hr.mono (by omega)) rfl tk (da_cons (de_var 2) (da_cons (de_var 4) da_nil)) rfl (la_cons (la_cons la_nil))))
(dss_cons (ds_set (i := 7) sc__law_right.nd rfl (Or.inl rfl) (de_if (dt_cmp (do_eq rfl (units100 hr)) (de_callG c__law_next gd rfl (hr.mono (by omega)) rfl tk (da_cons (de_var 2) (da_cons de_int da_nil)) rfl (la_cons (la_cons la_nil))) de_int) (de_callG c__law_changed_rows gd rfl (hr.mono (by omega)) rfl tk (da_cons (de_var 2) (da_cons (de_var 7) da_nil)) rfl (la_cons (la_cons la_nil))) (de_var 7)))
(dss_cons (ds_set (i := 8) sc__law_right.nd rfl (Or.inr rfl) (de_meth PySem.F.plainAttrs_str PySem.F.slot_str_join PySem.F.type_str_join (dm_join rfl) rfl de_str (da_cons (de_lc (own := [("_law_row", 10)]) rfl sc__law_right.nd (di_seq rfl (de_var 7)) (blkOk_by (N := ["_law_cell", "_law_k", "_law_draw", "_law_board", "_law_rows", "_law_whole", "_law_turn", "_law_some", "_law_text_here", "_law_odd", "_law_row", "_law_one"]) (sc := defScope s__law_right) (own := [("_law_row", 10)]) (by decide +kernel)) (fun _ _ _ _ _ => (dg_name sc__law_right.nd rfl (by first | exact Or.inl rfl | exact Or.inr rfl))) (fun _ _ _ _ _ => dts_nil) (fun _ _ _ _ _ => (de_op (do_add rfl) (de_var 10) de_str)) (by decide)) da_nil)))
(dss_cons (ds_set (i := 8) sc__law_right.nd rfl (Or.inr rfl) (de_if (dt_cmp (do_eq rfl (units100 hr)) (de_callG c__law_next gd rfl (hr.mono (by omega)) rfl tk (da_cons (de_var 2) (da_cons de_int da_nil)) rfl (la_cons (la_cons la_nil))) de_int) (de_sliceS rfl (de_var 8) do_none (do_some (de_neg de_int))) (de_var 8)))
(dss_one (ds_if (dt_not (dt_val (de_callG c__law_like gd rfl (hr.mono (by omega)) rfl tk (da_cons (de_lam (k := 28) TB rfl mT rfl gd (hr.mono (by omega)) (by rfl) tk (c__law_safe_told.mono (by omega)) (show LamX.LamS (defScope s__law_right) _ from LamX.lamS_by (by decide +kernel)) (by rfl) (fun _ _ _ _ _ => rfl) (fun A1 outer s2 H2 E f d gd hr tk =>
(de_callG c_read_board gd rfl (hr.mono (by omega)) rfl tk (da_cons (de_var 8) da_nil) rfl (la_cons la_nil)))) (da_cons (de_callG c__law_due gd rfl (hr.mono (by omega)) rfl tk (da_cons (de_var 8) da_nil) rfl (la_cons la_nil)) da_nil)) rfl (la_cons (la_cons la_nil)))))
(dss_one (ds_ret de_bl))
dss_nil)))))))
(dss_cons (ds_set (i := 9) sc__law_right.nd rfl (Or.inr rfl) (de_callG c__law_pick gd rfl (hr.mono (by omega)) rfl tk (da_cons (de_var 2) (da_cons (de_lst (da_cons de_non (da_cons de_int (da_cons (de_lst da_nil) (da_cons (de_tup da_nil) (da_cons de_bl (da_cons (de_lst (da_cons (de_var 5) da_nil)) da_nil))))))) da_nil)) rfl (la_cons (la_cons la_nil))))
(dss_one (ds_ret (de_callG c__law_like gd rfl (hr.mono (by omega)) rfl tk (da_cons (de_lam (k := 28) TB rfl mT rfl gd (hr.mono (by omega)) (by rfl) tk (c__law_safe_told.mono (by omega)) (show LamX.LamS (defScope s__law_right) _ from LamX.lamS_by (by decide +kernel)) (by rfl) (fun _ _ _ _ _ => rfl) (fun A1 outer s2 H2 E f d gd hr tk =>
(de_callG c_read_board gd rfl (hr.mono (by omega)) rfl tk (da_cons (de_var 9) da_nil) rfl (la_cons la_nil)))) (da_cons (de_lst (da_cons de_str (da_cons de_int da_nil))) da_nil)) rfl (la_cons (la_cons la_nil)))))))))))))

abbrev s_law : Stmt := top 57
theorem sc_law : FnScope ["_law_script", "_law_k", "_law_cell"] ["_law_script"] (defScope s_law) := ⟨rfl, rfl, rfl, by decide +kernel, rfl, by decide +kernel, by decide +kernel⟩
theorem ok_law {f : Addr} {fd : FuncData} (F : Fun K "law" "law" s_law f fd) (T : Txt K mg ca ce Ts w) (c__law_is_wide : DefG ⟨K, ca, ce, Ts⟩ P w mg base 29 "_law_is_wide" 0 d__law_is_wide) (c__law_right : DefG ⟨K, ca, ce, Ts⟩ P w mg base 31 "_law_right" 2 d__law_right) : FnG P w K mg base (L2.CX P w) 32 f fd ["_law_script"] (spD ⟨K, ca, ce, Ts⟩ 1 d_law) :=
fnG (G := ⟨K, ca, ce, Ts⟩) (N := ["_law_script", "_law_k", "_law_cell"]) .pure F sc_law fun cdv A outer s H E hr tk po gd =>
(dss_cons (ds_if (dt_not (dt_val (de_callG0 c__law_is_wide gd rfl (hr.mono (by omega)) rfl tk)))
(dss_one (ds_ret de_bl))
dss_nil)
(dss_cons (ds_for po rfl (di_enumX rfl rfl T.b_enumerate (da_cons (de_slice rfl (de_op (do_add rfl) (de_var 0) (de_lst (da_cons de_int da_nil))) do_none (do_some (de_callB (dc_max2 rfl) rfl T.b_max (by decide +kernel) (da_cons de_int (da_cons (de_callB (dc_min2 rfl) rfl T.b_min (by decide +kernel) (da_cons de_int (da_cons (de_callB (dc_lenX rfl) rfl T.b_len (by decide +kernel) (da_cons (de_var 0) da_nil)) da_nil))) da_nil))))) da_nil)) (dg_tup rfl rfl (dgs_cons (dg_name sc_law.nd rfl (by first | exact Or.inl rfl | exact Or.inr rfl)) (dgs_cons (dg_name sc_law.nd rfl (by first | exact Or.inl rfl | exact Or.inr rfl)) dgs_nil)) (blen_cons (blen_cons blen_nil)))
(dss_one (ds_if (dt_not (dt_val (de_callG c__law_right gd rfl (hr.mono (by omega)) rfl tk (da_cons (de_var 2) (da_cons (de_var 1) da_nil)) rfl (la_cons (la_cons la_nil)))))
(dss_one (ds_ret de_bl))
dss_nil)))
(dss_one (ds_ret de_bl))))
end
end DX.K77
end
section
namespace DX.K77
open PySem L2 DX 
open DL hiding g__law_changed_text d__law_changed_text g__law_thing_b1 g__law_thing_e1 g__law_thing d__law_thing_n d__law_thing g__law_deep_thing_b1 g__law_deep_thing d__law_deep_thing g__law_read_number_c1 g__law_read_number_b1 g__law_read_number d__law_read_number g__law_read_word_c1 g__law_read_word_b1 g__law_read_word d__law_read_word g__law_text_e1 g__law_text d__law_text_n d__law_text g_number_from_c1 g_number_from_b1 g_number_from d_number_from g_text_from_c1 g_text_from_b1 g_text_from d_text_from g_thing_text d_thing_text_n d_thing_text
theorem all_mk {l : PySem.W.OpenLaw} {q0 : Program} {w : World} {K : PySem.W.Frag} {h : Heap} {mg : Str → Option Value} (X : K.In h) (G : h.Ns mainGlobals mg) {fa f1 f2 f3 f4 f5 f6 f7 f8 f9 f10 f11 f12 f13 f14 f15 f16 f17 f18 f19 f20 f21 f22 f23 f24 f25 f26 f27 f28 f29 cc29 TP29 f30 X_NoBits X_NoChain X_NoCode X_NoCount X_NoDay X_NoLetter X_NoLot X_NoMark X_NoName X_NoPhase X_NoPlace X_NoRace X_NoRow X_NoRuling X_NoStub X_NoText X_NoTime X_NoWay X_NotThere X_NotWhole X_Twice X_VoteError fXNoText : Addr} {od1 an1 od2 an2 od3 an3 od4 an4 od5 an5 od6 an6 od7 an7 od8 an8 od9 an9 od10 an10 od11 an11 od12 an12 od13 an13 od14 an14 od15 an15 od16 an16 od17 an17 od18 an18 od19 an19 od20 an20 od21 an21 od22 an22 od23 an23 od24 an24 od25 an25 od26 an26 od27 an27 od28 an28 od29 an29 cD29 od30 an30 odXNoText anXNoText : Option Addr} {sl1 sl2 sl3 sl4 sl5 sl6 sl7 sl8 sl9 sl10 sl11 sl12 sl13 sl14 sl15 sl16 sl17 sl18 sl19 sl20 sl21 sl22 sl23 sl24 sl25 sl26 sl27 sl28 sl29 cS29 sl30 slXNoText : Array (Option Value)} {oc1 dc1 pm1 cd1 ct1 kV1 oc2 dc2 pm2 cd2 ct2 kV2 oc3 dc3 pm3 cd3 ct3 kV3 oc4 dc4 pm4 cd4 ct4 kV4 oc5 dc5 pm5 cd5 ct5 kV5 oc6 dc6 pm6 cd6 ct6 kV6 oc7 dc7 pm7 cd7 ct7 kV7 oc8 dc8 pm8 cd8 ct8 kV8 oc9 dc9 pm9 cd9 ct9 kV9 oc10 dc10 pm10 cd10 ct10 kV10 oc11 dc11 pm11 cd11 ct11 kV11 oc12 dc12 pm12 cd12 ct12 kV12 oc13 dc13 pm13 cd13 ct13 kV13 oc14 dc14 pm14 cd14 ct14 kV14 oc15 dc15 pm15 cd15 ct15 kV15 oc16 dc16 pm16 cd16 ct16 kV16 oc17 dc17 pm17 cd17 ct17 kV17 oc18 dc18 pm18 cd18 ct18 kV18 oc19 dc19 pm19 cd19 ct19 kV19 oc20 dc20 pm20 cd20 ct20 kV20 oc21 dc21 pm21 cd21 ct21 kV21 oc22 dc22 pm22 cd22 ct22 kV22 oc23 dc23 pm23 cd23 ct23 kV23 oc24 dc24 pm24 cd24 ct24 kV24 oc25 dc25 pm25 cd25 ct25 kV25 oc26 dc26 pm26 cd26 ct26 kV26 oc27 dc27 pm27 cd27 ct27 kV27 oc28 dc28 pm28 cd28 ct28 kV28 oc29 dc29 pm29 ct29 kV29 oc30 dc30 pm30 cd30 ct30 kV30 ocXNoText dcXNoText pmXNoText cdXNoText ctXNoText kVXNoText : Value} {cV29 : Array Value} {cF29 : Str} {cT29 cU29 cY29 t_DEEPEST t_FIGURES t_MOST_FIGURES : Tok} {cG29 cX29 : Int} {cB29 : Bool} (hfa : mg "law" = some (.ref fa)) (own : ∀ y : Str, ((PyProof.Rows.recsOf q0).any fun e => e.name == y) = true → L2.TabAt K mg h y)
    (a1 : PySem.W.nsIn K mainGlobals "_law_like" = some (some (.ref f1)))
    (l1 : K.lookup f1 = some ⟨oc1, od1, .func (PySem.W.fnOf "_law_like" "_law_like" (defArgs s__law_like) (defBody s__law_like) (defScope s__law_like) .none kV1 dc1 pm1 an1 cd1 ct1), sl1⟩)
    (c1 : PySem.W.codeIn K cd1 "_law_like" = true)
    (k1 : PySem.W.keepIn K (.ref f1) = true)
    (a2 : PySem.W.nsIn K mainGlobals "thing_text" = some (some (.ref f2)))
    (l2 : K.lookup f2 = some ⟨oc2, od2, .func (PySem.W.fnOf "thing_text" "thing_text" (defArgs s_thing_text) (defBody s_thing_text) (defScope s_thing_text) .none kV2 dc2 pm2 an2 cd2 ct2), sl2⟩)
    (c2 : PySem.W.codeIn K cd2 "thing_text" = true)
    (k2 : PySem.W.keepIn K (.ref f2) = true)
    (a3 : PySem.W.nsIn K mainGlobals "board_text" = some (some (.ref f3)))
    (l3 : K.lookup f3 = some ⟨oc3, od3, .func (PySem.W.fnOf "board_text" "board_text" (defArgs s_board_text) (defBody s_board_text) (defScope s_board_text) .none kV3 dc3 pm3 an3 cd3 ct3), sl3⟩)
    (c3 : PySem.W.codeIn K cd3 "board_text" = true)
    (k3 : PySem.W.keepIn K (.ref f3) = true)
    (a4 : PySem.W.nsIn K mainGlobals "number_from" = some (some (.ref f4)))
    (l4 : K.lookup f4 = some ⟨oc4, od4, .func (PySem.W.fnOf "number_from" "number_from" (defArgs s_number_from) (defBody s_number_from) (defScope s_number_from) .none kV4 dc4 pm4 an4 cd4 ct4), sl4⟩)
    (c4 : PySem.W.codeIn K cd4 "number_from" = true)
    (k4 : PySem.W.keepIn K (.ref f4) = true)
    (a5 : PySem.W.nsIn K mainGlobals "text_from" = some (some (.ref f5)))
    (l5 : K.lookup f5 = some ⟨oc5, od5, .func (PySem.W.fnOf "text_from" "text_from" (defArgs s_text_from) (defBody s_text_from) (defScope s_text_from) .none kV5 dc5 pm5 an5 cd5 ct5), sl5⟩)
    (c5 : PySem.W.codeIn K cd5 "text_from" = true)
    (k5 : PySem.W.keepIn K (.ref f5) = true)
    (a6 : PySem.W.nsIn K mainGlobals "tuple_from" = some (some (.ref f6)))
    (l6 : K.lookup f6 = some ⟨oc6, od6, .func (PySem.W.fnOf "tuple_from" "tuple_from" (defArgs s_tuple_from) (defBody s_tuple_from) (defScope s_tuple_from) .none kV6 dc6 pm6 an6 cd6 ct6), sl6⟩)
    (c6 : PySem.W.codeIn K cd6 "tuple_from" = true)
    (k6 : PySem.W.keepIn K (.ref f6) = true)
    (a7 : PySem.W.nsIn K mainGlobals "thing_from" = some (some (.ref f7)))
    (l7 : K.lookup f7 = some ⟨oc7, od7, .func (PySem.W.fnOf "thing_from" "thing_from" (defArgs s_thing_from) (defBody s_thing_from) (defScope s_thing_from) .none kV7 dc7 pm7 an7 cd7 ct7), sl7⟩)
    (c7 : PySem.W.codeIn K cd7 "thing_from" = true)
    (k7 : PySem.W.keepIn K (.ref f7) = true)
    (a8 : PySem.W.nsIn K mainGlobals "read_whole" = some (some (.ref f8)))
    (l8 : K.lookup f8 = some ⟨oc8, od8, .func (PySem.W.fnOf "read_whole" "read_whole" (defArgs s_read_whole) (defBody s_read_whole) (defScope s_read_whole) .none kV8 dc8 pm8 an8 cd8 ct8), sl8⟩)
    (c8 : PySem.W.codeIn K cd8 "read_whole" = true)
    (k8 : PySem.W.keepIn K (.ref f8) = true)
    (a9 : PySem.W.nsIn K mainGlobals "read_board" = some (some (.ref f9)))
    (l9 : K.lookup f9 = some ⟨oc9, od9, .func (PySem.W.fnOf "read_board" "read_board" (defArgs s_read_board) (defBody s_read_board) (defScope s_read_board) .none kV9 dc9 pm9 an9 cd9 ct9), sl9⟩)
    (c9 : PySem.W.codeIn K cd9 "read_board" = true)
    (k9 : PySem.W.keepIn K (.ref f9) = true)
    (a10 : PySem.W.nsIn K mainGlobals "_law_text" = some (some (.ref f10)))
    (l10 : K.lookup f10 = some ⟨oc10, od10, .func (PySem.W.fnOf "_law_text" "_law_text" (defArgs s__law_text) (defBody s__law_text) (defScope s__law_text) .none kV10 dc10 pm10 an10 cd10 ct10), sl10⟩)
    (c10 : PySem.W.codeIn K cd10 "_law_text" = true)
    (k10 : PySem.W.keepIn K (.ref f10) = true)
    (a11 : PySem.W.nsIn K mainGlobals "_law_is_wide" = some (some (.ref f11)))
    (l11 : K.lookup f11 = some ⟨oc11, od11, .func (PySem.W.fnOf "_law_is_wide" "_law_is_wide" (defArgs s__law_is_wide) (defBody s__law_is_wide) (defScope s__law_is_wide) .none kV11 dc11 pm11 an11 cd11 ct11), sl11⟩)
    (c11 : PySem.W.codeIn K cd11 "_law_is_wide" = true)
    (k11 : PySem.W.keepIn K (.ref f11) = true)
    (a12 : PySem.W.nsIn K mainGlobals "_law_begun" = some (some (.ref f12)))
    (l12 : K.lookup f12 = some ⟨oc12, od12, .func (PySem.W.fnOf "_law_begun" "_law_begun" (defArgs s__law_begun) (defBody s__law_begun) (defScope s__law_begun) .none kV12 dc12 pm12 an12 cd12 ct12), sl12⟩)
    (c12 : PySem.W.codeIn K cd12 "_law_begun" = true)
    (k12 : PySem.W.keepIn K (.ref f12) = true)
    (a13 : PySem.W.nsIn K mainGlobals "_law_next" = some (some (.ref f13)))
    (l13 : K.lookup f13 = some ⟨oc13, od13, .func (PySem.W.fnOf "_law_next" "_law_next" (defArgs s__law_next) (defBody s__law_next) (defScope s__law_next) .none kV13 dc13 pm13 an13 cd13 ct13), sl13⟩)
    (c13 : PySem.W.codeIn K cd13 "_law_next" = true)
    (k13 : PySem.W.keepIn K (.ref f13) = true)
    (a14 : PySem.W.nsIn K mainGlobals "_law_pick" = some (some (.ref f14)))
    (l14 : K.lookup f14 = some ⟨oc14, od14, .func (PySem.W.fnOf "_law_pick" "_law_pick" (defArgs s__law_pick) (defBody s__law_pick) (defScope s__law_pick) .none kV14 dc14 pm14 an14 cd14 ct14), sl14⟩)
    (c14 : PySem.W.codeIn K cd14 "_law_pick" = true)
    (k14 : PySem.W.keepIn K (.ref f14) = true)
    (a15 : PySem.W.nsIn K mainGlobals "_law_any_sign" = some (some (.ref f15)))
    (l15 : K.lookup f15 = some ⟨oc15, od15, .func (PySem.W.fnOf "_law_any_sign" "_law_any_sign" (defArgs s__law_any_sign) (defBody s__law_any_sign) (defScope s__law_any_sign) .none kV15 dc15 pm15 an15 cd15 ct15), sl15⟩)
    (c15 : PySem.W.codeIn K cd15 "_law_any_sign" = true)
    (k15 : PySem.W.keepIn K (.ref f15) = true)
    (a16 : PySem.W.nsIn K mainGlobals "_law_changed_text" = some (some (.ref f16)))
    (l16 : K.lookup f16 = some ⟨oc16, od16, .func (PySem.W.fnOf "_law_changed_text" "_law_changed_text" (defArgs s__law_changed_text) (defBody s__law_changed_text) (defScope s__law_changed_text) .none kV16 dc16 pm16 an16 cd16 ct16), sl16⟩)
    (c16 : PySem.W.codeIn K cd16 "_law_changed_text" = true)
    (k16 : PySem.W.keepIn K (.ref f16) = true)
    (a17 : PySem.W.nsIn K mainGlobals "_law_changed_rows" = some (some (.ref f17)))
    (l17 : K.lookup f17 = some ⟨oc17, od17, .func (PySem.W.fnOf "_law_changed_rows" "_law_changed_rows" (defArgs s__law_changed_rows) (defBody s__law_changed_rows) (defScope s__law_changed_rows) .none kV17 dc17 pm17 an17 cd17 ct17), sl17⟩)
    (c17 : PySem.W.codeIn K cd17 "_law_changed_rows" = true)
    (k17 : PySem.W.keepIn K (.ref f17) = true)
    (a18 : PySem.W.nsIn K mainGlobals "_law_alone" = some (some (.ref f18)))
    (l18 : K.lookup f18 = some ⟨oc18, od18, .func (PySem.W.fnOf "_law_alone" "_law_alone" (defArgs s__law_alone) (defBody s__law_alone) (defScope s__law_alone) .none kV18 dc18 pm18 an18 cd18 ct18), sl18⟩)
    (c18 : PySem.W.codeIn K cd18 "_law_alone" = true)
    (k18 : PySem.W.keepIn K (.ref f18) = true)
    (a19 : PySem.W.nsIn K mainGlobals "_law_refusal" = some (some (.ref f19)))
    (l19 : K.lookup f19 = some ⟨oc19, od19, .func (PySem.W.fnOf "_law_refusal" "_law_refusal" (defArgs s__law_refusal) (defBody s__law_refusal) (defScope s__law_refusal) .none kV19 dc19 pm19 an19 cd19 ct19), sl19⟩)
    (c19 : PySem.W.codeIn K cd19 "_law_refusal" = true)
    (k19 : PySem.W.keepIn K (.ref f19) = true)
    (a20 : PySem.W.nsIn K mainGlobals "_law_safe_told" = some (some (.ref f20)))
    (l20 : K.lookup f20 = some ⟨oc20, od20, .func (PySem.W.fnOf "_law_safe_told" "_law_safe_told" (defArgs s__law_safe_told) (defBody s__law_safe_told) (defScope s__law_safe_told) .none kV20 dc20 pm20 an20 cd20 ct20), sl20⟩)
    (c20 : PySem.W.codeIn K cd20 "_law_safe_told" = true)
    (k20 : PySem.W.keepIn K (.ref f20) = true)
    (a21 : PySem.W.nsIn K mainGlobals "_law_ten" = some (some (.ref f21)))
    (l21 : K.lookup f21 = some ⟨oc21, od21, .func (PySem.W.fnOf "_law_ten" "_law_ten" (defArgs s__law_ten) (defBody s__law_ten) (defScope s__law_ten) .none kV21 dc21 pm21 an21 cd21 ct21), sl21⟩)
    (c21 : PySem.W.codeIn K cd21 "_law_ten" = true)
    (k21 : PySem.W.keepIn K (.ref f21) = true)
    (a22 : PySem.W.nsIn K mainGlobals "_law_thing" = some (some (.ref f22)))
    (l22 : K.lookup f22 = some ⟨oc22, od22, .func (PySem.W.fnOf "_law_thing" "_law_thing" (defArgs s__law_thing) (defBody s__law_thing) (defScope s__law_thing) .none kV22 dc22 pm22 an22 cd22 ct22), sl22⟩)
    (c22 : PySem.W.codeIn K cd22 "_law_thing" = true)
    (k22 : PySem.W.keepIn K (.ref f22) = true)
    (a23 : PySem.W.nsIn K mainGlobals "_law_read_word" = some (some (.ref f23)))
    (l23 : K.lookup f23 = some ⟨oc23, od23, .func (PySem.W.fnOf "_law_read_word" "_law_read_word" (defArgs s__law_read_word) (defBody s__law_read_word) (defScope s__law_read_word) .none kV23 dc23 pm23 an23 cd23 ct23), sl23⟩)
    (c23 : PySem.W.codeIn K cd23 "_law_read_word" = true)
    (k23 : PySem.W.keepIn K (.ref f23) = true)
    (a24 : PySem.W.nsIn K mainGlobals "_law_read_number" = some (some (.ref f24)))
    (l24 : K.lookup f24 = some ⟨oc24, od24, .func (PySem.W.fnOf "_law_read_number" "_law_read_number" (defArgs s__law_read_number) (defBody s__law_read_number) (defScope s__law_read_number) .none kV24 dc24 pm24 an24 cd24 ct24), sl24⟩)
    (c24 : PySem.W.codeIn K cd24 "_law_read_number" = true)
    (k24 : PySem.W.keepIn K (.ref f24) = true)
    (a25 : PySem.W.nsIn K mainGlobals "_law_read_tuple" = some (some (.ref f25)))
    (l25 : K.lookup f25 = some ⟨oc25, od25, .func (PySem.W.fnOf "_law_read_tuple" "_law_read_tuple" (defArgs s__law_read_tuple) (defBody s__law_read_tuple) (defScope s__law_read_tuple) .none kV25 dc25 pm25 an25 cd25 ct25), sl25⟩)
    (c25 : PySem.W.codeIn K cd25 "_law_read_tuple" = true)
    (k25 : PySem.W.keepIn K (.ref f25) = true)
    (a26 : PySem.W.nsIn K mainGlobals "_law_read_thing" = some (some (.ref f26)))
    (l26 : K.lookup f26 = some ⟨oc26, od26, .func (PySem.W.fnOf "_law_read_thing" "_law_read_thing" (defArgs s__law_read_thing) (defBody s__law_read_thing) (defScope s__law_read_thing) .none kV26 dc26 pm26 an26 cd26 ct26), sl26⟩)
    (c26 : PySem.W.codeIn K cd26 "_law_read_thing" = true)
    (k26 : PySem.W.keepIn K (.ref f26) = true)
    (a27 : PySem.W.nsIn K mainGlobals "_law_told_of" = some (some (.ref f27)))
    (l27 : K.lookup f27 = some ⟨oc27, od27, .func (PySem.W.fnOf "_law_told_of" "_law_told_of" (defArgs s__law_told_of) (defBody s__law_told_of) (defScope s__law_told_of) .none kV27 dc27 pm27 an27 cd27 ct27), sl27⟩)
    (c27 : PySem.W.codeIn K cd27 "_law_told_of" = true)
    (k27 : PySem.W.keepIn K (.ref f27) = true)
    (a28 : PySem.W.nsIn K mainGlobals "_law_due" = some (some (.ref f28)))
    (l28 : K.lookup f28 = some ⟨oc28, od28, .func (PySem.W.fnOf "_law_due" "_law_due" (defArgs s__law_due) (defBody s__law_due) (defScope s__law_due) .none kV28 dc28 pm28 an28 cd28 ct28), sl28⟩)
    (c28 : PySem.W.codeIn K cd28 "_law_due" = true)
    (k28 : PySem.W.keepIn K (.ref f28) = true)
    (a29 : PySem.W.nsIn K mainGlobals "_law_right" = some (some (.ref f29)))
    (l29 : K.lookup f29 = some ⟨oc29, od29, .func (PySem.W.fnOf "_law_right" "_law_right" (defArgs s__law_right) (defBody s__law_right) (defScope s__law_right) .none kV29 dc29 pm29 an29 (.ref cc29) ct29), sl29⟩)
    (tl29 : K.lookup cc29 = some ⟨.type "code", cD29, .fields cV29, cS29⟩)
    (tp29 : cV29[11]? = some (.ref TP29))
    (tq29 : cV29.getD 11 .none = .ref TP29)
    (ts29 : cV29.getD 18 .none = .str cF29 cT29)
    (tg29 : cV29.getD 7 .none = .int cG29 cU29)
    (tb29 : cV29.getD 9 .none = .bool cB29)
    (tx29 : cV29.getD 10 .none = .int cX29 cY29)
    (te29 : cc29 ≠ TP29)
    (tk29 : K.lookup TP29 = none)
    (c29 : PySem.W.codeIn K (.ref cc29) "_law_right" = true)
    (k29 : PySem.W.keepIn K (.ref f29) = true)
    (a30 : PySem.W.nsIn K mainGlobals "law" = some (some (.ref f30)))
    (l30 : K.lookup f30 = some ⟨oc30, od30, .func (PySem.W.fnOf "law" "law" (defArgs s_law) (defBody s_law) (defScope s_law) .none kV30 dc30 pm30 an30 cd30 ct30), sl30⟩)
    (c30 : PySem.W.codeIn K cd30 "law" = true)
    (k30 : PySem.W.keepIn K (.ref f30) = true)
    (AX_NoBits : PySem.W.nsIn K mainGlobals "NoBits" = some (some (.ref X_NoBits)))
    (AX_NoChain : PySem.W.nsIn K mainGlobals "NoChain" = some (some (.ref X_NoChain)))
    (AX_NoCode : PySem.W.nsIn K mainGlobals "NoCode" = some (some (.ref X_NoCode)))
    (AX_NoCount : PySem.W.nsIn K mainGlobals "NoCount" = some (some (.ref X_NoCount)))
    (AX_NoDay : PySem.W.nsIn K mainGlobals "NoDay" = some (some (.ref X_NoDay)))
    (AX_NoLetter : PySem.W.nsIn K mainGlobals "NoLetter" = some (some (.ref X_NoLetter)))
    (AX_NoLot : PySem.W.nsIn K mainGlobals "NoLot" = some (some (.ref X_NoLot)))
    (AX_NoMark : PySem.W.nsIn K mainGlobals "NoMark" = some (some (.ref X_NoMark)))
    (AX_NoName : PySem.W.nsIn K mainGlobals "NoName" = some (some (.ref X_NoName)))
    (AX_NoPhase : PySem.W.nsIn K mainGlobals "NoPhase" = some (some (.ref X_NoPhase)))
    (AX_NoPlace : PySem.W.nsIn K mainGlobals "NoPlace" = some (some (.ref X_NoPlace)))
    (AX_NoRace : PySem.W.nsIn K mainGlobals "NoRace" = some (some (.ref X_NoRace)))
    (AX_NoRow : PySem.W.nsIn K mainGlobals "NoRow" = some (some (.ref X_NoRow)))
    (AX_NoRuling : PySem.W.nsIn K mainGlobals "NoRuling" = some (some (.ref X_NoRuling)))
    (AX_NoStub : PySem.W.nsIn K mainGlobals "NoStub" = some (some (.ref X_NoStub)))
    (AX_NoText : PySem.W.nsIn K mainGlobals "NoText" = some (some (.ref X_NoText)))
    (AX_NoTime : PySem.W.nsIn K mainGlobals "NoTime" = some (some (.ref X_NoTime)))
    (AX_NoWay : PySem.W.nsIn K mainGlobals "NoWay" = some (some (.ref X_NoWay)))
    (AX_NotThere : PySem.W.nsIn K mainGlobals "NotThere" = some (some (.ref X_NotThere)))
    (AX_NotWhole : PySem.W.nsIn K mainGlobals "NotWhole" = some (some (.ref X_NotWhole)))
    (AX_Twice : PySem.W.nsIn K mainGlobals "Twice" = some (some (.ref X_Twice)))
    (AX_VoteError : PySem.W.nsIn K mainGlobals "VoteError" = some (some (.ref X_VoteError)))
    (xk_NoText : PySem.W.keepIn K (.ref X_NoText) = true)
    (xs_NoText : PySem.W.subIn K (.ref X_NoText) (.type "BaseException") = some true)
    (xt_NoText : PySem.W.typeIn K (.ref X_NoText) = some (.type "type"))
    (xm_NoText_VoteError : PySem.W.mroIn K X_NoText (.ref X_VoteError) = some ((fun _ => true) "NoText"))
    (xn_NoText_NoBits : PySem.W.mroIn K X_NoText (.ref X_NoBits) = some ((fun c => decide (c = "NoBits")) "NoText"))
    (xn_NoText_NoChain : PySem.W.mroIn K X_NoText (.ref X_NoChain) = some ((fun c => decide (c = "NoChain")) "NoText"))
    (xn_NoText_NoCode : PySem.W.mroIn K X_NoText (.ref X_NoCode) = some ((fun c => decide (c = "NoCode")) "NoText"))
    (xn_NoText_NoCount : PySem.W.mroIn K X_NoText (.ref X_NoCount) = some ((fun c => decide (c = "NoCount")) "NoText"))
    (xn_NoText_NoDay : PySem.W.mroIn K X_NoText (.ref X_NoDay) = some ((fun c => decide (c = "NoDay")) "NoText"))
    (xn_NoText_NoLetter : PySem.W.mroIn K X_NoText (.ref X_NoLetter) = some ((fun c => decide (c = "NoLetter")) "NoText"))
    (xn_NoText_NoLot : PySem.W.mroIn K X_NoText (.ref X_NoLot) = some ((fun c => decide (c = "NoLot")) "NoText"))
    (xn_NoText_NoMark : PySem.W.mroIn K X_NoText (.ref X_NoMark) = some ((fun c => decide (c = "NoMark")) "NoText"))
    (xn_NoText_NoName : PySem.W.mroIn K X_NoText (.ref X_NoName) = some ((fun c => decide (c = "NoName")) "NoText"))
    (xn_NoText_NoPhase : PySem.W.mroIn K X_NoText (.ref X_NoPhase) = some ((fun c => decide (c = "NoPhase")) "NoText"))
    (xn_NoText_NoPlace : PySem.W.mroIn K X_NoText (.ref X_NoPlace) = some ((fun c => decide (c = "NoPlace")) "NoText"))
    (xn_NoText_NoRace : PySem.W.mroIn K X_NoText (.ref X_NoRace) = some ((fun c => decide (c = "NoRace")) "NoText"))
    (xn_NoText_NoRow : PySem.W.mroIn K X_NoText (.ref X_NoRow) = some ((fun c => decide (c = "NoRow")) "NoText"))
    (xn_NoText_NoRuling : PySem.W.mroIn K X_NoText (.ref X_NoRuling) = some ((fun c => decide (c = "NoRuling")) "NoText"))
    (xn_NoText_NoStub : PySem.W.mroIn K X_NoText (.ref X_NoStub) = some ((fun c => decide (c = "NoStub")) "NoText"))
    (xn_NoText_NoText : PySem.W.mroIn K X_NoText (.ref X_NoText) = some ((fun c => decide (c = "NoText")) "NoText"))
    (xn_NoText_NoTime : PySem.W.mroIn K X_NoText (.ref X_NoTime) = some ((fun c => decide (c = "NoTime")) "NoText"))
    (xn_NoText_NoWay : PySem.W.mroIn K X_NoText (.ref X_NoWay) = some ((fun c => decide (c = "NoWay")) "NoText"))
    (xn_NoText_NotThere : PySem.W.mroIn K X_NoText (.ref X_NotThere) = some ((fun c => decide (c = "NotThere")) "NoText"))
    (xn_NoText_NotWhole : PySem.W.mroIn K X_NoText (.ref X_NotWhole) = some ((fun c => decide (c = "NotWhole")) "NoText"))
    (xn_NoText_Twice : PySem.W.mroIn K X_NoText (.ref X_Twice) = some ((fun c => decide (c = "Twice")) "NoText"))
    (xn_NoText_VoteError : PySem.W.mroIn K X_NoText (.ref X_VoteError) = some ((fun _ => true) "NoText"))
    (xn_NoText_f_at : PySem.W.findIn K (.ref X_NoText) "at" = some none)
    (xn_NoText_f_row : PySem.W.findIn K (.ref X_NoText) "row" = some none)
    (xn_NoText_f_thing : PySem.W.findIn K (.ref X_NoText) "thing" = some none)
    (xv_NoText : PySem.W.mroIn K X_NoText (.type "ValueError") = some true)
    (xg_NoText : PySem.W.findIn K (.ref X_NoText) "__getattribute__" = some (some (.builtin "BaseException.__getattribute__")))
    (xh_NoText : PySem.W.findIn K (.ref X_NoText) "__getattr__" = some none)
    (xp_NoText : PySem.W.hasDictIn K X_NoText = true)
    (xa_NoText : PySem.W.findIn K (.ref X_NoText) "__class__" = some (some (.builtin "object.__class__")))
    (xo_NoText : PySem.W.mroIn K X_NoText (.type "object") = some true)
    (xbs_VoteError : PySem.W.subIn K (.ref X_VoteError) (.type "BaseException") = some true)
    (xbd_VoteError : PySem.W.hasDictIn K X_VoteError = true)
    (xbt_VoteError : PySem.W.typeIn K (.ref X_VoteError) = some (.type "type"))
    (aXNoText : PySem.W.findIn K (.ref X_NoText) "__init__" = some (some (.ref fXNoText)))
    (iXNoText : PySem.W.typeIn K (.ref fXNoText) = some (.type "function"))
    (lXNoText : K.lookup fXNoText = some ⟨ocXNoText, odXNoText, .func (PySem.W.fnOf "__init__" "NoText.__init__" (defArgs s_NoText_init) (defBody s_NoText_init) (defScope s_NoText_init) .none kVXNoText dcXNoText pmXNoText anXNoText cdXNoText ctXNoText), slXNoText⟩)
    (cXNoText : PySem.W.codeIn K cdXNoText "NoText.__init__" = true)
    (kXNoText : PySem.W.keepIn K (.ref fXNoText) = true)
    (oXNoText : oexB K X_NoText = true)
    (sXNoText : PySem.W.findIn K (.ref X_NoText) "__setattr__" = some (some (.builtin "object.__setattr__")))
    (xq1 : PySem.W.specialIn K (.builtin "object.__class__") "__get__" = some (some (.builtin "getset_descriptor.__get__")))
    (xq2 : PySem.W.takesIn K (.builtin "object.__class__") = some true)
    (xc_NoBits : PySem.W.isClsIn K X_NoBits = true)
    (xy_NoBits : PySem.W.typeIn K (.ref X_NoBits) = some (.type "type"))
    (xz_NoBits : PySem.W.mroIn K X_NoBits (.ref X_NoBits) = some true)
    (xc_NoChain : PySem.W.isClsIn K X_NoChain = true)
    (xy_NoChain : PySem.W.typeIn K (.ref X_NoChain) = some (.type "type"))
    (xz_NoChain : PySem.W.mroIn K X_NoChain (.ref X_NoChain) = some true)
    (xc_NoCode : PySem.W.isClsIn K X_NoCode = true)
    (xy_NoCode : PySem.W.typeIn K (.ref X_NoCode) = some (.type "type"))
    (xz_NoCode : PySem.W.mroIn K X_NoCode (.ref X_NoCode) = some true)
    (xc_NoCount : PySem.W.isClsIn K X_NoCount = true)
    (xy_NoCount : PySem.W.typeIn K (.ref X_NoCount) = some (.type "type"))
    (xz_NoCount : PySem.W.mroIn K X_NoCount (.ref X_NoCount) = some true)
    (xc_NoDay : PySem.W.isClsIn K X_NoDay = true)
    (xy_NoDay : PySem.W.typeIn K (.ref X_NoDay) = some (.type "type"))
    (xz_NoDay : PySem.W.mroIn K X_NoDay (.ref X_NoDay) = some true)
    (xc_NoLetter : PySem.W.isClsIn K X_NoLetter = true)
    (xy_NoLetter : PySem.W.typeIn K (.ref X_NoLetter) = some (.type "type"))
    (xz_NoLetter : PySem.W.mroIn K X_NoLetter (.ref X_NoLetter) = some true)
    (xc_NoLot : PySem.W.isClsIn K X_NoLot = true)
    (xy_NoLot : PySem.W.typeIn K (.ref X_NoLot) = some (.type "type"))
    (xz_NoLot : PySem.W.mroIn K X_NoLot (.ref X_NoLot) = some true)
    (xc_NoMark : PySem.W.isClsIn K X_NoMark = true)
    (xy_NoMark : PySem.W.typeIn K (.ref X_NoMark) = some (.type "type"))
    (xz_NoMark : PySem.W.mroIn K X_NoMark (.ref X_NoMark) = some true)
    (xc_NoName : PySem.W.isClsIn K X_NoName = true)
    (xy_NoName : PySem.W.typeIn K (.ref X_NoName) = some (.type "type"))
    (xz_NoName : PySem.W.mroIn K X_NoName (.ref X_NoName) = some true)
    (xc_NoPhase : PySem.W.isClsIn K X_NoPhase = true)
    (xy_NoPhase : PySem.W.typeIn K (.ref X_NoPhase) = some (.type "type"))
    (xz_NoPhase : PySem.W.mroIn K X_NoPhase (.ref X_NoPhase) = some true)
    (xc_NoPlace : PySem.W.isClsIn K X_NoPlace = true)
    (xy_NoPlace : PySem.W.typeIn K (.ref X_NoPlace) = some (.type "type"))
    (xz_NoPlace : PySem.W.mroIn K X_NoPlace (.ref X_NoPlace) = some true)
    (xc_NoRace : PySem.W.isClsIn K X_NoRace = true)
    (xy_NoRace : PySem.W.typeIn K (.ref X_NoRace) = some (.type "type"))
    (xz_NoRace : PySem.W.mroIn K X_NoRace (.ref X_NoRace) = some true)
    (xc_NoRow : PySem.W.isClsIn K X_NoRow = true)
    (xy_NoRow : PySem.W.typeIn K (.ref X_NoRow) = some (.type "type"))
    (xz_NoRow : PySem.W.mroIn K X_NoRow (.ref X_NoRow) = some true)
    (xc_NoRuling : PySem.W.isClsIn K X_NoRuling = true)
    (xy_NoRuling : PySem.W.typeIn K (.ref X_NoRuling) = some (.type "type"))
    (xz_NoRuling : PySem.W.mroIn K X_NoRuling (.ref X_NoRuling) = some true)
    (xc_NoStub : PySem.W.isClsIn K X_NoStub = true)
    (xy_NoStub : PySem.W.typeIn K (.ref X_NoStub) = some (.type "type"))
    (xz_NoStub : PySem.W.mroIn K X_NoStub (.ref X_NoStub) = some true)
    (xc_NoText : PySem.W.isClsIn K X_NoText = true)
    (xy_NoText : PySem.W.typeIn K (.ref X_NoText) = some (.type "type"))
    (xz_NoText : PySem.W.mroIn K X_NoText (.ref X_NoText) = some true)
    (xc_NoTime : PySem.W.isClsIn K X_NoTime = true)
    (xy_NoTime : PySem.W.typeIn K (.ref X_NoTime) = some (.type "type"))
    (xz_NoTime : PySem.W.mroIn K X_NoTime (.ref X_NoTime) = some true)
    (xc_NoWay : PySem.W.isClsIn K X_NoWay = true)
    (xy_NoWay : PySem.W.typeIn K (.ref X_NoWay) = some (.type "type"))
    (xz_NoWay : PySem.W.mroIn K X_NoWay (.ref X_NoWay) = some true)
    (xc_NotThere : PySem.W.isClsIn K X_NotThere = true)
    (xy_NotThere : PySem.W.typeIn K (.ref X_NotThere) = some (.type "type"))
    (xz_NotThere : PySem.W.mroIn K X_NotThere (.ref X_NotThere) = some true)
    (xc_NotWhole : PySem.W.isClsIn K X_NotWhole = true)
    (xy_NotWhole : PySem.W.typeIn K (.ref X_NotWhole) = some (.type "type"))
    (xz_NotWhole : PySem.W.mroIn K X_NotWhole (.ref X_NotWhole) = some true)
    (xc_Twice : PySem.W.isClsIn K X_Twice = true)
    (xy_Twice : PySem.W.typeIn K (.ref X_Twice) = some (.type "type"))
    (xz_Twice : PySem.W.mroIn K X_Twice (.ref X_Twice) = some true)
    (xc_VoteError : PySem.W.isClsIn K X_VoteError = true)
    (xy_VoteError : PySem.W.typeIn K (.ref X_VoteError) = some (.type "type"))
    (xz_VoteError : PySem.W.mroIn K X_VoteError (.ref X_VoteError) = some true)
    (z_ValueError : PySem.W.nsIn K mainGlobals "ValueError" = some none)
    (z_bool : PySem.W.nsIn K mainGlobals "bool" = some none)
    (z_dict : PySem.W.nsIn K mainGlobals "dict" = some none)
    (z_enumerate : PySem.W.nsIn K mainGlobals "enumerate" = some none)
    (z_int : PySem.W.nsIn K mainGlobals "int" = some none)
    (z_isinstance : PySem.W.nsIn K mainGlobals "isinstance" = some none)
    (z_len : PySem.W.nsIn K mainGlobals "len" = some none)
    (z_list : PySem.W.nsIn K mainGlobals "list" = some none)
    (z_max : PySem.W.nsIn K mainGlobals "max" = some none)
    (z_min : PySem.W.nsIn K mainGlobals "min" = some none)
    (z_range : PySem.W.nsIn K mainGlobals "range" = some none)
    (z_str : PySem.W.nsIn K mainGlobals "str" = some none)
    (z_tuple : PySem.W.nsIn K mainGlobals "tuple" = some none)
    (y_DEEPEST : PySem.W.nsIn K mainGlobals "DEEPEST" = some (some (.int (8) t_DEEPEST)))
    (y_FIGURES : PySem.W.nsIn K mainGlobals "FIGURES" = some (some (.str "0123456789" t_FIGURES)))
    (y_MOST_FIGURES : PySem.W.nsIn K mainGlobals "MOST_FIGURES" = some (some (.int (400) t_MOST_FIGURES)))
    (hr29 : ((PyProof.Rows.recsOf q0).any fun e => e.name == ("_law_right" : Str)) = true) :
    L2.LawGT l w K (L2.CX l.prog w) 32 63 "_law_script" mg fa h := by
  have e := hfa.symm.trans (PySem.W.mg_of X G a30)
  cases e
  letI nmI : DL.Nm := DL.nmOf [(TP29, ((PyProof.Rows.envOfC "_law_right" (defScope s__law_right) 0 0 .none).qual ++ ("<lambda>" : Str)))]
  let GG : Glb := ⟨K, fun c => List.lookup c ([] : List (Str × Addr)), fun c => List.lookup c ([("NoText", X_NoText)] : List (Str × Addr)), [(TP29, ((PyProof.Rows.envOfC "_law_right" (defScope s__law_right) 0 0 .none).qual ++ ("<lambda>" : Str)))]⟩
  have T : Txt K mg GG.ca GG.ce GG.T w := ⟨ca_all mem_nil,
    PySem.W.mg_none_of X G z_ValueError,
    PySem.W.mg_none_of X G z_bool,
    PySem.W.mg_none_of X G z_dict,
    PySem.W.mg_none_of X G z_enumerate,
    PySem.W.mg_none_of X G z_int,
    PySem.W.mg_none_of X G z_isinstance,
    PySem.W.mg_none_of X G z_len,
    PySem.W.mg_none_of X G z_list,
    PySem.W.mg_none_of X G z_max,
    PySem.W.mg_none_of X G z_min,
    PySem.W.mg_none_of X G z_range,
    PySem.W.mg_none_of X G z_str,
    PySem.W.mg_none_of X G z_tuple,
    ⟨_, PySem.W.mg_of X G y_DEEPEST⟩,
    ⟨_, PySem.W.mg_of X G y_FIGURES⟩,
    ⟨_, PySem.W.mg_of X G y_MOST_FIGURES⟩,
    isT_b .bool (by decide) (ca_all mem_nil),
    isT_b .dict (by decide) (ca_all mem_nil),
    isT_b .int (by decide) (ca_all mem_nil),
    isT_b .list (by decide) (ca_all mem_nil),
    isT_b .str (by decide) (ca_all mem_nil),
    isT_b .tuple (by decide) (ca_all mem_nil),
    ⟨_, PySem.W.mg_of X G AX_VoteError, ca_all (mem_con (PySem.W.exm_ref xbs_VoteError xbd_VoteError xbt_VoteError xm_NoText_VoteError) mem_nil)⟩,
    ⟨_, PySem.W.mg_of X G AX_NoBits, isT_x xc_NoBits xy_NoBits xz_NoBits (ca_all mem_nil) (ca_all (mem_con xn_NoText_NoBits mem_nil))⟩,
    ⟨_, PySem.W.mg_of X G AX_NoChain, isT_x xc_NoChain xy_NoChain xz_NoChain (ca_all mem_nil) (ca_all (mem_con xn_NoText_NoChain mem_nil))⟩,
    ⟨_, PySem.W.mg_of X G AX_NoCode, isT_x xc_NoCode xy_NoCode xz_NoCode (ca_all mem_nil) (ca_all (mem_con xn_NoText_NoCode mem_nil))⟩,
    ⟨_, PySem.W.mg_of X G AX_NoCount, isT_x xc_NoCount xy_NoCount xz_NoCount (ca_all mem_nil) (ca_all (mem_con xn_NoText_NoCount mem_nil))⟩,
    ⟨_, PySem.W.mg_of X G AX_NoDay, isT_x xc_NoDay xy_NoDay xz_NoDay (ca_all mem_nil) (ca_all (mem_con xn_NoText_NoDay mem_nil))⟩,
    ⟨_, PySem.W.mg_of X G AX_NoLetter, isT_x xc_NoLetter xy_NoLetter xz_NoLetter (ca_all mem_nil) (ca_all (mem_con xn_NoText_NoLetter mem_nil))⟩,
    ⟨_, PySem.W.mg_of X G AX_NoLot, isT_x xc_NoLot xy_NoLot xz_NoLot (ca_all mem_nil) (ca_all (mem_con xn_NoText_NoLot mem_nil))⟩,
    ⟨_, PySem.W.mg_of X G AX_NoMark, isT_x xc_NoMark xy_NoMark xz_NoMark (ca_all mem_nil) (ca_all (mem_con xn_NoText_NoMark mem_nil))⟩,
    ⟨_, PySem.W.mg_of X G AX_NoName, isT_x xc_NoName xy_NoName xz_NoName (ca_all mem_nil) (ca_all (mem_con xn_NoText_NoName mem_nil))⟩,
    ⟨_, PySem.W.mg_of X G AX_NoPhase, isT_x xc_NoPhase xy_NoPhase xz_NoPhase (ca_all mem_nil) (ca_all (mem_con xn_NoText_NoPhase mem_nil))⟩,
    ⟨_, PySem.W.mg_of X G AX_NoPlace, isT_x xc_NoPlace xy_NoPlace xz_NoPlace (ca_all mem_nil) (ca_all (mem_con xn_NoText_NoPlace mem_nil))⟩,
    ⟨_, PySem.W.mg_of X G AX_NoRace, isT_x xc_NoRace xy_NoRace xz_NoRace (ca_all mem_nil) (ca_all (mem_con xn_NoText_NoRace mem_nil))⟩,
    ⟨_, PySem.W.mg_of X G AX_NoRow, isT_x xc_NoRow xy_NoRow xz_NoRow (ca_all mem_nil) (ca_all (mem_con xn_NoText_NoRow mem_nil))⟩,
    ⟨_, PySem.W.mg_of X G AX_NoRuling, isT_x xc_NoRuling xy_NoRuling xz_NoRuling (ca_all mem_nil) (ca_all (mem_con xn_NoText_NoRuling mem_nil))⟩,
    ⟨_, PySem.W.mg_of X G AX_NoStub, isT_x xc_NoStub xy_NoStub xz_NoStub (ca_all mem_nil) (ca_all (mem_con xn_NoText_NoStub mem_nil))⟩,
    ⟨_, PySem.W.mg_of X G AX_NoText, isT_x xc_NoText xy_NoText xz_NoText (ca_all mem_nil) (ca_all (mem_con xn_NoText_NoText mem_nil))⟩,
    ⟨_, PySem.W.mg_of X G AX_NoTime, isT_x xc_NoTime xy_NoTime xz_NoTime (ca_all mem_nil) (ca_all (mem_con xn_NoText_NoTime mem_nil))⟩,
    ⟨_, PySem.W.mg_of X G AX_NoWay, isT_x xc_NoWay xy_NoWay xz_NoWay (ca_all mem_nil) (ca_all (mem_con xn_NoText_NoWay mem_nil))⟩,
    ⟨_, PySem.W.mg_of X G AX_NotThere, isT_x xc_NotThere xy_NotThere xz_NotThere (ca_all mem_nil) (ca_all (mem_con xn_NoText_NotThere mem_nil))⟩,
    ⟨_, PySem.W.mg_of X G AX_NotWhole, isT_x xc_NotWhole xy_NotWhole xz_NotWhole (ca_all mem_nil) (ca_all (mem_con xn_NoText_NotWhole mem_nil))⟩,
    ⟨_, PySem.W.mg_of X G AX_Twice, isT_x xc_Twice xy_Twice xz_Twice (ca_all mem_nil) (ca_all (mem_con xn_NoText_Twice mem_nil))⟩,
    ⟨_, PySem.W.mg_of X G AX_VoteError, isT_x xc_VoteError xy_VoteError xz_VoteError (ca_all mem_nil) (ca_all (mem_con xn_NoText_VoteError mem_nil))⟩,
    ca_all (mem_con (ExcD.mk xg_NoText xh_NoText xs_NoText xp_NoText xa_NoText xq1 xq2 xo_NoText) mem_nil),
    isT_VE (ca_all mem_nil) (ca_all (mem_con xv_NoText mem_nil)),
    ca_all (mem_con xn_NoText_f_at mem_nil),
    ca_all (mem_con xn_NoText_f_row mem_nil),
    ca_all (mem_con xn_NoText_f_thing mem_nil)⟩
  have F1 := fun_mk (st := s__law_like) l1 c1 k1
  have F2 := fun_mk (st := s_thing_text) l2 c2 k2
  have F3 := fun_mk (st := s_board_text) l3 c3 k3
  have F4 := fun_mk (st := s_number_from) l4 c4 k4
  have F5 := fun_mk (st := s_text_from) l5 c5 k5
  have F6 := fun_mk (st := s_tuple_from) l6 c6 k6
  have F7 := fun_mk (st := s_thing_from) l7 c7 k7
  have F8 := fun_mk (st := s_read_whole) l8 c8 k8
  have F9 := fun_mk (st := s_read_board) l9 c9 k9
  have F10 := fun_mk (st := s__law_text) l10 c10 k10
  have F11 := fun_mk (st := s__law_is_wide) l11 c11 k11
  have F12 := fun_mk (st := s__law_begun) l12 c12 k12
  have F13 := fun_mk (st := s__law_next) l13 c13 k13
  have F14 := fun_mk (st := s__law_pick) l14 c14 k14
  have F15 := fun_mk (st := s__law_any_sign) l15 c15 k15
  have F16 := fun_mk (st := s__law_changed_text) l16 c16 k16
  have F17 := fun_mk (st := s__law_changed_rows) l17 c17 k17
  have F18 := fun_mk (st := s__law_alone) l18 c18 k18
  have F19 := fun_mk (st := s__law_refusal) l19 c19 k19
  have F20 := fun_mk (st := s__law_safe_told) l20 c20 k20
  have F21 := fun_mk (st := s__law_ten) l21 c21 k21
  have F22 := fun_mk (st := s__law_thing) l22 c22 k22
  have F23 := fun_mk (st := s__law_read_word) l23 c23 k23
  have F24 := fun_mk (st := s__law_read_number) l24 c24 k24
  have F25 := fun_mk (st := s__law_read_tuple) l25 c25 k25
  have F26 := fun_mk (st := s__law_read_thing) l26 c26 k26
  have F27 := fun_mk (st := s__law_told_of) l27 c27 k27
  have F28 := fun_mk (st := s__law_due) l28 c28 k28
  have F29 := fun_mk (st := s__law_right) l29 c29 k29
  have F30 := fun_mk (st := s_law) l30 c30 k30
  have FXNoText := fun_mk (st := s_NoText_init) lXNoText cXNoText kXNoText
  have OXNoText : OexC K X_NoText := oexB_ok oXNoText sXNoText xs_NoText xt_NoText xk_NoText
  refine ⟨PySem.W.fnOf "law" "law" (defArgs s_law) (defBody s_law) (defScope s_law) .none kV30 dc30 pm30 an30 cd30 ct30, [(cc29, TP29)], spD GG 1 d_law, ?_, ?_, ?_, fun s v => .of_eq rfl, fun H a ns hl hH hS => law_sp (G := GG) hS (law_true ns hl) ?_, fun base _ _ tabs => ?_⟩
  · exact (mem_con (own "_law_right" hr29 f29 cc29 TP29 _ _ _ _ _ _ (PySem.W.mg_of X G a29) l29 rfl rfl tl29 tp29) mem_nil)
  · exact (mem_con tk29 mem_nil)
  · exact (mem_con ⟨_, cV29, cF29, cT29, cG29, cU29, cB29, cX29, cY29, X _ _ tl29, rfl, rfl, tp29, tq29, ts29, tg29, tb29, tx29, te29⟩ mem_nil)
  · exact (mem_con ⟨nm_head, hH (cc29, TP29) (by simp)⟩ mem_nil)
  have D_NoText__raise : ExcF GG l.prog w mg base 1 "NoText" "row" := ⟨⟨X_NoText, fXNoText, _, ["self", "row"], PySem.W.mg_of X G AX_NoText, rfl, OXNoText, aXNoText, iXNoText, init1_ok FXNoText sc_NoText_init rfl OXNoText xn_NoText_f_row (by first | exact Or.inl rfl | exact Or.inr (Or.inl rfl) | exact Or.inr (Or.inr rfl)) (by first | exact Or.inl rfl | exact Or.inr (Or.inl rfl) | exact Or.inr (Or.inr rfl)) (by decide) (by decide) 0, (FXNoText.binds (ps := ["self", "row"]) fun _ _ _ _ _ _ us hl => match us, hl with | [_, _], _ => rfl)⟩⟩
  have D__law_like : DefG GG l.prog w mg base 13 "_law_like" 2 d__law_like := ⟨⟨f1, _, _, ok__law_like (ca := GG.ca) (ce := GG.ce) (Ts := GG.T) F1 T (PySem.W.mg_of X G a1) k1 (F1.binds (ps := ["_law_found", "_law_due_here"]) fun _ _ _ _ _ _ us hl => match us, hl with | [_, _], _ => rfl)  12, PySem.W.mg_of X G a1, k1, (F1.binds (ps := ["_law_found", "_law_due_here"]) fun _ _ _ _ _ _ us hl => match us, hl with | [_, _], _ => rfl)⟩⟩
  have D_thing_text : DefG GG l.prog w mg base 13 "thing_text" 1 d_thing_text := ⟨⟨f2, _, _, ok_thing_text (ca := GG.ca) (ce := GG.ce) (Ts := GG.T) F2 T (PySem.W.mg_of X G a2) k2 (F2.binds (ps := ["thing"]) fun _ _ _ _ _ _ us hl => match us, hl with | [_], _ => rfl)  12, PySem.W.mg_of X G a2, k2, (F2.binds (ps := ["thing"]) fun _ _ _ _ _ _ us hl => match us, hl with | [_], _ => rfl)⟩⟩
  have D_board_text : DefG GG l.prog w mg base 14 "board_text" 1 d_board_text := ⟨⟨f3, _, _, (ok_board_text (ca := GG.ca) (ce := GG.ce) (Ts := GG.T) F3 T D_thing_text), PySem.W.mg_of X G a3, k3, (F3.binds (ps := ["board"]) fun _ _ _ _ _ _ us hl => match us, hl with | [_], _ => rfl)⟩⟩
  have D_number_from : DefG GG l.prog w mg base 1 "number_from" 2 d_number_from := ⟨⟨f4, _, _, (ok_number_from (ca := GG.ca) (ce := GG.ce) (Ts := GG.T) F4 T ), PySem.W.mg_of X G a4, k4, (F4.binds (ps := ["text", "at"]) fun _ _ _ _ _ _ us hl => match us, hl with | [_, _], _ => rfl)⟩⟩
  have D_text_from : DefG GG l.prog w mg base 1 "text_from" 2 d_text_from := ⟨⟨f5, _, _, (ok_text_from (ca := GG.ca) (ce := GG.ce) (Ts := GG.T) F5 T ), PySem.W.mg_of X G a5, k5, (F5.binds (ps := ["text", "at"]) fun _ _ _ _ _ _ us hl => match us, hl with | [_, _], _ => rfl)⟩⟩
  have D_thing_from : DefG GG l.prog w mg base 26 "thing_from" 3 d_thing_from := ⟨⟨f7, _, _, ok_thing_from (ca := GG.ca) (ce := GG.ce) (Ts := GG.T) F7 T (PySem.W.mg_of X G a7) k7 (F7.binds (ps := ["text", "at", "deep"]) fun _ _ _ _ _ _ us hl => match us, hl with | [_, _, _], _ => rfl) F6 (PySem.W.mg_of X G a6) k6 (F6.binds (ps := ["text", "at", "deep"]) fun _ _ _ _ _ _ us hl => match us, hl with | [_, _, _], _ => rfl) D_number_from D_text_from 12, PySem.W.mg_of X G a7, k7, (F7.binds (ps := ["text", "at", "deep"]) fun _ _ _ _ _ _ us hl => match us, hl with | [_, _, _], _ => rfl)⟩⟩
  have D_read_whole : DefG GG l.prog w mg base 27 "read_whole" 2 d_read_whole := ⟨⟨f8, _, _, (ok_read_whole (ca := GG.ca) (ce := GG.ce) (Ts := GG.T) F8 T D_NoText__raise D_thing_from), PySem.W.mg_of X G a8, k8, (F8.binds (ps := ["text", "row"]) fun _ _ _ _ _ _ us hl => match us, hl with | [_, _], _ => rfl)⟩⟩
  have D_read_board : DefG GG l.prog w mg base 28 "read_board" 1 d_read_board := ⟨⟨f9, _, _, (ok_read_board (ca := GG.ca) (ce := GG.ce) (Ts := GG.T) F9 T D_NoText__raise D_read_whole), PySem.W.mg_of X G a9, k9, (F9.binds (ps := ["text"]) fun _ _ _ _ _ _ us hl => match us, hl with | [_], _ => rfl)⟩⟩
  have D__law_text : DefG GG l.prog w mg base 13 "_law_text" 1 d__law_text := ⟨⟨f10, _, _, ok__law_text (ca := GG.ca) (ce := GG.ce) (Ts := GG.T) F10 T (PySem.W.mg_of X G a10) k10 (F10.binds (ps := ["_law_thing_here"]) fun _ _ _ _ _ _ us hl => match us, hl with | [_], _ => rfl)  12, PySem.W.mg_of X G a10, k10, (F10.binds (ps := ["_law_thing_here"]) fun _ _ _ _ _ _ us hl => match us, hl with | [_], _ => rfl)⟩⟩
  have D__law_is_wide : DefG GG l.prog w mg base 29 "_law_is_wide" 0 d__law_is_wide := ⟨⟨f11, _, _, (ok__law_is_wide (ca := GG.ca) (ce := GG.ce) (Ts := GG.T) F11 T D__law_like D_board_text D_read_board D__law_text), PySem.W.mg_of X G a11, k11, (F11.binds (ps := []) fun _ _ _ _ _ _ us hl => match us, hl with | [], _ => rfl)⟩⟩
  have D__law_begun : DefG GG l.prog w mg base 1 "_law_begun" 2 d__law_begun := ⟨⟨f12, _, _, (ok__law_begun (ca := GG.ca) (ce := GG.ce) (Ts := GG.T) F12 T ), PySem.W.mg_of X G a12, k12, (F12.binds (ps := ["_law_cell", "_law_k"]) fun _ _ _ _ _ _ us hl => match us, hl with | [_, _], _ => rfl)⟩⟩
  have D__law_next : DefG GG l.prog w mg base 1 "_law_next" 2 d__law_next := ⟨⟨f13, _, _, (ok__law_next (ca := GG.ca) (ce := GG.ce) (Ts := GG.T) F13 T ), PySem.W.mg_of X G a13, k13, (F13.binds (ps := ["_law_draw", "_law_size"]) fun _ _ _ _ _ _ us hl => match us, hl with | [_, _], _ => rfl)⟩⟩
  have D__law_pick : DefG GG l.prog w mg base 2 "_law_pick" 2 d__law_pick := ⟨⟨f14, _, _, (ok__law_pick (ca := GG.ca) (ce := GG.ce) (Ts := GG.T) F14 T D__law_next), PySem.W.mg_of X G a14, k14, (F14.binds (ps := ["_law_draw", "_law_some"]) fun _ _ _ _ _ _ us hl => match us, hl with | [_, _], _ => rfl)⟩⟩
  have D__law_any_sign : DefG GG l.prog w mg base 3 "_law_any_sign" 1 d__law_any_sign := ⟨⟨f15, _, _, (ok__law_any_sign (ca := GG.ca) (ce := GG.ce) (Ts := GG.T) F15 T D__law_pick), PySem.W.mg_of X G a15, k15, (F15.binds (ps := ["_law_draw"]) fun _ _ _ _ _ _ us hl => match us, hl with | [_], _ => rfl)⟩⟩
  have D__law_changed_text : DefG GG l.prog w mg base 4 "_law_changed_text" 2 d__law_changed_text := ⟨⟨f16, _, _, (ok__law_changed_text (ca := GG.ca) (ce := GG.ce) (Ts := GG.T) F16 T D__law_next D__law_pick D__law_any_sign), PySem.W.mg_of X G a16, k16, (F16.binds (ps := ["_law_draw", "_law_text_here"]) fun _ _ _ _ _ _ us hl => match us, hl with | [_, _], _ => rfl)⟩⟩
  have D__law_changed_rows : DefG GG l.prog w mg base 5 "_law_changed_rows" 2 d__law_changed_rows := ⟨⟨f17, _, _, (ok__law_changed_rows (ca := GG.ca) (ce := GG.ce) (Ts := GG.T) F17 T D__law_next D__law_pick D__law_changed_text), PySem.W.mg_of X G a17, k17, (F17.binds (ps := ["_law_draw", "_law_rows"]) fun _ _ _ _ _ _ us hl => match us, hl with | [_, _], _ => rfl)⟩⟩
  have D__law_alone : DefG GG l.prog w mg base 1 "_law_alone" 1 d__law_alone := ⟨⟨f18, _, _, (ok__law_alone (ca := GG.ca) (ce := GG.ce) (Ts := GG.T) F18 T ), PySem.W.mg_of X G a18, k18, (F18.binds (ps := ["_law_e"]) fun _ _ _ _ _ _ us hl => match us, hl with | [_], _ => rfl)⟩⟩
  have D__law_refusal : DefG GG l.prog w mg base 2 "_law_refusal" 1 d__law_refusal := ⟨⟨f19, _, _, (ok__law_refusal (ca := GG.ca) (ce := GG.ce) (Ts := GG.T) F19 T D__law_alone), PySem.W.mg_of X G a19, k19, (F19.binds (ps := ["_law_e"]) fun _ _ _ _ _ _ us hl => match us, hl with | [_], _ => rfl)⟩⟩
  have D__law_safe_told : LamD GG l.prog w mg base 2 "_law_safe_told" h__law_safe_told := lam__law_safe_told (ca := GG.ca) (ce := GG.ce) (Ts := GG.T) F20 T (PySem.W.mg_of X G a20) (F20.binds (ps := ["_law_work"]) fun _ _ _ _ _ _ us hl => match us, hl with | [_], _ => rfl) D__law_refusal
  have D__law_ten : DefG GG l.prog w mg base 1 "_law_ten" 1 d__law_ten := ⟨⟨f21, _, _, (ok__law_ten (ca := GG.ca) (ce := GG.ce) (Ts := GG.T) F21 T ), PySem.W.mg_of X G a21, k21, (F21.binds (ps := ["_law_many"]) fun _ _ _ _ _ _ us hl => match us, hl with | [_], _ => rfl)⟩⟩
  have D__law_thing : DefG GG l.prog w mg base 16 "_law_thing" 2 d__law_thing := ⟨⟨f22, _, _, ok__law_thing (ca := GG.ca) (ce := GG.ce) (Ts := GG.T) F22 T (PySem.W.mg_of X G a22) k22 (F22.binds (ps := ["_law_draw", "_law_deep"]) fun _ _ _ _ _ _ us hl => match us, hl with | [_, _], _ => rfl) D__law_next D__law_pick D__law_any_sign D__law_ten 12, PySem.W.mg_of X G a22, k22, (F22.binds (ps := ["_law_draw", "_law_deep"]) fun _ _ _ _ _ _ us hl => match us, hl with | [_, _], _ => rfl)⟩⟩
  have D__law_read_word : DefG GG l.prog w mg base 1 "_law_read_word" 2 d__law_read_word := ⟨⟨f23, _, _, (ok__law_read_word (ca := GG.ca) (ce := GG.ce) (Ts := GG.T) F23 T ), PySem.W.mg_of X G a23, k23, (F23.binds (ps := ["_law_text_here", "_law_at"]) fun _ _ _ _ _ _ us hl => match us, hl with | [_, _], _ => rfl)⟩⟩
  have D__law_read_number : DefG GG l.prog w mg base 1 "_law_read_number" 2 d__law_read_number := ⟨⟨f24, _, _, (ok__law_read_number (ca := GG.ca) (ce := GG.ce) (Ts := GG.T) F24 T ), PySem.W.mg_of X G a24, k24, (F24.binds (ps := ["_law_text_here", "_law_at"]) fun _ _ _ _ _ _ us hl => match us, hl with | [_, _], _ => rfl)⟩⟩
  have D__law_read_thing : DefG GG l.prog w mg base 26 "_law_read_thing" 3 d__law_read_thing := ⟨⟨f26, _, _, ok__law_read_thing (ca := GG.ca) (ce := GG.ce) (Ts := GG.T) F26 T (PySem.W.mg_of X G a26) k26 (F26.binds (ps := ["_law_text_here", "_law_at", "_law_deep"]) fun _ _ _ _ _ _ us hl => match us, hl with | [_, _, _], _ => rfl) F25 (PySem.W.mg_of X G a25) k25 (F25.binds (ps := ["_law_text_here", "_law_at", "_law_deep"]) fun _ _ _ _ _ _ us hl => match us, hl with | [_, _, _], _ => rfl) D__law_read_word D__law_read_number 12, PySem.W.mg_of X G a26, k26, (F26.binds (ps := ["_law_text_here", "_law_at", "_law_deep"]) fun _ _ _ _ _ _ us hl => match us, hl with | [_, _, _], _ => rfl)⟩⟩
  have D__law_told_of : DefG GG l.prog w mg base 27 "_law_told_of" 1 d__law_told_of := ⟨⟨f27, _, _, (ok__law_told_of (ca := GG.ca) (ce := GG.ce) (Ts := GG.T) F27 T D__law_read_thing), PySem.W.mg_of X G a27, k27, (F27.binds (ps := ["_law_text_here"]) fun _ _ _ _ _ _ us hl => match us, hl with | [_], _ => rfl)⟩⟩
  have D__law_due : DefG GG l.prog w mg base 28 "_law_due" 1 d__law_due := ⟨⟨f28, _, _, (ok__law_due (ca := GG.ca) (ce := GG.ce) (Ts := GG.T) F28 T D__law_told_of), PySem.W.mg_of X G a28, k28, (F28.binds (ps := ["_law_text_here"]) fun _ _ _ _ _ _ us hl => match us, hl with | [_], _ => rfl)⟩⟩
  have D__law_right : DefG GG l.prog w mg base 31 "_law_right" 2 d__law_right := ⟨⟨f29, _, _, (ok__law_right (ca := GG.ca) (ce := GG.ce) (Ts := GG.T) F29 rfl (tabs (cc29, TP29) (by simp)) (by simp [GG]) T D__law_like D_board_text D_read_board D__law_text D__law_begun D__law_next D__law_pick D__law_changed_rows D__law_safe_told D__law_thing D__law_due), PySem.W.mg_of X G a29, k29, (F29.binds (ps := ["_law_cell", "_law_k"]) fun _ _ _ _ _ _ us hl => match us, hl with | [_, _], _ => rfl)⟩⟩
  exact ok_law (ca := GG.ca) (ce := GG.ce) (Ts := GG.T) F30 T D__law_is_wide D__law_right
theorem walk {l : PySem.W.OpenLaw} {q : Program} {loose : List Str} {XP : (Str → Option Value) → Heap → Prop} {YP : World → Heap → Prop} {d : DefRec} {K : Params → PySem.W.Frag} (hn : l.most = some 63) (hdf : d.params.defaults = [])
    (hY : ∀ (w : World) (h : Heap), YP w h → (K w.params).In h)
    (F : ∀ (w : World) (mg : Str → Option Value) (fa : Addr) (h : Heap), (K w.params).In h → h.Ns mainGlobals mg → mg d.name = some (.ref fa) → (∀ y : Str, ((PyProof.Rows.recsOf q).any fun e => e.name == y) = true → L2.TabAt (K w.params) mg h y) → L2.LawGT l w (K w.params) (L2.CX l.prog w) 32 63 "_law_script" mg fa h) :
    PySem.W.WalkO q loose XP YP l.row.toRowW d [] (fun f vs => PySem.call f vs) :=
  L2.walk_ofGT (n := 63) (k := 32) (x := "_law_script") (CX := fun w => L2.CX l.prog w) hn (by decide) hdf ⟨rfl, by decide, by decide⟩ hY F fun w H s e s' z => (letI : DL.Nm := DL.nm0; no_CX z)
end DX.K77
open PySem PySem.W PyProof.Rows in
set_option maxRecDepth 100000 in
set_option maxHeartbeats 0 in
theorem PySem.Challenge.cw_rolltally_k77_boards_of_rows_holds : PySem.Challenge.rw_rolltally_k77_boards_of_rows.Holds := by
  w_on; o_law; k_head; (case hw => w_witness2)
  k_fill
  refine DX.K77.walk (l := PySem.Challenge.rw_rolltally_k77_boards_of_rows) rfl rfl (fun w h Y => PySem.W.km_in_of Y) ?F
  case F =>
    intro w mg fa h KX G hmg own
    refine' DX.K77.all_mk KX G hmg own ?a1 ?l1 ?c1 ?k1 ?a2 ?l2 ?c2 ?k2 ?a3 ?l3 ?c3 ?k3 ?a4 ?l4 ?c4 ?k4 ?a5 ?l5 ?c5 ?k5 ?a6 ?l6 ?c6 ?k6 ?a7 ?l7 ?c7 ?k7 ?a8 ?l8 ?c8 ?k8 ?a9 ?l9 ?c9 ?k9 ?a10 ?l10 ?c10 ?k10 ?a11 ?l11 ?c11 ?k11 ?a12 ?l12 ?c12 ?k12 ?a13 ?l13 ?c13 ?k13 ?a14 ?l14 ?c14 ?k14 ?a15 ?l15 ?c15 ?k15 ?a16 ?l16 ?c16 ?k16 ?a17 ?l17 ?c17 ?k17 ?a18 ?l18 ?c18 ?k18 ?a19 ?l19 ?c19 ?k19 ?a20 ?l20 ?c20 ?k20 ?a21 ?l21 ?c21 ?k21 ?a22 ?l22 ?c22 ?k22 ?a23 ?l23 ?c23 ?k23 ?a24 ?l24 ?c24 ?k24 ?a25 ?l25 ?c25 ?k25 ?a26 ?l26 ?c26 ?k26 ?a27 ?l27 ?c27 ?k27 ?a28 ?l28 ?c28 ?k28 ?a29 ?l29 ?tl29 ?tp29 ?tq29 ?ts29 ?tg29 ?tb29 ?tx29 ?te29 ?tk29 ?c29 ?k29 ?a30 ?l30 ?c30 ?k30 ?AX_NoBits ?AX_NoChain ?AX_NoCode ?AX_NoCount ?AX_NoDay ?AX_NoLetter ?AX_NoLot ?AX_NoMark ?AX_NoName ?AX_NoPhase ?AX_NoPlace ?AX_NoRace ?AX_NoRow ?AX_NoRuling ?AX_NoStub ?AX_NoText ?AX_NoTime ?AX_NoWay ?AX_NotThere ?AX_NotWhole ?AX_Twice ?AX_VoteError ?xk_NoText ?xs_NoText ?xt_NoText ?xm_NoText_VoteError ?xn_NoText_NoBits ?xn_NoText_NoChain ?xn_NoText_NoCode ?xn_NoText_NoCount ?xn_NoText_NoDay ?xn_NoText_NoLetter ?xn_NoText_NoLot ?xn_NoText_NoMark ?xn_NoText_NoName ?xn_NoText_NoPhase ?xn_NoText_NoPlace ?xn_NoText_NoRace ?xn_NoText_NoRow ?xn_NoText_NoRuling ?xn_NoText_NoStub ?xn_NoText_NoText ?xn_NoText_NoTime ?xn_NoText_NoWay ?xn_NoText_NotThere ?xn_NoText_NotWhole ?xn_NoText_Twice ?xn_NoText_VoteError ?xn_NoText_f_at ?xn_NoText_f_row ?xn_NoText_f_thing ?xv_NoText ?xg_NoText ?xh_NoText ?xp_NoText ?xa_NoText ?xo_NoText ?xbs_VoteError ?xbd_VoteError ?xbt_VoteError ?aXNoText ?iXNoText ?lXNoText ?cXNoText ?kXNoText ?oXNoText ?sXNoText ?xq1 ?xq2 ?xc_NoBits ?xy_NoBits ?xz_NoBits ?xc_NoChain ?xy_NoChain ?xz_NoChain ?xc_NoCode ?xy_NoCode ?xz_NoCode ?xc_NoCount ?xy_NoCount ?xz_NoCount ?xc_NoDay ?xy_NoDay ?xz_NoDay ?xc_NoLetter ?xy_NoLetter ?xz_NoLetter ?xc_NoLot ?xy_NoLot ?xz_NoLot ?xc_NoMark ?xy_NoMark ?xz_NoMark ?xc_NoName ?xy_NoName ?xz_NoName ?xc_NoPhase ?xy_NoPhase ?xz_NoPhase ?xc_NoPlace ?xy_NoPlace ?xz_NoPlace ?xc_NoRace ?xy_NoRace ?xz_NoRace ?xc_NoRow ?xy_NoRow ?xz_NoRow ?xc_NoRuling ?xy_NoRuling ?xz_NoRuling ?xc_NoStub ?xy_NoStub ?xz_NoStub ?xc_NoText ?xy_NoText ?xz_NoText ?xc_NoTime ?xy_NoTime ?xz_NoTime ?xc_NoWay ?xy_NoWay ?xz_NoWay ?xc_NotThere ?xy_NotThere ?xz_NotThere ?xc_NotWhole ?xy_NotWhole ?xz_NotWhole ?xc_Twice ?xy_Twice ?xz_Twice ?xc_VoteError ?xy_VoteError ?xz_VoteError ?z_ValueError ?z_bool ?z_dict ?z_enumerate ?z_int ?z_isinstance ?z_len ?z_list ?z_max ?z_min ?z_range ?z_str ?z_tuple ?y_DEEPEST ?y_FIGURES ?y_MOST_FIGURES ?hr29
    (case a1 => k_is)
    (case l1 => k_is)
    (case c1 => k_is)
    (case k1 => k_is)
    (case a2 => k_is)
    (case l2 => k_is)
    (case c2 => k_is)
    (case k2 => k_is)
    (case a3 => k_is)
    (case l3 => k_is)
    (case c3 => k_is)
    (case k3 => k_is)
    (case a4 => k_is)
    (case l4 => k_is)
    (case c4 => k_is)
    (case k4 => k_is)
    (case a5 => k_is)
    (case l5 => k_is)
    (case c5 => k_is)
    (case k5 => k_is)
    (case a6 => k_is)
    (case l6 => k_is)
    (case c6 => k_is)
    (case k6 => k_is)
    (case a7 => k_is)
    (case l7 => k_is)
    (case c7 => k_is)
    (case k7 => k_is)
    (case a8 => k_is)
    (case l8 => k_is)
    (case c8 => k_is)
    (case k8 => k_is)
    (case a9 => k_is)
    (case l9 => k_is)
    (case c9 => k_is)
    (case k9 => k_is)
    (case a10 => k_is)
    (case l10 => k_is)
    (case c10 => k_is)
    (case k10 => k_is)
    (case a11 => k_is)
    (case l11 => k_is)
    (case c11 => k_is)
    (case k11 => k_is)
    (case a12 => k_is)
    (case l12 => k_is)
    (case c12 => k_is)
    (case k12 => k_is)
    (case a13 => k_is)
    (case l13 => k_is)
    (case c13 => k_is)
    (case k13 => k_is)
    (case a14 => k_is)
    (case l14 => k_is)
    (case c14 => k_is)
    (case k14 => k_is)
    (case a15 => k_is)
    (case l15 => k_is)
    (case c15 => k_is)
    (case k15 => k_is)
    (case a16 => k_is)
    (case l16 => k_is)
    (case c16 => k_is)
    (case k16 => k_is)
    (case a17 => k_is)
    (case l17 => k_is)
    (case c17 => k_is)
    (case k17 => k_is)
    (case a18 => k_is)
    (case l18 => k_is)
    (case c18 => k_is)
    (case k18 => k_is)
    (case a19 => k_is)
    (case l19 => k_is)
    (case c19 => k_is)
    (case k19 => k_is)
    (case a20 => k_is)
    (case l20 => k_is)
    (case c20 => k_is)
    (case k20 => k_is)
    (case a21 => k_is)
    (case l21 => k_is)
    (case c21 => k_is)
    (case k21 => k_is)
    (case a22 => k_is)
    (case l22 => k_is)
    (case c22 => k_is)
    (case k22 => k_is)
    (case a23 => k_is)
    (case l23 => k_is)
    (case c23 => k_is)
    (case k23 => k_is)
    (case a24 => k_is)
    (case l24 => k_is)
    (case c24 => k_is)
    (case k24 => k_is)
    (case a25 => k_is)
    (case l25 => k_is)
    (case c25 => k_is)
    (case k25 => k_is)
    (case a26 => k_is)
    (case l26 => k_is)
    (case c26 => k_is)
    (case k26 => k_is)
    (case a27 => k_is)
    (case l27 => k_is)
    (case c27 => k_is)
    (case k27 => k_is)
    (case a28 => k_is)
    (case l28 => k_is)
    (case c28 => k_is)
    (case k28 => k_is)
    (case a29 => k_is)
    (case l29 => k_is)
    (case tl29 => k_is)
    (case tp29 => rfl)
    (case tq29 => rfl)
    (case ts29 => rfl)
    (case tg29 => rfl)
    (case tb29 => rfl)
    (case tx29 => rfl)
    (case te29 => decide)
    (case tk29 => kernel_rfl)
    (case c29 => k_is)
    (case k29 => k_is)
    (case a30 => k_is)
    (case l30 => k_is)
    (case c30 => k_is)
    (case k30 => k_is)
    (case AX_NoBits => k_is)
    (case AX_NoChain => k_is)
    (case AX_NoCode => k_is)
    (case AX_NoCount => k_is)
    (case AX_NoDay => k_is)
    (case AX_NoLetter => k_is)
    (case AX_NoLot => k_is)
    (case AX_NoMark => k_is)
    (case AX_NoName => k_is)
    (case AX_NoPhase => k_is)
    (case AX_NoPlace => k_is)
    (case AX_NoRace => k_is)
    (case AX_NoRow => k_is)
    (case AX_NoRuling => k_is)
    (case AX_NoStub => k_is)
    (case AX_NoText => k_is)
    (case AX_NoTime => k_is)
    (case AX_NoWay => k_is)
    (case AX_NotThere => k_is)
    (case AX_NotWhole => k_is)
    (case AX_Twice => k_is)
    (case AX_VoteError => k_is)
    (case xk_NoText => k_is)
    (case xs_NoText => k_is)
    (case xt_NoText => k_is)
    (case xm_NoText_VoteError => k_is)
    (case xn_NoText_NoBits => k_is)
    (case xn_NoText_NoChain => k_is)
    (case xn_NoText_NoCode => k_is)
    (case xn_NoText_NoCount => k_is)
    (case xn_NoText_NoDay => k_is)
    (case xn_NoText_NoLetter => k_is)
    (case xn_NoText_NoLot => k_is)
    (case xn_NoText_NoMark => k_is)
    (case xn_NoText_NoName => k_is)
    (case xn_NoText_NoPhase => k_is)
    (case xn_NoText_NoPlace => k_is)
    (case xn_NoText_NoRace => k_is)
    (case xn_NoText_NoRow => k_is)
    (case xn_NoText_NoRuling => k_is)
    (case xn_NoText_NoStub => k_is)
    (case xn_NoText_NoText => k_is)
    (case xn_NoText_NoTime => k_is)
    (case xn_NoText_NoWay => k_is)
    (case xn_NoText_NotThere => k_is)
    (case xn_NoText_NotWhole => k_is)
    (case xn_NoText_Twice => k_is)
    (case xn_NoText_VoteError => k_is)
    (case xn_NoText_f_at => k_is)
    (case xn_NoText_f_row => k_is)
    (case xn_NoText_f_thing => k_is)
    (case xv_NoText => k_is)
    (case xg_NoText => k_is)
    (case xh_NoText => k_is)
    (case xp_NoText => k_is)
    (case xa_NoText => k_is)
    (case xo_NoText => k_is)
    (case xbs_VoteError => k_is)
    (case xbd_VoteError => k_is)
    (case xbt_VoteError => k_is)
    (case aXNoText => k_is)
    (case iXNoText => k_is)
    (case lXNoText => k_is)
    (case cXNoText => k_is)
    (case kXNoText => k_is)
    (case oXNoText => kernel_rfl)
    (case sXNoText => k_is)
    (case xq1 => k_is)
    (case xq2 => k_is)
    (case xc_NoBits => k_is)
    (case xy_NoBits => k_is)
    (case xz_NoBits => k_is)
    (case xc_NoChain => k_is)
    (case xy_NoChain => k_is)
    (case xz_NoChain => k_is)
    (case xc_NoCode => k_is)
    (case xy_NoCode => k_is)
    (case xz_NoCode => k_is)
    (case xc_NoCount => k_is)
    (case xy_NoCount => k_is)
    (case xz_NoCount => k_is)
    (case xc_NoDay => k_is)
    (case xy_NoDay => k_is)
    (case xz_NoDay => k_is)
    (case xc_NoLetter => k_is)
    (case xy_NoLetter => k_is)
    (case xz_NoLetter => k_is)
    (case xc_NoLot => k_is)
    (case xy_NoLot => k_is)
    (case xz_NoLot => k_is)
    (case xc_NoMark => k_is)
    (case xy_NoMark => k_is)
    (case xz_NoMark => k_is)
    (case xc_NoName => k_is)
    (case xy_NoName => k_is)
    (case xz_NoName => k_is)
    (case xc_NoPhase => k_is)
    (case xy_NoPhase => k_is)
    (case xz_NoPhase => k_is)
    (case xc_NoPlace => k_is)
    (case xy_NoPlace => k_is)
    (case xz_NoPlace => k_is)
    (case xc_NoRace => k_is)
    (case xy_NoRace => k_is)
    (case xz_NoRace => k_is)
    (case xc_NoRow => k_is)
    (case xy_NoRow => k_is)
    (case xz_NoRow => k_is)
    (case xc_NoRuling => k_is)
    (case xy_NoRuling => k_is)
    (case xz_NoRuling => k_is)
    (case xc_NoStub => k_is)
    (case xy_NoStub => k_is)
    (case xz_NoStub => k_is)
    (case xc_NoText => k_is)
    (case xy_NoText => k_is)
    (case xz_NoText => k_is)
    (case xc_NoTime => k_is)
    (case xy_NoTime => k_is)
    (case xz_NoTime => k_is)
    (case xc_NoWay => k_is)
    (case xy_NoWay => k_is)
    (case xz_NoWay => k_is)
    (case xc_NotThere => k_is)
    (case xy_NotThere => k_is)
    (case xz_NotThere => k_is)
    (case xc_NotWhole => k_is)
    (case xy_NotWhole => k_is)
    (case xz_NotWhole => k_is)
    (case xc_Twice => k_is)
    (case xy_Twice => k_is)
    (case xz_Twice => k_is)
    (case xc_VoteError => k_is)
    (case xy_VoteError => k_is)
    (case xz_VoteError => k_is)
    (case z_ValueError => k_is)
    (case z_bool => k_is)
    (case z_dict => k_is)
    (case z_enumerate => k_is)
    (case z_int => k_is)
    (case z_isinstance => k_is)
    (case z_len => k_is)
    (case z_list => k_is)
    (case z_max => k_is)
    (case z_min => k_is)
    (case z_range => k_is)
    (case z_str => k_is)
    (case z_tuple => k_is)
    (case y_DEEPEST => k_is)
    (case y_FIGURES => k_is)
    (case y_MOST_FIGURES => k_is)
    (case hr29 => rfl)
end
