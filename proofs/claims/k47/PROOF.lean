import PyProof.Rows.All
import Wide.All
import OpenK.AllK
import Wide.FinOn
import HandS.ForMost
import HandS.ForExc
import HandS.CallSlots
import HandS.Wide
import PyProof.NeKinds
import HandS.DeepEq
import HandS.TupAny
import HandS.Style
import HandS.IsInst
import HandS.Deep
import HandS.More
import HandS.SortInts
import HandS.SetFor
import HandS.Finally
import HandS.Conv
import HandS.TupMul
import HandS.Keys
import HandS.Remove
import PyProof.Rows.SetFrom
import HandS.SetKeys
import HandS.Strs
import HandS.Zip
import HandS.SetBool
import HandS.WordsDict
import HandS.Small
import KE.GoesNew
import HandS.DictComp
import KE.KDictSum
import HandS.ListItems
import KE.KUnpackStar
import HandS.Defaults
import HandS.MakeKwOnly
import HandS.Text
import HandS.SortRule
import HandS.Flow
import HandS.Iter
import PyProof.Rows.StrInSeq3
import KE.KExcIs
import HandS.ExcIs
import HandS.ExcInit
import PyProof.AutoSeq1
import KE.KDictZip
import HandS.RaiseMore
import PyProof.ReprRoads
import PySem.Challenge.RW_rolltally_k47_whole_margins_of_many
set_option Elab.async false
set_option linter.all false
set_option maxRecDepth 100000
set_option maxHeartbeats 4000000
section
/-! D-layer, part 0: data without addresses, a store of mutable cells, how both lie in the abstract heap. -/
namespace DL
open PySem L2

inductive D where
  | non
  | bl (b : Bool)
  | int (i : Int)
  | str (x : Str)
  | tup (ds : List D)
  | lst (ds : List D)
  | dic (ks : List Key) (ds : List D)
  | obj (c : Str) (ks : List Str) (ds : List D)
  | loc (l : Nat)
  | dct (ks : List (List Key)) (ds : List D)
  | exn (c : Str) (ks : List Str) (ds : List D)
  | tpl (ds : List D)

inductive Cell where
  | lst (ds : List D)
  | dic (kvs : List (Key × D))
  | ins (c : Str) (fs : List (Str × D))
  | dct (kvs : List (List Key × D))

abbrev Store := List Cell
abbrev EnvD := List (Option D)

/-- where the cells lie; what is hidden (a list that a comprehension fills) -/
structure Fi where
  c : List Addr
  h : List Addr
def Fi.out (φ : Fi) (a : Addr) : Prop := a ∉ φ.c ∧ a ∉ φ.h

/-- the written classes -/
structure Glb where
  K : PySem.W.Frag
  ca : Str → Option Addr
  ce : Str → Option Addr

/-- a caught exception that is kept -/
def ExH (cls : Value) (d : Option Addr) (a : Addr) : HO := .ext fun h => ∃ (oe : Obj) (vs : Array Value), h.get? a = some oe ∧ Zc cls d oe ∧ oe.data = .fields vs
def RdL (G : Glb) (φ : Fi) (H : Hp) (a : Addr) (xs : List V) : Prop := (φ.out a ∧ Rd H a (.lst xs)) ∨
  ∃ (o : Obj) (its : Array Value) (n : Nat), G.K.lookup a = some o ∧ o.cls = .type "list" ∧ o.dict = none ∧ o.data = .seq its n ∧ its.size ≤ sizeLine ∧ Vals xs its.toList
def RdT (G : Glb) (φ : Fi) (H : Hp) (a : Addr) (xs : List V) : Prop := (φ.out a ∧ Rd H a (.tup xs)) ∨
  ∃ (o : Obj) (its : Array Value) (n : Nat), G.K.lookup a = some o ∧ o.cls = .type "tuple" ∧ o.data = .seq its n ∧ its.size ≤ sizeLine ∧ Vals xs its.toList

mutual
def Is (G : Glb) (φ : Fi) (H : Hp) : D → V → Prop
  | .non, v => v = .non
  | .bl b, v => v = .bl b
  | .int i, v => v = .int i
  | .str x, v => v = .str x
  | .tup ds, v => ∃ a xs, v = .ref a ∧ RdT G φ H a xs ∧ IsL G φ H ds xs
  | .lst ds, v => ∃ a xs, v = .ref a ∧ RdL G φ H a xs ∧ IsL G φ H ds xs
  | .dic ks ds, v => ∃ a kvs, v = .ref a ∧ (φ.out a ∧ Rd H a (.dK kvs)) ∧ kvs.map (·.1) = ks ∧ IsL G φ H ds (kvs.map (·.2))
  | .obj c ks ds, v => ∃ a C dx fs, v = .ref a ∧ (φ.out a ∧ H a = some (.ins C dx fs)) ∧ G.ca c = some C ∧ fs.map (·.1) = ks ∧ IsL G φ H ds (fs.map (·.2))
  | .loc l, v => ∃ a, φ.c[l]? = some a ∧ v = .ref a
  | .dct ks ds, v => ∃ a kvs, v = .ref a ∧ (φ.out a ∧ Rd H a (.dT kvs)) ∧ kvs.map (·.1) = ks ∧ IsL G φ H ds (kvs.map (·.2))
  | .exn c ks ds, v => ∃ a C d, v = .ref a ∧ (φ.out a ∧ H a = some (ExH (.ref C) d a)) ∧ G.ce c = some C ∧ ((d = none ∧ ks = [] ∧ ds = []) ∨ ∃ b fs, d = some b ∧ (φ.out b ∧ H b = some (.xd fs)) ∧ fs.map (·.1) = ks ∧ IsL G φ H ds (fs.map (·.2)))
  | .tpl ds, v => ∃ a xs o, v = .ref a ∧ (φ.out a ∧ H a = some (.frz o (.tup xs)) ∧ o.cls = .type "tuple" ∧ o.dict = none) ∧ IsL G φ H ds xs
def IsL (G : Glb) (φ : Fi) (H : Hp) : List D → List V → Prop
  | [], xs => xs = []
  | d :: ds, xs => ∃ x r, xs = x :: r ∧ Is G φ H d x ∧ IsL G φ H ds r
end

/-- a dict -/
def Dt (o : HO) : Prop := (∃ kvs, o = .dK kvs) ∨ ∃ kvs, o = .dT kvs
/-- what a state may become -/
structure Ext (φ : Fi) (H : Hp) (φ' : Fi) (H' : Hp) : Prop where
  pre : ∃ ψ, φ'.c = φ.c ++ ψ ∧ ∀ a ∈ ψ, a ∉ φ.c ∧ H a = none
  hid : φ'.h = φ.h
  keep : ∀ a o, a ∉ φ.c → H a = some o → H' a = some o ∨ ∃ od, a ∉ φ.h ∧ Dt o ∧ H' a = some (.frz od o)

/-- all but dicts stay; a dict may be locked for good -/
theorem Ext.keepE {φ φ' : Fi} {H H' : Hp} (e : Ext φ H φ' H') {a : Addr} {o : HO} (n : a ∉ φ.c) (h : H a = some o) (hd : ¬ Dt o := by rintro (⟨_, z⟩ | ⟨_, z⟩) <;> cases z) : H' a = some o :=
  (e.keep a o n h).elim id fun ⟨_, _, z, _⟩ => absurd z hd
theorem Ext.keepH {φ φ' : Fi} {H H' : Hp} (e : Ext φ H φ' H') {a : Addr} {o : HO} (n : a ∉ φ.c) (h : H a = some o) (hh : a ∈ φ.h) : H' a = some o :=
  (e.keep a o n h).elim id fun ⟨_, z, _⟩ => absurd hh z
theorem Ext.keepT {φ φ' : Fi} {H H' : Hp} (e : Ext φ H φ' H') {a : Addr} {o : HO} (n : a ∉ φ.c) (h : H a = some o) : ∃ o', H' a = some o' :=
  (e.keep a o n h).elim (fun z => ⟨_, z⟩) fun ⟨_, _, _, z⟩ => ⟨_, z⟩
theorem Ext.refl {φ : Fi} {H : Hp} : Ext φ H φ H := ⟨⟨[], by simp, fun _ h => by simp at h⟩, rfl, fun _ _ _ h => .inl h⟩
theorem Ext.outc {φ φ' : Fi} {H H' : Hp} (e : Ext φ H φ' H') {a : Addr} {o : HO} (n : a ∉ φ.c) (h : H a = some o) : a ∉ φ'.c := by
  obtain ⟨ψ, e1, p⟩ := e.pre
  rw [e1]
  intro q
  rcases List.mem_append.mp q with q | q
  · exact n q
  · have z := (p a q).2
    rw [h] at z; cases z
theorem Ext.out {φ φ' : Fi} {H H' : Hp} (e : Ext φ H φ' H') {a : Addr} {o : HO} (n : φ.out a) (h : H a = some o) : φ'.out a :=
  ⟨e.outc n.1 h, by rw [e.hid]; exact n.2⟩
theorem Ext.trans {φ φ1 φ2 : Fi} {H H1 H2 : Hp} (a : Ext φ H φ1 H1) (b : Ext φ1 H1 φ2 H2) : Ext φ H φ2 H2 := by
  refine ⟨?_, b.hid.trans a.hid, fun c o n h => ?_⟩
  case refine_2 =>
    rcases a.keep c o n h with q | ⟨od, nh, z, q⟩
    · rw [← a.hid]
      exact b.keep c o (a.outc n h) q
    · exact .inr ⟨od, nh, z, b.keepE (a.outc n h) q⟩
  obtain ⟨ψ, e1, p⟩ := a.pre
  obtain ⟨χ, e2, q⟩ := b.pre
  refine ⟨ψ ++ χ, by rw [e2, e1, List.append_assoc], fun c hc => ?_⟩
  rcases List.mem_append.mp hc with hc | hc
  · exact p c hc
  · obtain ⟨n1, n2⟩ := q c hc
    have nφ : c ∉ φ.c := fun z => n1 (by rw [e1]; exact List.mem_append_left _ z)
    refine ⟨nφ, ?_⟩
    cases hq : H c with
    | none => rfl
    | some o => obtain ⟨o', q⟩ := a.keepT nφ hq; rw [q] at n2; cases n2
theorem Ext.get {φ φ' : Fi} {H H' : Hp} (e : Ext φ H φ' H') {l : Nat} {a : Addr} (h : φ.c[l]? = some a) : φ'.c[l]? = some a := by
  obtain ⟨ψ, e1, _⟩ := e.pre
  rw [e1, List.getElem?_append_left (List.getElem?_eq_some_iff.mp h).1]; exact h
theorem Ext.rd {φ φ' : Fi} {H H' : Hp} (e : Ext φ H φ' H') {a : Addr} {u : HO} (n : φ.out a) (h : Rd H a u) : φ'.out a ∧ Rd H' a u := by
  rcases h with h | ⟨o, h⟩
  · refine ⟨e.out n h, ?_⟩
    rcases e.keep _ _ n.1 h with q | ⟨od, _, _, q⟩
    · exact .inl q
    · exact .inr ⟨od, q⟩
  · exact ⟨e.out n h, .inr ⟨o, e.keepE n.1 h⟩⟩

/-- how readings are kept -/
structure Kept (φ : Fi) (H : Hp) (φ' : Fi) (H' : Hp) : Prop where
  get : ∀ (l : Nat) (a : Addr), φ.c[l]? = some a → φ'.c[l]? = some a
  rd : ∀ a u, φ.out a → Rd H a u → φ'.out a ∧ Rd H' a u
  ins : ∀ a C dx fs, φ.out a → H a = some (.ins C dx fs) → φ'.out a ∧ H' a = some (.ins C dx fs)
  frz : ∀ a o u, φ.out a → H a = some (.frz o u) → φ'.out a ∧ H' a = some (.frz o u)
  ext : ∀ a p, φ.out a → H a = some (.ext p) → φ'.out a ∧ H' a = some (.ext p)
  xd : ∀ a fs, φ.out a → H a = some (.xd fs) → φ'.out a ∧ H' a = some (.xd fs)
theorem Ext.kept {φ φ' : Fi} {H H' : Hp} (e : Ext φ H φ' H') : Kept φ H φ' H' :=
  ⟨fun _ _ => e.get, fun _ _ => e.rd, fun _ _ _ _ n h => ⟨e.out n h, e.keepE n.1 h⟩, fun _ _ _ n h => ⟨e.out n h, e.keepE n.1 h⟩, fun _ _ n h => ⟨e.out n h, e.keepE n.1 h⟩, fun _ _ n h => ⟨e.out n h, e.keepE n.1 h⟩⟩

section
variable {G : Glb} {φ φ' : Fi} {H H' : Hp}
theorem RdL.kept (k : Kept φ H φ' H') {a : Addr} {xs : List V} (h : RdL G φ H a xs) : RdL G φ' H' a xs := by
  rcases h with ⟨n, h⟩ | h
  · exact .inl (k.rd _ _ n h)
  · exact .inr h
theorem RdT.kept (k : Kept φ H φ' H') {a : Addr} {xs : List V} (h : RdT G φ H a xs) : RdT G φ' H' a xs := by
  rcases h with ⟨n, h⟩ | h
  · exact .inl (k.rd _ _ n h)
  · exact .inr h
mutual
theorem Is.kept (k : Kept φ H φ' H') : ∀ {d : D} {v : V}, Is G φ H d v → Is G φ' H' d v
  | .non, v, h => h
  | .bl b, v, h => h
  | .int i, v, h => h
  | .str x, v, h => h
  | .tup ds, v, h => by
    obtain ⟨a, xs, e, r, q⟩ := h
    exact ⟨a, xs, e, r.kept k, IsL.kept k q⟩
  | .lst ds, v, h => by
    obtain ⟨a, xs, e, r, q⟩ := h
    exact ⟨a, xs, e, r.kept k, IsL.kept k q⟩
  | .dic ks ds, v, h => by
    obtain ⟨a, kvs, e, ⟨n, r⟩, z, q⟩ := h
    exact ⟨a, kvs, e, k.rd _ _ n r, z, IsL.kept k q⟩
  | .obj c ks ds, v, h => by
    obtain ⟨a, C, dx, fs, e, ⟨n, r⟩, c, z, q⟩ := h
    exact ⟨a, C, dx, fs, e, k.ins _ _ _ _ n r, c, z, IsL.kept k q⟩
  | .loc l, v, h => by
    obtain ⟨a, p, e⟩ := h
    exact ⟨a, k.get _ _ p, e⟩
  | .dct ks ds, v, h => by
    obtain ⟨a, kvs, e, ⟨n, r⟩, z, q⟩ := h
    exact ⟨a, kvs, e, k.rd _ _ n r, z, IsL.kept k q⟩
  | .exn c ks ds, v, h => by
    obtain ⟨a, C, d, e, ⟨n, r⟩, c, z⟩ := h
    refine ⟨a, C, d, e, k.ext _ _ n r, c, ?_⟩
    rcases z with z | ⟨b, fs, e1, ⟨n1, r1⟩, e2, q⟩
    · exact .inl z
    · exact .inr ⟨b, fs, e1, k.xd _ _ n1 r1, e2, IsL.kept k q⟩
  | .tpl ds, v, h => by
    obtain ⟨a, xs, o, e, ⟨n, r, r2⟩, q⟩ := h
    have z := k.frz _ _ _ n r
    exact ⟨a, xs, o, e, ⟨z.1, z.2, r2⟩, IsL.kept k q⟩
theorem IsL.kept (k : Kept φ H φ' H') : ∀ {ds : List D} {xs : List V}, IsL G φ H ds xs → IsL G φ' H' ds xs
  | [], xs, h => h
  | d :: ds, xs, h => by
    obtain ⟨x, r, e, p, q⟩ := h
    exact ⟨x, r, e, Is.kept k p, IsL.kept k q⟩
end
theorem Is.ext (e : Ext φ H φ' H') {d : D} {v : V} (h : Is G φ H d v) : Is G φ' H' d v := Is.kept e.kept h
theorem IsL.ext (e : Ext φ H φ' H') {ds : List D} {xs : List V} (h : IsL G φ H ds xs) : IsL G φ' H' ds xs := IsL.kept e.kept h
theorem RdL.seq {a : Addr} {xs : List V} (h : RdL G φ H a xs) : SqL G.K H a xs := by
  rcases h with ⟨_, h⟩ | h
  · exact .inl h
  · exact .inr h
theorem RdT.seq {a : Addr} {xs : List V} (h : RdT G φ H a xs) : SqT G.K H a xs := by
  rcases h with ⟨_, h⟩ | h
  · exact .inl h
  · exact .inr h
theorem IsL.length : ∀ {ds : List D} {xs : List V}, IsL G φ H ds xs → ds.length = xs.length
  | [], xs, h => by cases (show xs = [] from h); rfl
  | d :: ds, xs, h => by
    obtain ⟨x, r, rfl, _, q⟩ := h
    simp [IsL.length q]
theorem IsL.get : ∀ {ds : List D} {xs : List V} {i : Nat} {d : D}, IsL G φ H ds xs → ds[i]? = some d → ∃ x, xs[i]? = some x ∧ Is G φ H d x
  | [], _, _, _, _, e => by simp at e
  | d :: ds, xs, 0, d', h, e => by
    obtain ⟨x, r, rfl, p, q⟩ := h
    simp at e; subst e
    exact ⟨x, rfl, p⟩
  | d :: ds, xs, i + 1, d', h, e => by
    obtain ⟨x, r, rfl, p, q⟩ := h
    simpa using IsL.get q (by simpa using e)
theorem IsL.append : ∀ {ds es : List D} {xs ys : List V}, IsL G φ H ds xs → IsL G φ H es ys → IsL G φ H (ds ++ es) (xs ++ ys)
  | [], es, xs, ys, h, k => by cases (show xs = [] from h); exact k
  | d :: ds, es, xs, ys, h, k => by
    obtain ⟨x, r, rfl, p, q⟩ := h
    exact ⟨x, r ++ ys, rfl, p, IsL.append q k⟩
theorem IsL.set : ∀ {ds : List D} {xs : List V} {d : D} {x : V} (i : Nat), IsL G φ H ds xs → Is G φ H d x → IsL G φ H (ds.set i d) (xs.set i x)
  | [], xs, _, _, _, h, _ => by cases (show xs = [] from h); exact rfl
  | _ :: _, xs, d', x', 0, h, k => by
    obtain ⟨x, r, rfl, p, q⟩ := h
    exact ⟨x', r, rfl, k, q⟩
  | _ :: _, xs, d', x', i + 1, h, k => by
    obtain ⟨x, r, rfl, p, q⟩ := h
    exact ⟨x, _, rfl, p, IsL.set i q k⟩
theorem IsL.take : ∀ {ds : List D} {xs : List V} (n : Nat), IsL G φ H ds xs → IsL G φ H (ds.take n) (xs.take n)
  | _, _, 0, _ => by simp [IsL]
  | [], xs, n + 1, h => by cases (show xs = [] from h); exact rfl
  | _ :: _, xs, n + 1, h => by
    obtain ⟨x, r, rfl, p, q⟩ := h
    exact ⟨x, _, rfl, p, IsL.take n q⟩
theorem IsL.drop : ∀ {ds : List D} {xs : List V} (n : Nat), IsL G φ H ds xs → IsL G φ H (ds.drop n) (xs.drop n)
  | _, _, 0, h => h
  | [], xs, n + 1, h => by cases (show xs = [] from h); exact rfl
  | _ :: _, xs, n + 1, h => by
    obtain ⟨x, r, rfl, p, q⟩ := h
    exact IsL.drop n q
theorem IsL.one {d : D} {x : V} (h : Is G φ H d x) : IsL G φ H [d] [x] := ⟨x, [], rfl, h, rfl⟩
theorem IsL.cons {d : D} {x : V} {ds : List D} {xs : List V} (h : Is G φ H d x) (k : IsL G φ H ds xs) : IsL G φ H (d :: ds) (x :: xs) := ⟨x, xs, rfl, h, k⟩
theorem IsL.reverse : ∀ {ds : List D} {xs : List V}, IsL G φ H ds xs → IsL G φ H ds.reverse xs.reverse
  | [], xs, h => by cases (show xs = [] from h); exact rfl
  | d :: ds, xs, h => by
    obtain ⟨x, r, rfl, p, q⟩ := h
    rw [List.reverse_cons, List.reverse_cons]
    exact IsL.append (IsL.reverse q) (.one p)
theorem IsL.ints : ∀ {ns : List Int} {xs : List V}, IsL G φ H (ns.map D.int) xs → xs = ns.map V.int
  | [], xs, h => h
  | n :: ns, xs, h => by
    obtain ⟨x, r, rfl, p, q⟩ := h
    rw [IsL.ints q, show x = V.int n from p]; rfl
theorem IsL.of_ints : ∀ {ns : List Int}, IsL G φ H (ns.map D.int) (ns.map V.int)
  | [] => rfl
  | n :: ns => ⟨_, _, rfl, rfl, IsL.of_ints⟩
theorem IsL.bls : ∀ {ns : List Bool} {xs : List V}, IsL G φ H (ns.map D.bl) xs → xs = ns.map V.bl
  | [], xs, h => h
  | n :: ns, xs, h => by
    obtain ⟨x, r, rfl, p, q⟩ := h
    rw [IsL.bls q, show x = V.bl n from p]; rfl
end

/-- a cell as it lies at its address -/
def CellOk (G : Glb) (φ : Fi) (H : Hp) (a : Addr) : Cell → Prop
  | .lst ds => ∃ xs, H a = some (.lst xs) ∧ IsL G φ H ds xs
  | .dic kvs => ∃ ws, H a = some (.dK ws) ∧ ws.map (·.1) = kvs.map (·.1) ∧ IsL G φ H (kvs.map (·.2)) (ws.map (·.2))
  | .dct kvs => ∃ ws, H a = some (.dT ws) ∧ ws.map (·.1) = kvs.map (·.1) ∧ IsL G φ H (kvs.map (·.2)) (ws.map (·.2))
  | .ins c fs => ∃ C dx ws, G.ca c = some C ∧ H a = some (.ins C dx ws) ∧ ws.map (·.1) = fs.map (·.1) ∧ IsL G φ H (fs.map (·.2)) (ws.map (·.2))
/-- no tuple, locked or not -/
def NoTup : HO → Prop
  | .tup _ => False
  | .frz _ (.tup _) => False
  | _ => True
structure SOk (G : Glb) (φ : Fi) (S : Store) (H : Hp) : Prop where
  len : φ.c.length = S.length
  nd : φ.c.Nodup
  hid : ∀ a ∈ φ.h, a ∉ φ.c ∧ ∃ o, H a = some o ∧ NoTup o
  cell : ∀ (l : Nat) (c : Cell), S[l]? = some c → ∃ a, φ.c[l]? = some a ∧ CellOk G φ H a c

section
variable {G : Glb} {φ φ' : Fi} {H H' : Hp} {S : Store}
theorem CellOk.some {a : Addr} {c : Cell} (h : CellOk G φ H a c) : ∃ o, H a = some o := by
  cases c with
  | lst ds => obtain ⟨xs, h, _⟩ := h; exact ⟨_, h⟩
  | dic kvs => obtain ⟨xs, h, _⟩ := h; exact ⟨_, h⟩
  | ins c fs => obtain ⟨C, dx, ws, _, h, _⟩ := h; exact ⟨_, h⟩
  | dct kvs => obtain ⟨xs, h, _⟩ := h; exact ⟨_, h⟩
theorem CellOk.move {a : Addr} {c : Cell} (k : Kept φ H φ' H') (e : H' a = H a) (h : CellOk G φ H a c) : CellOk G φ' H' a c := by
  cases c with
  | lst ds => obtain ⟨xs, h, q⟩ := h; exact ⟨xs, by rw [e]; exact h, q.kept k⟩
  | dic kvs => obtain ⟨xs, h, z, q⟩ := h; exact ⟨xs, by rw [e]; exact h, z, q.kept k⟩
  | ins c fs => obtain ⟨C, dx, ws, z, h, y, q⟩ := h; exact ⟨C, dx, ws, z, by rw [e]; exact h, y, q.kept k⟩
  | dct kvs => obtain ⟨xs, h, z, q⟩ := h; exact ⟨xs, by rw [e]; exact h, z, q.kept k⟩
theorem SOk.there (s : SOk G φ S H) {a : Addr} (h : a ∈ φ.c) : ∃ o, H a = some o := by
  obtain ⟨l, hl, e⟩ := List.getElem_of_mem h
  have hS : l < S.length := by rw [← s.len]; exact hl
  obtain ⟨b, hb, c⟩ := s.cell l S[l] (List.getElem?_eq_getElem hS)
  rw [List.getElem?_eq_getElem hl, e] at hb
  cases hb
  exact c.some
theorem SOk.freshc (s : SOk G φ S H) {a : Addr} (h : H a = none) : a ∉ φ.c := fun q => by
  obtain ⟨o, e⟩ := s.there q
  rw [h] at e; cases e
theorem SOk.freshh (s : SOk G φ S H) {a : Addr} (h : H a = none) : a ∉ φ.h := fun q => by
  obtain ⟨_, o, e, _⟩ := s.hid a q
  rw [h] at e; cases e
theorem SOk.fresh (s : SOk G φ S H) {a : Addr} (h : H a = none) : φ.out a := ⟨s.freshc h, s.freshh h⟩
/-- a new object that is not of the store -/
theorem Ext.laid {a : Addr} {o : HO} (h : H a = none) : Ext φ H φ (upd H a o) :=
  ⟨⟨[], by simp, fun _ q => by simp at q⟩, rfl, fun b u _ e => .inl (by rw [upd_ne (ne_of_none e h)]; exact e)⟩
theorem Ext.keepN (e : Ext φ H φ' H') {a : Addr} (n : a ∉ φ.c) (h : ∃ o, H a = some o ∧ NoTup o) : ∃ o, H' a = some o ∧ NoTup o := by
  obtain ⟨o, h, t⟩ := h
  rcases e.keep a o n h with z | ⟨od, _, dt, z⟩
  · exact ⟨o, z, t⟩
  · refine ⟨_, z, ?_⟩
    rcases dt with ⟨_, rfl⟩ | ⟨_, rfl⟩ <;> exact trivial
theorem SOk.step (s : SOk G φ S H) (e : Ext φ H φ H') (k : ∀ a ∈ φ.c, H' a = H a) : SOk G φ S H' :=
  ⟨s.len, s.nd, fun a ha => let ⟨n, q⟩ := s.hid a ha; ⟨n, e.keepN n q⟩, fun l c h => by
    obtain ⟨a, ha, hc⟩ := s.cell l c h
    exact ⟨a, ha, hc.move e.kept (k a (List.mem_of_getElem? ha))⟩⟩
theorem SOk.laid (s : SOk G φ S H) {a : Addr} {o : HO} (h : H a = none) : SOk G φ S (upd H a o) :=
  s.step (.laid h) fun b hb => upd_ne fun q => by subst q; exact s.freshc h hb
/-- a new cell -/
def Fi.add (φ : Fi) (a : Addr) : Fi := ⟨φ.c ++ [a], φ.h⟩
theorem Ext.newCell {a : Addr} {o : HO} (s : SOk G φ S H) (h : H a = none) : Ext φ H (φ.add a) (upd H a o) :=
  ⟨⟨[a], rfl, fun b hb => by simp at hb; subst hb; exact ⟨s.freshc h, h⟩⟩, rfl, fun b u _ e => .inl (by rw [upd_ne (ne_of_none e h)]; exact e)⟩
theorem SOk.newCell (s : SOk G φ S H) {a : Addr} {o : HO} {c : Cell} (h : H a = none) (hc : CellOk G (φ.add a) (upd H a o) a c) : SOk G (φ.add a) (S ++ [c]) (upd H a o) := by
  refine ⟨by simp [Fi.add, s.len], ?_, fun b hb => ?_, fun l d hl => ?_⟩
  · refine List.nodup_append.mpr ⟨s.nd, by simp, fun x hx y hy => ?_⟩
    simp at hy; subst hy
    intro e; subst e; exact s.freshc h hx
  · obtain ⟨n, u, e, t⟩ := s.hid b hb
    have nb : b ≠ a := ne_of_none e h
    exact ⟨fun z => (List.mem_append.mp z).elim n fun z => nb (by simpa using z), u, by rw [upd_ne nb]; exact e, t⟩
  · by_cases q : l < S.length
    · rw [List.getElem?_append_left q] at hl
      obtain ⟨b, hb, kb⟩ := s.cell l d hl
      refine ⟨b, (Ext.newCell (o := o) s h).get hb, kb.move (Ext.newCell (o := o) s h).kept (upd_ne fun z => ?_)⟩
      subst z; exact s.freshc h (List.mem_of_getElem? hb)
    · rw [List.getElem?_append_right (Nat.le_of_not_lt q)] at hl
      have e : l = S.length := by
        have := (List.getElem?_eq_some_iff.mp hl).1
        simp at this; omega
      subst e
      simp at hl; subst hl
      exact ⟨a, by rw [← s.len]; simp [Fi.add], hc⟩
/-- a cell is written -/
theorem Ext.put {a : Addr} {o : HO} (h : a ∈ φ.c) : Ext φ H φ (upd H a o) :=
  ⟨⟨[], by simp, fun _ q => by simp at q⟩, rfl, fun b u n e => .inl (by rw [upd_ne (fun z => n (by rw [z]; exact h))]; exact e)⟩
theorem SOk.put (s : SOk G φ S H) {l : Nat} {a : Addr} {o : HO} {c : Cell} (ha : φ.c[l]? = some a) (hc : CellOk G φ (upd H a o) a c) : SOk G φ (S.set l c) (upd H a o) := by
  have hl : l < S.length := by rw [← s.len]; exact (List.getElem?_eq_some_iff.mp ha).1
  refine ⟨by simp [s.len], s.nd, fun b hb => ?_, fun i d hd => ?_⟩
  · obtain ⟨n, u, e, t⟩ := s.hid b hb
    exact ⟨n, u, by rw [upd_ne (fun z => n (by rw [z]; exact List.mem_of_getElem? ha))]; exact e, t⟩
  · by_cases q : i = l
    · subst q
      rw [List.getElem?_set_self hl] at hd
      cases hd
      exact ⟨a, ha, hc⟩
    · rw [List.getElem?_set_ne (fun z => q z.symm)] at hd
      obtain ⟨b, hb, kb⟩ := s.cell i d hd
      refine ⟨b, hb, kb.move (Ext.put (List.mem_of_getElem? ha)).kept (upd_ne fun z => ?_)⟩
      subst z
      exact q (nd_ix s.nd hb ha)
theorem SOk.at_ (s : SOk G φ S H) {l : Nat} {c : Cell} {a : Addr} (h : S[l]? = some c) (ha : φ.c[l]? = some a) : CellOk G φ H a c := by
  obtain ⟨b, hb, k⟩ := s.cell l c h
  rw [ha] at hb; cases hb; exact k
/-- a hidden object -/
def Fi.hide (φ : Fi) (a : Addr) : Fi := ⟨φ.c, a :: φ.h⟩
theorem Kept.hide {a : Addr} {o : HO} (h : H a = none) : Kept φ H (φ.hide a) (upd H a o) := by
  have no : ∀ {b : Addr} {u : HO}, φ.out b → Rd H b u → (φ.hide a).out b := fun {b u} n r => ⟨n.1, fun q => (List.mem_cons.mp q).elim (fun z => by
    subst z
    rcases r with r | ⟨_, r⟩ <;> rw [h] at r <;> cases r) n.2⟩
  refine ⟨fun _ _ q => q, fun b u n r => ⟨no n r, ?_⟩, fun b C dx fs n r => ⟨no (u := .ins C dx fs) n (.inl r), ?_⟩, fun b o u n r => ⟨no (u := .frz o u) n (.inl r), ?_⟩, fun b p n r => ⟨no (u := .ext p) n (.inl r), ?_⟩, fun b p n r => ⟨no (u := .xd p) n (.inl r), ?_⟩⟩
  · rcases r with r | ⟨w, r⟩
    · exact .inl (by rw [upd_ne (ne_of_none r h)]; exact r)
    · exact .inr ⟨w, by rw [upd_ne (ne_of_none r h)]; exact r⟩
  · rw [upd_ne (ne_of_none r h)]; exact r
  · rw [upd_ne (ne_of_none r h)]; exact r
  · rw [upd_ne (ne_of_none r h)]; exact r
  · rw [upd_ne (ne_of_none r h)]; exact r
theorem Kept.show_ {a : Addr} : Kept (φ.hide a) H φ H :=
  ⟨fun _ _ q => q, fun b u n r => ⟨⟨n.1, fun z => n.2 (List.mem_cons_of_mem _ z)⟩, r⟩, fun b C dx fs n r => ⟨⟨n.1, fun z => n.2 (List.mem_cons_of_mem _ z)⟩, r⟩, fun b o u n r => ⟨⟨n.1, fun z => n.2 (List.mem_cons_of_mem _ z)⟩, r⟩, fun b p n r => ⟨⟨n.1, fun z => n.2 (List.mem_cons_of_mem _ z)⟩, r⟩, fun b p n r => ⟨⟨n.1, fun z => n.2 (List.mem_cons_of_mem _ z)⟩, r⟩⟩
/-- the hidden object changes -/
theorem Kept.hidden {a : Addr} {o : HO} (hm : a ∈ φ.h) : Kept φ H φ (upd H a o) := by
  have nb : ∀ {b : Addr}, φ.out b → b ≠ a := fun n z => n.2 (by rw [z]; exact hm)
  refine ⟨fun _ _ q => q, fun b u n r => ⟨n, ?_⟩, fun b C dx fs n r => ⟨n, by rw [upd_ne (nb n)]; exact r⟩, fun b o u n r => ⟨n, by rw [upd_ne (nb n)]; exact r⟩, fun b p n r => ⟨n, by rw [upd_ne (nb n)]; exact r⟩, fun b p n r => ⟨n, by rw [upd_ne (nb n)]; exact r⟩⟩
  rcases r with r | ⟨w, r⟩
  · exact .inl (by rw [upd_ne (nb n)]; exact r)
  · exact .inr ⟨w, by rw [upd_ne (nb n)]; exact r⟩
theorem SOk.hide (s : SOk G φ S H) {a : Addr} {o : HO} (h : H a = none) (ho : NoTup o := by exact trivial) : SOk G (φ.hide a) S (upd H a o) := by
  refine ⟨s.len, s.nd, fun b hb => ?_, fun l c hl => ?_⟩
  · rcases List.mem_cons.mp hb with rfl | hb
    · exact ⟨s.freshc h, o, upd_same, ho⟩
    · obtain ⟨n, u, e, t⟩ := s.hid b hb
      exact ⟨n, u, by rw [upd_ne (ne_of_none e h)]; exact e, t⟩
  · obtain ⟨b, hb, kb⟩ := s.cell l c hl
    exact ⟨b, hb, kb.move (Kept.hide h) (upd_ne fun z => by subst z; exact s.freshc h (List.mem_of_getElem? hb))⟩
theorem SOk.show_ {a : Addr} (s : SOk G (φ.hide a) S H) : SOk G φ S H :=
  ⟨s.len, s.nd, fun b hb => s.hid b (List.mem_cons_of_mem _ hb), fun l c hl => let ⟨b, hb, kb⟩ := s.cell l c hl; ⟨b, hb, kb.move Kept.show_ rfl⟩⟩
theorem SOk.hidden (s : SOk G φ S H) {a : Addr} {o : HO} (hm : a ∈ φ.h) (ho : NoTup o := by exact trivial) : SOk G φ S (upd H a o) := by
  refine ⟨s.len, s.nd, fun b hb => ?_, fun l c hl => ?_⟩
  · obtain ⟨n, u, e, t⟩ := s.hid b hb
    by_cases q : b = a
    · subst q; exact ⟨n, o, upd_same, ho⟩
    · exact ⟨n, u, by rw [upd_ne q]; exact e, t⟩
  · obtain ⟨b, hb, kb⟩ := s.cell l c hl
    exact ⟨b, hb, kb.move (Kept.hidden hm) (upd_ne fun z => by subst z; exact (s.hid _ hm).1 (List.mem_of_getElem? hb))⟩
end
end DL
end
section
/-! D-layer, part 1: what expressions and statements give, the judgements. -/
namespace DL
open PySem L2

structure Exc where
  cls : Str
  fld : Option (Str × D)

inductive ER where
  | ok (d : D) (S : Store)
  | ex (x : Exc) (S : Store)
  | bad
inductive LR where
  | ok (ds : List D) (S : Store)
  | ex (x : Exc) (S : Store)
  | bad
inductive SR where
  | nx (e : EnvD) (S : Store)
  | rt (d : D) (S : Store)
  | bk (e : EnvD) (S : Store)
  | ct (e : EnvD) (S : Store)
  | ex (x : Exc) (e : EnvD) (S : Store)
  | bad
abbrev EM := EnvD → Store → ER
abbrev LM := EnvD → Store → LR
abbrev SM := EnvD → Store → SR
abbrev FD := List D → Store → ER

def ER.bind (r : ER) (g : D → Store → ER) : ER := match r with
  | .ok d S => g d S
  | .ex x S => .ex x S
  | .bad => .bad
def ER.bindL (r : ER) (g : D → Store → LR) : LR := match r with
  | .ok d S => g d S
  | .ex x S => .ex x S
  | .bad => .bad
def LR.bind (r : LR) (g : List D → Store → LR) : LR := match r with
  | .ok d S => g d S
  | .ex x S => .ex x S
  | .bad => .bad
def LR.bindE (r : LR) (g : List D → Store → ER) : ER := match r with
  | .ok d S => g d S
  | .ex x S => .ex x S
  | .bad => .bad
def ER.bindS (r : ER) (e : EnvD) (g : D → Store → SR) : SR := match r with
  | .ok d S => g d S
  | .ex x S => .ex x e S
  | .bad => .bad
def LR.bindS (r : LR) (e : EnvD) (g : List D → Store → SR) : SR := match r with
  | .ok d S => g d S
  | .ex x S => .ex x e S
  | .bad => .bad
def SR.seq (r : SR) (g : EnvD → Store → SR) : SR := match r with
  | .nx e S => g e S
  | r => r

/-- an exception as it lies -/
def IsX (G : Glb) (φ : Fi) (H : Hp) (x : Exc) (cls : Value) (dx : Option Addr) : Prop :=
  ∃ C, G.ce x.cls = some C ∧ cls = .ref C ∧ match x.fld with
    | none => dx = none
    | some (f, d) => ∃ a v, dx = some a ∧ φ.out a ∧ H a = some (.xd [(f, v)]) ∧ Is G φ H d v
theorem IsX.ext {G : Glb} {φ φ' : Fi} {H H' : Hp} (e : Ext φ H φ' H') {x : Exc} {cls : Value} {dx : Option Addr} (h : IsX G φ H x cls dx) : IsX G φ' H' x cls dx := by
  obtain ⟨C, a, b, q⟩ := h
  refine ⟨C, a, b, ?_⟩
  cases hx : x.fld with
  | none => rw [hx] at q; exact q
  | some p =>
    rw [hx] at q
    obtain ⟨a', v, e1, n, e2, i⟩ := q
    exact ⟨a', v, e1, e.out n e2, e.keepE n.1 e2, i.ext e⟩

def RepE (G : Glb) (φ : Fi) (H : Hp) (σ : St) (env : EnvD) : Prop :=
  σ.length = env.length ∧ ∀ (i : Nat) (d : D), env[i]? = some (some d) → ∃ v, σ[i]? = some (some v) ∧ Is G φ H d v
theorem RepE.kept {G : Glb} {φ φ' : Fi} {H H' : Hp} {σ : St} {env : EnvD} (k : Kept φ H φ' H') (h : RepE G φ H σ env) : RepE G φ' H' σ env :=
  ⟨h.1, fun i d e => let ⟨v, a, b⟩ := h.2 i d e; ⟨v, a, b.kept k⟩⟩
theorem RepE.ext {G : Glb} {φ φ' : Fi} {H H' : Hp} {σ : St} {env : EnvD} (e : Ext φ H φ' H') (h : RepE G φ H σ env) : RepE G φ' H' σ env := h.kept e.kept
theorem RepE.set {G : Glb} {φ : Fi} {H : Hp} {σ : St} {env : EnvD} (h : RepE G φ H σ env) {d : D} {v : V} (k : Is G φ H d v) (i : Nat) : RepE G φ H (σ.set i (some v)) (env.set i (some d)) := by
  refine ⟨by simp [h.1], fun j d' e => ?_⟩
  by_cases q : i = j
  · subst q
    by_cases hl : i < env.length
    · rw [List.getElem?_set_self hl] at e
      cases e
      exact ⟨v, by rw [List.getElem?_set_self (by rw [h.1]; exact hl)], k⟩
    · rw [List.getElem?_eq_none (by simpa using hl)] at e; cases e
  · rw [List.getElem?_set_ne q] at e
    obtain ⟨w, a, b⟩ := h.2 j d' e
    exact ⟨w, by rw [List.getElem?_set_ne q]; exact a, b⟩
def wipeD (env : EnvD) : List Nat → EnvD
  | [] => env
  | v :: vs => (wipeD env vs).set v none
theorem RepE.wipe {G : Glb} {φ : Fi} {H : Hp} {σ : St} {env : EnvD} (h : RepE G φ H σ env) : ∀ vs : List Nat, RepE G φ H (wipe σ vs) (wipeD env vs)
  | [] => h
  | w :: vs => by
    have ih := RepE.wipe h vs
    refine ⟨by simp [L2.wipe, wipeD, ih.1], fun j d' e => ?_⟩
    unfold wipeD at e
    unfold L2.wipe
    by_cases q : w = j
    · subst q
      by_cases hl : w < (wipeD env vs).length
      · rw [List.getElem?_set_self hl] at e; cases e
      · rw [List.getElem?_eq_none (by simpa using hl)] at e; cases e
    · rw [List.getElem?_set_ne q] at e ⊢
      exact ih.2 j d' e

section
variable (G : Glb) (W : WX) (φ : Fi) (H : Hp) (σ : St)
def PostE (r : ER) (Q : VK) : Prop := match r with
  | .ok d S => ∀ φ' H' v, Ext φ H φ' H' → SOk G φ' S H' → Is G φ' H' d v → Q v H'
  | .ex x S => ∀ φ' H' cls dx, Ext φ H φ' H' → SOk G φ' S H' → IsX G φ' H' x cls dx → W cls dx σ H'
  | .bad => False
def PostL (r : LR) (Q : List V → Hp → Prop) : Prop := match r with
  | .ok d S => ∀ φ' H' v, Ext φ H φ' H' → SOk G φ' S H' → IsL G φ' H' d v → Q v H'
  | .ex x S => ∀ φ' H' cls dx, Ext φ H φ' H' → SOk G φ' S H' → IsX G φ' H' x cls dx → W cls dx σ H'
  | .bad => False
def PostS (r : SR) (N : Ends) : Prop := match r with
  | .nx e S => ∀ φ' H' σ', Ext φ H φ' H' → SOk G φ' S H' → RepE G φ' H' σ' e → N.nx σ' H'
  | .rt d S => ∀ φ' H' v, Ext φ H φ' H' → SOk G φ' S H' → Is G φ' H' d v → N.rt v H'
  | .bk e S => ∀ φ' H' σ', Ext φ H φ' H' → SOk G φ' S H' → RepE G φ' H' σ' e → N.bk σ' H'
  | .ct e S => ∀ φ' H' σ', Ext φ H φ' H' → SOk G φ' S H' → RepE G φ' H' σ' e → N.ct σ' H'
  | .ex x e S => ∀ φ' H' σ' cls dx, Ext φ H φ' H' → SOk G φ' S H' → RepE G φ' H' σ' e → IsX G φ' H' x cls dx → W cls dx σ' H'
  | .bad => False
end

section
variable {G : Glb} {W : WX} {φ φ' : Fi} {H H' : Hp} {σ : St}
theorem PostE.ext (e : Ext φ H φ' H') {r : ER} {Q : VK} (h : PostE G W φ H σ r Q) : PostE G W φ' H' σ r Q := by
  cases r with
  | ok d S => exact fun φ2 H2 v e2 s i => h φ2 H2 v (e.trans e2) s i
  | ex x S => exact fun φ2 H2 c d e2 s i => h φ2 H2 c d (e.trans e2) s i
  | bad => exact h
theorem PostL.ext (e : Ext φ H φ' H') {r : LR} {Q : List V → Hp → Prop} (h : PostL G W φ H σ r Q) : PostL G W φ' H' σ r Q := by
  cases r with
  | ok d S => exact fun φ2 H2 v e2 s i => h φ2 H2 v (e.trans e2) s i
  | ex x S => exact fun φ2 H2 c d e2 s i => h φ2 H2 c d (e.trans e2) s i
  | bad => exact h
theorem PostS.ext (e : Ext φ H φ' H') {r : SR} {N : Ends} (h : PostS G W φ H r N) : PostS G W φ' H' r N := by
  cases r with
  | nx d S => exact fun φ2 H2 v e2 s i => h φ2 H2 v (e.trans e2) s i
  | rt d S => exact fun φ2 H2 v e2 s i => h φ2 H2 v (e.trans e2) s i
  | bk d S => exact fun φ2 H2 v e2 s i => h φ2 H2 v (e.trans e2) s i
  | ct d S => exact fun φ2 H2 v e2 s i => h φ2 H2 v (e.trans e2) s i
  | ex x d S => exact fun φ2 H2 v c dx e2 s i => h φ2 H2 v c dx (e.trans e2) s i
  | bad => exact h
/-- the ways on -/
theorem PostE.bind {r : ER} {g : D → Store → ER} {Q Q' : VK} (h : PostE G W φ H σ (r.bind g) Q)
    (k : ∀ d S φ' H' v, Ext φ H φ' H' → SOk G φ' S H' → Is G φ' H' d v → PostE G W φ' H' σ (g d S) Q → Q' v H') : PostE G W φ H σ r Q' := by
  cases r with
  | ok d S => exact fun φ2 H2 v e s i => k d S φ2 H2 v e s i (PostE.ext (r := g d S) e h)
  | ex x S => exact h
  | bad => exact h
theorem PostE.bindL {r : ER} {g : D → Store → LR} {Q : List V → Hp → Prop} {Q' : VK} (h : PostL G W φ H σ (r.bindL g) Q)
    (k : ∀ d S φ' H' v, Ext φ H φ' H' → SOk G φ' S H' → Is G φ' H' d v → PostL G W φ' H' σ (g d S) Q → Q' v H') : PostE G W φ H σ r Q' := by
  cases r with
  | ok d S => exact fun φ2 H2 v e s i => k d S φ2 H2 v e s i (PostL.ext (r := g d S) e h)
  | ex x S => exact h
  | bad => exact h
theorem PostL.bind {r : LR} {g : List D → Store → LR} {Q Q' : List V → Hp → Prop} (h : PostL G W φ H σ (r.bind g) Q)
    (k : ∀ d S φ' H' v, Ext φ H φ' H' → SOk G φ' S H' → IsL G φ' H' d v → PostL G W φ' H' σ (g d S) Q → Q' v H') : PostL G W φ H σ r Q' := by
  cases r with
  | ok d S => exact fun φ2 H2 v e s i => k d S φ2 H2 v e s i (PostL.ext (r := g d S) e h)
  | ex x S => exact h
  | bad => exact h
theorem PostL.bindE {r : LR} {g : List D → Store → ER} {Q : VK} {Q' : List V → Hp → Prop} (h : PostE G W φ H σ (r.bindE g) Q)
    (k : ∀ d S φ' H' v, Ext φ H φ' H' → SOk G φ' S H' → IsL G φ' H' d v → PostE G W φ' H' σ (g d S) Q → Q' v H') : PostL G W φ H σ r Q' := by
  cases r with
  | ok d S => exact fun φ2 H2 v e s i => k d S φ2 H2 v e s i (PostE.ext (r := g d S) e h)
  | ex x S => exact h
  | bad => exact h
theorem PostE.bindS {r : ER} {env : EnvD} (re : RepE G φ H σ env) {g : D → Store → SR} {N : Ends} {Q' : VK} (h : PostS G W φ H (r.bindS env g) N)
    (k : ∀ d S φ' H' v, Ext φ H φ' H' → SOk G φ' S H' → Is G φ' H' d v → PostS G W φ' H' (g d S) N → Q' v H') : PostE G W φ H σ r Q' := by
  cases r with
  | ok d S => exact fun φ2 H2 v e s i => k d S φ2 H2 v e s i (PostS.ext (r := g d S) e h)
  | ex x S => exact fun φ2 H2 c d e s i => h φ2 H2 σ c d e s (re.ext e) i
  | bad => exact h
theorem PostL.bindS {r : LR} {env : EnvD} (re : RepE G φ H σ env) {g : List D → Store → SR} {N : Ends} {Q' : List V → Hp → Prop} (h : PostS G W φ H (r.bindS env g) N)
    (k : ∀ d S φ' H' v, Ext φ H φ' H' → SOk G φ' S H' → IsL G φ' H' d v → PostS G W φ' H' (g d S) N → Q' v H') : PostL G W φ H σ r Q' := by
  cases r with
  | ok d S => exact fun φ2 H2 v e s i => k d S φ2 H2 v e s i (PostS.ext (r := g d S) e h)
  | ex x S => exact fun φ2 H2 c d e s i => h φ2 H2 σ c d e s (re.ext e) i
  | bad => exact h
theorem PostE.now {d : D} {S : Store} {v : V} {Q : VK} (h : PostE G W φ H σ (.ok d S) Q) (s : SOk G φ S H) (i : Is G φ H d v) : Q v H := h φ H v .refl s i
theorem PostL.now {d : List D} {S : Store} {v : List V} {Q : List V → Hp → Prop} (h : PostL G W φ H σ (.ok d S) Q) (s : SOk G φ S H) (i : IsL G φ H d v) : Q v H := h φ H v .refl s i
end

/-! ### the judgements -/
def DE (G : Glb) (X : Cx) (W : WX) (e : Expr) (f : EM) : Prop :=
  ∃ t, PE X e t ∧ ∀ σ H env φ S Q, SOk G φ S H → RepE G φ H σ env → PostE G W φ H σ (f env S) Q → t σ H Q
/-- a test -/
def PostT (G : Glb) (W : WX) (φ : Fi) (H : Hp) (σ : St) (r : ER) (Q : Bool → Hp → Prop) : Prop := PostE G W φ H σ (r.bind fun d S => match d with | .bl b => .ok (.bl b) S | _ => .bad) (fun v H' => ∀ b, v = .bl b → Q b H')
def DT (G : Glb) (X : Cx) (W : WX) (e : Expr) (f : EM) : Prop :=
  ∃ t, PT X e t ∧ ∀ σ H env φ S Q, SOk G φ S H → RepE G φ H σ env → PostT G W φ H σ (f env S) Q → t σ H Q
def DW (G : Glb) (X : Cx) (W : WX) (e : Expr) (f : EM) : Prop :=
  ∃ t, PW X e t ∧ ∀ σ H env φ S Q, SOk G φ S H → RepE G φ H σ env → PostT G W φ H σ (f env S) Q → t σ H Q
def DA (G : Glb) (X : Cx) (W : WX) (es : List Expr) (f : LM) : Prop :=
  ∃ t, PA X es t ∧ ∀ σ H env φ S Q, SOk G φ S H → RepE G φ H σ env → PostL G W φ H σ (f env S) Q → t σ H Q
def DS (G : Glb) (X : Cx) (W : WX) (st : Stmt) (f : SM) : Prop :=
  ∃ t, PS X st t ∧ ∀ σ H env φ S N, SOk G φ S H → RepE G φ H σ env → PostS G W φ H (f env S) N → t N σ H
def DSs (G : Glb) (X : Cx) (W : WX) (st : List Stmt) (f : SM) : Prop :=
  ∃ t, PSs X st t ∧ ∀ σ H env φ S N, SOk G φ S H → RepE G φ H σ env → PostS G W φ H (f env S) N → t N σ H
/-- alike but at some slots -/
def Off (vs : List Nat) (σ σ' : St) : Prop := σ'.length = σ.length ∧ ∀ j, j ∉ vs → σ'[j]? = σ[j]?
/-- a target; vs: the slots that it binds -/
def DG (G : Glb) (X : Cx) (tg : Expr) (b : D → EnvD → Option EnvD) (vs : List Nat) : Prop :=
  ∃ g, PG X tg g ∧ ∀ v d σ H env env' φ Q, Is G φ H d v → RepE G φ H σ env → b d env = some env' → (∀ σ', RepE G φ H σ' env' → Off vs σ σ' → Q σ' H) → g v σ H Q
def DGs (G : Glb) (X : Cx) (tgs : List Expr) (b : List D → EnvD → Option EnvD) (vs : List Nat) : Prop :=
  ∃ g, PGs X tgs g ∧ ∀ v d σ H env env' φ Q, IsL G φ H d v → RepE G φ H σ env → b d env = some env' → (∀ σ', RepE G φ H σ' env' → Off vs σ σ' → Q σ' H) → g v σ H Q

section
variable {G : Glb} {X : Cx} {W : WX}

/-! ### names and constants -/
def eVar (i : Nat) : EM := fun env S => match env[i]? with
  | some (some d) => .ok d S
  | _ => .bad
def eC (d : D) : EM := fun _ S => .ok d S
theorem de_var (i : Nat) {x : Str} {pos : Pos} (hN : X.N[i]? = some x := by rfl) (hv : Vis X.env.scope x := by first | exact Or.inl rfl | exact Or.inr (Or.inl rfl) | exact Or.inr (Or.inr rfl)) (hd : (x == ("__debug__" : Str)) = false := by decide)
    (hcd : (x == ("__classdict__" : Str)) = false := by decide) : DE G X W (.Name x pos) (eVar i) :=
  ⟨_, pe_var hN hv hd hcd, fun σ H env φ S Q s r h => by
    unfold eVar at h
    cases e : env[i]? with
    | none => rw [e] at h; exact h.elim
    | some o =>
      cases o with
      | none => rw [e] at h; exact h.elim
      | some d =>
        rw [e] at h
        obtain ⟨v, hv, k⟩ := r.2 i d e
        exact ⟨v, hv, h.now s k⟩⟩
theorem de_int {i : Int} {j pos} : DE G X W (.Constant (.int i) j pos) (eC (.int i)) := ⟨_, pe_int, fun _ _ _ _ _ _ s _ h => h.now s rfl⟩
theorem de_bl {i : Bool} {j pos} : DE G X W (.Constant (.bool i) j pos) (eC (.bl i)) := ⟨_, pe_bl, fun _ _ _ _ _ _ s _ h => h.now s rfl⟩
theorem de_non {j pos} : DE G X W (.Constant .none j pos) (eC .non) := ⟨_, pe_non, fun _ _ _ _ _ _ s _ h => h.now s rfl⟩
theorem de_str {x : Str} {j pos} : DE G X W (.Constant (.str x) j pos) (eC (.str x)) := ⟨_, pe_str, fun _ _ _ _ _ _ s _ h => h.now s rfl⟩
/-- a constant of the module: a number, a text, a truth, a tuple or list of such -/
theorem de_glob {x : Str} {d : D} {v : V} {u : Value} {pos : Pos} (hg : Gl X x) (hm : X.mg x = some u) (r : RelV v u) (hi : ∀ φ H, Is G φ H d v) (hd : (x == ("__debug__" : Str)) = false := by decide) : DE G X W (.Name x pos) (eC d) :=
  ⟨_, pe_glob hg hm r hd, fun _ _ _ _ _ _ s _ h => h.now s (hi _ _)⟩

/-! ### arguments -/
def lNil : LM := fun _ S => .ok [] S
def lCons (f : EM) (g : LM) : LM := fun env S => (f env S).bindL fun d S => (g env S).bind fun ds S => .ok (d :: ds) S
theorem da_nil : DA G X W [] lNil := ⟨_, pa_nil, fun _ _ _ _ _ _ s _ h => h.now s rfl⟩
theorem da_cons {e : Expr} {es : List Expr} {f : EM} {g : LM} (ha : DE G X W e f) (hb : DA G X W es g) (hs : starEach (e :: es) X.env = (false, eval e X.env) :: starEach es X.env := by rfl) : DA G X W (e :: es) (lCons f g) := by
  obtain ⟨ta, pa, qa⟩ := ha
  obtain ⟨tb, pb, qb⟩ := hb
  refine ⟨_, pa_cons pa pb hs, fun σ H env φ S Q s r h => ?_⟩
  refine qa σ H env φ S _ s r (PostE.bindL h fun d S1 φ1 H1 v e1 s1 i1 h1 => ?_)
  refine qb σ H1 env φ1 S1 _ s1 (r.ext e1) (PostL.bind h1 fun ds S2 φ2 H2 vs e2 s2 i2 h2 => ?_)
  exact h2.now s2 (.cons (i1.ext e2) i2)

/-! ### operators -/
/-- an operator by values -/
def DOp (G : Glb) (X : Cx) (f : Value → Value → Sem Value) (g : D → D → Store → ER) : Prop :=
  ∃ r, OpR X f r ∧ ∀ W φ S H σ dx dy x y Q, SOk G φ S H → Is G φ H dx x → Is G φ H dy y → PostE G W φ H σ (g dx dy S) Q → r x y H Q
def eOp (g : D → D → Store → ER) (a b : EM) : EM := fun env S => (a env S).bind fun x S => (b env S).bind fun y S => g x y S
theorem op_of {t ta tb : TE} {r : R2} {g : D → D → Store → ER} {fa fb : EM} (ha : ∀ σ H env φ S Q, SOk G φ S H → RepE G φ H σ env → PostE G W φ H σ (fa env S) Q → ta σ H Q)
    (hb : ∀ σ H env φ S Q, SOk G φ S H → RepE G φ H σ env → PostE G W φ H σ (fb env S) Q → tb σ H Q)
    (hr : ∀ W φ S H σ dx dy x y Q, SOk G φ S H → Is G φ H dx x → Is G φ H dy y → PostE G W φ H σ (g dx dy S) Q → r x y H Q) :
    ∀ σ H env φ S Q, SOk G φ S H → RepE G φ H σ env → PostE G W φ H σ (eOp g fa fb env S) Q → tOp r ta tb σ H Q := fun σ H env φ S Q s re h => by
  refine ha σ H env φ S _ s re (PostE.bind h fun d S1 φ1 H1 v e1 s1 i1 h1 => ?_)
  refine hb σ H1 env φ1 S1 _ s1 (re.ext e1) (PostE.bind h1 fun d2 S2 φ2 H2 v2 e2 s2 i2 h2 => ?_)
  exact hr W φ2 S2 H2 σ d d2 v v2 Q s2 (i1.ext e2) i2 h2
theorem de_op {op : Operator} {a b : Expr} {pos : Pos} {g : D → D → Store → ER} {fa fb : EM} (ho : DOp G X (binaryOp op) g) (ha : DE G X W a fa) (hb : DE G X W b fb) : DE G X W (.BinOp a op b pos) (eOp g fa fb) := by
  obtain ⟨r, hr, q⟩ := ho
  obtain ⟨ta, pa, qa⟩ := ha
  obtain ⟨tb, pb, qb⟩ := hb
  exact ⟨_, pe_op hr pa pb, op_of (t := ta) qa qb q⟩
theorem de_cmp {op : CmpOp} {a b : Expr} {pos : Pos} {g : D → D → Store → ER} {fa fb : EM} (ho : DOp G X (compareOp op) g) (ha : DE G X W a fa) (hb : DE G X W b fb) (hm : behindInMarks op b = false := by first | exact nomark _ | rfl) : DE G X W (.Compare a [op] [b] pos) (eOp g fa fb) := by
  obtain ⟨r, hr, q⟩ := ho
  obtain ⟨ta, pa, qa⟩ := ha
  obtain ⟨tb, pb, qb⟩ := hb
  exact ⟨_, pe_cmpR hr pa pb hm, op_of (t := ta) qa qb q⟩
theorem PostT.of {r : ER} {φ : Fi} {H : Hp} {σ : St} {Q : Bool → Hp → Prop} (h : PostT G W φ H σ r Q) : PostE G W φ H σ r fun x H' => ∃ k, x = .bl k ∧ Q k H' := by
  unfold PostT at h
  refine PostE.bind h fun d S φ' H' v e s i k => ?_
  cases d with
  | bl b =>
    have q := k.now s (show Is G φ' H' (.bl b) (.bl b) from rfl)
    exact ⟨b, i, q b rfl⟩
  | _ => exact False.elim k
theorem dt_cmp {op : CmpOp} {a b : Expr} {pos : Pos} {g : D → D → Store → ER} {fa fb : EM} (ho : DOp G X (compareOp op) g) (ha : DE G X W a fa) (hb : DE G X W b fb) (hm : behindInMarks op b = false := by first | exact nomark _ | rfl) : DT G X W (.Compare a [op] [b] pos) (eOp g fa fb) := by
  obtain ⟨r, hr, q⟩ := ho
  obtain ⟨ta, pa, qa⟩ := ha
  obtain ⟨tb, pb, qb⟩ := hb
  exact ⟨_, pt_cmpR hr pa pb hm, fun σ H env φ S Q s re h => op_of (t := ta) qa qb q σ H env φ S _ s re h.of⟩
/-- any expression that gives a truth, as a test -/
theorem dt_val {e : Expr} {f : EM} (h : DE G X W e f) (he : ∀ whole, isTrue e X.env whole = (do let v ← whole; standAt e.pos; holding [v] (truthy v)) := by intro _; rfl) : DT G X W e f := by
  obtain ⟨t, p, q⟩ := h
  refine ⟨_, pt_val p he, fun σ H env φ S Q s re hq => ?_⟩
  exact q σ H env φ S _ s re hq.of
theorem IsL.empty {φ : Fi} {H : Hp} {ds : List D} {xs : List V} (h : IsL G φ H ds xs) : (!ds.isEmpty) = !xs.isEmpty := by
  cases ds with
  | nil => cases (show xs = [] from h); rfl
  | cons d ds => obtain ⟨x, r, rfl, _⟩ := h; rfl
/-! ### and, or, not, if else -/
def eAnd (a b : EM) : EM := fun env S => (a env S).bind fun d S => match d with | .bl true => b env S | .bl false => .ok (.bl false) S | _ => .bad
def eOr (a b : EM) : EM := fun env S => (a env S).bind fun d S => match d with | .bl true => .ok (.bl true) S | .bl false => b env S | _ => .bad
def eNot (a : EM) : EM := fun env S => (a env S).bind fun d S => match d with | .bl b => .ok (.bl (!b)) S | _ => .bad
def eIf (c a b : EM) : EM := fun env S => (c env S).bind fun d S => match d with | .bl true => a env S | .bl false => b env S | _ => .bad
theorem de_one {op : BoolOp} {a : Expr} {pos : Pos} {f : EM} (h : DE G X W a f) : DE G X W (.BoolOp op [a] pos) f := let ⟨_, p, q⟩ := h; ⟨_, pe_one p, q⟩
theorem de_and {a b : Expr} {rest : List Expr} {pos : Pos} {fa fb : EM} (ha : DE G X W a fa) (hb : DE G X W (.BoolOp .And (b :: rest) pos) fb) : DE G X W (.BoolOp .And (a :: b :: rest) pos) (eAnd fa fb) := by
  obtain ⟨ta, pa, qa⟩ := ha
  obtain ⟨tb, pb, qb⟩ := hb
  refine ⟨_, pe_and pa pb, fun σ H env φ S Q s re h => ?_⟩
  refine qa σ H env φ S _ s re (PostE.bind h fun d S1 φ1 H1 v e1 s1 i1 h1 => ?_)
  cases d with
  | bl k =>
    refine ⟨k, i1, ?_⟩
    cases k with
    | true => exact iteT (qb σ H1 env φ1 S1 _ s1 (re.ext e1) h1)
    | false => exact iteF (h1.now s1 rfl)
  | _ => exact False.elim h1
theorem de_or {a b : Expr} {rest : List Expr} {pos : Pos} {fa fb : EM} (ha : DE G X W a fa) (hb : DE G X W (.BoolOp .Or (b :: rest) pos) fb) : DE G X W (.BoolOp .Or (a :: b :: rest) pos) (eOr fa fb) := by
  obtain ⟨ta, pa, qa⟩ := ha
  obtain ⟨tb, pb, qb⟩ := hb
  refine ⟨_, pe_or pa pb, fun σ H env φ S Q s re h => ?_⟩
  refine qa σ H env φ S _ s re (PostE.bind h fun d S1 φ1 H1 v e1 s1 i1 h1 => ?_)
  cases d with
  | bl k =>
    refine ⟨k, i1, ?_⟩
    cases k with
    | true => exact iteT (h1.now s1 rfl)
    | false => exact iteF (qb σ H1 env φ1 S1 _ s1 (re.ext e1) h1)
  | _ => exact False.elim h1
theorem de_not {a : Expr} {pos : Pos} {fa : EM} (ha : DE G X W a fa) : DE G X W (.UnaryOp .Not a pos) (eNot fa) := by
  obtain ⟨ta, pa, qa⟩ := ha
  refine ⟨_, pe_not pa, fun σ H env φ S Q s re h => ?_⟩
  refine qa σ H env φ S _ s re (PostE.bind h fun d S1 φ1 H1 v e1 s1 i1 h1 => ?_)
  cases d with
  | bl k => exact ⟨k, i1, h1.now s1 rfl⟩
  | _ => exact False.elim h1
theorem PostT.bind {r : ER} {g : D → Store → ER} {φ : Fi} {H : Hp} {σ : St} {Q Q' : Bool → Hp → Prop} (h : PostT G W φ H σ (r.bind g) Q)
    (k : ∀ b S φ' H', Ext φ H φ' H' → SOk G φ' S H' → PostT G W φ' H' σ (g (.bl b) S) Q → Q' b H') (nb : ∀ d S, (∀ b, d ≠ .bl b) → g d S = .bad) : PostT G W φ H σ r Q' := by
  cases r with
  | ok d S =>
    cases d with
    | bl b =>
      intro φ2 H2 v e s i b' eb
      cases (show v = .bl b from i)
      cases eb
      exact k b S φ2 H2 e s (PostE.ext e h)
    | _ =>
      have z : PostT G W φ H σ (g _ S) Q := h
      rw [nb _ _ (fun b q => by cases q)] at z
      exact False.elim z
  | ex x S => exact h
  | bad => exact h
theorem PostT.now {b : Bool} {S : Store} {φ : Fi} {H : Hp} {σ : St} {Q : Bool → Hp → Prop} (h : PostT G W φ H σ (.ok (.bl b) S) Q) (s : SOk G φ S H) : Q b H := h φ H (.bl b) .refl s rfl b rfl
theorem dt_not {a : Expr} {pos : Pos} {fa : EM} (ha : DT G X W a fa) : DT G X W (.UnaryOp .Not a pos) (eNot fa) := by
  obtain ⟨ta, pa, qa⟩ := ha
  refine ⟨_, pt_not pa, fun σ H env φ S Q s re h => ?_⟩
  refine qa σ H env φ S _ s re (PostT.bind h (fun b S1 φ1 H1 e1 s1 h1 => PostT.now h1 s1) fun d S q => ?_)
  cases d with
  | bl b => exact absurd rfl (q b)
  | _ => rfl
theorem dw_and1 {a : Expr} {pos : Pos} {f : EM} (h : DT G X W a f) : DW G X W (.BoolOp .And [a] pos) f := let ⟨_, p, q⟩ := h; ⟨_, pw_and1 p, q⟩
theorem dw_or1 {a : Expr} {pos : Pos} {f : EM} (h : DT G X W a f) : DW G X W (.BoolOp .Or [a] pos) f := let ⟨_, p, q⟩ := h; ⟨_, pw_or1 p, q⟩
theorem dw_and {a b : Expr} {rest : List Expr} {pos : Pos} {fa fb : EM} (ha : DT G X W a fa) (hb : DW G X W (.BoolOp .And (b :: rest) pos) fb) : DW G X W (.BoolOp .And (a :: b :: rest) pos) (eAnd fa fb) := by
  obtain ⟨ta, pa, qa⟩ := ha
  obtain ⟨tb, pb, qb⟩ := hb
  refine ⟨_, pw_and pa pb, fun σ H env φ S Q s re h => ?_⟩
  refine qa σ H env φ S _ s re (PostT.bind h (fun b S1 φ1 H1 e1 s1 h1 => ?_) fun d S q => ?_)
  · cases b with
    | true => exact iteT (qb σ H1 env φ1 S1 _ s1 (re.ext e1) h1)
    | false => exact iteF (h1.now s1)
  · cases d with
    | bl b => exact absurd rfl (q b)
    | _ => rfl
theorem dw_or {a b : Expr} {rest : List Expr} {pos : Pos} {fa fb : EM} (ha : DT G X W a fa) (hb : DW G X W (.BoolOp .Or (b :: rest) pos) fb) : DW G X W (.BoolOp .Or (a :: b :: rest) pos) (eOr fa fb) := by
  obtain ⟨ta, pa, qa⟩ := ha
  obtain ⟨tb, pb, qb⟩ := hb
  refine ⟨_, pw_or pa pb, fun σ H env φ S Q s re h => ?_⟩
  refine qa σ H env φ S _ s re (PostT.bind h (fun b S1 φ1 H1 e1 s1 h1 => ?_) fun d S q => ?_)
  · cases b with
    | true => exact iteT (h1.now s1)
    | false => exact iteF (qb σ H1 env φ1 S1 _ s1 (re.ext e1) h1)
  · cases d with
    | bl b => exact absurd rfl (q b)
    | _ => rfl
theorem DW.t {e : Expr} {f : EM} (h : DW G X W e f) : DT G X W e f := let ⟨_, p, q⟩ := h; ⟨_, p.pt, q⟩
theorem de_if {c a b : Expr} {pos : Pos} {fc fa fb : EM} (hc : DT G X W c fc) (ha : DE G X W a fa) (hb : DE G X W b fb) : DE G X W (.IfExp c a b pos) (eIf fc fa fb) := by
  obtain ⟨tc, pc, qc⟩ := hc
  obtain ⟨ta, pa, qa⟩ := ha
  obtain ⟨tb, pb, qb⟩ := hb
  refine ⟨_, pe_ifExp pc pa pb, fun σ H env φ S Q s re h => ?_⟩
  unfold eIf at h
  refine qc σ H env φ S _ s re ?_
  cases hr : fc env S with
  | ok d S1 =>
    rw [hr] at h
    cases d with
    | bl k =>
      intro φ1 H1 v e s1 i b eb
      cases (show v = .bl k from i)
      cases eb
      cases k with
      | true => exact iteT (qa σ H1 env φ1 S1 _ s1 (re.ext e) (PostE.ext e h))
      | false => exact iteF (qb σ H1 env φ1 S1 _ s1 (re.ext e) (PostE.ext e h))
    | _ => exact False.elim h
  | ex x S1 => rw [hr] at h; exact h
  | bad => rw [hr] at h; exact h

/-! ### tuples and lists -/
/-- a length that may be; how it is decided stays shut (the kernel would count) -/
def sz (n : Nat) : Prop := n ≤ 16777216
noncomputable instance {n : Nat} : Decidable (sz n) := Classical.propDecidable _
noncomputable def eTup (f : LM) : EM := fun env S => (f env S).bindE fun ds S => if sz ds.length then .ok (.tup ds) S else .bad
noncomputable def eLst (f : LM) : EM := fun env S => (f env S).bindE fun ds S => if sz ds.length then .ok (.lst ds) S else .bad
/-- a list that is kept as a cell -/
noncomputable def eLstM (f : LM) : EM := fun env S => (f env S).bindE fun ds S => if sz ds.length then .ok (.loc S.length) (S ++ [.lst ds]) else .bad
theorem tup_new {φ : Fi} {H : Hp} {S : Store} {σ : St} {ds : List D} {xs : List V} {Q : VK} (s : SOk G φ S H) (i : IsL G φ H ds xs) (h : PostE G W φ H σ (.ok (.tup ds) S) Q) {p : Addr} (hp : H p = none) : Q (.ref p) (upd H p (.tup xs)) :=
  h φ _ _ (.laid hp) (s.laid hp) ⟨p, xs, rfl, .inl ⟨s.fresh hp, .inl upd_same⟩, i.ext (.laid hp)⟩
theorem lst_new {φ : Fi} {H : Hp} {S : Store} {σ : St} {ds : List D} {xs : List V} {Q : VK} (s : SOk G φ S H) (i : IsL G φ H ds xs) (h : PostE G W φ H σ (.ok (.lst ds) S) Q) {p : Addr} (hp : H p = none) : Q (.ref p) (upd H p (.lst xs)) :=
  h φ _ _ (.laid hp) (s.laid hp) ⟨p, xs, rfl, .inl ⟨s.fresh hp, .inl upd_same⟩, i.ext (.laid hp)⟩
theorem lst_newM {φ : Fi} {H : Hp} {S : Store} {σ : St} {ds : List D} {xs : List V} {Q : VK} (s : SOk G φ S H) (i : IsL G φ H ds xs) (h : PostE G W φ H σ (.ok (.loc S.length) (S ++ [.lst ds])) Q) {p : Addr} (hp : H p = none) : Q (.ref p) (upd H p (.lst xs)) :=
  h (φ.add p) _ _ (.newCell s hp) (s.newCell hp ⟨xs, upd_same, i.ext (.newCell s hp)⟩) ⟨p, by rw [← s.len]; simp [Fi.add], rfl⟩
theorem sizeLine_is {n : Nat} (h : n ≤ 16777216) : n ≤ sizeLine := by rw [sizeLine_eq]; exact h
theorem de_tup {es : List Expr} {x1} {pos : Pos} {f : LM} (h : DA G X W es f) : DE G X W (.Tuple es x1 pos) (eTup f) := by
  obtain ⟨t, p, q⟩ := h
  refine ⟨_, pe_tup p, fun σ H env φ S Q s re hq => ?_⟩
  refine q σ H env φ S _ s re (PostL.bindE hq fun ds S1 φ1 H1 xs e1 s1 i1 h1 => ?_)
  by_cases hl : sz ds.length
  · rw [if_pos hl] at h1
    exact ⟨by rw [← i1.length]; exact sizeLine_is hl, fun p hp => tup_new s1 i1 h1 hp⟩
  · rw [if_neg hl] at h1; exact h1.elim
theorem de_lst {es : List Expr} {pos : Pos} {f : LM} (h : DA G X W es f) : DE G X W (.List es pos) (eLst f) := by
  obtain ⟨t, p, q⟩ := h
  refine ⟨_, pe_lst p, fun σ H env φ S Q s re hq => ?_⟩
  refine q σ H env φ S _ s re (PostL.bindE hq fun ds S1 φ1 H1 xs e1 s1 i1 h1 => ?_)
  by_cases hl : sz ds.length
  · rw [if_pos hl] at h1
    exact ⟨by rw [← i1.length]; exact sizeLine_is hl, fun p hp => lst_new s1 i1 h1 hp⟩
  · rw [if_neg hl] at h1; exact h1.elim
theorem de_lstM {es : List Expr} {pos : Pos} {f : LM} (h : DA G X W es f) : DE G X W (.List es pos) (eLstM f) := by
  obtain ⟨t, p, q⟩ := h
  refine ⟨_, pe_lst p, fun σ H env φ S Q s re hq => ?_⟩
  refine q σ H env φ S _ s re (PostL.bindE hq fun ds S1 φ1 H1 xs e1 s1 i1 h1 => ?_)
  by_cases hl : sz ds.length
  · rw [if_pos hl] at h1
    exact ⟨by rw [← i1.length]; exact sizeLine_is hl, fun p hp => lst_newM s1 i1 h1 hp⟩
  · rw [if_neg hl] at h1; exact h1.elim

/-! ### statements -/
def sSkip : SM := fun e S => .nx e S
def sSeq (a b : SM) : SM := fun e S => (a e S).seq b
theorem dss_nil : DSs G X W [] sSkip := ⟨_, pss_nil, fun σ H env φ S N s re h => h φ H σ .refl s re⟩
theorem dss_cons {st : Stmt} {rest : List Stmt} {f g : SM} (ha : DS G X W st f) (hb : DSs G X W rest g) : DSs G X W (st :: rest) (sSeq f g) := by
  obtain ⟨t, p, q⟩ := ha
  obtain ⟨u, p', q'⟩ := hb
  refine ⟨_, pss_cons p p', fun σ H env φ S N s re h => ?_⟩
  refine q σ H env φ S _ s re ?_
  unfold sSeq at h
  cases hr : f env S with
  | nx e S1 =>
    rw [hr] at h
    exact fun φ1 H1 σ1 e1 s1 r1 => q' σ1 H1 e φ1 S1 _ s1 r1 (PostS.ext e1 h)
  | rt d S1 => rw [hr] at h; exact h
  | bk d S1 => rw [hr] at h; exact h
  | ct d S1 => rw [hr] at h; exact h
  | ex x d S1 => rw [hr] at h; exact h
  | bad => rw [hr] at h; exact h
theorem dss_one {st : Stmt} {f : SM} (ha : DS G X W st f) : DSs G X W [st] f := let ⟨_, p, q⟩ := ha; ⟨_, pss_one p, q⟩
def sBk : SM := fun e S => .bk e S
def sCt : SM := fun e S => .ct e S
def sRet (f : EM) : SM := fun e S => (f e S).bindS e fun d S => .rt d S
def sRetN : SM := fun e S => .rt .non S
def sDrop (f : EM) : SM := fun e S => (f e S).bindS e fun _ S => .nx e S
theorem ds_ret {e : Expr} {pos : Pos} {f : EM} (h : DE G X W e f) : DS G X W (.Return (some e) pos) (sRet f) := by
  obtain ⟨t, p, q⟩ := h
  refine ⟨_, ps_ret p, fun σ H env φ S N s re h => ?_⟩
  exact q σ H env φ S _ s re (PostE.bindS re h fun d S1 φ1 H1 v e1 s1 i1 h1 => h1 φ1 H1 v .refl s1 i1)
theorem ds_expr {e : Expr} {pos : Pos} {f : EM} (h : DE G X W e f) (hs : swapsWith e none pos.line X.env = pure false := by rfl) : DS G X W (.Expr e pos) (sDrop f) := by
  obtain ⟨t, p, q⟩ := h
  refine ⟨_, ps_expr p hs, fun σ H env φ S N s re h => ?_⟩
  exact q σ H env φ S _ s re (PostE.bindS re h fun d S1 φ1 H1 v e1 s1 i1 h1 => h1 φ1 H1 σ .refl s1 (re.ext e1))
def sIf (c : EM) (a b : SM) : SM := fun e S => (c e S).bindS e fun d S => match d with | .bl true => a e S | .bl false => b e S | _ => .bad
theorem ds_if {c : Expr} {a b : List Stmt} {pos : Pos} {fc : EM} {fa fb : SM} (hc : DT G X W c fc) (ha : DSs G X W a fa) (hb : DSs G X W b fb) : DS G X W (.If c a b pos) (sIf fc fa fb) := by
  obtain ⟨tc, pc, qc⟩ := hc
  obtain ⟨ta, pa, qa⟩ := ha
  obtain ⟨tb, pb, qb⟩ := hb
  refine ⟨_, ps_if pc pa pb, fun σ H env φ S N s re h => ?_⟩
  unfold sIf at h
  refine qc σ H env φ S _ s re ?_
  cases hr : fc env S with
  | ok d S1 =>
    rw [hr] at h
    cases d with
    | bl k =>
      intro φ1 H1 v e s1 i b eb
      cases (show v = .bl k from i)
      cases eb
      cases k with
      | true => exact iteT (qa σ H1 env φ1 S1 _ s1 (re.ext e) (PostS.ext e h))
      | false => exact iteF (qb σ H1 env φ1 S1 _ s1 (re.ext e) (PostS.ext e h))
    | _ => exact False.elim h
  | ex x S1 =>
    rw [hr] at h
    exact fun φ2 H2 c d e s i => h φ2 H2 σ c d e s (re.ext e) i
  | bad => rw [hr] at h; exact h

/-! ### targets, assignments -/
def bName (i : Nat) : D → EnvD → Option EnvD := fun d env => some (env.set i (some d))
theorem dg_name {i : Nat} {x : Str} {pos : Pos} (hN : X.N.Nodup) (hi : X.N[i]? = some x) (hx : Loc X.env.scope x) (hf : X.fn x = true ∨ X.env.scope.names.lookup x = some .local := by first | exact .inl rfl | exact .inr rfl) : DG G X (.Name x pos) (bName i) [i] :=
  ⟨_, pg_name hN hi hx hf, fun v d σ H env env' φ Q i1 r e k => by
    cases e
    refine k _ (r.set i1 i) ⟨by simp, fun j hj => ?_⟩
    rw [List.getElem?_set_ne (fun z => hj (by simp [z]))]⟩
def bNil : List D → EnvD → Option EnvD := fun ds env => match ds with | [] => some env | _ => none
def bCons (b : D → EnvD → Option EnvD) (c : List D → EnvD → Option EnvD) : List D → EnvD → Option EnvD := fun ds env => match ds with | [] => none | d :: ds => (b d env).bind (c ds)
def bTup (b : List D → EnvD → Option EnvD) : D → EnvD → Option EnvD := fun d env => match d with | .tup ds => b ds env | _ => none
theorem dgs_nil : DGs G X [] bNil [] := ⟨_, pgs_nil, fun v d σ H env env' φ Q i1 r e k => by
  cases d with
  | nil =>
    cases (show v = [] from i1)
    cases e
    exact ⟨rfl, k σ r ⟨rfl, fun _ _ => rfl⟩⟩
  | cons _ _ => cases e⟩
theorem dgs_cons {e : Expr} {es : List Expr} {b : D → EnvD → Option EnvD} {c : List D → EnvD → Option EnvD} {vs ws : List Nat} (h1 : DG G X e b vs) (h2 : DGs G X es c ws) (hs : List.map (fun x => x.snd) (assignEach (e :: es) X.env) = assign e X.env :: List.map (fun x => x.snd) (assignEach es X.env) := by rfl) : DGs G X (e :: es) (bCons b c) (vs ++ ws) := by
  obtain ⟨g, p, q⟩ := h1
  obtain ⟨g', p', q'⟩ := h2
  refine ⟨_, pgs_cons p p' hs, fun v d σ H env env' φ Q i1 r e k => ?_⟩
  cases d with
  | nil => cases e
  | cons d ds =>
    obtain ⟨x, xs, rfl, i2, i3⟩ := i1
    obtain ⟨env1, e1, e2⟩ := Option.bind_eq_some_iff.mp (show (b d env).bind (c ds) = some env' from e)
    refine ⟨x, xs, rfl, q x d σ H env env1 φ _ i2 r e1 fun σ1 r1 o1 => ?_⟩
    exact q' xs ds σ1 H env1 env' φ Q i3 r1 e2 fun σ2 r2 o2 => k σ2 r2 ⟨o2.1.trans o1.1, fun j hj => (o2.2 j fun z => hj (List.mem_append_right _ z)).trans (o1.2 j fun z => hj (List.mem_append_left _ z))⟩
def BLen (n : Nat) (b : List D → EnvD → Option EnvD) : Prop := ∀ ds env env', b ds env = some env' → ds.length = n
theorem blen_nil : BLen 0 bNil := fun ds env env' e => by
  cases ds with
  | nil => rfl
  | cons _ _ => cases e
theorem blen_cons {n : Nat} {b : D → EnvD → Option EnvD} {c : List D → EnvD → Option EnvD} (h : BLen n c) : BLen (n + 1) (bCons b c) := fun ds env env' e => by
  cases ds with
  | nil => cases e
  | cons d ds =>
    obtain ⟨env1, e1, e2⟩ := Option.bind_eq_some_iff.mp (show (b d env).bind (c ds) = some env' from e)
    simp [h _ _ _ e2]
theorem dg_tup {es : List Expr} {k n : Nat} {pos : Pos} {b : List D → EnvD → Option EnvD} {vs : List Nat} (hc : X.calm = true) (hK : X.K = G.K) (h : DGs G X es b vs) (hb : BLen n b)
    (hn : (assignEach es X.env).length = n := by rfl) (hst : (assignEach es X.env).findIdx? (·.1) = none := by rfl) : DG G X (.Tuple es k pos) (bTup b) vs := by
  obtain ⟨g, p, q⟩ := h
  refine ⟨_, pg_tup (n := n) hc p hn hst, fun v d σ H env env' φ Q i1 r e k => ?_⟩
  cases d with
  | tup ds =>
    obtain ⟨a, xs, rfl, rt, il⟩ := i1
    exact ⟨a, xs, rfl, by rw [hK]; exact rt.seq, by rw [← il.length]; exact hb _ _ _ e, q xs ds σ H env env' φ Q il r e k⟩
  | _ => cases e
def sAsg (f : EM) (b : D → EnvD → Option EnvD) : SM := fun e S => (f e S).bindS e fun d S => match b d e with | some e' => .nx e' S | none => .bad
theorem ds_asg {tg e : Expr} {pos : Pos} {f : EM} {b : D → EnvD → Option EnvD} {vs : List Nat} (he : DE G X W e f) (hg : DG G X tg b vs) (hs : swapsWithSole [tg] e pos.line X.env = pure false := by rfl) (hw : swappedStores [tg] e X.env = pure none := by rfl)
    (h1 : List.map (fun x => x.snd) (assignEach [tg] X.env) = [assign tg X.env] := by rfl) : DS G X W (.Assign [tg] e pos) (sAsg f b) := by
  obtain ⟨t, p, q⟩ := he
  obtain ⟨g, p', q'⟩ := hg
  refine ⟨_, ps_asg p p' hs hw h1, fun σ H env φ S N s re h => ?_⟩
  refine q σ H env φ S _ s re (PostE.bindS re h fun d S1 φ1 H1 v e1 s1 i1 h1 => ?_)
  cases hb : b d env with
  | none => rw [hb] at h1; exact h1.elim
  | some env' =>
    rw [hb] at h1
    exact q' v d σ H1 env env' φ1 _ i1 (re.ext e1) hb fun σ' r' _ => h1 φ1 H1 σ' .refl s1 r'
/-- x = e -/
theorem ds_set {i : Nat} {x : Str} {e : Expr} {pos pos' : Pos} {f : EM} (hN : X.N.Nodup) (hi : X.N[i]? = some x) (hx : Loc X.env.scope x) (he : DE G X W e f) (hs : swapsWith e (some (.Name x pos')) pos.line X.env = pure false := by rfl)
    (hf : X.fn x = true ∨ X.env.scope.names.lookup x = some .local := by first | exact .inl rfl | exact .inr rfl) : DS G X W (.Assign [.Name x pos'] e pos) (sAsg f (bName i)) := by
  obtain ⟨t, p, q⟩ := he
  refine ⟨_, ps_set hN hi hx p hs hf, fun σ H env φ S N s re h => ?_⟩
  refine q σ H env φ S _ s re (PostE.bindS re h fun d S1 φ1 H1 v e1 s1 i1 h1 => ?_)
  exact h1 φ1 H1 _ .refl s1 ((re.ext e1).set i1 i)
end
end DL
end
section
/-! == and != of nested lists and dicts that hold the same. -/
namespace PySem.SeqAt
open AutoSeq1 (wpAny_loadPart')
open MeetsSeq MeetsSeq2 MeetsSeq3 SeqRoads2
section
variable {prog : Program} {w : World}
theorem own_ne_loopIn (l b : Addr) (items items2 : Array Value) (n n2 : Nat) (dd dd2 : Option Addr) (sl sl2 : Array (Option Value)) (hsz : items.size = items2.size) (e : Nat → Bool) (k : Nat) :
    ∀ i : Nat, items.size - i = k → MeetsIn prog w (Builtin.«list.__eq__.loop» ⟨[.ref l, .ref b, rawInt i, rawInt 3], []⟩)
      (fun A R s => s.heap.get? l = some { cls := .type "list", dict := dd, data := .seq items n, slots := sl } ∧ s.heap.get? b = some { cls := .type "list", dict := dd2, data := .seq items2 n2, slots := sl2 } ∧
        (∀ j (h1 : j < items.size) (h2 : j < items2.size), EqP prog w A.in1 s items[j] items2[j] (e j)) ∧
        R (.ok (.ret (.bool (!((List.range items.size).drop i).all e)))) s) := by
  induction k with
  | zero =>
    intro i hk A R s h
    obtain ⟨hp, g, d, tk, os⟩ := s; obtain ⟨hl, hb, he, h⟩ := h
    wp_walk using wpAny_loadPart' hl, wpAny_loadPart' hb
    have hi1 : items[((i : Nat) : Int).toNat]? = none := by simp; omega
    have hi2 : items2[((i : Nat) : Int).toNat]? = none := by simp; omega
    have hd : (List.range items.size).drop i = [] := by simp; omega
    rw [hd] at h
    rw [hi1, hi2]
    wp_walk using wpAny_loadPart' hl, wpAny_loadPart' hb
    show R (.ok (.ret (.bool (items.size != items2.size)))) _
    rw [hsz]
    simpa using h
  | succ k ih =>
    intro i hk A R s h
    obtain ⟨hp, g, d, tk, os⟩ := s; obtain ⟨hl, hb, he, h⟩ := h
    wp_walk using wpAny_loadPart' hl, wpAny_loadPart' hb
    have hlt : i < items.size := by omega
    have hlt2 : i < items2.size := by omega
    have hi1 : items[((i : Nat) : Int).toNat]? = some items[i] := by simp [hlt]
    have hi2 : items2[((i : Nat) : Int).toNat]? = some items2[i] := by simp [hlt2]
    have hd : (List.range items.size).drop i = i :: (List.range items.size).drop (i + 1) := by simp [List.drop_eq_getElem_cons, hlt]
    have hc : ((i : Int) + 1) = ((i + 1 : Nat) : Int) := by push_cast; rfl
    rw [hd, List.all_cons] at h
    rw [hi1, hi2]
    refine wpAny_bind (he i hlt hlt2 _ _ ?_)
    cases hb' : e i with
    | true =>
      rw [hb'] at h
      wp_walk
      rw [hc]
      exact ⟨plainId_quiet plain_eq_loop _, codeAny_builtin entry_eq_loop (by
        rw [Around.under_plainId plain_eq_loop _]
        exact ih (i + 1) (by omega) A R _ ⟨hl, hb, he, by simpa using h⟩)⟩
    | false =>
      rw [hb'] at h
      wp_walk using wpAny_loadPart' hl, wpAny_loadPart' hb
      rw [hi1, hi2]
      wp_walk
      simpa using h
theorem own_list_neIn (l b : Addr) (items items2 : Array Value) (n n2 : Nat) (dd dd2 : Option Addr) (sl sl2 : Array (Option Value)) (hsz : items.size = items2.size) (e : Nat → Bool) :
    MeetsIn prog w (Builtin.«list.__ne__» ⟨[.ref l, .ref b], []⟩)
      (fun A R s => s.heap.get? l = some { cls := .type "list", dict := dd, data := .seq items n, slots := sl } ∧ s.heap.get? b = some { cls := .type "list", dict := dd2, data := .seq items2 n2, slots := sl2 } ∧
        (∀ j (h1 : j < items.size) (h2 : j < items2.size), EqP prog w A.in1 s items[j] items2[j] (e j)) ∧
        R (.ok (.ret (.bool (!(List.range items.size).all e)))) s) := by
  intro A R s h
  obtain ⟨hp, g, d, tk, os⟩ := s; obtain ⟨hl, hb, he, h⟩ := h
  have f3 := AutoSeq1.sub_list_list
  have hne : ¬ (items.size != items2.size) = true := by simp [hsz]
  wp_walk using wpAny_loadPart' hl, wpAny_loadPart' hb
  exact ⟨plainId_quiet plain_eq_loop _, codeAny_builtin entry_eq_loop (by
    rw [Around.under_plainId plain_eq_loop _]
    exact own_ne_loopIn l b items items2 n n2 dd dd2 sl sl2 hsz e _ 0 rfl A R _ ⟨hl, hb, he, by simpa using h⟩)⟩
theorem rcNeP_lists {A : Around} {s : Shared} {l b : Addr} {items items2 : Array Value} {e : Nat → Bool} (hl : s.heap.IsList l items) (hb : s.heap.IsList b items2) (hsz : items.size = items2.size) (hu : A.units < cLine)
    (he : ∀ j (h1 : j < items.size) (h2 : j < items2.size), EqP prog w A.in1 s items[j] items2[j] (e j)) (E Q : Value → Shared → Prop) (h : Q (.bool (!(List.range items.size).all e)) s) : wpAny (model prog w) A (richCompare .NotEq (.ref l) (.ref b)) Q E s := by
  obtain ⟨⟨cls, dd, data, sl⟩, ho, hc, n, hd⟩ := id hl
  obtain ⟨⟨cls2, dd2, data2, sl2⟩, ho2, hc2, n2, hd2⟩ := id hb
  simp only at hc hd hc2 hd2
  subst hc hd hc2 hd2
  have ta : s.TypeIs (.ref l) "list" := ⟨_, ho, rfl⟩
  have tb : s.TypeIs (.ref b) "list" := ⟨_, ho2, rfl⟩
  exact wpAny_richCompare_same_room (op := .NotEq) ta tb F.slot_list_ne (call_meetsIn F.slot_list_ne ta F.entry_list_ne (F.args_list_ne_2 _ _) (own_list_neIn l b items items2 n n2 dd dd2 sl sl2 hsz e)
    ⟨ho, ho2, he, show Value.bool (!(List.range items.size).all e) ≠ Value.notImplemented ∧ Q (.bool (!(List.range items.size).all e)) s from ⟨(fun x => nomatch x), h⟩⟩) hu
end
end PySem.SeqAt
namespace PySem.W
open PySem PySem.SeqAt PyProof.Rows
section
variable {prog : Program} {w : World} {A : Around} {s : Shared} {K : Type} [DecidableEq K] {knd : KeyKind prog w K}
theorem rcNeP_dicts {a b : Addr} {ka kb : List (K × Value)} {r : Bool} (ha : (a == sysModules) = false) (hb : (b == sysModules) = false)
    (da : s.heap.DictOf knd a ka) (db : s.heap.DictOf knd b kb) (hu : A.units < cLine) (hits : ka.length = kb.length → KeqHitsP prog w A.in1 s kb ka r) (E Q : Value → Shared → Prop) (h : Q (.bool (!(ka.length == kb.length && r))) s) : wpAny (model prog w) A (richCompare .NotEq (.ref a) (.ref b)) Q E s := by
  refine wpAny_richCompare_same_room (op := .NotEq) da.typeIs db.typeIs PySem.F.slot_dict_ne (wpAny_call_entry PySem.F.slot_dict_ne da.typeIs PySem.F.entry_dict_ne ?_ (PySem.F.args_dict_ne_2 _ _)) hu
  show wpAny _ _ (Builtin.Dict.dictSlotArgs "__ne__" ⟨[.ref a, .ref b], []⟩ >>= _) _ _ s
  refine wpAny_bind ?_
  unfold Builtin.Dict.dictSlotArgs
  refine wpAny_bind (wpAny_notOrdered_dict da.typeIs ?_)
  show wpAny _ _ (pure (Value.ref a, Value.ref b)) _ _ s
  refine wpAny_pure ?_
  refine wpAny_bind (wpAny_isInstance (T := "dict") db.typeIs PySem.F.sub_dict_dict ?_)
  simp only [Bool.not_true, Bool.false_eq_true, if_false]
  refine wpAny_bind (wpAny_pure (wpAny_bind (wpAny_pure ?_)))
  refine wpAny_bind (samePairsP ha hb da db hits ?_)
  refine wpAny_pure ⟨_, rfl, ?_, ?_⟩
  · exact fun x => nomatch x
  · simpa using h
end
end PySem.W
namespace L2
open PySem PySem.Spec PyProof.Rows
/-- two things that hold the same, of nesting below n -/
def EqW (K : PySem.W.Frag) (H : Hp) : Nat → V → V → Prop
  | 0 => fun _ _ => False
  | n + 1 => fun x y => (∃ p, Dp K H x p ∧ Dp K H y p ∧ SeqAt.shaped p = true ∧ PyData.eqv p p = true) ∨ (∃ a b xs ys, x = .ref a ∧ y = .ref b ∧ SqL K H a xs ∧ SqL K H b ys ∧ Paired (EqW K H n) xs ys) ∨
      ∃ a b ks ls, x = .ref a ∧ y = .ref b ∧ Rd H a (.dK ks) ∧ Rd H b (.dK ls) ∧ ks.map (·.1) = ls.map (·.1) ∧ Paired (EqW K H n) (ks.map (·.2)) (ls.map (·.2))
/-- two lists, two dicts -/
def EqT (K : PySem.W.Frag) (H : Hp) (n : Nat) (x y : V) : Prop := (∃ a b xs ys, x = .ref a ∧ y = .ref b ∧ SqL K H a xs ∧ SqL K H b ys ∧ Paired (EqW K H n) xs ys) ∨
      ∃ a b ks ls, x = .ref a ∧ y = .ref b ∧ Rd H a (.dK ks) ∧ Rd H b (.dK ls) ∧ ks.map (·.1) = ls.map (·.1) ∧ Paired (EqW K H n) (ks.map (·.2)) (ls.map (·.2))
theorem valV_mem {ls : List (Key × V)} (nd : (ls.map (·.1)).Nodup) : ∀ {k : Key} {u : V}, (k, u) ∈ ls → valV ls k = some u := by
  induction ls with
  | nil => intro k u h; simp at h
  | cons p ls ih =>
    intro k u h
    rw [List.map_cons, List.nodup_cons] at nd
    rcases List.mem_cons.mp h with e | h
    · subst e
      exact valV_pos rfl
    · rw [valV_neg fun e => nd.1 (by rw [e]; exact List.mem_map.mpr ⟨_, h, rfl⟩)]
      exact ih nd.2 h
theorem paired_zip {F : V → V → Prop} : ∀ {ks ls : List (Key × V)}, ks.map (·.1) = ls.map (·.1) → Paired F (ks.map (·.2)) (ls.map (·.2)) → ∀ p ∈ ks, ∃ u, (p.1, u) ∈ ls ∧ F p.2 u
  | [], _, _, _, p, h => by simp at h
  | k :: ks, [], e, _, _, _ => by simp at e
  | k :: ks, l :: ls, e, q, p, h => by
    simp only [List.map_cons, List.cons.injEq] at e
    cases q with
    | cons r t =>
      rcases List.mem_cons.mp h with e2 | h
      · subst e2
        exact ⟨l.2, by rw [e.1]; simp, r⟩
      · obtain ⟨u, h1, h2⟩ := paired_zip e.2 t p h
        exact ⟨u, List.mem_cons_of_mem _ h1, h2⟩
theorem KV.keysV {ls : List (Key × V)} {vb : List (Key × Value)} (r : KV ls vb) : ls.map (·.1) = vb.map (·.1) := by
  unfold KV at r
  induction r with
  | nil => rfl
  | cons h _ ih => simp [h.1, ih]
section
variable {X : Cx} {pins : List (Addr × Obj)} {σ : St} {H : Hp} {s : Shared}
theorem eqT_dicts (I : Inv X pins σ H s) {A : Around} {F : V → V → Prop} (hu : A.units < cLine) (ih : ∀ x y v u, F x y → RelV x v → RelV y u → SeqAt.EqP X.prog X.w A.in1 s v u true) {a b : Addr} {ks ls : List (Key × V)} (ha : Rd H a (.dK ks)) (hb : Rd H b (.dK ls)) (ek : ks.map (·.1) = ls.map (·.1))
    (hp : Paired F (ks.map (·.2)) (ls.map (·.2))) : ∃ (ka kb : List (Key × Value)), (a == sysModules) = false ∧ (b == sysModules) = false ∧ s.heap.DictOf (mixKind X.prog X.w) a ka ∧ s.heap.DictOf (mixKind X.prog X.w) b kb ∧ PySem.W.KeqHitsP X.prog X.w A.in1 s kb ka true ∧ (ka.length == kb.length && true) = true := by
  obtain ⟨_, ya, va, ra, da⟩ := (show ObjOk X.prog X.w H s.heap a (.dK ks) from ha.ok I.hok)
  obtain ⟨_, yb, vb, rb, db⟩ := (show ObjOk X.prog X.w H s.heap b (.dK ls) from hb.ok I.hok)
  have nd : (ls.map (·.1)).Nodup := by
    obtain ⟨_, _, _, _, _, _, _, _, nd⟩ := id db
    rw [KV.keysV rb]; exact nd
  refine ⟨va, vb, ya, yb, da, db, hits_run ih rb ra (fun p hm => ?_), ?_⟩
  · obtain ⟨u, h1, h2⟩ := paired_zip ek hp p hm
    exact ⟨u, valV_mem nd h1, h2⟩
  · have e : va.length = vb.length := by
      rw [← ra.length, ← rb.length]
      simpa using congrArg List.length ek
    rw [e]; simp
theorem eqW_run (I : Inv X pins σ H s) : ∀ (n : Nat) (A : Around), A.units + n + 65 < cLine → ∀ (x y : V) (v u : Value), EqW X.K H n x y → RelV x v → RelV y u → SeqAt.EqP X.prog X.w A s v u true
  | 0, _, _, _, _, _, _, h, _, _ => (show False from h).elim
  | n + 1, A, hu, x, y, v, u, h, rx, ry => by
    have ih := eqW_run I n A.in1 (by show A.units + 1 + n + 65 < cLine; omega)
    rcases h with ⟨p, dx, dy, hs, he⟩ | ⟨a, b, xs, ys, rfl, rfl, ha, hb, hp⟩ | ⟨a, b, ks, ls, rfl, rfl, ha, hb, ek, hp⟩
    · obtain ⟨as, r1⟩ := Dp.reads I p x v dx rx
      obtain ⟨bs, r2⟩ := Dp.reads I p y u dy ry
      have q := SeqAt.eqAt_reads p p A s v u as bs r1 r2 (SeqAt.canLay_of_shaped hs) (SeqAt.canLay_of_shaped hs) (SeqAt.room_of_shaped hs (by omega))
      rw [he] at q
      exact q.eqP
    · cases (show v = Value.ref a from rx)
      cases (show u = Value.ref b from ry)
      by_cases e : a = b
      · subst e; exact (SeqAt.EqAt.same _).eqP
      · refine SeqAt.eqP_refs e fun E Q q => ?_
        obtain ⟨us, r1, p1, _⟩ := I.list ha
        obtain ⟨ws, r2, p2, _⟩ := I.list hb
        have hsz : us.toArray.size = ws.toArray.size := by
          rw [List.size_toArray, List.size_toArray, ← r1.length, ← r2.length]
          exact Paired.length hp
        refine SeqAt.rcP_lists (e := fun _ => true) p1.isList p2.isList hsz (by omega) (fun j h1 h2 => ?_) E Q ?_
        · have k := items_run ih hp r1 r2 j (by simpa using h1) (by simpa using h2)
          simpa using k
        · rw [show ((List.range us.toArray.size).all fun _ => true) = true from List.all_eq_true.mpr fun _ _ => rfl]
          exact q
    · cases (show v = Value.ref a from rx)
      cases (show u = Value.ref b from ry)
      by_cases e : a = b
      · subst e; exact (SeqAt.EqAt.same _).eqP
      · refine SeqAt.eqP_refs e fun E Q q => ?_
        obtain ⟨va, vb, ya, yb, da, db, hits, hl⟩ := eqT_dicts I (A := A) (by omega) ih ha hb ek hp
        refine PySem.W.rcP_dicts (knd := mixKind X.prog X.w) (r := true) ya yb da db (by omega) (fun _ => hits) E Q ?_
        rw [hl]; exact q
theorem eqT_run (I : Inv X pins σ H s) {A : Around} {n : Nat} (hn : n ≤ 20) (hu : A.units + 100 < cLine) {x y : V} {v u : Value} (h : EqT X.K H n x y) (rx : RelV x v) (ry : RelV y u) (E Q : Value → Shared → Prop) :
    (Q (.bool true) s → wpAny (model X.prog X.w) A (richCompare .Eq v u) Q E s) ∧ (Q (.bool false) s → wpAny (model X.prog X.w) A (richCompare .NotEq v u) Q E s) := by
  have ih := eqW_run I n A.in1 (by show A.units + 1 + n + 65 < cLine; omega)
  rcases h with ⟨a, b, xs, ys, rfl, rfl, ha, hb, hp⟩ | ⟨a, b, ks, ls, rfl, rfl, ha, hb, ek, hp⟩
  · cases (show v = Value.ref a from rx)
    cases (show u = Value.ref b from ry)
    obtain ⟨us, r1, p1, _⟩ := I.list ha
    obtain ⟨ws, r2, p2, _⟩ := I.list hb
    have hsz : us.toArray.size = ws.toArray.size := by
      rw [List.size_toArray, List.size_toArray, ← r1.length, ← r2.length]
      exact Paired.length hp
    have it : ∀ j (h1 : j < us.toArray.size) (h2 : j < ws.toArray.size), SeqAt.EqP X.prog X.w A.in1 s us.toArray[j] ws.toArray[j] true := fun j h1 h2 => by
      have k := items_run ih hp r1 r2 j (by simpa using h1) (by simpa using h2)
      simpa using k
    have al : ((List.range us.toArray.size).all fun _ => true) = true := List.all_eq_true.mpr fun _ _ => rfl
    exact ⟨fun q => SeqAt.rcP_lists (e := fun _ => true) p1.isList p2.isList hsz (by omega) it E Q (by rw [al]; exact q), fun q => SeqAt.rcNeP_lists (e := fun _ => true) p1.isList p2.isList hsz (by omega) it E Q (by rw [al]; exact q)⟩
  · cases (show v = Value.ref a from rx)
    cases (show u = Value.ref b from ry)
    obtain ⟨va, vb, ya, yb, da, db, hits, hl⟩ := eqT_dicts I (A := A) (by omega) ih ha hb ek hp
    exact ⟨fun q => PySem.W.rcP_dicts (knd := mixKind X.prog X.w) (r := true) ya yb da db (by omega) (fun _ => hits) E Q (by rw [hl]; exact q), fun q => PySem.W.rcNeP_dicts (knd := mixKind X.prog X.w) (r := true) ya yb da db (by omega) (fun _ => hits) E Q (by rw [hl]; exact q)⟩
end
section
variable {X : Cx}
def rEqT (K : PySem.W.Frag) (r : Bool) : R2 := fun x y H Q => ∃ n, n ≤ 20 ∧ EqT K H n x y ∧ Q (.bl r) H
theorem op_eqT (hu : X.A.units + 100 < cLine) : OpR X (compareOp .Eq) (rEqT X.K true) := by
  intro pins s σ H x y v u Q I rx ry ⟨n, hn, h, q⟩
  exact (eqT_run I hn hu h rx ry _ _).1 ⟨.bl true, H, I, rfl, q⟩
theorem op_neT (hu : X.A.units + 100 < cLine) : OpR X (compareOp .NotEq) (rEqT X.K false) := by
  intro pins s σ H x y v u Q I rx ry ⟨n, hn, h, q⟩
  exact (eqT_run I hn hu h rx ry _ _).2 ⟨.bl false, H, I, rfl, q⟩
end
end L2
end
section
/-! D-layer, part 2: operators, subscripts, calls of built-ins. -/
namespace DL
open PySem L2

/-- the items of a list, be it a value or a cell -/
def listD (S : Store) : D → Option (List D)
  | .lst ds => some ds
  | .loc l => match S[l]? with
    | some (.lst ds) => some ds
    | _ => none
  | _ => none
def tupD : D → Option (List D)
  | .tup ds => some ds
  | _ => none
section
variable {G : Glb} {X : Cx} {W : WX} {φ : Fi} {S : Store} {H : Hp} {σ : St}
theorem listD_sq {d : D} {v : V} {ds : List D} (s : SOk G φ S H) (i : Is G φ H d v) (e : listD S d = some ds) : ∃ a xs, v = .ref a ∧ SqL G.K H a xs ∧ IsL G φ H ds xs := by
  cases d with
  | lst es =>
    cases e
    obtain ⟨a, xs, e1, r, q⟩ := i
    exact ⟨a, xs, e1, r.seq, q⟩
  | loc l =>
    obtain ⟨a, ha, e1⟩ := i
    simp only [listD] at e
    cases hc : S[l]? with
    | none => rw [hc] at e; cases e
    | some c =>
      rw [hc] at e
      have k := s.at_ hc ha
      cases c with
      | lst es =>
        cases e
        obtain ⟨xs, hx, q⟩ := k
        exact ⟨a, xs, e1, SqL.of hx, q⟩
      | _ => cases e
  | _ => cases e
theorem tupD_sq {d : D} {v : V} {ds : List D} (i : Is G φ H d v) (e : tupD d = some ds) : ∃ a xs, v = .ref a ∧ SqT G.K H a xs ∧ IsL G φ H ds xs := by
  cases d with
  | tup es =>
    cases e
    obtain ⟨a, xs, e1, r, q⟩ := i
    exact ⟨a, xs, e1, r.seq, q⟩
  | _ => cases e

/-! ### + - * // % ** -/
theorem add_lst_any {pins : List (Addr × Obj)} {s : Shared} {xs ys : List V} {a b : Addr} {E : Value → Shared → Prop} {Q : VK} (I : Inv X pins σ H s) (ha : SqL X.K H a xs) (hb : SqL X.K H b ys) (hz : xs.length + ys.length ≤ sizeLine)
    (q : ∀ p, H p = none → Q (.ref p) (upd H p (.lst (xs ++ ys)))) : wpAny (model X.prog X.w) X.A (binaryOp .Add (.ref a) (.ref b)) (EP X pins σ Q) E s := by
  obtain ⟨i1, r1, ⟨⟨c1, d1, t1, sl1⟩, n1, g1, hc1, hd1, ht1⟩, _⟩ := I.list ha
  obtain ⟨i2, r2, ⟨⟨c2, d2, t2, sl2⟩, n2, g2, hc2, hd2, ht2⟩, _⟩ := I.list hb
  simp only at hc1 hd1 ht1 hc2 hd2 ht2
  subst hc1 hd1 ht1 hc2 hd2 ht2
  have l1 := r1.length
  have l2 := r2.length
  have hj : i1.toArray ++ i2.toArray = (i1 ++ i2).toArray := by simp
  refine concat_meets ⟨_, g1, rfl⟩ ⟨_, g2, rfl⟩ noFill_list_add seq_list_add PySem.F.slot_list_add PySem.F.entry_list_add (PySem.F.args_list_add_2 _ _) (PyProof.Rows.list_addW a b i1.toArray i2.toArray n1 n2 none none sl1 sl2 (by simp; omega)) ⟨g1, g2, ?_⟩
  rw [hj]
  exact ⟨.ref _, _, I.lnew (t' := s.toks) (r1.append r2) (by rw [List.length_append]; omega), rfl, q _ I.fresh⟩
def rCatL (K : PySem.W.Frag) : R2 := fun x y H Q => ∃ l b xs zs, x = .ref l ∧ y = .ref b ∧ SqL K H l xs ∧ SqL K H b zs ∧ xs.length + zs.length ≤ sizeLine ∧ ∀ p, H p = none → Q (.ref p) (upd H p (.lst (xs ++ zs)))
theorem op_catL : OpR X (binaryOp .Add) (rCatL X.K) := by
  rintro pins s σ H x y v u Q I rx ry ⟨l, b, xs, zs, rfl, rfl, h1, h2, hz, q⟩
  cases rx
  cases ry
  exact add_lst_any I h1 h2 hz q
noncomputable def opAdd (x y : D) (S : Store) : ER := match x, y with
  | .int i, .int j => .ok (.int (i + j)) S
  | .str a, .str b => if sz (a.length + b.length) then .ok (.str (a ++ b)) S else .bad
  | .tup a, .tup b => if sz (a.length + b.length) then .ok (.tup (a ++ b)) S else .bad
  | x, y => match listD S x, listD S y with
    | some a, some b => if sz (a.length + b.length) then .ok (.lst (a ++ b)) S else .bad
    | _, _ => .bad
theorem bad_no {φ : Fi} {H : Hp} {Q : VK} {P : Prop} (h : PostE G W φ H σ .bad Q) : P := False.elim h
theorem do_add (hK : X.K = G.K) : DOp G X (binaryOp .Add) opAdd := by
  refine ⟨_, (op_add.or op_add_str).or (op_catA.or op_catL), fun W φ S H σ dx dy x y Q s ix iy h => ?_⟩
  unfold opAdd at h
  split at h
  · cases (show x = _ from ix); cases (show y = _ from iy)
    exact .inl (.inl ⟨_, _, rfl, rfl, h.now s rfl⟩)
  · cases (show x = _ from ix); cases (show y = _ from iy)
    split at h
    · exact .inl (.inr ⟨_, _, rfl, rfl, sizeLine_is (by assumption), h.now s rfl⟩)
    · exact bad_no h
  · split at h
    · rename_i a b hl
      obtain ⟨p, xs, rfl, r1, q1⟩ := ix
      obtain ⟨p2, ys, rfl, r2, q2⟩ := iy
      refine .inr (.inl ⟨p, p2, xs, ys, rfl, rfl, by rw [hK]; exact r1.seq, by rw [hK]; exact r2.seq, by rw [← q1.length, ← q2.length]; exact sizeLine_is hl, fun e => ?_, fun _ e => ?_, fun _ _ p hp => tup_new s (q1.append q2) h hp⟩)
      · subst e
        have z : a = [] := List.eq_nil_of_length_eq_zero (by simpa using q1.length)
        subst z
        exact h.now s ⟨p2, ys, rfl, r2, q2⟩
      · subst e
        have z : b = [] := List.eq_nil_of_length_eq_zero (by simpa using q2.length)
        subst z
        rw [List.append_nil] at h
        exact h.now s ⟨p, xs, rfl, r1, q1⟩
    · exact bad_no h
  · split at h
    · split at h
      · rename_i a b e1 e2 hl
        obtain ⟨p, xs, rfl, r1, q1⟩ := listD_sq s ix e1
        obtain ⟨p2, ys, rfl, r2, q2⟩ := listD_sq s iy e2
        exact .inr (.inr ⟨p, p2, xs, ys, rfl, rfl, by rw [hK]; exact r1, by rw [hK]; exact r2, by rw [← q1.length, ← q2.length]; exact sizeLine_is hl, fun p hp => lst_new s (q1.append q2) h hp⟩)
      · exact bad_no h
    · exact bad_no h
def opI (g : Int → Int → ER) (x y : D) : ER := match x, y with
  | .int i, .int j => g i j
  | _, _ => .bad
def opSub (x y : D) (S : Store) : ER := opI (fun i j => .ok (.int (i - j)) S) x y
theorem do_sub : DOp G X (binaryOp .Sub) opSub := by
  refine ⟨_, op_sub, fun W φ S H σ dx dy x y Q s ix iy h => ?_⟩
  unfold opSub opI at h
  dsimp only at h
  split at h
  · cases (show x = _ from ix); cases (show y = _ from iy)
    exact ⟨_, _, rfl, rfl, h.now s rfl⟩
  · exact bad_no h
/-- a factor within 64 bits, or both together within a million bits -/
def mulOk (i j : Int) : Prop := i.natAbs < 18446744073709551616 ∨ j.natAbs < 18446744073709551616 ∨ i.natAbs.log2 + j.natAbs.log2 < 1000000
noncomputable instance {i j : Int} : Decidable (mulOk i j) := Classical.propDecidable _
noncomputable def opMul (x y : D) (S : Store) : ER := opI (fun i j => if mulOk i j then .ok (.int (i * j)) S else .bad) x y
theorem do_mul : DOp G X (binaryOp .Mult) opMul := by
  refine ⟨_, op_mul.or op_mulW, fun W φ S H σ dx dy x y Q s ix iy h => ?_⟩
  unfold opMul opI at h
  dsimp only at h
  split at h
  · rename_i i j
    cases (show x = _ from ix); cases (show y = _ from iy)
    split at h
    · rename_i hm
      rcases hm with hm | hm | hm
      · exact .inl ⟨_, _, rfl, rfl, .inl (by omega), h.now s rfl⟩
      · exact .inl ⟨_, _, rfl, rfl, .inr (by omega), h.now s rfl⟩
      · exact .inr ⟨_, _, rfl, rfl, hm, h.now s rfl⟩
    · exact bad_no h
  · exact bad_no h
def opMod (x y : D) (S : Store) : ER := opI (fun i j => if 0 < j then .ok (.int (i % j)) S else .bad) x y
theorem do_mod : DOp G X (binaryOp .Mod) opMod := by
  refine ⟨_, op_mod, fun W φ S H σ dx dy x y Q s ix iy h => ?_⟩
  unfold opMod opI at h
  dsimp only at h
  split at h
  · cases (show x = _ from ix); cases (show y = _ from iy)
    split at h
    · rename_i hj
      exact ⟨_, _, rfl, rfl, hj, h.now s rfl⟩
    · exact bad_no h
  · exact bad_no h
def divOk (j : Int) : Prop := 0 < j ∧ (j < 1073741824 ∨ j.natAbs.log2 < 9000)
noncomputable instance {j : Int} : Decidable (divOk j) := Classical.propDecidable _
noncomputable def opFdiv (x y : D) (S : Store) : ER := opI (fun i j => if divOk j then .ok (.int (i / j)) S else .bad) x y
theorem do_fdiv : DOp G X (binaryOp .FloorDiv) opFdiv := by
  refine ⟨_, op_fdiv.or op_fdivW, fun W φ S H σ dx dy x y Q s ix iy h => ?_⟩
  unfold opFdiv opI at h
  dsimp only at h
  split at h
  · cases (show x = _ from ix); cases (show y = _ from iy)
    split at h
    · rename_i hj
      obtain ⟨h1, h2 | h2⟩ := hj
      · exact .inl ⟨_, _, rfl, rfl, ⟨h1, h2⟩, h.now s rfl⟩
      · exact .inr ⟨_, _, rfl, rfl, ⟨h1, h2⟩, h.now s rfl⟩
    · exact bad_no h
  · exact bad_no h
def powOk (i j : Int) : Prop := 0 ≤ j ∧ j ≤ 1000000 ∧ i.natAbs < 18446744073709551616
noncomputable instance {i j : Int} : Decidable (powOk i j) := Classical.propDecidable _
noncomputable def opPow (x y : D) (S : Store) : ER := opI (fun i j => if powOk i j then .ok (.int (i ^ j.toNat)) S else .bad) x y
theorem do_pow : DOp G X (binaryOp .Pow) opPow := by
  refine ⟨_, op_pow, fun W φ S H σ dx dy x y Q s ix iy h => ?_⟩
  unfold opPow opI at h
  dsimp only at h
  split at h
  · cases (show x = _ from ix); cases (show y = _ from iy)
    split at h
    · rename_i hj
      exact ⟨_, _, rfl, rfl, ⟨hj.1, hj.2.1, Nat.lt_of_lt_of_le hj.2.2 (by decide)⟩, h.now s rfl⟩
    · exact bad_no h
  · exact bad_no h
def mulSOk (i j : Int) : Prop := i.natAbs < 18446744073709551616 ∨ j.natAbs < 18446744073709551616
noncomputable instance {i j : Int} : Decidable (mulSOk i j) := Classical.propDecidable _
noncomputable def opMulS (x y : D) (S : Store) : ER := opI (fun i j => if mulSOk i j then .ok (.int (i * j)) S else .bad) x y
def opAddI (x y : D) (S : Store) : ER := opI (fun i j => .ok (.int (i + j)) S) x y
def eNeg (f : EM) : EM := fun env S => (f env S).bind fun d S => match d with | .int i => .ok (.int (-i)) S | _ => .bad
theorem de_neg {a : Expr} {pos : Pos} {f : EM} (ha : DE G X W a f) : DE G X W (.UnaryOp .USub a pos) (eNeg f) := by
  obtain ⟨ta, pa, qa⟩ := ha
  refine ⟨_, pe_un un_neg pa, fun σ H env φ S Q s re h => ?_⟩
  refine qa σ H env φ S _ s re (PostE.bind h fun d S1 φ1 H1 v e1 s1 i1 h1 => ?_)
  cases d with
  | int i => exact ⟨i, i1, h1.now s1 rfl⟩
  | _ => exact False.elim h1

/-! ### comparisons -/
def opCmp (g : Int → Int → Bool) (x y : D) (S : Store) : ER := opI (fun i j => .ok (.bl (g i j)) S) x y
theorem do_cmp {f : Value → Value → Sem Value} {g : Int → Int → Bool} (ho : OpR X f (rI0 fun i j => .bl (g i j))) : DOp G X f (opCmp g) := by
  refine ⟨_, ho, fun W φ S H σ dx dy x y Q s ix iy h => ?_⟩
  unfold opCmp opI at h
  dsimp only at h
  split at h
  · cases (show x = _ from ix); cases (show y = _ from iy)
    exact ⟨_, _, rfl, rfl, h.now s rfl⟩
  · exact bad_no h
def opLt := opCmp fun i j => decide (i < j)
def opLe := opCmp fun i j => decide (i ≤ j)
def opGt := opCmp fun i j => decide (j < i)
def opGe := opCmp fun i j => decide (j ≤ i)
theorem do_lt : DOp G X (compareOp .Lt) opLt := do_cmp op_lt
theorem do_le : DOp G X (compareOp .LtE) opLe := do_cmp op_le
theorem do_gt : DOp G X (compareOp .Gt) opGt := do_cmp op_gt
theorem do_ge : DOp G X (compareOp .GtE) opGe := do_cmp op_ge
/-- a list of plain things -/
def pyFs : List D → Option (List PyData)
  | [] => some []
  | .non :: ds => (pyFs ds).map (.none :: ·)
  | .bl b :: ds => (pyFs ds).map (.bool b :: ·)
  | .int i :: ds => (pyFs ds).map (.int i :: ·)
  | .str x :: ds => (pyFs ds).map (.str x :: ·)
  | _ :: _ => none
theorem pyFs_dp : ∀ {ds : List D} {vs : List V} {ps : List PyData}, IsL G φ H ds vs → pyFs ds = some ps → DpAll G.K H vs ps
  | [], vs, ps, i, e => by cases (show vs = [] from i); cases e; exact .nil
  | .non :: ds, vs, ps, i, e => by
    obtain ⟨x, r, rfl, p, q⟩ := i
    obtain ⟨b, e3, e4⟩ := Option.map_eq_some_iff.mp (show (pyFs ds).map (PyData.none :: ·) = some ps from e)
    subst e4; cases (show x = _ from p); exact .cons .non (pyFs_dp q e3)
  | .bl k :: ds, vs, ps, i, e => by
    obtain ⟨x, r, rfl, p, q⟩ := i
    obtain ⟨b, e3, e4⟩ := Option.map_eq_some_iff.mp (show (pyFs ds).map (PyData.bool k :: ·) = some ps from e)
    subst e4; cases (show x = _ from p); exact .cons (.bl k) (pyFs_dp q e3)
  | .int k :: ds, vs, ps, i, e => by
    obtain ⟨x, r, rfl, p, q⟩ := i
    obtain ⟨b, e3, e4⟩ := Option.map_eq_some_iff.mp (show (pyFs ds).map (PyData.int k :: ·) = some ps from e)
    subst e4; cases (show x = _ from p); exact .cons (.int k) (pyFs_dp q e3)
  | .str k :: ds, vs, ps, i, e => by
    obtain ⟨x, r, rfl, p, q⟩ := i
    obtain ⟨b, e3, e4⟩ := Option.map_eq_some_iff.mp (show (pyFs ds).map (PyData.str k :: ·) = some ps from e)
    subst e4; cases (show x = _ from p); exact .cons (.str k) (pyFs_dp q e3)
  | .tup _ :: _, _, _, _, e => nomatch e
  | .lst _ :: _, _, _, _, e => nomatch e
  | .dic _ _ :: _, _, _, _, e => nomatch e
  | .obj _ _ _ :: _, _, _, _, e => nomatch e
  | .loc _ :: _, _, _, _, e => nomatch e
  | .dct _ _ :: _, _, _, _, e => nomatch e
  | .exn _ _ _ :: _, _, _, _, e => nomatch e
  | .tpl _ :: _, _, _, _, e => nomatch e
mutual
/-- data for == -/
def D.py (S : Store) : D → Option PyData
  | .non => some .none
  | .bl b => some (.bool b)
  | .int i => some (.int i)
  | .str x => some (.str x)
  | .tup ds => (D.pys S ds).map .tuple
  | .lst ds => (D.pys S ds).map .list
  | .loc l => match S[l]? with
    | some (.lst ds) => (pyFs ds).map .list
    | _ => none
  | _ => none
def D.pys (S : Store) : List D → Option (List PyData)
  | [] => some []
  | d :: ds => (D.py S d).bind fun a => (D.pys S ds).map (a :: ·)
end
mutual
theorem D.py_dp (s : SOk G φ S H) : ∀ {d : D} {v : V} {p : PyData}, Is G φ H d v → D.py S d = some p → Dp G.K H v p
  | .non, v, p, i, e => by cases (show v = _ from i); cases e; exact .non
  | .bl b, v, p, i, e => by cases (show v = _ from i); cases e; exact .bl b
  | .int b, v, p, i, e => by cases (show v = _ from i); cases e; exact .int b
  | .str b, v, p, i, e => by cases (show v = _ from i); cases e; exact .str b
  | .tup ds, v, p, i, e => by
    obtain ⟨a, xs, rfl, r, q⟩ := i
    obtain ⟨ps, e1, e2⟩ := Option.map_eq_some_iff.mp (show (D.pys S ds).map PyData.tuple = some p from e)
    subst e2
    exact .tup r.seq (D.pys_dp s q e1)
  | .lst ds, v, p, i, e => by
    obtain ⟨a, xs, rfl, r, q⟩ := i
    obtain ⟨ps, e1, e2⟩ := Option.map_eq_some_iff.mp (show (D.pys S ds).map PyData.list = some p from e)
    subst e2
    exact .lst r.seq (D.pys_dp s q e1)
  | .dic _ _, _, _, _, e => nomatch e
  | .obj _ _ _, _, _, _, e => nomatch e
  | .dct _ _, _, _, _, e => nomatch e
  | .exn _ _ _, _, _, _, e => nomatch e
  | .tpl _, _, _, _, e => nomatch e
  | .loc l, v, p, i, e => by
    simp only [D.py] at e
    split at e
    · rename_i h
      obtain ⟨ps, e1, e2⟩ := Option.map_eq_some_iff.mp e
      subst e2
      obtain ⟨a, xs, e3, r, q⟩ := listD_sq s (show Is G φ H (.loc l) v from i) (show listD S (.loc l) = some _ by simp only [listD]; rw [h])
      subst e3
      exact .lst r (pyFs_dp q e1)
    · cases e
theorem D.pys_dp (s : SOk G φ S H) : ∀ {ds : List D} {vs : List V} {ps : List PyData}, IsL G φ H ds vs → D.pys S ds = some ps → DpAll G.K H vs ps
  | [], vs, ps, i, e => by cases (show vs = [] from i); cases e; exact .nil
  | d :: ds, vs, ps, i, e => by
    obtain ⟨x, r, rfl, p, q⟩ := i
    obtain ⟨a, e1, e2⟩ := Option.bind_eq_some_iff.mp (show ((D.py S d).bind fun a => (D.pys S ds).map (a :: ·)) = some ps from e)
    obtain ⟨b, e3, e4⟩ := Option.map_eq_some_iff.mp e2
    subst e4
    exact .cons (D.py_dp s p e1) (D.pys_dp s q e3)
end
/-- a list's cell at the outside -/
def D.pyO (S : Store) : D → Option PyData
  | .loc l => match S[l]? with
    | some (.lst ds) => (D.pys S ds).map .list
    | _ => none
  | d => D.py S d
theorem D.pyO_dp {d : D} {v : V} {p : PyData} (s : SOk G φ S H) (i : Is G φ H d v) (e : D.pyO S d = some p) : Dp G.K H v p := by
  cases d with
  | loc l =>
    simp only [D.pyO] at e
    split at e
    · rename_i h
      obtain ⟨ps, e1, e2⟩ := Option.map_eq_some_iff.mp e
      subst e2
      obtain ⟨a, xs, e3, r, q⟩ := listD_sq s (show Is G φ H (.loc l) v from i) (show listD S (.loc l) = some _ by simp only [listD]; rw [h])
      subst e3
      exact .lst r (D.pys_dp s q e1)
    · cases e
  | _ => exact D.py_dp s i e
/-- data that may be compared with the same data: lists and dicts of such, too -/
def niceE (S : Store) : Nat → D → Bool
  | 0, _ => false
  | n + 1, d => match D.py S d with
    | some p => SeqAt.shaped p && PyData.eqv p p
    | none => match d with
      | .lst ds => ds.all (niceE S n)
      | .dic _ ds => ds.all (niceE S n)
      | _ => false
theorem paired_same {F : V → V → Prop} (f : D → Bool) (st : ∀ d x y, f d = true → Is G φ H d x → Is G φ H d y → F x y) : ∀ {ds : List D} {xs ys : List V}, ds.all f = true → IsL G φ H ds xs → IsL G φ H ds ys → Paired F xs ys
  | [], xs, ys, _, i, j => by cases (show xs = [] from i); cases (show ys = [] from j); exact .nil
  | d :: ds, xs, ys, h, i, j => by
    rw [List.all_cons, Bool.and_eq_true] at h
    obtain ⟨x, r, rfl, p, q⟩ := i
    obtain ⟨y, r', rfl, p', q'⟩ := j
    exact .cons (st d x y h.1 p p') (paired_same f st h.2 q q')
theorem niceE_is (s : SOk G φ S H) : ∀ (n : Nat) (d : D) (x y : V), niceE S n d = true → Is G φ H d x → Is G φ H d y → EqW G.K H n x y
  | 0, _, _, _, h, _, _ => by cases h
  | n + 1, d, x, y, h, i, j => by
    unfold niceE at h
    cases hp : D.py S d with
    | some p =>
      rw [hp] at h
      simp only [Bool.and_eq_true] at h
      exact .inl ⟨p, D.py_dp s i hp, D.py_dp s j hp, h.1, h.2⟩
    | none =>
      rw [hp] at h
      cases d with
      | lst ds =>
        obtain ⟨a, xs, rfl, r, q⟩ := i
        obtain ⟨b, ys, rfl, r', q'⟩ := j
        exact .inr (.inl ⟨a, b, xs, ys, rfl, rfl, r.seq, r'.seq, paired_same _ (niceE_is s n) h q q'⟩)
      | dic ks ds =>
        obtain ⟨a, xs, rfl, ⟨_, r⟩, e, q⟩ := i
        obtain ⟨b, ys, rfl, ⟨_, r'⟩, e', q'⟩ := j
        exact .inr (.inr ⟨a, b, xs, ys, rfl, rfl, r, r', e.trans e'.symm, paired_same _ (niceE_is s n) h q q'⟩)
      | _ => cases h
def niceT (S : Store) (d : D) : Bool := match d with
  | .lst ds => ds.all (niceE S 8)
  | .dic _ ds => ds.all (niceE S 8)
  | _ => false
theorem niceT_is (s : SOk G φ S H) {d : D} {x y : V} (h : niceT S d = true) (i : Is G φ H d x) (j : Is G φ H d y) : EqT G.K H 8 x y := by
  cases d with
  | lst ds =>
    obtain ⟨a, xs, rfl, r, q⟩ := i
    obtain ⟨b, ys, rfl, r', q'⟩ := j
    exact .inl ⟨a, b, xs, ys, rfl, rfl, r.seq, r'.seq, paired_same _ (niceE_is s 8) h q q'⟩
  | dic ks ds =>
    obtain ⟨a, xs, rfl, ⟨_, r⟩, e, q⟩ := i
    obtain ⟨b, ys, rfl, ⟨_, r'⟩, e', q'⟩ := j
    exact .inr ⟨a, b, xs, ys, rfl, rfl, r, r', e.trans e'.symm, paired_same _ (niceE_is s 8) h q q'⟩
  | _ => cases h
open Classical in
noncomputable def eqSame (neg : Bool) (x y : D) (S : Store) : ER := if x = y ∧ niceT S x = true then .ok (.bl (!neg)) S else .bad
noncomputable def opEqB (neg : Bool) (x y : D) (S : Store) : ER := match x, y with
  | .str a, .str b => .ok (.bl (if neg then !decide (a = b) else decide (a = b))) S
  | x, y => match x.pyO S, y.pyO S with
    | some p, some q => if SeqAt.shaped p && SeqAt.shaped q then .ok (.bl (if neg then !PyData.eqv p q else PyData.eqv p q)) S else .bad
    | _, _ => eqSame neg x y S
noncomputable def opEq := opEqB false
noncomputable def opNe := opEqB true
theorem units100 {k : Nat} {A : Around} (r : Room k A) : A.units + 100 < cLine := by have := r.un; omega
theorem dec_s {a b : Str} : decide (V.str a = V.str b) = decide (a = b) := by
  by_cases e : a = b
  · subst e; simp
  · rw [decide_eq_false e, decide_eq_false (fun z => e (V.str.inj z))]
theorem do_eq (hK : X.K = G.K) (hu : X.A.units + 100 < cLine) : DOp G X (compareOp .Eq) opEq := by
  refine ⟨_, (op_eq.or (op_eqD (by omega))).or (op_eqT hu), fun W φ S H σ dx dy x y Q s ix iy h => ?_⟩
  unfold opEq opEqB at h
  split at h
  · cases (show x = _ from ix); cases (show y = _ from iy)
    exact .inl (.inl ⟨rfl, by rw [dec_s]; exact h.now s rfl⟩)
  · split at h
    · rename_i p q e1 e2
      split at h
      · rename_i hs
        simp only [Bool.and_eq_true] at hs
        exact .inl (.inr ⟨p, q, by rw [hK]; exact D.pyO_dp s ix e1, by rw [hK]; exact D.pyO_dp s iy e2, hs.1, hs.2, h.now s rfl⟩)
      · exact bad_no h
    · unfold eqSame at h
      split at h
      · rename_i hx
        obtain ⟨e, hn⟩ := hx
        subst e
        exact .inr ⟨8, by decide, by rw [hK]; exact niceT_is s hn ix iy, h.now s rfl⟩
      · exact bad_no h
theorem do_ne (hK : X.K = G.K) (hu : X.A.units + 100 < cLine) : DOp G X (compareOp .NotEq) opNe := by
  refine ⟨_, (op_ne.or (op_neD (by omega))).or (op_neT hu), fun W φ S H σ dx dy x y Q s ix iy h => ?_⟩
  unfold opNe opEqB at h
  split at h
  · cases (show x = _ from ix); cases (show y = _ from iy)
    exact .inl (.inl ⟨rfl, by rw [dec_s]; exact h.now s rfl⟩)
  · split at h
    · rename_i p q e1 e2
      split at h
      · rename_i hs
        simp only [Bool.and_eq_true] at hs
        exact .inl (.inr ⟨p, q, by rw [hK]; exact D.pyO_dp s ix e1, by rw [hK]; exact D.pyO_dp s iy e2, hs.1, hs.2, h.now s rfl⟩)
      · exact bad_no h
    · unfold eqSame at h
      split at h
      · rename_i hx
        obtain ⟨e, hn⟩ := hx
        subst e
        exact .inr ⟨8, by decide, by rw [hK]; exact niceT_is s hn ix iy, h.now s rfl⟩
      · exact bad_no h
def D.isN : D → Bool
  | .non => true
  | _ => false
theorem isN_iff {d : D} {v : V} (i : Is G φ H d v) : decide (v = .non) = d.isN := by
  cases d with
  | non => cases (show v = _ from i); rfl
  | bl b => cases (show v = _ from i); rfl
  | int b => cases (show v = _ from i); rfl
  | str b => cases (show v = _ from i); rfl
  | tup ds => obtain ⟨a, xs, rfl, _⟩ := i; rfl
  | lst ds => obtain ⟨a, xs, rfl, _⟩ := i; rfl
  | dic ks ds => obtain ⟨a, xs, rfl, _⟩ := i; rfl
  | obj c ks ds => obtain ⟨a, C, dx, fs, rfl, _⟩ := i; rfl
  | loc l => obtain ⟨a, _, rfl⟩ := i; rfl
  | dct ks ds => obtain ⟨a, xs, rfl, _⟩ := i; rfl
  | exn c ks ds => obtain ⟨a, C, d, rfl, _⟩ := i; rfl
  | tpl ds => obtain ⟨a, xs, o, rfl, _⟩ := i; rfl
def opIsN (x y : D) (S : Store) : ER := match y with | .non => .ok (.bl x.isN) S | _ => .bad
def opNotN (x y : D) (S : Store) : ER := match y with | .non => .ok (.bl (!x.isN)) S | _ => .bad
theorem do_isN : DOp G X (compareOp .Is) opIsN := by
  refine ⟨_, op_isN, fun W φ S H σ dx dy x y Q s ix iy h => ?_⟩
  cases dy with
  | non => exact ⟨iy, by rw [isN_iff ix]; exact h.now s rfl⟩
  | _ => exact bad_no h
theorem do_notN : DOp G X (compareOp .IsNot) opNotN := by
  refine ⟨_, op_notN, fun W φ S H σ dx dy x y Q s ix iy h => ?_⟩
  cases dy with
  | non => exact ⟨iy, by rw [isN_iff ix]; exact h.now s rfl⟩
  | _ => exact bad_no h
/-- a < b < c -/
def eChain (g g' : D → D → Store → ER) (a b c : EM) : EM := fun env S => (a env S).bind fun x S => (b env S).bind fun y S => (g x y S).bind fun z S => match z with
  | .bl true => (c env S).bind fun w S => g' y w S
  | .bl false => .ok (.bl false) S
  | _ => .bad

/-! ### subscripts -/
def seqD (S : Store) (d : D) : Option (List D) := match d with
  | .tup ds => some ds
  | d => listD S d
def strAt (x : Str) (i : Int) : Option D := (atI x.cps.toList i).map fun c => .str ⟨#[c]⟩
noncomputable def opIx (x y : D) (S : Store) : ER := match x, y with
  | .str x, .int i => if sz x.length then (match strAt x i with | some d => .ok d S | none => .bad) else .bad
  | .tup ds, .int i => match atI ds i with | some d => .ok d S | none => .bad
  | x, .int i => match listD S x with
    | some ds => (match atI ds i with | some d => .ok d S | none => .bad)
    | none => .bad
  | _, _ => .bad
theorem atI_is {ds : List D} {xs : List V} {i : Int} {d : D} (q : IsL G φ H ds xs) (e : atI ds i = some d) : ∃ v, atI xs i = some v ∧ Is G φ H d v := by
  unfold atI at e ⊢
  rw [q.length] at e
  obtain ⟨j, e1, e2⟩ := Option.bind_eq_some_iff.mp e
  obtain ⟨v, e3, k⟩ := q.get e2
  exact ⟨v, by rw [e1]; exact e3, k⟩
/-! ### calls of built-ins -/
/-- a built-in by values -/
def DCall (G : Glb) (X : Cx) (f : Value) (g : List D → Store → ER) : Prop :=
  ∃ r, CallR X f r ∧ ∀ W φ S H σ ds xs Q, SOk G φ S H → IsL G φ H ds xs → PostE G W φ H σ (g ds S) Q → r xs H Q
def eCallB (g : List D → Store → ER) (f : LM) : EM := fun env S => (f env S).bindE g
theorem de_callB {id : String} {x : Str} {e : Expr} {es : List Expr} {p pos : Pos} {g : List D → Store → ER} {f : LM} (hc : DCall G X (.builtin id) g) (hg : Gl X x) (hm : X.mg x = none) (hv : bootBuiltins x = some (.builtin id)) (ha : DA G X W (e :: es) f) (hn : x ≠ "__name__" := by decide) (hdb : (x == ("__debug__" : Str)) = false := by decide)
    (he : starEach (e :: es) X.env = (false, eval e X.env) :: starEach es X.env := by rfl) (hpl : (backTo pos (starEach es X.env)).any (·.1) = false := by rfl) : DE G X W (.Call (.Name x p) (e :: es) [] pos) (eCallB g f) := by
  obtain ⟨r, hr, q⟩ := hc
  obtain ⟨t, pt, qt⟩ := ha
  refine ⟨_, pe_callB hr hg hm hv pt hn hdb he hpl, fun σ H env φ S Q s re h => ?_⟩
  exact qt σ H env φ S _ s re (PostL.bindE h fun ds S1 φ1 H1 xs e1 s1 i1 h1 => q W φ1 S1 H1 σ ds xs Q s1 i1 h1)
theorem de_callTy {T : String} {x : Str} {e : Expr} {es : List Expr} {p pos : Pos} {g : List D → Store → ER} {f : LM} (hc : DCall G X (.type T) g) (hg : Gl X x) (hm : X.mg x = none) (hv : bootBuiltins x = some (.type T)) (ha : DA G X W (e :: es) f) (hn : x ≠ "__name__" := by decide) (hdb : (x == ("__debug__" : Str)) = false := by decide)
    (he : starEach (e :: es) X.env = (false, eval e X.env) :: starEach es X.env := by rfl) (hpl : (backTo pos (starEach es X.env)).any (·.1) = false := by rfl) : DE G X W (.Call (.Name x p) (e :: es) [] pos) (eCallB g f) := by
  obtain ⟨r, hr, q⟩ := hc
  obtain ⟨t, pt, qt⟩ := ha
  refine ⟨_, pe_callTy hr hg hm hv pt hn hdb he hpl, fun σ H env φ S Q s re h => ?_⟩
  exact qt σ H env φ S _ s re (PostL.bindE h fun ds S1 φ1 H1 xs e1 s1 i1 h1 => q W φ1 S1 H1 σ ds xs Q s1 i1 h1)
theorem IsL.inv1 {d : D} {xs : List V} (h : IsL G φ H [d] xs) : ∃ x, xs = [x] ∧ Is G φ H d x := by
  obtain ⟨x, r, rfl, p, q⟩ := h
  cases (show r = [] from q)
  exact ⟨x, rfl, p⟩
theorem IsL.inv2 {d e : D} {xs : List V} (h : IsL G φ H [d, e] xs) : ∃ x y, xs = [x, y] ∧ Is G φ H d x ∧ Is G φ H e y := by
  obtain ⟨x, r, rfl, p, q⟩ := h
  obtain ⟨y, rfl, k⟩ := IsL.inv1 q
  exact ⟨x, y, rfl, p, k⟩
noncomputable def bLen (ds : List D) (S : Store) : ER := match ds with
  | [.str x] => if sz x.length then .ok (.int x.length) S else .bad
  | [d] => match seqD S d with
    | some es => .ok (.int es.length) S
    | none => .bad
  | _ => .bad
theorem seqD_sq {d : D} {v : V} {ds : List D} (s : SOk G φ S H) (i : Is G φ H d v) (e : seqD S d = some ds) : ∃ a xs, v = .ref a ∧ (SqL G.K H a xs ∨ SqT G.K H a xs) ∧ IsL G φ H ds xs := by
  unfold seqD at e
  split at e
  · obtain ⟨a, xs, e1, r, q⟩ := tupD_sq i e
    exact ⟨a, xs, e1, .inr r, q⟩
  · obtain ⟨a, xs, e1, r, q⟩ := listD_sq s i e
    exact ⟨a, xs, e1, .inl r, q⟩
theorem dc_len (hK : X.K = G.K) : DCall G X (.builtin "len") bLen := by
  refine ⟨_, call_len_seq.or call_len_str, fun W φ S H σ ds xs Q s i h => ?_⟩
  unfold bLen at h
  split at h
  · obtain ⟨x, rfl, k⟩ := IsL.inv1 i
    cases (show x = _ from k)
    split at h
    · exact .inr ⟨_, rfl, sizeLine_is (by assumption), h.now s rfl⟩
    · exact bad_no h
  · obtain ⟨x, rfl, k⟩ := IsL.inv1 i
    split at h
    · rename_i es e
      obtain ⟨a, ys, rfl, r, q⟩ := seqD_sq s k e
      refine .inl ⟨a, ys, rfl, by rw [hK]; exact r, ?_⟩
      rw [← q.length]
      exact h.now s rfl
    · exact bad_no h
  · exact bad_no h
def bII (g : Int → Int → Int) (ds : List D) (S : Store) : ER := match ds with
  | [.int i, .int j] => .ok (.int (g i j)) S
  | _ => .bad
def maxII (i j : Int) : Int := if j > i then j else i
def minII (i j : Int) : Int := if j < i then j else i
theorem dc_max2 (hc : X.calm = true) : DCall G X (.builtin "max") (bII maxII) := by
  refine ⟨_, call_max2 hc, fun W φ S H σ ds xs Q s i h => ?_⟩
  unfold bII at h
  split at h
  · obtain ⟨x, y, rfl, k, l⟩ := IsL.inv2 i
    cases (show x = _ from k); cases (show y = _ from l)
    exact ⟨_, _, rfl, h.now s rfl⟩
  · exact bad_no h
theorem dc_min2 (hc : X.calm = true) : DCall G X (.builtin "min") (bII minII) := by
  refine ⟨_, call_min2 hc, fun W φ S H σ ds xs Q s i h => ?_⟩
  unfold bII at h
  split at h
  · obtain ⟨x, y, rfl, k, l⟩ := IsL.inv2 i
    cases (show x = _ from k); cases (show y = _ from l)
    exact ⟨_, _, rfl, h.now s rfl⟩
  · exact bad_no h
def bAbs (ds : List D) (S : Store) : ER := match ds with
  | [.int i] => .ok (.int (if i < 0 then -i else i)) S
  | _ => .bad
def bInt (ds : List D) (S : Store) : ER := match ds with
  | [.int i] => .ok (.int i) S
  | [.bl b] => .ok (.int (if b then 1 else 0)) S
  | _ => .bad
theorem dc_int : DCall G X (.type "int") bInt := by
  refine ⟨_, call_int1, fun W φ S H σ ds xs Q s i h => ?_⟩
  unfold bInt at h
  split at h
  · obtain ⟨x, rfl, k⟩ := IsL.inv1 i
    cases (show x = _ from k)
    exact .inl ⟨_, rfl, h.now s rfl⟩
  · obtain ⟨x, rfl, k⟩ := IsL.inv1 i
    cases (show x = _ from k)
    exact .inr ⟨_, rfl, h.now s rfl⟩
  · exact bad_no h
def bList (ds : List D) (S : Store) : ER := match ds with
  | [d] => match seqD S d with
    | some es => .ok (.lst es) S
    | none => .bad
  | _ => .bad
theorem dc_list (hK : X.K = G.K) : DCall G X (.type "list") bList := by
  refine ⟨_, call_list_of, fun W φ S H σ ds xs Q s i h => ?_⟩
  unfold bList at h
  split at h
  · obtain ⟨x, rfl, k⟩ := IsL.inv1 i
    split at h
    · rename_i es e
      obtain ⟨a, ys, rfl, r, q⟩ := seqD_sq s k e
      exact ⟨a, ys, rfl, by rw [hK]; exact r, fun l hl => lst_new s q h hl⟩
    · exact bad_no h
  · exact bad_no h
def bListM (ds : List D) (S : Store) : ER := match ds with
  | [d] => match seqD S d with
    | some es => .ok (.loc S.length) (S ++ [.lst es])
    | none => .bad
  | _ => .bad
theorem dc_listM (hK : X.K = G.K) : DCall G X (.type "list") bListM := by
  refine ⟨_, call_list_of, fun W φ S H σ ds xs Q s i h => ?_⟩
  unfold bListM at h
  split at h
  · obtain ⟨x, rfl, k⟩ := IsL.inv1 i
    split at h
    · rename_i es e
      obtain ⟨a, ys, rfl, r, q⟩ := seqD_sq s k e
      exact ⟨a, ys, rfl, by rw [hK]; exact r, fun l hl => lst_newM s q h hl⟩
    · exact bad_no h
  · exact bad_no h
def bTuple (ds : List D) (S : Store) : ER := match ds with
  | [d] => match seqD S d with
    | some es => .ok (.tup es) S
    | none => .bad
  | _ => .bad
theorem dc_tuple (hK : X.K = G.K) : DCall G X (.type "tuple") bTuple := by
  refine ⟨_, call_tuple_of, fun W φ S H σ ds xs Q s i h => ?_⟩
  unfold bTuple at h
  split at h
  · obtain ⟨x, rfl, k⟩ := IsL.inv1 i
    split at h
    · rename_i es e
      unfold seqD at e
      split at e
      · obtain ⟨a, ys, rfl, r, q⟩ := id k
        cases e
        exact ⟨a, ys, rfl, .inr ⟨by rw [hK]; exact r.seq, h.now s ⟨a, ys, rfl, r, q⟩⟩⟩
      · obtain ⟨a, ys, rfl, r, q⟩ := listD_sq s k e
        exact ⟨a, ys, rfl, .inl ⟨by rw [hK]; exact r, fun l hl => tup_new s q h hl⟩⟩
    · exact bad_no h
  · exact bad_no h
/-- lists of one kind -/
def intsD : List D → Option (List Int)
  | [] => some []
  | .int i :: ds => (intsD ds).map (i :: ·)
  | _ :: _ => none
theorem intsD_is : ∀ {ds : List D} {ns : List Int}, intsD ds = some ns → ds = ns.map D.int
  | [], ns, e => by cases e; rfl
  | d :: ds, ns, e => by
    cases d with
    | int i =>
      obtain ⟨a, e1, e2⟩ := Option.map_eq_some_iff.mp (show (intsD ds).map (i :: ·) = some ns from e)
      subst e2
      rw [intsD_is e1]; rfl
    | _ => cases e
theorem intsD_map : ∀ ns : List Int, intsD (ns.map D.int) = some ns
  | [] => rfl
  | n :: ns => by simp [intsD, intsD_map ns]
def blsD : List D → Option (List Bool)
  | [] => some []
  | .bl i :: ds => (blsD ds).map (i :: ·)
  | _ :: _ => none
theorem blsD_is : ∀ {ds : List D} {ns : List Bool}, blsD ds = some ns → ds = ns.map D.bl
  | [], ns, e => by cases e; rfl
  | d :: ds, ns, e => by
    cases d with
    | bl i =>
      obtain ⟨a, e1, e2⟩ := Option.map_eq_some_iff.mp (show (blsD ds).map (i :: ·) = some ns from e)
      subst e2
      rw [blsD_is e1]; rfl
    | _ => cases e
theorem blsD_map : ∀ ns : List Bool, blsD (ns.map D.bl) = some ns
  | [] => rfl
  | n :: ns => by simp [blsD, blsD_map ns]
def bAll (ds : List D) (S : Store) : ER := match ds with
  | [d] => match (listD S d).bind blsD with
    | some bs => .ok (.bl (bs.all id)) S
    | none => .bad
  | _ => .bad
def bAny (ds : List D) (S : Store) : ER := match ds with
  | [d] => match (listD S d).bind blsD with
    | some bs => .ok (.bl (bs.any id)) S
    | none => .bad
  | _ => .bad
theorem dc_all (hc : X.calm = true) (hK : X.K = G.K) : DCall G X (.builtin "all") bAll := by
  refine ⟨_, cr_all hc, fun W φ S H σ ds xs Q s i h => ?_⟩
  unfold bAll at h
  split at h
  · obtain ⟨x, rfl, k⟩ := IsL.inv1 i
    split at h
    · rename_i bs e
      obtain ⟨es, e1, e2⟩ := Option.bind_eq_some_iff.mp e
      obtain ⟨a, ys, rfl, r, q⟩ := listD_sq s k e1
      rw [blsD_is e2] at q
      exact ⟨a, bs, rfl, by rw [hK, ← q.bls]; exact r, h.now s rfl⟩
    · exact bad_no h
  · exact bad_no h
def bSum (ds : List D) (S : Store) : ER := match ds with
  | [d] => match (listD S d).bind intsD with
    | some ns => .ok (.int ns.sum) S
    | none => .bad
  | _ => .bad
end
end DL
end
section
/-! D-layer, part 3: loops, comprehensions, more assignments, defs and their calls. -/
namespace DL
open PySem L2

section
variable {G : Glb} {X : Cx} {W : WX}
/-! ### more assignments -/
/-- a, b = e1, e2 -/
def sPar (i j : Nat) (f : LM) : SM := fun e S => (f e S).bindS e fun ds S => match ds with
  | [a, b] => .nx ((e.set i (some a)).set j (some b)) S
  | _ => .bad
theorem ds_par {i j : Nat} {x y : Str} {a b : Expr} {f : LM} {px py pt pos : Pos} {kt k2 pt2} (hc : X.calm = true) (hN : X.N.Nodup) (hi : X.N[i]? = some x) (hj : X.N[j]? = some y) (hij : i ≠ j)
    (hx : X.env.scope.names.lookup x = some .local) (hy : X.env.scope.names.lookup y = some .local) (ha : DA G X W [a, b] f)
    (hw : swappedStores [.Tuple [.Name x px, .Name y py] kt pt] (.Tuple [a, b] k2 pt2) X.env = pure (some [x, y]))
    (hs : swapsWithSole [.Tuple [.Name x px, .Name y py] kt pt] (.Tuple [a, b] k2 pt2) pos.line X.env = pure false := by rfl) :
    DS G X W (.Assign [.Tuple [.Name x px, .Name y py] kt pt] (.Tuple [a, b] k2 pt2) pos) (sPar i j f) := by
  obtain ⟨t, p, q⟩ := ha
  refine ⟨_, ps_par hc hN hi hj hij hx hy p hw hs, fun σ H env φ S N s re h => ?_⟩
  refine q σ H env φ S _ s re (PostL.bindS re h fun ds S1 φ1 H1 vs e1 s1 i1 h1 => ?_)
  match ds, h1, i1 with
  | [d, d2], h1, i1 =>
    obtain ⟨v, w, rfl, k1, k2⟩ := IsL.inv2 i1
    exact ⟨v, w, rfl, h1 φ1 H1 _ .refl s1 (((re.ext e1).set k1 i).set k2 j)⟩
  | [], h1, _ => exact False.elim h1
  | [_], h1, _ => exact False.elim h1
  | _ :: _ :: _ :: _, h1, _ => exact False.elim h1
def sPar3 (i j l : Nat) (f : LM) : SM := fun e S => (f e S).bindS e fun ds S => match ds with
  | [a, b, c] => .nx (((e.set i (some a)).set j (some b)).set l (some c)) S
  | _ => .bad
theorem ds_par3 {i j l : Nat} {x y z : Str} {a b c : Expr} {f : LM} {px py pz pt pos : Pos} {kt k2 pt2} (hc : X.calm = true) (hN : X.N.Nodup) (hi : X.N[i]? = some x) (hj : X.N[j]? = some y) (hl : X.N[l]? = some z) (hij : i ≠ j) (hil : i ≠ l) (hjl : j ≠ l)
    (hx : X.env.scope.names.lookup x = some .local) (hy : X.env.scope.names.lookup y = some .local) (hz : X.env.scope.names.lookup z = some .local) (ha : DA G X W [a, b, c] f)
    (hw : swappedStores [.Tuple [.Name x px, .Name y py, .Name z pz] kt pt] (.Tuple [a, b, c] k2 pt2) X.env = pure (some [x, y, z]))
    (hs : swapsWithSole [.Tuple [.Name x px, .Name y py, .Name z pz] kt pt] (.Tuple [a, b, c] k2 pt2) pos.line X.env = pure false := by rfl) :
    DS G X W (.Assign [.Tuple [.Name x px, .Name y py, .Name z pz] kt pt] (.Tuple [a, b, c] k2 pt2) pos) (sPar3 i j l f) := by
  obtain ⟨t, p, q⟩ := ha
  refine ⟨_, ps_par3 hc hN hi hj hl hij hil hjl hx hy hz p hw hs, fun σ H env φ S N s re h => ?_⟩
  refine q σ H env φ S _ s re (PostL.bindS re h fun ds S1 φ1 H1 vs e1 s1 i1 h1 => ?_)
  match ds, h1, i1 with
  | [d, d2, d3], h1, i1 =>
    obtain ⟨v, r, rfl, k1, i2⟩ := i1
    obtain ⟨w, u, rfl, k2, k3⟩ := IsL.inv2 i2
    exact ⟨v, w, u, rfl, h1 φ1 H1 _ .refl s1 ((((re.ext e1).set k1 i).set k2 j).set k3 l)⟩
  | [], h1, _ => exact False.elim h1
  | [_], h1, _ => exact False.elim h1
  | [_, _], h1, _ => exact False.elim h1
  | _ :: _ :: _ :: _ :: _, h1, _ => exact False.elim h1
/-- x op= e -/
def sAug (i : Nat) (g : D → D → Store → ER) (f : EM) : SM := fun e S => (eOp g (eVar i) f e S).bindS e fun d S => .nx (e.set i (some d)) S
/-! ### what is walked -/
structure Feeds (G : Glb) (φ0 : Fi) (H0 : Hp) (J : It) (ds : List D) : Prop where
  go : ∀ φ S H (i : Nat) d, Kept φ0 H0 φ H → SOk G φ S H → ds[i]? = some d → J.go i H ∧ ∀ x H', J.yld i H x H' → Ext φ H φ H' ∧ SOk G φ S H' ∧ Is G φ H' d x
  stop : ∀ φ S H, Kept φ0 H0 φ H → SOk G φ S H → J.stop ds.length H
theorem Kept.trans {φ φ1 φ2 : Fi} {H H1 H2 : Hp} (a : Kept φ H φ1 H1) (b : Kept φ1 H1 φ2 H2) : Kept φ H φ2 H2 :=
  ⟨fun l x q => b.get l x (a.get l x q), fun x u n r => let ⟨n1, r1⟩ := a.rd x u n r; b.rd x u n1 r1, fun x C dx fs n r => let ⟨n1, r1⟩ := a.ins x C dx fs n r; b.ins x C dx fs n1 r1, fun x o u n r => let ⟨n1, r1⟩ := a.frz x o u n r; b.frz x o u n1 r1, fun x u n r => let ⟨n1, r1⟩ := a.ext x u n r; b.ext x u n1 r1, fun x u n r => let ⟨n1, r1⟩ := a.xd x u n r; b.xd x u n1 r1⟩
def PostI (G : Glb) (W : WX) (φ : Fi) (H : Hp) (σ : St) (r : LR) (R : It → Hp → Prop) : Prop := match r with
  | .ok ds S => ∀ φ' H' J, Ext φ H φ' H' → SOk G φ' S H' → Feeds G φ' H' J ds → R J H'
  | .ex x S => ∀ φ' H' cls dx, Ext φ H φ' H' → SOk G φ' S H' → IsX G φ' H' x cls dx → W cls dx σ H'
  | .bad => False
def DI (G : Glb) (X : Cx) (W : WX) (tg e : Expr) (f : LM) : Prop :=
  ∃ wi, PI X tg e wi ∧ ∀ σ H env φ S R, SOk G φ S H → RepE G φ H σ env → PostI G W φ H σ (f env S) R → wi σ H R
theorem feeds_list {φ : Fi} {H : Hp} {a : Addr} {xs : List V} {ds : List D} (r : RdL G φ H a xs) (q : IsL G φ H ds xs) : Feeds G φ H (Itl G.K a) ds := by
  refine ⟨fun φ2 S2 H2 i d e s hd => ?_, fun φ2 S2 H2 e s => ⟨xs, (r.kept e).seq, by rw [q.length]; exact Nat.le_refl _⟩⟩
  obtain ⟨x, hx, k⟩ := q.get hd
  refine ⟨⟨xs, x, (r.kept e).seq, hx⟩, fun y H3 ⟨e3, hy⟩ => ?_⟩
  subst e3
  have z := hy xs (r.kept e).seq
  rw [hx] at z; cases z
  exact ⟨.refl, s, k.kept e⟩
theorem feeds_tup {φ : Fi} {H : Hp} {a : Addr} {xs : List V} {ds : List D} (r : RdT G φ H a xs) (q : IsL G φ H ds xs) : Feeds G φ H (Itt G.K a) ds := by
  refine ⟨fun φ2 S2 H2 i d e s hd => ?_, fun φ2 S2 H2 e s => ⟨xs, (r.kept e).seq, by rw [q.length]; exact Nat.le_refl _⟩⟩
  obtain ⟨x, hx, k⟩ := q.get hd
  refine ⟨⟨xs, x, (r.kept e).seq, hx⟩, fun y H3 ⟨e3, hy⟩ => ?_⟩
  subst e3
  have z := hy xs (r.kept e).seq
  rw [hx] at z; cases z
  exact ⟨.refl, s, k.kept e⟩
theorem PI.or {tg e : Expr} {w1 w2 : TI} (h1 : PI X tg e w1) (h2 : PI X tg e w2) : PI X tg e (fun σ H R => w1 σ H R ∨ w2 σ H R) :=
  ⟨fun pins s σ H R I h => h.elim (h1.run pins s σ H R I) (h2.run pins s σ H R I)⟩
/-- a text's signs -/
def signsD (x : Str) : List D := x.cps.toList.map fun c => .str ⟨#[c]⟩
theorem feeds_str {φ : Fi} {H : Hp} (x : Str) : Feeds G φ H (Its x) (signsD x) := by
  refine ⟨fun φ2 S2 H2 i d e s hd => ?_, fun φ2 S2 H2 e s => by show x.cps.size ≤ (signsD x).length; simp [signsD]⟩
  unfold signsD at hd
  rw [List.getElem?_map] at hd
  obtain ⟨c, e1, e2⟩ := Option.map_eq_some_iff.mp hd
  subst e2
  rw [Array.getElem?_toList] at e1
  refine ⟨(Array.getElem?_eq_some_iff.mp e1).1, fun y H3 ⟨e3, c', e4, e5⟩ => ?_⟩
  rw [e1] at e4
  cases e4
  subst e3 e5
  exact ⟨.refl, s, rfl⟩
def iSeq (f : EM) : LM := fun env S => (f env S).bindL fun d S => match d with
  | .lst ds => .ok ds S
  | .tup ds => .ok ds S
  | .str x => .ok (signsD x) S
  | _ => .bad
theorem di_seq {tg e : Expr} {f : EM} (hK : X.K = G.K) (he : DE G X W e f) : DI G X W tg e (iSeq f) := by
  obtain ⟨t, p, q⟩ := he
  refine ⟨_, PI.or (PI.or (pi_list p) (pi_tup p)) (pi_str p), fun σ H env φ S R s re h => ?_⟩
  unfold iSeq at h
  cases hr : f env S with
  | bad => rw [hr] at h; exact False.elim h
  | ex x S1 =>
    rw [hr] at h
    exact .inl (.inl (q σ H env φ S _ s re (by rw [hr]; exact h)))
  | ok d S1 =>
    rw [hr] at h
    cases d with
    | str x =>
      refine .inr (q σ H env φ S _ s re ?_)
      rw [hr]
      intro φ1 H1 v e1 s1 i1
      exact ⟨x, i1, h φ1 H1 _ e1 s1 (feeds_str x)⟩
    | lst ds =>
      refine .inl (.inl (q σ H env φ S _ s re ?_))
      rw [hr]
      intro φ1 H1 v e1 s1 i1
      obtain ⟨a, xs, rfl, r, il⟩ := i1
      refine ⟨a, rfl, ⟨xs, by rw [hK]; exact r.seq⟩, ?_⟩
      rw [hK]
      exact h φ1 H1 _ e1 s1 (feeds_list r il)
    | tup ds =>
      refine .inl (.inr (q σ H env φ S _ s re ?_))
      rw [hr]
      intro φ1 H1 v e1 s1 i1
      obtain ⟨a, xs, rfl, r, il⟩ := i1
      refine ⟨a, rfl, ⟨xs, by rw [hK]; exact r.seq⟩, ?_⟩
      rw [hK]
      exact h φ1 H1 _ e1 s1 (feeds_tup r il)
    | _ => exact False.elim h
def rangeD (lo : Int) (n : Nat) : List D := (List.range n).map fun i => .int (lo + (i : Nat))
theorem feeds_range {φ : Fi} {H : Hp} (lo : Int) (n : Nat) : Feeds G φ H (Itr lo n) (rangeD lo n) := by
  refine ⟨fun φ2 S2 H2 i d e s hd => ?_, fun φ2 S2 H2 e s => by show n ≤ (rangeD lo n).length; simp [rangeD]⟩
  unfold rangeD at hd
  rw [List.getElem?_map] at hd
  obtain ⟨j, e1, e2⟩ := Option.map_eq_some_iff.mp hd
  obtain ⟨hl, e3⟩ := List.getElem?_eq_some_iff.mp e1
  simp at hl e3
  subst e3 e2
  refine ⟨hl, fun x H3 ⟨e4, e5⟩ => ?_⟩
  subst e4 e5
  exact ⟨.refl, s, rfl⟩
def rOk (i : Int) : Prop := -4611686018427387904 ≤ i ∧ i < 4611686018427387904
noncomputable instance {i : Int} : Decidable (rOk i) := Classical.propDecidable _
theorem rOk.lo {i : Int} (h : rOk i) : -(2 ^ 62) ≤ i := by have := h.1; omega
theorem rOk.hi {i : Int} (h : rOk i) : i < 2 ^ 62 := by have := h.2; omega
noncomputable def iRange1 (f : LM) : LM := fun env S => (f env S).bind fun ds S => match ds with
  | [.int j] => if rOk j then .ok (rangeD 0 j.toNat) S else .bad
  | _ => .bad
noncomputable def iRange2 (f : LM) : LM := fun env S => (f env S).bind fun ds S => match ds with
  | [.int i, .int j] => if rOk i ∧ rOk j then .ok (rangeD i (j - i).toNat) S else .bad
  | _ => .bad
theorem PostL.toI {φ : Fi} {H : Hp} {σ : St} {r : LR} {g : List D → Store → LR} {R : It → Hp → Prop} {Q : List V → Hp → Prop} (h : PostI G W φ H σ (r.bind g) R)
    (k : ∀ d S φ' H' v, Ext φ H φ' H' → SOk G φ' S H' → IsL G φ' H' d v → PostI G W φ' H' σ (g d S) R → Q v H') : PostL G W φ H σ r Q := by
  cases r with
  | ok d S =>
    refine fun φ2 H2 v e s i => k d S φ2 H2 v e s i ?_
    have h' : PostI G W φ H σ (g d S) R := h
    cases hg : g d S with
    | ok ds S2 => rw [hg] at h'; exact fun φ3 H3 J e3 s3 f => h' φ3 H3 J (e.trans e3) s3 f
    | ex x S2 => rw [hg] at h'; exact fun φ3 H3 c dx e3 s3 f => h' φ3 H3 c dx (e.trans e3) s3 f
    | bad => rw [hg] at h'; exact h'
  | ex x S => exact h
  | bad => exact h
theorem di_range1 {tg a : Expr} {p pos : Pos} {f : LM} (hg : Gl X "range") (hm : X.mg "range" = none) (ha : DA G X W [a] f) (hs : starEach [a] X.env = [(false, eval a X.env)] := by rfl) : DI G X W tg (.Call (.Name "range" p) [a] [] pos) (iRange1 f) := by
  obtain ⟨t, pt, q⟩ := ha
  refine ⟨_, pi_range1 hg hm pt hs, fun σ H env φ S R s re h => ?_⟩
  refine q σ H env φ S _ s re (PostL.toI h fun ds S1 φ1 H1 vs e1 s1 i1 h1 => ?_)
  split at h1
  · rename_i j
    obtain ⟨x, rfl, k⟩ := IsL.inv1 i1
    cases (show x = _ from k)
    split at h1
    · rename_i hj
      exact ⟨j, rfl, hj.lo, hj.hi, h1 φ1 H1 _ .refl s1 (feeds_range 0 j.toNat)⟩
    · exact False.elim h1
  · exact False.elim h1
/-- enumerate of a list -/
def enumD : Nat → List D → List D
  | _, [] => []
  | n, d :: ds => .tup [.int (n : Nat), d] :: enumD (n + 1) ds
theorem enumD_length : ∀ (n : Nat) (ds : List D), (enumD n ds).length = ds.length
  | _, [] => rfl
  | n, d :: ds => by simp [enumD, enumD_length (n + 1) ds]
theorem enumD_get : ∀ (n : Nat) (ds : List D) (i : Nat) (d : D), (enumD n ds)[i]? = some d → ∃ e, ds[i]? = some e ∧ d = .tup [.int ((n + i : Nat) : Int), e]
  | _, [], _, _, h => by simp [enumD] at h
  | n, d :: ds, 0, d', h => by
    simp [enumD] at h
    exact ⟨d, rfl, h.symm⟩
  | n, d :: ds, i + 1, d', h => by
    obtain ⟨e, e1, e2⟩ := enumD_get (n + 1) ds i d' (by simpa [enumD] using h)
    exact ⟨e, by simpa using e1, by rw [e2, show n + 1 + i = n + (i + 1) by omega]⟩
def iEnumD (f : LM) : LM := fun env S => (f env S).bind fun ds S => match ds with
  | [.lst ds] => .ok (enumD 0 ds) S
  | _ => .bad
/-- zip of two lists -/
def zipD : List D → List D → List D
  | d :: ds, e :: es => .tup [d, e] :: zipD ds es
  | _, _ => []
def iZipD (f : LM) : LM := fun env S => (f env S).bind fun ds S => match ds with
  | [.lst ds, .lst es] => .ok (zipD ds es) S
  | _ => .bad
/-! ### for, while -/
def forD (b : D → EnvD → Option EnvD) (body : SM) : List D → SM
  | [], e, S => .nx e S
  | d :: ds, e, S => match b d e with
    | none => .bad
    | some e1 => match body e1 S with
      | .nx e2 S2 => forD b body ds e2 S2
      | .ct e2 S2 => forD b body ds e2 S2
      | .bk e2 S2 => .nx e2 S2
      | .rt d S2 => .rt d S2
      | .ex x e2 S2 => .ex x e2 S2
      | .bad => .bad
def sFor (f : LM) (b : D → EnvD → Option EnvD) (body : SM) : SM := fun e S => (f e S).bindS e fun ds S => forD b body ds e S
theorem PostI.ofS {φ : Fi} {H : Hp} {σ : St} {env : EnvD} (re : RepE G φ H σ env) {r : LR} {g : List D → Store → SR} {N : Ends} {R : It → Hp → Prop} (h : PostS G W φ H (r.bindS env g) N)
    (k : ∀ ds S φ' H' J, Ext φ H φ' H' → SOk G φ' S H' → Feeds G φ' H' J ds → PostS G W φ' H' (g ds S) N → R J H') : PostI G W φ H σ r R := by
  cases r with
  | ok d S => exact fun φ2 H2 J e s i => k d S φ2 H2 J e s i (PostS.ext (r := g d S) e h)
  | ex x S => exact fun φ2 H2 c d e s i => h φ2 H2 σ c d e s (re.ext e) i
  | bad => exact h
theorem ds_for {tg iter : Expr} {body : List Stmt} {pos : Pos} {f : LM} {b : D → EnvD → Option EnvD} {vs : List Nat} {g : SM} (hp : PassesOwn (model X.prog X.w) X.A X.env X.xe) (hc : X.calm = true) (hi : DI G X W tg iter f) (hg : DG G X tg b vs) (hb : DSs G X W body g) (hs : ∀ x, foldedSetIterable iter X.env x = pure x := by intro _; rfl) : DS G X W (.For tg iter body [] pos) (sFor f b g) := by
  obtain ⟨wi, pI, qi⟩ := hi
  obtain ⟨tgd, pg, qg⟩ := hg
  obtain ⟨tb, pb, qb⟩ := hb
  refine ⟨_, ps_for hp hc pI pg pb hs, fun σ H env φ S N s re h => ?_⟩
  refine qi σ H env φ S _ s re (PostI.ofS re h fun ds S1 φ1 H1 J e1 s1 fd h1 => ?_)
  refine ⟨fun i m σ2 H2 => m = ds.length - i ∧ i ≤ ds.length ∧ ∃ env2 φ2 S2, Ext φ1 H1 φ2 H2 ∧ SOk G φ2 S2 H2 ∧ RepE G φ2 H2 σ2 env2 ∧ PostS G W φ2 H2 (forD b g (ds.drop i) env2 S2) N,
    ⟨ds.length, by simp, Nat.zero_le _, env, φ1, S1, .refl, s1, re.ext e1, h1⟩, ?_⟩
  rintro i m σ2 H2 ⟨rfl, hi, env2, φ2, S2, e2, s2, r2, h2⟩
  by_cases hl : i < ds.length
  · right
    have hd : ds[i]? = some ds[i] := List.getElem?_eq_getElem hl
    obtain ⟨go, gy⟩ := fd.go φ2 S2 H2 i ds[i] e2.kept s2 hd
    rw [List.drop_eq_getElem_cons hl] at h2
    refine ⟨go, fun σ' H' => i + 1 ≤ ds.length ∧ ∃ env3 φ3 S3, Ext φ1 H1 φ3 H' ∧ SOk G φ3 S3 H' ∧ RepE G φ3 H' σ' env3 ∧ PostS G W φ3 H' (forD b g (ds.drop (i + 1)) env3 S3) N, fun σ' H' w => ⟨ds.length - (i + 1), by omega, rfl, w⟩, fun x H' hy => ?_⟩
    obtain ⟨e3, s3, k3⟩ := gy x H' hy
    unfold forD at h2
    cases hb1 : b ds[i] env2 with
    | none => rw [hb1] at h2; exact False.elim h2
    | some env3 =>
      rw [hb1] at h2
      refine qg x ds[i] σ2 H' env2 env3 φ2 _ k3 (r2.ext e3) hb1 fun σ3 r3 _ => ?_
      refine qb σ3 H' env3 φ2 S2 _ s3 r3 ?_
      dsimp only at h2
      cases hg1 : g env3 S2 with
      | nx e S =>
        rw [hg1] at h2
        exact fun φ4 H4 σ4 e4 s4 r4 => ⟨by omega, _, φ4, _, (e2.trans e3).trans e4, s4, r4, PostS.ext (e3.trans e4) h2⟩
      | ct e S =>
        rw [hg1] at h2
        exact fun φ4 H4 σ4 e4 s4 r4 => ⟨by omega, _, φ4, _, (e2.trans e3).trans e4, s4, r4, PostS.ext (e3.trans e4) h2⟩
      | bk e S =>
        rw [hg1] at h2
        exact fun φ4 H4 σ4 e4 s4 r4 => h2 φ4 H4 σ4 (e3.trans e4) s4 r4
      | rt d S =>
        rw [hg1] at h2
        exact fun φ4 H4 v e4 s4 r4 => h2 φ4 H4 v (e3.trans e4) s4 r4
      | ex x e S =>
        rw [hg1] at h2
        exact fun φ4 H4 σ4 c dx e4 s4 r4 ix => h2 φ4 H4 σ4 c dx (e3.trans e4) s4 r4 ix
      | bad => rw [hg1] at h2; exact False.elim h2
  · left
    have e : i = ds.length := by omega
    subst e
    rw [List.drop_length] at h2
    exact ⟨fd.stop φ2 S2 H2 e2.kept s2, h2 φ2 H2 σ2 .refl s2 r2⟩

/-- the most turns of a while -/
def bigN : Nat := 2 ^ 64
def whileD (c : EM) (body : SM) : Nat → SM
  | 0, _, _ => .bad
  | n + 1, e, S => match c e S with
    | .ok (.bl true) S1 => match body e S1 with
      | .nx e2 S2 => whileD c body n e2 S2
      | .ct e2 S2 => whileD c body n e2 S2
      | .bk e2 S2 => .nx e2 S2
      | .rt d S2 => .rt d S2
      | .ex x e2 S2 => .ex x e2 S2
      | .bad => .bad
    | .ok (.bl false) S1 => .nx e S1
    | .ex x S1 => .ex x e S1
    | _ => .bad
def sWhile (c : EM) (body : SM) : SM := whileD c body bigN
theorem ds_while {c : Expr} {body : List Stmt} {pos : Pos} {f : EM} {g : SM} (hp : PassesOwn (model X.prog X.w) X.A X.env X.xe) (hc : DT G X W c f) (hb : DSs G X W body g) : DS G X W (.While c body [] pos) (sWhile f g) := by
  obtain ⟨tc, pc, qc⟩ := hc
  obtain ⟨tb, pb, qb⟩ := hb
  refine ⟨_, ps_while hp pc pb, fun σ H env φ S N s re h => ?_⟩
  refine ⟨fun m σ2 H2 => ∃ env2 φ2 S2, Ext φ H φ2 H2 ∧ SOk G φ2 S2 H2 ∧ RepE G φ2 H2 σ2 env2 ∧ PostS G W φ2 H2 (whileD f g m env2 S2) N, ⟨bigN, env, φ, S, .refl, s, re, h⟩, ?_⟩
  rintro m σ2 H2 ⟨env2, φ2, S2, e2, s2, r2, h2⟩
  cases m with
  | zero => exact False.elim h2
  | succ m =>
    unfold whileD at h2
    refine qc σ2 H2 env2 φ2 S2 _ s2 r2 ?_
    cases hr : f env2 S2 with
    | bad => rw [hr] at h2; exact False.elim h2
    | ex x S3 =>
      rw [hr] at h2
      exact fun φ4 H4 c d e s i => h2 φ4 H4 σ2 c d e s (r2.ext e) i
    | ok d S3 =>
      rw [hr] at h2
      cases d with
      | bl k =>
        intro φ3 H3 v e3 s3 i b eb
        cases (show v = .bl k from i)
        cases eb
        cases k with
        | false => exact iteF (h2 φ3 H3 σ2 e3 s3 (r2.ext e3))
        | true =>
          refine iteT ⟨fun σ' H' => ∃ env3 φ3 S3, Ext φ H φ3 H' ∧ SOk G φ3 S3 H' ∧ RepE G φ3 H' σ' env3 ∧ PostS G W φ3 H' (whileD f g m env3 S3) N, fun σ' H' w => ⟨m, by omega, w⟩, ?_⟩
          refine qb σ2 H3 env2 φ3 S3 _ s3 (r2.ext e3) ?_
          dsimp only at h2
          cases hg1 : g env2 S3 with
          | nx e S =>
            rw [hg1] at h2
            exact fun φ4 H4 σ4 e4 s4 r4 => ⟨_, φ4, _, (e2.trans e3).trans e4, s4, r4, PostS.ext (e3.trans e4) h2⟩
          | ct e S =>
            rw [hg1] at h2
            exact fun φ4 H4 σ4 e4 s4 r4 => ⟨_, φ4, _, (e2.trans e3).trans e4, s4, r4, PostS.ext (e3.trans e4) h2⟩
          | bk e S =>
            rw [hg1] at h2
            exact fun φ4 H4 σ4 e4 s4 r4 => h2 φ4 H4 σ4 (e3.trans e4) s4 r4
          | rt d S =>
            rw [hg1] at h2
            exact fun φ4 H4 v e4 s4 r4 => h2 φ4 H4 v (e3.trans e4) s4 r4
          | ex x e S =>
            rw [hg1] at h2
            exact fun φ4 H4 σ4 c dx e4 s4 r4 ix => h2 φ4 H4 σ4 c dx (e3.trans e4) s4 r4 ix
          | bad => rw [hg1] at h2; exact False.elim h2
      | _ => exact False.elim h2

/-! ### list comprehensions -/
def DTs (G : Glb) (X : Cx) (W : WX) (ifs : List Expr) (f : EM) : Prop :=
  ∃ t, PTs X ifs t ∧ ∀ σ H env φ S Q, SOk G φ S H → RepE G φ H σ env → PostT G W φ H σ (f env S) Q → t σ H Q
def eYes : EM := fun _ S => .ok (.bl true) S
theorem dts_nil : DTs G X W [] eYes := ⟨_, pts_nil, fun σ H env φ S Q s re h => h.now s⟩
theorem dts_one {c : Expr} {f : EM} (h : DT G X W c f) : DTs G X W [c] f := let ⟨_, p, q⟩ := h; ⟨_, pts_one p, q⟩
noncomputable def lcD (b : D → EnvD → Option EnvD) (tt elt : EM) (env : EnvD) : List D → List D → Store → LR
  | acc, [], S => .ok acc S
  | acc, d :: ds, S => match b d env with
    | none => .bad
    | some e1 => match tt e1 S with
      | .ok (.bl true) S1 => match elt e1 S1 with
        | .ok y S2 => if sz (acc.length + 1) then lcD b tt elt env (acc ++ [y]) ds S2 else .bad
        | _ => .bad
      | .ok (.bl false) S1 => lcD b tt elt env acc ds S1
      | _ => .bad
noncomputable def eLc (f : LM) (b : D → EnvD → Option EnvD) (tt elt : EM) (vs : List Nat) : EM := fun env S => (f env S).bindE fun ds S => (lcD b tt elt (wipeD env vs) [] ds S).bindE fun ys S => .ok (.lst ys) S
/-- kept as a cell -/
noncomputable def eLcM (f : LM) (b : D → EnvD → Option EnvD) (tt elt : EM) (vs : List Nat) : EM := fun env S => (f env S).bindE fun ds S => (lcD b tt elt (wipeD env vs) [] ds S).bindE fun ys S => .ok (.loc S.length) (S ++ [.lst ys])
theorem wipe_at {σ : St} {j : Nat} : ∀ {vs : List Nat}, j ∈ vs → j < σ.length → (wipe σ vs)[j]? = some none
  | v :: vs, h, hl => by
    unfold L2.wipe
    by_cases q : v = j
    · subst q
      rw [List.getElem?_set_self (by rw [wipe_length]; exact hl)]
    · rw [List.getElem?_set_ne q]
      exact wipe_at ((List.mem_cons.mp h).resolve_left fun z => q z.symm) hl
theorem wipe_off {σ σ2 : St} {vs ws : List Nat} (hs : ∀ j ∈ vs, j ∈ ws) (o : Off vs (wipe σ ws) σ2) : wipe σ2 ws = wipe σ ws := by
  apply List.ext_getElem?
  intro j
  by_cases hj : j ∈ ws
  · by_cases hl : j < σ.length
    · rw [wipe_at hj hl, wipe_at hj (by rw [o.1, wipe_length]; exact hl)]
    · rw [List.getElem?_eq_none (by rw [wipe_length, o.1, wipe_length]; omega), List.getElem?_eq_none (by rw [wipe_length]; omega)]
  · rw [wipe_out hj, o.2 j fun z => hj (hs j z)]
theorem lcD_noex {b : D → EnvD → Option EnvD} {tt elt : EM} {env : EnvD} {x : Exc} {S2 : Store} : ∀ {ds acc : List D} {S : Store}, lcD b tt elt env acc ds S = .ex x S2 → False
  | [], _, _, h => by cases h
  | d :: ds, acc, S, h => by
    unfold lcD at h
    split at h
    · cases h
    · split at h
      · split at h
        · split at h
          · exact lcD_noex h
          · cases h
        · cases h
      · exact lcD_noex h
      · cases h
/-- a state of a comprehension that fills D0, from the state ahead of it -/
structure Lk (φ1 : Fi) (H1 : Hp) (D0 : Addr) (φ2 : Fi) (H2 : Hp) : Prop where
  ext : Ext φ1 H1 ⟨φ2.c, φ1.h⟩ H2
  hid : φ2.h = D0 :: φ1.h
theorem Lk.ext' {φ1 φ2 φ3 : Fi} {H1 H2 H3 : Hp} {D0 : Addr} (l : Lk φ1 H1 D0 φ2 H2) (e : Ext φ2 H2 φ3 H3) : Lk φ1 H1 D0 φ3 H3 :=
  ⟨l.ext.trans ⟨e.pre, rfl, fun a o n h => (e.keep a o n h).imp id fun ⟨od, nh, z⟩ => ⟨od, fun q => nh (by rw [l.hid]; exact List.mem_cons_of_mem _ q), z⟩⟩, e.hid.trans l.hid⟩
theorem Lk.put {φ1 φ2 : Fi} {H1 H2 : Hp} {D0 : Addr} {o : HO} (l : Lk φ1 H1 D0 φ2 H2) (hD : H1 D0 = none) : Lk φ1 H1 D0 φ2 (upd H2 D0 o) :=
  ⟨⟨l.ext.pre, rfl, fun a u n q => by rw [upd_ne (ne_of_none q hD)]; exact l.ext.keep a u n q⟩, l.hid⟩
theorem Lk.start {φ1 : Fi} {H1 : Hp} {D0 : Addr} {o : HO} (hD : H1 D0 = none) : Lk φ1 H1 D0 (φ1.hide D0) (upd H1 D0 o) := ⟨.laid hD, rfl⟩
theorem Lk.mem {φ1 φ2 : Fi} {H1 H2 : Hp} {D0 : Addr} (l : Lk φ1 H1 D0 φ2 H2) : D0 ∈ φ2.h := by rw [l.hid]; exact List.mem_cons_self
def PostLc (G : Glb) (φ1 : Fi) (H1 : Hp) (D0 : Addr) (r : LR) (Q : Hp → Prop) : Prop := match r with
  | .ok ds S => ∀ φ' H' xs, Lk φ1 H1 D0 φ' H' → SOk G φ' S H' → H' D0 = some (.lst xs) → IsL G φ' H' ds xs → Q H'
  | _ => False
theorem lc_loop {J : It} {g : TG} {tt : TT} {te : TE} {b : D → EnvD → Option EnvD} {ft fe : EM} {vs ws : List Nat} {σ : St} {env : EnvD} {φ1 : Fi} {H1 : Hp} {S1 : Store} {ds : List D} {D0 : Addr} {Qd : Hp → Prop} {WB WB' : WX}
    (qg : ∀ v d σ H env env' φ Q, Is G φ H d v → RepE G φ H σ env → b d env = some env' → (∀ σ', RepE G φ H σ' env' → Off vs σ σ' → Q σ' H) → g v σ H Q)
    (qt : ∀ σ H env φ S Q, SOk G φ S H → RepE G φ H σ env → PostT G WB φ H σ (ft env S) Q → tt σ H Q)
    (qe : ∀ σ H env φ S Q, SOk G φ S H → RepE G φ H σ env → PostE G WB' φ H σ (fe env S) Q → te σ H Q)
    (hs : ∀ j ∈ vs, j ∈ ws) (s1 : SOk G φ1 S1 H1) (re : RepE G φ1 H1 σ env) (fd : Feeds G φ1 H1 J ds) (hD : H1 D0 = none)
    (h : PostLc G φ1 H1 D0 (lcD b ft fe (wipeD env ws) [] ds S1) Qd) :
    ∃ Wt : Nat → Nat → Hp → Prop, (∃ m, Wt 0 m (upd H1 D0 (.lst []))) ∧ ∀ i m H, Wt i m H →
      (J.stop i H ∧ Qd H) ∨ (J.go i H ∧ ∃ Nx : Hp → Prop, (∀ H', Nx H' → ∃ m', m' < m ∧ Wt (i + 1) m' H') ∧ ∀ x H', J.yld i H x H' → g x (wipe σ ws) H' fun σ2 H2 => wipe σ2 ws = wipe σ ws ∧ tt σ2 H2 fun b H3 =>
        if b = true then te σ2 H3 fun y H4 => ∃ acc, H4 D0 = some (.lst acc) ∧ acc.length < sizeLine ∧ Nx (upd H4 D0 (.lst (acc ++ [y]))) else Nx H3) := by
  let Go : Nat → Hp → Prop := fun i H2 => i ≤ ds.length ∧ ∃ φ2 S2 accD acc, Kept φ1 H1 φ2 H2 ∧ Lk φ1 H1 D0 φ2 H2 ∧ SOk G φ2 S2 H2 ∧ H2 D0 = some (.lst acc) ∧ IsL G φ2 H2 accD acc ∧ PostLc G φ1 H1 D0 (lcD b ft fe (wipeD env ws) accD (ds.drop i) S2) Qd
  refine ⟨fun i m H2 => m = ds.length - i ∧ Go i H2, ⟨ds.length, by simp, Nat.zero_le _, φ1.hide D0, S1, [], [], Kept.hide hD, .start hD, s1.hide hD, upd_same, rfl, h⟩, ?_⟩
  rintro i m H2 ⟨rfl, hi, φ2, S2, accD, acc, k2, l2, s2, hacc, il, h2⟩
  by_cases hl : i < ds.length
  · right
    have hd : ds[i]? = some ds[i] := List.getElem?_eq_getElem hl
    obtain ⟨go, gy⟩ := fd.go φ2 S2 H2 i ds[i] k2 s2 hd
    rw [List.drop_eq_getElem_cons hl] at h2
    refine ⟨go, Go (i + 1), fun H' w => ⟨ds.length - (i + 1), by omega, rfl, w⟩, fun x H' hy => ?_⟩
    obtain ⟨e3, s3, k3⟩ := gy x H' hy
    have nc : D0 ∉ φ2.c := (s2.hid D0 l2.mem).1
    have r3 : RepE G φ2 H' (wipe σ ws) (wipeD env ws) := ((re.wipe ws).kept k2).ext e3
    unfold lcD at h2
    cases hb1 : b ds[i] (wipeD env ws) with
    | none => rw [hb1] at h2; exact False.elim h2
    | some env3 =>
      rw [hb1] at h2
      dsimp only at h2
      refine qg x ds[i] _ H' _ env3 φ2 _ k3 r3 hb1 fun σ3 r4 o3 => ⟨wipe_off hs o3, ?_⟩
      refine qt σ3 H' env3 φ2 S2 _ s3 r4 ?_
      cases ht : ft env3 S2 with
      | bad => rw [ht] at h2; exact False.elim h2
      | ex x S3 => rw [ht] at h2; exact False.elim h2
      | ok d S3 =>
        rw [ht] at h2
        cases d with
        | bl k =>
          intro φ4 H4 v e4 s4 i4 b' eb
          cases (show v = .bl k from i4)
          cases eb
          have e24 := e3.trans e4
          cases k with
          | false =>
            exact iteF ⟨by omega, φ4, S3, accD, acc, k2.trans e24.kept, l2.ext' e24, s4, e24.keepE nc hacc, il.ext e24, h2⟩
          | true =>
            refine iteT (qe σ3 H4 env3 φ4 S3 _ s4 (r4.ext e4) ?_)
            dsimp only at h2
            cases he : fe env3 S3 with
            | bad => rw [he] at h2; exact False.elim h2
            | ex x S5 => rw [he] at h2; exact False.elim h2
            | ok y S5 =>
              rw [he] at h2
              dsimp only at h2
              by_cases hz : sz (accD.length + 1)
              · rw [if_pos hz] at h2
                intro φ5 H5 v5 e5 s5 i5
                have e25 := e24.trans e5
                have l5 := l2.ext' e25
                have kh : Kept φ5 H5 φ5 (upd H5 D0 (.lst (acc ++ [v5]))) := .hidden l5.mem
                exact ⟨acc, e25.keepE nc hacc, by rw [← il.length, sizeLine_eq]; exact hz, by omega, φ5, S5, accD ++ [y], acc ++ [v5], (k2.trans e25.kept).trans kh, l5.put hD, s5.hidden l5.mem, upd_same, ((il.ext e25).append (.one i5)).kept kh, h2⟩
              · rw [if_neg hz] at h2; exact False.elim h2
        | _ => exact False.elim h2
  · left
    have e : i = ds.length := by omega
    subst e
    rw [List.drop_length] at h2
    exact ⟨fd.stop φ2 S2 H2 k2 s2, h2 φ2 H2 acc l2 s2 hacc il⟩
theorem PostI.ofE {φ : Fi} {H : Hp} {σ : St} {r : LR} {g : List D → Store → ER} {Q : VK} {R : It → Hp → Prop} (h : PostE G W φ H σ (r.bindE g) Q)
    (k : ∀ ds S φ' H' J, Ext φ H φ' H' → SOk G φ' S H' → Feeds G φ' H' J ds → PostE G W φ' H' σ (g ds S) Q → R J H') : PostI G W φ H σ r R := by
  cases r with
  | ok d S => exact fun φ2 H2 J e s i => k d S φ2 H2 J e s i (PostE.ext (r := g d S) e h)
  | ex x S => exact h
  | bad => exact h
/-- the finished list is no more hidden -/
theorem Lk.done {φ1 φ2 : Fi} {H1 H2 : Hp} {D0 : Addr} {S S0 : Store} {ds : List D} {xs : List V} (l : Lk φ1 H1 D0 φ2 H2) (s1 : SOk G φ1 S0 H1) (hD : H1 D0 = none) (s : SOk G φ2 S H2) (hx : H2 D0 = some (.lst xs)) (il : IsL G φ2 H2 ds xs) :
    SOk G ⟨φ2.c, φ1.h⟩ S H2 ∧ Is G ⟨φ2.c, φ1.h⟩ H2 (.lst ds) (.ref D0) := by
  have e : φ2 = (Fi.mk φ2.c φ1.h).hide D0 := by
    obtain ⟨c, h⟩ := φ2
    have := l.hid
    simp only at this
    subst this
    rfl
  have nc : D0 ∉ φ2.c := (s.hid D0 l.mem).1
  rw [e] at s il
  exact ⟨s.show_, D0, xs, rfl, .inl ⟨⟨nc, s1.freshh hD⟩, .inl hx⟩, il.kept Kept.show_⟩
/-! canonical readings: they hang on no context -/
def tOf (G : Glb) (W : WX) (f : EM) : TE := fun σ H Q => ∃ env φ S, SOk G φ S H ∧ RepE G φ H σ env ∧ PostE G W φ H σ (f env S) Q
def tOfT (G : Glb) (W : WX) (f : EM) : TT := fun σ H Q => ∃ env φ S, SOk G φ S H ∧ RepE G φ H σ env ∧ PostT G W φ H σ (f env S) Q
def gOf (G : Glb) (b : D → EnvD → Option EnvD) (vs : List Nat) : TG := fun v σ H Q => ∃ d env env' φ, Is G φ H d v ∧ RepE G φ H σ env ∧ b d env = some env' ∧ ∀ σ', RepE G φ H σ' env' → Off vs σ σ' → Q σ' H
theorem DE.can {e : Expr} {f : EM} (h : DE G X W e f) : PE X e (tOf G W f) := by
  obtain ⟨t, p, q⟩ := h
  exact ⟨fun pins s σ H Q I ⟨env, φ, S, so, r, z⟩ => p.run pins s σ H Q I (q σ H env φ S Q so r z)⟩
theorem DTs.can {e : List Expr} {f : EM} (h : DTs G X W e f) : PTs X e (tOfT G W f) := by
  obtain ⟨t, p, q⟩ := h
  exact ⟨fun pins s σ H Q I ⟨env, φ, S, so, r, z⟩ => p.run pins s σ H Q I (q σ H env φ S Q so r z)⟩
theorem DG.can {e : Expr} {b : D → EnvD → Option EnvD} {vs : List Nat} (h : DG G X e b vs) : PG X e (gOf G b vs) := by
  obtain ⟨g, p, q⟩ := h
  exact ⟨fun pins s σ H v u Q I r ⟨d, env, env', φ, i, re, z, k⟩ => p.run pins s σ H v u Q I r (q v d σ H env env' φ Q i re z k)⟩
/-- nothing leaves a comprehension -/
abbrev W0 : WX := fun _ _ _ _ => False
section
variable {elt tg iter : Expr} {ifs : List Expr} {scope : Scope} {own : List (Str × Nat)} {pos : Pos} {f : LM} {b : D → EnvD → Option EnvD} {ft fe : EM} {vs : List Nat}
theorem lc_read {wi : TI} (qi : ∀ σ H env φ S R, SOk G φ S H → RepE G φ H σ env → PostI G W φ H σ (f env S) R → wi σ H R) (hvs : ∀ j ∈ vs, j ∈ own.map (·.2)) {Q : VK} {R : ER → Prop}
    {σ : St} {H : Hp} {env : EnvD} {φ : Fi} {S : Store} (s : SOk G φ S H) (re : RepE G φ H σ env) (h : PostE G W φ H σ (eLc f b ft fe (own.map (·.2)) env S) Q) :
    tLc wi (gOf G b vs) (tOfT G W0 ft) (tOf G W0 fe) (own.map (·.2)) σ H Q := by
  refine qi σ H env φ S _ s re (PostI.ofE h fun ds S1 φ1 H1 J e1 s1 fd h1 D0 hD => ?_)
  refine lc_loop (env := env) (fun v d σ H env env' φ Q i r z k => ⟨d, env, env', φ, i, r, z, k⟩) (fun σ H env φ S Q s r z => ⟨env, φ, S, s, r, z⟩) (fun σ H env φ S Q s r z => ⟨env, φ, S, s, r, z⟩) hvs s1 (re.ext e1) fd hD ?_
  cases hr : lcD b ft fe (wipeD env (own.map (·.2))) [] ds S1 with
  | ok ys S2 =>
    rw [hr] at h1
    intro φ2 H2 xs l2 s2 hx il
    obtain ⟨s3, i3⟩ := l2.done s1 hD s2 hx il
    exact h1 _ H2 _ l2.ext s3 i3
  | ex x S2 => exact absurd hr (fun z => lcD_noex z)
  | bad => rw [hr] at h1; exact h1
theorem de_lc (hc : X.calm = true) (hN : X.N.Nodup) (hi : DI G X W tg iter f) (ok : BlkOk X.N X.env.scope scope own)
    (hg : ∀ (s : Shared) (H : Hp) (C : Addr) (cl : List (Str × Addr)) (fp : List Addr), DG G (X.blk s H scope (compEnvC scope cl C X.env) fp) tg b vs)
    (ht : ∀ (s : Shared) (H : Hp) (C : Addr) (cl : List (Str × Addr)) (fp : List Addr), DTs G (X.blk s H scope (compEnvC scope cl C X.env) fp) W0 ifs ft)
    (he : ∀ (s : Shared) (H : Hp) (C : Addr) (cl : List (Str × Addr)) (fp : List Addr), DE G (X.blk s H scope (compEnvC scope cl C X.env) fp) W0 elt fe)
    (hvs : ∀ j ∈ vs, j ∈ own.map (·.2)) (hs : ∀ x, foldedSetIterable iter X.env x = pure x := by intro _; rfl) : DE G X W (.ListComp elt [⟨tg, iter, ifs, 0⟩] scope pos) (eLc f b ft fe (own.map (·.2))) := by
  obtain ⟨wi, pI, qi⟩ := hi
  exact ⟨_, pe_lc hc hN pI ok (fun s H C cl fp => (hg s H C cl fp).can) (fun s H C cl fp => (ht s H C cl fp).can) (fun s H C cl fp => (he s H C cl fp).can) hs, fun σ H env φ S Q s re h => lc_read (R := fun _ => True) qi hvs s re h⟩
theorem ds_setLc {i : Nat} {y : Str} {py spos : Pos} (hc : X.calm = true) (hN : X.N.Nodup) (hi : DI G X W tg iter f) (ok : BlkOk X.N X.env.scope scope own)
    (hg : ∀ (s : Shared) (H : Hp) (C : Addr) (cl : List (Str × Addr)) (fp : List Addr), DG G (X.blk s H scope (compEnvC scope cl C X.env) fp) tg b vs)
    (ht : ∀ (s : Shared) (H : Hp) (C : Addr) (cl : List (Str × Addr)) (fp : List Addr), DTs G (X.blk s H scope (compEnvC scope cl C X.env) fp) W0 ifs ft)
    (he : ∀ (s : Shared) (H : Hp) (C : Addr) (cl : List (Str × Addr)) (fp : List Addr), DE G (X.blk s H scope (compEnvC scope cl C X.env) fp) W0 elt fe)
    (hvs : ∀ j ∈ vs, j ∈ own.map (·.2)) (hy : X.N[i]? = some y) (hyl : X.env.scope.names.lookup y = some .local)
    (hsw : swapsWith (.ListComp elt [⟨tg, iter, ifs, 0⟩] scope pos) (some (.Name y py)) spos.line X.env = pure true) (hs : ∀ x, foldedSetIterable iter X.env x = pure x := by intro _; rfl) :
    DS G X W (.Assign [.Name y py] (.ListComp elt [⟨tg, iter, ifs, 0⟩] scope pos) spos) (sAsg (eLc f b ft fe (own.map (·.2))) (bName i)) := by
  obtain ⟨wi, pI, qi⟩ := hi
  refine ⟨_, ps_setLc hc hN hy hyl hsw pI ok (fun s H C cl fp => (hg s H C cl fp).can) (fun s H C cl fp => (ht s H C cl fp).can) (fun s H C cl fp => (he s H C cl fp).can) hs, fun σ H env φ S N s re h => ?_⟩
  exact lc_read (R := fun _ => True) qi hvs s re (PostE.bindS re h fun d S1 φ1 H1 v e1 s1 i1 h1 => h1 φ1 H1 _ .refl s1 ((re.ext e1).set i1 i))
end
end
end DL
end
section
/-! D-layer, part 4: defs, their calls, what leaves a def; cells that are written; the law's end. -/
namespace DL
open PySem L2 PySem.Spec PyProof.Rows

/-! ### what leaves a def: new cells become plain data -/
mutual
def frzD (ρ : Nat → Option D) : D → Option D
  | .non => some .non
  | .bl b => some (.bl b)
  | .int i => some (.int i)
  | .str x => some (.str x)
  | .tup ds => (frzDs ρ ds).map .tup
  | .lst ds => (frzDs ρ ds).map .lst
  | .dic ks ds => (frzDs ρ ds).map (.dic ks)
  | .obj c ks ds => (frzDs ρ ds).map (.obj c ks)
  | .loc l => ρ l
  | .dct ks ds => (frzDs ρ ds).map (.dct ks)
  | .exn c ks ds => (frzDs ρ ds).map (.exn c ks)
  | .tpl ds => (frzDs ρ ds).map .tpl
def frzDs (ρ : Nat → Option D) : List D → Option (List D)
  | [] => some []
  | d :: ds => (frzD ρ d).bind fun a => (frzDs ρ ds).map (a :: ·)
end
def resD (n : Nat) (S : Store) : Nat → Nat → Option D
  | 0, _ => none
  | k + 1, l => if l < n then some (.loc l) else match S[l]? with
    | some (.lst ds) => (frzDs (resD n S k) ds).map .lst
    | some (.dic kvs) => (frzDs (resD n S k) (kvs.map (·.2))).map (.dic (kvs.map (·.1)))
    | some (.ins c fs) => (frzDs (resD n S k) (fs.map (·.2))).map (.obj c (fs.map (·.1)))
    | some (.dct kvs) => (frzDs (resD n S k) (kvs.map (·.2))).map (.dct (kvs.map (·.1)))
    | none => none
mutual
def belD (n : Nat) : D → Bool
  | .tup ds => belDs n ds
  | .lst ds => belDs n ds
  | .dic _ ds => belDs n ds
  | .obj _ _ ds => belDs n ds
  | .dct _ ds => belDs n ds
  | .exn _ _ ds => belDs n ds
  | .tpl ds => belDs n ds
  | .loc l => decide (l < n)
  | _ => true
def belDs (n : Nat) : List D → Bool
  | [] => true
  | d :: ds => belD n d && belDs n ds
end
def Cell.bel (n : Nat) : Cell → Bool
  | .lst ds => belDs n ds
  | .dic kvs => belDs n (kvs.map (·.2))
  | .ins _ fs => belDs n (fs.map (·.2))
  | .dct kvs => belDs n (kvs.map (·.2))
inductive Mode where
  | keep
  | pure
  | upto (k : Nat)
open Classical in
/-- the end of a def that began at S0 -/
noncomputable def exitD (m : Mode) (S0 : Store) (d : D) (S : Store) : ER := match m with
  | .keep => .ok d S
  | .pure => match frzD (resD S0.length S 12) d with
    | some d' => if S.take S0.length = S0 ∨ (S.take S0.length).all (Cell.bel S0.length) = true then .ok d' (S.take S0.length) else .bad
    | none => .bad
  | .upto k => match frzD (resD (S0.length + k) S 12) d with
    | some d' => if (S.take (S0.length + k)).all (Cell.bel (S0.length + k)) = true then .ok d' (S.take (S0.length + k)) else .bad
    | none => .bad
section
variable {G : Glb} {φ : Fi} {H : Hp} {S : Store}
def Fi.cut (φ : Fi) (n : Nat) : Fi := ⟨φ.c.take n, φ.h⟩
theorem cut_out {φ : Fi} {n : Nat} {a : Addr} (h : φ.out a) : (φ.cut n).out a := ⟨fun z => h.1 (List.mem_of_mem_take z), h.2⟩
theorem RdL.cut {n : Nat} {a : Addr} {xs : List V} (h : RdL G φ H a xs) : RdL G (φ.cut n) H a xs := h.elim (fun z => .inl ⟨cut_out z.1, z.2⟩) .inr
theorem RdT.cut {n : Nat} {a : Addr} {xs : List V} (h : RdT G φ H a xs) : RdT G (φ.cut n) H a xs := h.elim (fun z => .inl ⟨cut_out z.1, z.2⟩) .inr
mutual
theorem frz_is {n : Nat} {ρ : Nat → Option D} (hρ : ∀ l d' a, ρ l = some d' → φ.c[l]? = some a → Is G (φ.cut n) H d' (.ref a)) : ∀ {d d' : D} {v : V}, Is G φ H d v → frzD ρ d = some d' → Is G (φ.cut n) H d' v
  | .non, _, v, i, e => by cases e; exact i
  | .bl _, _, v, i, e => by cases e; exact i
  | .int _, _, v, i, e => by cases e; exact i
  | .str _, _, v, i, e => by cases e; exact i
  | .tup ds, _, v, i, e => by
    obtain ⟨a, xs, e1, r, q⟩ := i
    obtain ⟨es, e2, e3⟩ := Option.map_eq_some_iff.mp (show (frzDs ρ ds).map D.tup = some _ from e)
    subst e3
    exact ⟨a, xs, e1, r.cut, frz_isL hρ q e2⟩
  | .lst ds, _, v, i, e => by
    obtain ⟨a, xs, e1, r, q⟩ := i
    obtain ⟨es, e2, e3⟩ := Option.map_eq_some_iff.mp (show (frzDs ρ ds).map D.lst = some _ from e)
    subst e3
    exact ⟨a, xs, e1, r.cut, frz_isL hρ q e2⟩
  | .dic ks ds, _, v, i, e => by
    obtain ⟨a, kvs, e1, ⟨n1, r⟩, z, q⟩ := i
    obtain ⟨es, e2, e3⟩ := Option.map_eq_some_iff.mp (show (frzDs ρ ds).map (D.dic ks) = some _ from e)
    subst e3
    exact ⟨a, kvs, e1, ⟨cut_out n1, r⟩, z, frz_isL hρ q e2⟩
  | .obj c ks ds, _, v, i, e => by
    obtain ⟨a, C, dx, fs, e1, ⟨n1, r⟩, hc, z, q⟩ := i
    obtain ⟨es, e2, e3⟩ := Option.map_eq_some_iff.mp (show (frzDs ρ ds).map (D.obj c ks) = some _ from e)
    subst e3
    exact ⟨a, C, dx, fs, e1, ⟨cut_out n1, r⟩, hc, z, frz_isL hρ q e2⟩
  | .loc l, d', v, i, e => by
    obtain ⟨a, ha, e1⟩ := i
    subst e1
    exact hρ l d' a e ha
  | .dct ks ds, _, v, i, e => by
    obtain ⟨a, kvs, e1, ⟨n1, r⟩, z, q⟩ := i
    obtain ⟨es, e2, e3⟩ := Option.map_eq_some_iff.mp (show (frzDs ρ ds).map (D.dct ks) = some _ from e)
    subst e3
    exact ⟨a, kvs, e1, ⟨cut_out n1, r⟩, z, frz_isL hρ q e2⟩
  | .exn c ks ds, _, v, i, e => by
    obtain ⟨a, C, d, e1, ⟨n1, r⟩, hc, z⟩ := i
    obtain ⟨es, e2, e3⟩ := Option.map_eq_some_iff.mp (show (frzDs ρ ds).map (D.exn c ks) = some _ from e)
    subst e3
    refine ⟨a, C, d, e1, ⟨cut_out n1, r⟩, hc, ?_⟩
    rcases z with ⟨z0, z1, z2⟩ | ⟨b, fs, e4, ⟨n2, r2⟩, e5, q⟩
    · subst z2; cases e2; exact .inl ⟨z0, z1, rfl⟩
    · exact .inr ⟨b, fs, e4, ⟨cut_out n2, r2⟩, e5, frz_isL hρ q e2⟩
  | .tpl ds, _, v, i, e => by
    obtain ⟨a, xs, o, e1, ⟨n1, r⟩, q⟩ := i
    obtain ⟨es, e2, e3⟩ := Option.map_eq_some_iff.mp (show (frzDs ρ ds).map D.tpl = some _ from e)
    subst e3
    exact ⟨a, xs, o, e1, ⟨cut_out n1, r⟩, frz_isL hρ q e2⟩
theorem frz_isL {n : Nat} {ρ : Nat → Option D} (hρ : ∀ l d' a, ρ l = some d' → φ.c[l]? = some a → Is G (φ.cut n) H d' (.ref a)) : ∀ {ds ds' : List D} {vs : List V}, IsL G φ H ds vs → frzDs ρ ds = some ds' → IsL G (φ.cut n) H ds' vs
  | [], _, v, i, e => by cases e; exact i
  | d :: ds, _, v, i, e => by
    obtain ⟨x, r, e1, p, q⟩ := i
    obtain ⟨a, e2, e3⟩ := Option.bind_eq_some_iff.mp (show ((frzD ρ d).bind fun a => (frzDs ρ ds).map (a :: ·)) = some _ from e)
    obtain ⟨b, e4, e5⟩ := Option.map_eq_some_iff.mp e3
    subst e5
    exact ⟨x, r, e1, frz_is hρ p e2, frz_isL hρ q e4⟩
end
theorem res_is (s : SOk G φ S H) (n : Nat) : ∀ (k l : Nat) (d' : D) (a : Addr), resD n S k l = some d' → φ.c[l]? = some a → Is G (φ.cut n) H d' (.ref a)
  | 0, _, _, _, e, _ => by cases e
  | k + 1, l, d', a, e, ha => by
    unfold resD at e
    have ih := res_is s n k
    by_cases hl : l < n
    · rw [if_pos hl] at e
      cases e
      exact ⟨a, by show (φ.c.take n)[l]? = _; rw [List.getElem?_take]; rw [if_pos hl]; exact ha, rfl⟩
    · rw [if_neg hl] at e
      have nc : a ∉ (φ.cut n).c := fun z => by
        obtain ⟨j, hj, e2⟩ := List.getElem_of_mem z
        have h1 : (φ.c.take n)[j]? = some a := by rw [← e2]; exact List.getElem?_eq_getElem hj
        rw [List.getElem?_take] at h1
        split at h1
        · exact hl (by rw [nd_ix s.nd ha h1]; assumption)
        · cases h1
      have nh : a ∉ φ.h := fun z => (s.hid a z).1 (List.mem_of_getElem? ha)
      split at e
      · rename_i ds hc
        obtain ⟨xs, hx, q⟩ := s.at_ hc ha
        obtain ⟨es, e2, e3⟩ := Option.map_eq_some_iff.mp e
        subst e3
        exact ⟨a, xs, rfl, .inl ⟨⟨nc, nh⟩, .inl hx⟩, frz_isL ih q e2⟩
      · rename_i kvs hc
        obtain ⟨ws, hx, z, q⟩ := s.at_ hc ha
        obtain ⟨es, e2, e3⟩ := Option.map_eq_some_iff.mp e
        subst e3
        exact ⟨a, ws, rfl, ⟨⟨nc, nh⟩, .inl hx⟩, z, frz_isL ih q e2⟩
      · rename_i c fs hc
        obtain ⟨C, dx, ws, hC, hx, z, q⟩ := s.at_ hc ha
        obtain ⟨es, e2, e3⟩ := Option.map_eq_some_iff.mp e
        subst e3
        exact ⟨a, C, dx, ws, rfl, ⟨⟨nc, nh⟩, hx⟩, hC, z, frz_isL ih q e2⟩
      · rename_i kvs hc
        obtain ⟨ws, hx, z, q⟩ := s.at_ hc ha
        obtain ⟨es, e2, e3⟩ := Option.map_eq_some_iff.mp e
        subst e3
        exact ⟨a, ws, rfl, ⟨⟨nc, nh⟩, .inl hx⟩, z, frz_isL ih q e2⟩
      · cases e
mutual
theorem bel_of {n : Nat} (hn : φ.c.length ≤ n) : ∀ {d : D} {v : V}, Is G φ H d v → belD n d = true
  | .non, _, _ => rfl
  | .bl _, _, _ => rfl
  | .int _, _, _ => rfl
  | .str _, _, _ => rfl
  | .tup ds, _, i => by obtain ⟨a, xs, e1, r, q⟩ := i; exact bel_ofL hn q
  | .lst ds, _, i => by obtain ⟨a, xs, e1, r, q⟩ := i; exact bel_ofL hn q
  | .dic _ ds, _, i => by obtain ⟨a, xs, e1, r, z, q⟩ := i; exact bel_ofL hn q
  | .obj _ _ ds, _, i => by obtain ⟨a, C, dx, xs, e1, r, c, z, q⟩ := i; exact bel_ofL hn q
  | .dct _ ds, _, i => by obtain ⟨a, xs, e1, r, z, q⟩ := i; exact bel_ofL hn q
  | .exn _ _ ds, _, i => by
    obtain ⟨a, C, d, e1, r, c, z⟩ := i
    rcases z with ⟨_, _, z⟩ | ⟨b, fs, _, _, _, q⟩
    · subst z; rfl
    · exact bel_ofL hn q
  | .tpl ds, _, i => by obtain ⟨a, xs, o, e1, r, q⟩ := i; exact bel_ofL hn q
  | .loc l, _, i => by
    obtain ⟨a, ha, _⟩ := i
    have := (List.getElem?_eq_some_iff.mp ha).1
    show decide (l < n) = true
    exact decide_eq_true (by omega)
theorem bel_ofL {n : Nat} (hn : φ.c.length ≤ n) : ∀ {ds : List D} {vs : List V}, IsL G φ H ds vs → belDs n ds = true
  | [], _, _ => rfl
  | d :: ds, _, i => by
    obtain ⟨x, r, e1, p, q⟩ := i
    show (belD n d && belDs n ds) = true
    rw [bel_of hn p, bel_ofL hn q]; rfl
end
mutual
theorem bel_is {n : Nat} : ∀ {d : D} {v : V}, belD n d = true → Is G φ H d v → Is G (φ.cut n) H d v
  | .non, _, _, i => i
  | .bl _, _, _, i => i
  | .int _, _, _, i => i
  | .str _, _, _, i => i
  | .tup ds, _, h, i => by obtain ⟨a, xs, e1, r, q⟩ := i; exact ⟨a, xs, e1, r.cut, bel_isL h q⟩
  | .lst ds, _, h, i => by obtain ⟨a, xs, e1, r, q⟩ := i; exact ⟨a, xs, e1, r.cut, bel_isL h q⟩
  | .dic _ ds, _, h, i => by obtain ⟨a, xs, e1, ⟨n1, r⟩, z, q⟩ := i; exact ⟨a, xs, e1, ⟨cut_out n1, r⟩, z, bel_isL h q⟩
  | .obj _ _ ds, _, h, i => by obtain ⟨a, C, dx, xs, e1, ⟨n1, r⟩, c, z, q⟩ := i; exact ⟨a, C, dx, xs, e1, ⟨cut_out n1, r⟩, c, z, bel_isL h q⟩
  | .dct _ ds, _, h, i => by obtain ⟨a, xs, e1, ⟨n1, r⟩, z, q⟩ := i; exact ⟨a, xs, e1, ⟨cut_out n1, r⟩, z, bel_isL h q⟩
  | .exn _ _ ds, _, h, i => by
    obtain ⟨a, C, d, e1, ⟨n1, r⟩, c, z⟩ := i
    refine ⟨a, C, d, e1, ⟨cut_out n1, r⟩, c, ?_⟩
    rcases z with z | ⟨b, fs, e4, ⟨n2, r2⟩, e5, q⟩
    · exact .inl z
    · exact .inr ⟨b, fs, e4, ⟨cut_out n2, r2⟩, e5, bel_isL h q⟩
  | .tpl _, _, h, i => by obtain ⟨a, xs, o, e1, ⟨n1, r⟩, q⟩ := i; exact ⟨a, xs, o, e1, ⟨cut_out n1, r⟩, bel_isL h q⟩
  | .loc l, _, h, i => by
    obtain ⟨a, ha, e⟩ := i
    have hl : l < n := of_decide_eq_true h
    exact ⟨a, by show (φ.c.take n)[l]? = _; rw [List.getElem?_take, if_pos hl]; exact ha, e⟩
theorem bel_isL {n : Nat} : ∀ {ds : List D} {vs : List V}, belDs n ds = true → IsL G φ H ds vs → IsL G (φ.cut n) H ds vs
  | [], _, _, i => i
  | d :: ds, _, h, i => by
    obtain ⟨x, r, e1, p, q⟩ := i
    have h' : (belD n d && belDs n ds) = true := h
    simp only [Bool.and_eq_true] at h'
    exact ⟨x, r, e1, bel_is h'.1 p, bel_isL h'.2 q⟩
end
theorem CellOk.bel {a : Addr} {c : Cell} {n : Nat} (hn : φ.c.length ≤ n) (h : CellOk G φ H a c) : c.bel n = true := by
  cases c with
  | lst ds => obtain ⟨xs, _, q⟩ := h; exact bel_ofL hn q
  | dic kvs => obtain ⟨xs, _, _, q⟩ := h; exact bel_ofL hn q
  | ins c fs => obtain ⟨C, dx, xs, _, _, _, q⟩ := h; exact bel_ofL hn q
  | dct kvs => obtain ⟨xs, _, _, q⟩ := h; exact bel_ofL hn q
theorem CellOk.cut {a : Addr} {c : Cell} {n : Nat} (hb : c.bel n = true) (h : CellOk G φ H a c) : CellOk G (φ.cut n) H a c := by
  cases c with
  | lst ds => obtain ⟨xs, k, q⟩ := h; exact ⟨xs, k, bel_isL hb q⟩
  | dic kvs => obtain ⟨xs, k, z, q⟩ := h; exact ⟨xs, k, z, bel_isL hb q⟩
  | ins c fs => obtain ⟨C, dx, xs, k, y, z, q⟩ := h; exact ⟨C, dx, xs, k, y, z, bel_isL hb q⟩
  | dct kvs => obtain ⟨xs, k, z, q⟩ := h; exact ⟨xs, k, z, bel_isL hb q⟩
theorem SOk.cut (s : SOk G φ S H) {n : Nat} (hb : ∀ c ∈ S.take n, c.bel n = true) : SOk G (φ.cut n) (S.take n) H := by
  refine ⟨by simp [Fi.cut, s.len], s.nd.sublist (List.take_sublist _ _), fun a ha => ?_, fun l c hc => ?_⟩
  · obtain ⟨n1, q⟩ := s.hid a ha
    exact ⟨fun z => n1 (List.mem_of_mem_take z), q⟩
  · have hm := hb c (List.mem_of_getElem? hc)
    rw [List.getElem?_take] at hc
    split at hc
    · rename_i hl
      obtain ⟨a, ha, k⟩ := s.cell l c hc
      exact ⟨a, by show (φ.c.take n)[l]? = _; rw [List.getElem?_take, if_pos hl]; exact ha, k.cut hm⟩
    · cases hc
/-- the way out -/
theorem exit_ok {m : Mode} {φ0 : Fi} {H0 : Hp} {S0 : Store} {d : D} {v : V} {W : WX} {σ : L2.St} {Q : VK} (s0 : SOk G φ0 S0 H0) (e : Ext φ0 H0 φ H) (s : SOk G φ S H) (i : Is G φ H d v) (h : PostE G W φ0 H0 σ (exitD m S0 d S) Q) : Q v H := by
  cases m with
  | keep => exact h φ H v e s i
  | pure =>
    unfold exitD at h
    dsimp only at h
    cases hd : frzD (resD S0.length S 12) d with
    | none => rw [hd] at h; exact False.elim h
    | some d' =>
      rw [hd] at h
      dsimp only at h
      split at h
      · rename_i hc
        have eφ : φ.cut S0.length = φ0 := by
          obtain ⟨ψ, e1, _⟩ := e.pre
          obtain ⟨c0, h0⟩ := φ0
          obtain ⟨c1, h1⟩ := φ
          have eh := e.hid
          simp only at e1 eh
          subst e1 eh
          have hl : c0.length = S0.length := s0.len
          show Fi.mk ((c0 ++ ψ).take S0.length) h1 = Fi.mk c0 h1
          rw [← hl, List.take_left]
        have hb : ∀ c ∈ S.take S0.length, c.bel S0.length = true := by
          rcases hc with hc | hc
          · intro c hm
            rw [hc] at hm
            obtain ⟨l, hl, e1⟩ := List.getElem_of_mem hm
            obtain ⟨a, ha, k⟩ := s0.cell l c (by rw [← e1]; exact List.getElem?_eq_getElem hl)
            exact k.bel (by rw [s0.len]; exact Nat.le_refl _)
          · exact fun c hm => List.all_eq_true.mp hc c hm
        have s2 := s.cut hb
        rw [eφ] at s2
        refine h φ0 H v ⟨⟨[], by simp, fun _ z => by simp at z⟩, rfl, e.keep⟩ s2 ?_
        have i2 := frz_is (n := S0.length) (res_is s S0.length 12) i hd
        rw [eφ] at i2
        exact i2
      · exact False.elim h
  | upto k =>
    unfold exitD at h
    dsimp only at h
    cases hd : frzD (resD (S0.length + k) S 12) d with
    | none => rw [hd] at h; exact False.elim h
    | some d' =>
      rw [hd] at h
      dsimp only at h
      split at h
      · rename_i hc
        have s2 := s.cut (n := S0.length + k) fun c hm => List.all_eq_true.mp hc c hm
        refine h (φ.cut (S0.length + k)) H v ⟨?_, e.hid, e.keep⟩ s2 (frz_is (n := S0.length + k) (res_is s (S0.length + k) 12) i hd)
        obtain ⟨ψ, e1, p⟩ := e.pre
        refine ⟨ψ.take k, ?_, fun a ha => p a (List.mem_of_mem_take ha)⟩
        show φ.c.take (S0.length + k) = φ0.c ++ ψ.take k
        rw [e1, ← s0.len, List.take_append, List.take_of_length_le (by omega)]
        congr 1
        congr 1
        omega
      · exact False.elim h
end

/-! ### a def's promise -/
def spD (G : Glb) (n : Nat) (F : FD) : Sp := fun vs H Q E => vs.length = n ∧ ∃ φ S ds, SOk G φ S H ∧ IsL G φ H ds vs ∧ PostE G (fun cls dx _ H => E cls dx H) φ H [] (F ds S) Q
def startD (n : Nat) (ds : List D) : EnvD := ds.map some ++ List.replicate (n - ds.length) none
noncomputable def fnF (m : Mode) (n : Nat) (g : SM) : FD := fun ds S => match g (startD n ds) S with
  | .nx _ S1 => exitD m S .non S1
  | .rt d S1 => exitD m S d S1
  | .ex x _ S1 => .ex x S1
  | _ => .bad
theorem rep_start {G : Glb} {φ : Fi} {H : Hp} {ds : List D} {vs : List V} (N : List Str) (i : IsL G φ H ds vs) : RepE G φ H (L2.start N vs) (startD N.length ds) := by
  refine ⟨by simp [L2.start, startD, i.length], fun j d e => ?_⟩
  unfold startD at e
  by_cases hj : j < ds.length
  · rw [List.getElem?_append_left (by simpa using hj), List.getElem?_map] at e
    obtain ⟨d1, e1, e2⟩ := Option.map_eq_some_iff.mp e
    cases e2
    obtain ⟨v, hv, k⟩ := i.get e1
    refine ⟨v, ?_, k⟩
    unfold L2.start
    rw [List.getElem?_append_left (by simpa [← i.length] using hj), List.getElem?_map, hv]
    rfl
  · rw [List.getElem?_append_right (by simpa using hj), List.getElem?_replicate] at e
    split at e <;> cases e
/-- a def of the module, called by its name -/
structure Def (G : Glb) (P : Program) (w : World) (mg : Str → Option Value) (base : Heap) (k : Nat) (x : Str) (n : Nat) (F : FD) : Prop where
  ex : ∃ f fd ps, FnOk P w G.K mg base (L2.CX P w) k f fd ps (spD G n F) ∧ mg x = some (.ref f) ∧ PySem.W.keepIn G.K (.ref f) = true ∧ Binds G.K fd ps []
section
variable {G : Glb} {X : Cx} {W : WX} {k n : Nat} {x : Str} {F : FD} {p pos : Pos} {e : Expr} {es : List Expr} {fa : LM}
def eCall (F : FD) (f : LM) : EM := fun env S => (f env S).bindE F
/-- how many arguments -/
theorem la_nil : ∀ env S ds S', lNil env S = .ok ds S' → ds.length = 0 := fun env S ds S' h => by cases h; rfl
theorem la_cons {f : EM} {g : LM} {m : Nat} (h : ∀ env S ds S', g env S = .ok ds S' → ds.length = m) : ∀ env S ds S', lCons f g env S = .ok ds S' → ds.length = m + 1 := fun env S ds S' q => by
  unfold lCons at q
  cases hf : f env S with
  | ok d S1 =>
    rw [hf] at q
    have q' : ((g env S1).bind fun ds S => .ok (d :: ds) S) = .ok ds S' := q
    cases hg : g env S1 with
    | ok es S2 =>
      rw [hg] at q'
      cases q'
      simp [h _ _ _ _ hg]
    | ex x S2 => rw [hg] at q'; cases q'
    | bad => rw [hg] at q'; cases q'
  | ex x S1 => rw [hf] at q; cases q
  | bad => rw [hf] at q; cases q

/-! ### cells that are written -/
/-- xs[i] = e of a list's cell -/
def putIx (i : Int) (ds : List D) (d : D) : Option (List D) := (ixN ds.length i).map fun j => ds.set j d
def setD (o i d : D) (S : Store) : Option Store := match o, i with
  | .loc l, .int i => match S[l]? with
    | some (.lst ds) => (putIx i ds d).map fun es => S.set l (.lst es)
    | _ => none
  | _, _ => none
/-- o[i] = e: e first, then o, i -/
def sPutL (o i f : EM) : SM := fun env S => (f env S).bindS env fun d S => (o env S).bindS env fun a S => (i env S).bindS env fun b S => match setD a b d S with
  | some S' => .nx env S'
  | none => .bad
theorem set_is {φ : Fi} {S S' : Store} {H : Hp} {o i d : D} {vo vi v : V} (s : SOk G φ S H) (io : Is G φ H o vo) (ii : Is G φ H i vi) (id : Is G φ H d v) (h : setD o i d S = some S') {Q : Hp → Prop} (k : ∀ H', Ext φ H φ H' → SOk G φ S' H' → Q H') : rSetL vo vi v H Q := by
  cases o with
  | loc l =>
    cases i with
    | int i =>
      obtain ⟨a, ha, rfl⟩ := io
      cases (show vi = _ from ii)
      simp only [setD] at h
      cases hc : S[l]? with
      | none => rw [hc] at h; cases h
      | some c =>
        rw [hc] at h
        cases c with
        | lst ds =>
          obtain ⟨es, e1, e2⟩ := Option.map_eq_some_iff.mp (show (putIx i ds d).map (fun es => S.set l (.lst es)) = some S' from h)
          obtain ⟨j, e3, e4⟩ := Option.map_eq_some_iff.mp (show (ixN ds.length i).map (fun j => ds.set j d) = some es from e1)
          subst e2 e4
          obtain ⟨xs, hx, q⟩ := s.at_ hc ha
          refine ⟨a, xs, i, j, rfl, rfl, hx, by rw [← q.length]; exact e3, k _ (.put (List.mem_of_getElem? ha)) (s.put ha ⟨_, upd_same, ?_⟩)⟩
          exact (q.set j id).ext (.put (List.mem_of_getElem? ha))
        | _ => cases h
    | _ => cases h
  | _ => cases h
/-- a built-in type's method by values -/
def DMeth (G : Glb) (X : Cx) (id : String) (g : D → List D → Store → ER) : Prop :=
  ∃ r, MtR X id r ∧ ∀ W φ S H σ dx ds x xs Q, SOk G φ S H → Is G φ H dx x → IsL G φ H ds xs → PostE G W φ H σ (g dx ds S) Q → r x xs H Q
/-- the types of which methods are asked -/
def tyD (T : String) (S : Store) : D → Bool
  | .str _ => T == "str"
  | d => T == "list" && (listD S d).isSome
theorem tyD_is {φ : Fi} {S : Store} {H : Hp} {T : String} {d : D} {v : V} (hK : X.K = G.K) (s : SOk G φ S H) (i : Is G φ H d v) (h : tyD T S d = true) : tyV X.K T v H := by
  have other : (T == "list" && (listD S d).isSome) = true → tyV X.K T v H := fun h => by
    simp only [Bool.and_eq_true, beq_iff_eq] at h
    obtain ⟨ds, e⟩ := Option.isSome_iff_exists.mp h.2
    obtain ⟨a, xs, rfl, r, _⟩ := listD_sq s i e
    exact .inl ⟨h.1, xs, by rw [hK]; exact r⟩
  cases d with
  | str x =>
    cases (show v = _ from i)
    exact beq_iff_eq.mp h
  | _ => exact other h
def eMeth (T : String) (g : D → List D → Store → ER) (o : EM) (f : LM) : EM := fun env S => (o env S).bind fun a S => if tyD T S a then (f env S).bindE fun ds S => g a ds S else .bad
theorem de_meth {T id : String} {name : Str} {g : D → List D → Store → ER} {o : Expr} {fo : EM} {apos cpos : Pos} (pa : PlainAttrs T) (slot : Slot T name id) (hty : typeOf (.builtin id) = pure (.type "method_descriptor")) (hm : DMeth G X id g) (hK : X.K = G.K) (ho : DE G X W o fo) (ha : DA G X W (e :: es) fa)
    (hbase : attributeBase o name X.env (eval o X.env) = eval o X.env := by rfl)
    (hfew : ((backTo cpos (starEach (e :: es) X.env)).all (fun x => !x.1) && (backToKw cpos (keywordEach [] X.env)).all (fun x => x.1.isSome) && decide ((e :: es).length + ([] : List Keyword).length + (if ([] : List Keyword).isEmpty then 0 else 1) < 30)) = true := by rfl)
    (hline : (apos.endLine == cpos.line) = true := by rfl) (hs : starEach (e :: es) X.env = (false, eval e X.env) :: starEach es X.env := by rfl) (hplain : (backTo cpos (starEach es X.env)).any (·.1) = false := by rfl) :
    DE G X W (.Call (.Attribute o name apos) (e :: es) [] cpos) (eMeth T g fo fa) := by
  obtain ⟨r, hr, q⟩ := hm
  obtain ⟨to, po, qo⟩ := ho
  obtain ⟨t, pt, qt⟩ := ha
  refine ⟨_, pe_bm pa slot hty hr po pt hbase hfew hline hs hplain, fun σ H env φ S Q s re h => ?_⟩
  refine qo σ H env φ S _ s re (PostE.bind h fun a S1 φ1 H1 v e1 s1 i1 h1 => ?_)
  split at h1
  · rename_i ht
    refine ⟨tyD_is hK s1 i1 ht, qt σ H1 env φ1 S1 _ s1 (re.ext e1) (PostL.bindE h1 fun ds S2 φ2 H2 vs e2 s2 i2 h2 => ?_)⟩
    exact q W φ2 S2 H2 σ a ds v vs Q s2 (i1.ext e2) i2 h2
  · exact False.elim h1
/-- a list's cell changes -/
def cellL (S : Store) (d : D) (g : Nat → List D → ER) : ER := match d with
  | .loc l => match S[l]? with
    | some (.lst ds) => g l ds
    | _ => .bad
  | _ => .bad
theorem cellL_is {φ : Fi} {S : Store} {H : Hp} {σ : L2.St} {d : D} {v : V} {g : Nat → List D → ER} {Q : VK} {P : Prop} (s : SOk G φ S H) (i : Is G φ H d v) (h : PostE G W φ H σ (cellL S d g) Q)
    (k : ∀ l ds a xs, d = .loc l → S[l]? = some (.lst ds) → v = .ref a → φ.c[l]? = some a → H a = some (.lst xs) → IsL G φ H ds xs → PostE G W φ H σ (g l ds) Q → P) : P := by
  cases d with
  | loc l =>
    obtain ⟨a, ha, rfl⟩ := i
    simp only [cellL] at h
    cases hc : S[l]? with
    | none => rw [hc] at h; exact False.elim h
    | some c =>
      rw [hc] at h
      cases c with
      | lst ds =>
        obtain ⟨xs, hx, q⟩ := s.at_ hc ha
        exact k l ds a xs rfl hc rfl ha hx q h
      | _ => exact False.elim h
  | _ => exact False.elim h
theorem cell_put {φ : Fi} {S : Store} {H : Hp} {σ : L2.St} {l : Nat} {a : Addr} {ds : List D} {xs : List V} {d : D} {v : V} {Q : VK} (s : SOk G φ S H) (ha : φ.c[l]? = some a) (q : IsL G φ H ds xs) (i : Is G φ H d v) (h : PostE G W φ H σ (.ok d (S.set l (.lst ds))) Q) : Q v (upd H a (.lst xs)) :=
  have e : Ext φ H φ (upd H a (.lst xs)) := .put (List.mem_of_getElem? ha)
  h φ _ v e (s.put ha ⟨xs, upd_same, q.ext e⟩) (i.ext e)
noncomputable def mAppend (o : D) (ds : List D) (S : Store) : ER := cellL S o fun l xs => match ds with
  | [d] => if sz (xs.length + 1) then .ok .non (S.set l (.lst (xs ++ [d]))) else .bad
  | _ => .bad
theorem dm_append : DMeth G X "list.append" mAppend := by
  refine ⟨_, mt_append, fun W φ S H σ dx ds x xs Q s ix ids h => ?_⟩
  refine cellL_is s ix h fun l es a ys e1 e2 e3 ha hx q h1 => ?_
  subst e1 e3
  match ds, ids, h1 with
  | [d], ids, h1 =>
    obtain ⟨y, rfl, k⟩ := IsL.inv1 ids
    dsimp only at h1
    split at h1
    · rename_i hz
      exact ⟨a, ys, y, rfl, rfl, hx, by rw [← q.length, sizeLine_eq]; exact hz, cell_put s ha (q.append (.one k)) (show Is G φ H .non .non from rfl) h1⟩
    · exact False.elim h1
  | [], _, h1 => exact False.elim h1
  | _ :: _ :: _, _, h1 => exact False.elim h1
def mPop (o : D) (ds : List D) (S : Store) : ER := cellL S o fun l xs => match ds with
  | [] => match xs[xs.length - 1]? with
    | some d => .ok d (S.set l (.lst xs.dropLast))
    | none => .bad
  | _ => .bad
theorem IsL.dropLast {φ : Fi} {H : Hp} : ∀ {ds : List D} {xs : List V}, IsL G φ H ds xs → IsL G φ H ds.dropLast xs.dropLast := fun {ds xs} h => by
  rw [List.dropLast_eq_take, List.dropLast_eq_take, h.length]
  exact h.take _
end
/-! ### the law's end -/
theorem law_sp {G : Glb} {F : FD} {H : Hp} {a : Addr} {ns : List Int} (hO : Only H) (hS : SqL G.K H a (ns.map V.int)) (h : ∃ S, F [.lst (ns.map .int)] [] = .ok (.bl true) S) :
    spD G 1 F [.ref a] H (fun v _ => v = .bl true) (fun _ _ _ => False) := by
  obtain ⟨S, e⟩ := h
  refine ⟨rfl, ⟨[], []⟩, [], [.lst (ns.map .int)], ⟨rfl, List.nodup_nil, fun _ z => by simp at z, fun _ _ z => by simp at z⟩, ?_, ?_⟩
  · refine .one ⟨a, _, rfl, ?_, IsL.of_ints⟩
    rcases hS with z | z
    · exact .inl ⟨⟨by simp, by simp⟩, z⟩
    · exact .inr z
  · rw [e]
    exact fun φ' H' v _ _ i => i
theorem no_CX {P : Program} {w : World} {H : Hp} {s s' : Shared} {e : Value} (h : L2.CX P w [] H s (fun _ _ _ => False) e s') : False := by
  obtain ⟨_, _, _, _, _, _, _, _, _, _, _, _, z⟩ := h
  exact z
end DL
end
section
/-! D-layer, part 5: isinstance, chains of comparisons, constants of the module. -/
namespace DL
open PySem L2 PySem.Spec PyProof.Rows
section
variable {G : Glb} {X : Cx} {W : WX}
/-! ### isinstance of built-in types -/
inductive Ty where
  | int | bool | str | tuple | list | dict | none
  deriving DecidableEq
def Ty.nm : Ty → String
  | .int => "int" | .bool => "bool" | .str => "str" | .tuple => "tuple" | .list => "list" | .dict => "dict" | .none => "NoneType"
def Ty.isa (a b : Ty) : Bool := decide (a = b) || (decide (a = .bool) && decide (b = .int))
theorem ty_kit (a b : Ty) (h : b ≠ .none) : kitB a.nm b.nm = some (a.isa b) := by
  cases a <;> cases b <;> first | exact absurd rfl h | decide +kernel
def tyOf (S : Store) : D → Option Ty
  | .non => some .none
  | .bl _ => some .bool
  | .int _ => some .int
  | .str _ => some .str
  | .tup _ => some .tuple
  | .lst _ => some .list
  | .dic _ _ => some .dict
  | .obj _ _ _ => none
  | .dct _ _ => none
  | .exn _ _ _ => none
  | .tpl _ => some .tuple
  | .loc l => match S[l]? with
    | some (.lst _) => some .list
    | some (.dic _) => some .dict
    | some (.dct _) => some .dict
    | _ => none
theorem tyOf_is {φ : Fi} {S : Store} {H : Hp} {d : D} {v : V} {t : Ty} (s : SOk G φ S H) (i : Is G φ H d v) (e : tyOf S d = some t) : TyX G.K H v (.type t.nm) := by
  have lst : ∀ {a : Addr} {xs : List V}, SqL G.K H a xs → TyX G.K H (.ref a) (.type "list") := fun {a xs} r => by
    rcases r with (r | ⟨o, r⟩) | ⟨o, its, n, h1, h2, _⟩
    · exact .base (.lst r)
    · exact .base (.frz r)
    · exact .kList h1 h2
  cases d with
  | non => cases e; cases (show v = _ from i); exact .base .non
  | bl b => cases e; cases (show v = _ from i); exact .base (.bl b)
  | int b => cases e; cases (show v = _ from i); exact .base (.int b)
  | str b => cases e; cases (show v = _ from i); exact .base (.str b)
  | tup ds =>
    cases e
    obtain ⟨a, xs, rfl, r, _⟩ := i
    rcases r with ⟨_, r | ⟨o, r⟩⟩ | ⟨o, its, n, h1, h2, _⟩
    · exact .base (.tup r)
    · exact .fTuple r
    · exact .kTuple h1 h2
  | lst ds =>
    cases e
    obtain ⟨a, xs, rfl, r, _⟩ := i
    exact lst r.seq
  | dic ks ds =>
    cases e
    obtain ⟨a, xs, rfl, ⟨_, r | ⟨o, r⟩⟩, _⟩ := i
    · exact .base (.dK r)
    · exact .fDict r
  | obj c ks ds => cases e
  | exn c ks ds => cases e
  | tpl ds =>
    cases e
    obtain ⟨a, xs, o, rfl, ⟨_, r, _⟩, _⟩ := i
    exact .fTuple r
  | dct ks ds => cases e
  | loc l =>
    obtain ⟨a, ha, rfl⟩ := i
    simp only [tyOf] at e
    split at e
    · rename_i ds hc
      cases e
      obtain ⟨xs, hx, _⟩ := s.at_ hc ha
      exact .base (.lst hx)
    · rename_i ds hc
      cases e
      obtain ⟨xs, hx, _⟩ := s.at_ hc ha
      exact .base (.dK hx)
    · rename_i ds hc
      cases e
      obtain ⟨xs, hx, _⟩ := s.at_ hc ha
      exact .base (.dT hx)
    · cases e
def eIsi (b : Ty) (f : EM) : EM := fun env S => (f env S).bind fun d S => match tyOf S d with
  | some a => .ok (.bl (a.isa b)) S
  | none => .bad
/-- isinstance(e, (T1, T2)) -/
def eIsi2 (b c : Ty) (f : EM) : EM := fun env S => (f env S).bind fun d S => match tyOf S d with
  | some a => .ok (.bl (a.isa b || a.isa c)) S
  | none => .bad
/-! ### a < b < c -/
theorem chain_of {r r' : R2} {g g' : D → D → Store → ER} {ta tb tc : TE} {fa fb fc : EM}
    (hr : ∀ W φ S H σ dx dy x y Q, SOk G φ S H → Is G φ H dx x → Is G φ H dy y → PostE G W φ H σ (g dx dy S) Q → r x y H Q)
    (hr' : ∀ W φ S H σ dx dy x y Q, SOk G φ S H → Is G φ H dx x → Is G φ H dy y → PostE G W φ H σ (g' dx dy S) Q → r' x y H Q)
    (ha : ∀ σ H env φ S Q, SOk G φ S H → RepE G φ H σ env → PostE G W φ H σ (fa env S) Q → ta σ H Q)
    (hb : ∀ σ H env φ S Q, SOk G φ S H → RepE G φ H σ env → PostE G W φ H σ (fb env S) Q → tb σ H Q)
    (hc : ∀ σ H env φ S Q, SOk G φ S H → RepE G φ H σ env → PostE G W φ H σ (fc env S) Q → tc σ H Q) :
    ∀ σ H env φ S Q, SOk G φ S H → RepE G φ H σ env → PostE G W φ H σ (eChain g g' fa fb fc env S) Q → tChain r r' ta tb tc σ H Q := fun σ H env φ S Q s re h => by
  refine ha σ H env φ S _ s re (PostE.bind h fun d S1 φ1 H1 v e1 s1 i1 h1 => ?_)
  refine hb σ H1 env φ1 S1 _ s1 (re.ext e1) (PostE.bind h1 fun d2 S2 φ2 H2 v2 e2 s2 i2 h2 => ?_)
  refine hr W φ2 S2 H2 σ d d2 v v2 _ s2 (i1.ext e2) i2 (PostE.bind h2 fun z S3 φ3 H3 vz e3 s3 i3 h3 => ?_)
  cases z with
  | bl k =>
    refine ⟨k, i3, ?_⟩
    cases k with
    | true =>
      refine iteT (hc σ H3 env φ3 S3 _ s3 ((re.ext e1).ext (e2.trans e3)) (PostE.bind h3 fun d4 S4 φ4 H4 v4 e4 s4 i4 h4 => ?_))
      exact hr' W φ4 S4 H4 σ d2 d4 v2 v4 Q s4 (i2.ext (e3.trans e4)) i4 h4
    | false => exact iteF (h3.now s3 rfl)
  | _ => exact False.elim h3
theorem de_chain {op op' : CmpOp} {a b c : Expr} {pos : Pos} {g g' : D → D → Store → ER} {fa fb fc : EM} (ho : DOp G X (compareOp op) g) (ho' : DOp G X (compareOp op') g') (ha : DE G X W a fa) (hb : DE G X W b fb) (hc : DE G X W c fc)
    (h1 : lastMarks [op, op'] [b, c] = false := by rfl) : DE G X W (.Compare a [op, op'] [b, c] pos) (eChain g g' fa fb fc) := by
  obtain ⟨r, hr, q⟩ := ho
  obtain ⟨r', hr', q'⟩ := ho'
  obtain ⟨ta, pa, qa⟩ := ha
  obtain ⟨tb, pb, qb⟩ := hb
  obtain ⟨tc, pc, qc⟩ := hc
  exact ⟨_, pe_chain hr hr' pa pb pc h1, chain_of q q' qa qb qc⟩
theorem dt_chain {op op' : CmpOp} {a b c : Expr} {pos : Pos} {g g' : D → D → Store → ER} {fa fb fc : EM} (ho : DOp G X (compareOp op) g) (ho' : DOp G X (compareOp op') g') (ha : DE G X W a fa) (hb : DE G X W b fb) (hc : DE G X W c fc)
    (h1 : lastMarks [op, op'] [b, c] = false := by rfl) : DT G X W (.Compare a [op, op'] [b, c] pos) (eChain g g' fa fb fc) := by
  obtain ⟨r, hr, q⟩ := ho
  obtain ⟨r', hr', q'⟩ := ho'
  obtain ⟨ta, pa, qa⟩ := ha
  obtain ⟨tb, pb, qb⟩ := hb
  obtain ⟨tc, pc, qc⟩ := hc
  refine ⟨_, pt_chain hr hr' pa pb pc h1, fun σ H env φ S Q s re h => ?_⟩
  exact chain_of q q' qa qb qc σ H env φ S _ s re h.of

/-! ### what is never reached; constants of the module -/
theorem de_gInt {x : Str} {i : Int} {pos : Pos} (h : ∃ t, X.mg x = some (.int i t)) (hg : Gl X x) (hd : (x == ("__debug__" : Str)) = false := by decide) : DE G X W (.Name x pos) (eC (.int i)) :=
  let ⟨t, e⟩ := h; de_glob hg e (v := .int i) ⟨t, rfl⟩ (fun _ _ => rfl) hd
theorem de_gStr {x z : Str} {pos : Pos} (h : ∃ t, X.mg x = some (.str z t)) (hg : Gl X x) (hd : (x == ("__debug__" : Str)) = false := by decide) : DE G X W (.Name x pos) (eC (.str z)) :=
  let ⟨t, e⟩ := h; de_glob hg e (v := .str z) ⟨t, rfl⟩ (fun _ _ => rfl) hd
end

/-! ### slices -/
section
variable {G : Glb} {X : Cx} {W : WX}
inductive OR where
  | ok (o : Option Int) (S : Store)
  | ex (x : Exc) (S : Store)
  | bad
abbrev OM := EnvD → Store → OR
def OR.bindE (r : OR) (g : Option Int → Store → ER) : ER := match r with
  | .ok d S => g d S
  | .ex x S => .ex x S
  | .bad => .bad
def PostO (G : Glb) (W : WX) (φ : Fi) (H : Hp) (σ : L2.St) (r : OR) (Q : Option Int → Hp → Prop) : Prop := match r with
  | .ok d S => ∀ φ' H', Ext φ H φ' H' → SOk G φ' S H' → Q d H'
  | .ex x S => ∀ φ' H' cls dx, Ext φ H φ' H' → SOk G φ' S H' → IsX G φ' H' x cls dx → W cls dx σ H'
  | .bad => False
def DO (G : Glb) (X : Cx) (W : WX) (e : Option Expr) (f : OM) : Prop :=
  ∃ t, PO X e t ∧ ∀ σ H env φ S Q, SOk G φ S H → RepE G φ H σ env → PostO G W φ H σ (f env S) Q → t σ H Q
def oNone : OM := fun _ S => .ok none S
def oSome (f : EM) : OM := fun env S => match f env S with
  | .ok (.int i) S => .ok (some i) S
  | .ex x S => .ex x S
  | _ => .bad
theorem do_none : DO G X W none oNone := ⟨_, po_none, fun σ H env φ S Q s re h => h φ H .refl s⟩
theorem do_some {e : Expr} {f : EM} (h : DE G X W e f) : DO G X W (some e) (oSome f) := by
  obtain ⟨t, p, q⟩ := h
  refine ⟨_, po_some p, fun σ H env φ S Q s re h => ?_⟩
  refine q σ H env φ S _ s re ?_
  unfold oSome at h
  cases hr : f env S with
  | ok d S1 =>
    rw [hr] at h
    cases d with
    | int i => exact fun φ1 H1 v e1 s1 i1 => ⟨i, i1, h φ1 H1 e1 s1⟩
    | _ => exact False.elim h
  | ex x S1 => rw [hr] at h; exact h
  | bad => rw [hr] at h; exact False.elim h
theorem PostO.bindE {φ : Fi} {H : Hp} {σ : L2.St} {r : OR} {g : Option Int → Store → ER} {Q : VK} {Q' : Option Int → Hp → Prop} (h : PostE G W φ H σ (r.bindE g) Q)
    (k : ∀ d S φ' H', Ext φ H φ' H' → SOk G φ' S H' → PostE G W φ' H' σ (g d S) Q → Q' d H') : PostO G W φ H σ r Q' := by
  cases r with
  | ok d S => exact fun φ2 H2 e s => k d S φ2 H2 e s (PostE.ext (r := g d S) e h)
  | ex x S => exact h
  | bad => exact h
def cutD {α : Type} (xs : List α) (lo hi : Option Int) : List α := (xs.drop (HT.sIx xs.length 0 lo)).take (HT.sIx xs.length xs.length hi - HT.sIx xs.length 0 lo)
theorem IsL.cut {φ : Fi} {H : Hp} {ds : List D} {xs : List V} (h : IsL G φ H ds xs) (lo hi : Option Int) : IsL G φ H (cutD ds lo hi) (cutV xs lo hi) := by
  unfold cutD cutV
  rw [h.length]
  exact (h.drop _).take _
def slD (x : D) (lo hi : Option Int) (S : Store) : ER := match x with
  | .tup ds => .ok (.tup (cutD ds lo hi)) S
  | x => match listD S x with
    | some ds => .ok (.lst (cutD ds lo hi)) S
    | none => .bad
def eSlice (f : EM) (lo hi : OM) : EM := fun env S => (f env S).bind fun x S => (lo env S).bindE fun l S => (hi env S).bindE fun u S => slD x l u S
theorem cut_whole {α : Type} {xs : List α} {lo hi : Option Int} (h : HT.sIx xs.length 0 lo = 0 ∧ HT.sIx xs.length xs.length hi = xs.length) : cutD xs lo hi = xs := by
  unfold cutD
  rw [h.1, h.2]; simp
theorem de_slice {e : Expr} {lo hi : Option Expr} {p2 pos : Pos} {f : EM} {fl fh : OM} (hK : X.K = G.K) (he : DE G X W e f) (hl : DO G X W lo fl) (hh : DO G X W hi fh) : DE G X W (.Subscript e (.Slice lo hi none p2) pos) (eSlice f fl fh) := by
  obtain ⟨t, p, q⟩ := he
  obtain ⟨tl, pl, ql⟩ := hl
  obtain ⟨th, ph, qh⟩ := hh
  refine ⟨_, pe_slice (sl_list.or sl_tupA) p pl ph, fun σ H env φ S Q s re h => ?_⟩
  refine q σ H env φ S _ s re (PostE.bind h fun x S1 φ1 H1 v e1 s1 i1 h1 => ?_)
  refine ql σ H1 env φ1 S1 _ s1 (re.ext e1) (PostO.bindE h1 fun l S2 φ2 H2 e2 s2 h2 => ?_)
  refine qh σ H2 env φ2 S2 _ s2 ((re.ext e1).ext e2) (PostO.bindE h2 fun u S3 φ3 H3 e3 s3 h3 => ?_)
  have i3 := (i1.ext e2).ext e3
  unfold slD at h3
  split at h3
  · rename_i ds
    obtain ⟨a, xs, rfl, r, il⟩ := i3
    refine .inr ⟨a, xs, rfl, by rw [hK]; exact r.seq, fun hw => ?_, fun _ p hp => tup_new s3 (il.cut l u) h3 hp⟩
    rw [← il.length] at hw
    rw [cut_whole hw] at h3
    exact h3.now s3 ⟨a, xs, rfl, r, il⟩
  · split at h3
    · rename_i ds e
      obtain ⟨a, xs, rfl, r, il⟩ := listD_sq s3 i3 e
      exact .inl ⟨a, xs, rfl, by rw [hK]; exact r, fun p hp => lst_new s3 (il.cut l u) h3 hp⟩
    · exact False.elim h3
end
end DL
end
section
/-! D-layer, part 6: how the values are reckoned (by simp). -/
namespace DL
open PySem L2
section
variable {d : D} {S : Store} {x : Exc} {e env : EnvD} {i j : Int}
@[simp] theorem ER.bind_ok {g : D → Store → ER} : (ER.ok d S).bind g = g d S := rfl
@[simp] theorem ER.bind_ex {g : D → Store → ER} : (ER.ex x S).bind g = .ex x S := rfl
@[simp] theorem ER.bind_bad {g : D → Store → ER} : ER.bad.bind g = .bad := rfl
@[simp] theorem ER.bindL_ok {g : D → Store → LR} : (ER.ok d S).bindL g = g d S := rfl
@[simp] theorem ER.bindL_ex {g : D → Store → LR} : (ER.ex x S).bindL g = .ex x S := rfl
@[simp] theorem ER.bindL_bad {g : D → Store → LR} : ER.bad.bindL g = .bad := rfl
@[simp] theorem LR.bind_ok {ds : List D} {g : List D → Store → LR} : (LR.ok ds S).bind g = g ds S := rfl
@[simp] theorem LR.bind_ex {g : List D → Store → LR} : (LR.ex x S).bind g = .ex x S := rfl
@[simp] theorem LR.bind_bad {g : List D → Store → LR} : LR.bad.bind g = .bad := rfl
@[simp] theorem LR.bindE_ok {ds : List D} {g : List D → Store → ER} : (LR.ok ds S).bindE g = g ds S := rfl
@[simp] theorem LR.bindE_ex {g : List D → Store → ER} : (LR.ex x S).bindE g = .ex x S := rfl
@[simp] theorem LR.bindE_bad {g : List D → Store → ER} : LR.bad.bindE g = .bad := rfl
@[simp] theorem ER.bindS_ok {g : D → Store → SR} : (ER.ok d S).bindS e g = g d S := rfl
@[simp] theorem ER.bindS_ex {g : D → Store → SR} : (ER.ex x S).bindS e g = .ex x e S := rfl
@[simp] theorem ER.bindS_bad {g : D → Store → SR} : ER.bad.bindS e g = .bad := rfl
@[simp] theorem LR.bindS_ok {ds : List D} {g : List D → Store → SR} : (LR.ok ds S).bindS e g = g ds S := rfl
@[simp] theorem LR.bindS_ex {g : List D → Store → SR} : (LR.ex x S).bindS e g = .ex x e S := rfl
@[simp] theorem LR.bindS_bad {g : List D → Store → SR} : LR.bad.bindS e g = .bad := rfl
@[simp] theorem OR.bindE_ok {o : Option Int} {g : Option Int → Store → ER} : (OR.ok o S).bindE g = g o S := rfl
@[simp] theorem SR.seq_nx {g : EnvD → Store → SR} : (SR.nx e S).seq g = g e S := rfl
@[simp] theorem SR.seq_rt {g : EnvD → Store → SR} : (SR.rt d S).seq g = .rt d S := rfl
@[simp] theorem SR.seq_bk {g : EnvD → Store → SR} : (SR.bk e S).seq g = .bk e S := rfl
@[simp] theorem SR.seq_ct {g : EnvD → Store → SR} : (SR.ct e S).seq g = .ct e S := rfl
@[simp] theorem SR.seq_ex {g : EnvD → Store → SR} : (SR.ex x e S).seq g = .ex x e S := rfl
@[simp] theorem SR.seq_bad {g : EnvD → Store → SR} : SR.bad.seq g = .bad := rfl
@[simp] theorem eVar_at {i : Nat} (h : env[i]? = some (some d)) : eVar i env S = .ok d S := by unfold eVar; rw [h]
@[simp] theorem eC_is : eC d env S = .ok d S := rfl
@[simp] theorem lNil_is : lNil env S = .ok [] S := rfl
@[simp] theorem lCons_is {f : EM} {g : LM} : lCons f g env S = (f env S).bindL fun d S => (g env S).bind fun ds S => .ok (d :: ds) S := rfl
@[simp] theorem eOp_is {g : D → D → Store → ER} {a b : EM} : eOp g a b env S = (a env S).bind fun x S => (b env S).bind fun y S => g x y S := rfl
@[simp] theorem eCall_is {F : FD} {f : LM} : eCall F f env S = (f env S).bindE F := rfl
@[simp] theorem eCallB_is {g : List D → Store → ER} {f : LM} : eCallB g f env S = (f env S).bindE g := rfl
@[simp] theorem eTup_is {f : LM} : eTup f env S = (f env S).bindE fun ds S => if sz ds.length then .ok (.tup ds) S else .bad := rfl
@[simp] theorem eLst_is {f : LM} : eLst f env S = (f env S).bindE fun ds S => if sz ds.length then .ok (.lst ds) S else .bad := rfl
@[simp] theorem eLstM_is {f : LM} : eLstM f env S = (f env S).bindE fun ds S => if sz ds.length then .ok (.loc S.length) (S ++ [.lst ds]) else .bad := rfl
@[simp] theorem eAnd_is {a b : EM} : eAnd a b env S = (a env S).bind fun d S => match d with | .bl true => b env S | .bl false => .ok (.bl false) S | _ => .bad := rfl
@[simp] theorem eOr_is {a b : EM} : eOr a b env S = (a env S).bind fun d S => match d with | .bl true => .ok (.bl true) S | .bl false => b env S | _ => .bad := rfl
@[simp] theorem eNot_is {a : EM} : eNot a env S = (a env S).bind fun d S => match d with | .bl b => .ok (.bl (!b)) S | _ => .bad := rfl
@[simp] theorem eIf_is {c a b : EM} : eIf c a b env S = (c env S).bind fun d S => match d with | .bl true => a env S | .bl false => b env S | _ => .bad := rfl
@[simp] theorem eNeg_is {a : EM} : eNeg a env S = (a env S).bind fun d S => match d with | .int i => .ok (.int (-i)) S | _ => .bad := rfl
@[simp] theorem eChain_is {g g' : D → D → Store → ER} {a b c : EM} : eChain g g' a b c env S = (a env S).bind fun x S => (b env S).bind fun y S => (g x y S).bind fun z S => match z with
  | .bl true => (c env S).bind fun w S => g' y w S
  | .bl false => .ok (.bl false) S
  | _ => .bad := rfl
@[simp] theorem sSkip_is : sSkip e S = .nx e S := rfl
@[simp] theorem sBk_is : sBk e S = .bk e S := rfl
@[simp] theorem sCt_is : sCt e S = .ct e S := rfl
@[simp] theorem sSeq_is {a b : SM} : sSeq a b e S = (a e S).seq b := rfl
@[simp] theorem sRet_is {f : EM} : sRet f e S = (f e S).bindS e fun d S => .rt d S := rfl
@[simp] theorem sRetN_is : sRetN e S = .rt .non S := rfl
@[simp] theorem sDrop_is {f : EM} : sDrop f e S = (f e S).bindS e fun _ S => .nx e S := rfl
@[simp] theorem sIf_is {c : EM} {a b : SM} : sIf c a b e S = (c e S).bindS e fun d S => match d with | .bl true => a e S | .bl false => b e S | _ => .bad := rfl
@[simp] theorem sAsg_is {f : EM} {b : D → EnvD → Option EnvD} : sAsg f b e S = (f e S).bindS e fun d S => match b d e with | some e' => .nx e' S | none => .bad := rfl
@[simp] theorem sPar_is {i j : Nat} {f : LM} : sPar i j f e S = (f e S).bindS e fun ds S => match ds with | [a, b] => .nx ((e.set i (some a)).set j (some b)) S | _ => .bad := rfl
@[simp] theorem sPar3_is {i j l : Nat} {f : LM} : sPar3 i j l f e S = (f e S).bindS e fun ds S => match ds with | [a, b, c] => .nx (((e.set i (some a)).set j (some b)).set l (some c)) S | _ => .bad := rfl
@[simp] theorem sAug_is {i : Nat} {g : D → D → Store → ER} {f : EM} : sAug i g f e S = (eOp g (eVar i) f e S).bindS e fun d S => .nx (e.set i (some d)) S := rfl
@[simp] theorem sFor_is {f : LM} {b : D → EnvD → Option EnvD} {body : SM} : sFor f b body e S = (f e S).bindS e fun ds S => forD b body ds e S := rfl
@[simp] theorem sPutL_is {o i f : EM} : sPutL o i f env S = (f env S).bindS env fun d S => (o env S).bindS env fun a S => (i env S).bindS env fun b S => match setD a b d S with
  | some S' => .nx env S'
  | none => .bad := rfl
@[simp] theorem bName_is {i : Nat} : bName i d env = some (env.set i (some d)) := rfl
@[simp] theorem bTup_is {b : List D → EnvD → Option EnvD} {ds : List D} : bTup b (.tup ds) env = b ds env := rfl
@[simp] theorem bNil_is : bNil [] env = some env := rfl
@[simp] theorem bCons_is {b : D → EnvD → Option EnvD} {c : List D → EnvD → Option EnvD} {ds : List D} : bCons b c (d :: ds) env = (b d env).bind (c ds) := rfl
@[simp] theorem forD_nil {b : D → EnvD → Option EnvD} {body : SM} : forD b body [] e S = .nx e S := rfl
@[simp] theorem iSeq_is {f : EM} : iSeq f env S = (f env S).bindL fun d S => match d with
  | .lst ds => .ok ds S
  | .tup ds => .ok ds S
  | .str x => .ok (signsD x) S
  | _ => .bad := rfl
@[simp] theorem iRange1_is {f : LM} : iRange1 f env S = (f env S).bind fun ds S => match ds with
  | [.int j] => if rOk j then .ok (rangeD 0 j.toNat) S else .bad
  | _ => .bad := rfl
@[simp] theorem iRange2_is {f : LM} : iRange2 f env S = (f env S).bind fun ds S => match ds with
  | [.int i, .int j] => if rOk i ∧ rOk j then .ok (rangeD i (j - i).toNat) S else .bad
  | _ => .bad := rfl
theorem rOk_n {n : Nat} (h : n ≤ 1000000000) : rOk (n : Int) := ⟨by omega, by omega⟩
theorem rOk_i {n : Int} (h0 : -1000000000 ≤ n) (h : n ≤ 1000000000) : rOk n := ⟨by omega, by omega⟩
@[simp] theorem iEnumD_is {f : LM} : iEnumD f env S = (f env S).bind fun ds S => match ds with
  | [.lst ds] => .ok (enumD 0 ds) S
  | _ => .bad := rfl
@[simp] theorem iZipD_is {f : LM} : iZipD f env S = (f env S).bind fun ds S => match ds with
  | [.lst ds, .lst es] => .ok (zipD ds es) S
  | _ => .bad := rfl
@[simp] theorem eLc_is {f : LM} {b : D → EnvD → Option EnvD} {tt elt : EM} {vs : List Nat} : eLc f b tt elt vs env S = (f env S).bindE fun ds S => (lcD b tt elt (wipeD env vs) [] ds S).bindE fun ys S => .ok (.lst ys) S := rfl
@[simp] theorem eLcM_is {f : LM} {b : D → EnvD → Option EnvD} {tt elt : EM} {vs : List Nat} : eLcM f b tt elt vs env S = (f env S).bindE fun ds S => (lcD b tt elt (wipeD env vs) [] ds S).bindE fun ys S => .ok (.loc S.length) (S ++ [.lst ys]) := rfl
@[simp] theorem eYes_is : eYes env S = .ok (.bl true) S := rfl
@[simp] theorem wipeD_nil : wipeD env [] = env := rfl
@[simp] theorem wipeD_cons {v : Nat} {vs : List Nat} : wipeD env (v :: vs) = (wipeD env vs).set v none := rfl
@[simp] theorem lcD_nil {b : D → EnvD → Option EnvD} {tt elt : EM} {acc : List D} : lcD b tt elt env acc [] S = .ok acc S := rfl
/-! operators on known values -/
@[simp] theorem opAdd_ii : opAdd (.int i) (.int j) S = .ok (.int (i + j)) S := rfl
@[simp] theorem opAdd_tt {a b : List D} : opAdd (.tup a) (.tup b) S = if sz (a.length + b.length) then .ok (.tup (a ++ b)) S else .bad := rfl
@[simp] theorem opAdd_ll {a b : List D} : opAdd (.lst a) (.lst b) S = if sz (a.length + b.length) then .ok (.lst (a ++ b)) S else .bad := rfl
@[simp] theorem opAdd_ss {a b : Str} : opAdd (.str a) (.str b) S = if sz (a.length + b.length) then .ok (.str (a ++ b)) S else .bad := rfl
@[simp] theorem opSub_ii : opSub (.int i) (.int j) S = .ok (.int (i - j)) S := rfl
@[simp] theorem opMul_ii : opMul (.int i) (.int j) S = if mulOk i j then .ok (.int (i * j)) S else .bad := rfl
@[simp] theorem sz_is {n : Nat} (h : n ≤ 16777216) : sz n := h
@[simp] theorem mulOk_l (h : i.natAbs < 18446744073709551616) : mulOk i j := .inl h
@[simp] theorem mulOk_r (h : j.natAbs < 18446744073709551616) : mulOk i j := .inr (.inl h)
@[simp] theorem divOk_s (h0 : 0 < j) (h : j < 1073741824) : divOk j := ⟨h0, .inl h⟩
@[simp] theorem powOk_is (h0 : 0 ≤ j) (h : j ≤ 1000000) (h2 : i.natAbs < 18446744073709551616) : powOk i j := ⟨h0, h, h2⟩
@[simp] theorem mulSOk_l (h : i.natAbs < 18446744073709551616) : mulSOk i j := .inl h
@[simp] theorem mulSOk_r (h : j.natAbs < 18446744073709551616) : mulSOk i j := .inr h
@[simp] theorem opMod_ii : opMod (.int i) (.int j) S = if 0 < j then .ok (.int (i % j)) S else .bad := rfl
@[simp] theorem opFdiv_ii : opFdiv (.int i) (.int j) S = if divOk j then .ok (.int (i / j)) S else .bad := rfl
@[simp] theorem opPow_ii : opPow (.int i) (.int j) S = if powOk i j then .ok (.int (i ^ j.toNat)) S else .bad := rfl
@[simp] theorem opMulS_ii : opMulS (.int i) (.int j) S = if mulSOk i j then .ok (.int (i * j)) S else .bad := rfl
@[simp] theorem opAddI_ii : opAddI (.int i) (.int j) S = .ok (.int (i + j)) S := rfl
@[simp] theorem opLt_ii : opLt (.int i) (.int j) S = .ok (.bl (decide (i < j))) S := rfl
@[simp] theorem opLe_ii : opLe (.int i) (.int j) S = .ok (.bl (decide (i ≤ j))) S := rfl
@[simp] theorem opGt_ii : opGt (.int i) (.int j) S = .ok (.bl (decide (j < i))) S := rfl
@[simp] theorem opGe_ii : opGe (.int i) (.int j) S = .ok (.bl (decide (j ≤ i))) S := rfl
theorem shaped_int (i : Int) : SeqAt.shaped (.int i) = true := rfl
@[simp] theorem opEq_ii : opEq (.int i) (.int j) S = .ok (.bl (decide (i = j))) S := by
  unfold opEq opEqB
  simp only [D.pyO, D.py, shaped_int, Bool.and_self, if_true]
  show ER.ok (.bl (i == j)) S = _
  rw [Bool.beq_eq_decide_eq]
@[simp] theorem opNe_ii : opNe (.int i) (.int j) S = .ok (.bl (!decide (i = j))) S := by
  unfold opNe opEqB
  simp only [D.pyO, D.py, shaped_int, Bool.and_self, if_true]
  show ER.ok (.bl (!(i == j))) S = _
  rw [Bool.beq_eq_decide_eq]
@[simp] theorem opEq_ss {a b : Str} : opEq (.str a) (.str b) S = .ok (.bl (decide (a = b))) S := rfl
@[simp] theorem opNe_ss {a b : Str} : opNe (.str a) (.str b) S = .ok (.bl (!decide (a = b))) S := rfl
@[simp] theorem opEq_bb {a b : Bool} : opEq (.bl a) (.bl b) S = .ok (.bl (a == b)) S := rfl
@[simp] theorem opNe_bb {a b : Bool} : opNe (.bl a) (.bl b) S = .ok (.bl (!(a == b))) S := rfl
@[simp] theorem opIsN_non : opIsN d .non S = .ok (.bl d.isN) S := rfl
@[simp] theorem opNotN_non : opNotN d .non S = .ok (.bl (!d.isN)) S := rfl
@[simp] theorem isN_non : D.isN .non = true := rfl
@[simp] theorem isN_int : D.isN (.int i) = false := rfl
@[simp] theorem isN_str {z : Str} : D.isN (.str z) = false := rfl
@[simp] theorem isN_bl {b : Bool} : D.isN (.bl b) = false := rfl
@[simp] theorem isN_tup {ds : List D} : D.isN (.tup ds) = false := rfl
@[simp] theorem isN_lst {ds : List D} : D.isN (.lst ds) = false := rfl
@[simp] theorem isN_loc {l : Nat} : D.isN (.loc l) = false := rfl
@[simp] theorem isN_dic {ks ds} : D.isN (.dic ks ds) = false := rfl
@[simp] theorem isN_obj {c ks ds} : D.isN (.obj c ks ds) = false := rfl
@[simp] theorem atI_0 {α : Type} {a : α} {r : List α} : atI (a :: r) 0 = some a := by simp [atI, ixN]
@[simp] theorem atI_1 {α : Type} {a b : α} {r : List α} : atI (a :: b :: r) 1 = some b := by
  have : (1 : Int) < (r.length : Int) + 1 + 1 := by omega
  simp [atI, ixN, this]
@[simp] theorem atI_2 {α : Type} {a b c : α} {r : List α} : atI (a :: b :: c :: r) 2 = some c := by
  have : (2 : Int) < (r.length : Int) + 1 + 1 + 1 := by omega
  simp [atI, ixN, this]
@[simp] theorem opIx_ti {ds : List D} : opIx (.tup ds) (.int i) S = match atI ds i with | some d => .ok d S | none => .bad := rfl
@[simp] theorem opIx_li {ds : List D} : opIx (.lst ds) (.int i) S = match atI ds i with | some d => .ok d S | none => .bad := rfl
/-- a cell, by a name of its own -/
def cel (S : Store) (l : Nat) : Option Cell := S[l]?
theorem cel_lt {l : Nat} {c : Cell} (h : cel S l = some c) : l < S.length := (List.getElem?_eq_some_iff.mp h).1
@[simp] theorem cel_set_same {l : Nat} {c : Cell} (h : (cel S l).isSome = true) : cel (S.set l c) l = some c := by
  obtain ⟨c0, e⟩ := Option.isSome_iff_exists.mp h
  exact List.getElem?_set_self (cel_lt e)
@[simp] theorem cel_set_ne {l m : Nat} {c : Cell} (h : l ≠ m) : cel (S.set l c) m = cel S m := List.getElem?_set_ne h
@[simp] theorem cel_last {c : Cell} : cel (S ++ [c]) S.length = some c := by simp [cel]
@[simp] theorem opIx_c {l : Nat} : opIx (.loc l) (.int i) S = match cel S l with
  | some (.lst ds) => (match atI ds i with | some d => .ok d S | none => .bad)
  | _ => .bad := by
  simp only [opIx, listD, cel]
  cases S[l]? with
  | none => rfl
  | some c => cases c <;> first | rfl | (rename_i ds; cases atI ds i <;> rfl)
@[simp] theorem bLen_t {ds : List D} : bLen [.tup ds] S = .ok (.int ds.length) S := rfl
@[simp] theorem bLen_l {ds : List D} : bLen [.lst ds] S = .ok (.int ds.length) S := rfl
@[simp] theorem bLen_c {l : Nat} : bLen [.loc l] S = match cel S l with | some (.lst ds) => .ok (.int ds.length) S | _ => .bad := by
  simp only [bLen, seqD, listD, cel]
  cases S[l]? with
  | none => rfl
  | some c => cases c <;> rfl
@[simp] theorem bLen_s {z : Str} : bLen [.str z] S = if sz z.length then .ok (.int z.length) S else .bad := rfl
@[simp] theorem bII_is {g : Int → Int → Int} : bII g [.int i, .int j] S = .ok (.int (g i j)) S := rfl
@[simp] theorem bAbs_is : bAbs [.int i] S = .ok (.int (if i < 0 then -i else i)) S := rfl
@[simp] theorem bInt_i : bInt [.int i] S = .ok (.int i) S := rfl
@[simp] theorem bInt_b {b : Bool} : bInt [.bl b] S = .ok (.int (if b then 1 else 0)) S := rfl
@[simp] theorem bList_l {ds : List D} : bList [.lst ds] S = .ok (.lst ds) S := rfl
@[simp] theorem bList_t {ds : List D} : bList [.tup ds] S = .ok (.lst ds) S := rfl
@[simp] theorem bTuple_l {ds : List D} : bTuple [.lst ds] S = .ok (.tup ds) S := rfl
@[simp] theorem bTuple_t {ds : List D} : bTuple [.tup ds] S = .ok (.tup ds) S := rfl
@[simp] theorem bAll_is {bs : List Bool} : bAll [.lst (bs.map .bl)] S = .ok (.bl (bs.all id)) S := by simp [bAll, listD, blsD_map]
@[simp] theorem bAny_is {bs : List Bool} : bAny [.lst (bs.map .bl)] S = .ok (.bl (bs.any id)) S := by simp [bAny, listD, blsD_map]
@[simp] theorem bSum_is {ns : List Int} : bSum [.lst (ns.map .int)] S = .ok (.int ns.sum) S := by simp [bSum, listD, intsD_map]
@[simp] theorem oNone_is : oNone env S = .ok none S := rfl
@[simp] theorem oSome_is {f : EM} (h : f env S = .ok (.int i) S) : oSome f env S = .ok (some i) S := by unfold oSome; rw [h]
@[simp] theorem eSlice_is {f : EM} {lo hi : OM} : eSlice f lo hi env S = (f env S).bind fun x S => (lo env S).bindE fun l S => (hi env S).bindE fun u S => slD x l u S := rfl
@[simp] theorem slD_l {ds : List D} {a b : Option Int} : slD (.lst ds) a b S = .ok (.lst (cutD ds a b)) S := rfl
@[simp] theorem slD_t {ds : List D} {a b : Option Int} : slD (.tup ds) a b S = .ok (.tup (cutD ds a b)) S := rfl
@[simp] theorem eIsi_is {b : Ty} {f : EM} : eIsi b f env S = (f env S).bind fun d S => match tyOf S d with | some a => .ok (.bl (a.isa b)) S | none => .bad := rfl
@[simp] theorem eIsi2_is {b c : Ty} {f : EM} : eIsi2 b c f env S = (f env S).bind fun d S => match tyOf S d with | some a => .ok (.bl (a.isa b || a.isa c)) S | none => .bad := rfl
@[simp] theorem tyOf_int : tyOf S (.int i) = some .int := rfl
@[simp] theorem tyOf_bl {b : Bool} : tyOf S (.bl b) = some .bool := rfl
@[simp] theorem tyOf_str {z : Str} : tyOf S (.str z) = some .str := rfl
@[simp] theorem tyOf_non : tyOf S .non = some .none := rfl
@[simp] theorem tyOf_tup {ds : List D} : tyOf S (.tup ds) = some .tuple := rfl
@[simp] theorem tyOf_lst {ds : List D} : tyOf S (.lst ds) = some .list := rfl
@[simp] theorem tyOf_dic {ks ds} : tyOf S (.dic ks ds) = some .dict := rfl
@[simp] theorem setD_is {l : Nat} : setD (.loc l) (.int i) d S = match cel S l with | some (.lst ds) => (putIx i ds d).map fun es => S.set l (.lst es) | _ => none := rfl
@[simp] theorem putIx_0 {a : D} {r : List D} : putIx 0 (a :: r) d = some (d :: r) := by simp [putIx, ixN]
@[simp] theorem putIx_1 {a b : D} {r : List D} : putIx 1 (a :: b :: r) d = some (a :: d :: r) := by
  have : (1 : Int) < (r.length : Int) + 1 + 1 := by omega
  simp [putIx, ixN, this]
@[simp] theorem putIx_2 {a b c : D} {r : List D} : putIx 2 (a :: b :: c :: r) d = some (a :: b :: d :: r) := by
  have : (2 : Int) < (r.length : Int) + 1 + 1 + 1 := by omega
  simp [putIx, ixN, this]
@[simp] theorem fnF_is {m : Mode} {n : Nat} {g : SM} {ds : List D} : fnF m n g ds S = match g (startD n ds) S with
  | .nx _ S1 => exitD m S .non S1
  | .rt d S1 => exitD m S d S1
  | .ex x _ S1 => .ex x S1
  | _ => .bad := rfl
@[simp] theorem exitD_keep {S0 : Store} : exitD .keep S0 d S = .ok d S := rfl
theorem exit_of {S0 : Store} {d' : D} (h : frzD (resD S0.length S 12) d = some d') (h2 : S.take S0.length = S0) : exitD .pure S0 d S = .ok d' S0 := by
  unfold exitD
  simp only [h]
  rw [if_pos (.inl h2), h2]
theorem exit_same {S0 : Store} {d' : D} (h : frzD (resD S0.length S0 12) d = some d') : exitD .pure S0 d S0 = .ok d' S0 := exit_of h (by simp)
@[simp] theorem exit_int {S0 : Store} : exitD .pure S0 (.int i) S0 = .ok (.int i) S0 := exit_same rfl
@[simp] theorem exit_bl {S0 : Store} {b : Bool} : exitD .pure S0 (.bl b) S0 = .ok (.bl b) S0 := exit_same rfl
@[simp] theorem exit_str {S0 : Store} {z : Str} : exitD .pure S0 (.str z) S0 = .ok (.str z) S0 := exit_same rfl
@[simp] theorem exit_non {S0 : Store} : exitD .pure S0 .non S0 = .ok .non S0 := exit_same rfl
@[simp] theorem exit_int2 {S0 : Store} {j : Int} : exitD .pure S0 (.tup [.int i, .int j]) S0 = .ok (.tup [.int i, .int j]) S0 := exit_same rfl
@[simp] theorem startD1 {a : D} {n : Nat} : startD (n + 1) [a] = some a :: List.replicate n none := by simp [startD]
@[simp] theorem startD2 {a b : D} {n : Nat} : startD (n + 2) [a, b] = some a :: some b :: List.replicate n none := by simp [startD]
@[simp] theorem startD3 {a b c : D} {n : Nat} : startD (n + 3) [a, b, c] = some a :: some b :: some c :: List.replicate n none := by simp [startD]
end
end DL
end
section
/-! D-layer, part 7: more of sequences; dicts. -/
namespace L2
open PySem PySem.Spec PyProof.Rows
section
variable {X : Cx}
def rInTu (K : PySem.W.Frag) (neg : Bool) : R2 := fun x y H Q => ∃ d ds, Dp K H x d ∧ Dp K H y (.tuple ds) ∧ SeqAt.shaped d = true ∧ SeqAt.shaped (.tuple ds) = true ∧ Q (.bl (if neg then !(ds.any fun z => PyData.eqv z d) else ds.any fun z => PyData.eqv z d)) H
theorem op_inTu (hu : X.A.units + 65 < cLine) : OpR X (compareOp .In) (rInTu X.K false) := by
  intro pins s σ H x y v u Q I rx ry h
  obtain ⟨d, ds, hd, he, sd, se, q⟩ := h
  obtain ⟨as, r1⟩ := Dp.reads I d x v hd rx
  obtain ⟨bs, r2⟩ := Dp.reads I (.tuple ds) y u he ry
  exact SeqAt.in_tuple_reads r2 r1 (SeqAt.canLay_of_shaped se) (SeqAt.canLay_of_shaped sd) (room_in_shaped sd hu) ⟨.bl _, H, I, rfl, q⟩
theorem op_notInTu (hu : X.A.units + 65 < cLine) : OpR X (compareOp .NotIn) (rInTu X.K true) := by
  intro pins s σ H x y v u Q I rx ry h
  obtain ⟨d, ds, hd, he, sd, se, q⟩ := h
  obtain ⟨as, r1⟩ := Dp.reads I d x v hd rx
  obtain ⟨bs, r2⟩ := Dp.reads I (.tuple ds) y u he ry
  exact SeqAt.notIn_tuple_reads r2 r1 (SeqAt.canLay_of_shaped se) (SeqAt.canLay_of_shaped sd) (room_in_shaped sd hu) ⟨.bl _, H, I, rfl, q⟩
end
end L2
namespace DL
open PySem L2 PySem.Spec PyProof.Rows

/-! ### a list's cell changes -/
def w63 (i : Int) : Prop := -(2 ^ 63) ≤ i ∧ i < 2 ^ 63
noncomputable instance {i : Int} : Decidable (w63 i) := Classical.propDecidable _
section
variable {G : Glb} {X : Cx} {W : WX}
theorem IsL.eraseIdx {φ : Fi} {H : Hp} : ∀ {ds : List D} {xs : List V} (n : Nat), IsL G φ H ds xs → IsL G φ H (ds.eraseIdx n) (xs.eraseIdx n)
  | [], xs, n, h => by cases (show xs = [] from h); exact rfl
  | _ :: _, xs, 0, h => by
    obtain ⟨x, r, rfl, p, q⟩ := h
    exact q
  | _ :: _, xs, n + 1, h => by
    obtain ⟨x, r, rfl, p, q⟩ := h
    exact ⟨x, _, rfl, p, IsL.eraseIdx n q⟩
noncomputable def mPopAt (o : D) (ds : List D) (S : Store) : ER := cellL S o fun l xs => match ds with
  | [.int i] => if w63 i then (match seqIndex? i xs.length with
    | some k => (match xs[k]? with
      | some d => .ok d (S.set l (.lst (xs.eraseIdx k)))
      | none => .bad)
    | none => .bad) else .bad
  | _ => .bad
theorem dm_popAt : DMeth G X "list.pop" mPopAt := by
  refine ⟨_, mt_popAt, fun W φ S H σ dx ds x xs Q s ix ids h => ?_⟩
  refine cellL_is s ix h fun l es a ys e1 e2 e3 ha hx q h1 => ?_
  subst e1 e3
  split at h1
  · obtain ⟨y, rfl, k⟩ := IsL.inv1 ids
    cases (show y = _ from k)
    split at h1
    · rename_i hw
      split at h1
      · rename_i j hj
        split at h1
        · rename_i d hd
          obtain ⟨z, hz, iz⟩ := q.get hd
          exact ⟨a, ys, _, j, z, rfl, rfl, hx, hw.1, hw.2, by rw [← q.length]; exact hj, hz, cell_put s ha (q.eraseIdx j) iz h1⟩
        · exact False.elim h1
      · exact False.elim h1
    · exact False.elim h1
  · exact False.elim h1
noncomputable def mInsert (o : D) (ds : List D) (S : Store) : ER := cellL S o fun l xs => match ds with
  | [.int i, d] => if sz (xs.length + 1) ∧ 0 ≤ i ∧ w63 i then .ok .non (S.set l (.lst (xs.take i.toNat ++ [d] ++ xs.drop i.toNat))) else .bad
  | _ => .bad
def mClear (o : D) (ds : List D) (S : Store) : ER := cellL S o fun l xs => match ds with
  | [] => .ok .non (S.set l (.lst []))
  | _ => .bad
/-- xs.index(y): nested data -/
noncomputable def mIndex (o : D) (ds : List D) (S : Store) : ER := match ds with
  | [d] => match o.pyO S, d.pyO S with
    | some (.list ps), some p => if SeqAt.shaped (.list ps) && SeqAt.shaped p then (match ps.findIdx? fun z => PyData.eqv z p with
      | some j => .ok (.int j) S
      | none => .bad) else .bad
    | _, _ => .bad
  | _ => .bad
def mRemove (o : D) (ds : List D) (S : Store) : ER := cellL S o fun l xs => match ds with
  | [.int k] => match intsD xs with
    | some ns => if k ∈ ns then .ok .non (S.set l (.lst ((ns.erase k).map .int))) else .bad
    | none => .bad
  | _ => .bad
/-! ### sorted -/
/-- whole numbers in order -/
def sortI (ns : List Int) : List Int := ns.mergeSort fun a b => decide (a ≤ b)
theorem sortI_perm (ns : List Int) : (sortI ns).Perm ns := List.mergeSort_perm ns _
theorem sortI_pw (ns : List Int) : (sortI ns).Pairwise (· ≤ ·) := by
  have := List.pairwise_mergeSort (le := fun a b : Int => decide (a ≤ b)) (fun a b c => by simp; omega) (fun a b => by simp; omega) ns
  exact this.imp fun h => by simpa using h
theorem sorted_uniq : ∀ {l m : List Int}, l.Perm m → l.Pairwise (· ≤ ·) → m.Pairwise (· ≤ ·) → l = m := fun p h1 h2 =>
  List.Perm.eq_of_pairwise (fun a b _ _ h h' => Int.le_antisymm h h') h1 h2 p
def bSorted (ds : List D) (S : Store) : ER := match ds with
  | [d] => match (listD S d).bind intsD with
    | some ns => .ok (.lst ((sortI ns).map .int)) S
    | none => .bad
  | _ => .bad
theorem dc_sorted (hK : X.K = G.K) : DCall G X (.builtin "sorted") bSorted := by
  refine ⟨_, cr_sortedI, fun W φ S H σ ds xs Q s i h => ?_⟩
  unfold bSorted at h
  split at h
  · obtain ⟨x, rfl, k⟩ := IsL.inv1 i
    split at h
    · rename_i ns e
      obtain ⟨es, e1, e2⟩ := Option.bind_eq_some_iff.mp e
      obtain ⟨a, ys, rfl, r, q⟩ := listD_sq s k e1
      rw [intsD_is e2] at q
      refine ⟨a, ns, rfl, by rw [hK, ← q.ints]; exact r, fun ns' p hp hw hn => ?_⟩
      rw [sorted_uniq (hp.trans (sortI_perm ns).symm) hw (sortI_pw ns)]
      exact lst_new s IsL.of_ints h hn
    · exact bad_no h
  · exact bad_no h
/-! ### list(range(..)) -/
/-- a range by its bounds -/
def DR (G : Glb) (X : Cx) (W : WX) (e : Expr) (f : LM) : Prop :=
  ∃ t, PRg X e t ∧ ∀ σ H env φ S (Q : Int → Int → Hp → Prop), SOk G φ S H → RepE G φ H σ env → PostL G W φ H σ (f env S) (fun vs H' => ∀ i j, vs = [.int i, .int j] → Q i j H') → t σ H Q
noncomputable def rg1 (f : EM) : LM := fun env S => (f env S).bindL fun d S => match d with
  | .int n => if rOk n ∧ sz n.toNat then .ok [.int 0, .int n] S else .bad
  | _ => .bad
noncomputable def rg2D (d d2 : D) (S : Store) : LR := match d, d2 with
  | .int i, .int j => if rOk i ∧ rOk j ∧ sz (j - i).toNat then .ok [.int i, .int j] S else .bad
  | _, _ => .bad
noncomputable def rg2 (f g : EM) : LM := fun env S => (f env S).bindL fun d S => (g env S).bindL fun d2 S => rg2D d d2 S
theorem dr_1 {a : Expr} {p pos : Pos} {f : EM} (hg : Gl X "range") (hm : X.mg "range" = none) (ha : DE G X W a f) (na : starEach [a] X.env = (false, eval a X.env) :: starEach [] X.env := by rfl) : DR G X W (.Call (.Name "range" p) [a] [] pos) (rg1 f) := by
  obtain ⟨t, pt, q⟩ := ha
  refine ⟨_, prg_1 hg hm pt na, fun σ H env φ S Q s re h => ?_⟩
  refine q σ H env φ S _ s re (PostE.bindL h fun d S1 φ1 H1 v e1 s1 i1 h1 => ?_)
  split at h1
  · cases (show v = _ from i1)
    split at h1
    · exact ⟨_, rfl, h1.now s1 (show IsL G φ1 H1 _ [.int 0, .int _] from ⟨_, _, rfl, rfl, .one rfl⟩) _ _ rfl⟩
    · exact False.elim h1
  · exact False.elim h1
theorem rOk2 {i j : Int} (h1 : rOk i) (h2 : rOk j) (h3 : sz (j - i).toNat) : RgOk i j := ⟨h1.lo, h1.hi, h2.lo, h2.hi, h3⟩
/-- small bounds, for certain -/
def rgOk (f : LM) : Prop := ∀ env S ds S', f env S = .ok ds S' → ∃ i j, ds = [.int i, .int j] ∧ rOk i ∧ rOk j ∧ sz (j - i).toNat
theorem rgOk1 {f : EM} : rgOk (rg1 f) := fun env S ds S' h => by
  unfold rg1 at h
  cases hf : f env S with
  | ok d S1 =>
    rw [hf] at h
    have h' : (match d with | .int n => if rOk n ∧ sz n.toNat then LR.ok [.int 0, .int n] S1 else .bad | _ => .bad) = .ok ds S' := h
    split at h'
    · rename_i n
      split at h'
      · rename_i hn
        cases h'
        exact ⟨0, n, rfl, ⟨by decide, by decide⟩, hn.1, by rw [Int.sub_zero]; exact hn.2⟩
      · cases h'
    · cases h'
  | ex x S1 => rw [hf] at h; cases h
  | bad => rw [hf] at h; cases h
theorem isL_rg {φ : Fi} {H : Hp} (a b : Int) : IsL G φ H (rangeD a (b - a).toNat) (rgV a b) := by
  have : rangeD a (b - a).toNat = ((List.range (b - a).toNat).map fun i => a + ((i : Nat) : Int)).map D.int := by unfold rangeD; rw [List.map_map]; rfl
  rw [this]
  have e : rgV a b = ((List.range (b - a).toNat).map fun i => a + ((i : Nat) : Int)).map V.int := by unfold rgV; rw [List.map_map]; rfl
  rw [e]
  exact IsL.of_ints
def eLRg (f : LM) : EM := fun env S => (f env S).bindE fun ds S => match ds with
  | [.int i, .int j] => .ok (.lst (rangeD i (j - i).toNat)) S
  | _ => .bad
def eLRgM (f : LM) : EM := fun env S => (f env S).bindE fun ds S => match ds with
  | [.int i, .int j] => .ok (.loc S.length) (S ++ [.lst (rangeD i (j - i).toNat)])
  | _ => .bad
def eTRg (f : LM) : EM := fun env S => (f env S).bindE fun ds S => match ds with
  | [.int i, .int j] => .ok (.tup (rangeD i (j - i).toNat)) S
  | _ => .bad
theorem PostL.rg {φ : Fi} {H : Hp} {σ : L2.St} {f : LM} {env : EnvD} {S : Store} (ok : rgOk f) {g : List D → Store → ER} {Q : VK} {Q' : List V → Hp → Prop} (h : PostE G W φ H σ ((f env S).bindE g) Q)
    (k : ∀ i j S1 φ1 H1, Ext φ H φ1 H1 → SOk G φ1 S1 H1 → RgOk i j → PostE G W φ1 H1 σ (g [.int i, .int j] S1) Q → Q' [.int i, .int j] H1) : PostL G W φ H σ (f env S) Q' := by
  cases hf : f env S with
  | ok ds S1 =>
    rw [hf] at h
    obtain ⟨i, j, rfl, h1, h2, h3⟩ := ok _ _ _ _ hf
    intro φ1 H1 vs e s il
    obtain ⟨x, y, rfl, k1, k2⟩ := IsL.inv2 il
    cases (show x = _ from k1); cases (show y = _ from k2)
    exact k i j S1 φ1 H1 e s (rOk2 h1 h2 h3) (PostE.ext e h)
  | ex x S1 => rw [hf] at h; exact h
  | bad => rw [hf] at h; exact h
theorem de_listRg {e : Expr} {p pos : Pos} {f : LM} (hc : X.calm = true) (hg : Gl X "list") (hm : X.mg "list" = none) (ok : rgOk f) (he : DR G X W e f) (na : starEach [e] X.env = (false, eval e X.env) :: starEach [] X.env := by rfl) : DE G X W (.Call (.Name "list" p) [e] [] pos) (eLRg f) := by
  obtain ⟨t, pt, q⟩ := he
  refine ⟨_, pe_listRg hc hg hm pt na, fun σ H env φ S Q s re h => q σ H env φ S _ s re (PostL.rg ok h fun i j S1 φ1 H1 e1 s1 hr h1 i' j' e => ?_)⟩
  cases e
  exact ⟨hr, fun l hl => lst_new s1 (isL_rg i j) h1 hl⟩
/-! ### bits, xs * n -/
def opAnd (x y : D) (S : Store) : ER := opI (fun i j => .ok (.int (Builtin.bitAnd i j)) S) x y
def opOr (x y : D) (S : Store) : ER := opI (fun i j => .ok (.int (Builtin.bitOr i j)) S) x y
def opXor (x y : D) (S : Store) : ER := opI (fun i j => .ok (.int (Builtin.bitXor i j)) S) x y
def opShr (x y : D) (S : Store) : ER := opI (fun i j => if 0 ≤ j then .ok (.int (i / 2 ^ j.toNat)) S else .bad) x y
noncomputable def opShl (x y : D) (S : Store) : ER := opI (fun i j => if powOk i j then .ok (.int (i * 2 ^ j.toNat)) S else .bad) x y
/-- xs * n (a cell's list), tuple * n -/
noncomputable def opMulX (x y : D) (S : Store) : ER := match x, y with
  | .loc l, .int k => match S[l]? with
    | some (.lst ds) => if w63 k ∧ sz (ds.length * k.toNat) then .ok (.lst (List.replicate k.toNat ds).flatten) S else .bad
    | _ => .bad
  | x, y => opMul x y S
/-! ### dicts as data -/
def keyD : D → Option Key
  | .int i => some (.inl i)
  | .str x => some (.inr x)
  | _ => none
def dKey : Key → D
  | .inl i => .int i
  | .inr x => .str x
def dicD (S : Store) : D → Option (List (Key × D))
  | .dic ks ds => some (ks.zip ds)
  | .loc l => match S[l]? with
    | some (.dic kvs) => some kvs
    | _ => none
  | _ => none
theorem keyD_is {φ : Fi} {H : Hp} {d : D} {v : V} {k : Key} (i : Is G φ H d v) (e : keyD d = some k) : v = kV k := by
  cases d with
  | int n => cases e; exact i
  | str x => cases e; exact i
  | _ => cases e
theorem is_dKey {φ : Fi} {H : Hp} (k : Key) : Is G φ H (dKey k) (kV k) := by cases k <;> rfl
/-- keys alike, values as data say -/
def KvIs (G : Glb) (φ : Fi) (H : Hp) (kds : List (Key × D)) (kvs : List (Key × V)) : Prop := kvs.map (·.1) = kds.map (·.1) ∧ IsL G φ H (kds.map (·.2)) (kvs.map (·.2))
theorem zip_fst {α β : Type} : ∀ {ks : List α} {ds : List β}, ks.length = ds.length → (ks.zip ds).map (·.1) = ks
  | [], _, _ => by simp
  | _ :: _, [], h => by simp at h
  | k :: ks, d :: ds, h => by simp [zip_fst (ks := ks) (ds := ds) (by simpa using h)]
theorem zip_snd {α β : Type} : ∀ {ks : List α} {ds : List β}, ks.length = ds.length → (ks.zip ds).map (·.2) = ds
  | [], [], _ => by simp
  | [], _ :: _, h => by simp at h
  | _ :: _, [], h => by simp at h
  | k :: ks, d :: ds, h => by simp [zip_snd (ks := ks) (ds := ds) (by simpa using h)]
theorem dicD_is {φ : Fi} {S : Store} {H : Hp} {d : D} {v : V} {kds : List (Key × D)} (s : SOk G φ S H) (i : Is G φ H d v) (e : dicD S d = some kds) : ∃ a kvs, v = .ref a ∧ Rd H a (.dK kvs) ∧ KvIs G φ H kds kvs := by
  cases d with
  | dic ks ds =>
    cases e
    obtain ⟨a, kvs, rfl, ⟨_, r⟩, z, q⟩ := i
    have hl : ks.length = ds.length := by rw [q.length, ← z]; simp
    exact ⟨a, kvs, rfl, r, by rw [zip_fst hl]; exact z, by rw [zip_snd hl]; exact q⟩
  | loc l =>
    obtain ⟨a, ha, rfl⟩ := i
    simp only [dicD] at e
    split at e
    · rename_i kvs hc
      cases e
      obtain ⟨ws, hw, z, q⟩ := s.at_ hc ha
      exact ⟨a, ws, rfl, .inl hw, z, q⟩
    · cases e
  | _ => cases e
/-- the value of a key -/
def valD (kds : List (Key × D)) (k : Key) : Option D := (kds.find? fun kv => decide (kv.1 = k)).map (·.2)
theorem val_is {φ : Fi} {H : Hp} : ∀ {kds : List (Key × D)} {kvs : List (Key × V)} (k : Key), KvIs G φ H kds kvs → (∀ d, valD kds k = some d → ∃ v, valV kvs k = some v ∧ Is G φ H d v) ∧ (valD kds k = none → valV kvs k = none)
  | [], kvs, k, h => by
    have : kvs = [] := by simpa using h.1
    subst this
    exact ⟨fun d e => (nomatch e), fun _ => rfl⟩
  | (k0, d0) :: kds, kvs, k, h => by
    obtain ⟨h1, h2⟩ := h
    cases kvs with
    | nil => simp at h1
    | cons p r =>
      obtain ⟨kp, vp⟩ := p
      simp only [List.map_cons, List.cons.injEq] at h1
      obtain ⟨e1, e2⟩ := h1
      subst e1
      obtain ⟨x, xs, e3, i1, i2⟩ := h2
      simp only [List.map_cons, List.cons.injEq] at e3
      obtain ⟨rfl, rfl⟩ := e3
      have ih := val_is k (show KvIs G φ H kds r from ⟨e2, i2⟩)
      by_cases hk : kp = k
      · subst hk
        refine ⟨fun d e => ⟨vp, valV_pos rfl, ?_⟩, fun e => ?_⟩
        · simp [valD] at e; subst e; exact i1
        · simp [valD] at e
      · have ed : valD ((kp, d0) :: kds) k = valD kds k := by simp [valD, hk]
        rw [ed, valV_neg (p := (kp, vp)) hk]
        exact ih
/-- y in d, d[y] as operators -/
def rInDc (neg : Bool) : R2 := fun y x H Q => ∃ a o, x = .ref a ∧ DGet H a y o ∧ Q (.bl (if neg then !o.isSome else o.isSome)) H
theorem op_inDc (hu : X.A.units + 1 < cLine) : OpR X (compareOp .In) (rInDc false) := by
  intro pins s σ H y x u v Q I ry rx h
  obtain ⟨a, o, rfl, g, q⟩ := h
  cases rx
  exact d_in hu I g ry fun s3 I3 => ⟨.bl o.isSome, H, I3, rfl, q⟩
theorem op_ninDc (hu : X.A.units + 1 < cLine) : OpR X (compareOp .NotIn) (rInDc true) := by
  intro pins s σ H y x u v Q I ry rx h
  obtain ⟨a, o, rfl, g, q⟩ := h
  cases rx
  exact d_notIn hu I g ry fun s3 I3 => ⟨.bl (!o.isSome), H, I3, rfl, q⟩
def flatD : D → Bool
  | .non => true
  | .bl _ => true
  | .int _ => true
  | .str _ => true
  | _ => false
def eqF : D → D → Bool
  | .non, .non => true
  | .bl a, .bl b => a == b
  | .bl a, .int b => (if a then 1 else 0) == b
  | .int a, .bl b => a == (if b then 1 else 0)
  | .int a, .int b => a == b
  | .str a, .str b => a == b
  | _, _ => false
theorem flat_is {φ : Fi} {H : Hp} {d : D} {v : V} (i : Is G φ H d v) (h : flatD d = true) : flatV v = true := by
  cases d <;> first | (cases h; done) | (cases (show v = _ from i); rfl)
theorem eqF_is {φ : Fi} {H : Hp} {d e : D} {v u : V} (i : Is G φ H d v) (j : Is G φ H e u) (h : flatD d = true) (h2 : flatD e = true) : eqV v u = eqF d e := by
  cases d <;> first | (cases h; done) | (cases (show v = _ from i); cases e <;> first | (cases h2; done) | (cases (show u = _ from j); rfl))
theorem flats_is {φ : Fi} {H : Hp} : ∀ {ds : List D} {vs : List V}, IsL G φ H ds vs → ds.all flatD = true → vs.all flatV = true
  | [], vs, i, _ => by cases (show vs = [] from i); rfl
  | d :: ds, vs, i, h => by
    obtain ⟨x, r, rfl, p, q⟩ := i
    simp only [List.all_cons, Bool.and_eq_true] at h ⊢
    exact ⟨flat_is p h.1, flats_is q h.2⟩
theorem inF_is {φ : Fi} {H : Hp} {x : D} {v : V} (j : Is G φ H x v) (hx : flatD x = true) : ∀ {ds : List D} {vs : List V}, IsL G φ H ds vs → ds.all flatD = true → inV v vs = ds.any fun y => eqF y x
  | [], vs, i, _ => by cases (show vs = [] from i); rfl
  | d :: ds, vs, i, h => by
    obtain ⟨u, r, rfl, p, q⟩ := i
    simp only [List.all_cons, Bool.and_eq_true] at h
    have ih := inF_is j hx q h.2
    unfold inV at ih ⊢
    rw [List.any_cons, List.any_cons, ih, eqF_is p j h.1 hx]
/-- x in y: a sign in a text, a flat item in a list or tuple, an item in a list, a key in a dict -/
def opInB (neg : Bool) (x y : D) (S : Store) : ER := match y with
  | .str z => match x with
    | .str w => match w.cps.toList with
      | [c] => .ok (.bl (if neg then !decide (c ∈ z.cps.toList) else decide (c ∈ z.cps.toList))) S
      | _ => .bad
    | _ => .bad
  | y => match dicD S y with
    | some kds => match keyD x with
      | some k => .ok (.bl (if neg then !(valD kds k).isSome else (valD kds k).isSome)) S
      | none => .bad
    | none => match seqD S y with
      | some ds => if flatD x && ds.all flatD then .ok (.bl (if neg then !(ds.any fun y => eqF y x) else ds.any fun y => eqF y x)) S
        else match x.pyO S, y.pyO S with
          | some p, some (.list ps) => if SeqAt.shaped p && SeqAt.shaped (.list ps) then .ok (.bl (if neg then !(ps.any fun z => PyData.eqv z p) else ps.any fun z => PyData.eqv z p)) S else .bad
          | some p, some (.tuple ps) => if SeqAt.shaped p && SeqAt.shaped (.tuple ps) then .ok (.bl (if neg then !(ps.any fun z => PyData.eqv z p) else ps.any fun z => PyData.eqv z p)) S else .bad
          | _, _ => .bad
      | none => .bad
def opIn := opInB false
def opNotIn := opInB true
theorem str1 {w : Str} {c : Nat} (h : w.cps.toList = [c]) : w = ⟨#[c]⟩ := by
  obtain ⟨a⟩ := w
  have : a = #[c] := by apply Array.ext'; simpa using h
  rw [this]
theorem in_is {neg : Bool} {φ : Fi} {S : Store} {H : Hp} {σ : L2.St} {dx dy : D} {x y : V} {Q : VK} (hK : X.K = G.K) (s : SOk G φ S H) (ix : Is G φ H dx x) (iy : Is G φ H dy y) (h : PostE G W φ H σ (opInB neg dx dy S) Q) :
    (∃ (c : Nat) (z : Str), x = .str ⟨#[c]⟩ ∧ y = .str z ∧ Q (.bl (if neg then !decide (c ∈ z.cps.toList) else decide (c ∈ z.cps.toList))) H) ∨ rInDc neg x y H Q ∨ rIn X.K neg x y H Q ∨
    (∃ d ds, Dp X.K H x d ∧ Dp X.K H y (.list ds) ∧ SeqAt.shaped d = true ∧ SeqAt.shaped (.list ds) = true ∧ Q (.bl (if neg then !(ds.any fun z => PyData.eqv z d) else ds.any fun z => PyData.eqv z d)) H) ∨ rInTu X.K neg x y H Q := by
  unfold opInB at h
  split at h
  · cases (show y = _ from iy)
    split at h
    · cases (show x = _ from ix)
      split at h
      · rename_i c hc
        rw [str1 hc]
        exact .inl ⟨_, _, rfl, rfl, h.now s rfl⟩
      · exact bad_no h
    · exact bad_no h
  · split at h
    · rename_i kds e
      split at h
      · rename_i k ek
        obtain ⟨a, kvs, rfl, r, q⟩ := dicD_is s iy e
        refine .inr (.inl ⟨a, _, rfl, .inl ⟨kvs, k, r, keyD_is ix ek, rfl⟩, ?_⟩)
        have e2 : (valV kvs k).isSome = (valD kds k).isSome := by
          have := val_is k q
          cases hd : valD kds k with
          | none => rw [this.2 hd]; rfl
          | some d => obtain ⟨v, hv, _⟩ := this.1 d hd; rw [hv]; rfl
        rw [e2]
        exact h.now s rfl
      · exact bad_no h
    · split at h
      · rename_i ds e
        obtain ⟨a, xs, rfl, r, q⟩ := seqD_sq s iy e
        split at h
        · rename_i hf
          simp only [Bool.and_eq_true] at hf
          refine .inr (.inr (.inl ⟨a, xs, rfl, by rw [hK]; exact r, flat_is ix hf.1, flats_is q hf.2, ?_⟩))
          rw [inF_is ix hf.1 q hf.2]
          exact h.now s rfl
        · split at h
          · rename_i p ps e1 e2
            split at h
            · rename_i hs
              simp only [Bool.and_eq_true] at hs
              exact .inr (.inr (.inr (.inl ⟨p, ps, by rw [hK]; exact D.pyO_dp s ix e1, by rw [hK]; exact D.pyO_dp s iy e2, hs.1, hs.2, h.now s rfl⟩)))
            · exact bad_no h
          · rename_i p ps e1 e2
            split at h
            · rename_i hs
              simp only [Bool.and_eq_true] at hs
              exact .inr (.inr (.inr (.inr ⟨p, ps, by rw [hK]; exact D.pyO_dp s ix e1, by rw [hK]; exact D.pyO_dp s iy e2, hs.1, hs.2, h.now s rfl⟩)))
            · exact bad_no h
          · exact bad_no h
      · exact bad_no h
theorem do_in (hK : X.K = G.K) (hu : X.A.units + 65 < cLine) : DOp G X (compareOp .In) opIn := by
  refine ⟨_, op_in_sign.or ((op_inDc (by omega)).or (op_in_seq.or ((op_inD hu).or (op_inTu hu)))), fun W φ S H σ dx dy x y Q s ix iy h => ?_⟩
  have := in_is hK s ix iy h
  simp only [Bool.false_eq_true, if_false] at this
  exact this
theorem do_notIn (hK : X.K = G.K) (hu : X.A.units + 65 < cLine) : DOp G X (compareOp .NotIn) opNotIn := by
  refine ⟨_, op_notIn_sign.or ((op_ninDc (by omega)).or (op_notIn_seq.or ((op_notInD hu).or (op_notInTu hu)))), fun W φ S H σ dx dy x y Q s ix iy h => ?_⟩
  have := in_is hK s ix iy h
  simp only [if_true] at this
  exact this
end
end DL
end
section
/-! sets of keys: how many unlike items a list or tuple has -/
namespace DL
open PySem L2 PySem.Spec PyProof.Rows
open Classical in
/-- how many unlike ones -/
noncomputable def dcntR : List Key → Nat
  | [] => 0
  | k :: r => if k ∈ r then dcntR r else dcntR r + 1
noncomputable def dcnt (ks : List Key) : Nat := dcntR ks.reverse
open Classical in
/-- is it among them -/
noncomputable def memK (ks : List Key) (k : Key) : Bool := decide (k ∈ ks)
theorem memK_iff {ks : List Key} {k : Key} : memK ks k = true ↔ k ∈ ks := by unfold memK; simp
theorem dcnt_snoc (l : List Key) (k : Key) : dcnt (l ++ [k]) = if memK l k = true then dcnt l else dcnt l + 1 := by
  unfold dcnt
  rw [List.reverse_append]
  show dcntR (k :: l.reverse) = _
  rw [dcntR]
  by_cases h : k ∈ l
  · rw [if_pos (by simpa using h), if_pos (memK_iff.mpr h)]
  · rw [if_neg (by simpa using h), if_neg (fun z => h (memK_iff.mp z))]
theorem dcntR_le : ∀ (l : List Key), dcntR l ≤ l.length
  | [] => Nat.le_refl _
  | k :: r => by
    have := dcntR_le r
    unfold dcntR
    simp only [List.length_cons]
    split <;> omega
theorem dcnt_le (l : List Key) : dcnt l ≤ l.length := by have := dcntR_le l.reverse; simpa [dcnt] using this
theorem dcntR_eq : ∀ (l : List Key), dcntR l = l.length ↔ l.Nodup
  | [] => by simp [dcntR]
  | k :: r => by
    have h1 := dcntR_le r
    have ih := dcntR_eq r
    unfold dcntR
    rw [List.nodup_cons]
    simp only [List.length_cons]
    split
    · rename_i h
      exact ⟨fun e => by omega, fun e => absurd h e.1⟩
    · rename_i h
      exact ⟨fun e => ⟨h, ih.mp (by omega)⟩, fun e => by rw [ih.mpr e.2]⟩
theorem dcnt_eq (l : List Key) : dcnt l = l.length ↔ l.Nodup := by
  have := dcntR_eq l.reverse
  rw [List.length_reverse, (List.reverse_perm l).nodup_iff] at this
  exact this
theorem memK_nil (k : Key) : memK [] k = false := by
  cases h : memK [] k with
  | false => rfl
  | true => have := memK_iff.mp h; simp at this
theorem SetOf_re {P : Program} {w : World} {h : Heap} {a : Addr} {S S' : Key → Bool} {n n' : Nat} (R : h.SetOf (mixKind P w) a S n) (e : ∀ k, S k = S' k) (e2 : n = n') : h.SetOf (mixKind P w) a S' n' := by
  have : S = S' := funext e
  rw [← this, ← e2]; exact R
/-- each item a key -/
def KeysAre (P : Program) (w : World) (us : List Value) (ks : List Key) : Prop := us.length = ks.length ∧ ∀ (i : Nat) (u : Value), us[i]? = some u → ∃ k, ks[i]? = some k ∧ (mixKind P w).is k u = true ∧ u.scannable = true
section
variable {prog : Program} {w : World} {A : Around} {R : Result → Shared → Prop} {I : Addr} {fp wr : List Addr} {G : Array GenState → Array GenState → Prop} {n : Nat} {P : Nat → Value → Prop} {St : Nat → Shared → Prop}
theorem set_turns (W : WalksS prog w A.in1 I fp wr G n P St) (S : Addr) (off : S ∉ fp) (ks : List Key) (hk : ks.length = n) (small : n + 1 < scanBound)
    (each : ∀ i v, P i v → ∃ k, ks[i]? = some k ∧ (mixKind prog w).is k v = true ∧ v.scannable = true) :
    ∀ (m i : Nat) (s : Shared), n - i = m → i ≤ n → St i s → s.heap.SetOf (mixKind prog w) S (memK (ks.take i)) (dcnt (ks.take i)) →
      (∀ s', Moved (S :: wr) G s s' → s'.heap.SetOf (mixKind prog w) S (memK ks) (dcnt ks) → R (.ok (.ret .none)) s') →
      codeAny (model prog w) A (.builtin "set.update.loop" ⟨[.ref S, .ref I], []⟩) R s := by
  have away : S ∉ wr := fun z => off (W.sub _ z)
  have more : ∀ b ∈ wr, b ∈ S :: wr := fun b z => List.mem_cons_of_mem _ z
  intro m
  induction m with
  | zero =>
    intro i s hm hi hst hS fin
    obtain rfl : i = n := by omega
    refine codeAny_builtin PyProof.Rows.F.entry_set_update_loop ?_
    rw [Around.under_plainId PyProof.Rows.F.plain_set_update_loop _]
    show wpAny _ A.in1 (pyNext (.ref I) >>= _) _ _ s
    refine wpAny_bind (W.done s _ _ hst fun s' mv => ?_)
    show wpAny _ A.in1 (ret Value.none) _ _ s'
    refine wpAny_pure (fin s' (mv.mono more) ?_)
    obtain ⟨o, es, ep, t, ho, r⟩ := hS
    have R0 : s'.heap.SetOf (mixKind prog w) S (memK (ks.take i)) (dcnt (ks.take i)) := ⟨o, es, ep, t, mv.heap S _ away ho, r⟩
    rwa [List.take_of_length_le (by omega)] at R0
  | succ m ih =>
    intro i s hm hi hst hS fin
    have lt : i < n := by omega
    refine codeAny_builtin PyProof.Rows.F.entry_set_update_loop ?_
    rw [Around.under_plainId PyProof.Rows.F.plain_set_update_loop _]
    show wpAny _ A.in1 (pyNext (.ref I) >>= _) _ _ s
    refine wpAny_bind (W.item i s _ _ lt hst fun v s' hP hst' mv => ?_)
    obtain ⟨k, e1, e2, e3⟩ := each i v hP
    have hS' : s'.heap.SetOf (mixKind prog w) S (memK (ks.take i)) (dcnt (ks.take i)) := by
      obtain ⟨o, es, ep, t, ho, r⟩ := hS
      exact ⟨o, es, ep, t, mv.heap S _ away ho, r⟩
    show wpAny _ A.in1 (holding [v] (setAdd S v) >>= _) _ _ s'
    refine wpAny_bind (wpAny_holding ?_)
    unfold setAdd
    refine wpAny_holding ?_
    refine wpAny_bind ((mixKind prog w).pyHash (k := k) e2 ?_)
    have room : dcnt (ks.take i) + 1 < scanBound := by
      have h1 := dcnt_le (ks.take i)
      rw [List.length_take] at h1
      omega
    refine wpAny_setAddHashed_of (knd := mixKind prog w) (s := { s' with toks := s'.toks + 1 }) e2 e3 hS' room fun h' sb new => ?_
    have tk : ks.take (i + 1) = ks.take i ++ [k] := by rw [List.take_add_one, e1]; rfl
    have next : h'.SetOf (mixKind prog w) S (memK (ks.take (i + 1))) (dcnt (ks.take (i + 1))) := by
      refine SetOf_re new (fun j => ?_) ?_
      · rw [tk, Bool.eq_iff_iff, memK_iff]; simp [memK_iff]
      · rw [tk, dcnt_snoc]
    refine wpAny_pure ⟨plainId_quiet PyProof.Rows.F.plain_set_update_loop _, ih (i + 1) _ (by omega) lt (W.frame _ s' _ _ hst' (Nat.le_succ _) fun b hb o e => ?_) next fun s2 mv2 last => ?_⟩
    · rw [sb.2 b (fun z : b = S => off (by rw [← z]; exact hb))]; exact e
    · refine fin s2 (Moved.trans W.gtrans ((mv.mono more).then_heap (Nat.le_succ _) fun b o hb e => ?_) mv2) last
      rw [sb.2 b (fun z : b = S => hb (by rw [z]; exact List.mem_cons_self))]; exact e
end
section
variable {prog : Program} {w : World} {A : Around} {E : Value → Shared → Prop} {s : Shared}
/-- the new, empty set -/
abbrev set0 (led : Bool) : Obj := { cls := .type "set", dict := none, data := .set #[] 0 (.fresh 0 0 led) }
/-- what the set's start leaves -/
def SetMade (prog : Program) (w : World) (s : Shared) (ks : List Key) (h' : Heap) : Prop := h'.SetOf (mixKind prog w) s.heap.objs.size (memK ks) (dcnt ks) ∧ ∀ b o, b < s.heap.objs.size → s.heap.get? b = some o → h'.get? b = some o
theorem set_of_list {l : Addr} {xs : Array Value} {ks : List Key} {Q : Value → Shared → Prop} (free : A.handled = none) (hl : s.heap.IsList l xs) (each : KeysAre prog w xs.toList ks) (small : ks.length + 1 < scanBound)
    (fin : ∀ (h' : Heap) (tk : Nat), SetMade prog w s ks h' → Q (.ref s.heap.objs.size) { s with heap := h', toks := tk }) : wpAny (model prog w) A (call (.type "set") [.ref l]) Q E s := by
  obtain ⟨cl, more, order⟩ := PySem.F.called_set.mro
  have z1 := PySem.F.called_set.made
  have z2 := PySem.F.called_set.sub
  have z3 := PySem.F.called_set.notType
  have z4 := PySem.F.called_set.canCreate
  have z5 := PySem.F.typeCall_set_1 (.ref l)
  refine wpAny_call (codeAny_of_tree ?_)
  show wpAny _ _ (callAny (.type "set") _) _ _ _
  refine wpAny_pure ⟨Code.quiet_builtin _ (by decide +kernel), codeAny_builtin PySem.F.entry_type_call ?_⟩
  rw [Around.under_plain (weight_type_call_type "set" [.ref l] []) rfl]
  repeat (any_goals (first | assumption | wp_step))
  refine codeAny_mono (code_set_new_1 (.ref l) (E := E) (Q₁ := fun a s1 => ∃ led : Bool, a = .ref s.heap.objs.size ∧ s1 = { s with heap := s.heap.push (set0 led) }) fun led => ⟨led, rfl, rfl⟩) fun r s1 hr => ?_
  cases r with
  | error e => exact hr
  | ok fl =>
    cases fl with
    | ret a =>
      obtain ⟨led, rfl, rfl⟩ := hr
      have at0 : (s.heap.push (set0 led)).get? s.heap.objs.size = some (set0 led) := Heap.get?_push_size _ rfl
      have ty0 : Shared.TypeIs { s with heap := s.heap.push (set0 led) } (.ref s.heap.objs.size) "set" := ⟨_, at0, rfl⟩
      have z6 := PySem.F.called_set.init.lookup
      have z7 := PySem.F.called_set.init.bind (.ref s.heap.objs.size)
      repeat (any_goals (first | assumption | wp_step))
      refine codeAny_mono (codeAny_call_builtin (R := wants (fun r s2 => r = .none ∧ ∃ h' tk, s2 = { s with heap := h', toks := tk } ∧ SetMade prog w s ks h') E) PySem.F.called_set.init.plain PySem.F.entry_set_init (check_set_init_1 ty0 ?_)) fun r2 s2 hr2 => ?_
      · obtain ⟨⟨k1, k2, k3, k4⟩, hol, k5, nl, k6⟩ := hl
        simp only at k5 k6
        subst k5; subst k6
        have at1 : (s.heap.push (set0 led)).get? l = some { cls := .type "list", dict := k2, data := .seq xs nl, slots := k4 } := Heap.get?_push_of_some _ hol
        have z8 := PySem.F.sub_list_set
        have z9 := PySem.F.sub_list_frozenset
        have z10 : (Value.type "list" == Value.type "dict") = false := by decide
        have is1 : (s.heap.push (set0 led)).IsList l xs := ⟨_, at1, rfl, nl, rfl⟩
        unfold Builtin.«set.__init__» noKeywords Builtin.Frozenset.updateFrom
        generalize hPI : pyIter = PI
        wp_walk
        subst hPI
        refine wpAny_pyIter_list is1 ?_
        refine wpAny_bind (wpAny_runValue ?_)
        have under : l < s.heap.objs.size := Heap.lt_size hol
        have free3 : A.in1.in1.in1.handled = none := by simp [free]
        have apart : l ≠ (s.heap.push (set0 led)).objs.size := by rw [Heap.size_push]; exact Nat.ne_of_lt (Nat.lt_succ_of_lt under)
        have off : s.heap.objs.size ∉ [(s.heap.push (set0 led)).objs.size, l] := by
          rw [Heap.size_push]
          simp only [List.mem_cons, List.mem_singleton, List.not_mem_nil, or_false, not_or]
          exact ⟨Nat.ne_of_lt (Nat.lt_succ_self _), Nat.ne_of_gt under⟩
        have len : ks.length = xs.size := by rw [← each.1, Array.length_toList]
        refine set_turns ((Walks.list free3 _ l apart xs).toS) s.heap.objs.size off ks len (by rw [← len]; exact small)
          (fun i v hv => each.2 i v (by rw [Array.getElem?_toList]; exact hv)) (xs.size - 0) 0 _ (by omega) (Nat.zero_le _) ⟨⟨_, Heap.get?_push_size _ rfl, rfl, rfl⟩, (is1.push _)⟩ ?begin ?last
        case begin =>
          have at2 : ((s.heap.push (set0 led)).push { cls := .type "list_iterator", data := .fields #[.ref l, .int 0 0] }).get? s.heap.objs.size = some (set0 led) := Heap.get?_push_of_some _ at0
          have empty : ((s.heap.push (set0 led)).push { cls := .type "list_iterator", data := .fields #[.ref l, .int 0 0] }).SetOf (mixKind prog w) s.heap.objs.size (fun _ => false) 0 :=
            ⟨_, #[], 0, _, at2, ⟨rfl, rfl, rfl⟩, rfl, (fun e z => by simp at z), (fun k => by simp), (by decide), rfl, rfl⟩
          exact SetOf_re empty (fun k => (memK_nil k).symm) rfl
        case last =>
          intro s2 mv made
          obtain ⟨h2, g2, d2, tk2, os2⟩ := s2
          have e1 : g2 = s.gens := mv.gens
          have e2 : d2 = s.drawn := mv.drawn
          have e3 : os2 = s.os := mv.os
          subst e1; subst e2; subst e3
          show wpAny _ _ _ _ _ _
          refine wpAny_pure ?_
          show wpAny _ _ (ret Value.none) _ _ _
          refine wpAny_pure ⟨rfl, h2, tk2, rfl, made, fun b o hb e => ?_⟩
          refine mv.heap b o ?_ (Heap.get?_push_of_some _ (Heap.get?_push_of_some _ e))
          rw [Heap.size_push]
          simp only [List.mem_cons, List.mem_singleton, List.not_mem_nil, or_false, not_or]
          exact ⟨Nat.ne_of_lt hb, Nat.ne_of_lt (Nat.lt_succ_of_lt hb)⟩
      · cases r2 with
        | error e => exact hr2
        | ok fl2 =>
          cases fl2 with
          | ret r =>
            obtain ⟨rfl, h', tk, rfl, made⟩ := hr2
            repeat (any_goals (first | assumption | wp_step))
            exact fin _ _ made
          | _ => exact hr2.elim
    | _ => exact hr.elim
theorem set_of_tuple {l : Addr} {xs : Array Value} {ks : List Key} {Q : Value → Shared → Prop} (free : A.handled = none) (hl : s.heap.IsTuple l xs) (each : KeysAre prog w xs.toList ks) (small : ks.length + 1 < scanBound)
    (fin : ∀ (h' : Heap) (tk : Nat), SetMade prog w s ks h' → Q (.ref s.heap.objs.size) { s with heap := h', toks := tk }) : wpAny (model prog w) A (call (.type "set") [.ref l]) Q E s := by
  obtain ⟨cl, more, order⟩ := PySem.F.called_set.mro
  have z1 := PySem.F.called_set.made
  have z2 := PySem.F.called_set.sub
  have z3 := PySem.F.called_set.notType
  have z4 := PySem.F.called_set.canCreate
  have z5 := PySem.F.typeCall_set_1 (.ref l)
  refine wpAny_call (codeAny_of_tree ?_)
  show wpAny _ _ (callAny (.type "set") _) _ _ _
  refine wpAny_pure ⟨Code.quiet_builtin _ (by decide +kernel), codeAny_builtin PySem.F.entry_type_call ?_⟩
  rw [Around.under_plain (weight_type_call_type "set" [.ref l] []) rfl]
  repeat (any_goals (first | assumption | wp_step))
  refine codeAny_mono (code_set_new_1 (.ref l) (E := E) (Q₁ := fun a s1 => ∃ led : Bool, a = .ref s.heap.objs.size ∧ s1 = { s with heap := s.heap.push (set0 led) }) fun led => ⟨led, rfl, rfl⟩) fun r s1 hr => ?_
  cases r with
  | error e => exact hr
  | ok fl =>
    cases fl with
    | ret a =>
      obtain ⟨led, rfl, rfl⟩ := hr
      have at0 : (s.heap.push (set0 led)).get? s.heap.objs.size = some (set0 led) := Heap.get?_push_size _ rfl
      have ty0 : Shared.TypeIs { s with heap := s.heap.push (set0 led) } (.ref s.heap.objs.size) "set" := ⟨_, at0, rfl⟩
      have z6 := PySem.F.called_set.init.lookup
      have z7 := PySem.F.called_set.init.bind (.ref s.heap.objs.size)
      repeat (any_goals (first | assumption | wp_step))
      refine codeAny_mono (codeAny_call_builtin (R := wants (fun r s2 => r = .none ∧ ∃ h' tk, s2 = { s with heap := h', toks := tk } ∧ SetMade prog w s ks h') E) PySem.F.called_set.init.plain PySem.F.entry_set_init (check_set_init_1 ty0 ?_)) fun r2 s2 hr2 => ?_
      · obtain ⟨⟨k1, k2, k3, k4⟩, hol, k5, nl, k6⟩ := hl
        simp only at k5 k6
        subst k5; subst k6
        have at1 : (s.heap.push (set0 led)).get? l = some { cls := .type "tuple", dict := k2, data := .seq xs nl, slots := k4 } := Heap.get?_push_of_some _ hol
        have z8 := PySem.F.sub_tuple_set
        have z9 := PySem.F.sub_tuple_frozenset
        have z10 : (Value.type "tuple" == Value.type "dict") = false := by decide
        have is1 : (s.heap.push (set0 led)).IsTuple l xs := ⟨_, at1, rfl, nl, rfl⟩
        unfold Builtin.«set.__init__» noKeywords Builtin.Frozenset.updateFrom
        generalize hPI : pyIter = PI
        wp_walk
        subst hPI
        refine wpAny_pyIter_tuple is1 ?_
        refine wpAny_bind (wpAny_runValue ?_)
        have under : l < s.heap.objs.size := Heap.lt_size hol
        have free3 : A.in1.in1.in1.handled = none := by simp [free]
        have apart : l ≠ (s.heap.push (set0 led)).objs.size := by rw [Heap.size_push]; exact Nat.ne_of_lt (Nat.lt_succ_of_lt under)
        have off : s.heap.objs.size ∉ [(s.heap.push (set0 led)).objs.size, l] := by
          rw [Heap.size_push]
          simp only [List.mem_cons, List.mem_singleton, List.not_mem_nil, or_false, not_or]
          exact ⟨Nat.ne_of_lt (Nat.lt_succ_self _), Nat.ne_of_gt under⟩
        have len : ks.length = xs.size := by rw [← each.1, Array.length_toList]
        refine set_turns ((Walks.tuple free3 _ l apart xs).toS) s.heap.objs.size off ks len (by rw [← len]; exact small)
          (fun i v hv => each.2 i v (by rw [Array.getElem?_toList]; exact hv)) (xs.size - 0) 0 _ (by omega) (Nat.zero_le _) ⟨⟨_, Heap.get?_push_size _ rfl, rfl, rfl⟩, (is1.push _)⟩ ?begin ?last
        case begin =>
          have at2 : ((s.heap.push (set0 led)).push { cls := .type "tuple_iterator", data := .fields #[.ref l, .int 0 0] }).get? s.heap.objs.size = some (set0 led) := Heap.get?_push_of_some _ at0
          have empty : ((s.heap.push (set0 led)).push { cls := .type "tuple_iterator", data := .fields #[.ref l, .int 0 0] }).SetOf (mixKind prog w) s.heap.objs.size (fun _ => false) 0 :=
            ⟨_, #[], 0, _, at2, ⟨rfl, rfl, rfl⟩, rfl, (fun e z => by simp at z), (fun k => by simp), (by decide), rfl, rfl⟩
          exact SetOf_re empty (fun k => (memK_nil k).symm) rfl
        case last =>
          intro s2 mv made
          obtain ⟨h2, g2, d2, tk2, os2⟩ := s2
          have e1 : g2 = s.gens := mv.gens
          have e2 : d2 = s.drawn := mv.drawn
          have e3 : os2 = s.os := mv.os
          subst e1; subst e2; subst e3
          show wpAny _ _ _ _ _ _
          refine wpAny_pure ?_
          show wpAny _ _ (ret Value.none) _ _ _
          refine wpAny_pure ⟨rfl, h2, tk2, rfl, made, fun b o hb e => ?_⟩
          refine mv.heap b o ?_ (Heap.get?_push_of_some _ (Heap.get?_push_of_some _ e))
          rw [Heap.size_push]
          simp only [List.mem_cons, List.mem_singleton, List.not_mem_nil, or_false, not_or]
          exact ⟨Nat.ne_of_lt hb, Nat.ne_of_lt (Nat.lt_succ_of_lt hb)⟩
      · cases r2 with
        | error e => exact hr2
        | ok fl2 =>
          cases fl2 with
          | ret r =>
            obtain ⟨rfl, h', tk, rfl, made⟩ := hr2
            repeat (any_goals (first | assumption | wp_step))
            exact fin _ _ made
          | _ => exact hr2.elim
    | _ => exact hr.elim
end
end DL
end
section
/-! set comprehensions of keys -/
namespace DL
open PySem L2 PySem.Spec PyProof.Rows PpSet
section
variable {X : Cx}
end
end DL
end
section
/-! xs[::-1] of a list or a tuple -/
namespace DL
open PySem L2 PySem.Spec PyProof.Rows HT
section
variable {prog : Program} {w : World} {A : Around} {E : Value → Shared → Prop} {s : Shared}
end
section
variable {G : Glb} {X : Cx} {W : WX}
theorem PE.or {e : Expr} {t t' : TE} (h : PE X e t) (h' : PE X e t') : PE X e (fun σ H Q => t σ H Q ∨ t' σ H Q) := ⟨fun pins s σ H Q I q => q.elim (h.run pins s σ H Q I) (h'.run pins s σ H Q I)⟩
/-- backwards -/
def revD (S : Store) (d : D) : ER := match d with
  | .tup ds => .ok (.tup ds.reverse) S
  | d => match listD S d with
    | some ds => .ok (.lst ds.reverse) S
    | none => .bad
def eRev (f : EM) : EM := fun env S => (f env S).bind revD'
  where revD' (d : D) (S : Store) : ER := revD S d
end
end DL
end
section
/-! D-layer, part 8: how many unlike ones; dicts. -/
namespace DL
open PySem L2 PySem.Spec PyProof.Rows
section
variable {G : Glb} {X : Cx} {W : WX}
def keysD : List D → Option (List Key)
  | [] => some []
  | d :: ds => (keyD d).bind fun k => (keysD ds).map (k :: ·)
theorem keysD_is {φ : Fi} {H : Hp} : ∀ {ds : List D} {vs : List V} {ks : List Key}, IsL G φ H ds vs → keysD ds = some ks → vs = ks.map kV
  | [], vs, ks, i, e => by cases e; exact i
  | d :: ds, vs, ks, i, e => by
    obtain ⟨x, r, rfl, p, q⟩ := i
    obtain ⟨k, e1, e2⟩ := Option.bind_eq_some_iff.mp (show ((keyD d).bind fun k => (keysD ds).map (k :: ·)) = some ks from e)
    obtain ⟨js, e3, e4⟩ := Option.map_eq_some_iff.mp e2
    subst e4
    rw [keysD_is q e3, keyD_is p e1]; rfl
theorem keysD_str (ns : List Str) : keysD (ns.map .str) = some (ns.map .inr) := by
  induction ns with
  | nil => rfl
  | cons n ns ih => simp [keysD, keyD, ih]
theorem vals_keys {P : Program} {w : World} : ∀ {ks : List Key} {us : List Value}, Vals (ks.map kV) us → KeysAre P w us ks
  | [], _, h => by cases h; exact ⟨rfl, fun i u e => by simp at e⟩
  | k :: ks, _, h => by
    cases h with
    | cons r t =>
      obtain ⟨h1, h2⟩ := vals_keys (P := P) (w := w) t
      refine ⟨by simp [h1], fun i u e => ?_⟩
      cases i with
      | zero => simp at e; subst e; exact ⟨k, rfl, kV_is r, key_scan r⟩
      | succ i => simp at e; simpa using h2 i u e
/-- few keys: a set of them is scanned -/
def few (n : Nat) : Prop := n + 1 < scanBound
noncomputable instance {n : Nat} : Decidable (few n) := Classical.propDecidable _
theorem few_is {n : Nat} (h : n < 4000) : few n := by unfold few scanBound; omega
/-! ### len(set(xs)) -/
def tLenSetK (K : PySem.W.Frag) (ta : TE) : TE := fun σ H Q => ta σ H fun x H1 => ∃ (l : Addr) (ks : List Key), x = .ref l ∧ (SqL K H1 l (ks.map kV) ∨ SqT K H1 l (ks.map kV)) ∧ few ks.length ∧ Q (.int (dcnt ks : Nat)) H1
theorem pe_lenSetK {a : Expr} {ta : TE} {p p2 q pos : Pos} (hc : X.calm = true) (hg : Gl X "len") (hm : X.mg "len" = none) (hg2 : Gl X "set") (hm2 : X.mg "set" = none) (ha : PE X a ta)
    (na : starEach [a] X.env = (false, eval a X.env) :: starEach [] X.env := by rfl) : PE X (.Call (.Name "len" p) [.Call (.Name "set" p2) [a] [] q] [] pos) (tLenSetK X.K ta) := by
  refine ⟨fun pins s σ H Q I h => Call_ (ld_blt I hg hm boot_len (PyProof.Rows.callWith_builtin1 (PyProof.Rows.args_cons (Call_ (ld_blt I hg2 hm2 boot_set (PyProof.Rows.callWith_type1 (PyProof.Rows.args_cons (thn (ha.run pins s σ H _ I h) fun v s1 ⟨x, H1, I1, r1, q1⟩ => PyProof.Rows.args_nil ?_) na) na rfl))) rfl) rfl rfl))⟩
  obtain ⟨l, ks, rfl, hq, hf, q1⟩ := q1
  cases r1
  have go : ∀ (h' : Heap) (tk : Nat), SetMade X.prog X.w s1 ks h' → wpAny (model X.prog X.w) X.A (call (.builtin "len") [.ref s1.heap.objs.size]) (EP X pins σ Q) X.xe { s1 with heap := h', toks := tk } := fun h' tk ⟨made, old⟩ => by
    obtain ⟨o, es, ep, t, ho, hex, hd, _, _, hb, hft, hn⟩ := made
    have I2 : Inv X pins σ H1 { s1 with heap := h', toks := tk } := I1.kept fun b o e => old b o (Heap.lt_size e) e
    exact call_len_set ho hex hd hft (by unfold scanBound at hb; omega) ⟨.int (dcnt ks : Nat), H1, I2.tok _, ⟨_, by rw [hn]⟩, q1⟩
  rcases hq with hq | hq
  · obtain ⟨its, r, pl, hz⟩ := I1.list hq
    exact set_of_list (I1.ok.hd hc) pl.isList (by simpa using vals_keys r) hf fun h' tk made => PyProof.Rows.args_nil (go h' tk made)
  · obtain ⟨its, r, pl, hz⟩ := I1.tuple hq
    exact set_of_tuple (I1.ok.hd hc) pl (by simpa using vals_keys r) hf fun h' tk made => PyProof.Rows.args_nil (go h' tk made)
noncomputable def eLenSet (f : EM) : EM := fun env S => (f env S).bind fun d S => match (seqD S d).bind keysD with
  | some ks => if few ks.length then .ok (.int (dcnt ks : Nat)) S else .bad
  | none => .bad
theorem de_lenSet {a : Expr} {f : EM} {p p2 q pos : Pos} (hc : X.calm = true) (hK : X.K = G.K) (hg : Gl X "len") (hm : X.mg "len" = none) (hg2 : Gl X "set") (hm2 : X.mg "set" = none) (ha : DE G X W a f)
    (na : starEach [a] X.env = (false, eval a X.env) :: starEach [] X.env := by rfl) : DE G X W (.Call (.Name "len" p) [.Call (.Name "set" p2) [a] [] q] [] pos) (eLenSet f) := by
  obtain ⟨t, pt, qt⟩ := ha
  refine ⟨_, pe_lenSetK hc hg hm hg2 hm2 pt na, fun σ H env φ S Q s re h => ?_⟩
  refine qt σ H env φ S _ s re (PostE.bind h fun d S1 φ1 H1 v e1 s1 i1 h1 => ?_)
  split at h1
  · rename_i ks e
    obtain ⟨ds, e2, e3⟩ := Option.bind_eq_some_iff.mp e
    obtain ⟨l, xs, rfl, r, il⟩ := seqD_sq s1 i1 e2
    split at h1
    · rename_i hf
      exact ⟨l, ks, rfl, by rw [← keysD_is il e3, hK]; exact r, hf, h1.now s1 rfl⟩
    · exact False.elim h1
  · exact False.elim h1
/-! ### len({e for ..}) -/
noncomputable def scD (b : D → EnvD → Option EnvD) (tt elt : EM) (env : EnvD) : List Key → List D → Store → Option (List Key × Store)
  | acc, [], S => some (acc, S)
  | acc, d :: ds, S => match b d env with
    | none => none
    | some e1 => match tt e1 S with
      | .ok (.bl true) S1 => match elt e1 S1 with
        | .ok y S2 => match keyD y with
          | some k => if few (acc.length + 1) then scD b tt elt env (acc ++ [k]) ds S2 else none
          | none => none
        | _ => none
      | .ok (.bl false) S1 => scD b tt elt env acc ds S1
      | _ => none
noncomputable def eLenSc (f : LM) (b : D → EnvD → Option EnvD) (tt elt : EM) (vs : List Nat) : EM := fun env S => (f env S).bindE fun ds S => match scD b tt elt (wipeD env vs) [] ds S with
  | some (ks, S') => .ok (.int (dcnt ks : Nat)) S'
  | none => .bad
theorem Lk.past {φ1 φ2 : Fi} {H1 H2 : Hp} {D0 : Addr} {S : Store} (l : Lk φ1 H1 D0 φ2 H2) (s : SOk G φ2 S H2) : SOk G ⟨φ2.c, φ1.h⟩ S H2 := by
  have e : φ2 = (Fi.mk φ2.c φ1.h).hide D0 := by
    obtain ⟨c, h⟩ := φ2
    have := l.hid
    simp only at this
    subst this
    rfl
  rw [e] at s
  exact s.show_
section
variable {elt tg iter : Expr} {ifs : List Expr} {scope : Scope} {own : List (Str × Nat)} {pos : Pos} {f : LM} {b : D → EnvD → Option EnvD} {ft fe : EM} {vs : List Nat}
end
end
end DL
end
section
/-! D-layer, part 9: what is never met; dicts that are read and written. -/
namespace DL
open PySem L2 PySem.Spec PyProof.Rows
theorem units65 {k : Nat} {A : Around} (r : Room k A) : A.units + 65 < cLine := by have := r.un; omega
theorem units1 {k : Nat} {A : Around} (r : Room k A) : A.units + 1 < cLine := by have := r.un; omega
section
variable {G : Glb} {X : Cx} {W : WX}
def eNev : EM := fun _ _ => .bad
/-! ### x[i], x a list, a tuple, a text, a dict -/
def rIxDc : R2 := fun x y H Q => ∃ a v, x = .ref a ∧ DGet H a y (some v) ∧ Q v H
theorem ix_dic (hu : X.A.units + 1 < cLine) : IxR X rIxDc := by
  intro value slice pins s σ H x y v u Q I rx ry h hs
  obtain ⟨a, d, rfl, g, q⟩ := h
  cases rx
  exact tail_any (dict_typeIs I g) PySem.F.slot_dict_getitem.lookup (d_getItem hu I g ry fun w' s3 I3 rw' => ⟨d, H, I3, rw', q⟩) hs
noncomputable def opIxX (x y : D) (S : Store) : ER := match dicD S x with
  | some kds => match keyD y with
    | some k => match valD kds k with
      | some d => .ok d S
      | none => .bad
    | none => .bad
  | none => opIx x y S
theorem ix_is {φ : Fi} {S : Store} {H : Hp} {σ : L2.St} {dx dy : D} {x y : V} {Q : VK} (hK : X.K = G.K) (s : SOk G φ S H) (ix : Is G φ H dx x) (iy : Is G φ H dy y) (h : PostE G W φ H σ (opIx dx dy S) Q) : rIx X.K x y H Q := by
  unfold opIx at h
  split at h
  · cases (show x = _ from ix); cases (show y = _ from iy)
    split at h
    · rename_i hz
      split at h
      · rename_i d hd
        obtain ⟨c, e1, e2⟩ := Option.map_eq_some_iff.mp hd
        subst e2
        exact .inr (.inr ⟨_, _, c, rfl, rfl, sizeLine_is hz, e1, h.now s rfl⟩)
      · exact bad_no h
    · exact bad_no h
  · cases (show y = _ from iy)
    split at h
    · rename_i d hd
      obtain ⟨p, xs, rfl, r, q⟩ := tupD_sq ix rfl
      obtain ⟨v, e1, k⟩ := atI_is q hd
      exact .inr (.inl ⟨p, xs, _, v, rfl, rfl, by rw [hK]; exact r, e1, h.now s k⟩)
    · exact bad_no h
  · cases (show y = _ from iy)
    split at h
    · rename_i ds e
      obtain ⟨p, xs, rfl, r, q⟩ := listD_sq s ix e
      split at h
      · rename_i d hd
        obtain ⟨v, e1, k⟩ := atI_is q hd
        exact .inl ⟨p, xs, _, v, rfl, rfl, by rw [hK]; exact r, e1, h.now s k⟩
      · exact bad_no h
    · exact bad_no h
  · exact bad_no h
theorem de_ixX {a b : Expr} {pos : Pos} {fa fb : EM} (hK : X.K = G.K) (hu : X.A.units + 1 < cLine) (ha : DE G X W a fa) (hb : DE G X W b fb) (hs : PlainIx b := by intro _ _; rfl) : DE G X W (.Subscript a b pos) (eOp opIxX fa fb) := by
  obtain ⟨ta, pa, qa⟩ := ha
  obtain ⟨tb, pb, qb⟩ := hb
  refine ⟨_, pe_ix (ix_seq.or (ix_dic hu)) pa pb hs, op_of (t := ta) qa qb fun W φ S H σ dx dy x y Q s ix iy h => ?_⟩
  unfold opIxX at h
  split at h
  · rename_i kds e
    split at h
    · rename_i k ek
      split at h
      · rename_i d hd
        obtain ⟨a, kvs, rfl, r, q⟩ := dicD_is s ix e
        obtain ⟨v, e2, i2⟩ := (val_is k q).1 d hd
        exact .inr ⟨a, v, rfl, .inl ⟨kvs, k, r, keyD_is iy ek, e2.symm⟩, h.now s i2⟩
      · exact bad_no h
    · exact bad_no h
  · exact .inl (ix_is hK s ix iy h)
/-! ### o[i] = e of a list's or dict's cell -/
theorem PSet.or {t t' : TSet} (h : PSet X t) (h' : PSet X t') : PSet X (fun o i v H Q => t o i v H Q ∨ t' o i v H Q) := fun pins s σ H o i v ov iv u Q I ro ri rv q =>
  q.elim (h pins s σ H o i v ov iv u Q I ro ri rv) (h' pins s σ H o i v ov iv u Q I ro ri rv)
def putD (kds : List (Key × D)) (k : Key) (d : D) : List (Key × D) := if kds.any (fun kv => decide (kv.1 = k)) then kds.map (fun kv => if kv.1 = k then (kv.1, d) else kv) else kds ++ [(k, d)]
noncomputable def setX (o i d : D) (S : Store) : Option Store := match o with
  | .loc l => match S[l]? with
    | some (.dic kds) => match keyD i with
      | some k => if sz (kds.length + 1) then some (S.set l (.dic (putD kds k d))) else none
      | none => none
    | _ => setD o i d S
  | _ => none
theorem KvIs.length {φ : Fi} {H : Hp} {kds : List (Key × D)} {kvs : List (Key × V)} (q : KvIs G φ H kds kvs) : kds.length = kvs.length := by
  have := congrArg List.length q.1
  simpa using this.symm
theorem map_upd {α β : Type} (ks : List (Key × α)) (k : Key) (d : α) : (ks.map fun kv => if kv.1 = k then (kv.1, d) else kv).map (·.1) = ks.map (·.1) := by
  rw [List.map_map]
  apply List.map_congr_left
  intro kv _
  simp only [Function.comp]
  split <;> rfl
theorem any_keys {α β : Type} : ∀ {ks : List (Key × α)} {js : List (Key × β)} (k : Key), ks.map (·.1) = js.map (·.1) → (ks.any fun kv => decide (kv.1 = k)) = js.any fun kv => decide (kv.1 = k)
  | [], [], _, _ => rfl
  | [], _ :: _, _, h => by simp at h
  | _ :: _, [], _, h => by simp at h
  | a :: ks, b :: js, k, h => by
    simp only [List.map_cons, List.cons.injEq] at h
    rw [List.any_cons, List.any_cons, h.1, any_keys k h.2]
theorem isL_upd {φ : Fi} {H : Hp} {d : D} {v : V} (i : Is G φ H d v) (k : Key) : ∀ {kds : List (Key × D)} {kvs : List (Key × V)}, KvIs G φ H kds kvs →
    IsL G φ H ((kds.map fun kv => if kv.1 = k then (kv.1, d) else kv).map (·.2)) ((kvs.map fun kv => if kv.1 = k then (kv.1, v) else kv).map (·.2))
  | [], kvs, h => by
    have : kvs = [] := by simpa using h.1
    subst this
    exact rfl
  | (k0, d0) :: kds, kvs, h => by
    obtain ⟨h1, h2⟩ := h
    cases kvs with
    | nil => simp at h1
    | cons p r =>
      obtain ⟨kp, vp⟩ := p
      simp only [List.map_cons, List.cons.injEq] at h1
      obtain ⟨e1, e2⟩ := h1
      subst e1
      obtain ⟨x, xs, e3, i1, i2⟩ := h2
      simp only [List.map_cons, List.cons.injEq] at e3
      obtain ⟨rfl, rfl⟩ := e3
      have ih := isL_upd i k (show KvIs G φ H kds r from ⟨e2, i2⟩)
      simp only [List.map_cons]
      by_cases hk : kp = k
      · rw [if_pos hk, if_pos hk]; exact ⟨_, _, rfl, i, ih⟩
      · rw [if_neg hk, if_neg hk]; exact ⟨_, _, rfl, i1, ih⟩
theorem put_is {φ : Fi} {H : Hp} {kds : List (Key × D)} {kvs : List (Key × V)} {d : D} {v : V} (q : KvIs G φ H kds kvs) (i : Is G φ H d v) (k : Key) : KvIs G φ H (putD kds k d) (putK kvs k v) := by
  have ea := any_keys (α := D) (β := V) k q.1.symm
  unfold putD putK
  rw [ea]
  split
  · exact ⟨by rw [map_upd (β := V), map_upd (β := V)]; exact q.1, isL_upd i k q⟩
  · refine ⟨by simp [q.1], ?_⟩
    rw [List.map_append, List.map_append]
    exact q.2.append (.one i)
theorem KvIs.ext {φ φ' : Fi} {H H' : Hp} {kds : List (Key × D)} {kvs : List (Key × V)} (e : Ext φ H φ' H') (q : KvIs G φ H kds kvs) : KvIs G φ' H' kds kvs := ⟨q.1, q.2.ext e⟩
noncomputable def sPutX (o i f : EM) : SM := fun env S => (f env S).bindS env fun d S => (o env S).bindS env fun a S => (i env S).bindS env fun b S => match setX a b d S with
  | some S' => .nx env S'
  | none => .bad
theorem setX_is {φ : Fi} {S S' : Store} {H : Hp} {o i d : D} {vo vi v : V} (s : SOk G φ S H) (io : Is G φ H o vo) (ii : Is G φ H i vi) (id : Is G φ H d v) (h : setX o i d S = some S') {Q : Hp → Prop} (k : ∀ H', Ext φ H φ H' → SOk G φ S' H' → Q H') : rSetL vo vi v H Q ∨ rSetD vo vi v H Q := by
  unfold setX at h
  split at h
  · rename_i l
    split at h
    · rename_i kds hc
      split at h
      · rename_i key ek
        split at h
        · rename_i hz
          cases h
          obtain ⟨a, ha, rfl⟩ := io
          obtain ⟨ws, hx, z, q⟩ := s.at_ hc ha
          have kv : KvIs G φ H kds ws := ⟨z, q⟩
          have e := Ext.put (φ := φ) (H := H) (o := .dK (putK ws key v)) (List.mem_of_getElem? ha)
          refine .inr ⟨a, _, rfl, .inl ⟨ws, key, hx, keyD_is ii ek, ?_, rfl⟩, k _ e (s.put ha ?_)⟩
          · have hl := kv.length
            have hz' : kds.length + 1 ≤ 16777216 := hz
            rw [sizeLine_eq]; omega
          · obtain ⟨p1, p2⟩ := (put_is kv id key).ext e
            exact ⟨_, upd_same, p1, p2⟩
        · cases h
      · cases h
    · exact .inl (set_is s io ii id h k)
  · cases h
theorem ds_putX {o i e : Expr} {pos pos' : Pos} {fo fi fe : EM} (hu : X.A.units + 1 < cLine) (he : DE G X W e fe) (ho : DE G X W o fo) (hi : DE G X W i fi) (hs : swapsWithSole [.Subscript o i pos'] e pos.line X.env = pure false := by rfl) (hw : swappedStores [.Subscript o i pos'] e X.env = pure none := by rfl)
    (h1 : List.map (fun x => x.snd) (assignEach [.Subscript o i pos'] X.env) = [assign (.Subscript o i pos') X.env] := by rfl)
    (h2 : ∀ v, assign (.Subscript o i pos') X.env v = (do let ov ← holding [v] (eval o X.env); let iv ← holding [v, ov] (eval i X.env); standAt pos'; holding [v, ov, iv] (setItem ov iv v); release [v, ov, iv] []) := by intro _; rfl) : DS G X W (.Assign [.Subscript o i pos'] e pos) (sPutX fo fi fe) := by
  obtain ⟨to, po, qo⟩ := ho
  obtain ⟨ti, pi, qi⟩ := hi
  obtain ⟨te, pe, qe⟩ := he
  refine ⟨_, ps_asg pe (pg_sub po pi (PSet.or set_list (set_dict hu)) h2) hs hw h1, fun σ H env φ S N s re h => ?_⟩
  refine qe σ H env φ S _ s re (PostE.bindS re h fun d S1 φ1 H1 v e1 s1 i1 h1 => ?_)
  have r1 := re.ext e1
  refine qo σ H1 env φ1 S1 _ s1 r1 (PostE.bindS r1 h1 fun a S2 φ2 H2 va e2 s2 i2 h2 => ?_)
  have r2 := r1.ext e2
  refine qi σ H2 env φ2 S2 _ s2 r2 (PostE.bindS r2 h2 fun b S3 φ3 H3 vb e3 s3 i3 h3 => ?_)
  cases hS : setX a b d S3 with
  | none => rw [hS] at h3; exact False.elim h3
  | some S4 =>
    rw [hS] at h3
    exact setX_is s3 (i2.ext e3) i3 ((i1.ext e2).ext e3) hS fun H' e4 s4 => h3 φ3 H' σ e4 s4 ((r2.ext e3).ext e4)
/-! ### d[k] += n -/
noncomputable def sAugX (g : Int → Int → Int) (o i f : EM) : SM := fun env S => (o env S).bindS env fun a S => (i env S).bindS env fun b S => match a, keyD b with
  | .loc l, some k => match S[l]? with
    | some (.dic kds) => match valD kds k with
      | some (.int n) => (f env S).bindS env fun d S => match d with
        | .int m => match S[l]? with
          | some (.dic kds) => if sz (kds.length + 1) then .nx env (S.set l (.dic (putD kds k (.int (g n m))))) else .bad
          | _ => .bad
        | _ => .bad
      | _ => .bad
    | _ => .bad
  | _, _ => .bad
theorem ds_augX {op : Operator} {g : Int → Int → Int} {o i e : Expr} {tpos pos : Pos} {fo fi fe : EM} (hu : X.A.units + 1 < cLine) (hop : InOp X op (fun x y H Q => ∃ i j, x = .int i ∧ y = .int j ∧ Q (.int (g i j)) H)) (ho : DE G X W o fo) (hi : DE G X W i fi) (he : DE G X W e fe)
    (ha : ∀ ov iv new, augStore i ov iv new = (do holding [new, ov, iv] (setItem ov iv new); release [new, ov, iv] []; pure .next) := by intro _ _ _; rfl) : DS G X W (.AugAssign (.Subscript o i tpos) op e pos) (sAugX g fo fi fe) := by
  obtain ⟨to, po, qo⟩ := ho
  obtain ⟨ti, pi, qi⟩ := hi
  obtain ⟨te, pe, qe⟩ := he
  refine ⟨_, ps_daug hu po pi pe hop ha, fun σ H env φ S N s re h => ?_⟩
  refine qo σ H env φ S _ s re (PostE.bindS re h fun a S1 φ1 H1 va e1 s1 i1 h1 => ?_)
  have r1 := re.ext e1
  refine qi σ H1 env φ1 S1 _ s1 r1 (PostE.bindS r1 h1 fun b S2 φ2 H2 vb e2 s2 i2 h2 => ?_)
  have r2 := r1.ext e2
  split at h2
  · rename_i l k ek
    have i1' := i1.ext e2
    obtain ⟨p, hp, rfl⟩ := i1'
    split at h2
    · rename_i kds hc
      split at h2
      · rename_i n hv
        obtain ⟨ws, hx, z, q⟩ := s2.at_ hc hp
        have kv : KvIs G φ2 H2 kds ws := ⟨z, q⟩
        obtain ⟨w, hw, iw⟩ := (val_is k kv).1 _ hv
        cases (show w = .int n from iw)
        refine ⟨p, .int n, rfl, .inl ⟨ws, k, .inl hx, keyD_is i2 ek, hw.symm⟩, ?_⟩
        refine qe σ H2 env φ2 S2 _ s2 r2 (PostE.bindS r2 h2 fun d S3 φ3 H3 v e3 s3 i3 h3 => ?_)
        split at h3
        · rename_i m
          cases (show v = .int m from i3)
          have hp3 := e3.get hp
          split at h3
          · rename_i kds3 hc3
            split at h3
            · rename_i hz
              obtain ⟨ws3, hx3, z3, q3⟩ := s3.at_ hc3 hp3
              have kv3 : KvIs G φ3 H3 kds3 ws3 := ⟨z3, q3⟩
              have e4 := Ext.put (φ := φ3) (H := H3) (o := .dK (putK ws3 k (.int (g n m)))) (List.mem_of_getElem? hp3)
              refine ⟨n, m, rfl, rfl, _, .inl ⟨ws3, k, hx3, keyD_is i2 ek, ?_, rfl⟩, ?_⟩
              · have hl := kv3.length
                have hz' : kds3.length + 1 ≤ 16777216 := hz
                rw [sizeLine_eq]; omega
              · obtain ⟨p1, p2⟩ := (put_is kv3 (show Is G φ3 H3 (.int (g n m)) (.int (g n m)) from rfl) k).ext e4
                exact h3 φ3 _ σ e4 (s3.put hp3 ⟨_, upd_same, p1, p2⟩) ((r2.ext e3).ext e4)
            · exact False.elim h3
          · exact False.elim h3
        · exact False.elim h3
      · exact False.elim h2
    · exact False.elim h2
  · exact False.elim h2
/-! ### a new dict -/
def eDic0 : EM := fun _ S => .ok (.dic [] []) S
def eDic0M : EM := fun _ S => .ok (.loc S.length) (S ++ [.dic []])
/-! ### len, list, dict of a dict too -/
theorem call_lenDc : CallR X (.builtin "len") (fun xs H Q => ∃ a kvs, xs = [V.ref a] ∧ Rd H a (.dK kvs) ∧ Q (.int kvs.length) H) := by
  intro pins s σ H xs us Q I r h
  obtain ⟨a, kvs, rfl, ha, q⟩ := h
  obtain ⟨u, rfl, ru⟩ := vals1 r
  cases ru
  exact d_len I ha fun t s' I' => ⟨.int kvs.length, H, I', ⟨t, rfl⟩, q⟩
noncomputable def bLenX (ds : List D) (S : Store) : ER := match ds with
  | [d] => match dicD S d with
    | some kds => .ok (.int kds.length) S
    | none => bLen ds S
  | _ => .bad
theorem dc_lenX (hK : X.K = G.K) : DCall G X (.builtin "len") bLenX := by
  obtain ⟨r, hr, q⟩ := dc_len (G := G) (X := X) hK
  refine ⟨_, hr.or call_lenDc, fun W φ S H σ ds xs Q s i h => ?_⟩
  unfold bLenX at h
  split at h
  · split at h
    · rename_i kds e
      obtain ⟨x, rfl, k⟩ := IsL.inv1 i
      obtain ⟨a, kvs, rfl, r, kv⟩ := dicD_is s k e
      exact .inr ⟨a, kvs, rfl, r, by rw [← kv.length]; exact h.now s rfl⟩
    · exact .inl (q W φ S H σ _ xs Q s i h)
  · exact bad_no h
theorem isL_keys {φ : Fi} {H : Hp} {kds : List (Key × D)} {kvs : List (Key × V)} (q : KvIs G φ H kds kvs) : IsL G φ H (kds.map fun kv => dKey kv.1) (kvs.map fun kv => kV kv.1) := by
  have e1 : kds.map (fun kv => dKey kv.1) = (kds.map (·.1)).map dKey := by rw [List.map_map]; rfl
  have e2 : kvs.map (fun kv => kV kv.1) = (kvs.map (·.1)).map kV := by rw [List.map_map]; rfl
  rw [e1, e2, q.1]
  generalize kds.map (·.1) = ks
  induction ks with
  | nil => exact rfl
  | cons k ks ih => exact ⟨_, _, rfl, is_dKey k, ih⟩
def bListX (ds : List D) (S : Store) : ER := match ds with
  | [d] => match dicD S d with
    | some kds => .ok (.lst (kds.map fun kv => dKey kv.1)) S
    | none => bList ds S
  | _ => .bad
def bListXM (ds : List D) (S : Store) : ER := match ds with
  | [d] => match dicD S d with
    | some kds => .ok (.loc S.length) (S ++ [.lst (kds.map fun kv => dKey kv.1)])
    | none => bListM ds S
  | _ => .bad
theorem dc_listX (hc : X.calm = true) (hK : X.K = G.K) : DCall G X (.type "list") bListX := by
  obtain ⟨r, hr, q⟩ := dc_list (G := G) (X := X) hK
  refine ⟨_, hr.or (call_listD hc), fun W φ S H σ ds xs Q s i h => ?_⟩
  unfold bListX at h
  split at h
  · split at h
    · rename_i kds e
      obtain ⟨x, rfl, k⟩ := IsL.inv1 i
      obtain ⟨a, kvs, rfl, r, kv⟩ := dicD_is s k e
      exact .inr ⟨a, kvs, rfl, r, fun p hp => lst_new s (isL_keys kv) h hp⟩
    · exact .inl (q W φ S H σ _ xs Q s i h)
  · exact bad_no h
theorem dc_listXM (hc : X.calm = true) (hK : X.K = G.K) : DCall G X (.type "list") bListXM := by
  obtain ⟨r, hr, q⟩ := dc_listM (G := G) (X := X) hK
  refine ⟨_, hr.or (call_listD hc), fun W φ S H σ ds xs Q s i h => ?_⟩
  unfold bListXM at h
  split at h
  · split at h
    · rename_i kds e
      obtain ⟨x, rfl, k⟩ := IsL.inv1 i
      obtain ⟨a, kvs, rfl, r, kv⟩ := dicD_is s k e
      exact .inr ⟨a, kvs, rfl, r, fun p hp => lst_newM s (isL_keys kv) h hp⟩
    · exact .inl (q W φ S H σ _ xs Q s i h)
  · exact bad_no h
def bDict (ds : List D) (S : Store) : ER := match ds with
  | [d] => match dicD S d with
    | some kds => .ok (.dic (kds.map (·.1)) (kds.map (·.2))) S
    | none => .bad
  | _ => .bad
/-! ### d.get(k), d.get(k, x) -/
def getD (o b : D) (z : D) (S : Store) : ER := match dicD S o, keyD b with
  | some kds, some k => .ok ((valD kds k).getD z) S
  | _, _ => .bad
end
end DL
end
section
/-! D-layer, part 10: how the values of parts 7 to 9 are reckoned (by simp). -/
namespace DL
open PySem L2
section
variable {d : D} {S : Store} {x : Exc} {e env : EnvD} {i j : Int}
@[simp] theorem opIxX_t {ds : List D} : opIxX (.tup ds) (.int i) S = match atI ds i with | some d => .ok d S | none => .bad := rfl
@[simp] theorem opIxX_l {ds : List D} : opIxX (.lst ds) (.int i) S = match atI ds i with | some d => .ok d S | none => .bad := rfl
@[simp] theorem opIxX_s {z : Str} : opIxX (.str z) (.int i) S = if sz z.length then (match strAt z i with | some d => .ok d S | none => .bad) else .bad := rfl
@[simp] theorem opIxX_di {ks ds} : opIxX (.dic ks ds) (.int i) S = match valD (ks.zip ds) (.inl i) with | some d => .ok d S | none => .bad := rfl
@[simp] theorem opIxX_ds {ks ds} {z : Str} : opIxX (.dic ks ds) (.str z) S = match valD (ks.zip ds) (.inr z) with | some d => .ok d S | none => .bad := rfl
@[simp] theorem opIxX_ci {l : Nat} : opIxX (.loc l) (.int i) S = match cel S l with
  | some (.lst ds) => (match atI ds i with | some d => .ok d S | none => .bad)
  | some (.dic kds) => (match valD kds (.inl i) with | some d => .ok d S | none => .bad)
  | _ => .bad := by
  simp only [opIxX, dicD, keyD, opIx, listD, cel]
  cases S[l]? with
  | none => rfl
  | some c => cases c <;> rfl
@[simp] theorem opIxX_cs {l : Nat} {z : Str} : opIxX (.loc l) (.str z) S = match cel S l with
  | some (.dic kds) => (match valD kds (.inr z) with | some d => .ok d S | none => .bad)
  | _ => .bad := by
  simp only [opIxX, dicD, keyD, opIx, listD, cel]
  cases S[l]? with
  | none => rfl
  | some c => cases c <;> rfl
@[simp] theorem bLenX_t {ds : List D} : bLenX [.tup ds] S = .ok (.int ds.length) S := rfl
@[simp] theorem bLenX_l {ds : List D} : bLenX [.lst ds] S = .ok (.int ds.length) S := rfl
@[simp] theorem bLenX_s {z : Str} : bLenX [.str z] S = if sz z.length then .ok (.int z.length) S else .bad := rfl
@[simp] theorem bLenX_d {ks ds} : bLenX [.dic ks ds] S = .ok (.int (ks.zip ds).length) S := rfl
@[simp] theorem bLenX_c {l : Nat} : bLenX [.loc l] S = match cel S l with | some (.lst ds) => .ok (.int ds.length) S | some (.dic kds) => .ok (.int kds.length) S | _ => .bad := by
  simp only [bLenX, dicD, bLen, seqD, listD, cel]
  cases S[l]? with
  | none => rfl
  | some c => cases c <;> rfl
@[simp] theorem bListX_t {ds : List D} : bListX [.tup ds] S = .ok (.lst ds) S := rfl
@[simp] theorem bListX_l {ds : List D} : bListX [.lst ds] S = .ok (.lst ds) S := rfl
@[simp] theorem bListX_d {ks ds} : bListX [.dic ks ds] S = .ok (.lst ((ks.zip ds).map fun kv => dKey kv.1)) S := rfl
@[simp] theorem bListX_c {l : Nat} : bListX [.loc l] S = match cel S l with | some (.lst ds) => .ok (.lst ds) S | some (.dic kds) => .ok (.lst (kds.map fun kv => dKey kv.1)) S | _ => .bad := by
  simp only [bListX, dicD, bList, seqD, listD, cel]
  cases S[l]? with
  | none => rfl
  | some c => cases c <;> rfl
@[simp] theorem bListXM_t {ds : List D} : bListXM [.tup ds] S = .ok (.loc S.length) (S ++ [.lst ds]) := rfl
@[simp] theorem bListXM_l {ds : List D} : bListXM [.lst ds] S = .ok (.loc S.length) (S ++ [.lst ds]) := rfl
@[simp] theorem bTuple_c {l : Nat} : bTuple [.loc l] S = match cel S l with | some (.lst ds) => .ok (.tup ds) S | _ => .bad := by
  simp only [bTuple, seqD, listD, cel]
  cases S[l]? with
  | none => rfl
  | some c => cases c <;> rfl
@[simp] theorem bSorted_l {ns : List Int} : bSorted [.lst (ns.map .int)] S = .ok (.lst ((sortI ns).map .int)) S := by simp [bSorted, listD, intsD_map]
@[simp] theorem eLenSet_is {f : EM} : eLenSet f env S = (f env S).bind fun d S => match (seqD S d).bind keysD with | some ks => if few ks.length then .ok (.int (dcnt ks : Nat)) S else .bad | none => .bad := rfl
@[simp] theorem eLenSc_is {f : LM} {b : D → EnvD → Option EnvD} {tt elt : EM} {vs : List Nat} : eLenSc f b tt elt vs env S = (f env S).bindE fun ds S => match scD b tt elt (wipeD env vs) [] ds S with | some (ks, S') => .ok (.int (dcnt ks : Nat)) S' | none => .bad := rfl
@[simp] theorem seqD_l {ds : List D} : seqD S (.lst ds) = some ds := rfl
@[simp] theorem seqD_t {ds : List D} : seqD S (.tup ds) = some ds := rfl
@[simp] theorem rg1_is {f : EM} : rg1 f env S = (f env S).bindL fun d S => match d with | .int n => if rOk n ∧ sz n.toNat then .ok [.int 0, .int n] S else .bad | _ => .bad := rfl
@[simp] theorem rg2_is {f g : EM} : rg2 f g env S = (f env S).bindL fun d S => (g env S).bindL fun d2 S => rg2D d d2 S := rfl
@[simp] theorem rg2D_is : rg2D (.int i) (.int j) S = if rOk i ∧ rOk j ∧ sz (j - i).toNat then .ok [.int i, .int j] S else .bad := rfl
@[simp] theorem eLRg_is {f : LM} : eLRg f env S = (f env S).bindE fun ds S => match ds with | [.int i, .int j] => .ok (.lst (rangeD i (j - i).toNat)) S | _ => .bad := rfl
@[simp] theorem eLRgM_is {f : LM} : eLRgM f env S = (f env S).bindE fun ds S => match ds with | [.int i, .int j] => .ok (.loc S.length) (S ++ [.lst (rangeD i (j - i).toNat)]) | _ => .bad := rfl
@[simp] theorem eTRg_is {f : LM} : eTRg f env S = (f env S).bindE fun ds S => match ds with | [.int i, .int j] => .ok (.tup (rangeD i (j - i).toNat)) S | _ => .bad := rfl
@[simp] theorem eRev_is {f : EM} : eRev f env S = (f env S).bind fun d S => revD S d := rfl
@[simp] theorem revD_t {ds : List D} : revD S (.tup ds) = .ok (.tup ds.reverse) S := rfl
@[simp] theorem revD_l {ds : List D} : revD S (.lst ds) = .ok (.lst ds.reverse) S := rfl
@[simp] theorem opAnd_ii : opAnd (.int i) (.int j) S = .ok (.int (Builtin.bitAnd i j)) S := rfl
@[simp] theorem opOr_ii : opOr (.int i) (.int j) S = .ok (.int (Builtin.bitOr i j)) S := rfl
@[simp] theorem opXor_ii : opXor (.int i) (.int j) S = .ok (.int (Builtin.bitXor i j)) S := rfl
@[simp] theorem opShr_ii : opShr (.int i) (.int j) S = if 0 ≤ j then .ok (.int (i / 2 ^ j.toNat)) S else .bad := rfl
@[simp] theorem opShl_ii : opShl (.int i) (.int j) S = if powOk i j then .ok (.int (i * 2 ^ j.toNat)) S else .bad := rfl
@[simp] theorem opMulX_ii : opMulX (.int i) (.int j) S = if mulOk i j then .ok (.int (i * j)) S else .bad := rfl
@[simp] theorem opMulX_c {l : Nat} : opMulX (.loc l) (.int i) S = match cel S l with | some (.lst ds) => if w63 i ∧ sz (ds.length * i.toNat) then .ok (.lst (List.replicate i.toNat ds).flatten) S else .bad | _ => .bad := rfl
@[simp] theorem w63_is (h : -9223372036854775808 ≤ i) (h2 : i < 9223372036854775808) : w63 i := ⟨by omega, by omega⟩
@[simp] theorem eMeth_is {T : String} {g : D → List D → Store → ER} {o : EM} {f : LM} : eMeth T g o f env S = (o env S).bind fun a S => if tyD T S a then (f env S).bindE fun ds S => g a ds S else .bad := rfl
@[simp] theorem tyD_c {l : Nat} : tyD "list" S (.loc l) = match cel S l with | some (.lst _) => true | _ => false := by
  simp only [tyD, listD, cel]
  cases S[l]? with
  | none => rfl
  | some c => cases c <;> rfl
@[simp] theorem tyD_l {ds : List D} : tyD "list" S (.lst ds) = true := rfl
@[simp] theorem cellL_c {l : Nat} {g : Nat → List D → ER} : cellL S (.loc l) g = match cel S l with | some (.lst ds) => g l ds | _ => .bad := rfl
@[simp] theorem mPopAt_is {o : D} : mPopAt o [.int i] S = cellL S o fun l xs => if w63 i then (match seqIndex? i xs.length with
    | some k => (match xs[k]? with | some d => .ok d (S.set l (.lst (xs.eraseIdx k))) | none => .bad)
    | none => .bad) else .bad := rfl
@[simp] theorem mPop_is {o : D} : mPop o [] S = cellL S o fun l xs => match xs[xs.length - 1]? with | some d => .ok d (S.set l (.lst xs.dropLast)) | none => .bad := rfl
@[simp] theorem mAppend_is {o : D} : mAppend o [d] S = cellL S o fun l xs => if sz (xs.length + 1) then .ok .non (S.set l (.lst (xs ++ [d]))) else .bad := rfl
@[simp] theorem mInsert_is {o : D} : mInsert o [.int i, d] S = cellL S o fun l xs => if sz (xs.length + 1) ∧ 0 ≤ i ∧ w63 i then .ok .non (S.set l (.lst (xs.take i.toNat ++ [d] ++ xs.drop i.toNat))) else .bad := rfl
@[simp] theorem mClear_is {o : D} : mClear o [] S = cellL S o fun l xs => .ok .non (S.set l (.lst [])) := rfl
@[simp] theorem opIn_ll {ds : List D} : opIn d (.lst ds) S = if flatD d && ds.all flatD then .ok (.bl (ds.any fun y => eqF y d)) S else match d.pyO S, (D.lst ds).pyO S with
    | some p, some (.list ps) => if SeqAt.shaped p && SeqAt.shaped (.list ps) then .ok (.bl (ps.any fun z => PyData.eqv z p)) S else .bad
    | some p, some (.tuple ps) => if SeqAt.shaped p && SeqAt.shaped (.tuple ps) then .ok (.bl (ps.any fun z => PyData.eqv z p)) S else .bad
    | _, _ => .bad := rfl
@[simp] theorem opIn_tt {ds : List D} : opIn d (.tup ds) S = if flatD d && ds.all flatD then .ok (.bl (ds.any fun y => eqF y d)) S else match d.pyO S, (D.tup ds).pyO S with
    | some p, some (.list ps) => if SeqAt.shaped p && SeqAt.shaped (.list ps) then .ok (.bl (ps.any fun z => PyData.eqv z p)) S else .bad
    | some p, some (.tuple ps) => if SeqAt.shaped p && SeqAt.shaped (.tuple ps) then .ok (.bl (ps.any fun z => PyData.eqv z p)) S else .bad
    | _, _ => .bad := rfl
@[simp] theorem opNotIn_ll {ds : List D} : opNotIn d (.lst ds) S = if flatD d && ds.all flatD then .ok (.bl (!(ds.any fun y => eqF y d))) S else match d.pyO S, (D.lst ds).pyO S with
    | some p, some (.list ps) => if SeqAt.shaped p && SeqAt.shaped (.list ps) then .ok (.bl (!(ps.any fun z => PyData.eqv z p))) S else .bad
    | some p, some (.tuple ps) => if SeqAt.shaped p && SeqAt.shaped (.tuple ps) then .ok (.bl (!(ps.any fun z => PyData.eqv z p))) S else .bad
    | _, _ => .bad := rfl
@[simp] theorem opNotIn_tt {ds : List D} : opNotIn d (.tup ds) S = if flatD d && ds.all flatD then .ok (.bl (!(ds.any fun y => eqF y d))) S else match d.pyO S, (D.tup ds).pyO S with
    | some p, some (.list ps) => if SeqAt.shaped p && SeqAt.shaped (.list ps) then .ok (.bl (!(ps.any fun z => PyData.eqv z p))) S else .bad
    | some p, some (.tuple ps) => if SeqAt.shaped p && SeqAt.shaped (.tuple ps) then .ok (.bl (!(ps.any fun z => PyData.eqv z p))) S else .bad
    | _, _ => .bad := rfl
@[simp] theorem flatD_int : flatD (.int i) = true := rfl
@[simp] theorem flatD_str {z : Str} : flatD (.str z) = true := rfl
@[simp] theorem flatD_bl {b : Bool} : flatD (.bl b) = true := rfl
@[simp] theorem flatD_non : flatD .non = true := rfl
@[simp] theorem flatD_tup {ds : List D} : flatD (.tup ds) = false := rfl
@[simp] theorem flatD_lst {ds : List D} : flatD (.lst ds) = false := rfl
@[simp] theorem flat_ints (ns : List Int) : (ns.map D.int).all flatD = true := by simp
@[simp] theorem eqF_ii : eqF (.int i) (.int j) = decide (i = j) := by show (i == j) = _; rw [Bool.beq_eq_decide_eq]
@[simp] theorem eqF_ss {a b : Str} : eqF (.str a) (.str b) = decide (a = b) := by show (a == b) = _; rw [Bool.beq_eq_decide_eq]
@[simp] theorem eDic0_is : eDic0 env S = .ok (.dic [] []) S := rfl
@[simp] theorem eDic0M_is : eDic0M env S = .ok (.loc S.length) (S ++ [.dic []]) := rfl
@[simp] theorem sPutX_is {o i f : EM} : sPutX o i f env S = (f env S).bindS env fun d S => (o env S).bindS env fun a S => (i env S).bindS env fun b S => match setX a b d S with | some S' => .nx env S' | none => .bad := rfl
@[simp] theorem setX_ci {l : Nat} : setX (.loc l) (.int i) d S = match cel S l with
  | some (.lst ds) => (putIx i ds d).map fun es => S.set l (.lst es)
  | some (.dic kds) => if sz (kds.length + 1) then some (S.set l (.dic (putD kds (.inl i) d))) else none
  | _ => none := by
  simp only [setX, setD, keyD, cel]
  cases S[l]? with
  | none => rfl
  | some c => cases c <;> rfl
@[simp] theorem setX_cs {l : Nat} {z : Str} : setX (.loc l) (.str z) d S = match cel S l with
  | some (.dic kds) => if sz (kds.length + 1) then some (S.set l (.dic (putD kds (.inr z) d))) else none
  | _ => none := by
  unfold cel
  show (match S[l]? with
    | some (.dic kds) => match keyD (.str z) with
      | some k => if sz (kds.length + 1) then some (S.set l (.dic (putD kds k d))) else none
      | none => none
    | _ => setD (.loc l) (.str z) d S) = _
  generalize S[l]? = o
  rcases o with _ | c
  · rfl
  · cases c <;> rfl
@[simp] theorem tyOf_obj {c ks ds} : tyOf S (.obj c ks ds) = none := rfl
@[simp] theorem tyOf_c {l : Nat} : tyOf S (.loc l) = match cel S l with | some (.lst _) => some .list | some (.dic _) => some .dict | some (.dct _) => some .dict | _ => none := rfl
/-- the way out where only the first cell (the draws) stays -/
theorem exit_draw {c c' : Cell} {T : Store} {d' : D} (h : frzD (resD 1 (c' :: T) 12) d = some d') (hb : c'.bel 1 = true) : exitD .pure [c] d (c' :: T) = .ok d' [c'] := by
  unfold exitD
  have e : frzD (resD [c].length (c' :: T) 12) d = some d' := h
  simp only [e]
  rw [if_pos (.inr (by simp [hb]))]
  rfl
end
end DL
end
section
/-! D-layer, part 11: dicts walked; enumerate and zip of lists and tuples in any mixture. -/
namespace DL
open PySem L2
variable {G : Glb} {X : Cx} {W : WX}

/-! ### a dict is locked for good as soon as it is walked -/
def tLockR (t : TE) : TE := fun σ H Q => t σ H fun x H1 => ∃ d kvs, x = .ref d ∧ ((∃ od, H1 d = some (.frz od (.dK kvs)) ∧ Q x H1) ∨ (H1 d = some (.dK kvs) ∧ ∀ od, Q x (upd H1 d (.frz od (.dK kvs)))))
theorem pe_lockR {e : Expr} {t : TE} (h : PE X e t) : PE X e (tLockR t) := by
  refine ⟨fun pins s σ H Q I hw => ?_⟩
  refine thn (h.run pins s σ H _ I hw) fun v s1 ⟨x, H1, I1, r, d, kvs, ex, q⟩ => ?_
  rcases q with ⟨od, hd, q⟩ | ⟨hd, q⟩
  · exact ⟨x, H1, I1, r, q⟩
  · obtain ⟨od, I2⟩ := I1.lock hd trivial
    exact ⟨x, _, I2, r, q od⟩
theorem Ext.lock {φ : Fi} {H : Hp} {d : Addr} {od : Obj} {kvs : List (Key × V)} (n : φ.out d) (h : H d = some (.dK kvs)) : Ext φ H φ (upd H d (.frz od (.dK kvs))) :=
  ⟨⟨[], by simp, fun _ q => by simp at q⟩, rfl, fun b u _ e => by
    by_cases hb : b = d
    · subst hb; rw [h] at e; cases e; exact .inr ⟨od, n.2, .inl ⟨_, rfl⟩, upd_same⟩
    · exact .inl (by rw [upd_ne hb]; exact e)⟩
theorem SOk.lock {φ : Fi} {S : Store} {H : Hp} {d : Addr} {od : Obj} {kvs : List (Key × V)} (s : SOk G φ S H) (n : φ.out d) (h : H d = some (.dK kvs)) : SOk G φ S (upd H d (.frz od (.dK kvs))) :=
  s.step (.lock n h) fun a ha => upd_ne fun z => by subst z; exact n.1 ha
def iKeysD (f : EM) : LM := fun env S => (f env S).bindL fun d S => match d with
  | .dic ks _ => .ok (ks.map dKey) S
  | _ => .bad
def iValsD (f : EM) : LM := fun env S => (f env S).bindL fun d S => match d with
  | .dic _ ds => .ok ds S
  | _ => .bad
def itemsD (ks : List Key) (ds : List D) : List D := (ks.zip ds).map fun p => .tup [dKey p.1, p.2]
def iItemsD (f : EM) : LM := fun env S => (f env S).bindL fun d S => match d with
  | .dic ks ds => .ok (itemsD ks ds) S
  | _ => .bad
theorem feeds_keys {φ : Fi} {H : Hp} {a : Addr} {od : Obj} {ks : List Key} {kvs : List (Key × V)} (n : φ.out a) (h : H a = some (.frz od (.dK kvs))) (e : kvs.map (·.1) = ks) : Feeds G φ H (Itk a od kvs) (ks.map dKey) := by
  have hl : ks.length = kvs.length := by rw [← e]; simp
  refine ⟨fun φ2 S2 H2 i d k s hd => ?_, fun φ2 S2 H2 k s => ⟨(k.frz _ _ _ n h).2, by simp [hl]⟩⟩
  obtain ⟨h1, h2⟩ := List.getElem?_eq_some_iff.mp hd
  simp at h1 h2
  refine ⟨⟨(k.frz _ _ _ n h).2, by omega⟩, fun x H3 ⟨e3, k', v', hk, ex⟩ => ?_⟩
  subst e3 ex
  have hk' : ks[i]? = some k' := by rw [← e]; simp [hk]
  have : ks[i] = k' := by rw [List.getElem?_eq_getElem h1] at hk'; exact Option.some.inj hk'
  subst h2
  rw [this]
  exact ⟨.refl, s, is_dKey k'⟩
section
variable {tg e : Expr} {f : EM} {apos cpos : Pos}
theorem lock_to {te : TE} {σ : L2.St} {H : Hp} {env : EnvD} {φ : Fi} {S : Store} {g : D → Store → LR} {R : It → Hp → Prop} {Q : VK}
    (q : ∀ σ H env φ S Q, SOk G φ S H → RepE G φ H σ env → PostE G W φ H σ (f env S) Q → te σ H Q) (s : SOk G φ S H) (re : RepE G φ H σ env) (h : PostI G W φ H σ ((f env S).bindL g) R) (hb : ∀ d S, (∀ ks ds, d ≠ .dic ks ds) → g d S = .bad)
    (k : ∀ ks ds S1 φ1 H1 a od kvs, Ext φ H φ1 H1 → SOk G φ1 S1 H1 → φ1.out a → H1 a = some (.frz od (.dK kvs)) → kvs.map (·.1) = ks → IsL G φ1 H1 ds (kvs.map (·.2)) → PostI G W φ1 H1 σ (g (.dic ks ds) S1) R → Q (.ref a) H1) : tLockR te σ H Q := by
  refine q σ H env φ S _ s re ?_
  cases hr : f env S with
  | bad => rw [hr] at h; exact False.elim h
  | ex x S1 => rw [hr] at h; exact h
  | ok d S1 =>
    rw [hr] at h
    intro φ1 H1 v e1 s1 i1
    have h' : PostI G W φ H σ (g d S1) R := h
    have hx : PostI G W φ1 H1 σ (g d S1) R := by
      cases hg : g d S1 with
      | bad => rw [hg] at h'; exact h'
      | ok ds S2 => rw [hg] at h'; exact fun φ2 H2 J e2 s2 fd => h' φ2 H2 J (e1.trans e2) s2 fd
      | ex x S2 => rw [hg] at h'; exact fun φ2 H2 c dx e2 s2 fd => h' φ2 H2 c dx (e1.trans e2) s2 fd
    by_cases hd : ∃ ks ds, d = .dic ks ds
    · obtain ⟨ks, ds, rfl⟩ := hd
      obtain ⟨a, kvs, rfl, ⟨n, r⟩, ek, il⟩ := i1
      refine ⟨a, kvs, rfl, ?_⟩
      rcases r with r | ⟨od, r⟩
      · refine .inr ⟨r, fun od => ?_⟩
        have el : Ext φ1 H1 φ1 (upd H1 a (.frz od (.dK kvs))) := .lock n r
        refine k ks ds S1 φ1 _ a od kvs (e1.trans el) (s1.lock n r) n upd_same ek (il.ext el) ?_
        cases hg : g (.dic ks ds) S1 with
        | bad => rw [hg] at hx; exact hx
        | ok ds S2 => rw [hg] at hx; exact fun φ2 H2 J e2 s2 fd => hx φ2 H2 J (el.trans e2) s2 fd
        | ex x S2 => rw [hg] at hx; exact fun φ2 H2 c dx e2 s2 fd => hx φ2 H2 c dx (el.trans e2) s2 fd
      · exact .inl ⟨od, r, k ks ds S1 φ1 H1 a od kvs e1 s1 n r ek il hx⟩
    · rw [hb d S1 fun ks ds z => hd ⟨ks, ds, z⟩] at hx
      exact False.elim hx
theorem di_keys (he : DE G X W e f) : DI G X W tg e (iKeysD f) := by
  obtain ⟨t, p, q⟩ := he
  refine ⟨_, pi_keys (pe_lockR p), fun σ H env φ S R s re h => ?_⟩
  refine lock_to q s re h (fun d S hd => ?_) fun ks ds S1 φ1 H1 a od kvs e1 s1 n r ek il hx => ⟨a, od, rfl, .inl ⟨kvs, r, hx φ1 H1 _ .refl s1 (feeds_keys n r ek)⟩⟩
  cases d with
  | dic ks ds => exact absurd rfl (hd ks ds)
  | _ => rfl
/-- a list, a tuple, or a dict by its keys -/
def iAny (f : EM) : LM := fun env S => (f env S).bindL fun d S => match d with
  | .lst ds => .ok ds S
  | .tup ds => .ok ds S
  | .str x => .ok (signsD x) S
  | .dic ks _ => .ok (ks.map dKey) S
  | _ => .bad
theorem di_any (hK : X.K = G.K) (he : DE G X W e f) : DI G X W tg e (iAny f) := by
  obtain ⟨w1, p1, q1⟩ := di_seq (W := W) (tg := tg) hK he
  obtain ⟨w2, p2, q2⟩ := di_keys (W := W) (tg := tg) he
  refine ⟨_, PI.or p1 p2, fun σ H env φ S R s re h => ?_⟩
  unfold iAny at h
  cases hr : f env S with
  | bad => rw [hr] at h; exact False.elim h
  | ex x S1 =>
    rw [hr] at h
    exact .inl (q1 σ H env φ S _ s re (by unfold iSeq; rw [hr]; exact h))
  | ok d S1 =>
    rw [hr] at h
    cases d with
    | lst ds => exact .inl (q1 σ H env φ S _ s re (by unfold iSeq; rw [hr]; exact h))
    | tup ds => exact .inl (q1 σ H env φ S _ s re (by unfold iSeq; rw [hr]; exact h))
    | str x => exact .inl (q1 σ H env φ S _ s re (by unfold iSeq; rw [hr]; exact h))
    | dic ks ds => exact .inr (q2 σ H env φ S _ s re (by unfold iKeysD; rw [hr]; exact h))
    | _ => exact False.elim h
end
end DL
end
section
/-! D-layer, part 12: enumerate and zip over lists and tuples in any mixture. -/
namespace DL
open PySem PySem.Spec PyProof.Rows L2
variable {G : Glb} {X : Cx} {W : WX}
def SqG (K : PySem.W.Frag) : Bool → Hp → Addr → List V → Prop
  | false => SqL K
  | true => SqT K
def HasG : Bool → Heap → Addr → Array Value → Prop
  | false => fun h a its => h.IsList a its
  | true => fun h a its => h.IsTuple a its
def IterG : Bool → Heap → Addr → Addr → Nat → Prop
  | false => fun h it a i => h.IsListIter it a i
  | true => fun h it a i => h.IsTupleIter it a i
def begO : Bool → Addr → Obj
  | false => fun a => { cls := .type "list_iterator", data := .fields #[.ref a, .int 0 0] }
  | true => fun a => { cls := .type "tuple_iterator", data := .fields #[.ref a, .int 0 0] }
theorem begO_at : ∀ (t : Bool) {h : Heap} {it a : Addr}, h.get? it = some (begO t a) → IterG t h it a 0
  | false, _, _, _, e => ⟨_, e, rfl, rfl⟩
  | true, _, _, _, e => ⟨_, e, rfl, rfl⟩
theorem beginsG : ∀ (t : Bool) (a : Addr) (its : Array Value), Begins (.ref a) (begO t a) fun h => HasG t h a its
  | false, a, its => begins_list a its
  | true, a, its => begins_tuple a its
theorem drawsG {prog : Program} {w : World} {A : Around} (hh : A.handled = none) : ∀ (t : Bool) (it a : Addr) (hne : a ≠ it) (its : Array Value), Draws prog w A it [it, a] its.size (fun i v => its[i]? = some v) (fun i h => IterG t h it a i ∧ HasG t h a its)
  | false, it, a, hne, its => Draws.list hh it a hne its
  | true, it, a, hne, its => Draws.tuple hh it a hne its
theorem IterG.at : ∀ {t : Bool} {h h' : Heap} {it a : Addr} {i : Nat}, IterG t h it a i → (∀ o, h.get? it = some o → h'.get? it = some o) → IterG t h' it a i
  | false, _, _, _, _, _, st, k => Heap.IsListIter.at st k
  | true, _, _, _, _, _, st, k => let ⟨o, e, r⟩ := st; ⟨o, k o e, r⟩
theorem IterG.obj : ∀ {t : Bool} {h : Heap} {it a : Addr} {i : Nat}, IterG t h it a i → ∃ o, h.get? it = some o ∧ ∀ v, o.data ≠ .cell v
  | false, _, _, _, _, ⟨o, e, _, d⟩ => ⟨o, e, fun v q => by rw [d] at q; cases q⟩
  | true, _, _, _, _, ⟨o, e, _, d⟩ => ⟨o, e, fun v q => by rw [d] at q; cases q⟩
theorem HasG.cls : ∀ {t : Bool} {h : Heap} {a : Addr} {its : Array Value}, HasG t h a its → ∃ o, h.get? a = some o ∧ o.cls = .type (if t then "tuple" else "list")
  | false, _, _, _, p => let ⟨o, e, c, _⟩ := p; ⟨o, e, c⟩
  | true, _, _, _, p => let ⟨o, e, c, _⟩ := p; ⟨o, e, c⟩
theorem IterG.cls : ∀ {t : Bool} {h : Heap} {it a : Addr} {i : Nat}, IterG t h it a i → ∃ o, h.get? it = some o ∧ o.cls = .type (if t then "tuple_iterator" else "list_iterator")
  | false, _, _, _, _, p => let ⟨o, e, c, _⟩ := p; ⟨o, e, c⟩
  | true, _, _, _, _, p => let ⟨o, e, c, _⟩ := p; ⟨o, e, c⟩
theorem HasG.ne_cls {t : Bool} {h : Heap} {a b : Addr} {its : Array Value} (p : HasG t h a its) {o : Obj} {n : String} (e : h.get? b = some o) (c : o.cls = .type n) (h1 : n ≠ "tuple") (h2 : n ≠ "list") : a ≠ b := fun z => by
  subst z
  obtain ⟨o', e', c'⟩ := p.cls
  rw [e] at e'; cases e'
  rw [c] at c'
  have q := Value.type.inj c'
  cases t
  · exact h2 q
  · exact h1 q
theorem HasG.ne_it {t t' : Bool} {h : Heap} {a it a' : Addr} {i : Nat} {its : Array Value} (p : HasG t h a its) (q : IterG t' h it a' i) : a ≠ it := by
  obtain ⟨o, e, c⟩ := q.cls
  cases t'
  · exact p.ne_cls e c (by decide) (by decide)
  · exact p.ne_cls e c (by decide) (by decide)
theorem HasG.apart {t : Bool} {h : Heap} {a e it : Addr} {i : Nat} {j : Int} {old : Value} {its : Array Value} (p : HasG t h a its) (he : IsEnum h e it j old) (q : IterG t h it a i) : a ≠ e ∧ a ≠ it :=
  ⟨p.ne_cls he rfl (by decide) (by decide), p.ne_it q⟩
section
variable {pins : List (Addr × Obj)} {σ : L2.St} {H : Hp} {s : Shared} {a : Addr} {xs : List V}
theorem seqG (I : Inv X pins σ H s) : ∀ {t : Bool}, SqG X.K t H a xs → ∃ its : List Value, Vals xs its ∧ HasG t s.heap a its.toArray ∧ a < s.heap.objs.size
  | false, h => let ⟨its, r, p, _⟩ := I.list h; ⟨its, r, p.isList, p.lt⟩
  | true, h => let ⟨its, r, p, _⟩ := I.tuple h; ⟨its, r, p, by obtain ⟨_, q, _⟩ := p; exact Heap.lt_size q⟩
theorem seqG_inj (I : Inv X pins σ H s) {ys : List V} : ∀ {t : Bool}, SqG X.K t H a xs → SqG X.K t H a ys → xs = ys
  | false, h, h' => I.list_inj h h'
  | true, h, h' => I.tuple_inj h h'
end
/-! ### enumerate -/
def IteG (K : PySem.W.Frag) (t : Bool) (a : Addr) : It :=
  ⟨fun i H => ∃ (xs : List V) (x : V), SqG K t H a xs ∧ xs[i]? = some x, fun i H v H' => ∃ T x, v = .ref T ∧ H T = none ∧ H' = upd H T (.tup [.int (i : Nat), x]) ∧ ∀ xs, SqG K t H a xs → xs[i]? = some x, fun i H => ∃ xs : List V, SqG K t H a xs ∧ xs.length = i⟩
theorem turn_enumG {P : Program} {w : World} {K : PySem.W.Frag} {elts : List Expr} {kk : Nat} {tpos : Pos} (t : Bool) (a e it : Addr) :
    Turn P w K (.Tuple elts kk tpos) (IteG K t a) [e, it] e (fun i h => (∃ old, IsEnum h e it ((i : Nat) : Int) old) ∧ IterG t h it a i ∧ e ≠ it) where
  mem := by simp
  obj := fun i h st b hb => by
    obtain ⟨⟨old, he⟩, hi, _⟩ := st
    have e' : b = e ∨ b = it := by simpa using hb
    rcases e' with z | z
    · rw [z]; exact ⟨_, he, fun v q => nomatch q⟩
    · rw [z]; exact hi.obj
  keep := fun i h h' st k => let ⟨⟨old, he⟩, hi, hne⟩ := st; ⟨⟨old, k e (by simp) _ he⟩, hi.at fun o q => k it (by simp) o q, hne⟩
  item := by
    intro X hP hw hK hc i pins s σ H E I hf st hg
    subst hP hw hK
    obtain ⟨⟨old, he⟩, hit, hne⟩ := st
    obtain ⟨xs, x, hq, hx⟩ := hg
    obtain ⟨its, rv, p, hl⟩ := seqG I hq
    obtain ⟨u, hu, ru⟩ := rv.get hx
    have hel : e < s.heap.objs.size := Heap.lt_size he
    have hil : it < s.heap.objs.size := by obtain ⟨_, q, _⟩ := hit.obj; exact Heap.lt_size q
    have hab : a ≠ e ∧ a ≠ it := p.apart he hit
    have hi : i < its.toArray.size := by
      have := (List.getElem?_eq_some_iff.mp hu).1
      simpa using this
    have D := drawsG (prog := X.prog) (w := X.w) (A := X.A.in1) (I.ok.hd hc) t it a hab.2 its.toArray
    refine wpAny_pyNext_enum_itemD D he ⟨hit, p⟩ hi hne (fun z => by
      have z' : e = it ∨ e = a := by simpa using z
      exact z'.elim hne fun z => hab.1 z.symm) fun x' h' tk hPx ho hst' hT hsz hk => ?_
    have ex : x' = u := by
      have q : its.toArray[i]? = some u := by simpa using hu
      rw [q] at hPx; exact (Option.some.inj hPx).symm
    subst ex
    refine ⟨_, rfl, wpAny_letOwnedTupleGo_enum (s := { s with heap := h', toks := tk + 1 }) ho fun h'' he' sb => ?_⟩
    have hT2 : h''.get? s.heap.objs.size = some { cls := .type "tuple", data := .seq #[.int i tk, x'] } := (sb.2 _ (Nat.ne_of_gt hel)).trans hT
    have new : ObjOk X.prog X.w (upd H s.heap.objs.size (.tup [.int (i : Nat), x])) h'' s.heap.objs.size (.tup [.int (i : Nat), x]) :=
      ⟨by show 2 ≤ sizeLine; decide, [.int i tk, x'], .cons ⟨_, rfl⟩ (.cons ru .nil), ⟨_, hT2, rfl, _, rfl⟩⟩
    have I1 : Inv X pins σ (upd H s.heap.objs.size (.tup [.int (i : Nat), x])) { s with heap := h'', toks := tk + 1 } :=
      I.turnedNew (ch := [e, it]) (fun b ob hb q => (sb.2 b (fun z => hb (by simp [z]))).trans (hk b ob (fun z => hb (by simp [z])) (fun z => hb (by simp [z])) q)) hf (Nat.le_refl _) new
    refine ⟨.ref s.heap.objs.size, _, I1, rfl, ⟨_, x, rfl, I.hok.fresh (Nat.le_refl _), rfl, fun ys hy => by rw [seqG_inj I hy hq]; exact hx⟩, ⟨⟨x', ?_⟩, hst'.1.at fun o q => (sb.2 it (Ne.symm hne)).trans q, hne⟩, fun b hb => ?_⟩
    · have e1 : ((i + 1 : Nat) : Int) = (i : Int) + 1 := by omega
      rw [e1]; exact he'
    · have hb' : b < s.heap.objs.size := by
        have e' : b = e ∨ b = it := by simpa using hb
        rcases e' with z | z
        · rw [z]; exact hel
        · rw [z]; exact hil
      rw [upd_ne (Nat.ne_of_lt hb')]
      exact (hf b hb).1
  done := by
    intro X hP hw hK hc i pins s σ H E I hf st hg
    subst hP hw hK
    obtain ⟨⟨old, he⟩, hit, hne⟩ := st
    obtain ⟨xs, hq, hx⟩ := hg
    obtain ⟨its, rv, p, hl⟩ := seqG I hq
    obtain ⟨f0, f1, f2, f3, f4, f5⟩ := hf it (by simp)
    have hl := rv.length
    have hab : a ≠ e ∧ a ≠ it := p.apart he hit
    have D := drawsG (prog := X.prog) (w := X.w) (A := X.A.in1) (I.ok.hd hc) t it a hab.2 its.toArray
    have ei : i = its.toArray.size := by simp; omega
    subst ei
    exact wpAny_pyNext_enum_endD D he ⟨hit, p⟩ fun h' eb => ⟨rfl, I.turned (t' := s.toks) (fun b o hb q => eb b o hb q) f0 f1 f3 f4 f5⟩
  self := fun A i s Q E st h => let ⟨⟨_, he⟩, _⟩ := st; wpAny_pyIter_enum he h
/-! ### the call of enumerate -/
theorem meets_enumerate_new1 {v : Value} {o : Obj} {H : Heap → Prop} (B : Begins v o H) :
    Meets (Builtin.«enumerate.__new__» ⟨[.type "enumerate", v], []⟩) (fun _ R s => H s.heap ∧
      R (.ok (.ret (.ref (s.heap.push o).objs.size))) { s with heap := (s.heap.push o).push { cls := .type "enumerate", data := .fields #[.none, .bool false, .ref s.heap.objs.size, rawInt 0, .none, .none] } }) :=
  .of_wp fun prog w A R s h => by
    obtain ⟨hp, g, d, tk, os⟩ := s; obtain ⟨h1, h⟩ := h
    have hsub := sub_enumerate
    have q1 : ∀ {A' : Around} {E : Value → Shared → Prop} {Q : Value → Shared → Prop}, Q (.ref hp.objs.size) ⟨hp.push o, g, d, tk, os⟩ → wpAny (model prog w) A' (pyIter v) Q E ⟨hp, g, d, tk, os⟩ :=
      fun q => B.iter prog w _ _ ⟨hp, g, d, tk, os⟩ _ h1 q
    wp_walk using q1
    refine wpAny_stack_any fun st => wpAny_pure ?_
    split
    · rename_i c _ _ _ _ _
      cases (c == Value.type "enumerate")
      · wp_walk using q1
        exact ⟨_, rfl, h⟩
      · wp_walk using q1
        exact ⟨_, rfl, h⟩
    · wp_walk using q1
      exact ⟨_, rfl, h⟩
theorem enum_begins1 {prog : Program} {w : World} {A : Around} {E : Value → Shared → Prop} {s : Shared} {v : Value} {o : Obj} {H : Heap → Prop} {Q : Value → Shared → Prop} (B : Begins v o H) (h1 : H s.heap)
    (h : ∀ h', IsEnum h' (s.heap.objs.size + 1) s.heap.objs.size 0 .none → h'.get? s.heap.objs.size = some o → h'.objs.size = s.heap.objs.size + 2 →
      (∀ b o, s.heap.get? b = some o → h'.get? b = some o) → Q (.ref (s.heap.objs.size + 1)) { s with heap := h' }) :
    wpAny (model prog w) A (call (.type "enumerate") [v]) Q E s := by
  refine callType_new F.called_enumerate (by decide) (F.typeCall_enumerate_1 _) (F.newCall_enumerate_1 _) (fun obj => F.args_object_init_2 obj _) F.entry_enumerate_new
    (meets_enumerate_new1 B) ⟨h1, ?_⟩
  have hz : (s.heap.push o).objs.size = s.heap.objs.size + 1 := Heap.size_push ..
  show _ ∧ _
  rw [hz]
  have he : IsEnum ((s.heap.push o).push { cls := .type "enumerate", data := .fields #[.none, .bool false, .ref s.heap.objs.size, rawInt 0, .none, .none] }) (s.heap.objs.size + 1) s.heap.objs.size 0 .none := by
    have := Heap.get?_push_size (s.heap.push o) (o := { cls := .type "enumerate", data := .fields #[.none, .bool false, .ref s.heap.objs.size, rawInt 0, .none, .none] }) rfl
    rw [hz] at this; exact this
  refine ⟨⟨_, he, rfl⟩, h _ he (Heap.get?_push_of_some _ (Heap.get?_push_size _ B.free)) (by rw [Heap.size_push, hz]) fun b o x => Heap.get?_push_of_some _ (Heap.get?_push_of_some _ x)⟩
def iEnumG (K : PySem.W.Frag) (ta : TA) : TI := fun σ H R => ta σ H fun vs H1 => ∃ t a xs, vs = [.ref a] ∧ SqG K t H1 a xs ∧ R (IteG K t a) H1
theorem pi_enumG {e : Expr} {ta : TA} {p pos tpos : Pos} {elts : List Expr} {kk : Nat} (hg : Gl X "enumerate") (hm : X.mg "enumerate" = none) (ha : PA X [e] ta) (hs : starEach [e] X.env = [(false, eval e X.env)] := by rfl) :
    PI X (.Tuple elts kk tpos) (.Call (.Name "enumerate" p) [e] [] pos) (iEnumG X.K ta) := by
  refine ⟨fun pins s σ H R I h => ?_⟩
  refine Call_ (ld_blt I hg hm boot_enumerate (PyProof.Rows.callWith_type1 (thn (ha.run pos pins s σ H _ I h) fun us s1 ⟨vs, H1, I1, r1, q1⟩ => ?_) hs rfl))
  obtain ⟨t, a, xs, ex, hq, q⟩ := q1
  subst ex
  cases r1 with
  | cons r rr =>
    cases rr
    cases r
    obtain ⟨its, rv, p', hz⟩ := seqG I1 hq
    refine enum_begins1 (beginsG t a its.toArray) p' fun h' he hit hsz hk => wpAny_pyIter_enum he ?_
    have I2 : Inv X pins σ H1 { s1 with heap := h' } := I1.kept (t' := s1.toks) hk
    refine ⟨s1.heap.objs.size + 1, [s1.heap.objs.size + 1, s1.heap.objs.size], _, _, H1, rfl, I2, turn_enumG t a (s1.heap.objs.size + 1) s1.heap.objs.size, ⟨⟨.none, he⟩, begO_at t hit, Nat.succ_ne_self _⟩, fun b hb => ?_, q⟩
    have e' : b = s1.heap.objs.size + 1 ∨ b = s1.heap.objs.size := by simpa using hb
    have hle : s1.heap.objs.size ≤ b := by
      rcases e' with z | z
      · rw [z]; exact Nat.le_add_right _ _
      · rw [z]; exact Nat.le_refl _
    exact I1.fpOk hle (I1.hok.fresh hle)
/-! ### zip of 2 -/
/-! ### zip of 3 -/
/-! ### as data -/
def RdG (G : Glb) (φ : Fi) (H : Hp) : Bool → Addr → List V → Prop
  | false => RdL G φ H
  | true => RdT G φ H
theorem RdG.kept {φ φ' : Fi} {H H' : Hp} (k : Kept φ H φ' H') : ∀ {t : Bool} {a : Addr} {xs : List V}, RdG G φ H t a xs → RdG G φ' H' t a xs
  | false, _, _, h => RdL.kept k h
  | true, _, _, h => RdT.kept k h
theorem RdG.seq {φ : Fi} {H : Hp} : ∀ {t : Bool} {a : Addr} {xs : List V}, RdG G φ H t a xs → SqG G.K t H a xs
  | false, _, _, h => RdL.seq h
  | true, _, _, h => RdT.seq h
/-- the items of a list or a tuple -/
def seqO (d : D) : Option (List D) := match d with
  | .lst ds => some ds
  | .tup ds => some ds
  | _ => none
@[simp] theorem seqO_lst {ds : List D} : seqO (.lst ds) = some ds := rfl
@[simp] theorem seqO_tup {ds : List D} : seqO (.tup ds) = some ds := rfl
theorem seqO_is {φ : Fi} {H : Hp} {d : D} {ds : List D} {v : V} (i : Is G φ H d v) (h : seqO d = some ds) : ∃ t a xs, v = .ref a ∧ RdG G φ H t a xs ∧ IsL G φ H ds xs := by
  cases d with
  | lst es => cases h; obtain ⟨a, xs, e, r, q⟩ := i; exact ⟨false, a, xs, e, r, q⟩
  | tup es => cases h; obtain ⟨a, xs, e, r, q⟩ := i; exact ⟨true, a, xs, e, r, q⟩
  | _ => cases h
theorem feeds_enumG {φ : Fi} {H : Hp} {t : Bool} {a : Addr} {xs : List V} {ds : List D} (r : RdG G φ H t a xs) (q : IsL G φ H ds xs) : Feeds G φ H (IteG G.K t a) (enumD 0 ds) := by
  refine ⟨fun φ2 S2 H2 i d e s hd => ?_, fun φ2 S2 H2 e s => ⟨xs, (r.kept e).seq, by rw [enumD_length, q.length]⟩⟩
  obtain ⟨d1, hd1, rfl⟩ := enumD_get 0 ds i d hd
  obtain ⟨x, hx, k⟩ := q.get hd1
  refine ⟨⟨xs, x, (r.kept e).seq, hx⟩, fun y H3 ⟨T, x', e3, hT, e4, hy⟩ => ?_⟩
  subst e3 e4
  have z := hy xs (r.kept e).seq
  rw [hx] at z; cases z
  refine ⟨.laid hT, s.laid hT, T, _, rfl, .inl ⟨s.fresh hT, .inl upd_same⟩, ?_⟩
  refine .cons ?_ (.one ((k.kept e).ext (.laid hT)))
  show V.int _ = V.int _
  rw [Nat.zero_add]
def iEnumX (f : LM) : LM := fun env S => (f env S).bind fun ds S => match ds with
  | [d] => match seqO d with
    | some ds => .ok (enumD 0 ds) S
    | none => .bad
  | _ => .bad
theorem di_enumX {e : Expr} {p pos tpos : Pos} {elts : List Expr} {kk : Nat} {f : LM} (hK : X.K = G.K) (hg : Gl X "enumerate") (hm : X.mg "enumerate" = none) (ha : DA G X W [e] f) (hs : starEach [e] X.env = [(false, eval e X.env)] := by rfl) : DI G X W (.Tuple elts kk tpos) (.Call (.Name "enumerate" p) [e] [] pos) (iEnumX f) := by
  obtain ⟨t, pt, q⟩ := ha
  refine ⟨_, pi_enumG hg hm pt hs, fun σ H env φ S R s re h => ?_⟩
  refine q σ H env φ S _ s re (PostL.toI h fun ds S1 φ1 H1 vs e1 s1 i1 h1 => ?_)
  split at h1
  · split at h1
    · rename_i d _ ds g1
      obtain ⟨x, rfl, k⟩ := IsL.inv1 i1
      obtain ⟨t, a, xs, rfl, rd, il⟩ := seqO_is k g1
      refine ⟨t, a, xs, rfl, by rw [hK]; exact rd.seq, ?_⟩
      rw [hK]
      exact h1 φ1 H1 _ .refl s1 (feeds_enumG rd il)
    · exact False.elim h1
  · exact False.elim h1
def iZip2X (f : LM) : LM := fun env S => (f env S).bind fun ds S => match ds with
  | [d1, d2] => match seqO d1, seqO d2 with
    | some ds1, some ds2 => .ok (zipD ds1 ds2) S
    | _, _ => .bad
  | _ => .bad
def zipD3X : List D → List D → List D → List D
  | d1 :: ds1, d2 :: ds2, d3 :: ds3 => .tup [d1, d2, d3] :: zipD3X ds1 ds2 ds3
  | _, _, _ => []
def iZip3X (f : LM) : LM := fun env S => (f env S).bind fun ds S => match ds with
  | [d1, d2, d3] => match seqO d1, seqO d2, seqO d3 with
    | some ds1, some ds2, some ds3 => .ok (zipD3X ds1 ds2 ds3) S
    | _, _, _ => .bad
  | _ => .bad
section
variable {env : EnvD} {S : Store}
@[simp] theorem iEnumX_is {f : LM} : iEnumX f env S = (f env S).bind fun ds S => match ds with
  | [d] => match seqO d with
    | some ds => .ok (enumD 0 ds) S
    | none => .bad
  | _ => .bad := rfl
@[simp] theorem iZip2X_is {f : LM} : iZip2X f env S = (f env S).bind fun ds S => match ds with
  | [d1, d2] => match seqO d1, seqO d2 with
    | some ds1, some ds2 => .ok (zipD ds1 ds2) S
    | _, _ => .bad
  | _ => .bad := rfl
@[simp] theorem iZip3X_is {f : LM} : iZip3X f env S = (f env S).bind fun ds S => match ds with
  | [d1, d2, d3] => match seqO d1, seqO d2, seqO d3 with
    | some ds1, some ds2, some ds3 => .ok (zipD3X ds1 ds2 ds3) S
    | _, _, _ => .bad
  | _ => .bad := rfl
@[simp] theorem iAny_is {f : EM} : iAny f env S = (f env S).bindL fun d S => match d with
  | .lst ds => .ok ds S
  | .tup ds => .ok ds S
  | .str x => .ok (signsD x) S
  | .dic ks _ => .ok (ks.map dKey) S
  | _ => .bad := rfl
@[simp] theorem iValsD_is {f : EM} : iValsD f env S = (f env S).bindL fun d S => match d with
  | .dic _ ds => .ok ds S
  | _ => .bad := rfl
@[simp] theorem iItemsD_is {f : EM} : iItemsD f env S = (f env S).bindL fun d S => match d with
  | .dic ks ds => .ok (itemsD ks ds) S
  | _ => .bad := rfl
end
end DL
end
section
/-! D-layer, part 13: dict comprehensions. -/
namespace DL
open PySem L2
variable {G : Glb} {X : Cx} {W : WX}
abbrev Kds := List (Key × D)
noncomputable def dcD (b : D → EnvD → Option EnvD) (tt ek ev : EM) (env : EnvD) : Kds → List D → Store → Option (Kds × Store)
  | acc, [], S => some (acc, S)
  | acc, d :: ds, S => match b d env with
    | none => none
    | some e1 => match tt e1 S with
      | .ok (.bl true) S1 => match ek e1 S1 with
        | .ok kd S2 => match ev e1 S2 with
          | .ok y S3 => match keyD kd with
            | some k => if sz (acc.length + 1) then dcD b tt ek ev env (putD acc k y) ds S3 else none
            | none => none
          | _ => none
        | _ => none
      | .ok (.bl false) S1 => dcD b tt ek ev env acc ds S1
      | _ => none
noncomputable def eDc (f : LM) (b : D → EnvD → Option EnvD) (tt ek ev : EM) (vs : List Nat) : EM := fun env S => (f env S).bindE fun ds S => match dcD b tt ek ev (wipeD env vs) [] ds S with
  | some (acc, S) => .ok (.dic (acc.map (·.1)) (acc.map (·.2))) S
  | none => .bad
noncomputable def eDcM (f : LM) (b : D → EnvD → Option EnvD) (tt ek ev : EM) (vs : List Nat) : EM := fun env S => (f env S).bindE fun ds S => match dcD b tt ek ev (wipeD env vs) [] ds S with
  | some (acc, S) => .ok (.loc S.length) (S ++ [.dic acc])
  | none => .bad
theorem KvIs.kept {φ φ' : Fi} {H H' : Hp} {kds : List (Key × D)} {kvs : List (Key × V)} (k : Kept φ H φ' H') (q : KvIs G φ H kds kvs) : KvIs G φ' H' kds kvs := ⟨q.1, q.2.kept k⟩
def PostDc (G : Glb) (φ1 : Fi) (H1 : Hp) (D0 : Addr) (r : Option (Kds × Store)) (Q : Hp → Prop) : Prop := match r with
  | some (kds, S) => ∀ φ' H' kvs, Lk φ1 H1 D0 φ' H' → SOk G φ' S H' → H' D0 = some (.dK kvs) → KvIs G φ' H' kds kvs → Q H'
  | none => False
theorem dc_loop {J : It} {g : TG} {tt : TT} {tk tv : TE} {b : D → EnvD → Option EnvD} {ft fk fe : EM} {vs ws : List Nat} {σ : L2.St} {env : EnvD} {φ1 : Fi} {H1 : Hp} {S1 : Store} {ds : List D} {D0 : Addr} {Qd : Hp → Prop} {WB WB' WB2 : WX}
    (qg : ∀ v d σ H env env' φ Q, Is G φ H d v → RepE G φ H σ env → b d env = some env' → (∀ σ', RepE G φ H σ' env' → Off vs σ σ' → Q σ' H) → g v σ H Q)
    (qt : ∀ σ H env φ S Q, SOk G φ S H → RepE G φ H σ env → PostT G WB φ H σ (ft env S) Q → tt σ H Q)
    (qk : ∀ σ H env φ S Q, SOk G φ S H → RepE G φ H σ env → PostE G WB2 φ H σ (fk env S) Q → tk σ H Q)
    (qe : ∀ σ H env φ S Q, SOk G φ S H → RepE G φ H σ env → PostE G WB' φ H σ (fe env S) Q → tv σ H Q)
    (hs : ∀ j ∈ vs, j ∈ ws) (s1 : SOk G φ1 S1 H1) (re : RepE G φ1 H1 σ env) (fd : Feeds G φ1 H1 J ds) (hD : H1 D0 = none)
    (h : PostDc G φ1 H1 D0 (dcD b ft fk fe (wipeD env ws) [] ds S1) Qd) :
    ∃ Wt : Nat → Nat → Hp → Prop, (∃ m, Wt 0 m (upd H1 D0 (.dK []))) ∧ ∀ i m H, Wt i m H →
      (J.stop i H ∧ Qd H) ∨ (J.go i H ∧ ∃ Nx : Hp → Prop, (∀ H', Nx H' → ∃ m', m' < m ∧ Wt (i + 1) m' H') ∧ ∀ x H', J.yld i H x H' → g x (wipe σ ws) H' fun σ2 H2 => wipe σ2 ws = wipe σ ws ∧ tt σ2 H2 fun b H3 =>
        if b = true then tk σ2 H3 fun y H4 => tv σ2 H4 fun z H5 => ∃ kvs k, y = kV k ∧ H5 D0 = some (.dK kvs) ∧ kvs.length < sizeLine ∧ Nx (upd H5 D0 (.dK (putK kvs k z))) else Nx H3) := by
  let Go : Nat → Hp → Prop := fun i H2 => i ≤ ds.length ∧ ∃ φ2 S2 kds kvs, Kept φ1 H1 φ2 H2 ∧ Lk φ1 H1 D0 φ2 H2 ∧ SOk G φ2 S2 H2 ∧ H2 D0 = some (.dK kvs) ∧ KvIs G φ2 H2 kds kvs ∧ PostDc G φ1 H1 D0 (dcD b ft fk fe (wipeD env ws) kds (ds.drop i) S2) Qd
  refine ⟨fun i m H2 => m = ds.length - i ∧ Go i H2, ⟨ds.length, by simp, Nat.zero_le _, φ1.hide D0, S1, [], [], Kept.hide hD, .start hD, s1.hide hD, upd_same, ⟨rfl, rfl⟩, h⟩, ?_⟩
  rintro i m H2 ⟨rfl, hi, φ2, S2, kds, kvs, k2, l2, s2, hacc, il, h2⟩
  by_cases hl : i < ds.length
  · right
    have hd : ds[i]? = some ds[i] := List.getElem?_eq_getElem hl
    obtain ⟨go, gy⟩ := fd.go φ2 S2 H2 i ds[i] k2 s2 hd
    rw [List.drop_eq_getElem_cons hl] at h2
    refine ⟨go, Go (i + 1), fun H' w => ⟨ds.length - (i + 1), by omega, rfl, w⟩, fun x H' hy => ?_⟩
    obtain ⟨e3, s3, k3⟩ := gy x H' hy
    have nc : D0 ∉ φ2.c := (s2.hid D0 l2.mem).1
    have r3 : RepE G φ2 H' (wipe σ ws) (wipeD env ws) := ((re.wipe ws).kept k2).ext e3
    unfold dcD at h2
    cases hb1 : b ds[i] (wipeD env ws) with
    | none => rw [hb1] at h2; exact False.elim h2
    | some env3 =>
      rw [hb1] at h2
      dsimp only at h2
      refine qg x ds[i] _ H' _ env3 φ2 _ k3 r3 hb1 fun σ3 r4 o3 => ⟨wipe_off hs o3, ?_⟩
      refine qt σ3 H' env3 φ2 S2 _ s3 r4 ?_
      cases ht : ft env3 S2 with
      | bad => rw [ht] at h2; exact False.elim h2
      | ex x S3 => rw [ht] at h2; exact False.elim h2
      | ok d S3 =>
        rw [ht] at h2
        cases d with
        | bl k =>
          intro φ4 H4 v e4 s4 i4 b' eb
          cases (show v = .bl k from i4)
          cases eb
          have e24 := e3.trans e4
          cases k with
          | false =>
            exact iteF ⟨by omega, φ4, S3, kds, kvs, k2.trans e24.kept, l2.ext' e24, s4, e24.keepH nc hacc l2.mem, il.ext e24, h2⟩
          | true =>
            refine iteT (qk σ3 H4 env3 φ4 S3 _ s4 (r4.ext e4) ?_)
            dsimp only at h2
            cases hk : fk env3 S3 with
            | bad => rw [hk] at h2; exact False.elim h2
            | ex x S5 => rw [hk] at h2; exact False.elim h2
            | ok kd S5 =>
              rw [hk] at h2
              dsimp only at h2
              intro φ5 H5 v5 e5 s5 i5
              refine qe σ3 H5 env3 φ5 S5 _ s5 ((r4.ext e4).ext e5) ?_
              cases he : fe env3 S5 with
              | bad => rw [he] at h2; exact False.elim h2
              | ex x S6 => rw [he] at h2; exact False.elim h2
              | ok y S6 =>
                rw [he] at h2
                dsimp only at h2
                cases hkd : keyD kd with
                | none => rw [hkd] at h2; exact False.elim h2
                | some k =>
                  rw [hkd] at h2
                  dsimp only at h2
                  by_cases hz : sz (kds.length + 1)
                  · rw [if_pos hz] at h2
                    intro φ6 H6 v6 e6 s6 i6
                    have e26 := (e24.trans e5).trans e6
                    have l6 := l2.ext' e26
                    have q6 := il.ext e26
                    have kh : Kept φ6 H6 φ6 (upd H6 D0 (.dK (putK kvs k v6))) := .hidden l6.mem
                    exact ⟨kvs, k, keyD_is i5 hkd, e26.keepH nc hacc l2.mem, by rw [← KvIs.length il, sizeLine_eq]; exact hz, by omega, φ6, S6, putD kds k y, putK kvs k v6, (k2.trans e26.kept).trans kh, l6.put hD, s6.hidden l6.mem, upd_same, (put_is q6 i6 k).kept kh, h2⟩
                  · rw [if_neg hz] at h2; exact False.elim h2
        | _ => exact False.elim h2
  · left
    have e : i = ds.length := by omega
    subst e
    rw [List.drop_length] at h2
    exact ⟨fd.stop φ2 S2 H2 k2 s2, h2 φ2 H2 kvs l2 s2 hacc il⟩
/-- the finished dict is no more hidden -/
theorem Lk.doneD {φ1 φ2 : Fi} {H1 H2 : Hp} {D0 : Addr} {S S0 : Store} {kds : List (Key × D)} {kvs : List (Key × V)} (l : Lk φ1 H1 D0 φ2 H2) (s1 : SOk G φ1 S0 H1) (hD : H1 D0 = none) (s : SOk G φ2 S H2) (hx : H2 D0 = some (.dK kvs)) (il : KvIs G φ2 H2 kds kvs) :
    SOk G ⟨φ2.c, φ1.h⟩ S H2 ∧ Is G ⟨φ2.c, φ1.h⟩ H2 (.dic (kds.map (·.1)) (kds.map (·.2))) (.ref D0) := by
  have e : φ2 = (Fi.mk φ2.c φ1.h).hide D0 := by
    obtain ⟨c, h⟩ := φ2
    have := l.hid
    simp only at this
    subst this
    rfl
  have nc : D0 ∉ φ2.c := (s.hid D0 l.mem).1
  rw [e] at s il
  exact ⟨s.show_, D0, kvs, rfl, ⟨⟨nc, s1.freshh hD⟩, .inl hx⟩, il.1, il.2.kept Kept.show_⟩
theorem Lk.doneDM {φ1 φ2 : Fi} {H1 H2 : Hp} {D0 : Addr} {S S0 : Store} {kds : List (Key × D)} {kvs : List (Key × V)} (l : Lk φ1 H1 D0 φ2 H2) (s1 : SOk G φ1 S0 H1) (hD : H1 D0 = none) (s : SOk G φ2 S H2) (hx : H2 D0 = some (.dK kvs)) (il : KvIs G φ2 H2 kds kvs) :
    Ext φ1 H1 ⟨φ2.c ++ [D0], φ1.h⟩ H2 ∧ SOk G ⟨φ2.c ++ [D0], φ1.h⟩ (S ++ [.dic kds]) H2 := by
  have nc : D0 ∉ φ2.c := (s.hid D0 l.mem).1
  have k : Kept φ2 H2 ⟨φ2.c ++ [D0], φ1.h⟩ H2 := by
    have no : ∀ {a : Addr}, φ2.out a → (Fi.mk (φ2.c ++ [D0]) φ1.h).out a := fun {a} n => by
      obtain ⟨n1, n2⟩ := n
      rw [l.hid] at n2
      refine ⟨fun z => (List.mem_append.mp z).elim n1 fun z => n2 ?_, fun z => n2 (List.mem_cons_of_mem _ z)⟩
      simp at z; subst z; exact List.mem_cons_self
    exact ⟨fun i a q => by rw [List.getElem?_append_left (List.getElem?_eq_some_iff.mp q).1]; exact q, fun a u n r => ⟨no n, r⟩, fun a C dx fs n r => ⟨no n, r⟩, fun a o u n r => ⟨no n, r⟩, fun a u n r => ⟨no n, r⟩, fun a u n r => ⟨no n, r⟩⟩
  constructor
  · obtain ⟨ψ, e1, p⟩ := l.ext.pre
    have e1' : φ2.c = φ1.c ++ ψ := e1
    refine ⟨⟨ψ ++ [D0], by show φ2.c ++ [D0] = _; rw [e1', List.append_assoc], fun a ha => ?_⟩, rfl, l.ext.keep⟩
    rcases List.mem_append.mp ha with ha | ha
    · exact p a ha
    · simp at ha; subst ha; exact ⟨s1.freshc hD, hD⟩
  · refine ⟨by simp [s.len], ?_, fun a ha => ?_, fun i c hc => ?_⟩
    · refine List.nodup_append.mpr ⟨s.nd, by simp, fun x hm y hy => ?_⟩
      simp at hy; subst hy
      intro e; subst e; exact nc hm
    · obtain ⟨n, q⟩ := s.hid a (by rw [l.hid]; exact List.mem_cons_of_mem _ ha)
      refine ⟨fun z => (List.mem_append.mp z).elim n fun z => ?_, q⟩
      simp at z; subst z
      exact s1.freshh hD ha
    · by_cases q : i < S.length
      · rw [List.getElem?_append_left q] at hc
        obtain ⟨a, ha, kc⟩ := s.cell i c hc
        exact ⟨a, k.get _ _ ha, kc.move k rfl⟩
      · rw [List.getElem?_append_right (Nat.le_of_not_lt q)] at hc
        have e : i = S.length := by
          have := (List.getElem?_eq_some_iff.mp hc).1
          simp at this; omega
        subst e
        simp at hc; subst hc
        exact ⟨D0, by show (φ2.c ++ [D0])[S.length]? = _; rw [← s.len]; simp, kvs, hx, il.1, il.2.kept k⟩
section
variable {kx vx tg iter : Expr} {ifs : List Expr} {scope : Scope} {own : List (PySem.Str × Nat)} {pos : Pos} {f : LM} {b : D → EnvD → Option EnvD} {ft fk fe : EM} {vs : List Nat}
theorem de_dc (hc : X.calm = true) (hN : X.N.Nodup) (hi : DI G X W tg iter f) (ok : BlkOk X.N X.env.scope scope own)
    (hg : ∀ (s : Shared) (H : Hp) (C : Addr) (cl : List (PySem.Str × Addr)) (fp : List Addr), DG G (X.blk s H scope (compEnvC scope cl C X.env) fp) tg b vs)
    (ht : ∀ (s : Shared) (H : Hp) (C : Addr) (cl : List (PySem.Str × Addr)) (fp : List Addr), DTs G (X.blk s H scope (compEnvC scope cl C X.env) fp) W0 ifs ft)
    (hk : ∀ (s : Shared) (H : Hp) (C : Addr) (cl : List (PySem.Str × Addr)) (fp : List Addr), DE G (X.blk s H scope (compEnvC scope cl C X.env) fp) W0 kx fk)
    (he : ∀ (s : Shared) (H : Hp) (C : Addr) (cl : List (PySem.Str × Addr)) (fp : List Addr), DE G (X.blk s H scope (compEnvC scope cl C X.env) fp) W0 vx fe)
    (hvs : ∀ j ∈ vs, j ∈ own.map (·.2)) (hs : ∀ x, foldedSetIterable iter X.env x = pure x := by intro _; rfl) : DE G X W (.DictComp kx vx [⟨tg, iter, ifs, 0⟩] scope pos) (eDc f b ft fk fe (own.map (·.2))) := by
  obtain ⟨wi, pI, qi⟩ := hi
  refine ⟨_, pe_dc hc hN pI ok (fun s H C cl fp => (hg s H C cl fp).can) (fun s H C cl fp => (ht s H C cl fp).can) (fun s H C cl fp => (hk s H C cl fp).can) (fun s H C cl fp => (he s H C cl fp).can) hs, fun σ H env φ S Q s re h => ?_⟩
  refine qi σ H env φ S _ s re (PostI.ofE h fun ds S1 φ1 H1 J e1 s1 fd h1 D0 hD => ?_)
  refine dc_loop (env := env) (fun v d σ H env env' φ Q i r z k => ⟨d, env, env', φ, i, r, z, k⟩) (fun σ H env φ S Q s r z => ⟨env, φ, S, s, r, z⟩) (fun σ H env φ S Q s r z => ⟨env, φ, S, s, r, z⟩) (fun σ H env φ S Q s r z => ⟨env, φ, S, s, r, z⟩) hvs s1 (re.ext e1) fd hD ?_
  cases hr : dcD b ft fk fe (wipeD env (own.map (·.2))) [] ds S1 with
  | some p =>
    obtain ⟨kds, S2⟩ := p
    rw [hr] at h1
    intro φ2 H2 xs l2 s2 hx il
    obtain ⟨s3, i3⟩ := l2.doneD s1 hD s2 hx il
    exact h1 _ H2 _ l2.ext s3 i3
  | none => rw [hr] at h1; exact h1
end

/-! ### a dict comprehension bound to a local name -/
theorem sw_trueD {kx vx : Expr} {gs : List Comprehension} {scope : Scope} {pos py : Pos} {y : PySem.Str} {l : Nat} {env : Env} (hk : env.scope.kind = .function) (hy : env.scope.names.lookup y = some .local) (hl : (py.line == pos.line) = true)
    (ha : (scope.names.any fun (n, k) => n == y && (k == .local || k == .cell)) = false) : swapsWith (.DictComp kx vx gs scope pos) (some (.Name y py)) l env = pure true := by
  have ky : env.kindOf y = some .local := hy
  have hb : env.blockKind = .function := by unfold Env.blockKind; rw [hk]; rfl
  unfold swapsWith
  simp only [hb, ky, ha, Expr.pos, hl]
  rfl
theorem ps_setDc {i : Nat} {y : PySem.Str} {py : Pos} {kx vx tg iter : Expr} {ifs : List Expr} {scope : Scope} {own : List (PySem.Str × Nat)} {pos spos : Pos} {wi : TI} {g : TG} {tt : TT} {tk tv : TE} (hc : X.calm = true) (hN : X.N.Nodup) (hy : X.N[i]? = some y) (hyl : X.env.scope.names.lookup y = some .local)
    (hsw : swapsWith (.DictComp kx vx [⟨tg, iter, ifs, 0⟩] scope pos) (some (.Name y py)) spos.line X.env = pure true) (hi : PI X tg iter wi) (ok : BlkOk X.N X.env.scope scope own)
    (hg : ∀ (s : Shared) (H : Hp) (C : Addr) (cl : List (PySem.Str × Addr)) (fp : List Addr), PG (X.blk s H scope (compEnvC scope cl C X.env) fp) tg g) (ht : ∀ (s : Shared) (H : Hp) (C : Addr) (cl : List (PySem.Str × Addr)) (fp : List Addr), PTs (X.blk s H scope (compEnvC scope cl C X.env) fp) ifs tt)
    (hk : ∀ (s : Shared) (H : Hp) (C : Addr) (cl : List (PySem.Str × Addr)) (fp : List Addr), PE (X.blk s H scope (compEnvC scope cl C X.env) fp) kx tk)
    (he : ∀ (s : Shared) (H : Hp) (C : Addr) (cl : List (PySem.Str × Addr)) (fp : List Addr), PE (X.blk s H scope (compEnvC scope cl C X.env) fp) vx tv) (hs : ∀ x, foldedSetIterable iter X.env x = pure x := by intro _; rfl) :
    PS X (.Assign [.Name y py] (.DictComp kx vx [⟨tg, iter, ifs, 0⟩] scope pos) spos) (tAsg (tDc wi g tt tk tv (own.map (·.2))) (gName i)) := by
  refine ⟨fun pins s σ H D I h => ?_⟩
  rw [exec_Assign_Name_used _ _ _ _ hsw]
  refine wpAny_bind (wpAny_standAt (wpAny_bind ?_))
  show wpAny _ X.A (do let _ ← comprehension (.DictComp kx vx [⟨tg, iter, ifs, 0⟩] scope pos) scope X.env (firstIterPos [⟨tg, iter, ifs, 0⟩] pos) newDict false (eval iter X.env) (some (assign (.Name y py) X.env))) _ _ s
  have h : tDc wi g tt tk tv (own.map (·.2)) σ H (fun x H1 => gName i x σ H1 D.nx) := h
  refine wpAny_bind (thn (dc_core (Qf := fun _ s' => SP X pins D .next s') hc hN I hi ok hg ht hk he hs h fun L C s' m H' I' q hn f => ?_) fun _ s' hq => wpAny_pure (wpAny_pure hq))
  show wpAny _ _ (assign (.Name y py) X.env (.ref L)) _ _ _
  refine wpAny_assign_Name (store_ok2 (v := V.ref L) I' hN hy (.inl hyl) rfl (fun s2 I2 ⟨a, sb, ha⟩ => ?_) (.inr hyl))
  obtain ⟨f0, f1, f2, f3, f4, f5⟩ := f
  have haC : C ≠ a := by
    rcases ha with z | z
    · rw [z]; exact f1
    · exact fun e => f4 y a z e.symm
  refine ⟨m, hn.sameBut sb haC, fun h3 sb3 => ?_⟩
  exact ⟨_, H', I2.turned (t' := s2.toks) (fun b o hb e => (sb3.2 b hb).trans e) f0 f1 f3 f4 f5, q⟩
section
variable {kx vx tg iter : Expr} {ifs : List Expr} {scope : Scope} {own : List (PySem.Str × Nat)} {pos : Pos} {f : LM} {b : D → EnvD → Option EnvD} {ft fk fe : EM} {vs : List Nat}
theorem dc_readM {wi : TI} (qi : ∀ σ H env φ S R, SOk G φ S H → RepE G φ H σ env → PostI G W φ H σ (f env S) R → wi σ H R) (hvs : ∀ j ∈ vs, j ∈ own.map (·.2)) {Q : VK}
    {σ : L2.St} {H : Hp} {env : EnvD} {φ : Fi} {S : Store} (s : SOk G φ S H) (re : RepE G φ H σ env) (h : PostE G W φ H σ (eDcM f b ft fk fe (own.map (·.2)) env S) Q) :
    tDc wi (gOf G b vs) (tOfT G W0 ft) (tOf G W0 fk) (tOf G W0 fe) (own.map (·.2)) σ H Q := by
  refine qi σ H env φ S _ s re (PostI.ofE h fun ds S1 φ1 H1 J e1 s1 fd h1 D0 hD => ?_)
  refine dc_loop (env := env) (fun v d σ H env env' φ Q i r z k => ⟨d, env, env', φ, i, r, z, k⟩) (fun σ H env φ S Q s r z => ⟨env, φ, S, s, r, z⟩) (fun σ H env φ S Q s r z => ⟨env, φ, S, s, r, z⟩) (fun σ H env φ S Q s r z => ⟨env, φ, S, s, r, z⟩) hvs s1 (re.ext e1) fd hD ?_
  cases hr : dcD b ft fk fe (wipeD env (own.map (·.2))) [] ds S1 with
  | some p =>
    obtain ⟨kds, S2⟩ := p
    rw [hr] at h1
    intro φ2 H2 xs l2 s2 hx il
    obtain ⟨e3, s3⟩ := l2.doneDM s1 hD s2 hx il
    exact h1 _ H2 _ e3 s3 ⟨D0, by show (φ2.c ++ [D0])[S2.length]? = _; rw [← s2.len]; simp, rfl⟩
  | none => rw [hr] at h1; exact h1
theorem ds_setDcM {i : Nat} {y : PySem.Str} {py spos : Pos} (hc : X.calm = true) (hN : X.N.Nodup) (hi : DI G X W tg iter f) (ok : BlkOk X.N X.env.scope scope own)
    (hg : ∀ (s : Shared) (H : Hp) (C : Addr) (cl : List (PySem.Str × Addr)) (fp : List Addr), DG G (X.blk s H scope (compEnvC scope cl C X.env) fp) tg b vs)
    (ht : ∀ (s : Shared) (H : Hp) (C : Addr) (cl : List (PySem.Str × Addr)) (fp : List Addr), DTs G (X.blk s H scope (compEnvC scope cl C X.env) fp) W0 ifs ft)
    (hk : ∀ (s : Shared) (H : Hp) (C : Addr) (cl : List (PySem.Str × Addr)) (fp : List Addr), DE G (X.blk s H scope (compEnvC scope cl C X.env) fp) W0 kx fk)
    (he : ∀ (s : Shared) (H : Hp) (C : Addr) (cl : List (PySem.Str × Addr)) (fp : List Addr), DE G (X.blk s H scope (compEnvC scope cl C X.env) fp) W0 vx fe)
    (hvs : ∀ j ∈ vs, j ∈ own.map (·.2)) (hy : X.N[i]? = some y) (hyl : X.env.scope.names.lookup y = some .local)
    (hsw : swapsWith (.DictComp kx vx [⟨tg, iter, ifs, 0⟩] scope pos) (some (.Name y py)) spos.line X.env = pure true) (hs : ∀ x, foldedSetIterable iter X.env x = pure x := by intro _; rfl) :
    DS G X W (.Assign [.Name y py] (.DictComp kx vx [⟨tg, iter, ifs, 0⟩] scope pos) spos) (sAsg (eDcM f b ft fk fe (own.map (·.2))) (bName i)) := by
  obtain ⟨wi, pI, qi⟩ := hi
  refine ⟨_, ps_setDc hc hN hy hyl hsw pI ok (fun s H C cl fp => (hg s H C cl fp).can) (fun s H C cl fp => (ht s H C cl fp).can) (fun s H C cl fp => (hk s H C cl fp).can) (fun s H C cl fp => (he s H C cl fp).can) hs, fun σ H env φ S N s re h => ?_⟩
  exact dc_readM qi hvs s re (PostE.bindS re h fun d S1 φ1 H1 v e1 s1 i1 h1 => h1 φ1 H1 _ .refl s1 ((re.ext e1).set i1 i))
end
section
variable {env : EnvD} {S : Store}
@[simp] theorem eDc_is {f : LM} {b : D → EnvD → Option EnvD} {tt ek ev : EM} {vs : List Nat} : eDc f b tt ek ev vs env S = (f env S).bindE fun ds S => match dcD b tt ek ev (wipeD env vs) [] ds S with
  | some (acc, S) => .ok (.dic (acc.map (·.1)) (acc.map (·.2))) S
  | none => .bad := rfl
@[simp] theorem eDcM_is {f : LM} {b : D → EnvD → Option EnvD} {tt ek ev : EM} {vs : List Nat} : eDcM f b tt ek ev vs env S = (f env S).bindE fun ds S => match dcD b tt ek ev (wipeD env vs) [] ds S with
  | some (acc, S) => .ok (.loc S.length) (S ++ [.dic acc])
  | none => .bad := rfl
end

/-! ### two fors in a list comprehension -/
def iOf (G : Glb) (f : LM) : TI := fun σ H R => ∃ env φ S, SOk G φ S H ∧ RepE G φ H σ env ∧ PostI G W0 φ H σ (f env S) R
theorem DI.can {tg e : Expr} {f : LM} (h : DI G X W0 tg e f) : PI X tg e (iOf G f) := by
  obtain ⟨t, p, q⟩ := h
  exact ⟨fun pins s σ H R I ⟨env, φ, S, so, r, z⟩ => p.run pins s σ H R I (q σ H env φ S R so r z)⟩
noncomputable def lc2D (b : D → EnvD → Option EnvD) (tt : EM) (f1 : LM) (b1 : D → EnvD → Option EnvD) (tt1 elt : EM) (vs1 : List Nat) (env : EnvD) : List D → List D → Store → LR
  | acc, [], S => .ok acc S
  | acc, d :: ds, S => match b d env with
    | none => .bad
    | some e1 => match tt e1 S with
      | .ok (.bl true) S1 => match f1 e1 S1 with
        | .ok ds1 S2 => match lcD b1 tt1 elt (wipeD e1 vs1) acc ds1 S2 with
          | .ok acc' S3 => lc2D b tt f1 b1 tt1 elt vs1 env acc' ds S3
          | _ => .bad
        | _ => .bad
      | .ok (.bl false) S1 => lc2D b tt f1 b1 tt1 elt vs1 env acc ds S1
      | _ => .bad
noncomputable def eLc2 (f : LM) (b : D → EnvD → Option EnvD) (tt : EM) (f1 : LM) (b1 : D → EnvD → Option EnvD) (tt1 elt : EM) (vs1 vs : List Nat) : EM := fun env S => (f env S).bindE fun ds S => (lc2D b tt f1 b1 tt1 elt vs1 (wipeD env vs) [] ds S).bindE fun ys S => .ok (.lst ys) S
noncomputable def eLc2M (f : LM) (b : D → EnvD → Option EnvD) (tt : EM) (f1 : LM) (b1 : D → EnvD → Option EnvD) (tt1 elt : EM) (vs1 vs : List Nat) : EM := fun env S => (f env S).bindE fun ds S => (lc2D b tt f1 b1 tt1 elt vs1 (wipeD env vs) [] ds S).bindE fun ys S => .ok (.loc S.length) (S ++ [.lst ys])
section
variable {elt tg iter tg1 iter1 : Expr} {ifs ifs1 : List Expr} {scope : Scope} {own : List (PySem.Str × Nat)} {pos : Pos} {f f1 : LM} {b b1 : D → EnvD → Option EnvD} {ft ft1 fe : EM} {vs vs1 ws1 : List Nat}
end
section
variable {env : EnvD} {S : Store}
@[simp] theorem eLc2_is {f f1 : LM} {b b1 : D → EnvD → Option EnvD} {tt tt1 elt : EM} {vs1 vs : List Nat} : eLc2 f b tt f1 b1 tt1 elt vs1 vs env S = (f env S).bindE fun ds S => (lc2D b tt f1 b1 tt1 elt vs1 (wipeD env vs) [] ds S).bindE fun ys S => .ok (.lst ys) S := rfl
@[simp] theorem eLc2M_is {f f1 : LM} {b b1 : D → EnvD → Option EnvD} {tt tt1 elt : EM} {vs1 vs : List Nat} : eLc2M f b tt f1 b1 tt1 elt vs1 vs env S = (f env S).bindE fun ds S => (lc2D b tt f1 b1 tt1 elt vs1 (wipeD env vs) [] ds S).bindE fun ys S => .ok (.loc S.length) (S ++ [.lst ys]) := rfl
end
end DL
end
section
/-! list(d.values()), sorted(d.values()). -/
namespace L2
open PySem PySem.Spec PyProof.Rows
section
variable {X : Cx} {e : Expr} {te : TE} {p apos cpos pos : Pos}
end
end L2
end
section
/-! D-layer, part 14: dicts as arguments: list(d.values()), sorted(d.values()), sorted(d), dict(pairs). -/
namespace DL
open PySem L2
variable {G : Glb} {X : Cx} {W : WX}
def eListVals (f : EM) : EM := fun env S => (f env S).bind fun d S => match d with
  | .dic _ ds => .ok (.lst ds) S
  | _ => .bad
def eSortVals (f : EM) : EM := fun env S => (f env S).bind fun d S => match d with
  | .dic _ ds => match intsD ds with
    | some ns => if ns.length < 64 then .ok (.lst ((sortI ns).map .int)) S else .bad
    | none => .bad
  | _ => .bad
/-- a dict's keys, whole numbers -/
def intKeys : List (Key × D) → Option (List Int)
  | [] => some []
  | (.inl i, _) :: r => (intKeys r).map (i :: ·)
  | (.inr _, _) :: _ => none
theorem intKeys_is : ∀ {kds : List (Key × D)} {ns : List Int}, intKeys kds = some ns → kds.map (·.1) = ns.map Sum.inl
  | [], ns, h => by cases h; rfl
  | (.inl i, d) :: r, ns, h => by
    obtain ⟨m, h1, h2⟩ := Option.map_eq_some_iff.mp (show (intKeys r).map (i :: ·) = some ns from h)
    subst h2
    simp [intKeys_is h1]
  | (.inr _, _) :: _, _, h => by cases h
def bSortedX (ds : List D) (S : Store) : ER := match ds with
  | [d] => match dicD S d with
    | some kds => match intKeys kds with
      | some ns => if ns.length < 64 then .ok (.lst ((sortI ns).map .int)) S else .bad
      | none => .bad
    | none => bSorted [d] S
  | _ => .bad
theorem dc_sortedX (hc : X.calm = true) (hK : X.K = G.K) : DCall G X (.builtin "sorted") bSortedX := by
  obtain ⟨r, hr, q⟩ := dc_sorted (G := G) (X := X) hK
  refine ⟨_, hr.or (call_sortedDI hc), fun W φ S H σ ds xs Q s i h => ?_⟩
  unfold bSortedX at h
  split at h
  · split at h
    · rename_i d kds e
      obtain ⟨x, rfl, k⟩ := IsL.inv1 i
      obtain ⟨a, kvs, rfl, r, kv⟩ := dicD_is s k e
      split at h
      · rename_i ns en
        split at h
        · rename_i h64
          refine .inr ⟨a, kvs, ns, rfl, r, by rw [kv.1]; exact intKeys_is en, h64, fun ys p hp hw hn => ?_⟩
          rw [sorted_uniq (hp.trans (sortI_perm ns).symm) hw (sortI_pw ns)]
          exact lst_new s IsL.of_ints h hn
        · exact bad_no h
      · exact bad_no h
    · exact .inl (q W φ S H σ _ xs Q s i h)
  · exact bad_no h
/-- pairs, the first a key -/
def pairsD : List D → Option Kds
  | [] => some []
  | .tup [a, b] :: r => (keyD a).bind fun k => (pairsD r).map ((k, b) :: ·)
  | _ :: _ => none
def mergeD (kds more : Kds) : Kds := more.foldl (fun acc kv => putD acc kv.1 kv.2) kds
def bDictX (ds : List D) (S : Store) : ER := match ds with
  | [.lst es] => match pairsD es with
    | some kds => .ok (.dic ((mergeD [] kds).map (·.1)) ((mergeD [] kds).map (·.2))) S
    | none => .bad
  | ds => bDict ds S
section
variable {env : EnvD} {S : Store}
@[simp] theorem eListVals_is {f : EM} : eListVals f env S = (f env S).bind fun d S => match d with
  | .dic _ ds => .ok (.lst ds) S
  | _ => .bad := rfl
@[simp] theorem eSortVals_is {f : EM} : eSortVals f env S = (f env S).bind fun d S => match d with
  | .dic _ ds => match intsD ds with
    | some ns => if ns.length < 64 then .ok (.lst ((sortI ns).map .int)) S else .bad
    | none => .bad
  | _ => .bad := rfl
@[simp] theorem bSortedX_dic {ks : List Key} {ds : List D} : bSortedX [.dic ks ds] S = match intKeys (ks.zip ds) with
      | some ns => if ns.length < 64 then .ok (.lst ((sortI ns).map .int)) S else .bad
      | none => .bad := rfl
@[simp] theorem bSortedX_lst {ds : List D} : bSortedX [.lst ds] S = bSorted [.lst ds] S := rfl
@[simp] theorem bDictX_lst {es : List D} : bDictX [.lst es] S = match pairsD es with
    | some kds => .ok (.dic ((mergeD [] kds).map (·.1)) ((mergeD [] kds).map (·.2))) S
    | none => .bad := rfl
@[simp] theorem bDictX_dic {ks : List Key} {ds : List D} : bDictX [.dic ks ds] S = bDict [.dic ks ds] S := rfl
@[simp] theorem bDictX_loc {l : Nat} : bDictX [.loc l] S = bDict [.loc l] S := rfl
end
end DL
end
section
/-! D-layer, part 15: loops and comprehensions over a list that is a cell (it stays as it is while it is walked). -/
namespace DL
open PySem L2
variable {G : Glb} {X : Cx} {W : WX}
/-- the items of a list, a tuple, a list's cell; the cell that must stay -/
def itemsS (d : D) (S : Store) : Option (Option Nat × List D) := match d with
  | .lst ds => some (none, ds)
  | .tup ds => some (none, ds)
  | .loc l => match S[l]? with
    | some (.lst ds) => some (some l, ds)
    | _ => none
  | _ => none
def okW (w : Option Nat) (ds : List D) (S : Store) : Prop := match w with
  | none => True
  | some l => S[l]? = some (.lst ds)
structure FeedsX (G : Glb) (φ0 : Fi) (H0 : Hp) (J : It) (w : Option Nat) (ds : List D) : Prop where
  go : ∀ φ S H (i : Nat) d, Kept φ0 H0 φ H → SOk G φ S H → okW w ds S → ds[i]? = some d → J.go i H ∧ ∀ x H', J.yld i H x H' → Ext φ H φ H' ∧ SOk G φ S H' ∧ Is G φ H' d x
  stop : ∀ φ S H, Kept φ0 H0 φ H → SOk G φ S H → okW w ds S → J.stop ds.length H
open Classical in
noncomputable def forDX (w : Option Nat) (ds0 : List D) (b : D → EnvD → Option EnvD) (body : SM) : List D → SM
  | [], e, S => if okW w ds0 S then .nx e S else .bad
  | d :: ds, e, S => if okW w ds0 S then (match b d e with
    | none => .bad
    | some e1 => match body e1 S with
      | .nx e2 S2 => forDX w ds0 b body ds e2 S2
      | .ct e2 S2 => forDX w ds0 b body ds e2 S2
      | .bk e2 S2 => .nx e2 S2
      | .rt d S2 => .rt d S2
      | .ex x e2 S2 => .ex x e2 S2
      | .bad => .bad) else .bad
theorem forDX_none {ds0 : List D} {b : D → EnvD → Option EnvD} {body : SM} : ∀ {ds : List D} {e : EnvD} {S : Store}, forDX none ds0 b body ds e S = forD b body ds e S
  | [], e, S => by unfold forDX forD; rw [if_pos (show okW none ds0 S from trivial)]
  | d :: ds, e, S => by
    unfold forDX forD
    rw [if_pos (show okW none ds0 S from trivial)]
    cases b d e with
    | none => rfl
    | some e1 =>
      dsimp only
      cases body e1 S <;> first | rfl | exact forDX_none
noncomputable def sForX (f : EM) (b : D → EnvD → Option EnvD) (body : SM) : SM := fun e S => (f e S).bindS e fun d S => match itemsS d S with
  | some (w, ds) => forDX w ds b body ds e S
  | none => .bad
/-! ### comprehensions -/
open Classical in
noncomputable def lcDX (w : Option Nat) (ds0 : List D) (b : D → EnvD → Option EnvD) (tt elt : EM) (env : EnvD) : List D → List D → Store → LR
  | acc, [], S => if okW w ds0 S then .ok acc S else .bad
  | acc, d :: ds, S => if okW w ds0 S then (match b d env with
    | none => .bad
    | some e1 => match tt e1 S with
      | .ok (.bl true) S1 => match elt e1 S1 with
        | .ok y S2 => if sz (acc.length + 1) then lcDX w ds0 b tt elt env (acc ++ [y]) ds S2 else .bad
        | _ => .bad
      | .ok (.bl false) S1 => lcDX w ds0 b tt elt env acc ds S1
      | _ => .bad) else .bad
theorem lcDX_none {ds0 : List D} {b : D → EnvD → Option EnvD} {tt elt : EM} {env : EnvD} : ∀ {ds acc : List D} {S : Store}, lcDX none ds0 b tt elt env acc ds S = lcD b tt elt env acc ds S
  | [], acc, S => by unfold lcDX lcD; rw [if_pos (show okW none ds0 S from trivial)]
  | d :: ds, acc, S => by
    unfold lcDX lcD
    rw [if_pos (show okW none ds0 S from trivial)]
    cases b d env with
    | none => rfl
    | some e1 =>
      dsimp only
      cases tt e1 S with
      | ok k S1 =>
        cases k with
        | bl k =>
          cases k with
          | false => exact lcDX_none
          | true =>
            dsimp only
            cases elt e1 S1 with
            | ok y S2 =>
              dsimp only
              by_cases hz : sz (acc.length + 1)
              · rw [if_pos hz, if_pos hz]; exact lcDX_none
              · rw [if_neg hz, if_neg hz]
            | _ => rfl
        | _ => rfl
      | _ => rfl
noncomputable def eLcX (f : EM) (b : D → EnvD → Option EnvD) (tt elt : EM) (vs : List Nat) : EM := fun env S => (f env S).bind fun d S => match itemsS d S with
  | some (w, ds) => (lcDX w ds b tt elt (wipeD env vs) [] ds S).bindE fun ys S => .ok (.lst ys) S
  | none => .bad
noncomputable def eLcXM (f : EM) (b : D → EnvD → Option EnvD) (tt elt : EM) (vs : List Nat) : EM := fun env S => (f env S).bind fun d S => match itemsS d S with
  | some (w, ds) => (lcDX w ds b tt elt (wipeD env vs) [] ds S).bindE fun ys S => .ok (.loc S.length) (S ++ [.lst ys])
  | none => .bad
section
variable {elt tg iter : Expr} {ifs : List Expr} {scope : Scope} {own : List (PySem.Str × Nat)} {pos : Pos} {f : EM} {b : D → EnvD → Option EnvD} {ft fe : EM} {vs : List Nat}
end
section
variable {env : EnvD} {S : Store}
@[simp] theorem sForX_is {f : EM} {b : D → EnvD → Option EnvD} {body : SM} : sForX f b body env S = (f env S).bindS env fun d S => match itemsS d S with
  | some (w, ds) => forDX w ds b body ds env S
  | none => .bad := rfl
@[simp] theorem eLcX_is {f : EM} {b : D → EnvD → Option EnvD} {tt elt : EM} {vs : List Nat} : eLcX f b tt elt vs env S = (f env S).bind fun d S => match itemsS d S with
  | some (w, ds) => (lcDX w ds b tt elt (wipeD env vs) [] ds S).bindE fun ys S => .ok (.lst ys) S
  | none => .bad := rfl
@[simp] theorem eLcXM_is {f : EM} {b : D → EnvD → Option EnvD} {tt elt : EM} {vs : List Nat} : eLcXM f b tt elt vs env S = (f env S).bind fun d S => match itemsS d S with
  | some (w, ds) => (lcDX w ds b tt elt (wipeD env vs) [] ds S).bindE fun ys S => .ok (.loc S.length) (S ++ [.lst ys])
  | none => .bad := rfl
@[simp] theorem itemsS_lst {ds : List D} : itemsS (.lst ds) S = some (none, ds) := rfl
@[simp] theorem itemsS_tup {ds : List D} : itemsS (.tup ds) S = some (none, ds) := rfl
@[simp] theorem itemsS_loc {l : Nat} : itemsS (.loc l) S = match cel S l with
    | some (.lst ds) => some (some l, ds)
    | _ => none := rfl
@[simp] theorem forDX_none' {ds0 ds : List D} {b : D → EnvD → Option EnvD} {body : SM} {e : EnvD} : forDX none ds0 b body ds e S = forD b body ds e S := forDX_none
@[simp] theorem lcDX_none' {ds0 ds acc : List D} {b : D → EnvD → Option EnvD} {tt elt : EM} : lcDX none ds0 b tt elt env acc ds S = lcD b tt elt env acc ds S := lcDX_none
end
end DL
end
section
/-! D-layer, part 16: *a, b = list; d[i], d[j] = x, y. -/
namespace L2
open PySem PySem.Spec PySem.Calls PyProof.Rows PySem.W
section
variable {prog : Program} {w : World} {A : Around} {E : Value → Shared → Prop} {s : Shared}
end
section
variable {X : Cx} {pos : Pos}
theorem Paired.snoc {xs : List V} {x : V} {its : List Value} (r : Vals (xs ++ [x]) its) : ∃ us u, its = us ++ [u] ∧ Vals xs us ∧ RelV x u := by
  induction xs generalizing its with
  | nil =>
    cases r with
    | cons r t => cases t; exact ⟨[], _, rfl, .nil, r⟩
  | cons y ys ih =>
    cases r with
    | cons r t =>
      obtain ⟨us, u, rfl, a, b⟩ := ih t
      exact ⟨_ :: us, u, rfl, .cons r a, b⟩
end
end L2
namespace DL
open PySem L2
variable {G : Glb} {X : Cx} {W : WX}
/-- *a, b = a list -/
def sStar (i j : Nat) (f : EM) : SM := fun e S => (f e S).bindS e fun d S => match listD S d with
  | some ds => match ds.getLast? with
    | some x => .nx ((e.set i (some (.lst ds.dropLast))).set j (some x)) S
    | none => .bad
  | none => .bad
/-- d[i], c[j] = x, y -/
noncomputable def sPut2X (o i o2 i2 f : EM) : SM := fun env S => (f env S).bindS env fun d S => match d with
  | .tup [x, y] => (o env S).bindS env fun a S => (i env S).bindS env fun b S => match setX a b x S with
    | some S => (o2 env S).bindS env fun a S => (i2 env S).bindS env fun b S => match setX a b y S with
      | some S' => .nx env S'
      | none => .bad
    | none => .bad
  | _ => .bad
/-! ### is True, is not True -/
def opIsB (x y : D) (S : Store) : ER := match x, y with | .bl a, .bl b => .ok (.bl (decide (a = b))) S | _, _ => .bad
def opNotB (x y : D) (S : Store) : ER := match x, y with | .bl a, .bl b => .ok (.bl (!decide (a = b))) S | _, _ => .bad
@[simp] theorem opIsB_bb {S : Store} {a b : Bool} : opIsB (.bl a) (.bl b) S = .ok (.bl (decide (a = b))) S := rfl
@[simp] theorem opNotB_bb {S : Store} {a b : Bool} : opNotB (.bl a) (.bl b) S = .ok (.bl (!decide (a = b))) S := rfl
/-! ### dict(..) that is changed later -/
def bDictM (ds : List D) (S : Store) : ER := match ds with
  | [d] => match dicD S d with
    | some kds => .ok (.loc S.length) (S ++ [.dic kds])
    | none => .bad
  | _ => .bad
section
variable {S : Store} {e env : EnvD}
@[simp] theorem sStar_is {i j : Nat} {f : EM} : sStar i j f e S = (f e S).bindS e fun d S => match listD S d with
  | some ds => match ds.getLast? with
    | some x => .nx ((e.set i (some (.lst ds.dropLast))).set j (some x)) S
    | none => .bad
  | none => .bad := rfl
@[simp] theorem sPut2X_is {o i o2 i2 f : EM} : sPut2X o i o2 i2 f env S = (f env S).bindS env fun d S => match d with
  | .tup [x, y] => (o env S).bindS env fun a S => (i env S).bindS env fun b S => match setX a b x S with
    | some S => (o2 env S).bindS env fun a S => (i2 env S).bindS env fun b S => match setX a b y S with
      | some S' => .nx env S'
      | none => .bad
    | none => .bad
  | _ => .bad := rfl
@[simp] theorem bDictM_dic {ks : List Key} {ds : List D} : bDictM [.dic ks ds] S = .ok (.loc S.length) (S ++ [.dic (ks.zip ds)]) := rfl
end
end DL
end
section
/-! Defs called where no repr is under way (guards = some []): so repr of lists and tuples can be had. -/
namespace L2
open PySem PySem.Spec PyProof.Rows
/-- as FnOk, where no guard stands below -/
structure FnG (P : Program) (w : World) (K : PySem.W.Frag) (mg : Str → Option Value) (base : Heap) (CX : CXT) (k : Nat) (f : Addr) (fd : FuncData) (ps : List Str) (sp : Sp) : Prop where
  len : ∀ vs H Q E, sp vs H Q E → vs.length = ps.length
  run : ∀ (A : Around) (outer : List Env) (s : Shared) (H : Hp) (args : Args) (us : List Value) (vs : List V) (Q : VK) (E : XK), A.guards = some [] → Room k A → Env0 P w K mg base A outer s H → BindsTo s fd args (ps.zip us) → Vals vs us → sp vs H Q E →
    codeAny (model P w) A (.call (.ref f) args) (CR CX outer P w H s Q E) s
theorem FnG.of {P : Program} {w : World} {K : PySem.W.Frag} {mg : Str → Option Value} {base : Heap} {CX : CXT} {k : Nat} {f : Addr} {fd : FuncData} {ps : List Str} {sp : Sp} (F : FnOk P w K mg base CX k f fd ps sp) : FnG P w K mg base CX k f fd ps sp :=
  ⟨F.len, fun A outer s H args us vs Q E _ => F.run A outer s H args us vs Q E⟩
theorem FnG.mono {P : Program} {w : World} {K : PySem.W.Frag} {mg : Str → Option Value} {base : Heap} {CX : CXT} {j k : Nat} {f : Addr} {fd : FuncData} {ps : List Str} {sp : Sp} (F : FnG P w K mg base CX j f fd ps sp) (h : j ≤ k) : FnG P w K mg base CX k f fd ps sp :=
  ⟨F.len, fun A outer s H args us vs Q E hg hr => F.run A outer s H args us vs Q E hg (hr.mono h)⟩
section
variable {P : Program} {w : World} {K : PySem.W.Frag} {mg : Str → Option Value} {base : Heap}
theorem Fun.okG {x qual : Str} {st : Stmt} {f : Addr} {fd : FuncData} {N ps : List Str} {k : Nat} {sp : Sp} (F : Fun K x qual st f fd) (S : FnScope N ps (defScope st)) (len : ∀ vs H Q E, sp vs H Q E → vs.length = ps.length)
    (hbody : ∀ (cdv : Value) (A : Around) (outer : List Env) (s : Shared) (H : Hp) (vs : List V) (Q : VK) (E : XK), A.guards = some [] → Room k (A.deeper (envOfC qual (defScope st) s.heap.objs.size f cdv)) → sp vs H Q E →
      ∃ t, PSs (cxOf (L2.CX P w) P w K mg base N qual (defScope st) f cdv A outer s H E) (defBody st) t ∧ t { nx := fun _ H' => Q .non H', rt := Q } (start N vs) H) : FnG P w K mg base (L2.CX P w) (k + 1) f fd ps sp := by
  refine ⟨len, fun A outer s H args us vs Q E gd hr e0 hb r hsp => ?_⟩
  obtain ⟨oc, od, kV, doc, pm, an, cdv, ct, osl, rfl, lk, hcd⟩ := F.ex
  have hl := len _ _ _ _ hsp
  have KX : K.In s.heap := e0.mod.kin.keeps fun b o e => (e0.bs b o e).1
  have lim : s.heap.NoLimit := e0.mod.nolimit.keeps fun b o e => (e0.bs b o e).1
  have hkind : ∀ y ∈ ps.zip us, (defScope st).names.lookup y.1 = some .local ∨ ((defScope st).names.lookup y.1 = some .cell ∧ ((cellsFrom (s.heap.objs.size + 1) (defScope st).names []).lookup y.1).isSome = true) := fun ⟨n, v⟩ hy =>
    (S.par n (List.of_mem_zip hy).1).imp id fun q => ⟨q, PySem.W.cellsFrom_some _ _ _ (.inl q)⟩
  refine codeAny_call_function hr.depth (KX _ _ lk) rfl S.co S.gen rfl (PySem.W.codeRec_of KX hcd) (hb _ _ _ _ ?_)
  refine wpAny_newFunctionEnv_cells S.kind hkind fun env he s1 x => ?_
  subst he
  refine ⟨lim.keeps x.toInCall.keep, codeAny_func ?_⟩
  obtain ⟨t, ht, hq⟩ := hbody cdv A outer s H vs Q E gd (hr.deeper _) hsp
  have I : Inv (cxOf (L2.CX P w) P w K mg base N qual (defScope st) f cdv A outer s H E) [] (start N vs) H s1 := inv_start S hr.hd e0 hl r x
  refine wpAny_mono (ht.run [] s1 (start N vs) H _ I hq) (fun fl s' hs => ?_) fun e s' hs => hs
  cases fl with
  | ret u =>
    obtain ⟨v, σ', H', J, rv, q⟩ := hs
    exact ⟨v, H', J.os, J.bare, J.base, J.hok, rv, q⟩
  | next =>
    obtain ⟨σ', H', J, q⟩ := hs
    exact ⟨V.non, H', J.os, J.bare, J.base, J.hok, rfl, q⟩
  | brk => obtain ⟨_, _, _, q⟩ := hs; exact False.elim q
  | cont => obtain ⟨_, _, _, q⟩ := hs; exact False.elim q
end
section
variable {X : Cx} {CX : CXT} {k : Nat} {f C : Addr} {fd : FuncData} {ps : List Str} {sp : Sp} {E : St → XK} {x m : Str} {p pos apos : Pos} {e o : Expr} {es : List Expr} {ta : TE} {t : TA}
theorem run_fnG {pins : List (Addr × Obj)} {σ : St} {H : Hp} {s : Shared} {Q : VK} {us : List Value} {vs : List V} (F : FnG X.prog X.w X.K X.mg X.base CX k f fd ps sp) (gd : X.A.guards = some []) (hr : Room k X.A) (hb : Binds X.K fd ps []) (hx : PassesAt CX X σ (E σ))
    (I : Inv X pins σ H s) (r : Vals vs us) (h : sp vs H Q (E σ)) : wpAny (model X.prog X.w) X.A (call (.ref f) us) (EP X pins σ Q) X.xe s := by
  have hl : us.length = ps.length := by rw [← r.length]; exact F.len _ _ _ _ h
  have b := hb s us I.kIn (by rw [List.append_nil]; exact hl)
  rw [List.append_nil] at b
  refine wpAny_call (codeAny_mono (F.run X.A X.stack s H ⟨us, []⟩ us vs Q (E σ) gd hr I.env0 b r h) fun r s' hq => ?_)
  cases r with
  | error e => exact hx pins H s e s' I hq
  | ok fl =>
    cases fl with
    | ret u => exact I.after hq
    | next => exact False.elim hq
    | brk => exact False.elim hq
    | cont => exact False.elim hq
theorem pe_callG (F : FnG X.prog X.w X.K X.mg X.base CX k f fd ps sp) (gd : X.A.guards = some []) (hr : Room k X.A) (hg : Gl X x) (hm : X.mg x = some (.ref f)) (hk : PySem.W.keepIn X.K (.ref f) = true) (hb : Binds X.K fd ps []) (hx : ∀ σ, PassesAt CX X σ (E σ))
    (ha : PA X (e :: es) t) (hdb : (x == ("__debug__" : Str)) = false := by decide) (he : starEach (e :: es) X.env = (false, eval e X.env) :: starEach es X.env := by rfl) (hpl : (backTo pos (starEach es X.env)).any (·.1) = false := by rfl) :
    PE X (.Call (.Name x p) (e :: es) [] pos) (tCallS sp E t) := by
  refine ⟨fun pins s σ H Q I h => ?_⟩
  refine wpAny_Call_Name_kw (ld_glob I hg hm ?_ hdb)
  refine PySem.W.callWith_K (h₀ := X.base) I.ok.mod.kin hk (thn (ha.run pos pins s σ H _ I h) fun us s1 ⟨vs, H1, I1, r, q⟩ => ⟨I1.kIn, ?_⟩) he hpl
  exact run_fnG F gd hr hb (hx σ) I1 r q
end
/-- the head, for a def that wants no guard below -/
theorem law_callG {P : Program} {w : World} {K : PySem.W.Frag} {mg mb : Str → Option Value} {CX : CXT} {k : Nat} {fa a : Addr} {fd : FuncData} {x : Str} {sp : Sp} {s₁ : Shared} {vs : List Value} {ns : List Int}
    (KX : K.In s₁.heap) (hns : s₁.heap.Ns mainGlobals mg) (hb : s₁.heap.Ns builtinsNs mb) (hbb : ∀ x : Str, x ≠ "__name__" → mb x = bootBuiltins x) (hlim : s₁.heap.NoLimit) (hg : s₁.gens = #[])
    (ha : s₁.heap.get? a = some { cls := .type "list", data := .seq vs.toArray }) (hi : IntsAre vs ns) (hl : ns.length ≤ sizeLine) (hr : Room k callerA)
    (F : ∀ base : Heap, K.In base → base.Ns mainGlobals mg → FnG P w K mg base CX k fa fd [x] sp) (hbind : ∀ (s : Shared) (u : Value), BindsTo s fd ⟨[u], []⟩ [(x, u)])
    (hsp : ∀ H : Hp, Only H → SqL K H a (ns.map V.int) → sp [.ref a] H (fun v _ => v = .bl true) fun _ _ _ => False)
    (hCX : ∀ H e s', CX [] H s₁ (fun _ _ _ => False) e s' → False) :
    codeAny (model P w) callerA (.call (.ref fa) ⟨[.ref a], []⟩) (fun r s' => r = .ok (.ret (.bool true)) ∧ OldK s₁.heap s'.heap ∧ s'.os = s₁.os ∧ AllBare s'.gens) s₁ := by
  have rv := vals_ints hi
  have lenV := hi.length
  have core : ∀ H : Hp, Only H → SqL K H a (ns.map V.int) → HOk P w H s₁.heap → (∀ b, H b ≠ none → b = a) → (H a ≠ none → K.lookup a = none) →
      codeAny (model P w) callerA (.call (.ref fa) ⟨[.ref a], []⟩) (fun r s' => r = .ok (.ret (.bool true)) ∧ OldK s₁.heap s'.heap ∧ s'.os = s₁.os ∧ AllBare s'.gens) s₁ := by
    intro H hO hS hok hA hK
    have at_a : ∀ {b : Addr} {o : Obj}, s₁.heap.get? b = some o → H b ≠ none → b = a ∧ o = { cls := .type "list", data := .seq vs.toArray } := fun {b o} e z => by
      have e' := hA b z
      subst e'
      rw [ha] at e; cases e; exact ⟨rfl, rfl⟩
    have base_of : ∀ {b : Addr} {o : Obj}, s₁.heap.get? b = some o → H b = none → (hidT s₁.heap H).get? b = some o := fun e n => hidT_get e n
    have noA : ∀ {b : Addr} {o : Obj} {es : Array DictEntry} {ep : Nat}, s₁.heap.get? b = some o → o.data = .dict es ep → H b = none := fun {b o es ep} e d => by
      by_cases z : H b = none
      · exact z
      · obtain ⟨_, rfl⟩ := at_a e z
        cases d
    have nsK : ∀ {b : Addr} {m : Str → Option Value}, s₁.heap.Ns b m → (hidT s₁.heap H).Ns b m := fun {b m} ⟨o, es, ep, e, d, r⟩ => ⟨o, es, ep, base_of e (noA e d), d, r⟩
    have hKb : K.In (hidT s₁.heap H) := fun b o e => base_of (KX b o e) (by
      by_cases z : H b = none
      · exact z
      · obtain ⟨rfl, _⟩ := at_a (KX b o e) z
        rw [hK z] at e; cases e)
    have hM : Mod K mg (hidT s₁.heap H) := ⟨hKb, nsK hns, ⟨mb, nsK hb, hbb⟩, let ⟨mc, h1, h2⟩ := hlim; ⟨mc, nsK h1, h2⟩⟩
    have e0 : Env0 P w K mg (hidT s₁.heap H) callerA [] s₁ H := ⟨rfl, hM, fun b o e => of_hidT e, Nat.le_of_eq (hidT_size _ _), trivial, fun b hb => absurd (show b ∈ ([] : List Addr) from hb) (by simp), hok, .of_eq hg⟩
    refine codeAny_mono ((F _ hKb (nsK hns)).run callerA [] s₁ H ⟨[.ref a], []⟩ [.ref a] [.ref a] _ _ rfl hr e0 (hbind s₁ (.ref a)) (.cons rfl .nil) (hsp H hO hS)) fun r s' h => ?_
    match r, h with
    | .error e, h => exact (hCX H e s' h).elim
    | .ok .next, h => exact False.elim h
    | .ok .brk, h => exact False.elim h
    | .ok .cont, h => exact False.elim h
    | .ok (.ret u), h =>
      obtain ⟨v, H', os, bare, un, hok', r', q⟩ := h
      have q' : v = .bl true := q
      subst q'
      obtain rfl : u = Value.bool true := r'
      refine ⟨rfl, OldK.of_keep fun b o e => ?_, os, bare⟩
      cases q : H b with
      | none => exact un.keep b o e q (by intro z; exact absurd (show b ∈ ([] : List Addr) from z) (by simp)) (by simp)
      | some u =>
        rcases hO b with z | ⟨ob, xs, z⟩
        · rw [q] at z; cases z
        · obtain ⟨e1, _⟩ := hok b _ z
          obtain ⟨e2, _⟩ := hok' b _ (un.frzs b ob _ z)
          rw [e] at e1; cases e1
          exact e2
  cases hk : K.lookup a with
  | some o =>
    have e := KX a o hk
    rw [ha] at e
    cases e
    refine core (fun _ => none) (fun _ => .inl rfl) (.inr ⟨_, vs.toArray, _, hk, rfl, rfl, rfl, by rw [List.size_toArray, lenV]; exact hl, by simpa using rv⟩) (fun b u z => by have z' : (none : Option HO) = some u := z; cases z') (fun b z => absurd rfl z) fun z => absurd rfl z
  | none =>
    refine core (fun b => if b = a then some (.frz { cls := .type "list", data := .seq vs.toArray } (.lst (ns.map V.int))) else none) (fun b => ?_) (.inl (.inr ⟨{ cls := .type "list", data := .seq vs.toArray }, if_pos rfl⟩)) (fun b u z => ?_) (fun b z => ?_) fun _ => hk
    · by_cases hb : b = a
      · exact .inr ⟨_, _, if_pos hb⟩
      · exact .inl (if_neg hb)
    · by_cases hb : b = a
      · have z' := (if_pos hb).symm.trans z
        cases z'
        subst hb
        exact ⟨ha, by rw [List.length_map]; exact hl, vs, _, rv, ha⟩
      · have z' := (if_neg hb).symm.trans z
        cases z'
    · by_cases hb : b = a
      · exact hb
      · exact absurd (if_neg hb) z
theorem walk_ofG {l : PySem.W.OpenLaw} {n k : Nat} {q : Program} {loose : List Str} {XP : (Str → Option Value) → Heap → Prop} {YP : World → Heap → Prop} {d : DefRec} {K : Params → PySem.W.Frag} {CX : World → CXT} {sp : World → Sp} {x : Str}
    (hn : l.most = some n) (hn2 : n ≤ sizeLine) (hdf : d.params.defaults = []) (hr : Room k callerA)
    (hY : ∀ (w : World) (h : Heap), YP w h → (K w.params).In h)
    (F : ∀ (w : World) (mg : Str → Option Value) (fa : Addr) (h : Heap), (K w.params).In h → h.Ns mainGlobals mg → mg d.name = some (.ref fa) →
      ∃ fd : FuncData, (∀ (s : Shared) (u : Value), BindsTo s fd ⟨[u], []⟩ [(x, u)]) ∧ ∀ base : Heap, (K w.params).In base → base.Ns mainGlobals mg → FnG l.prog w (K w.params) mg base (CX w) k fa fd [x] (sp w))
    (hsp : ∀ (w : World) (H : Hp) (a : Addr) (ns : List Int), ns.length ≤ n → Only H → SqL (K w.params) H a (ns.map V.int) → sp w [.ref a] H (fun v _ => v = .bl true) fun _ _ _ => False)
    (hCX : ∀ (w : World) (H : Hp) (s : Shared) (e : Value) (s' : Shared), CX w [] H s (fun _ _ _ => False) e s' → False) :
    PySem.W.WalkO q loose XP YP l.row.toRowW d [] (fun f vs => PySem.call f vs) := by
  refine Att.attach_call hn hdf fun w s₀ s₁ mg mb fa o pm cd doc a vs ns G Y ho hd hcd hmg hobj hints hlen hg => ?_
  have KX := hY w _ Y
  obtain ⟨fd, hb, hF⟩ := F w mg fa _ KX G.T.g hmg
  exact law_callG KX G.T.g G.T.b G.T.builtins G.T.nolimit hg hobj hints (Nat.le_trans hlen hn2) hr hF hb (fun H hO hS => hsp w H a ns hlen hO hS) fun H e s' => hCX w H s₁ e s'
end L2
end
section
/-! D-layer: defs called with no guard below; repr. -/
namespace DL
open PySem L2 PyProof.Rows
theorem fnG {G : Glb} {P : Program} {w : World} {mg : Str → Option Value} {base : Heap} {x qual : Str} {st : Stmt} {f : Addr} {fd : FuncData} {N ps : List Str} {k : Nat} {g : SM} (m : Mode) (F : Fun G.K x qual st f fd) (S : FnScope N ps (defScope st))
    (body : ∀ (cdv : Value) (A : Around) (outer : List Env) (s : Shared) (H : Hp) (E : XK), Room k (A.deeper (envOfC qual (defScope st) s.heap.objs.size f cdv)) →
      Takes (cxOf (L2.CX P w) P w G.K mg base N qual (defScope st) f cdv A outer s H E) (fun cls d _ H => E cls d H) →
      PassesOwn (model P w) (A.deeper (envOfC qual (defScope st) s.heap.objs.size f cdv)) (envOfC qual (defScope st) s.heap.objs.size f cdv) (cxOf (L2.CX P w) P w G.K mg base N qual (defScope st) f cdv A outer s H E).xe →
      (cxOf (L2.CX P w) P w G.K mg base N qual (defScope st) f cdv A outer s H E).A.guards = some [] →
      DSs G (cxOf (L2.CX P w) P w G.K mg base N qual (defScope st) f cdv A outer s H E) (fun cls d _ H => E cls d H) (defBody st) g) :
    FnG P w G.K mg base (L2.CX P w) (k + 1) f fd ps (spD G ps.length (fnF m N.length g)) := by
  refine F.okG S (fun vs H Q E h => h.1) (fun cdv A outer s H vs Q E gd hr h => ?_)
  obtain ⟨_, φ, S0, ds, so, il, hp⟩ := h
  obtain ⟨t, pt, qt⟩ := body cdv A outer s H E hr (takes_of rfl rfl rfl rfl) (passes_of rfl) gd
  refine ⟨t, pt, qt (L2.start N vs) H (startD N.length ds) φ S0 _ so (rep_start N il) ?_⟩
  unfold fnF at hp
  cases hg : g (startD N.length ds) S0 with
  | nx e S1 => rw [hg] at hp; exact fun φ1 H1 σ1 e1 s1 r1 => exit_ok so e1 s1 (show Is G φ1 H1 .non .non from rfl) hp
  | rt d S1 => rw [hg] at hp; exact fun φ1 H1 v e1 s1 i1 => exit_ok so e1 s1 i1 hp
  | ex x e S1 => rw [hg] at hp; exact fun φ1 H1 σ1 cls dx e1 s1 r1 ix => hp φ1 H1 cls dx e1 s1 ix
  | bk e S1 => rw [hg] at hp; exact False.elim hp
  | ct e S1 => rw [hg] at hp; exact False.elim hp
  | bad => rw [hg] at hp; exact False.elim hp
structure DefG (G : Glb) (P : Program) (w : World) (mg : Str → Option Value) (base : Heap) (k : Nat) (x : Str) (n : Nat) (F : FD) : Prop where
  ex : ∃ f fd ps, FnG P w G.K mg base (L2.CX P w) k f fd ps (spD G n F) ∧ mg x = some (.ref f) ∧ PySem.W.keepIn G.K (.ref f) = true ∧ Binds G.K fd ps []
section
variable {G : Glb} {X : Cx} {W : WX} {k n : Nat} {x : Str} {F : FD} {p pos : Pos} {e : Expr} {es : List Expr} {fa : LM}
theorem de_callG (d : DefG G X.prog X.w X.mg X.base k x n F) (gd : X.A.guards = some []) (hK : X.K = G.K) (hr : Room k X.A) (hg : Gl X x) (tk : Takes X W) (ha : DA G X W (e :: es) fa) (hn : (e :: es).length = n) (hla : ∀ env S ds S', fa env S = .ok ds S' → ds.length = n)
    (hdb : (x == ("__debug__" : Str)) = false := by decide) (he : starEach (e :: es) X.env = (false, eval e X.env) :: starEach es X.env := by rfl) (hpl : (backTo pos (starEach es X.env)).any (·.1) = false := by rfl) :
    DE G X W (.Call (.Name x p) (e :: es) [] pos) (eCall F fa) := by
  obtain ⟨f, fd, ps, FO, hm, hk, hb⟩ := d.ex
  rw [← hK] at FO hk hb
  obtain ⟨t, pt, qt⟩ := ha
  refine ⟨_, pe_callG FO gd hr hg hm hk hb (fun σ => passAt tk σ) pt hdb he hpl, fun σ H env φ S Q s re h => ?_⟩
  refine qt σ H env φ S _ s re ?_
  unfold eCall at h
  cases hf : fa env S with
  | ok ds S1 =>
    rw [hf] at h
    intro φ1 H1 vs e1 s1 i1
    refine ⟨by rw [← i1.length]; exact hla _ _ _ _ hf, φ1, S1, ds, s1, i1, ?_⟩
    have h' : PostE G W φ1 H1 σ (F ds S1) Q := PostE.ext e1 h
    cases hF : F ds S1 with
    | ok d S2 => rw [hF] at h'; exact h'
    | ex x S2 => rw [hF] at h'; exact h'
    | bad => rw [hF] at h'; exact h'
  | ex x S1 => rw [hf] at h; exact h
  | bad => rw [hf] at h; exact h
/-! ### repr -/
end
def optL {α β : Type} (f : α → Option β) : List α → Option (List β)
  | [] => some []
  | a :: l => (f a).bind fun b => (optL f l).map (b :: ·)
section
variable {G : Glb} {X : Cx} {W : WX} {φ : Fi} {S : Store} {H : Hp}
end
/-! ### small data -/
structure Small (k w : Nat) (p : PyData) : Prop where
  sh : p.showable = true
  hd : p.hasDict = false
  cl : p.canLay0 = true
  dp : p.depth ≤ k
  si : p.intsShort 13 = true
  wt : p.weight ≤ w
theorem Small.mono {k w k' w' : Nat} {p : PyData} (h : Small k w p) (hk : k ≤ k') (hw : w ≤ w') : Small k' w' p := ⟨h.sh, h.hd, h.cl, Nat.le_trans h.dp hk, h.si, Nat.le_trans h.wt hw⟩
end DL
end
section
/-! sorted of a tuple of whole numbers. -/
namespace L2
open PySem PySem.Spec PyProof.Rows
section
variable {P : Program} {w : World} {A : Around} {E : Value → Shared → Prop} {s : Shared}
theorem collect_tup {Q : List Value → Shared → Prop} {it : Addr} {o : Obj} {items : Array Value} {n : Nat} (ho : s.heap.get? it = some o) (hc : o.cls = .type "tuple") (hd : o.data = .seq items n)
    (hQ : ∀ h' : Heap, (∀ b o', s.heap.get? b = some o' → h'.get? b = some o') → s.heap.objs.size ≤ h'.objs.size → Q items.toList { s with heap := h' }) (hsz : items.size ≤ sizeLine) : wpAny (model P w) A (collect (.ref it)) Q E s := by
  unfold collect
  refine wpAny_bind (wpAny_runValue (codeAny_builtin F.entry_proto_collect ?_))
  rw [Around.under_plainId F.plain_proto_collect _]
  show wpAny _ A.in1 (newList [] >>= fun l => again (.builtin "list.__iadd__" ⟨[l, .ref it], []⟩)) _ _ s
  refine wpAny_bind (wpAny_newObj_type ?_)
  refine wpAny_pure ⟨plainId_quiet F.plain_list_iadd _, codeAny_builtin F.entry_list_iadd ?_⟩
  rw [Around.under_plainId F.plain_list_iadd _]
  show wpAny _ A.in1 (Builtin.List.listExtendWith (.ref s.heap.objs.size) (.ref it) (.ref s.heap.objs.size)) _ _ _
  have hS : (s.heap.push { cls := .type "list", data := .seq ([] : List Value).toArray }).get? s.heap.objs.size = some { cls := .type "list", data := .seq #[] 0 } := Heap.get?_push_size _ rfl
  have hS2 := Heap.get?_update_self (Obj.mapSeq (· ++ items)) hS rfl
  have fin' : wpAny (model P w) A (match Value.ref s.heap.objs.size with
      | Value.ref a => do
        match (← load a).data with
          | Data.seq xs _ => pure xs.toList
          | _ => unsupported "internal:collect"
      | _ => unsupported "internal:collect") Q E { s with heap := (s.heap.push { cls := .type "list", data := .seq ([] : List Value).toArray }).update s.heap.objs.size (Obj.mapSeq (· ++ items)) } := by
    show wpAny _ A (load s.heap.objs.size >>= _) _ _ _
    refine wpAny_bind (wpAny_load hS2 ?_)
    refine wpAny_pure ?_
    have e : ((#[] : Array Value) ++ items).toList = items.toList := by simp
    show Q ((#[] : Array Value) ++ items).toList _
    rw [e]
    refine hQ _ (fun b o' hb => ?_) (by rw [Heap.size_update, size_push']; omega)
    exact (Heap.get?_update_other _ _ (Nat.ne_of_gt (Heap.lt_size hb))).trans (Heap.get?_push_of_some _ hb)
  refine wpAny_mono (wpAny_extend_seq (hsz := hsz) (A := A) (R := fun r s' => r = .ok (.ret (.ref s.heap.objs.size)) ∧ s' = { s with heap := (s.heap.push { cls := .type "list", data := .seq ([] : List Value).toArray }).update s.heap.objs.size (Obj.mapSeq (· ++ items)) })
    (s := { s with heap := s.heap.push { cls := .type "list", data := .seq ([] : List Value).toArray } }) _ it _ 0 (.inr rfl) hS (Heap.get?_push_of_some _ ho) hc hd ⟨rfl, rfl⟩) (fun fin s' h => ?_) (fun e s' h => absurd h.1 (by simp))
  cases fin with
  | done f =>
    obtain ⟨e, rfl⟩ := h
    cases e
    exact fin'
  | again c' => exact ⟨h.1, codeAny_mono h.2 fun r s'' hr => by obtain ⟨rfl, rfl⟩ := hr; exact fin'⟩
theorem sorted_tup {a : Addr} {vs : List Value} {ns : List Int} {Q : Value → Shared → Prop} (ht : IsTup s.heap a vs.toArray) (hi : IntsAre vs ns) (h64 : vs.length < 64)
    (hQ : ∀ (s' : Shared) (p : Addr) (out : Array Value) (c : Nat) (ns' : List Int), (∀ b o, s.heap.get? b = some o → s'.heap.get? b = some o) → s'.gens = s.gens → s'.os = s.os → s'.drawn = s.drawn → s.heap.objs.size ≤ p →
      s'.heap.get? p = some (seqObj "list" out c) → IntsAre out.toList ns' → ns'.Perm ns → ns'.Pairwise (· ≤ ·) → Q (.ref p) s') :
    wpAny (model P w) A (call (.builtin "sorted") [.ref a]) Q E s := by
  obtain ⟨o, ho, hc, n, hd⟩ := ht
  refine Calls.call_function_entry kind_sorted plain_sorted entry_sorted (args_sorted1 _) ?_
  unfold Builtin.«sorted»
  refine wpAny_bind (m := checkCount "sorted" 1 1 _) (wpAny_pure ?_)
  refine wpAny_bind (collect_tup ho hc hd (fun h1 k1 hge => ?_) (by rw [List.size_toArray, sizeLine_eq]; omega))
  rw [show vs.toArray.toList = vs from rfl]
  refine wpAny_bind (wpAny_newList ?_ (by rw [sizeLine_eq]; omega))
  have hoL : (h1.push (seqObj "list" vs.toArray 0)).get? h1.objs.size = some (seqObj "list" vs.toArray 0) := Heap.get?_push_size _ rfl
  refine wpAny_bind (wpAny_holding (wpAny_call_entry slot_list_sort ⟨_, hoL, rfl⟩ entry_list_sort (list_sort_tree hoL hi h64 fun out ns' a1 a2 a3 => ⟨_, rfl, ?_⟩) (args_list_sort _)))
  obtain ⟨c, hc'⟩ := sortedHeap_at (vs := vs) (out := out) hoL
  refine wpAny_pure ⟨_, rfl, hQ _ h1.objs.size out c ns' (fun b u e => ?_) rfl rfl rfl hge hc' a1 a2 a3⟩
  have q := k1 b u e
  have hlt := Heap.lt_size q
  show (sortedHeap (h1.push (seqObj "list" vs.toArray 0)) h1.objs.size vs out).get? b = some u
  rw [sortedHeap_old (Nat.ne_of_lt hlt) (by rw [size_push']; exact Nat.lt_succ_of_lt hlt)]
  exact Heap.get?_push_of_some _ q
end
section
variable {X : Cx}
def rSortedT (K : PySem.W.Frag) : List V → Hp → VK → Prop := fun vs H Q => ∃ (a : Addr) (ns : List Int), vs = [V.ref a] ∧ SqT K H a (ns.map V.int) ∧ ns.length < 64 ∧
  ∀ (ns' : List Int) (p : Addr), ns'.Perm ns → ns'.Pairwise (· ≤ ·) → H p = none → Q (.ref p) (upd H p (.lst (ns'.map V.int)))
theorem cr_sortedT : CallR X (.builtin "sorted") (rSortedT X.K) := by
  intro pins s σ H vs us Q I r h
  obtain ⟨a, ns, rfl, hs, h64, q⟩ := h
  obtain ⟨its, rv, ht, _⟩ := I.tuple hs
  rw [Vals.ref1 r]
  have hi := rv.ints
  refine sorted_tup ht hi (by rw [hi.length]; exact h64) fun s' p out c ns' k g1 o1 d1 hp e1 h1 h2 h3 => ?_
  have hlen : (ns'.map V.int).length ≤ sizeLine := by rw [List.length_map, h2.length_eq]; exact small64 h64
  obtain ⟨h', g', d', t', o'⟩ := s'
  have g1 : g' = s.gens := g1
  have o1 : o' = s.os := o1
  have d1 : d' = s.drawn := d1
  subst g1 o1 d1
  exact ⟨.ref p, upd H p (.lst (ns'.map V.int)), I.laid (t' := t') k hp ⟨hlen, out.toList, c, vals_of_ints h1, e1⟩, rfl, q ns' p h2 h3 (I.hok.fresh hp)⟩
end
end L2
namespace DL
open PySem L2
variable {G : Glb} {X : Cx} {W : WX}
/-- sorted, of a tuple of whole numbers too -/
def bSortedY (ds : List D) (S : Store) : ER := match ds with
  | [.tup es] => match intsD es with
    | some ns => if ns.length < 64 then .ok (.lst ((sortI ns).map .int)) S else .bad
    | none => .bad
  | ds => bSortedX ds S
theorem dc_sortedY (hc : X.calm = true) (hK : X.K = G.K) : DCall G X (.builtin "sorted") bSortedY := by
  obtain ⟨r, hr, q⟩ := dc_sortedX (G := G) (X := X) hc hK
  refine ⟨_, hr.or cr_sortedT, fun W φ S H σ ds xs Q s i h => ?_⟩
  unfold bSortedY at h
  split at h
  · rename_i es
    split at h
    · rename_i ns e
      split at h
      · rename_i h64
        obtain ⟨x, rfl, k⟩ := IsL.inv1 i
        obtain ⟨a, ys, rfl, rt, il⟩ := k
        rw [intsD_is e] at il
        refine .inr ⟨a, ns, rfl, by rw [hK, ← il.ints]; exact rt.seq, h64, fun ns' p h2 h3 hp => ?_⟩
        have es' : ns' = sortI ns := sorted_uniq (h2.trans (sortI_perm ns).symm) h3 (sortI_pw ns)
        subst es'
        exact lst_new s IsL.of_ints h hp
      · exact bad_no h
    · exact bad_no h
  · exact .inl (q W φ S H σ _ xs Q s i h)
@[simp] theorem bSortedY_t {ns : List Int} {S : Store} : bSortedY [.tup (ns.map .int)] S = if ns.length < 64 then .ok (.lst ((sortI ns).map .int)) S else .bad := by
  unfold bSortedY
  dsimp only
  rw [intsD_map]
@[simp] theorem bSortedY_l {ns : List Int} {S : Store} : bSortedY [.lst (ns.map .int)] S = .ok (.lst ((sortI ns).map .int)) S := by
  show bSortedX [.lst (ns.map .int)] S = _
  exact bSortedX_lst.trans bSorted_l
end DL
end
section
/-! D-layer, part 17: attributes of instances. -/
namespace DL
open PySem L2
variable {G : Glb} {X : Cx} {W : WX}
/-- the law's classes: plain ones, none of whose names is fs -/
structure Kls (K : PySem.W.Frag) (ca : Str → Option Addr) (fs : List Str) : Prop where
  ok : ∀ c C, ca c = some C → Cls K C ∧ ∀ f ∈ fs, NoAttr K C f
theorem lookup_is {φ : Fi} {H : Hp} {f : Str} : ∀ {ks : List Str} {ds : List D} {fs : List (Str × V)} {d : D}, fs.map (·.1) = ks → IsL G φ H ds (fs.map (·.2)) → (ks.zip ds).lookup f = some d → ∃ v, fs.lookup f = some v ∧ Is G φ H d v
  | [], ds, fs, d, h, q, e => by simp at e
  | k :: ks, [], fs, d, h, q, e => by simp at e
  | k :: ks, d0 :: ds, [], d, h, q, e => by cases h
  | k :: ks, d0 :: ds, (g, v) :: fs, d, h, q, e => by
    have h1 : g = k := (List.cons.inj h).1
    have h2 : fs.map (·.1) = ks := (List.cons.inj h).2
    obtain ⟨x, r, e1, q1, q2⟩ := q
    have ex : v = x := (List.cons.inj e1).1
    have er : fs.map (·.2) = r := (List.cons.inj e1).2
    subst h1 ex
    rw [← er] at q2
    rw [List.zip_cons_cons, List.lookup_cons] at e
    rw [List.lookup_cons]
    cases hb : f == g with
    | true => rw [hb] at e; cases e; exact ⟨v, rfl, q1⟩
    | false => rw [hb] at e; exact lookup_is h2 q2 e
def fldD (S : Store) (d : D) (f : Str) : Option D := match d with
  | .obj _ ks ds => (ks.zip ds).lookup f
  | .loc l => match S[l]? with
    | some (.ins _ fs) => fs.lookup f
    | _ => none
  | _ => none
theorem zip_unzip {α β : Type} : ∀ l : List (α × β), (l.map (·.1)).zip (l.map (·.2)) = l
  | [] => rfl
  | a :: l => by simp [zip_unzip l]
/-- e.f -/
def eFld (f : Str) (e : EM) : EM := fun env S => (e env S).bind fun d S => match fldD S d f with
  | some x => .ok x S
  | none => .bad
/-! ### o.f = e -/
def putFD (f : Str) (d : D) : List (Str × D) → List (Str × D)
  | [] => [(f, d)]
  | (g, x) :: r => if g = f then (g, d) :: r else (g, x) :: putFD f d r
theorem putF_is {φ : Fi} {H : Hp} {f : Str} {d : D} {v : V} (i : Is G φ H d v) : ∀ {fs : List (Str × D)} {ws : List (Str × V)}, ws.map (·.1) = fs.map (·.1) → IsL G φ H (fs.map (·.2)) (ws.map (·.2)) →
    (putF f v ws).map (·.1) = (putFD f d fs).map (·.1) ∧ IsL G φ H ((putFD f d fs).map (·.2)) ((putF f v ws).map (·.2))
  | [], [], _, _ => ⟨rfl, v, [], rfl, i, rfl⟩
  | [], (g, x) :: ws, h, _ => by cases h
  | (g, x) :: fs, [], h, _ => by cases h
  | (g, x) :: fs, (g', y) :: ws, h, q => by
    have h1 : g' = g := (List.cons.inj h).1
    have h2 : ws.map (·.1) = fs.map (·.1) := (List.cons.inj h).2
    obtain ⟨x', r, e1, q1, q2⟩ := q
    have ex : y = x' := (List.cons.inj e1).1
    have er : ws.map (·.2) = r := (List.cons.inj e1).2
    subst h1 ex
    rw [← er] at q2
    unfold putF putFD
    by_cases hg : g' = f
    · rw [if_pos hg, if_pos hg]
      exact ⟨by simp [h2], v, _, rfl, i, q2⟩
    · rw [if_neg hg, if_neg hg]
      obtain ⟨p1, p2⟩ := putF_is i h2 q2
      exact ⟨by simp [p1], y, _, rfl, q1, p2⟩
def sFldS (f : Str) (o e : EM) : SM := fun env S => (e env S).bindS env fun d S => (o env S).bindS env fun a S => match a with
  | .loc l => match S[l]? with
    | some (.ins c fs) => if fs.length < 1000 then .nx env (S.set l (.ins c (putFD f d fs))) else .bad
    | _ => .bad
  | _ => .bad
section
variable {S : Store} {env : EnvD}
@[simp] theorem eFld_is {f : Str} {e : EM} : eFld f e env S = (e env S).bind fun d S => match fldD S d f with
  | some x => .ok x S
  | none => .bad := rfl
@[simp] theorem sFldS_is {f : Str} {o e : EM} : sFldS f o e env S = (e env S).bindS env fun d S => (o env S).bindS env fun a S => match a with
  | .loc l => match S[l]? with
    | some (.ins c fs) => if fs.length < 1000 then .nx env (S.set l (.ins c (putFD f d fs))) else .bad
    | _ => .bad
  | _ => .bad := rfl
end
end DL
end
section
/-! Instances made where no guard stands below. -/
namespace L2
open PySem PySem.Spec PyProof.Rows
section
variable {X : Cx} {k : Nat} {f C : Addr} {fd : FuncData} {ps : List Str} {sp : Sp} {E : St → XK} {x : Str} {p pos : Pos} {e : Expr} {es : List Expr} {t : TA} {CX : CXT}
theorem make_guards {A : Around} {us : List Value} {kw : List (Str × Value)} (gd : A.guards = some []) : (A.under (.builtin "type.__call__" ⟨.ref C :: us, kw⟩)).guards = some [] := by
  first
    | exact gd
    | (simpa [Around.under, Code.guards, Code.isGuard, pushGuards, guardIds] using gd)
end
end L2
namespace DL
open PySem L2
variable {G : Glb} {X : Cx} {W : WX}
/-- a class of the module; its __init__ has the value F -/
structure ClsG (G : Glb) (P : Program) (w : World) (mg : Str → Option Value) (base : Heap) (k : Nat) (x : Str) (n : Nat) (F : FD) : Prop where
  ex : ∃ C f fd ps, Mk G.K C f ∧ FnG P w G.K mg base (L2.CX P w) k f fd ps (spD G (n + 1) F) ∧ mg x = some (.ref C) ∧ G.ca x = some C ∧ Binds G.K fd ps []
def eMake (c : Str) (F : FD) (f : LM) : EM := fun env S => (f env S).bindE fun ds S1 => match F (.loc S1.length :: ds) (S1 ++ [.ins c []]) with
  | .ok .non S2 => .ok (.loc S1.length) S2
  | .ex x S2 => .ex x S2
  | _ => .bad
end DL
end
section
/-! Instances made with keywords; defs with defaults. -/
namespace L2
open PySem PySem.Spec PyProof.Rows
section
variable {P : Program} {w : World} {K : PySem.W.Frag} {mg : Str → Option Value} {base : Heap}
theorem fn_ofG {k : Nat} {f : Addr} {name qual : Str} {params : Arguments} {body : List Stmt} {scope : Scope} {dV kV doc pm cdv ct oc : Value} {an od : Option Addr} {osl : Array (Option Value)} {N ps : List Str} {sp : Sp}
    (lk : K.lookup f = some ⟨oc, od, .func (PySem.W.fnOf name qual params body scope dV kV doc pm an cdv ct), osl⟩) (hcd : PySem.W.codeIn K cdv qual = true) (S : FnScope N ps scope) (len : ∀ vs H Q E, sp vs H Q E → vs.length = ps.length)
    (hbody : ∀ (A : Around) (outer : List Env) (s : Shared) (H : Hp) (vs : List V) (Q : VK) (E : XK), A.guards = some [] → Room k (A.deeper (envOfC qual scope s.heap.objs.size f cdv)) → sp vs H Q E →
      ∃ t, PSs (cxOf (L2.CX P w) P w K mg base N qual scope f cdv A outer s H E) body t ∧ t { nx := fun _ H' => Q .non H', rt := Q } (start N vs) H) :
    FnG P w K mg base (L2.CX P w) (k + 1) f (PySem.W.fnOf name qual params body scope dV kV doc pm an cdv ct) ps sp := by
  refine ⟨len, fun A outer s H args us vs Q E gd hr e0 hb r hsp => ?_⟩
  have hl := len _ _ _ _ hsp
  have KX : K.In s.heap := e0.mod.kin.keeps fun b o e => (e0.bs b o e).1
  have lim : s.heap.NoLimit := e0.mod.nolimit.keeps fun b o e => (e0.bs b o e).1
  have hkind : ∀ y ∈ ps.zip us, scope.names.lookup y.1 = some .local ∨ (scope.names.lookup y.1 = some .cell ∧ ((cellsFrom (s.heap.objs.size + 1) scope.names []).lookup y.1).isSome = true) := fun ⟨n, v⟩ hy =>
    (S.par n (List.of_mem_zip hy).1).imp id fun q => ⟨q, PySem.W.cellsFrom_some _ _ _ (.inl q)⟩
  refine codeAny_call_function hr.depth (KX _ _ lk) rfl S.co S.gen rfl (PySem.W.codeRec_of KX hcd) (hb _ _ _ _ ?_)
  refine wpAny_newFunctionEnv_cells S.kind hkind fun env he s1 x => ?_
  subst he
  refine ⟨lim.keeps x.toInCall.keep, codeAny_func ?_⟩
  obtain ⟨t, ht, hq⟩ := hbody A outer s H vs Q E gd (hr.deeper _) hsp
  have I : Inv (cxOf (L2.CX P w) P w K mg base N qual scope f cdv A outer s H E) [] (start N vs) H s1 := inv_start S hr.hd e0 hl r x
  refine wpAny_mono (ht.run [] s1 (start N vs) H _ I hq) (fun fl s' hs => ?_) fun e s' hs => hs
  cases fl with
  | ret u =>
    obtain ⟨v, σ', H', J, rv, q⟩ := hs
    exact ⟨v, H', J.os, J.bare, J.base, J.hok, rv, q⟩
  | next =>
    obtain ⟨σ', H', J, q⟩ := hs
    exact ⟨V.non, H', J.os, J.bare, J.base, J.hok, rfl, q⟩
  | brk => obtain ⟨_, _, _, q⟩ := hs; exact False.elim q
  | cont => obtain ⟨_, _, _, q⟩ := hs; exact False.elim q
end
def tMakeKS (C : Addr) (n m : Nat) (sp : Sp) (gV : List V → List V → List V) (E : St → XK) (t tk : TA) : TE := fun σ H Q => t σ H fun vs H1 => tk σ H1 fun zs H2 => vs.length = n ∧ zs.length = m ∧ ∀ x dx, H2 x = none → H2 dx = none → dx ≠ x →
  sp (gV (.ref x :: vs) zs) (upd (upd H2 dx (.own x)) x (.ins C dx [])) (fun v H3 => v = .non ∧ Q (.ref x) H3) (E σ)
section
variable {X : Cx} {CX : CXT} {k n : Nat} {f C : Addr} {fd : FuncData} {ps ks : List Str} {sp : Sp} {E : St → XK} {x : Str} {p pos : Pos} {e : Expr} {es : List Expr} {kws : List Keyword} {t tk : TA} {g : List Value → List Value → List Value} {gV : List V → List V → List V}
theorem run_makeKG {pins : List (Addr × Obj)} {σ : St} {H : Hp} {s : Shared} {Q : VK} {us ws : List Value} {vs zs : List V} (M : Mk X.K C f) (F : FnG X.prog X.w X.K X.mg X.base CX k f fd ps sp) (gd : X.A.guards = some []) (hr : Room (k + 1) X.A) (hb : KBn X.K fd ps (n + 1) ks g gV) (hx : PassesAt CX X σ (E σ))
    (I : Inv X pins σ H s) (r : Vals vs us) (rz : Vals zs ws) (l1 : vs.length = n) (l2 : zs.length = ks.length)
    (h : ∀ x dx, H x = none → H dx = none → dx ≠ x → sp (gV (.ref x :: vs) zs) (upd (upd H dx (.own x)) x (.ins C dx [])) (fun v H2 => v = .non ∧ Q (.ref x) H2) (E σ)) :
    wpAny (model X.prog X.w) X.A (call (.ref C) us (ks.zip ws)) (EP X pins σ Q) X.xe s := by
  have hq := h (s.heap.objs.size + 1) s.heap.objs.size (I.hok.fresh (Nat.le_succ _)) (I.hok.fresh (Nat.le_refl _)) (Nat.ne_of_lt (Nat.lt_succ_self _))
  have I2 := Inv.made (C := C) I
  have r1 : Vals (V.ref (s.heap.objs.size + 1) :: vs) (Value.ref (s.heap.objs.size + 1) :: us) := .cons rfl r
  have r2 := hb.rel r1 rz
  have n1 : (Value.ref (s.heap.objs.size + 1) :: us).length = n + 1 := by rw [List.length_cons, ← r.length, l1]
  refine wpAny_call (make_map (f := f) I.kIn M.makes M.init (beq_iff_eq.mp M.fn) (codeAny_mono (F.run _ X.stack _ _ ⟨Value.ref (s.heap.objs.size + 1) :: us, ks.zip ws⟩ (g (Value.ref (s.heap.objs.size + 1) :: us) ws) _ _ (E σ) (make_guards gd) (hr.make C us (ks.zip ws))
    (I2.env0.make C us (ks.zip ws)) (hb.to _ (Value.ref (s.heap.objs.size + 1) :: us) ws I2.kIn n1 (rz.length.symm.trans l2)) r2 hq) fun r s' hq' => ?_))
  cases r with
  | error e => exact hx pins _ _ e s' I2 hq'
  | ok fl =>
    cases fl with
    | ret u =>
      obtain ⟨v, H', I3, rv, ev, q3⟩ := I2.after hq'
      subst ev
      exact ⟨rv, ⟨V.ref (s.heap.objs.size + 1), H', I3, rfl, q3⟩⟩
    | next => exact False.elim hq'
    | brk => exact False.elim hq'
    | cont => exact False.elim hq'
theorem pe_makeKG (M : Mk X.K C f) (F : FnG X.prog X.w X.K X.mg X.base CX k f fd ps sp) (gd : X.A.guards = some []) (hr : Room (k + 1) X.A) (hg : Gl X x) (hm : X.mg x = some (.ref C)) (hb : KBn X.K fd ps (n + 1) ks g gV) (hx : ∀ σ, PassesAt CX X σ (E σ)) (ha : PA X (e :: es) t) (hkw : PK X kws tk)
    (hall : (backToKw pos (keywordEach kws X.env)).all (·.1.isSome) = true := by rfl) (hks : (backToKw pos (keywordEach kws X.env)).filterMap (·.1) = ks := by rfl) (hdb : (x == ("__debug__" : Str)) = false := by decide)
    (he : starEach (e :: es) X.env = (false, eval e X.env) :: starEach es X.env := by rfl) (hpl : ((backTo pos (starEach (e :: es) X.env)).any (·.1) || (backToKw pos (keywordEach kws X.env)).any (·.1.isNone)) = false := by rfl) :
    PE X (.Call (.Name x p) (e :: es) kws pos) (tMakeKS C n ks.length sp gV E t tk) := by
  refine ⟨fun pins s σ H Q I h => ?_⟩
  refine wpAny_Call_Name_kw (ld_glob I hg hm ?_ hdb)
  refine PySem.W.callWith_KW (h₀ := X.base) I.ok.mod.kin M.kp hall (thn (ha.run pos pins s σ H _ I h) fun us s1 ⟨vs, H1, I1, r, q⟩ => ?_) hpl he
  refine thn (hkw.run pos pins s1 σ H1 _ I1 q) fun ws s2 ⟨zs, H2, I2, rz, l1, l2, q2⟩ => ⟨I2.kIn, ?_⟩
  rw [hks]
  exact run_makeKG M F gd hr hb (hx σ) I2 r rz l1 l2 q2
end
end L2
namespace DL
open PySem L2
variable {G : Glb} {X : Cx} {W : WX}
/-- values of keywords, told in the order of the parameters -/
def DK (G : Glb) (X : Cx) (W : WX) (kws : List Keyword) (f : LM) : Prop := ∃ t, PK X kws t ∧ ∀ σ H env φ S Q, SOk G φ S H → RepE G φ H σ env → PostL G W φ H σ (f env S) Q → t σ H Q
theorem dk_nil : DK G X W [] lNil := ⟨_, pk_nil, fun σ H env φ S Q s re h => h φ H [] .refl s rfl⟩
theorem dk_cons {nm : Option Str} {e : Expr} {kpos : Pos} {kws : List Keyword} {f : EM} {g : LM} (ha : DE G X W e f) (hb : DK G X W kws g) : DK G X W (⟨nm, e, kpos⟩ :: kws) (lCons f g) := by
  obtain ⟨ta, pa, qa⟩ := ha
  obtain ⟨tb, pb, qb⟩ := hb
  refine ⟨_, pk_cons pa pb, fun σ H env φ S Q s r h => ?_⟩
  refine qa σ H env φ S _ s r (PostE.bindL h fun d S1 φ1 H1 v e1 s1 i1 h1 => ?_)
  refine qb σ H1 env φ1 S1 _ s1 (r.ext e1) (PostL.bind h1 fun ds S2 φ2 H2 vs e2 s2 i2 h2 => ?_)
  exact h2.now s2 (.cons (i1.ext e2) i2)
theorem isL_append {φ : Fi} {H : Hp} : ∀ {ds es : List D} {xs ys : List V}, IsL G φ H ds xs → IsL G φ H es ys → IsL G φ H (ds ++ es) (xs ++ ys)
  | [], es, xs, ys, h, k => by cases (show xs = [] from h); exact k
  | d :: ds, es, xs, ys, h, k => by
    obtain ⟨x, r, rfl, p, q⟩ := h
    exact ⟨x, r ++ ys, rfl, p, isL_append q k⟩
/-- a class whose __init__ takes n values and keywords ks behind -/
structure ClsK (G : Glb) (P : Program) (w : World) (mg : Str → Option Value) (base : Heap) (k : Nat) (x : Str) (n : Nat) (ks : List Str) (F : FD) : Prop where
  ex : ∃ C f fd ps g, Mk G.K C f ∧ FnG P w G.K mg base (L2.CX P w) k f fd ps (spD G (n + 1 + ks.length) F) ∧ mg x = some (.ref C) ∧ G.ca x = some C ∧ KBn G.K fd ps (n + 1) ks g (fun vs zs => vs ++ zs)
end DL
end
section
/-! D-layer: a def with defaults (an __init__ with keywords), told by its value. -/
namespace DL
open PySem L2 PyProof.Rows
theorem fnGD {G : Glb} {P : Program} {w : World} {mg : Str → Option Value} {base : Heap} {x qual : Str} {params : Arguments} {bd : List Stmt} {scope : Scope} {dvs : List V} {kws : List (Str × V)} {f : Addr} {fd : FuncData} {N ps : List Str} {k : Nat} {g : SM} (m : Mode) (F : FunD G.K x qual params bd scope dvs kws f fd) (S : FnScope N ps scope)
    (body : ∀ (cdv : Value) (A : Around) (outer : List Env) (s : Shared) (H : Hp) (E : XK), Room k (A.deeper (envOfC qual scope s.heap.objs.size f cdv)) →
      Takes (cxOf (L2.CX P w) P w G.K mg base N qual scope f cdv A outer s H E) (fun cls d _ H => E cls d H) →
      PassesOwn (model P w) (A.deeper (envOfC qual scope s.heap.objs.size f cdv)) (envOfC qual scope s.heap.objs.size f cdv) (cxOf (L2.CX P w) P w G.K mg base N qual scope f cdv A outer s H E).xe →
      (cxOf (L2.CX P w) P w G.K mg base N qual scope f cdv A outer s H E).A.guards = some [] →
      DSs G (cxOf (L2.CX P w) P w G.K mg base N qual scope f cdv A outer s H E) (fun cls d _ H => E cls d H) bd g) :
    FnG P w G.K mg base (L2.CX P w) (k + 1) f fd ps (spD G ps.length (fnF m N.length g)) := by
  obtain ⟨oc, od, dV, kV, doc, pm, an, cdv, ct, osl, rfl, lk, hcd, _, _⟩ := F.ex
  refine fn_ofG lk hcd S (fun vs H Q E h => h.1) (fun A outer s H vs Q E gd hr h => ?_)
  obtain ⟨_, φ, S0, ds, so, il, hp⟩ := h
  obtain ⟨t, pt, qt⟩ := body cdv A outer s H E hr (takes_of rfl rfl rfl rfl) (passes_of rfl) gd
  refine ⟨t, pt, qt (L2.start N vs) H (startD N.length ds) φ S0 _ so (rep_start N il) ?_⟩
  unfold fnF at hp
  cases hg : g (startD N.length ds) S0 with
  | nx e S1 => rw [hg] at hp; exact fun φ1 H1 σ1 e1 s1 r1 => exit_ok so e1 s1 (show Is G φ1 H1 .non .non from rfl) hp
  | rt d S1 => rw [hg] at hp; exact fun φ1 H1 v e1 s1 i1 => exit_ok so e1 s1 i1 hp
  | ex x e S1 => rw [hg] at hp; exact fun φ1 H1 σ1 cls dx e1 s1 r1 ix => hp φ1 H1 cls dx e1 s1 ix
  | bk e S1 => rw [hg] at hp; exact False.elim hp
  | ct e S1 => rw [hg] at hp; exact False.elim hp
  | bad => rw [hg] at hp; exact False.elim hp
end DL
end
section
/-! Defs called with keywords. -/
namespace L2
open PySem PySem.Spec PyProof.Rows
section
variable {X : Cx} {CX : CXT} {k n : Nat} {f : Addr} {fd : FuncData} {ps ks : List Str} {sp : Sp} {E : St → XK} {x : Str} {p pos : Pos} {e : Expr} {es : List Expr} {kws : List Keyword} {t tk : TA} {g : List Value → List Value → List Value} {gV : List V → List V → List V}
end
end L2
namespace DL
open PySem L2
variable {G : Glb} {X : Cx} {W : WX}
/-- a def called with n values and keywords ks behind, in the parameters' order -/
structure DefK (G : Glb) (P : Program) (w : World) (mg : Str → Option Value) (base : Heap) (k : Nat) (x : Str) (n : Nat) (ks : List Str) (F : FD) : Prop where
  ex : ∃ f fd ps g, FnG P w G.K mg base (L2.CX P w) k f fd ps (spD G (n + ks.length) F) ∧ mg x = some (.ref f) ∧ PySem.W.keepIn G.K (.ref f) = true ∧ KBn G.K fd ps n ks g (fun vs zs => vs ++ zs)
end DL
end
section
/-! Defs called with keywords, some of them left out: the values in the parameters' order. -/
namespace DL
open PySem L2
variable {G : Glb} {X : Cx} {W : WX}
/-- a def called with n values and keywords ks: m parameters, their values gD -/
structure DefKN (G : Glb) (P : Program) (w : World) (mg : Str → Option Value) (base : Heap) (k : Nat) (x : Str) (n : Nat) (ks : List Str) (m : Nat) (gD : List D → List D → List D) (F : FD) : Prop where
  ex : ∃ f fd ps g gV, FnG P w G.K mg base (L2.CX P w) k f fd ps (spD G m F) ∧ mg x = some (.ref f) ∧ PySem.W.keepIn G.K (.ref f) = true ∧ KBn G.K fd ps n ks g gV ∧
    ∀ {φ : Fi} {H : Hp} {ds es : List D} {vs zs : List V}, ds.length = n → es.length = ks.length → IsL G φ H ds vs → IsL G φ H es zs → IsL G φ H (gD ds es) (gV vs zs) ∧ (gD ds es).length = m
end DL
end
section
/-! A def with keyword-only defaults, told of K; its calls by keywords. -/
namespace DL
open PySem L2 PyProof.Rows
section
variable {K : PySem.W.Frag}
def KwAt (K : PySem.W.Frag) (D : Addr) (kws : List (Str × V)) : Prop := ∀ q ∈ kws, ∃ u, PySem.W.nsIn K D q.1 = some (some u) ∧ RelV q.2 u
theorem kw_nil {D : Addr} : KwAt K D [] := fun _ h => by cases h
theorem kw_int {D : Addr} {x : Str} {i : Int} {t : Tok} {r : List (Str × V)} (h : PySem.W.nsIn K D x = some (some (.int i t))) (k : KwAt K D r) : KwAt K D ((x, .int i) :: r) := fun q hq => by
  rcases List.mem_cons.mp hq with e | hq
  · subst e; exact ⟨_, h, _, rfl⟩
  · exact k q hq
theorem kw_str {D : Addr} {x y : Str} {t : Tok} {r : List (Str × V)} (h : PySem.W.nsIn K D x = some (some (.str y t))) (k : KwAt K D r) : KwAt K D ((x, .str y) :: r) := fun q hq => by
  rcases List.mem_cons.mp hq with e | hq
  · subst e; exact ⟨_, h, _, rfl⟩
  · exact k q hq
/-- a def with keyword-only defaults (none of the others has one) -/
theorem fun_mkK {x qual : Str} {params : Arguments} {body : List Stmt} {scope : Scope} {oc : Value} {od an : Option Addr} {sl : Array (Option Value)} {D f : Addr} {dc pm cd ct : Value} {kws : List (Str × V)}
    (l : K.lookup f = some ⟨oc, od, .func (PySem.W.fnOf x qual params body scope .none (.ref D) dc pm an cd ct), sl⟩) (c : PySem.W.codeIn K cd qual = true) (k : PySem.W.keepIn K (.ref f) = true) (q : KwAt K D kws) :
    FunD K x qual params body scope [] kws f (PySem.W.fnOf x qual params body scope .none (.ref D) dc pm an cd ct) :=
  ⟨⟨_, _, _, _, _, _, _, _, _, _, rfl, l, c, .inl ⟨rfl, rfl⟩, .inr ⟨D, rfl, q⟩⟩, k⟩
end
/-- data as values: what defaults are -/
def dV : D → V
  | .non => .non
  | .bl b => .bl b
  | .int i => .int i
  | .str x => .str x
  | _ => .non
end DL
end
section
/-! A def with keyword-only defaults: what a call by keywords asks (DefKN). -/
namespace DL
open PySem L2 PyProof.Rows
/-- values in the parameters' order: inl i: the i-th default that is used, inr i: the i-th keyword's value -/
def pk {α : Type} : List (Nat ⊕ Nat) → List α → List α → List α
  | [], _, _ => []
  | .inl i :: s, b, c => (match b[i]? with
    | some x => x :: pk s b c
    | none => pk s b c)
  | .inr i :: s, b, c => (match c[i]? with
    | some x => x :: pk s b c
    | none => pk s b c)
theorem vals_none {vs : List V} {us : List Value} (r : Vals vs us) {i : Nat} (h : vs[i]? = none) : us[i]? = none := by
  rw [List.getElem?_eq_none_iff] at h ⊢
  rw [← r.length]; exact h
theorem pk_vals {b c : List V} {b' c' : List Value} (rb : Vals b b') (rc : Vals c c') : ∀ s : List (Nat ⊕ Nat), Vals (pk s b c) (pk s b' c')
  | [] => .nil
  | .inl i :: s => by
    simp only [pk]
    cases h : b[i]? with
    | none => rw [vals_none rb h]; exact pk_vals rb rc s
    | some x => obtain ⟨u, e, r⟩ := rb.get h; rw [e]; exact .cons r (pk_vals rb rc s)
  | .inr i :: s => by
    simp only [pk]
    cases h : c[i]? with
    | none => rw [vals_none rc h]; exact pk_vals rb rc s
    | some x => obtain ⟨u, e, r⟩ := rc.get h; rw [e]; exact .cons r (pk_vals rb rc s)
theorem isL_none {G : Glb} {φ : Fi} {H : Hp} {ds : List D} {vs : List V} (r : IsL G φ H ds vs) {i : Nat} (h : ds[i]? = none) : vs[i]? = none := by
  rw [List.getElem?_eq_none_iff] at h ⊢
  rw [← r.length]; exact h
theorem pk_isL {G : Glb} {φ : Fi} {H : Hp} {b c : List D} {b' c' : List V} (rb : IsL G φ H b b') (rc : IsL G φ H c c') : ∀ s : List (Nat ⊕ Nat), IsL G φ H (pk s b c) (pk s b' c')
  | [] => rfl
  | .inl i :: s => by
    simp only [pk]
    cases h : b[i]? with
    | none => rw [isL_none rb h]; exact pk_isL rb rc s
    | some x => obtain ⟨u, e, r⟩ := rb.get h; rw [e]; exact .cons r (pk_isL rb rc s)
  | .inr i :: s => by
    simp only [pk]
    cases h : c[i]? with
    | none => rw [isL_none rc h]; exact pk_isL rb rc s
    | some x => obtain ⟨u, e, r⟩ := rc.get h; rw [e]; exact .cons r (pk_isL rb rc s)
end DL
end
section
/-! D-layer, part 18: text.split(text). -/
namespace DL
open PySem L2
variable {G : Glb} {X : Cx} {W : WX}
theorem isL_strs {φ : Fi} {H : Hp} : ∀ xs : List Str, IsL G φ H (xs.map .str) (xs.map V.str)
  | [] => rfl
  | x :: xs => ⟨.str x, _, rfl, rfl, isL_strs xs⟩
def mSplit (o : D) (ds : List D) (S : Store) : ER := match o, ds with
  | .str a, [.str b] => if (b.length == 0) = false ∧ a.length ≤ 10000000 then .ok (.lst ((Txt.split a b).map .str)) S else .bad
  | _, _ => .bad
theorem dm_split : DMeth G X "str.split" mSplit := by
  refine ⟨_, mt_split, fun W φ S H σ dx ds x xs Q s ix ids h => ?_⟩
  unfold mSplit at h
  split at h
  · rename_i a b
    obtain ⟨y, rfl, k⟩ := IsL.inv1 ids
    cases (show y = _ from k)
    split at h
    · rename_i c
      refine ⟨a, b, ix, rfl, c.1, by rw [sizeLine_eq]; omega, ?_⟩
      intro p hp
      exact lst_new s (isL_strs _) h hp
    · exact bad_no h
  · exact bad_no h
end DL
end
section
/-! D-layer, part 19: list(d.items()), d a dict that may be locked. -/
namespace DL
open PySem PySem.Spec PyProof.Rows L2
section
variable {X : Cx} {e : Expr} {te : TE} {p apos cpos pos : Pos}
end
variable {G : Glb} {X : Cx} {W : WX}
end DL
end
section
/-! Own classes: isinstance with both answers, methods. -/
namespace L2
open PySem PySem.Spec PyProof.Rows
/-- types, wider still -/
inductive TyZ (K : PySem.W.Frag) (H : Hp) : V → Value → Prop where
  | x {v : V} {t : Value} (h : TyX K H v t) : TyZ K H v t
  | fT {a : Addr} {o : Obj} {kvs : List (List Key × V)} (e : H a = some (.frz o (.dT kvs))) : TyZ K H (.ref a) (.type "dict")
theorem kit_ofZ {X : Cx} {pins : List (Addr × Obj)} {σ : St} {H : Hp} {s : Shared} {v : V} {u t : Value} (I : Inv X pins σ H s) (rx : RelV v u) (ty : TyZ X.K H v t) : ∃ P : Heap → Prop, PySem.W.KitX X.K u t P ∧ P s.heap ∧ u ≠ .builtin "__main__.__loader__#opaque" := by
  cases ty with
  | x h => exact kit_of I rx h
  | @fT a ob kvs ea =>
    cases (show u = Value.ref a from rx)
    obtain ⟨_, q⟩ := I.hok a _ ea
    obtain ⟨_, _, xs, _, o, es, ep, h1, h2, _⟩ := (show ObjOk X.prog X.w H s.heap a (.dT kvs) from q)
    exact ⟨_, PySem.W.kitx_dict, ⟨o, h1, h2.1⟩, fun z => nomatch z⟩
def rIsZ (K : PySem.W.Frag) : List V → Hp → VK → Prop := fun xs H Q => ∃ (x c : V) (t u : Value) (b : Bool), xs = [x, c] ∧ ClsV c u ∧ TyZ K H x t ∧ PySem.W.kitOne K t u = some b ∧ Q (.bl b) H
section
variable {X : Cx}
theorem call_isZ : CallR X (.builtin "isinstance") (rIsZ X.K) := by
  intro pins s σ H xs us Q I r h
  obtain ⟨x, c, t, u, b, rfl, k, ty, e, q⟩ := h
  obtain ⟨w1, w2, rfl, p1, p2⟩ := vals2 r
  cases k.eq p2
  obtain ⟨P, Z, p, hx⟩ := kit_ofZ I p1 ty
  exact PySem.W.kia_one Z I.kIn p e hx fun tk => ⟨.bl b, H, I.tok tk, rfl, q⟩
end
/-! ### methods, where no guard stands below -/
section
variable {X : Cx} {CX : CXT} {k : Nat} {m : Str} {E : St → XK} {pos apos : Pos} {e o : Expr} {es : List Expr} {ta : TE} {t : TA} {Ok : Addr → Addr → Sp → Prop}
end
end L2
namespace DL
open PySem L2
variable {G : Glb} {X : Cx} {W : WX}
/-! ### isinstance -/
/-- built-in types, own classes, own exceptions, built-in exceptions -/
inductive TyD where
  | b (t : Ty) | o (c : Str) | x (c : Str)
def ClD (G : Glb) : TyD → Value → Prop
  | .b t, v => v = .type t.nm
  | .o c, v => ∃ C, G.ca c = some C ∧ v = .ref C
  | .x _, _ => False
/-- what isinstance asks of an own class -/
structure OwnC (K : PySem.W.Frag) (C : Addr) : Prop where
  cl : Cls K C
  ha : PySem.W.findIn K (.ref C) "__class__" = some (some (.builtin "object.__class__"))
  hn : PySem.W.specialIn K (.builtin "object.__class__") "__get__" = some (some (.builtin "getset_descriptor.__get__"))
  ht : PySem.W.takesIn K (.builtin "object.__class__") = some true
  hm : PySem.W.mroIn K C (.type "object") = some true
def tyO (S : Store) : D → Option TyD
  | .obj c _ _ => some (.o c)
  | .dct _ _ => some (.b .dict)
  | .loc l => match S[l]? with
    | some (.ins c _) => some (.o c)
    | some (.lst _) => some (.b .list)
    | some (.dic _) => some (.b .dict)
    | some (.dct _) => some (.b .dict)
    | none => none
  | d => (tyOf S d).map .b
theorem tyO_is (hc : ∀ c C, G.ca c = some C → OwnC G.K C) {φ : Fi} {S : Store} {H : Hp} {d : D} {v : V} {t : TyD} (s : SOk G φ S H) (i : Is G φ H d v) (e : tyO S d = some t) : ∃ tv, ClD G t tv ∧ TyZ G.K H v tv := by
  have old : ∀ {d : D} {v : V}, Is G φ H d v → (tyOf S d).map TyD.b = some t → ∃ tv, ClD G t tv ∧ TyZ G.K H v tv := fun i e => by
    obtain ⟨a, e1, e2⟩ := Option.map_eq_some_iff.mp e
    subst e2
    exact ⟨_, rfl, .x (tyOf_is s i e1)⟩
  have own : ∀ {c : Str} {C a dx : Addr} {fs : List (Str × V)}, G.ca c = some C → H a = some (.ins C dx fs) → ∃ tv, ClD G (.o c) tv ∧ TyZ G.K H (.ref a) tv := fun {c C a dx fs} h1 h2 => by
    have q := hc c C h1
    exact ⟨_, ⟨C, h1, rfl⟩, .x (.base (.ins h2 q.cl q.ha q.hn q.ht q.hm))⟩
  cases d with
  | obj c ks ds =>
    cases e
    obtain ⟨a, C, dx, fs, rfl, ⟨_, h⟩, h1, _⟩ := i
    exact own h1 h
  | dct ks ds =>
    cases e
    obtain ⟨a, xs, rfl, ⟨_, r | ⟨o, r⟩⟩, _⟩ := i
    · exact ⟨_, rfl, .x (.base (.dT r))⟩
    · exact ⟨_, rfl, .fT r⟩
  | loc l =>
    simp only [tyO] at e
    split at e
    · rename_i c fs hl
      cases e
      obtain ⟨a, ha, rfl⟩ := i
      obtain ⟨C, dx, ws, h1, h2, _⟩ := s.at_ hl ha
      exact own h1 h2
    all_goals first | (cases e; done) | (rename_i hl; exact old (d := .loc l) i (by simp only [tyOf]; rw [hl]; exact e))
  | exn c ks ds => cases e
  | tpl ds => exact old i e
  | non => exact old i e
  | bl b => exact old i e
  | int b => exact old i e
  | str b => exact old i e
  | tup b => exact old i e
  | lst b => exact old i e
  | dic ks b => exact old i e
/-- what a class says of things -/
structure IsT (G : Glb) (u : Value) (tab : TyD → Option Bool) : Prop where
  ok : ∀ t tv r, ClD G t tv → tab t = some r → PySem.W.kitOne G.K tv u = some r
def tabB (b : Ty) : TyD → Option Bool
  | .b t => some (t.isa b)
  | _ => some false
def tabO (c0 : Str) : TyD → Option Bool
  | .o c => some (decide (c = c0))
  | _ => some false
theorem kit_ref {K : PySem.W.Frag} {C : Addr} {t : Value} {b : Bool} (h1 : PySem.W.isClsIn K C = true) (h2 : PySem.W.typeIn K (.ref C) = some (.type "type")) (h3 : PySem.W.subIn K t (.ref C) = some b) (h4 : t = .ref C → b = true) : PySem.W.kitOne K t (.ref C) = some b := by
  unfold PySem.W.kitOne
  split
  · rename_i z
    rw [h4 (beq_iff_eq.mp z)]
  · unfold PySem.W.kitCls
    dsimp only
    rw [if_pos]
    · exact h3
    · rw [Bool.and_eq_true]
      exact ⟨h1, beq_iff_eq.mpr h2⟩
theorem kit_type {K : PySem.W.Frag} {C : Addr} {T : String} {b : Bool} (hT : PySem.W.kitMeta T = true) (h3 : PySem.W.mroIn K C (.type T) = some b) : PySem.W.kitOne K (.ref C) (.type T) = some b := by
  unfold PySem.W.kitOne
  rw [if_neg (by intro z; exact nomatch beq_iff_eq.mp z)]
  unfold PySem.W.kitCls
  dsimp only
  rw [if_pos hT]
  exact h3
theorem isT_b (b : Ty) (hb : b ≠ .none) (ho : ∀ c C, G.ca c = some C → PySem.W.mroIn G.K C (.type b.nm) = some false) : IsT G (.type b.nm) (tabB b) := by
  have hM : PySem.W.kitMeta b.nm = true := by cases b <;> first | exact absurd rfl hb | decide +kernel
  refine ⟨fun t tv r h1 h2 => ?_⟩
  cases t with
  | b t => cases (show tv = _ from h1); cases h2; exact kit_ty (ty_kit t b hb)
  | o c => obtain ⟨C, e1, rfl⟩ := h1; cases h2; exact kit_type hM (ho c C e1)
  | x c => exact False.elim h1
theorem isT_o {c0 : Str} {C0 : Addr} (h0 : G.ca c0 = some C0) (h1 : PySem.W.isClsIn G.K C0 = true) (h2 : PySem.W.typeIn G.K (.ref C0) = some (.type "type")) (ho : ∀ c C, G.ca c = some C → PySem.W.mroIn G.K C (.ref C0) = some (decide (c = c0))) :
    IsT G (.ref C0) (tabO c0) := by
  have self : PySem.W.mroIn G.K C0 (.ref C0) = some true := by rw [ho c0 C0 h0, decide_eq_true rfl]
  refine ⟨fun t tv r q1 q2 => ?_⟩
  cases t with
  | b t =>
    cases (show tv = _ from q1); cases q2
    refine kit_ref h1 h2 ?_ (fun z => nomatch z)
    cases t <;> rfl
  | o c =>
    obtain ⟨C, e1, rfl⟩ := q1; cases q2
    refine kit_ref h1 h2 (ho c C e1) fun z => ?_
    have e := Value.ref.inj z
    subst e
    have a := ho c C e1
    rw [self] at a
    exact (Option.some.inj a).symm
  | x c => exact False.elim q1
theorem ca_all {l : List (Str × Addr)} {P : Str → Addr → Prop} (h : ∀ p ∈ l, P p.1 p.2) : ∀ c C, l.lookup c = some C → P c C := by
  intro c C e
  induction l with
  | nil => cases e
  | cons p r ih =>
    obtain ⟨c1, C1⟩ := p
    rw [List.lookup_cons] at e
    cases hb : c == c1 with
    | true =>
      rw [hb] at e; cases e
      have : c = c1 := beq_iff_eq.mp hb
      subst this
      exact h _ List.mem_cons_self
    | false => rw [hb] at e; exact ih (fun p hp => h p (List.mem_cons_of_mem _ hp)) e
def eIsC (tab : TyD → Option Bool) (f : EM) : EM := fun env S => (f env S).bind fun d S => match (tyO S d).bind tab with
  | some b => .ok (.bl b) S
  | none => .bad
/-- a class, written by its name -/
structure CName (X : Cx) (x : Str) (v : V) (u : Value) : Prop where
  pe : ∀ pos : Pos, PE X (.Name x pos) (tC v)
  cv : ClsV v u
theorem cn_ty {x : Str} {T : String} (hg : Gl X x) (hm : X.mg x = none) (hv : bootBuiltins x = some (.type T)) (hn : x ≠ "__name__" := by decide) (hdb : (x == ("__debug__" : Str)) = false := by decide) : CName X x (.ty T) (.type T) :=
  ⟨fun _ => pe_bltn hg hm hv rfl hn hdb, .ty T⟩
theorem de_isC {x : Str} {v : V} {u : Value} {tab : TyD → Option Bool} {e : Expr} {p p2 pos : Pos} {f : EM} (hK : X.K = G.K) (hc : ∀ c C, G.ca c = some C → OwnC G.K C) (ist : IsT G u tab) (cn : CName X x v u) (hg : Gl X "isinstance") (hm : X.mg "isinstance" = none) (he : DE G X W e f)
    (hst : starEach [e, .Name x p2] X.env = (false, eval e X.env) :: starEach [.Name x p2] X.env := by rfl) (hst2 : starEach [.Name x p2] X.env = (false, eval (.Name x p2) X.env) :: starEach [] X.env := by rfl) (hpl : (backTo pos (starEach [.Name x p2] X.env)).any (·.1) = false := by rfl) :
    DE G X W (.Call (.Name "isinstance" p) [e, .Name x p2] [] pos) (eIsC tab f) := by
  obtain ⟨t, pt, qt⟩ := he
  refine ⟨_, pe_callB call_isZ hg hm (by decide +kernel) (pa_cons pt (pa_cons (cn.pe p2) pa_nil hst2) hst) (by decide) (by decide) hst hpl, fun σ H env φ S Q s re h => ?_⟩
  refine qt σ H env φ S _ s re (PostE.bind h fun d S1 φ1 H1 y e1 s1 i1 h1 => ?_)
  split at h1
  · rename_i b hb
    obtain ⟨t, ht, hb⟩ := Option.bind_eq_some_iff.mp hb
    obtain ⟨tv, c1, c2⟩ := tyO_is hc s1 i1 ht
    exact ⟨y, v, tv, u, b, rfl, cn.cv, by rw [hK]; exact c2, by rw [hK]; exact ist.ok t tv b c1 hb, h1.now s1 rfl⟩
  · exact False.elim h1
def tabF : TyD → Option Bool := fun _ => some false
def tabOr (a b : TyD → Option Bool) : TyD → Option Bool := fun t => match a t with
  | some true => some true
  | some false => b t
  | none => none
@[simp] theorem tabF_is {t : TyD} : tabF t = some false := rfl
@[simp] theorem tabOr_is {a b : TyD → Option Bool} {t : TyD} : tabOr a b t = match a t with
  | some true => some true
  | some false => b t
  | none => none := rfl
/-- isinstance(e, (A, B, ..)) -/
inductive CNames (G : Glb) (X : Cx) : List Expr → List V → List Value → (TyD → Option Bool) → Prop where
  | nil : CNames G X [] [] [] tabF
  | cons {x : Str} {pos : Pos} {v : V} {u : Value} {tab tab2 : TyD → Option Bool} {es : List Expr} {vs : List V} {us : List Value} (cn : CName X x v u) (ist : IsT G u tab) (r : CNames G X es vs us tab2)
      (hs : starEach (.Name x pos :: es) X.env = (false, eval (.Name x pos) X.env) :: starEach es X.env := by rfl) : CNames G X (.Name x pos :: es) (v :: vs) (u :: us) (tabOr tab tab2)
theorem CNames.pa {es : List Expr} {vs : List V} {us : List Value} {tab : TyD → Option Bool} (c : CNames G X es vs us tab) : ∃ t, PA X es t ∧ ∀ σ H Q, Q vs H → t σ H Q := by
  induction c with
  | nil => exact ⟨_, pa_nil, fun _ _ _ h => h⟩
  | cons cn ist r hs ih =>
    obtain ⟨t, h1, h2⟩ := ih
    exact ⟨_, pa_cons (cn.pe _) h1 hs, fun σ H Q h => h2 σ H _ h⟩
theorem CNames.vs {es : List Expr} {vs : List V} {us : List Value} {tab : TyD → Option Bool} (c : CNames G X es vs us tab) : Paired ClsV vs us := by
  induction c with
  | nil => exact .nil
  | cons cn ist r hs ih => exact .cons cn.cv ih
theorem CNames.len {es : List Expr} {vs : List V} {us : List Value} {tab : TyD → Option Bool} (c : CNames G X es vs us tab) : vs.length = es.length := by
  induction c with
  | nil => rfl
  | cons cn ist r hs ih => simp [ih]
theorem CNames.any {es : List Expr} {vs : List V} {us : List Value} {tab : TyD → Option Bool} (c : CNames G X es vs us tab) : ∀ {t : TyD} {tv : Value} {b : Bool}, ClD G t tv → tab t = some b → PySem.W.kitAny G.K tv us = some b := by
  induction c with
  | nil => intro t tv b _ h; cases h; rfl
  | @cons x pos v u tab tab2 es vs us cn ist r hs ih =>
    intro t tv b h1 h2
    unfold PySem.W.kitAny
    unfold tabOr at h2
    cases h3 : tab t with
    | none => rw [h3] at h2; cases h2
    | some b1 =>
      rw [h3] at h2
      rw [ist.ok t tv b1 h1 h3]
      cases b1 with
      | true => exact h2
      | false => exact ih h1 h2
section
variable {S : Store} {env : EnvD}
@[simp] theorem eIsC_is {tab : TyD → Option Bool} {f : EM} : eIsC tab f env S = (f env S).bind fun d S => match (tyO S d).bind tab with
  | some b => .ok (.bl b) S
  | none => .bad := rfl
@[simp] theorem tyO_obj {c ks ds} : tyO S (.obj c ks ds) = some (.o c) := rfl
@[simp] theorem tyO_non : tyO S .non = some (.b .none) := rfl
@[simp] theorem tyO_bl {b} : tyO S (.bl b) = some (.b .bool) := rfl
@[simp] theorem tyO_int {b} : tyO S (.int b) = some (.b .int) := rfl
@[simp] theorem tyO_str {b} : tyO S (.str b) = some (.b .str) := rfl
@[simp] theorem tyO_tup {b} : tyO S (.tup b) = some (.b .tuple) := rfl
@[simp] theorem tyO_lst {b} : tyO S (.lst b) = some (.b .list) := rfl
@[simp] theorem tyO_dic {k b} : tyO S (.dic k b) = some (.b .dict) := rfl
@[simp] theorem tyO_dct {k b} : tyO S (.dct k b) = some (.b .dict) := rfl
@[simp] theorem tyO_loc {l : Nat} : tyO S (.loc l) = match cel S l with
    | some (.ins c _) => some (.o c)
    | some (.lst _) => some (.b .list)
    | some (.dic _) => some (.b .dict)
    | some (.dct _) => some (.b .dict)
    | none => none := rfl
@[simp] theorem tabB_b {a b : Ty} : tabB b (.b a) = some (a.isa b) := rfl
@[simp] theorem tabB_o {c} {b : Ty} : tabB b (.o c) = some false := rfl
@[simp] theorem tabB_x {c} {b : Ty} : tabB b (.x c) = some false := rfl
@[simp] theorem tabO_b {a : Ty} {c} : tabO c (.b a) = some false := rfl
@[simp] theorem tabO_o {c c'} : tabO c (.o c') = some (decide (c' = c)) := rfl
@[simp] theorem tabO_x {c c'} : tabO c (.x c') = some false := rfl
end
end DL
end
section
/-! Methods of own classes and new instances, over data. -/
namespace L2
open PySem PySem.Spec PyProof.Rows
section
variable {X : Cx} {k : Nat} {f C : Addr} {fd : FuncData} {ps : List Str} {sp : Sp} {E : St → XK} {x : Str} {p pos : Pos} {CX : CXT}
end
end L2
namespace DL
open PySem L2
variable {G : Glb} {X : Cx} {W : WX}
/-! ### o.f, o.f = e where the classes are told -/
structure FldOk (G : Glb) (f : Str) (cs : List Str) : Prop where
  ok : ∀ c ∈ cs, ∀ C, G.ca c = some C → Cls G.K C ∧ NoAttr G.K C f
def fldC (S : Store) (d : D) (f : Str) : Option (Str × D) := match d with
  | .obj c ks ds => ((ks.zip ds).lookup f).map fun x => (c, x)
  | .loc l => match S[l]? with
    | some (.ins c fs) => (fs.lookup f).map fun x => (c, x)
    | _ => none
  | _ => none
theorem fldC_is {φ : Fi} {S : Store} {H : Hp} (s : SOk G φ S H) {d : D} {v : V} {f c : Str} {x : D} (i : Is G φ H d v) (h : fldC S d f = some (c, x)) : ∃ a C dx fs y, v = .ref a ∧ H a = some (.ins C dx fs) ∧ G.ca c = some C ∧ fs.lookup f = some y ∧ Is G φ H x y := by
  unfold fldC at h
  split at h
  · obtain ⟨a, C, dx, fs, rfl, ⟨_, hh⟩, hc, hk, q⟩ := i
    obtain ⟨z, e1, e2⟩ := Option.map_eq_some_iff.mp h
    cases e2
    obtain ⟨y, h1, h2⟩ := lookup_is hk q e1
    exact ⟨a, C, dx, fs, y, rfl, hh, hc, h1, h2⟩
  · split at h
    · rename_i e
      obtain ⟨a, ha, rfl⟩ := i
      obtain ⟨C, dx, ws, hc, hh, hk, q⟩ := s.at_ e ha
      obtain ⟨z, e1, e2⟩ := Option.map_eq_some_iff.mp h
      cases e2
      obtain ⟨y, h1, h2⟩ := lookup_is hk q (by rw [zip_unzip]; exact e1)
      exact ⟨a, C, dx, ws, y, rfl, hh, hc, h1, h2⟩
    · cases h
  · cases h
def eFldC (cs : List Str) (f : Str) (e : EM) : EM := fun env S => (e env S).bind fun d S => match fldC S d f with
  | some (c, x) => if c ∈ cs then .ok x S else .bad
  | none => .bad
theorem de_fldC {e : Expr} {f : Str} {pos : Pos} {fe : EM} {cs : List Str} (hK : X.K = G.K) (k : FldOk G f cs) (he : DE G X W e fe) (hb : attributeBase e f X.env (eval e X.env) = eval e X.env := by rfl) : DE G X W (.Attribute e f pos) (eFldC cs f fe) := by
  obtain ⟨t, p, q⟩ := he
  refine ⟨_, pe_fld p hb, fun σ H env φ S Q s re h => ?_⟩
  refine q σ H env φ S _ s re (PostE.bind h fun d S1 φ1 H1 v e1 s1 i1 h1 => ?_)
  split at h1
  · rename_i c x hx
    split at h1
    · rename_i hc
      obtain ⟨a, C, dx, fl, y, rfl, hh, hC, hl, iy⟩ := fldC_is s1 i1 hx
      obtain ⟨k1, k2⟩ := k.ok c hc C hC
      rw [← hK] at k1 k2
      exact ⟨a, C, dx, fl, y, rfl, hh, k1, k2, hl, h1 φ1 H1 y .refl s1 iy⟩
    · exact h1.elim
  · exact h1.elim
def sFldC (cs : List Str) (f : Str) (o e : EM) : SM := fun env S => (e env S).bindS env fun d S => (o env S).bindS env fun a S => match a with
  | .loc l => match S[l]? with
    | some (.ins c fs) => if c ∈ cs ∧ fs.length < 1000 then .nx env (S.set l (.ins c (putFD f d fs))) else .bad
    | _ => .bad
  | _ => .bad
theorem put_fld {φ : Fi} {H : Hp} {S : Store} {l : Nat} {c f : Str} {fs : List (Str × D)} {d : D} {v va : V} {cs : List Str} (k : FldOk G f cs) (s : SOk G φ S H) (hc : S[l]? = some (.ins c fs)) (hm : c ∈ cs) (hl : fs.length < 1000) (i : Is G φ H d v) (ia : Is G φ H (.loc l) va) :
    ∃ a C dx ws, va = .ref a ∧ H a = some (.ins C dx ws) ∧ Cls G.K C ∧ NoAttr G.K C f ∧ ws.length < 1000 ∧ Ext φ H φ (upd H a (.ins C dx (putF f v ws))) ∧ SOk G φ (S.set l (.ins c (putFD f d fs))) (upd H a (.ins C dx (putF f v ws))) := by
  obtain ⟨ad, ha, rfl⟩ := ia
  obtain ⟨C, dx, ws, hcl, hh, hk, q⟩ := s.at_ hc ha
  obtain ⟨k1, k2⟩ := k.ok c hm C hcl
  have wl : ws.length = fs.length := by have := congrArg List.length hk; simpa using this
  have e3 := Ext.put (φ := φ) (H := H) (o := .ins C dx (putF f v ws)) (List.mem_of_getElem? ha)
  obtain ⟨p1, p2⟩ := putF_is (f := f) i hk q
  exact ⟨ad, C, dx, ws, rfl, hh, k1, k2, by omega, e3, s.put ha ⟨C, dx, _, hcl, upd_same, p1, p2.ext e3⟩⟩
theorem ds_fldC {o e : Expr} {f : Str} {pos pos' : Pos} {fo fe : EM} {cs : List Str} (hK : X.K = G.K) (k : FldOk G f cs) (he : DE G X W e fe) (ho : DE G X W o fo) (hs : swapsWith e (some (.Attribute o f pos')) pos.line X.env = pure false := by rfl) :
    DS G X W (.Assign [.Attribute o f pos'] e pos) (sFldC cs f fo fe) := by
  obtain ⟨to, po, qo⟩ := ho
  obtain ⟨te, pe, qe⟩ := he
  refine ⟨_, ps_fld po pe hs, fun σ H env φ S N s re h => ?_⟩
  refine qe σ H env φ S _ s re (PostE.bindS re h fun d S1 φ1 H1 v e1 s1 i1 h1 => ?_)
  have r1 := re.ext e1
  refine qo σ H1 env φ1 S1 _ s1 r1 (PostE.bindS r1 h1 fun a S2 φ2 H2 va e2 s2 i2 h2 => ?_)
  have r2 := r1.ext e2
  split at h2
  · rename_i l
    split at h2
    · rename_i c fs hc
      split at h2
      · rename_i hl
        obtain ⟨a, C, dx, ws, rfl, hh, k1, k2, wl, e3, s3⟩ := put_fld k s2 hc hl.1 hl.2 (i1.ext e2) i2
        rw [← hK] at k1 k2
        exact ⟨a, C, dx, ws, rfl, hh, k1, k2, wl, h2 φ2 _ σ e3 s3 (r2.ext e3)⟩
      · exact h2.elim
    · exact h2.elim
  · exact h2.elim
/-! ### o.m(..) -/
structure MethG (G : Glb) (P : Program) (w : World) (mg : Str → Option Value) (base : Heap) (k : Nat) (c m : Str) (n : Nat) (F : FD) : Prop where
  ex : ∃ C f fd ps, G.ca c = some C ∧ Cls G.K C ∧ Meth G.K C m f ∧ FnG P w G.K mg base (L2.CX P w) k f fd ps (spD G (n + 1) F) ∧ Binds G.K fd ps []
/-- the class of an instance, its attributes' names -/
def insD (S : Store) (d : D) : Option (Str × List Str) := match d with
  | .obj c ks ds => if ks.length = ds.length then some (c, ks) else none
  | .loc l => match S[l]? with
    | some (.ins c fs) => some (c, fs.map (·.1))
    | _ => none
  | _ => none
def eMethO (c m : Str) (F : FD) (o : EM) (f : LM) : EM := fun env S => (o env S).bind fun x S => match insD S x with
  | some (c', ks) => if c' = c ∧ m ∉ ks then (f env S).bindE fun ds S => F (x :: ds) S else .bad
  | none => .bad
/-! ### C() and C(.., k = v) with keywords left out -/
/-- m: how many values __init__ takes beside self; gD: these from what is written -/
structure ClsKN (G : Glb) (P : Program) (w : World) (mg : Str → Option Value) (base : Heap) (k : Nat) (x : Str) (n : Nat) (ks : List Str) (m : Nat) (gD : List D → List D → List D) (F : FD) : Prop where
  ex : ∃ C f fd ps g gV, Mk G.K C f ∧ FnG P w G.K mg base (L2.CX P w) k f fd ps (spD G m F) ∧ mg x = some (.ref C) ∧ G.ca x = some C ∧ KBn G.K fd ps (n + 1) ks g gV ∧
    ∀ {φ : Fi} {H : Hp} {ds es : List D} {vs zs : List V}, ds.length = n + 1 → es.length = ks.length → IsL G φ H ds vs → IsL G φ H es zs → IsL G φ H (gD ds es) (gV vs zs) ∧ (gD ds es).length = m
def eMakeKN (c : Str) (gD : List D → List D → List D) (F : FD) (f fk : LM) : EM := fun env S => (f env S).bindE fun ds S0 => (fk env S0).bindE fun es S1 => match F (gD (.loc S1.length :: ds) es) (S1 ++ [.ins c []]) with
  | .ok .non S2 => .ok (.loc S1.length) S2
  | .ex x S2 => .ex x S2
  | _ => .bad
theorem de_makeKN {x : Str} {k n m : Nat} {ks : List Str} {gD : List D → List D → List D} {F : FD} {p pos : Pos} {e : Expr} {es : List Expr} {kws : List Keyword} {fa fk : LM} (d : ClsKN G X.prog X.w X.mg X.base k x n ks m gD F) (gd : X.A.guards = some []) (hK : X.K = G.K) (hr : Room (k + 1) X.A) (hg : Gl X x) (tk : Takes X W) (ha : DA G X W (e :: es) fa) (hk : DK G X W kws fk)
    (hla : ∀ env S ds S', fa env S = .ok ds S' → ds.length = n) (hlk : ∀ env S ds S', fk env S = .ok ds S' → ds.length = ks.length)
    (hall : (backToKw pos (keywordEach kws X.env)).all (·.1.isSome) = true := by rfl) (hks : (backToKw pos (keywordEach kws X.env)).filterMap (·.1) = ks := by rfl) (hdb : (x == ("__debug__" : Str)) = false := by decide)
    (he : starEach (e :: es) X.env = (false, eval e X.env) :: starEach es X.env := by rfl) (hpl : ((backTo pos (starEach (e :: es) X.env)).any (·.1) || (backToKw pos (keywordEach kws X.env)).any (·.1.isNone)) = false := by rfl) :
    DE G X W (.Call (.Name x p) (e :: es) kws pos) (eMakeKN x gD F fa fk) := by
  obtain ⟨C, f, fd, ps, g, gV, M, FO, hm, hc, hb, hrel⟩ := d.ex
  rw [← hK] at FO M hb
  obtain ⟨t, pt, qt⟩ := ha
  obtain ⟨tk', pk, qk⟩ := hk
  refine ⟨_, pe_makeKG M FO gd hr hg hm hb (fun σ => passAt tk σ) pt pk hall hks hdb he hpl, fun σ H env φ S Q s re h => ?_⟩
  refine qt σ H env φ S _ s re ?_
  unfold eMakeKN at h
  cases hf : fa env S with
  | ok ds S0 =>
    rw [hf] at h
    intro φ0 H0 vs e0 s0 i0
    refine qk σ H0 env φ0 S0 _ s0 (re.ext e0) ?_
    have h := PostE.ext e0 h
    change PostE G W φ0 H0 σ ((fk env S0).bindE _) Q at h
    cases hf2 : fk env S0 with
    | ok es2 S1 =>
      rw [hf2] at h
      intro φ1 H1 zs e1 s1 i1
      have l0 := hla _ _ _ _ hf
      have l1 := hlk _ _ _ _ hf2
      refine ⟨by rw [← i0.length]; exact l0, by rw [← i1.length]; exact l1, ?_⟩
      intro a dx ha hdx hne
      have e2 : Ext φ1 H1 φ1 (upd H1 dx (.own a)) := .laid hdx
      have s2 := s1.laid (o := .own a) hdx
      have ha2 : upd H1 dx (.own a) a = none := by rw [upd_ne (Ne.symm hne)]; exact ha
      have e3 := Ext.newCell (o := .ins C dx []) s2 ha2
      have s3 := s2.newCell (c := .ins x []) ha2 ⟨C, dx, [], hc, upd_same, rfl, rfl⟩
      have le : S1.length = φ1.c.length := s1.len.symm
      have get : (φ1.add a).c[S1.length]? = some a := by rw [le]; simp [Fi.add]
      have ee := (e1.trans e2).trans e3
      have iv : IsL G (φ1.add a) (upd (upd H1 dx (.own a)) a (.ins C dx [])) (.loc S1.length :: ds) (.ref a :: vs) := .cons ⟨a, get, rfl⟩ (i0.ext ee)
      obtain ⟨i3, l3⟩ := hrel (by rw [List.length_cons, l0]) l1 iv ((i1.ext e2).ext e3)
      refine ⟨by rw [← i3.length]; exact l3, φ1.add a, _, _, s3, i3, ?_⟩
      change PostE G W φ0 H0 σ (match F (gD (.loc S1.length :: ds) es2) (S1 ++ [.ins x []]) with | .ok .non S2 => .ok (.loc S1.length) S2 | .ex x S2 => .ex x S2 | _ => .bad) Q at h
      cases hF : F (gD (.loc S1.length :: ds) es2) (S1 ++ [.ins x []]) with
      | ok d2 S2 =>
        rw [hF] at h
        cases d2 with
        | non => exact fun φ4 H4 v e4 s4 i4 => ⟨i4, h φ4 H4 (.ref a) (ee.trans e4) s4 ⟨a, e4.get get, rfl⟩⟩
        | _ => exact h.elim
      | ex x2 S2 =>
        rw [hF] at h
        exact PostE.ext (r := .ex x2 S2) ee h
      | bad => rw [hF] at h; exact h.elim
    | ex x2 S1 => rw [hf2] at h; exact h
    | bad => rw [hf2] at h; exact h
  | ex x2 S1 => rw [hf] at h; exact h
  | bad => rw [hf] at h; exact h
/-- what KBn and the class's facts give of a class with keyword-only defaults -/
theorem clsKN {P : Program} {w : World} {mg : Str → Option Value} {base : Heap} {c x qual : Str} {params : Arguments} {body : List Stmt} {scope : Scope} {kws : List (Str × V)} {f C : Addr} {fd : FuncData} {ps : List Str} {k m : Nat} {Fd : FD}
    (F : FunD G.K x qual params body scope [] kws f fd) (M : Mk G.K C f) (FO : FnG P w G.K mg base (L2.CX P w) k f fd ps (spD G m Fd)) (hm : mg c = some (.ref C)) (hc : G.ca c = some C) (n : Nat) (ks : List Str) (ms : List (Str × V)) (dfl : List D) (s : List (Nat ⊕ Nat))
    (hk : kws ≠ []) (hms : ∀ q ∈ ms, q ∈ kws) (hd : ∀ {φ : Fi} {H : Hp}, IsL G φ H dfl (ms.map (·.2)))
    (hl : ∀ es : List D, es.length = ks.length → n + 1 + (pk s dfl es).length = m)
    (h : ∀ (D : Addr) (doc pm : Value) (an : Option Addr) (cdv ct : Value) (us mv ws : List Value), us.length = n + 1 → mv.length = ms.length → ws.length = ks.length →
      KwChain D ((ms.map (·.1)).zip mv) (bindArgs (PySem.W.fnOf x qual params body scope .none (.ref D) doc pm an cdv ct) ⟨us, ks.zip ws⟩) (ps.zip (us ++ pk s mv ws))) :
    ClsKN G P w mg base k c n ks m (fun ds es => ds ++ pk s dfl es) Fd := by
  obtain ⟨mv, hb⟩ := F.kbinds0 (ps := ps) (n + 1) ks ms (fun {α} a b c => a ++ pk s b c) hk hms (fun r1 r2 r3 => r1.append (pk_vals r2 r3 s)) h
  refine ⟨C, f, fd, ps, _, _, M, FO, hm, hc, hb, fun l0 l1 i0 i1 => ⟨isL_append i0 (pk_isL hd i1 s), ?_⟩⟩
  rw [List.length_append, l0]
  exact hl _ l1
section
variable {S : Store} {env : EnvD}
@[simp] theorem eFldC_is {cs : List Str} {f : Str} {e : EM} : eFldC cs f e env S = (e env S).bind fun d S => match fldC S d f with
  | some (c, x) => if c ∈ cs then .ok x S else .bad
  | none => .bad := rfl
@[simp] theorem sFldC_is {cs : List Str} {f : Str} {o e : EM} : sFldC cs f o e env S = (e env S).bindS env fun d S => (o env S).bindS env fun a S => match a with
  | .loc l => match S[l]? with
    | some (.ins c fs) => if c ∈ cs ∧ fs.length < 1000 then .nx env (S.set l (.ins c (putFD f d fs))) else .bad
    | _ => .bad
  | _ => .bad := rfl
@[simp] theorem eMethO_is {c m : Str} {F : FD} {o : EM} {f : LM} : eMethO c m F o f env S = (o env S).bind fun x S => match insD S x with
  | some (c', ks) => if c' = c ∧ m ∉ ks then (f env S).bindE fun ds S => F (x :: ds) S else .bad
  | none => .bad := rfl
@[simp] theorem eMake_is {c : Str} {F : FD} {f : LM} : eMake c F f env S = (f env S).bindE fun ds S1 => match F (.loc S1.length :: ds) (S1 ++ [.ins c []]) with
  | .ok .non S2 => .ok (.loc S1.length) S2
  | .ex x S2 => .ex x S2
  | _ => .bad := rfl
@[simp] theorem eMakeKN_is {c : Str} {gD : List D → List D → List D} {F : FD} {f fk : LM} : eMakeKN c gD F f fk env S = (f env S).bindE fun ds S0 => (fk env S0).bindE fun es S1 => match F (gD (.loc S1.length :: ds) es) (S1 ++ [.ins c []]) with
  | .ok .non S2 => .ok (.loc S1.length) S2
  | .ex x S2 => .ex x S2
  | _ => .bad := rfl
end
end DL
end
section
/-! sorted of lists of tuples of ints and texts of one form, any number of them. -/
namespace L2
open PySem PySem.Spec PyProof.Rows
/-! the order of keys and of tuples of keys -/
def ltK1 : Key → Key → Bool
  | .inl a, .inl b => decide (a < b)
  | .inr a, .inr b => decide (a.cps.toList < b.cps.toList)
  | .inl _, .inr _ => true
  | .inr _, .inl _ => false
def ltKs : List Key → List Key → Bool
  | _, [] => false
  | [], _ :: _ => true
  | a :: as, b :: bs => if a = b then ltKs as bs else ltK1 a b
/-- a strict order of all things -/
structure Lin {α : Type} (lt : α → α → Bool) : Prop where
  irr : ∀ a, lt a a = false
  tr : ∀ a b c, lt a b = true → lt b c = true → lt a c = true
  tri : ∀ a b, lt a b = false → lt b a = false → a = b
theorem Lin.asym {α : Type} {lt : α → α → Bool} (L : Lin lt) {a b : α} (h : lt a b = true) : lt b a = false := by
  cases e : lt b a with
  | false => rfl
  | true => have := L.tr a b a h e; rw [L.irr] at this; cases this
theorem Lin.swo {α : Type} {lt : α → α → Bool} (L : Lin lt) : SrtO.Swo lt := by
  refine ⟨fun x y h => L.asym h, fun x y z h1 h2 => ?_⟩
  cases e : lt z x with
  | false => rfl
  | true =>
    cases e2 : lt x y with
    | true => rw [L.tr z x y e e2] at h2; cases h2
    | false => cases L.tri x y e2 h1; rw [e] at h2; cases h2
theorem Lin.map {α β : Type} {lt : β → β → Bool} (L : Lin lt) (f : α → β) : SrtO.Swo fun x y => lt (f x) (f y) := ⟨fun x y h => L.swo.asym _ _ h, fun x y z h1 h2 => L.swo.tr _ _ _ h1 h2⟩
theorem str_ext {a b : PySem.Str} (h : a.cps.toList = b.cps.toList) : a = b := by
  obtain ⟨x⟩ := a
  obtain ⟨y⟩ := b
  have : x = y := Array.toList_inj.mp h
  rw [this]
theorem lin_K1 : Lin ltK1 := by
  refine ⟨fun a => ?_, fun a b c h1 h2 => ?_, fun a b h1 h2 => ?_⟩
  · rcases a with a | a
    · exact decide_eq_false (Int.lt_irrefl a)
    · exact decide_eq_false (List.lt_irrefl _)
  · rcases a with a | a <;> rcases b with b | b <;> rcases c with c | c <;> first
      | rfl
      | (cases h1; done)
      | (cases h2; done)
      | exact decide_eq_true (Int.lt_trans (of_decide_eq_true h1) (of_decide_eq_true h2))
      | exact decide_eq_true (List.lt_trans (of_decide_eq_true h1) (of_decide_eq_true h2))
  · rcases a with a | a <;> rcases b with b | b
    · have x1 := of_decide_eq_false h1
      have x2 := of_decide_eq_false h2
      exact congrArg _ (by omega)
    · cases h1
    · cases h2
    · have x1 := of_decide_eq_false h1
      have x2 := of_decide_eq_false h2
      exact congrArg _ (str_ext (List.le_antisymm (List.not_lt.mp x2) (List.not_lt.mp x1)))
theorem ltKs_cons {a b : Key} {as bs : List Key} : ltKs (a :: as) (b :: bs) = if a = b then ltKs as bs else ltK1 a b := rfl
theorem ltKs_irr : ∀ l : List Key, ltKs l l = false
  | [] => rfl
  | a :: as => by rw [ltKs_cons, if_pos rfl]; exact ltKs_irr as
theorem ltKs_tr : ∀ l m n : List Key, ltKs l m = true → ltKs m n = true → ltKs l n = true
  | _, [], _, h, _ => by unfold ltKs at h; cases h
  | _, _ :: _, [], _, h => by cases h
  | [], _ :: _, _ :: _, _, _ => rfl
  | a :: as, b :: bs, c :: cs, h1, h2 => by
    rw [ltKs_cons] at h1 h2 ⊢
    by_cases e1 : a = b
    · subst e1
      rw [if_pos rfl] at h1
      by_cases e2 : a = c
      · rw [if_pos e2] at h2 ⊢; exact ltKs_tr as bs cs h1 h2
      · rw [if_neg e2] at h2 ⊢; exact h2
    · rw [if_neg e1] at h1
      by_cases e2 : b = c
      · subst e2; rw [if_neg e1]; exact h1
      · rw [if_neg e2] at h2
        have h3 := lin_K1.tr a b c h1 h2
        rw [if_neg]
        · exact h3
        · intro z; subst z; rw [lin_K1.irr] at h3; cases h3
theorem ltKs_tri : ∀ l m : List Key, ltKs l m = false → ltKs m l = false → l = m
  | [], [], _, _ => rfl
  | [], _ :: _, h, _ => by cases h
  | _ :: _, [], _, h => by cases h
  | a :: as, b :: bs, h1, h2 => by
    rw [ltKs_cons] at h1 h2
    by_cases e1 : a = b
    · subst e1
      rw [if_pos rfl] at h1 h2
      rw [ltKs_tri as bs h1 h2]
    · rw [if_neg e1] at h1
      rw [if_neg (fun z => e1 z.symm)] at h2
      exact absurd (lin_K1.tri a b h1 h2) e1
theorem lin_Ks : Lin ltKs := ⟨ltKs_irr, ltKs_tr, ltKs_tri⟩
theorem sorted_lin {α : Type} {lt : α → α → Bool} (L : Lin lt) : ∀ {l m : List α}, l.Perm m → l.Pairwise (fun a b => lt b a = false) → m.Pairwise (fun a b => lt b a = false) → l = m := fun p h1 h2 =>
  p.eq_of_pairwise (fun a b _ _ x y => L.tri a b y x) h1 h2
/-- the kind of a key -/
def isS : Key → Bool
  | .inl _ => false
  | .inr _ => true
section
variable {prog : Program} {w : World} {A : Around} {E : Value → Shared → Prop} {s : Shared}
def IsKT (h : Heap) (v : Value) (ks : List Key) : Prop := ∃ a o its n, v = .ref a ∧ h.get? a = some o ∧ o.cls = .type "tuple" ∧ o.data = .seq its n ∧ Vals (ks.map kV) its.toList
theorem IsKT.keeps {h h' : Heap} {v : Value} {ks : List Key} (p : IsKT h v ks) (k : ∀ b o, h.get? b = some o → o.cls = .type "tuple" → h'.get? b = some o) : IsKT h' v ks := by
  obtain ⟨a, o, its, n, e, ho, hc, hd⟩ := p
  exact ⟨a, o, its, n, e, k _ _ ho hc, hc, hd⟩
theorem oneLt_strs (c : Bool) {p q : PySem.Str} {t u : Tok} {Q : Bool → Shared → Prop} (h : Q (decide (p.cps.toList < q.cps.toList)) s) : wpAny (model prog w) A (oneLt' c (.str p t) (.str q u)) Q E s := by
  cases c with
  | true => exact oneLt_str h
  | false => exact PySem.W.kat_one _ _ (PyProof.Rows.lt_str (Q := PySem.W.BoolBack Q) h)
theorem kt_lex {Q : Bool → Shared → Prop} : ∀ (as bs : List Key) {us ws : List Value} (i : Nat), Vals (as.map kV) us → Vals (bs.map kV) ws → as.map isS = bs.map isS → Q (ltKs as bs) s → PySem.W.KatLex prog w A true false Q (us.zip ws) i s
  | [], [], us, ws, i, r1, r2, _, h => by
    cases r1; cases r2
    exact PySem.W.kat_nil h
  | [], _ :: _, _, _, _, _, _, hs, _ => by cases hs
  | _ :: _, [], _, _, _, _, _, hs, _ => by cases hs
  | a :: as, b :: bs, us, ws, i, r1, r2, hs, h => by
    cases r1 with
    | @cons _ u _ us ra r1 =>
      cases r2 with
      | @cons _ w' _ ws rb r2 =>
        have h1 : isS a = isS b := (List.cons.inj hs).1
        have h2 : as.map isS = bs.map isS := (List.cons.inj hs).2
        rw [ltKs_cons] at h
        show PySem.W.KatLex prog w A true false Q ((u, w') :: us.zip ws) i s
        rcases a with a | a <;> rcases b with b | b
        · obtain ⟨t, rfl⟩ := ra
          obtain ⟨t', rfl⟩ := rb
          refine PySem.W.kat_cons (SeqAt.EqAt.int_int a t b t' prog w _ _ ?_)
          refine PySem.W.kat_go (fun e1 => ?_) (fun e1 => ?_)
          · have ex : a = b := by simpa using e1
            subst ex
            rw [if_pos rfl] at h
            exact PySem.W.kat_yes (kt_lex as bs (i + 1) r1 r2 h2 h)
          · have ex : ¬ a = b := by simpa using e1
            rw [if_neg (fun z => ex (Sum.inl.inj z))] at h
            exact PySem.W.kat_no (TS.oneLt_ints _ h)
        · cases h1
        · cases h1
        · obtain ⟨t, rfl⟩ := ra
          obtain ⟨t', rfl⟩ := rb
          refine PySem.W.kat_cons (SeqAt.EqAt.str_str a t b t' prog w _ _ ?_)
          refine PySem.W.kat_go (fun e1 => ?_) (fun e1 => ?_)
          · have ex : a = b := by simpa using e1
            subst ex
            rw [if_pos rfl] at h
            exact PySem.W.kat_yes (kt_lex as bs (i + 1) r1 r2 h2 h)
          · have ex : ¬ a = b := by simpa using e1
            rw [if_neg (fun z => ex (Sum.inr.inj z))] at h
            exact PySem.W.kat_no (oneLt_strs _ h)
theorem kt_cmp {vs : List Value} {k : Value → List Key} {sh : List Bool} (hp : ∀ v ∈ vs, IsKT s.heap v (k v) ∧ (k v).map isS = sh) : SrtO.Cmp prog w A s (tuples' true) (fun p => p.1 ∈ vs) (SrtO.lt2 fun v u => ltKs (k v) (k u)) := by
  intro p q hm hm'
  obtain ⟨h1, s1⟩ := hp _ hm
  obtain ⟨h2, s2⟩ := hp _ hm'
  show wpAny (model prog w) A (keyLt' (tuples' true) p.1 q.1) (fun r s' => s' = s ∧ r = ltKs (k p.1) (k q.1)) (fun _ _ => False) s
  obtain ⟨a, o, its, n, e, ho, hc, hd, rv⟩ := h1
  obtain ⟨a', o', its', n', e', ho', hc', hd', rv'⟩ := h2
  have sl : (k p.1).map isS = (k q.1).map isS := s1.trans s2.symm
  have ll : (k p.1).length = (k q.1).length := by have := congrArg List.length sl; simpa using this
  rw [show p.1 = Value.ref a from e, show q.1 = Value.ref a' from e'] at *
  refine PySem.W.kat_lt ho hd ho' hd' ?_
  have zl : its.size = its'.size := by
    have e1 := rv.length
    have e2 := rv'.length
    simp only [List.length_map, Array.length_toList] at e1 e2
    omega
  rw [decide_eq_false (by omega : ¬ its.size < its'.size)]
  exact kt_lex _ _ 0 rv rv' sl ⟨rfl, rfl⟩
theorem kt_firsts {h : Heap} {k : Value → List Key} {sh : List Bool} (hs : sh ≠ []) : ∀ {vs : List Value}, (∀ v ∈ vs, IsKT h v (k v) ∧ (k v).map isS = sh) → ∃ fs : List Value, PySem.W.KatTups h vs fs ∧ fs.length = vs.length ∧ ∀ f ∈ fs, (sh.head? = some false ∧ ∃ x t, f = Value.int x t) ∨ (sh.head? = some true ∧ ∃ x t, f = Value.str x t)
  | [], _ => ⟨[], PySem.W.KatTups.nil, rfl, fun f hf => by simp at hf⟩
  | v :: vs, hp => by
    obtain ⟨fs, h1, h2, h3⟩ := kt_firsts hs (vs := vs) fun u hu => hp u (List.mem_cons_of_mem _ hu)
    obtain ⟨⟨a, o, its, n, rfl, ho, hc, hd, rv⟩, sv⟩ := hp v List.mem_cons_self
    cases hk : k (Value.ref a) with
    | nil => rw [hk] at sv; exact absurd sv.symm hs
    | cons x xs =>
      rw [hk] at rv sv
      obtain ⟨l⟩ := its
      cases rv with
      | @cons _ u _ us ru r =>
        refine ⟨u :: fs, PySem.W.KatTups.cons ho hc hd rfl h1, by simp [h2], fun f hf => ?_⟩
        rcases List.mem_cons.mp hf with rfl | hf
        · subst sv
          rcases x with x | x
          · obtain ⟨t, e⟩ := ru
            exact .inl ⟨rfl, x, t, e⟩
          · obtain ⟨t, e⟩ := ru
            exact .inr ⟨rfl, x, t, e⟩
        · exact h3 f hf
theorem kt_sortable {a : Addr} {vs : List Value} {k : Value → List Key} {sh : List Bool} (hs : sh ≠ []) (h0 : 0 < vs.length) (hp : ∀ v ∈ vs, IsKT s.heap v (k v) ∧ (k v).map isS = sh) (ha : ∀ o, s.heap.get? a = some o → o.cls ≠ .type "tuple") : SrtO.SortableO prog w A s a vs fun v u => ltKs (k v) (k u) := by
  intro h' keep
  have hp' : ∀ v ∈ vs, IsKT h' v (k v) ∧ (k v).map isS = sh := fun v hm => ⟨(hp v hm).1.keeps fun b o e c => keep b o (fun z => by subst z; exact ha o e c) e, (hp v hm).2⟩
  obtain ⟨fs, h1, h2, h3⟩ := kt_firsts hs hp'
  refine ⟨tuples' true, fun Q E hq => ?_, kt_cmp hp'⟩
  cases hh : sh.head? with
  | none => cases sh with
    | nil => exact absurd rfl hs
    | cons _ _ => cases hh
  | some b =>
    cases b with
    | false =>
      refine PySem.W.kat_kind (T := .type "int") h1 (by omega) (fun f hm => ?_) (by rfl) ?_
      · rcases h3 f hm with ⟨_, x, t, rfl⟩ | ⟨z, _⟩
        · exact PySem.W.Looks.now
        · rw [hh] at z; cases z
      · rw [show (Value.type "int" != Value.type "tuple") = true by first | decide +kernel | rfl]
        exact hq
    | true =>
      refine PySem.W.kat_kind (T := .type "str") h1 (by omega) (fun f hm => ?_) (by rfl) ?_
      · rcases h3 f hm with ⟨z, _⟩ | ⟨_, x, t, rfl⟩
        · rw [hh] at z; cases z
        · exact PySem.W.Looks.now
      · rw [show (Value.type "str" != Value.type "tuple") = true by first | decide +kernel | rfl]
        exact hq
theorem sorted_kts {l : Addr} {vs : List Value} {k : Value → List Key} {sh : List Bool} {Q : Value → Shared → Prop} (hs : sh ≠ []) (hl : s.heap.IsList l vs.toArray) (hz : vs.length ≤ sizeLine) (hp : ∀ v ∈ vs, IsKT s.heap v (k v) ∧ (k v).map isS = sh)
    (h : ∀ (h' : Heap) (d : Addr) (out : List Value), SrtO.Srtd (fun v u => ltKs (k v) (k u)) out → SrtO.Stb (fun v u => ltKs (k v) (k u)) out vs → (∀ b o, s.heap.get? b = some o → h'.get? b = some o) → s.heap.objs.size ≤ d → (∃ n, h'.get? d = some (seqObj "list" out.toArray n)) → Q (.ref d) { s with heap := h' }) :
    wpAny (model prog w) A (call (.builtin "sorted") [.ref l]) Q E s := by
  refine SrtO.sorted_ord (lin_Ks.map k) hl hz (fun h2 h₁ a ha kk => ?_) fun out hs hb => ?_
  · refine kt_sortable (s := { s with heap := h₁ }) hs (by omega) (fun v hm => ⟨(hp v hm).1.keeps fun b o e _ => (kk b o e).2, (hp v hm).2⟩) fun o e c => ?_
    rw [ha] at e
    cases e
    exact absurd (Value.type.inj c) (by decide)
  · exact h _ _ out hs hb (fun b o e => sortedAll_old e) (Nat.le_succ _) (sortedAll_at s.heap vs out.toArray)
end
def rSortK (K : PySem.W.Frag) : List V → Hp → VK → Prop := fun vs H Q => ∃ (a : Addr) (xs : List V) (kss : List (List Key)) (sh : List Bool), vs = [V.ref a] ∧ sh ≠ [] ∧ SqL K H a xs ∧ Paired (fun x ks => (∃ t, x = V.ref t ∧ SqT K H t (ks.map kV)) ∧ ks.map isS = sh) xs kss ∧
  ∀ (out : List V) (p : Addr) (k : V → List Key), xs.map k = kss → out.Perm xs → (out.map k).Pairwise (fun a b => ltKs b a = false) → H p = none → Q (.ref p) (upd H p (.lst out))
/-- a function that tells each value's keys -/
theorem keys_fun {X : Cx} {pins : List (Addr × Obj)} {σ : St} {H : Hp} {s : Shared} (I : Inv X pins σ H s) {sh : List Bool} {xs : List V} {kss : List (List Key)} (hp : Paired (fun x ks => (∃ t, x = V.ref t ∧ SqT X.K H t (ks.map kV)) ∧ ks.map isS = sh) xs kss) :
    ∃ k : V → List Key, xs.map k = kss ∧ ∀ x ∈ xs, (∃ t, x = V.ref t ∧ SqT X.K H t ((k x).map kV)) ∧ (k x).map isS = sh := by
  classical
  refine ⟨fun x => if h : ∃ ks : List Key, ∃ t, x = V.ref t ∧ SqT X.K H t (ks.map kV) then Classical.choose h else [], ?_⟩
  have sp : ∀ {x : V} {ks : List Key}, (∃ t, x = V.ref t ∧ SqT X.K H t (ks.map kV)) → (if h : ∃ ks : List Key, ∃ t, x = V.ref t ∧ SqT X.K H t (ks.map kV) then Classical.choose h else []) = ks := fun {x ks} h0 => by
    have ex : ∃ ks : List Key, ∃ t, x = V.ref t ∧ SqT X.K H t (ks.map kV) := ⟨ks, h0⟩
    rw [dif_pos ex]
    obtain ⟨t, e, q⟩ := Classical.choose_spec ex
    obtain ⟨t', e', q'⟩ := h0
    rw [e] at e'; cases e'
    exact kVs_inj (I.tuple_inj q q')
  constructor
  · induction hp with
    | nil => rfl
    | cons r _ ih => rw [List.map_cons, ih, sp r.1]
  · intro x hx
    induction hp with
    | nil => simp at hx
    | cons r _ ih =>
      rcases List.mem_cons.mp hx with rfl | hx
      · have e := sp r.1
        dsimp only
        rw [e]; exact r
      · exact ih hx
theorem cr_sortK {X : Cx} : CallR X (.builtin "sorted") (rSortK X.K) := by
  intro pins s σ H vs us Q I r h
  obtain ⟨a, xs, kss, sh, rfl, hsh, hs, hpx, q⟩ := h
  obtain ⟨k, hk0, hx⟩ := keys_fun I hpx
  obtain ⟨its, rv, hl, hz⟩ := I.list hs
  obtain ⟨u, rfl, ru⟩ := vals1 r
  obtain rfl : u = Value.ref a := ru
  obtain ⟨e1, e2⟩ := refs_back rv fun x m => by
    obtain ⟨⟨t, e, _⟩, _⟩ := hx x m
    exact ⟨t, e⟩
  refine sorted_kts (k := fun u => k (backV u)) hsh hl.isList (by rw [← rv.length]; exact hz) (fun v hv => ?_) fun h' d out h1 h2 kp hd hn => ?_
  · obtain ⟨t, rfl⟩ := e2 v hv
    have hm : V.ref t ∈ xs := by rw [e1]; exact List.mem_map.mpr ⟨_, hv, rfl⟩
    obtain ⟨⟨t', e, ht⟩, hk⟩ := hx _ hm
    cases e
    obtain ⟨its2, r2, ⟨o, ho, hc, n, hd⟩, _⟩ := I.tuple ht
    exact ⟨⟨t, o, _, n, rfl, ho, hc, hd, r2⟩, hk⟩
  · have h3 : ∀ u ∈ out, ∃ a, u = Value.ref a := fun u hu => e2 u (h2.perm.mem_iff.mp hu)
    obtain ⟨n, hn⟩ := hn
    have hb : (out.map backV).Perm xs := by rw [e1]; exact h2.perm.map _
    refine ⟨.ref d, upd H d (.lst (out.map backV)), I.laid (t' := s.toks) kp hd ⟨?_, out, n, vals_back h3, hn⟩, rfl, q _ d k hk0 hb ?_ (I.hok.fresh hd)⟩
    · rw [hb.length_eq]; exact hz
    · rw [List.map_map]
      exact List.pairwise_map.mpr h1
end L2
namespace DL
open PySem L2
variable {G : Glb} {X : Cx} {W : WX}
def kysD : List D → Option (List Key)
  | [] => some []
  | d :: ds => (keyD d).bind fun k => (kysD ds).map (k :: ·)
def tupK : D → Option (List Key)
  | .tup ds => kysD ds
  | _ => none
def tK (ks : List Key) : D := .tup (ks.map dKey)
theorem dKey_ofZ {d : D} {k : Key} (h : keyD d = some k) : d = dKey k := by
  cases d <;> first | (cases h; done) | (cases h; rfl)
theorem kysD_is : ∀ {ds : List D} {ks : List Key}, kysD ds = some ks → ds = ks.map dKey
  | [], _, h => by cases h; rfl
  | d :: ds, ks, h => by
    obtain ⟨k, e1, e2⟩ := Option.bind_eq_some_iff.mp (show (keyD d).bind (fun k => (kysD ds).map (k :: ·)) = some ks from h)
    obtain ⟨l, e3, e4⟩ := Option.map_eq_some_iff.mp e2
    subst e4
    rw [List.map_cons, ← dKey_ofZ e1, ← kysD_is e3]
theorem keyD_d (k : Key) : keyD (dKey k) = some k := by cases k <;> rfl
theorem kysD_d : ∀ ks : List Key, kysD (ks.map dKey) = some ks
  | [] => rfl
  | k :: ks => by
    show (keyD (dKey k)).bind (fun k' => (kysD (ks.map dKey)).map (k' :: ·)) = _
    rw [keyD_d, kysD_d ks]; rfl
theorem tupK_is {d : D} {ks : List Key} (h : tupK d = some ks) : d = tK ks := by
  unfold tupK at h
  split at h
  · rw [kysD_is h]; rfl
  · cases h
theorem tupK_t (ks : List Key) : tupK (tK ks) = some ks := kysD_d ks
theorem optL_is {α β : Type} {f : α → Option β} {g : β → α} (hf : ∀ a b, f a = some b → a = g b) : ∀ {l : List α} {m : List β}, optL f l = some m → l = m.map g
  | [], _, h => by cases h; rfl
  | a :: l, m, h => by
    obtain ⟨b, e1, e2⟩ := Option.bind_eq_some_iff.mp (show ((f a).bind fun b => (optL f l).map (b :: ·)) = some m from h)
    obtain ⟨m', e3, e4⟩ := Option.map_eq_some_iff.mp e2
    subst e4
    rw [List.map_cons, ← hf a b e1, ← optL_is hf e3]
theorem optL_map {α β : Type} {f : α → Option β} {g : β → α} (hf : ∀ b, f (g b) = some b) : ∀ m : List β, optL f (m.map g) = some m
  | [] => rfl
  | b :: m => by
    show ((f (g b)).bind fun b => (optL f (m.map g)).map (b :: ·)) = _
    rw [hf, optL_map hf m]; rfl
def leKs (a b : List Key) : Bool := !ltKs b a
def sortKs (l : List (List Key)) : List (List Key) := l.mergeSort leKs
theorem leKs_tr (a b c : List Key) (h1 : leKs a b = true) (h2 : leKs b c = true) : leKs a c = true := by
  unfold leKs at *
  simp only [Bool.not_eq_true'] at *
  exact lin_Ks.swo.tr a b c h1 h2
theorem leKs_tot (a b : List Key) : (leKs a b || leKs b a) = true := by
  unfold leKs
  cases e : ltKs b a with
  | false => rfl
  | true => rw [lin_Ks.asym e]; rfl
theorem sortKs_pw (l : List (List Key)) : (sortKs l).Pairwise (fun a b => ltKs b a = false) := by
  refine (List.pairwise_mergeSort leKs_tr leKs_tot l).imp fun h => ?_
  unfold leKs at h
  simpa using h
theorem sortKs_perm (l : List (List Key)) : (sortKs l).Perm l := List.mergeSort_perm _ _
/-- of one form, not the empty one -/
def oneForm : List (List Key) → Bool
  | [] => true
  | k :: ks => !k.isEmpty && ks.all fun l => l.map isS == k.map isS
/-- lists of tuples of keys, beside what was sorted so far -/
def bSortedZ (ds : List D) (S : Store) : ER := match ds with
  | [d] => match (listD S d).bind (optL tupK) with
    | some (k :: kss) => if oneForm (k :: kss) then .ok (.lst ((sortKs (k :: kss)).map tK)) S else .bad
    | _ => bSortedY [d] S
  | ds => bSortedY ds S
theorem isL_dKeys {φ : Fi} {H : Hp} : ∀ {ks : List Key} {xs : List V}, IsL G φ H (ks.map dKey) xs → xs = ks.map kV
  | [], xs, i => i
  | k :: ks, xs, i => by
    obtain ⟨y, r, rfl, p, q⟩ := i
    rw [isL_dKeys q, List.map_cons]
    congr 1
    cases k <;> exact p
theorem dc_sortedZ (hc : X.calm = true) (hK : X.K = G.K) : DCall G X (.builtin "sorted") bSortedZ := by
  obtain ⟨r, hr, q⟩ := dc_sortedY (G := G) (X := X) hc hK
  refine ⟨_, hr.or cr_sortK, fun W φ S H σ ds xs Q s i h => ?_⟩
  unfold bSortedZ at h
  split at h
  · rename_i d
    split at h
    · rename_i k0 kss e
      split at h
      · rename_i hf
        obtain ⟨es, e1, e2⟩ := Option.bind_eq_some_iff.mp e
        obtain ⟨x, rfl, ix⟩ := IsL.inv1 i
        obtain ⟨a, ys, rfl, rl, il⟩ := listD_sq s ix e1
        rw [optL_is (g := tK) (fun _ _ => tupK_is) e2] at il
        obtain ⟨KS, hKS⟩ : ∃ KS, KS = k0 :: kss := ⟨_, rfl⟩
        rw [← hKS] at il h hf
        have form : ∀ ks ∈ KS, ks.map isS = k0.map isS ∧ k0 ≠ [] := fun ks hk => by
          rw [hKS] at hf hk
          unfold oneForm at hf
          simp only [Bool.and_eq_true, Bool.not_eq_true', List.isEmpty_eq_false_iff, List.all_eq_true, beq_iff_eq] at hf
          rcases List.mem_cons.mp hk with rfl | hk
          · exact ⟨rfl, hf.1⟩
          · exact ⟨hf.2 ks hk, hf.1⟩
        have k0n : k0.map isS ≠ [] := fun z => (form k0 (by rw [hKS]; exact List.mem_cons_self)).2 (List.map_eq_nil_iff.mp z)
        have pr : ∀ {kl : List (List Key)} {zs : List V}, (∀ ks ∈ kl, ks ∈ KS) → IsL G φ H (kl.map tK) zs → Paired (fun x ks => (∃ t, x = V.ref t ∧ SqT G.K H t (ks.map kV)) ∧ ks.map isS = k0.map isS) zs kl := by
          intro kl
          induction kl with
          | nil => intro zs _ i; cases (show zs = [] from i); exact .nil
          | cons ks kl ih =>
            intro zs hz i
            obtain ⟨y, r, rfl, p, q⟩ := i
            refine .cons ⟨?_, (form ks (hz ks List.mem_cons_self)).1⟩ (ih (fun z hm => hz z (List.mem_cons_of_mem _ hm)) q)
            obtain ⟨t, zs, e5, rt, it⟩ := p
            rw [isL_dKeys it] at rt
            exact ⟨t, e5, rt.seq⟩
        refine .inr ⟨a, ys, KS, k0.map isS, rfl, k0n, by rw [hK]; exact rl, by rw [hK]; exact pr (fun _ h => h) il, fun out p kf km hp hw hn => ?_⟩
        have eo : out.map kf = sortKs KS := sorted_lin lin_Ks ((hp.map kf).trans (by rw [km]; exact (sortKs_perm KS).symm)) hw (sortKs_pw KS)
        have im : ∀ {zs : List V}, IsL G φ H ((zs.map kf).map tK) zs → ∀ z ∈ zs, Is G φ H (tK (kf z)) z := by
          intro zs
          induction zs with
          | nil => intro _ z hz; simp at hz
          | cons z zs ih =>
            intro i y hy
            obtain ⟨x, r, e6, p6, q6⟩ := i
            cases e6
            rcases List.mem_cons.mp hy with rfl | hy
            · exact p6
            · exact ih q6 y hy
        have all := im (zs := ys) (by rw [km]; exact il)
        have io : ∀ {zs : List V}, (∀ z ∈ zs, z ∈ ys) → IsL G φ H ((zs.map kf).map tK) zs := by
          intro zs
          induction zs with
          | nil => intro _; rfl
          | cons z zs ih => exact fun hz => ⟨z, zs, rfl, all z (hz z List.mem_cons_self), ih fun y hy => hz y (List.mem_cons_of_mem _ hy)⟩
        have i2 := io (zs := out) fun z hz => hp.mem_iff.mp hz
        rw [eo] at i2
        exact lst_new s i2 h hn
      · exact h.elim
    · exact .inl (q W φ S H σ _ xs Q s i h)
  · exact .inl (q W φ S H σ _ xs Q s i h)
section
variable {S : Store}
@[simp] theorem bSortedZ_l {kss : List (List Key)} (h : oneForm kss = true) (h0 : kss ≠ []) : bSortedZ [.lst (kss.map tK)] S = .ok (.lst ((sortKs kss).map tK)) S := by
  unfold bSortedZ
  dsimp only
  rw [show (listD S (.lst (kss.map tK))).bind (optL tupK) = some kss from optL_map tupK_t kss]
  cases kss with
  | nil => exact absurd rfl h0
  | cons k kss => dsimp only; rw [if_pos h]
end
end DL
end
section
/-! x or y, x and y by truth; the module's own tuples and dicts. -/
namespace DL
open PySem L2 PyProof.Rows
variable {G : Glb} {X : Cx} {W : WX}
/-! ### x or y -/
/-- the truth of a thing -/
def truX (S : Store) : D → Option Bool
  | .non => some false
  | .bl b => some b
  | .int i => some (i != 0)
  | .tup ds => some (!ds.isEmpty)
  | .lst ds => some (!ds.isEmpty)
  | .loc l => match S[l]? with
    | some (.lst ds) => some (!ds.isEmpty)
    | some (.dic kvs) => some (!kvs.isEmpty)
    | _ => none
  | _ => none
theorem truX_is (hK : X.K = G.K) {φ : Fi} {S : Store} {H : Hp} {d : D} {v : V} {b : Bool} (s : SOk G φ S H) (i : Is G φ H d v) (e : truX S d = some b) : TruV X.K v H b := by
  cases d with
  | non => cases e; cases (show v = _ from i); exact (show false = false from rfl)
  | bl c => cases e; cases (show v = _ from i); exact (show b = b from rfl)
  | int c => cases e; cases (show v = _ from i); exact (show (c != 0) = (c != 0) from rfl)
  | tup ds =>
    cases e
    obtain ⟨a, xs, rfl, r, il⟩ := i
    exact .inr (.inl ⟨xs, by rw [hK]; exact r.seq, il.empty⟩)
  | lst ds =>
    cases e
    obtain ⟨a, xs, rfl, r, il⟩ := i
    exact .inl ⟨xs, by rw [hK]; exact r.seq, il.empty⟩
  | loc l =>
    obtain ⟨a, ha, rfl⟩ := i
    simp only [truX] at e
    split at e
    · rename_i ds hc
      cases e
      obtain ⟨xs, hx, il⟩ := s.at_ hc ha
      exact .inl ⟨xs, by rw [hK]; exact .inl (.inl hx), il.empty⟩
    · rename_i kvs hc
      cases e
      obtain ⟨ws, hx, hk, il⟩ := s.at_ hc ha
      refine .inr (.inr ⟨ws, hx, ?_⟩)
      have := congrArg List.length hk
      cases kvs <;> cases ws <;> first | rfl | (simp at this)
    · cases e
  | str x => cases e
  | dic _ _ => cases e
  | obj _ _ _ => cases e
  | dct _ _ => cases e
  | exn _ _ _ => cases e
  | tpl _ => cases e
def eOrT (f g : EM) : EM := fun env S => (f env S).bind fun d S => match truX S d with
  | some true => .ok d S
  | some false => g env S
  | none => .bad
def eAndT (f g : EM) : EM := fun env S => (f env S).bind fun d S => match truX S d with
  | some true => g env S
  | some false => .ok d S
  | none => .bad
theorem de_orT {a b : Expr} {rest : List Expr} {pos : Pos} {f g : EM} (hK : X.K = G.K) (ha : DE G X W a f) (hb : DE G X W (.BoolOp .Or (b :: rest) pos) g) : DE G X W (.BoolOp .Or (a :: b :: rest) pos) (eOrT f g) := by
  obtain ⟨ta, pa, qa⟩ := ha
  obtain ⟨tb, pb, qb⟩ := hb
  refine ⟨_, pe_orT pa pb, fun σ H env φ S Q s re h => ?_⟩
  refine qa σ H env φ S _ s re (PostE.bind h fun d S1 φ1 H1 v e1 s1 i1 h1 => ?_)
  cases hb : truX S1 d with
  | none => rw [hb] at h1; exact h1.elim
  | some k =>
    rw [hb] at h1
    refine ⟨k, truX_is hK s1 i1 hb, ?_⟩
    cases k with
    | true => exact iteT (h1.now s1 i1)
    | false => exact iteF (qb σ H1 env φ1 S1 _ s1 (re.ext e1) h1)
/-! ### tuples of the module -/
structure KTup (K : PySem.W.Frag) (a : Addr) (xs : List V) : Prop where
  ex : ∃ (o : Obj) (its : Array Value) (n : Nat), K.lookup a = some o ∧ o.cls = .type "tuple" ∧ o.data = .seq its n ∧ its.size ≤ sizeLine ∧ Vals xs its.toList
theorem ktup {K : PySem.W.Frag} {a : Addr} {oc : Option Addr} {its : List Value} {n : Nat} {sl : Array (Option Value)} {xs : List V} (h : K.lookup a = some ⟨.type "tuple", oc, .seq its.toArray n, sl⟩) (r : Vals xs its) (hl : its.length ≤ 16777216) : KTup K a xs :=
  ⟨_, its.toArray, n, h, rfl, rfl, by rw [sizeLine_eq]; simpa using hl, by simpa using r⟩
theorem de_gTup {x : Str} {ds : List D} {pos : Pos} (h : ∃ a, X.mg x = some (.ref a) ∧ KTup G.K a (ds.map dV)) (hf : ∀ {φ : Fi} {H : Hp}, IsL G φ H ds (ds.map dV)) (hg : Gl X x) (hd : (x == ("__debug__" : Str)) = false := by decide) : DE G X W (.Name x pos) (eC (.tup ds)) := by
  obtain ⟨a, hm, ⟨o, its, n, h1, h2, h3, h4, h5⟩⟩ := h
  exact de_glob (v := .ref a) (u := .ref a) hg hm rfl (fun φ H => ⟨a, ds.map dV, rfl, .inr ⟨o, its, n, h1, h2, h3, h4, h5⟩, hf⟩) hd
/-! ### dicts of the module, by texts -/
structure KTab (K : PySem.W.Frag) (w : World) (a : Addr) (tab : List (Str × D)) : Prop where
  ex : ∃ es n, KDict K w a es n
  get : ∀ z : Str, ∃ r : Option Value, PySem.W.nsIn K a z = some r ∧ match tab.lookup z with
    | some d => ∃ u, r = some u ∧ RelV (dV d) u ∧ flatD d = true
    | none => r = none
def eGIx (tab : List (Str × D)) (f : EM) : EM := fun env S => (f env S).bind fun d S => match d with
  | .str z => match tab.lookup z with
    | some x => .ok x S
    | none => .bad
  | _ => .bad
def eGIn (neg : Bool) (tab : List (Str × D)) (f : EM) : EM := fun env S => (f env S).bind fun d S => match d with
  | .str z => .ok (.bl (if neg then !(tab.lookup z).isSome else (tab.lookup z).isSome)) S
  | _ => .bad
section
variable {S : Store} {env : EnvD}
@[simp] theorem eOrT_is {f g : EM} : eOrT f g env S = (f env S).bind fun d S => match truX S d with
  | some true => .ok d S
  | some false => g env S
  | none => .bad := rfl
@[simp] theorem eAndT_is {f g : EM} : eAndT f g env S = (f env S).bind fun d S => match truX S d with
  | some true => g env S
  | some false => .ok d S
  | none => .bad := rfl
@[simp] theorem eGIx_is {tab : List (Str × D)} {f : EM} : eGIx tab f env S = (f env S).bind fun d S => match d with
  | .str z => match tab.lookup z with
    | some x => .ok x S
    | none => .bad
  | _ => .bad := rfl
@[simp] theorem eGIn_is {neg : Bool} {tab : List (Str × D)} {f : EM} : eGIn neg tab f env S = (f env S).bind fun d S => match d with
  | .str z => .ok (.bl (if neg then !(tab.lookup z).isSome else (tab.lookup z).isSome)) S
  | _ => .bad := rfl
@[simp] theorem truX_t {ds} : truX S (.tup ds) = some (!ds.isEmpty) := rfl
@[simp] theorem truX_l {ds} : truX S (.lst ds) = some (!ds.isEmpty) := rfl
@[simp] theorem truX_c {l : Nat} : truX S (.loc l) = match cel S l with
    | some (.lst ds) => some (!ds.isEmpty)
    | some (.dic kvs) => some (!kvs.isEmpty)
    | _ => none := rfl
end
end DL
namespace DL
open PySem L2
/-- a promise for whatever classes there are -/
def spA (K : PySem.W.Frag) (n : Nat) (F : FD) : Sp := fun vs H Q E => ∀ ca ce, spD ⟨K, ca, ce⟩ n F vs H Q E
theorem fnG_all {P : Program} {w : World} {K : PySem.W.Frag} {ca ce : Str → Option Addr} {mg : Str → Option Value} {base : Heap} {CX : CXT} {k n : Nat} {f : Addr} {fd : FuncData} {ps : List Str} {F : FD} (h : FnG P w K mg base CX k f fd ps (spD ⟨K, ca, ce⟩ n F)) : FnG P w K mg base CX k f fd ps (spA K n F) :=
  ⟨fun vs H Q E s => h.len vs H Q E (s ca ce), fun A outer s H args us vs Q E gd hr e0 b r sp => h.run A outer s H args us vs Q E gd hr e0 b r (sp ca ce)⟩
/-- an own class, as k_is finds it -/
theorem own_mk {K : PySem.W.Frag} {C : Addr} (pg : PySem.W.plainGet K C Str.empty = true) (hd : PySem.W.hasDictIn K C = true) (po : PySem.W.plainOver K C = true) (sa : PySem.W.findIn K (.ref C) "__setattr__" = some (some (.builtin "object.__setattr__")))
    (ha : PySem.W.findIn K (.ref C) "__class__" = some (some (.builtin "object.__class__"))) (hn : PySem.W.specialIn K (.builtin "object.__class__") "__get__" = some (some (.builtin "getset_descriptor.__get__"))) (ht : PySem.W.takesIn K (.builtin "object.__class__") = some true)
    (hm : PySem.W.mroIn K C (.type "object") = some true) : OwnC K C := ⟨⟨pg, hd, po, sa⟩, ha, hn, ht, hm⟩
theorem mem_nil {α : Type} {P : α → Prop} : ∀ p ∈ ([] : List α), P p := fun _ h => by cases h
theorem mem_con {α : Type} {P : α → Prop} {a : α} {l : List α} (h : P a) (r : ∀ p ∈ l, P p) : ∀ p ∈ a :: l, P p := fun p hp => by
  rcases List.mem_cons.mp hp with rfl | hp
  · exact h
  · exact r p hp
theorem fld_mk {K : PySem.W.Frag} {l : List (Str × Addr)} {ce : Str → Option Addr} {f : Str} {cs : List Str} (h : ∀ p ∈ l, p.1 ∈ cs → Cls K p.2 ∧ NoAttr K p.2 f) : FldOk ⟨K, fun c => l.lookup c, ce⟩ f cs :=
  ⟨fun c hc C e => ca_all (P := fun c C => c ∈ cs → Cls K C ∧ NoAttr K C f) h c C e hc⟩
end DL
end
section
/-! list.extend, max and min of a list of whole numbers. -/
namespace DL
open PySem L2
variable {G : Glb} {X : Cx} {W : WX}
def minL : Int → List Int → Int
  | m, [] => m
  | m, n :: ns => minL (if n < m then n else m) ns
theorem minL_mem : ∀ (ns : List Int) (m : Int), minL m ns ∈ m :: ns
  | [], m => List.mem_cons_self
  | n :: ns, m => by
    have := minL_mem ns (if n < m then n else m)
    unfold minL
    rcases List.mem_cons.mp this with h | h
    · rw [h]; split <;> simp
    · exact List.mem_cons_of_mem _ (List.mem_cons_of_mem _ h)
theorem minL_le : ∀ (ns : List Int) (m y : Int), y ∈ m :: ns → minL m ns ≤ y
  | [], m, y, h => by simp at h; subst h; exact Int.le_refl _
  | n :: ns, m, y, h => by
    unfold minL
    have a := minL_le ns (if n < m then n else m)
    rcases List.mem_cons.mp h with h | h
    · subst h
      refine Int.le_trans (a _ List.mem_cons_self) ?_
      split <;> omega
    · rcases List.mem_cons.mp h with h | h
      · subst h
        refine Int.le_trans (a _ List.mem_cons_self) ?_
        split <;> omega
      · exact a y (List.mem_cons_of_mem _ h)
def bMinL (ds : List D) (S : Store) : ER := match ds with
  | [d] => match (listD S d).bind intsD with
    | some (n :: ns) => .ok (.int (minL n ns)) S
    | _ => .bad
  | _ => .bad
theorem dc_minL (hc : X.calm = true) (hK : X.K = G.K) : DCall G X (.builtin "min") bMinL := by
  refine ⟨_, cr_min hc, fun W φ S H σ ds xs Q s i h => ?_⟩
  unfold bMinL at h
  split at h
  · obtain ⟨x, rfl, k⟩ := IsL.inv1 i
    split at h
    · rename_i n ns e
      obtain ⟨es, e1, e2⟩ := Option.bind_eq_some_iff.mp e
      obtain ⟨a, ys, rfl, r, q⟩ := listD_sq s k e1
      rw [intsD_is e2] at q
      refine ⟨a, n :: ns, rfl, by rw [hK, ← q.ints]; exact r, Nat.zero_lt_succ _, fun m hm hl => ?_⟩
      have : m = minL n ns := Int.le_antisymm (hl _ (minL_mem ns n)) (minL_le ns n m hm)
      rw [this]
      exact h.now s rfl
    · exact bad_no h
  · exact bad_no h
end DL
end
section
/-! An expression that walks a dict of its own: the last cell, read as data. -/
namespace DL
open PySem L2
variable {G : Glb} {X : Cx} {W : WX}
mutual
/-- no dict stands within -/
def noD : D → Bool
  | .tup ds => noDs ds
  | .lst ds => noDs ds
  | .obj _ _ ds => noDs ds
  | .dct _ ds => noDs ds
  | .exn _ _ ds => noDs ds
  | .tpl ds => noDs ds
  | .dic _ _ => false
  | _ => true
def noDs : List D → Bool
  | [] => true
  | d :: ds => noD d && noDs ds
end
def Cell.noD : Cell → Bool
  | .lst ds => noDs ds
  | .dic kvs => noDs (kvs.map (·.2))
  | .ins _ fs => noDs (fs.map (·.2))
  | .dct kvs => noDs (kvs.map (·.2))
/-- how readings without dicts are kept -/
structure KeptN (φ : Fi) (H : Hp) (φ' : Fi) (H' : Hp) : Prop where
  get : ∀ (l : Nat) a, φ.c[l]? = some a → φ'.c[l]? = some a
  rd : ∀ a u, (∀ kvs, u ≠ .dK kvs) → (∀ o w, u ≠ .frz o w) → φ.out a → Rd H a u → φ'.out a ∧ Rd H' a u
  ins : ∀ a C dx fs, φ.out a → H a = some (.ins C dx fs) → φ'.out a ∧ H' a = some (.ins C dx fs)
  ext : ∀ a p, φ.out a → H a = some (.ext p) → φ'.out a ∧ H' a = some (.ext p)
  xd : ∀ a fs, φ.out a → H a = some (.xd fs) → φ'.out a ∧ H' a = some (.xd fs)
  frt : ∀ a o xs, φ.out a → H a = some (.frz o (.tup xs)) → φ'.out a ∧ H' a = some (.frz o (.tup xs))
section
variable {φ φ' : Fi} {H H' : Hp}
theorem RdL.keptN (k : KeptN φ H φ' H') {a : Addr} {xs : List V} (h : RdL G φ H a xs) : RdL G φ' H' a xs := by
  rcases h with ⟨n, h⟩ | h
  · exact .inl (k.rd _ _ (fun _ z => by cases z) (fun _ _ z => by cases z) n h)
  · exact .inr h
theorem RdT.keptN (k : KeptN φ H φ' H') {a : Addr} {xs : List V} (h : RdT G φ H a xs) : RdT G φ' H' a xs := by
  rcases h with ⟨n, h⟩ | h
  · exact .inl (k.rd _ _ (fun _ z => by cases z) (fun _ _ z => by cases z) n h)
  · exact .inr h
mutual
theorem Is.keptN (k : KeptN φ H φ' H') : ∀ {d : D} {v : V}, noD d = true → Is G φ H d v → Is G φ' H' d v
  | .non, v, _, h => h
  | .bl b, v, _, h => h
  | .int i, v, _, h => h
  | .str x, v, _, h => h
  | .tup ds, v, b, h => by
    obtain ⟨a, xs, e, r, q⟩ := h
    exact ⟨a, xs, e, r.keptN k, IsL.keptN k b q⟩
  | .lst ds, v, b, h => by
    obtain ⟨a, xs, e, r, q⟩ := h
    exact ⟨a, xs, e, r.keptN k, IsL.keptN k b q⟩
  | .dic ks ds, v, b, h => by cases b
  | .obj c ks ds, v, b, h => by
    obtain ⟨a, C, dx, fs, e, ⟨n, r⟩, c, z, q⟩ := h
    exact ⟨a, C, dx, fs, e, k.ins _ _ _ _ n r, c, z, IsL.keptN k b q⟩
  | .loc l, v, _, h => by
    obtain ⟨a, p, e⟩ := h
    exact ⟨a, k.get _ _ p, e⟩
  | .dct ks ds, v, b, h => by
    obtain ⟨a, kvs, e, ⟨n, r⟩, z, q⟩ := h
    exact ⟨a, kvs, e, k.rd _ _ (fun _ z => by cases z) (fun _ _ z => by cases z) n r, z, IsL.keptN k b q⟩
  | .exn c ks ds, v, b, h => by
    obtain ⟨a, C, d, e, ⟨n, r⟩, c, z⟩ := h
    refine ⟨a, C, d, e, k.ext _ _ n r, c, ?_⟩
    rcases z with z | ⟨b', fs, e1, ⟨n1, r1⟩, e2, q⟩
    · exact .inl z
    · exact .inr ⟨b', fs, e1, k.xd _ _ n1 r1, e2, IsL.keptN k b q⟩
  | .tpl ds, v, b, h => by
    obtain ⟨a, xs, o, e, ⟨n, r, r2⟩, q⟩ := h
    have z := k.frt _ _ _ n r
    exact ⟨a, xs, o, e, ⟨z.1, z.2, r2⟩, IsL.keptN k b q⟩
theorem IsL.keptN (k : KeptN φ H φ' H') : ∀ {ds : List D} {xs : List V}, noDs ds = true → IsL G φ H ds xs → IsL G φ' H' ds xs
  | [], xs, _, h => h
  | d :: ds, xs, b, h => by
    obtain ⟨x, r, e, p, q⟩ := h
    have b : (noD d && noDs ds) = true := b
    simp only [Bool.and_eq_true] at b
    exact ⟨x, r, e, Is.keptN k b.1 p, IsL.keptN k b.2 q⟩
end
theorem CellOk.keptN {a : Addr} {c : Cell} (k : KeptN φ H φ' H') (e : H' a = H a) (b : c.noD = true) (h : CellOk G φ H a c) : CellOk G φ' H' a c := by
  cases c with
  | lst ds => obtain ⟨xs, h, q⟩ := h; exact ⟨xs, by rw [e]; exact h, q.keptN k b⟩
  | dic kvs => obtain ⟨xs, h, z, q⟩ := h; exact ⟨xs, by rw [e]; exact h, z, q.keptN k b⟩
  | ins c fs => obtain ⟨C, dx, ws, z, h, y, q⟩ := h; exact ⟨C, dx, ws, z, by rw [e]; exact h, y, q.keptN k b⟩
  | dct kvs => obtain ⟨xs, h, z, q⟩ := h; exact ⟨xs, by rw [e]; exact h, z, q.keptN k b⟩
end
def viewD (l : Nat) (x : D) : Option D → Option D
  | some (.loc m) => if m = l then some x else if m < l then some (.loc m) else none
  | some d => if belD l d then some d else none
  | none => none
def eView (j : Nat) (g : EM) : EM := fun env S => match env[j]? with
  | some (some (.loc l)) => match S[l]? with
    | some (.dic kvs) => if S.length = l + 1 ∧ (S.take l).all (Cell.bel l) = true ∧ belDs l (kvs.map (·.2)) = true then
        match g (env.map (viewD l (.dic (kvs.map (·.1)) (kvs.map (·.2))))) (S.take l) with
        | .ok d S2 => if S2.length = l ∧ noD d = true ∧ S2.all Cell.noD = true then .ok d (S2 ++ [.dic kvs]) else .bad
        | _ => .bad
      else .bad
    | _ => .bad
  | _ => .bad
theorem de_view {e : Expr} {g : EM} (j : Nat) (he : DE G X W e g) : DE G X W e (eView j g) := by
  obtain ⟨t, p, q⟩ := he
  refine ⟨_, pe_lock p, fun σ H env φ S Q s re h => ?_⟩
  unfold eView at h
  split at h
  rotate_left
  · exact h.elim
  rename_i l hj
  split at h
  rotate_left
  · exact h.elim
  rename_i kvs hl
  split at h
  rotate_left
  · exact h.elim
  rename_i hc
  obtain ⟨hlen, hb, hb2⟩ := hc
  obtain ⟨a, ha, hc⟩ := s.cell l _ hl
  obtain ⟨ws, hx, hk, il⟩ := hc
  have am : a ∈ φ.c := List.mem_of_getElem? ha
  have cl : φ.c.length = l + 1 := by rw [s.len]; exact hlen
  have split : φ.c = φ.c.take l ++ [a] := by
    have e1 : φ.c[l] = a := (List.getElem?_eq_some_iff.mp ha).2
    have e2 := List.take_append_drop l φ.c
    rw [List.drop_eq_getElem_cons (by omega : l < φ.c.length), e1, List.drop_eq_nil_of_le (by omega)] at e2
    exact e2.symm
  have na : a ∉ φ.c.take l := fun z => by
    have := s.nd
    rw [split, List.nodup_append] at this
    exact this.2.2 a z a (by simp) rfl
  have nh : a ∉ φ.h := fun z => (s.hid a z).1 am
  have oa : (φ.cut l).out a := ⟨na, nh⟩
  refine ⟨a, .dK ws, hx, trivial, fun od => ?_⟩
  have s0 : SOk G (φ.cut l) (S.take l) H := s.cut (fun c hc => List.all_eq_true.mp hb c hc)
  have e1 : Ext (φ.cut l) H (φ.cut l) (upd H a (.frz od (.dK ws))) := .lock oa hx
  have s1 : SOk G (φ.cut l) (S.take l) (upd H a (.frz od (.dK ws))) := s0.lock oa hx
  have re1 : RepE G (φ.cut l) (upd H a (.frz od (.dK ws))) σ (env.map (viewD l (.dic (kvs.map (·.1)) (kvs.map (·.2))))) := by
    refine ⟨by rw [re.1, List.length_map], fun i d hd => ?_⟩
    rw [List.getElem?_map] at hd
    obtain ⟨o, h1, h2⟩ := Option.map_eq_some_iff.mp hd
    cases o with
    | none => cases h2
    | some d0 =>
      obtain ⟨v, hv, iv⟩ := re.2 i d0 h1
      refine ⟨v, hv, ?_⟩
      have rest : belD l d0 = true → Is G (φ.cut l) (upd H a (.frz od (.dK ws))) d0 v := fun hb => (bel_is hb iv).ext e1
      cases d0 with
      | loc m =>
        simp only [viewD] at h2
        split at h2
        · rename_i hm
          subst hm
          cases h2
          obtain ⟨a', ha', rfl⟩ := iv
          rw [ha] at ha'
          cases ha'
          exact ⟨a, ws, rfl, ⟨oa, .inr ⟨od, upd_same⟩⟩, hk, (bel_isL hb2 il).ext e1⟩
        · split at h2
          · rename_i hm
            cases h2
            exact rest (decide_eq_true hm)
          · cases h2
      | _ =>
        simp only [viewD] at h2
        split at h2
        · rename_i hb
          cases h2
          exact rest hb
        · cases h2
  refine q σ _ _ (φ.cut l) (S.take l) _ s1 re1 ?_
  split at h
  rotate_left
  · exact h.elim
  rename_i d S2 hg
  rw [hg]
  split at h
  rotate_left
  · exact h.elim
  rename_i hc
  obtain ⟨l2, nd, nS⟩ := hc
  intro φ' H' v e2 s2 i2
  have f' : φ' = φ.cut l := by
    obtain ⟨ψ, ec, _⟩ := e2.pre
    have : φ'.c.length = l := by rw [s2.len]; exact l2
    have l3 : (φ.cut l).c.length = l := by show (φ.c.take l).length = l; rw [List.length_take]; omega
    rw [ec, List.length_append, l3] at this
    have : ψ = [] := List.length_eq_zero_iff.mp (by omega)
    rw [this, List.append_nil] at ec
    have eh := e2.hid
    cases φ'
    simp only at ec eh
    rw [ec, eh]
  subst f'
  have fa : H' a = some (.frz od (.dK ws)) := e2.keepE na upd_same
  refine ⟨fa, ?_⟩
  have kn : KeptN (φ.cut l) H' φ (upd H' a (.dK ws)) := by
    have no : ∀ {b : Addr}, (φ.cut l).out b → b ≠ a → φ.out b := fun {b} n hb => ⟨fun z => by
      rw [split] at z
      rcases List.mem_append.mp z with z | z
      · exact n.1 z
      · simp at z; exact hb z, n.2⟩
    have ne : ∀ {b : Addr} {o : HO}, H' b = some o → o ≠ .frz od (.dK ws) → b ≠ a := fun {b o} e hne z => by
      subst z; rw [fa] at e; cases e; exact hne rfl
    refine ⟨fun i b hb => ?_, fun b u hu hf n r => ?_, fun b C dx fs n r => ?_, fun b p n r => ?_, fun b p n r => ?_, fun b o xs n r => ?_⟩
    · have hb : (φ.c.take l)[i]? = some b := hb
      rw [List.getElem?_take] at hb
      split at hb
      · exact hb
      · cases hb
    · have hne : b ≠ a := by
        rcases r with r | ⟨w, r⟩
        · exact ne r (hf _ _)
        · exact ne r (fun z => by cases z; exact hu _ rfl)
      refine ⟨no n hne, ?_⟩
      rcases r with r | ⟨w, r⟩
      · exact .inl (by rw [upd_ne hne]; exact r)
      · exact .inr ⟨w, by rw [upd_ne hne]; exact r⟩
    · have hne := ne r (by intro z; cases z)
      exact ⟨no n hne, by rw [upd_ne hne]; exact r⟩
    · have hne := ne r (by intro z; cases z)
      exact ⟨no n hne, by rw [upd_ne hne]; exact r⟩
    · have hne := ne r (by intro z; cases z)
      exact ⟨no n hne, by rw [upd_ne hne]; exact r⟩
    · have hne := ne r (by intro z; cases z)
      exact ⟨no n hne, by rw [upd_ne hne]; exact r⟩
  have ee : Ext φ H φ (upd H' a (.dK ws)) := by
    refine ⟨⟨[], by simp, fun _ h => by simp at h⟩, rfl, fun b o nb hb => ?_⟩
    have hne : b ≠ a := fun z => nb (by rw [z]; exact am)
    rw [upd_ne hne]
    refine e2.keep b o (fun z => nb (List.mem_of_mem_take z)) ?_
    rw [upd_ne hne]; exact hb
  have ss : SOk G φ (S2 ++ [.dic kvs]) (upd H' a (.dK ws)) := by
    refine ⟨by rw [cl, List.length_append, l2]; rfl, s.nd, fun b hb => ?_, fun i c hc => ?_⟩
    · obtain ⟨n, o, h1⟩ := s.hid b hb
      have hne : b ≠ a := fun z => n (by rw [z]; exact am)
      obtain ⟨_, o2, h2, t2⟩ := s2.hid b hb
      exact ⟨n, o2, by rw [upd_ne hne]; exact h2, t2⟩
    · by_cases hi : i < l
      · rw [List.getElem?_append_left (by omega)] at hc
        obtain ⟨b, hb, hcell⟩ := s2.cell i c hc
        have hb2 : φ.c[i]? = some b := kn.get i b hb
        have hne : b ≠ a := fun z => by
          subst z
          exact na (List.mem_of_getElem? hb)
        exact ⟨b, hb2, hcell.keptN kn (upd_ne hne) (List.all_eq_true.mp nS c (List.mem_of_getElem? hc))⟩
      · rw [List.getElem?_append_right (by omega), l2] at hc
        have : i = l := by
          rcases Nat.lt_or_ge i (l + 1) with h | h
          · omega
          · rw [List.getElem?_eq_none (by simp; omega)] at hc; cases hc
        subst this
        simp at hc
        subst hc
        exact ⟨a, ha, ws, upd_same, hk, il.ext ee⟩
  exact h φ _ v ee ss (i2.keptN kn nd)
/-! ### dict(pairs) that is changed later -/
def bDictN (ds : List D) (S : Store) : ER := match ds with
  | [.lst es] => match pairsD es with
    | some kds => .ok (.loc S.length) (S ++ [.dic (mergeD [] kds)])
    | none => .bad
  | ds => bDictM ds S
section
variable {S : Store} {env : EnvD}
@[simp] theorem bDictN_lst {es : List D} : bDictN [.lst es] S = match pairsD es with
    | some kds => .ok (.loc S.length) (S ++ [.dic (mergeD [] kds)])
    | none => .bad := rfl
@[simp] theorem bDictN_dic {ks : List Key} {ds : List D} : bDictN [.dic ks ds] S = .ok (.loc S.length) (S ++ [.dic (ks.zip ds)]) := rfl
end
end DL
end
section
/-! list.remove of texts. -/
namespace L2
open PySem PySem.Spec PyProof.Rows
section
variable {X : Cx}
end
end L2
namespace DL
open PySem L2
variable {G : Glb} {X : Cx} {W : WX}
def strsD : List D → Option (List Str)
  | [] => some []
  | .str x :: ds => (strsD ds).map (x :: ·)
  | _ :: _ => none
theorem strsD_is : ∀ {ds : List D} {xs : List Str}, strsD ds = some xs → ds = xs.map .str
  | [], _, h => by cases h; rfl
  | d :: ds, xs, h => by
    cases d with
    | str x =>
      obtain ⟨ys, e1, e2⟩ := Option.map_eq_some_iff.mp (show (strsD ds).map (x :: ·) = some xs from h)
      subst e2
      rw [strsD_is e1]; rfl
    | _ => cases h
theorem strsD_map : ∀ xs : List Str, strsD (xs.map .str) = some xs
  | [] => rfl
  | x :: xs => by
    show (strsD (xs.map .str)).map (x :: ·) = _
    rw [strsD_map xs]; rfl
def mRemoveS (o : D) (ds : List D) (S : Store) : ER := cellL S o fun l xs => match ds with
  | [.str k] => match strsD xs with
    | some ns => if k ∈ ns then .ok .non (S.set l (.lst ((ns.erase k).map .str))) else .bad
    | none => .bad
  | _ => .bad
theorem isL_strV {φ : Fi} {H : Hp} : ∀ {ns : List Str} {xs : List V}, IsL G φ H (ns.map .str) xs → xs = ns.map V.str
  | [], xs, i => i
  | k :: ks, xs, i => by
    obtain ⟨y, r, rfl, p, q⟩ := i
    rw [isL_strV q, List.map_cons]
    congr 1
section
variable {S : Store}
@[simp] theorem mRemoveS_is {o : D} {k : Str} : mRemoveS o [.str k] S = cellL S o fun l xs => match strsD xs with
    | some ns => if k ∈ ns then .ok .non (S.set l (.lst ((ns.erase k).map .str))) else .bad
    | none => .bad := rfl
end
theorem MtM.or {X : Cx} {id : String} {r1 r2 : V → List V → Hp → VK → Prop} (h1 : MtM X id r1) (h2 : MtM X id r2) : MtM X id fun x xs H Q => r1 x xs H Q ∨ r2 x xs H Q :=
  fun pins s σ H x xs v us Q I rx rxs h => h.elim (h1 pins s σ H x xs v us Q I rx rxs) (h2 pins s σ H x xs v us Q I rx rxs)
/-- o.remove(x): a text or a whole number -/
def mRemoveX (o : D) (ds : List D) (S : Store) : ER := match ds with
  | [.str k] => mRemoveS o [.str k] S
  | ds => mRemove o ds S
@[simp] theorem mRemoveX_s {S : Store} {o : D} {k : Str} : mRemoveX o [.str k] S = cellL S o fun l xs => match strsD xs with
    | some ns => if k ∈ ns then .ok .non (S.set l (.lst ((ns.erase k).map .str))) else .bad
    | none => .bad := rfl
@[simp] theorem mRemoveX_i {S : Store} {o : D} {k : Int} : mRemoveX o [.int k] S = mRemove o [.int k] S := rfl
end DL
end
section
/-! repr of nested data, dicts among them. -/
namespace L2
open PySem PySem.Spec PyProof.Rows
section
variable {X : Cx}
end
end L2
namespace DL
open PySem L2
variable {G : Glb} {X : Cx} {W : WX}
def keyPy : Key → PyData
  | .inl i => .int i
  | .inr x => .str x
theorem optL_len {α β : Type} {f : α → Option β} : ∀ {l : List α} {m : List β}, optL f l = some m → m.length = l.length
  | [], _, h => by cases h; rfl
  | a :: l, m, h => by
    obtain ⟨b, e1, e2⟩ := Option.bind_eq_some_iff.mp (show ((f a).bind fun b => (optL f l).map (b :: ·)) = some m from h)
    obtain ⟨m', e3, e4⟩ := Option.map_eq_some_iff.mp e2
    subst e4
    simp [optL_len e3]
section
variable {φ : Fi} {S : Store} {H : Hp}
theorem vals_pairs {P : Program} {w : World} : ∀ {es : List DictEntry} {vs : List (Key × Value)} {kvs : List (Key × V)}, Pairs (mixKind P w) es vs → KV kvs vs → Vals (kvs.map (·.2)) (es.map (·.val)) ∧ kvs.map (·.1) = vs.map (·.1)
  | _, _, _, .nil, k => by cases k; exact ⟨.nil, rfl⟩
  | _, _, _, .cons h1 h2 r, k => by
    cases k with
    | cons k1 k2 =>
      obtain ⟨a, b⟩ := vals_pairs r k2
      have q := k1.2
      rw [← h2] at q
      refine ⟨.cons q a, ?_⟩
      rw [List.map_cons, List.map_cons, b, k1.1]
end
end DL
end
section
/-! x in, x not in a dict of the module, as a test; an expression that walks a dict, data or a cell. -/
namespace DL
open PySem L2
variable {G : Glb} {X : Cx} {W : WX}
theorem idx_before : ∀ {ys : List Str} {z : Str} (m : Nat), m < ys.idxOf z → ys[m]? ≠ some z
  | [], _, m, h => by simp at h
  | a :: ys, z, m, h => by
    rw [List.idxOf_cons, cond_eq_if] at h
    by_cases e : a = z
    · subst e; simp at h
    · have q : (a == z) = false := by simpa using e
      rw [q] at h
      cases m with
      | zero => intro w; exact e (Option.some.inj w)
      | succ m =>
        rw [List.getElem?_cons_succ]
        exact idx_before m (by simp at h; omega)
end DL
end
section
/-! Tuples of which the very object is known (.tpl): tuple(a list), t.index(x); read as other tuples are. -/
namespace L2
open PySem PySem.Spec PyProof.Rows
section
variable {X : Cx}
/-- tuple(a list), the object told -/
theorem call_tupleZ : CallR X (.type "tuple") (fun xs H Q => ∃ p ys, xs = [.ref p] ∧ SqL X.K H p ys ∧ ∀ l o, H l = none → o.cls = .type "tuple" → o.dict = none → Q (.ref l) (upd H l (.frz o (.tup ys)))) := by
  intro pins s σ H xs us Q I r h
  obtain ⟨p, ys, rfl, hq, q⟩ := h
  obtain ⟨u, rfl, rx⟩ := vals1 r
  cases rx
  obtain ⟨its, r', pl, hz⟩ := I.list hq
  have hlen := r'.length
  refine call_tuple_list pl.isList (fun h' kp => ?_) (by simp only [List.size_toArray] <;> omega)
  have I1 : Inv X pins σ H { s with heap := h' } := I.kept (t' := s.toks) kp
  have I2 : Inv X pins σ (upd H h'.objs.size (.frz { cls := .type "tuple", data := .seq its.toArray } (.tup ys))) { s with heap := h'.push { cls := .type "tuple", data := .seq its.toArray } } :=
    I1.laid (t' := s.toks) (fun b o e => Heap.get?_push_of_some _ e) (Nat.le_refl _) (show ObjOk X.prog X.w _ _ _ (.frz _ (.tup ys)) from ⟨Heap.get?_push_size _ rfl, hz, its, r', IsTup.new _ _⟩)
  exact ⟨.ref h'.objs.size, _, I2, rfl, q _ _ (I1.hok.fresh (Nat.le_refl _)) rfl rfl⟩
/-- a tuple whose object is known -/
def tyT (x : V) (H : Hp) : Prop := ∃ a o xs, x = .ref a ∧ H a = some (.frz o (.tup xs)) ∧ o.cls = .type "tuple" ∧ o.dict = none
theorem tyT_is {pins : List (Addr × Obj)} {σ : L2.St} {H : Hp} {s : Shared} {x : V} {v : Value} (I : Inv X pins σ H s) (r : RelV x v) (ty : tyT x H) :
    s.TypeIs v "tuple" ∧ ∀ a, v = .ref a → ∃ ob, s.heap.get? a = some ob ∧ ob.dict = none := by
  obtain ⟨a, o, xs, rfl, h, hc, hd⟩ := ty
  cases r
  have e := (I.hok a _ h).1
  exact ⟨⟨o, e, hc⟩, fun b z => by cases z; exact ⟨o, e, hd⟩⟩
def tTM (r : V → List V → Hp → VK → Prop) (to : TE) (t : TA) : TE := fun σ H Q => to σ H fun x H1 => tyT x H1 ∧ t σ H1 fun xs H2 => r x xs H2 Q
variable {o e : Expr} {es : List Expr} {to : TE} {t : TA} {name : Str} {apos cpos : Pos} {id : String} {r : V → List V → Hp → VK → Prop}
theorem pe_tm (pa : PlainAttrs "tuple") (slot : Slot "tuple" name id) (hty : typeOf (.builtin id) = pure (.type "method_descriptor")) (hm : MtR X id r) (ho : PE X o to) (ha : PA X (e :: es) t)
    (hbase : attributeBase o name X.env (eval o X.env) = eval o X.env := by rfl)
    (hfew : ((backTo cpos (starEach (e :: es) X.env)).all (fun x => !x.1) && (backToKw cpos (keywordEach [] X.env)).all (fun x => x.1.isSome)
      && decide ((e :: es).length + ([] : List Keyword).length + (if ([] : List Keyword).isEmpty then 0 else 1) < 30)) = true := by rfl)
    (hline : (apos.endLine == cpos.line) = true := by rfl) (hs : starEach (e :: es) X.env = (false, eval e X.env) :: starEach es X.env := by rfl) (hplain : (backTo cpos (starEach es X.env)).any (·.1) = false := by rfl) :
    PE X (.Call (.Attribute o name apos) (e :: es) [] cpos) (tTM r to t) := by
  refine ⟨fun pins s σ H Q I h => ?_⟩
  refine wpAny_Call_method_late hbase hfew hline rfl (thn (ho.run pins s σ H _ I h) fun v s1 ⟨x, H1, I1, r1, ty, q1⟩ => ?_)
  obtain ⟨h1, h2⟩ := tyT_is I1 r1 ty
  refine ⟨"tuple", id, pa, slot, hty, h1, h2, ?_⟩
  have hA := ha.run cpos pins s1 σ H1 _ I1 q1
  rw [hs] at hA ⊢
  refine Calls.callWith_builtin (by show (false || (backTo cpos (starEach es X.env)).any (·.1)) = false; rw [hplain] <;> rfl) (Calls.evalArgs_plain ?_)
  exact thn hA fun us s2 ⟨vs, H2, I2, r2, q2⟩ => hm pins s2 σ H2 x vs v us Q I2 r1 r2 q2
end
end L2
namespace DL
open PySem L2 PySem.Spec PyProof.Rows
variable {G : Glb} {X : Cx} {W : WX}
mutual
/-- known tuples read as tuples -/
def unD : D → D
  | .tup ds => .tup (unDs ds)
  | .tpl ds => .tup (unDs ds)
  | d => d
def unDs : List D → List D
  | [] => []
  | d :: ds => unD d :: unDs ds
end
mutual
theorem unD_is {φ : Fi} {H : Hp} : ∀ {d : D} {v : V}, Is G φ H d v → Is G φ H (unD d) v
  | .tup ds, v, h => by
    obtain ⟨a, xs, e, r, q⟩ := h
    exact ⟨a, xs, e, r, unDs_is q⟩
  | .tpl ds, v, h => by
    obtain ⟨a, xs, o, e, ⟨n, r, _⟩, q⟩ := h
    exact ⟨a, xs, e, .inl ⟨n, .inr ⟨o, r⟩⟩, unDs_is q⟩
  | .non, v, h => h
  | .bl b, v, h => h
  | .int i, v, h => h
  | .str x, v, h => h
  | .lst ds, v, h => h
  | .dic ks ds, v, h => h
  | .obj c ks ds, v, h => h
  | .loc l, v, h => h
  | .dct ks ds, v, h => h
  | .exn c ks ds, v, h => h
theorem unDs_is {φ : Fi} {H : Hp} : ∀ {ds : List D} {xs : List V}, IsL G φ H ds xs → IsL G φ H (unDs ds) xs
  | [], xs, h => h
  | d :: ds, xs, h => by
    obtain ⟨x, r, e, p, q⟩ := h
    exact ⟨x, r, e, unD_is p, unDs_is q⟩
end
def eUn (f : EM) : EM := fun env S => (f env S).bind fun d S => .ok (unD d) S
theorem de_un {e : Expr} {f : EM} (h : DE G X W e f) : DE G X W e (eUn f) := by
  obtain ⟨t, p, q⟩ := h
  exact ⟨t, p, fun σ H env φ S Q s re h => q σ H env φ S Q s re (PostE.bind h fun d S1 φ1 H1 v e1 s1 i1 h1 => h1.now s1 (unD_is i1))⟩
theorem tpl_new {φ : Fi} {S : Store} {H : Hp} {σ : L2.St} {es : List D} {xs : List V} {Q : VK} (s : SOk G φ S H) (q : IsL G φ H es xs) (h : PostE G W φ H σ (.ok (.tpl es) S) Q) {p : Addr} {o : Obj} (hp : H p = none) (hc : o.cls = .type "tuple") (hd : o.dict = none) : Q (.ref p) (upd H p (.frz o (.tup xs))) :=
  h φ _ _ (.laid hp) (s.laid hp) ⟨p, xs, o, rfl, ⟨s.fresh hp, upd_same, hc, hd⟩, q.ext (.laid hp)⟩
/-- tuple(a list) -/
def bTupleZ (ds : List D) (S : Store) : ER := match ds with
  | [d] => match listD S d with
    | some es => .ok (.tpl es) S
    | none => .bad
  | _ => .bad
theorem dc_tupleZ (hK : X.K = G.K) : DCall G X (.type "tuple") bTupleZ := by
  refine ⟨_, call_tupleZ, fun W φ S H σ ds xs Q s i h => ?_⟩
  unfold bTupleZ at h
  split at h
  · obtain ⟨x, rfl, k⟩ := IsL.inv1 i
    split at h
    · rename_i es e
      obtain ⟨a, ys, rfl, r, q⟩ := listD_sq s k e
      exact ⟨a, ys, rfl, by rw [hK]; exact r, fun l o hl hc hd => tpl_new s q h hl hc hd⟩
    · exact bad_no h
  · exact bad_no h
/-- t.index(x), t a known tuple of texts -/
def mIndexZ (o : D) (ds : List D) (S : Store) : ER := match o, ds with
  | .tpl es, [.str z] => match strsD es with
    | some ys => if z ∈ ys then .ok (.int (ys.idxOf z : Nat)) S else .bad
    | none => .bad
  | _, _ => .bad
def isTpl : D → Bool
  | .tpl _ => true
  | _ => false
def eIndexZ (fo : EM) (fa : LM) : EM := fun env S => (fo env S).bind fun d S => if isTpl d then (fa env S).bindE fun ds S => mIndexZ d ds S else .bad
theorem de_indexZ {o : Expr} {fo : EM} {fa : LM} {apos cpos : Pos} (hK : X.K = G.K) (ho : DE G X W o fo) (ha : DA G X W (e :: es) fa)
    (hbase : attributeBase o "index" X.env (eval o X.env) = eval o X.env := by rfl)
    (hfew : ((backTo cpos (starEach (e :: es) X.env)).all (fun x => !x.1) && (backToKw cpos (keywordEach [] X.env)).all (fun x => x.1.isSome) && decide ((e :: es).length + ([] : List Keyword).length + (if ([] : List Keyword).isEmpty then 0 else 1) < 30)) = true := by rfl)
    (hline : (apos.endLine == cpos.line) = true := by rfl) (hs : starEach (e :: es) X.env = (false, eval e X.env) :: starEach es X.env := by rfl) (hplain : (backTo cpos (starEach es X.env)).any (·.1) = false := by rfl) :
    DE G X W (.Call (.Attribute o "index" apos) (e :: es) [] cpos) (eIndexZ fo fa) := by
  obtain ⟨to, po, qo⟩ := ho
  obtain ⟨t, pt, qt⟩ := ha
  refine ⟨_, pe_tm PySem.F.plainAttrs_tuple PySem.F.slot_tuple_index PySem.F.type_tuple_index mt_tup_index po pt hbase hfew hline hs hplain, fun σ H env φ S Q s re h => ?_⟩
  refine qo σ H env φ S _ s re (PostE.bind h fun d S1 φ1 H1 v e1 s1 i1 h1 => ?_)
  split at h1
  · rename_i ht
    cases d with
    | tpl es =>
      have i1' := i1
      obtain ⟨a, vs, ob, rfl, ⟨n1, r1, hc, hd⟩, il⟩ := i1
      refine ⟨⟨a, ob, vs, rfl, r1, hc, hd⟩, qt σ H1 env φ1 S1 _ s1 (re.ext e1) (PostL.bindE h1 fun ds S2 φ2 H2 xs e2 s2 i2 h2 => ?_)⟩
      obtain ⟨a2, vs2, ob2, hv, ⟨n2, r2, _⟩, il2⟩ := i1'.ext e2
      cases hv
      unfold mIndexZ at h2
      split at h2
      · rename_i es' z hz
        cases hz
        obtain ⟨y, rfl, k⟩ := IsL.inv1 i2
        cases (show y = _ from k)
        split at h2
        · rename_i ys ee
          split at h2
          · rename_i hm
            rw [strsD_is ee] at il2
            have ev := isL_strV il2
            subst ev
            exact ⟨a, ys, z, ys.idxOf z, rfl, rfl, by rw [hK]; exact .inl (.inr ⟨ob2, r2⟩), by rw [List.getElem?_eq_getElem (List.idxOf_lt_length_of_mem hm)]; simp, fun m hm => idx_before m hm, h2.now s2 rfl⟩
          · exact bad_no h2
        · exact bad_no h2
      · exact bad_no h2
    | _ => cases ht
  · exact False.elim h1
theorem mIndexZ_is {S : Store} {ys : List Str} {z : Str} (h : z ∈ ys) : mIndexZ (.tpl (ys.map .str)) [.str z] S = .ok (.int (ys.idxOf z : Nat)) S := by
  unfold mIndexZ
  dsimp only
  rw [strsD_map]
  dsimp only
  rw [if_pos h]
end DL
end
section
/-! Exceptions over data: raise, try .. except C as e (the exception kept as data), isinstance of them. -/
namespace L2
open PySem PySem.Spec PyProof.Rows
section
variable {X : Cx} {a : Addr} {pins : List (Addr × Obj)} {σ : St} {H : Hp} {s sI : Shared} {h1 : Heap} {cls : Value} {d : Option Addr}
end
section
variable {X : Cx} {x n : Str} {c : Value} {i : Nat} {body suite : List Stmt} {b₀ : Stmt} {np pos pos' : Pos} {tb : WX → TS} {ts : TS} {Wout : WX}
end
end L2
end
section
/-! Exceptions over data, part 2: the D-layer's rules. -/
namespace L2
open PySem PySem.Spec PyProof.Rows
/-- what the class of a kept exception must say -/
structure ExcD (K : PySem.W.Frag) (D : Addr) : Prop where
  hg : PySem.W.findIn K (.ref D) "__getattribute__" = some (some (.builtin "BaseException.__getattribute__"))
  hk : PySem.W.findIn K (.ref D) "__getattr__" = some none
  hs : PySem.W.subIn K (.ref D) (.type "BaseException") = some true
  hd : PySem.W.hasDictIn K D = true
  ha : PySem.W.findIn K (.ref D) "__class__" = some (some (.builtin "object.__class__"))
  hn : PySem.W.specialIn K (.builtin "object.__class__") "__get__" = some (some (.builtin "getset_descriptor.__get__"))
  ht : PySem.W.takesIn K (.builtin "object.__class__") = some true
  hm : PySem.W.mroIn K D (.type "object") = some true
/-- types, exceptions too -/
inductive TyE (K : PySem.W.Frag) (H : Hp) : V → Value → Prop where
  | z {v : V} {t : Value} (h : TyZ K H v t) : TyE K H v t
  | x {a D : Addr} {d : Option Addr} (e : H a = some (DL.ExH (.ref D) d a)) (hd : ∀ b, d = some b → ∃ o, H b = some o) (c : ExcD K D) : TyE K H (.ref a) (.ref D)
section
variable {X : Cx}
end
end L2
namespace DL
open PySem L2
variable {G : Glb} {X : Cx} {W : WX}
/-! ### isinstance, exceptions too -/
/-- classes, exceptions too -/
def ClE (G : Glb) : TyD → Value → Prop
  | .x c, v => ∃ C, G.ce c = some C ∧ v = .ref C
  | t, v => ClD G t v
def tyE (S : Store) : D → Option TyD
  | .exn c _ _ => some (.x c)
  | d => tyO S d
/-- a class of exceptions: which of the raised ones are of it -/
def tabX (sub : Str → Bool) : TyD → Option Bool
  | .x c => some (sub c)
  | _ => some false
/-- what a class says of things, exceptions too -/
structure IsTE (G : Glb) (u : Value) (tab : TyD → Option Bool) : Prop where
  ok : ∀ t tv r, ClE G t tv → tab t = some r → PySem.W.kitOne G.K tv u = some r
/-- isinstance(e, (A, B, ..)) -/
inductive CNamesE (G : Glb) (X : Cx) : List Expr → List V → List Value → (TyD → Option Bool) → Prop where
  | nil : CNamesE G X [] [] [] tabF
  | cons {x : Str} {pos : Pos} {v : V} {u : Value} {tab tab2 : TyD → Option Bool} {es : List Expr} {vs : List V} {us : List Value} (cn : CName X x v u) (ist : IsTE G u tab) (r : CNamesE G X es vs us tab2)
      (hs : starEach (.Name x pos :: es) X.env = (false, eval (.Name x pos) X.env) :: starEach es X.env := by rfl) : CNamesE G X (.Name x pos :: es) (v :: vs) (u :: us) (tabOr tab tab2)
theorem CNamesE.pa {es : List Expr} {vs : List V} {us : List Value} {tab : TyD → Option Bool} (c : CNamesE G X es vs us tab) : ∃ t, PA X es t ∧ ∀ σ H Q, Q vs H → t σ H Q := by
  induction c with
  | nil => exact ⟨_, pa_nil, fun _ _ _ h => h⟩
  | cons cn ist r hs ih =>
    obtain ⟨t, h1, h2⟩ := ih
    exact ⟨_, pa_cons (cn.pe _) h1 hs, fun σ H Q h => h2 σ H _ h⟩
theorem CNamesE.vs {es : List Expr} {vs : List V} {us : List Value} {tab : TyD → Option Bool} (c : CNamesE G X es vs us tab) : Paired ClsV vs us := by
  induction c with
  | nil => exact .nil
  | cons cn ist r hs ih => exact .cons cn.cv ih
theorem CNamesE.len {es : List Expr} {vs : List V} {us : List Value} {tab : TyD → Option Bool} (c : CNamesE G X es vs us tab) : vs.length = es.length := by
  induction c with
  | nil => rfl
  | cons cn ist r hs ih => simp [ih]
theorem CNamesE.any {es : List Expr} {vs : List V} {us : List Value} {tab : TyD → Option Bool} (c : CNamesE G X es vs us tab) : ∀ {t : TyD} {tv : Value} {b : Bool}, ClE G t tv → tab t = some b → PySem.W.kitAny G.K tv us = some b := by
  induction c with
  | nil => intro t tv b _ h; cases h; rfl
  | @cons x pos v u tab tab2 es vs us cn ist r hs ih =>
    intro t tv b h1 h2
    unfold PySem.W.kitAny
    unfold tabOr at h2
    cases h3 : tab t with
    | none => rw [h3] at h2; cases h2
    | some b1 =>
      rw [h3] at h2
      rw [ist.ok t tv b1 h1 h3]
      cases b1 with
      | true => exact h2
      | false => exact ih h1 h2
def eIsE (tab : TyD → Option Bool) (f : EM) : EM := fun env S => (f env S).bind fun d S => match (tyE S d).bind tab with
  | some b => .ok (.bl b) S
  | none => .bad
/-! ### raise -/
def sRaise (c : Str) : SM := fun e S => .ex ⟨c, none⟩ e S
/-- what raising an own class with a text asks of it -/
structure ExcR (G : Glb) (mg : Str → Option Value) (c : Str) : Prop where
  ex : ∃ C, mg c = some (.ref C) ∧ G.ce c = some C ∧ PySem.W.excIn G.K C [.type "ValueError", .type "Exception", .type "BaseException", .type "object"] "ValueError.__new__" = true ∧ PySem.W.keepIn G.K (.ref C) = true ∧
    PySem.W.subIn G.K (.ref C) (.type "BaseException") = some true ∧ PySem.W.typeIn G.K (.ref C) = some (.type "type")
theorem ds_raise {c m : Str} {j : Nat} {p p2 pos pos' : Pos} (hK : X.K = G.K) (hc : X.calm = true) (tk : Takes X W) (xr : ExcR G X.mg c) (hg : Gl X c) (hdb : (c == ("__debug__" : Str)) = false := by decide) :
    DS G X W (.Raise (some (.Call (.Name c p) [.Constant (.str m) j p2] [] pos)) none pos') (sRaise c) := by
  obtain ⟨C, h1, h2, h3, h4, h5, h6⟩ := xr.ex
  rw [← hK] at h3 h4 h5 h6
  exact ⟨_, ps_raise hc tk (pmk_own PySem.F.excBase_ValueError h3 h1 h4 (raises_own h5 h6) hg hdb), fun σ H env φ S N s re h => h φ H σ (.ref C) none .refl s re ⟨C, h2, rfl, rfl⟩⟩

/-! ### try .. except C as e: the exception is data in its suite -/
def exnD (x : Exc) : D := match x.fld with
  | none => .exn x.cls [] []
  | some (f, d) => .exn x.cls [f] [d]
def SR.off (i : Nat) : SR → SR
  | .nx e S => .nx (e.set i none) S
  | .bk e S => .bk (e.set i none) S
  | .ct e S => .ct (e.set i none) S
  | .rt d S => .rt d S
  | _ => .bad
theorem RepE.drop {φ : Fi} {H : Hp} {σ : St} {env : EnvD} (i : Nat) (h : RepE G φ H σ env) : RepE G φ H (σ.set i none) (env.set i none) := by
  have q := h.wipe [i]
  exact q
def tOfS (G : Glb) (W : WX) (f : SM) : TS := fun N σ H => ∃ env φ S, SOk G φ S H ∧ RepE G φ H σ env ∧ PostS G W φ H (f env S) N
theorem DSs.can {b : List Stmt} {f : SM} (h : DSs G X W b f) : PSs X b (tOfS G W f) := by
  obtain ⟨t, p, q⟩ := h
  exact ⟨fun pins s σ H D I ⟨env, φ, S, so, r, z⟩ => p.run pins s σ H D I (q σ H env φ S D so r z)⟩
section
variable {S : Store} {env : EnvD}
@[simp] theorem eIsE_is {tab : TyD → Option Bool} {f : EM} : eIsE tab f env S = (f env S).bind fun d S => match (tyE S d).bind tab with
  | some b => .ok (.bl b) S
  | none => .bad := rfl
@[simp] theorem tyE_exn {c ks ds} : tyE S (.exn c ks ds) = some (.x c) := rfl
@[simp] theorem tyE_non : tyE S .non = some (.b .none) := rfl
@[simp] theorem tabX_b {a : Ty} {sub} : tabX sub (.b a) = some false := rfl
@[simp] theorem tabX_o {c sub} : tabX sub (.o c) = some false := rfl
@[simp] theorem tabX_x {c sub} : tabX sub (.x c) = some (sub c) := rfl
@[simp] theorem sRaise_is {c : Str} : sRaise c env S = .ex ⟨c, none⟩ env S := rfl
@[simp] theorem exnD_n {c : Str} : exnD ⟨c, none⟩ = .exn c [] [] := rfl
@[simp] theorem exnD_s {c f : Str} {d : D} : exnD ⟨c, some (f, d)⟩ = .exn c [f] [d] := rfl
@[simp] theorem off_nx {i : Nat} {e : EnvD} : SR.off i (.nx e S) = .nx (e.set i none) S := rfl
@[simp] theorem off_rt {i : Nat} {d : D} : SR.off i (.rt d S) = .rt d S := rfl
end
end DL
end
section

end
section
/-! sorted, of a list of texts. -/
namespace DL
open PySem L2
variable {G : Glb} {X : Cx} {W : WX}
def leS (a b : Str) : Bool := !ltK1 (.inr b) (.inr a)
def sortS (l : List Str) : List Str := l.mergeSort leS
/-- sorted, of a list of texts alone -/
def bSortedS (ds : List D) (S : Store) : ER := match ds with
  | [d] => match (listD S d).bind strsD with
    | some ns => if ns.length < 64 then .ok (.lst ((sortS ns).map .str)) S else .bad
    | none => .bad
  | _ => .bad
@[simp] theorem bSortedS_l {ns : List Str} {S : Store} : bSortedS [.lst (ns.map .str)] S = if ns.length < 64 then .ok (.lst ((sortS ns).map .str)) S else .bad := by
  unfold bSortedS
  dsimp only
  rw [show listD S (.lst (ns.map .str)) = some (ns.map .str) from rfl, Option.bind_some, strsD_map]
end DL
end
section
/-! xs.count(y), of nested data. -/
namespace L2
open PySem PySem.Spec PyProof.Rows
end L2
namespace DL
open PySem L2
variable {G : Glb} {X : Cx} {W : WX}
end DL
end
section
namespace DL
open PySem L2
variable {G : Glb} {X : Cx} {W : WX}
/-- list + list, kept as a cell -/
noncomputable def opAddM (x y : D) (S : Store) : ER := match listD S x, listD S y with
  | some a, some b => if sz (a.length + b.length) then .ok (.loc S.length) (S ++ [.lst (a ++ b)]) else .bad
  | _, _ => .bad
@[simp] theorem opAddM_ll {a b : List D} {S : Store} : opAddM (.lst a) (.lst b) S = if sz (a.length + b.length) then .ok (.loc S.length) (S ++ [.lst (a ++ b)]) else .bad := rfl
end DL
end
section
namespace L2
open PySem PySem.Spec PyProof.Rows
end L2
namespace DL
open PySem L2
variable {G : Glb} {X : Cx} {W : WX}
/-- xs.extend(ys): ys any list -/
noncomputable def mExtendX (o : D) (ds : List D) (S : Store) : ER := cellL S o fun l xs => match ds with
  | [d] => match listD S d with
    | some ys => if sz (xs.length + ys.length) then .ok .non (S.set l (.lst (xs ++ ys))) else .bad
    | _ => .bad
  | _ => .bad
@[simp] theorem mExtendX_l {l : Nat} {ys : List D} {S : Store} : mExtendX (.loc l) [.lst ys] S = match cel S l with | some (.lst xs) => if sz (xs.length + ys.length) then .ok .non (S.set l (.lst (xs ++ ys))) else .bad | _ => .bad := by
  unfold mExtendX
  rw [cellL_c]
  rfl
end DL
end
section
/-! range(i, j, -1) -/
namespace DL
open PySem L2
variable {G : Glb} {X : Cx} {W : WX}
def downD (lo : Int) (n : Nat) : List D := (List.range n).map fun k => .int (lo + (k : Nat) * -1)
noncomputable def iRangeDn (f : LM) : LM := fun env S => (f env S).bind fun ds S => match ds with
  | [.int i, .int j, .int c] => if rOk i ∧ rOk j ∧ c = -1 then .ok (downD i (i - j).toNat) S else .bad
  | _ => .bad
@[simp] theorem iRangeDn_is {f : LM} : iRangeDn f env S = (f env S).bind fun ds S => match ds with
  | [.int i, .int j, .int c] => if rOk i ∧ rOk j ∧ c = -1 then .ok (downD i (i - j).toNat) S else .bad
  | _ => .bad := rfl
end DL
end
section
/-! isinstance(e, ValueError); e.f of an exception that is data; raise C(x), where C's own __init__ keeps x. -/
namespace L2
open PySem PySem.Spec PyProof.Rows
/-- an __init__ that keeps its one argument -/
def spI (C : Addr) (f : Str) : Sp := fun vs H Q E => ∃ a y, vs = [.ref a, y] ∧ H a = some (exo a C none) ∧ ∀ dx, H dx = none → dx ≠ a → Q .non (upd (upd H dx (exd dx [(f, y)])) a (exo a C (some dx)))
end L2
namespace DL
open PySem L2
variable {G : Glb} {X : Cx} {W : WX}
/-! ### isinstance(e, ValueError) -/
/-! ### e.f -/
def xFld (d : D) (f : Str) : Option D := match d with
  | .exn _ [g] [x] => if g = f then some x else none
  | _ => none
def eXFld (f : Str) (g : EM) : EM := fun env S => (g env S).bind fun d S => match xFld d f with
  | some x => .ok x S
  | none => .bad
@[simp] theorem eXFld_is {f : Str} {g : EM} {env : EnvD} {S : Store} : eXFld f g env S = (g env S).bind fun d S => match xFld d f with
  | some x => .ok x S
  | none => .bad := rfl
/-! ### raise C(x), where C's own __init__ keeps x -/
structure ExcF (G : Glb) (P : Program) (w : World) (mg : Str → Option Value) (base : Heap) (k : Nat) (c f : Str) : Prop where
  ex : ∃ C fI fd ps, mg c = some (.ref C) ∧ G.ce c = some C ∧ OexC G.K C ∧ PySem.W.findIn G.K (.ref C) "__init__" = some (some (.ref fI)) ∧ PySem.W.typeIn G.K (.ref fI) = some (.type "function") ∧ FnOk P w G.K mg base (L2.CX P w) k fI fd ps (spI C f) ∧ Binds G.K fd ps []
def sRaiseF (c f : Str) (g : EM) : SM := fun e S => (g e S).bindS e fun d S => .ex ⟨c, some (f, d)⟩ e S
@[simp] theorem sRaiseF_is {c f : Str} {g : EM} {e : EnvD} {S : Store} : sRaiseF c f g e S = (g e S).bindS e fun d S => .ex ⟨c, some (f, d)⟩ e S := rfl
end DL
end
section
namespace DL
open PySem L2
noncomputable section
def g_is_whole : SM :=
(sRet (eAnd (eIsC (tabB .int) (eVar 0)) (eNot (eIsC (tabB .bool) (eVar 0)))))
def d_is_whole : FD := fnF .pure 1 g_is_whole
def g_is_between : SM :=
(sRet (eAnd (eCall d_is_whole (lCons (eVar 0) lNil)) (eChain opLe opLe (eVar 1) (eVar 0) (eVar 2))))
def d_is_between : FD := fnF .pure 3 g_is_between
def g_is_one_of : SM :=
(sRet (eAnd (eIsC (tabB .str) (eVar 0)) (eOp opIn (eVar 0) (eVar 1))))
def d_is_one_of : FD := fnF .pure 2 g_is_one_of
def g_need_lot_e1 : EM :=
(eAnd (eIsC (tabB .str) (eVar 2)) (eOp opIn (eVar 2) (eVar 1)))
def g_need_lot : SM :=
(sSeq (sIf (eOr (eNot (eIsC (tabB .tuple) (eVar 1))) (eOp opNe (eCallB bLenX (lCons (eVar 1) lNil)) (eCallB bLenX (lCons (eVar 0) lNil))))
(sRaise "NoLot")
sSkip)
(sIf (eNot (eCallB bAll (lCons (eLc (iSeq (eVar 0)) (bName 2) eYes g_need_lot_e1 [2]) lNil)))
(sRaise "NoLot")
sSkip))
def d_need_lot : FD := fnF .pure 3 g_need_lot
def g_is_blank : SM :=
(sRet (eOr (eOp opIsN (eVar 1) (eC .non)) (eAnd (eIsC (tabB .tuple) (eVar 1)) (eAnd (eOp opEq (eVar 1) (eTup lNil)) (eOp opNe (eFldC ["Race"] "kind" (eVar 0)) (eC (.str "one")))))))
def d_is_blank : FD := fnF .pure 2 g_is_blank
def g_is_good_e1 : EM :=
(eCall d_is_one_of (lCons (eVar 2) (lCons (eFldC ["Race"] "choices" (eVar 0)) lNil)))
def g_is_good : SM :=
(sSeq (sIf (eOp opEq (eFldC ["Race"] "kind" (eVar 0)) (eC (.str "one")))
(sRet (eCall d_is_one_of (lCons (eVar 1) (lCons (eFldC ["Race"] "choices" (eVar 0)) lNil))))
sSkip)
(sSeq (sIf (eOr (eNot (eIsC (tabB .tuple) (eVar 1))) (eOr (eOp opEq (eVar 1) (eTup lNil)) (eNot (eCallB bAll (lCons (eLc (iSeq (eVar 1)) (bName 2) eYes g_is_good_e1 [2]) lNil)))))
(sRet (eC (.bl false)))
sSkip)
(sRet (eOp opEq (eLenSet (eVar 1)) (eCallB bLenX (lCons (eVar 1) lNil))))))
def d_is_good : FD := fnF .pure 3 g_is_good
def g_mark_word : SM :=
(sSeq (sIf (eCall d_is_blank (lCons (eVar 0) (lCons (eVar 1) lNil)))
(sRet (eC (.str "blank")))
sSkip)
(sRet (eIf (eCall d_is_good (lCons (eVar 0) (lCons (eVar 1) lNil))) (eC (.str "good")) (eC (.str "spoilt")))))
def d_mark_word : FD := fnF .pure 2 g_mark_word
def g_good_marks_t1 : EM :=
(eOp opEq (eCall d_mark_word (lCons (eVar 0) (lCons (eVar 3) lNil))) (eC (.str "good")))
def g_good_marks_e1 : EM :=
(eIf (eOp opEq (eFldC ["Race"] "kind" (eVar 0)) (eC (.str "one"))) (eTup (lCons (eVar 3) lNil)) (eVar 3))
def g_good_marks : SM :=
(sSeq (sAsg (eLc (iSeq (eVar 1)) (bName 3) g_good_marks_t1 (eVar 3) [3]) (bName 2))
(sRet (eLc (iAny (eVar 2)) (bName 3) eYes g_good_marks_e1 [3])))
def d_good_marks : FD := fnF .pure 4 g_good_marks
def g_best_first_e1 : EM :=
(eTup (lCons (eNeg (eOp opIxX (eVar 0) (eVar 5))) (lCons (eOp opIxX (eVar 2) (eVar 5)) (lCons (eVar 5) lNil))))
def g_best_first : SM :=
(sSeq (sAsg (eDc (iEnumX (lCons (eVar 1) lNil)) (bTup (bCons (bName 4) (bCons (bName 5) bNil))) eYes (eVar 5) (eVar 4) [4, 5]) (bName 2))
(sSeq (sAsg (eCallB bSortedZ (lCons (eLc (iAny (eVar 0)) (bName 5) eYes g_best_first_e1 [5]) lNil)) (bName 3))
(sRet (eLc (iSeq (eVar 3)) (bTup (bCons (bName 6) (bCons (bName 7) (bCons (bName 5) bNil)))) eYes (eVar 5) [6, 7, 5]))))
def d_best_first : FD := fnF .pure 8 g_best_first
def g_totals_e1 : EM :=
(eC (.int 0))
def g_totals_b1 : SM :=
(sAugX (· + ·) (eVar 2) (eVar 4) (eC (.int 1)))
def g_totals_b2 : SM :=
(sFor (iSeq (eIf (eOp opEq (eFldC ["Race"] "kind" (eVar 0)) (eC (.str "rank"))) (eSlice (eVar 3) oNone (oSome (eC (.int 1)))) (eVar 3))) (bName 4) g_totals_b1)
def g_totals : SM :=
(sSeq (sAsg (eDcM (iSeq (eFldC ["Race"] "choices" (eVar 0))) (bName 4) eYes (eVar 4) g_totals_e1 [4]) (bName 2))
(sSeq (sFor (iSeq (eCall d_good_marks (lCons (eVar 0) (lCons (eVar 1) lNil)))) (bName 3) g_totals_b2)
(sRet (eVar 2))))
def d_totals : FD := fnF .pure 5 g_totals
def g_top : SM :=
(sSeq (sDrop (eCall d_need_lot (lCons (eFldC ["Race"] "choices" (eVar 0)) (lCons (eVar 2) lNil))))
(sSeq (sAsg (eCall d_totals (lCons (eVar 0) (lCons (eVar 1) lNil))) (bName 3))
(sRet (eCallB bTuple (lCons (eSlice (eCall d_best_first (lCons (eVar 3) (lCons (eVar 2) lNil))) oNone (oSome (eFldC ["Race"] "seats" (eVar 0)))) lNil)))))
def d_top : FD := fnF .pure 4 g_top
def g_turned_t1 : EM :=
(eAnd (eOp opIn (eVar 2) (eVar 10)) (eOp opNotIn (eVar 3) (eVar 10)))
def g_turned_t2 : EM :=
(eAnd (eOp opIn (eVar 3) (eVar 10)) (eOp opNotIn (eVar 2) (eVar 10)))
def g_turned : SM :=
(sSeq (sAsg (eLc (iSeq (eVar 0)) (bName 10) g_turned_t1 (eVar 10) [10]) (bName 5))
(sSeq (sAsg (eLc (iSeq (eVar 0)) (bName 10) g_turned_t2 (eVar 10) [10]) (bName 6))
(sSeq (sAsg (eCallB (bII minII) (lCons (eCallB bLenX (lCons (eVar 5) lNil)) (lCons (eOp opFdiv (eOp opAdd (eVar 4) (eC (.int 1))) (eC (.int 2))) lNil))) (bName 7))
(sSeq (sAsg (eCallB (bII maxII) (lCons (eC (.int 0)) (lCons (eOp opSub (eVar 4) (eOp opMul (eC (.int 2)) (eVar 7))) lNil))) (bName 8))
(sSeq (sAsg (eOp opSub (eOp opSub (eVar 1) (eCallB bLenX (lCons (eVar 5) lNil))) (eCallB bLenX (lCons (eVar 6) lNil))) (bName 9))
(sRet (eIf (eOp opLe (eVar 8) (eVar 9)) (eOp opAdd (eVar 7) (eVar 8)) (eC .non))))))))
def d_turned : FD := fnF .pure 11 g_turned
def g_margin_b1 : SM :=
(sSeq (sAsg (eOp opAdd (eOp opSub (eOp opIxX (eVar 4) (eVar 8)) (eOp opIxX (eVar 4) (eVar 9))) (eCallB bInt (lCons (eOp opLt (eMeth "list" mIndex (eVar 2) (lCons (eVar 8) lNil)) (eMeth "list" mIndex (eVar 2) (lCons (eVar 9) lNil))) lNil))) (bName 10))
(sSeq (sAsg (eCall d_turned (lCons (eVar 3) (lCons (eVar 5) (lCons (eVar 8) (lCons (eVar 9) (lCons (eVar 10) lNil)))))) (bName 11))
(sIf (eOp opNotN (eVar 11) (eC .non))
(sDrop (eMeth "list" mAppend (eVar 7) (lCons (eVar 11) lNil)))
sSkip)))
def g_margin_b2 : SM :=
(sFor (iSeq (eSlice (eVar 6) (oSome (eFldC ["Race"] "seats" (eVar 0))) oNone)) (bName 9) g_margin_b1)
def g_margin : SM :=
(sSeq (sIf (eOp opEq (eFldC ["Race"] "kind" (eVar 0)) (eC (.str "rank")))
(sRaise "NoRace")
sSkip)
(sSeq (sDrop (eCall d_need_lot (lCons (eFldC ["Race"] "choices" (eVar 0)) (lCons (eVar 2) lNil))))
(sSeq (sPar3 3 4 5 (lCons (eCall d_good_marks (lCons (eVar 0) (lCons (eVar 1) lNil))) (lCons (eCall d_totals (lCons (eVar 0) (lCons (eVar 1) lNil))) (lCons (eCallB bLenX (lCons (eVar 1) lNil)) lNil))))
(sSeq (sAsg (eCall d_best_first (lCons (eVar 4) (lCons (eVar 2) lNil))) (bName 6))
(sSeq (sAsg (eLstM (lCons (eOp opAdd (eVar 5) (eC (.int 1))) lNil)) (bName 7))
(sSeq (sFor (iSeq (eSlice (eVar 6) oNone (oSome (eFldC ["Race"] "seats" (eVar 0))))) (bName 8) g_margin_b2)
(sRet (eCallB bMinL (lCons (eVar 7) lNil)))))))))
def d_margin : FD := fnF .pure 12 g_margin
def g_is_name_e1 : EM :=
(eOp opIn (eVar 1) (eC (.str "abcdefghijklmnopqrstuvwxyz")))
def g_is_name : SM :=
(sSeq (sIf (eOr (eNot (eIsC (tabB .str) (eVar 0))) (eNot (eChain opLe opLe (eC (.int 1)) (eCallB bLenX (lCons (eVar 0) lNil)) (eC (.int 8)))))
(sRet (eC (.bl false)))
sSkip)
(sRet (eCallB bAll (lCons (eLc (iSeq (eVar 0)) (bName 1) eYes g_is_name_e1 [1]) lNil))))
def d_is_name : FD := fnF .pure 2 g_is_name
def g_are_unlike_names_e1 : EM :=
(eCall d_is_name (lCons (eVar 3) lNil))
def g_are_unlike_names : SM :=
(sSeq (sIf (eOr (eNot (eIsC (tabB .tuple) (eVar 0))) (eOr (eNot (eChain opLe opLe (eVar 1) (eCallB bLenX (lCons (eVar 0) lNil)) (eVar 2))) (eNot (eCallB bAll (lCons (eLc (iSeq (eVar 0)) (bName 3) eYes g_are_unlike_names_e1 [3]) lNil)))))
(sRet (eC (.bl false)))
sSkip)
(sRet (eOp opEq (eLenSet (eVar 0)) (eCallB bLenX (lCons (eVar 0) lNil)))))
def d_are_unlike_names : FD := fnF .pure 4 g_are_unlike_names
def g_Race_init : SM :=
(sSeq (sIf (eOr (eNot (eCall d_are_unlike_names (lCons (eTup (lCons (eVar 1) lNil)) (lCons (eC (.int 1)) (lCons (eC (.int 1)) lNil))))) (eNot (eCall d_is_one_of (lCons (eVar 2) (lCons (eC (.tup [.str "one", .str "any", .str "rank"])) lNil)))))
(sRaise "NoRace")
sSkip)
(sSeq (sIf (eOr (eNot (eCall d_are_unlike_names (lCons (eVar 3) (lCons (eC (.int 2)) (lCons (eC (.int 5)) lNil))))) (eNot (eCall d_are_unlike_names (lCons (eVar 4) (lCons (eC (.int 1)) (lCons (eC (.int 6)) lNil))))))
(sRaise "NoRace")
sSkip)
(sSeq (sIf (eOr (eNot (eCall d_is_between (lCons (eVar 5) (lCons (eC (.int 1)) (lCons (eCallB bLenX (lCons (eVar 3) lNil)) lNil))))) (eNot eNev))
(sRaise "NoRace")
sSkip)
(sSeq (sFldC ["Place", "Race"] "name" (eVar 0) (eVar 1))
(sSeq (sFldC ["Race"] "kind" (eVar 0) (eVar 2))
(sSeq (sFldC ["Race"] "choices" (eVar 0) (eVar 3))
(sSeq (sFldC ["Race"] "districts" (eVar 0) (eVar 4))
(sSeq (sFldC ["Race"] "seats" (eVar 0) (eVar 5))
(sFldC ["Race"] "by" (eVar 0) (eVar 6))))))))))
def d_Race_init : FD := fnF .pure 7 g_Race_init
def g__law_next : SM :=
(sSeq (sIf (eOp opGt (eOp opIxX (eVar 0) (eC (.int 0))) (eC (.int 0)))
(sSeq (sAsg (eOp opMod (eOp opIxX (eVar 0) (eC (.int 0))) (eVar 1)) (bName 2))
(sSeq (sPutX (eVar 0) (eC (.int 0)) (eOp opFdiv (eOp opIxX (eVar 0) (eC (.int 0))) (eVar 1)))
(sRet (eVar 2))))
sSkip)
(sSeq (sPutX (eVar 0) (eC (.int 2)) (eOp opAdd (eOp opIxX (eVar 0) (eC (.int 2))) (eC (.int 1))))
(sSeq (sAsg (eOp opMod (eOp opPow (eOp opAdd (eOp opAdd (eOp opMul (eOp opIxX (eVar 0) (eC (.int 1))) (eOp opAdd (eOp opMul (eC (.int 2)) (eOp opIxX (eVar 0) (eC (.int 2)))) (eC (.int 1)))) (eOp opMul (eOp opMul (eC (.int 7919)) (eOp opIxX (eVar 0) (eC (.int 2)))) (eOp opIxX (eVar 0) (eC (.int 2))))) (eC (.int 11))) (eC (.int 5))) (eC (.int 2147483647))) (bName 3))
(sRet (eOp opMod (eOp opFdiv (eVar 3) (eC (.int 11))) (eVar 1))))))
def d__law_next : FD := fnF .keep 4 g__law_next
def g__law_pick : SM :=
(sRet (eOp opIxX (eVar 1) (eCall d__law_next (lCons (eVar 0) (lCons (eCallB bLenX (lCons (eVar 1) lNil)) lNil)))))
def d__law_pick : FD := fnF .keep 2 g__law_pick
def g__law_begun : SM :=
(sSeq (sAsg (eOp opAdd (eC (.int 1)) (eOp opMod (eOp opPow (eOp opAdd (eOp opAdd (eOp opMul (eOp opMod (eVar 0) (eC (.int 2147483647))) (eC (.int 48271))) (eOp opMul (eC (.int 104729)) (eVar 1))) (eC (.int 7))) (eC (.int 3))) (eC (.int 2147483629)))) (bName 2))
(sSeq (sIf (eOp opGe (eVar 0) (eOp opPow (eC (.int 10)) (eC (.int 18))))
(sRet (eLstM (lCons (eOp opSub (eVar 0) (eOp opPow (eC (.int 10)) (eC (.int 18)))) (lCons (eVar 2) (lCons (eC (.int 0)) lNil)))))
sSkip)
(sRet (eLstM (lCons (eC (.int 0)) (lCons (eVar 2) (lCons (eC (.int 0)) lNil)))))))
def d__law_begun : FD := fnF .keep 3 g__law_begun
def g__law_help : SM :=
(sSeq (sAsg (eIf (eOr (eOp opIsN (eVar 1) (eC .non)) (eOp opEq (eVar 1) (eC (.str "?")))) (eLst lNil) (eIf (eOp opEq (eOp opIxX (eVar 0) (eC (.int 1))) (eC (.str "one"))) (eLst (lCons (eVar 1) lNil)) (eCallB bListX (lCons (eVar 1) lNil)))) (bName 4))
(sRet (eOp opSub (eOp opAdd (eC (.int 1)) (eCallB bInt (lCons (eOp opIn (eVar 2) (eVar 4)) lNil))) (eCallB bInt (lCons (eOp opIn (eVar 3) (eVar 4)) lNil)))))
def d__law_help : FD := fnF .pure 5 g__law_help
def g__law_shuffled_e1 : EM :=
(eMeth "list" mPopAt (eVar 2) (lCons (eCall d__law_next (lCons (eVar 0) (lCons (eCallB bLenX (lCons (eVar 2) lNil)) lNil))) lNil))
def g__law_shuffled : SM :=
(sSeq (sAsg (eCallB bListXM (lCons (eVar 1) lNil)) (bName 2))
(sRet (eLc (iRange1 (lCons (eCallB bLenX (lCons (eVar 2) lNil)) lNil)) (bName 3) eYes g__law_shuffled_e1 [3])))
def d__law_shuffled : FD := fnF .pure 4 g__law_shuffled
def g__law_mark_t1 : EM :=
(eOp opEq (eCall d__law_next (lCons (eVar 0) (lCons (eC (.int 2)) lNil))) (eC (.int 0)))
def g__law_mark : SM :=
(sSeq (sPar 2 3 (lCons (eCall d__law_next (lCons (eVar 0) (lCons (eC (.int 9)) lNil))) (lCons (eOp opIxX (eVar 1) (eC (.int 2))) lNil)))
(sSeq (sIf (eOp opLt (eVar 2) (eC (.int 2)))
(sRet (eOp opIxX (eLst (lCons (eC .non) (lCons (eC (.str "?")) lNil))) (eVar 2)))
sSkip)
(sSeq (sIf (eOp opEq (eOp opIxX (eVar 1) (eC (.int 1))) (eC (.str "one")))
(sRet (eCall d__law_pick (lCons (eVar 0) (lCons (eVar 3) lNil))))
sSkip)
(sSeq (sAsg (eOrT (eLc (iSeq (eVar 3)) (bName 5) g__law_mark_t1 (eVar 5) [5]) (eLst (lCons (eCall d__law_pick (lCons (eVar 0) (lCons (eVar 3) lNil))) lNil))) (bName 4))
(sRet (eCallB bTuple (lCons (eIf (eOp opEq (eOp opIxX (eVar 1) (eC (.int 1))) (eC (.str "any"))) (eVar 4) (eCall d__law_shuffled (lCons (eVar 0) (lCons (eVar 4) lNil)))) lNil)))))))
def d__law_mark : FD := fnF .keep 6 g__law_mark
def g__law_marks_e1 : EM :=
(eCall d__law_mark (lCons (eVar 0) (lCons (eVar 1) lNil)))
def g__law_marks_e2 : EM :=
(eCall d__law_pick (lCons (eVar 0) (lCons (eVar 3) lNil)))
def g__law_marks : SM :=
(sSeq (sAsg (eLc (iRange1 (lCons (eOp opAdd (eC (.int 1)) (eCall d__law_next (lCons (eVar 0) (lCons (eC (.int 6)) lNil)))) lNil)) (bName 4) eYes g__law_marks_e1 [4]) (bName 3))
(sRet (eLc (iRange1 (lCons (eCall d__law_next (lCons (eVar 0) (lCons (eOp opAdd (eVar 2) (eC (.int 1))) lNil))) lNil)) (bName 4) eYes g__law_marks_e2 [4])))
def d__law_marks : FD := fnF .keep 5 g__law_marks
def g__law_names_e1 : EM :=
(eOp opAdd (eOp opIxX (eVar 2) (eOp opMod (eOp opAdd (eVar 3) (eOp opMul (eC (.int 5)) (eVar 5))) (eC (.int 26)))) (eOp opIxX (eVar 4) (eOp opMod (eOp opAdd (eVar 3) (eOp opMul (eVar 5) (eVar 5))) (eC (.int 6)))))
def g__law_names : SM :=
(sSeq (sAsg (eLst (lCons (eC (.str "place")) (lCons (eC (.str "letter")) (lCons (eC (.str "doubt")) (lCons (eC (.str "use")) (lCons (eC (.str "close")) (lCons (eC (.str "admit")) (lCons (eC (.str "refuse")) (lCons (eC (.str "counts")) (lCons (eC (.str "doubled")) (lCons (eC (.str "out")) (lCons (eC (.str "enter")) (lCons (eC (.str "move")) lNil))))))))))))) (bName 1))
(sSeq (sAsg (eOp opAdd (eVar 1) (eLst (lCons (eC (.str "strike")) (lCons (eC (.str "restore")) (lCons (eC (.str "one")) (lCons (eC (.str "any")) (lCons (eC (.str "rank")) (lCons (eC (.str "vote")) (lCons (eC (.str "roll")) (lCons (eC (.str "uses")) (lCons (eC (.str "settled")) (lCons (eC (.str "mixed")) (lCons (eC (.str "late")) (lCons (eC (.str "blank")) lNil)))))))))))))) (bName 1))
(sSeq (sAsg (eOp opAdd (eVar 1) (eLst (lCons (eC (.str "spoilt")) (lCons (eC (.str "stands")) lNil)))) (bName 1))
(sSeq (sAsg (eTup (lCons (eC (.str "abcdefghijklmnopqrstuvwxyz")) (lCons (eCall d__law_next (lCons (eVar 0) (lCons (eC (.int 26)) lNil))) lNil))) (bTup (bCons (bName 2) (bCons (bName 3) bNil))))
(sSeq (sIf (eOp opEq (eCall d__law_next (lCons (eVar 0) (lCons (eC (.int 4)) lNil))) (eC (.int 0)))
(sRet (eOp opAdd (eSlice (eVar 1) (oSome (eVar 3)) oNone) (eSlice (eVar 1) oNone (oSome (eVar 3)))))
sSkip)
(sSeq (sAsg (eLst (lCons (eC (.str "x")) (lCons (eC (.str "")) (lCons (eC (.str "qx")) (lCons (eC (.str "xxxqx")) (lCons (eC (.str "zq")) (lCons (eC (.str "qqqqqqq")) lNil))))))) (bName 4))
(sRet (eLc (iRange1 (lCons (eC (.int 26)) lNil)) (bName 5) eYes g__law_names_e1 [5]))))))))
def d__law_names : FD := fnF .keep 6 g__law_names
def g__law_turned_t1 : EM :=
(eOp opNe (eOp opIxX (eVar 5) (eVar 10)) (eVar 6))
def g__law_turned_e1 : EM :=
(eTup (lCons (eOp opSub (eC (.int 0)) (eCall d__law_help (lCons (eVar 0) (lCons (eOp opIxX (eVar 5) (eVar 10)) (lCons (eVar 2) (lCons (eVar 3) lNil)))))) (lCons (eVar 10) lNil)))
def g__law_turned_b1 : SM :=
(sSeq (sAsg (eLc (iRange1 (lCons (eCallB bLenX (lCons (eVar 5) lNil)) lNil)) (bName 10) g__law_turned_t1 (eVar 10) [10]) (bName 8))
(sSeq (sAsg (eLc (iSeq (eVar 8)) (bName 10) eYes g__law_turned_e1 [10]) (bName 9))
(sSeq (sIf (eOp opEq (eVar 9) (eLst lNil))
(sRet (eVar 5))
sSkip)
(sPutX (eVar 5) (eOp opIxX (eOp opIxX (eCallB bSortedX (lCons (eVar 9) lNil)) (eC (.int 0))) (eC (.int 1))) (eVar 6)))))
def g__law_turned : SM :=
(sSeq (sAsg (eTup (lCons (eCallB bListXM (lCons (eVar 1) lNil)) (lCons (eIf (eOp opEq (eOp opIxX (eVar 0) (eC (.int 1))) (eC (.str "one"))) (eVar 3) (eTup (lCons (eVar 3) lNil))) lNil))) (bTup (bCons (bName 5) (bCons (bName 6) bNil))))
(sSeq (sFor (iRange1 (lCons (eVar 4) lNil)) (bName 7) g__law_turned_b1)
(sRet (eVar 5))))
def d__law_turned : FD := fnF .pure 11 g__law_turned
def g_is_way : SM :=
(sSeq (sIf (eOp opNe (eVar 0) (eC (.str "rank")))
(sRet (eAnd (eIsC (tabB .str) (eVar 1)) (eOp opEq (eVar 1) (eC (.str "")))))
sSkip)
(sRet (eAnd (eCall d_is_one_of (lCons (eVar 1) (lCons (eC (.tup [.str "runoff", .str "pairs", .str "share"])) lNil))) (eOr (eOp opEq (eVar 1) (eC (.str "share"))) (eOp opEq (eVar 2) (eC (.int 1)))))))
def d_is_way : FD := fnF .pure 3 g_is_way
end
end DL
end
section
namespace DR
open PySem L2 DL
noncomputable section
def g_Race_init : SM :=
(sSeq (sIf (eOr (eNot (eCall d_are_unlike_names (lCons (eTup (lCons (eVar 1) lNil)) (lCons (eC (.int 1)) (lCons (eC (.int 1)) lNil))))) (eNot (eCall d_is_one_of (lCons (eVar 2) (lCons (eC (.tup [.str "one", .str "any", .str "rank"])) lNil)))))
(sRaise "NoRace")
sSkip)
(sSeq (sIf (eOr (eNot (eCall d_are_unlike_names (lCons (eVar 3) (lCons (eC (.int 2)) (lCons (eC (.int 5)) lNil))))) (eNot (eCall d_are_unlike_names (lCons (eVar 4) (lCons (eC (.int 1)) (lCons (eC (.int 6)) lNil))))))
(sRaise "NoRace")
sSkip)
(sSeq (sIf (eOr (eNot (eCall d_is_between (lCons (eVar 5) (lCons (eC (.int 1)) (lCons (eCallB bLenX (lCons (eVar 3) lNil)) lNil))))) (eNot (eCall d_is_way (lCons (eVar 2) (lCons (eVar 6) (lCons (eVar 5) lNil))))))
(sRaise "NoRace")
sSkip)
(sSeq (sFldC ["Place", "Race"] "name" (eVar 0) (eVar 1))
(sSeq (sFldC ["Race"] "kind" (eVar 0) (eVar 2))
(sSeq (sFldC ["Race"] "choices" (eVar 0) (eVar 3))
(sSeq (sFldC ["Race"] "districts" (eVar 0) (eVar 4))
(sSeq (sFldC ["Race"] "seats" (eVar 0) (eVar 5))
(sFldC ["Race"] "by" (eVar 0) (eVar 6))))))))))
def d_Race_init : FD := fnF .pure 7 g_Race_init
def g__law_names_b1 : SM :=
(sDrop (eMeth "list" mAppend (eVar 7) (lCons (eOp opAdd (eOp opIxX (eVar 3) (eOp opMod (eOp opAdd (eVar 4) (eOp opMul (eC (.int 5)) (eVar 8))) (eC (.int 26)))) (eOp opIxX (eVar 6) (eOp opMod (eOp opAdd (eVar 5) (eOp opMul (eVar 8) (eVar 8))) (eC (.int 6))))) lNil)))
def g__law_names_e1 : EM :=
(eOp opAdd (eVar 9) (eC (.str "yyy")))
def g__law_names : SM :=
(sSeq (sAsg (eMeth "str" mSplit (eC (.str "one any rank runoff pairs in out place letter doubt counts doubled admit")) (lCons (eC (.str " ")) lNil)) (bName 2))
(sSeq (sAsg (eOp opAdd (eVar 2) (eMeth "str" mSplit (eC (.str "refuse again stands counted vote roll uses mixed late result use close")) (lCons (eC (.str " ")) lNil))) (bName 2))
(sSeq (sAsg (eOp opAdd (eVar 2) (eLst (lCons (eC (.str "each")) (lCons (eC (.str "odd")) (lCons (eC (.str "spoilt")) (lCons (eC (.str "good")) (lCons (eC (.str "blank")) lNil))))))) (bName 2))
(sSeq (sAsg (eC (.str "abcdefghijklmnopqrstuvwxyz")) (bName 3))
(sSeq (sPar 4 5 (lCons (eCall d__law_next (lCons (eVar 0) (lCons (eC (.int 26)) lNil))) (lCons (eCall d__law_next (lCons (eVar 0) (lCons (eC (.int 6)) lNil))) lNil)))
(sSeq (sIf (eOp opEq (eCall d__law_next (lCons (eVar 0) (lCons (eC (.int 4)) lNil))) (eC (.int 0)))
(sRet (eSlice (eOp opAdd (eSlice (eVar 2) (oSome (eVar 4)) oNone) (eSlice (eVar 2) oNone (oSome (eVar 4)))) oNone (oSome (eVar 1))))
sSkip)
(sSeq (sAsg (eLst (lCons (eC (.str "x")) (lCons (eC (.str "")) (lCons (eC (.str "qxqxqxq")) (lCons (eC (.str "xx")) (lCons (eC (.str "qxqxq")) (lCons (eC (.str "zq")) lNil))))))) (bName 6))
(sSeq (sAsg (eLstM lNil) (bName 7))
(sSeq (sFor (iRange1 (lCons (eC (.int 26)) lNil)) (bName 8) g__law_names_b1)
(sRet (eSlice (eOp opAdd (eVar 7) (eLc (iSeq (eVar 3)) (bName 9) eYes g__law_names_e1 [9])) oNone (oSome (eVar 1)))))))))))))
def d__law_names : FD := fnF .pure 10 g__law_names
def g__law_race : SM :=
(sRet (eMakeKN "Race" (fun ds es => ds ++ pk [.inr 0, .inr 1] [] es) d_Race_init (lCons (eOp opIxX (eVar 0) (eC (.int 0))) (lCons (eOp opIxX (eVar 0) (eC (.int 1))) (lCons (eOp opIxX (eVar 0) (eC (.int 2))) (lCons (eTup (lCons (eC (.str "here")) lNil)) lNil)))) (lCons (eOp opIxX (eVar 0) (eC (.int 3))) (lCons (eOp opIxX (eVar 0) (eC (.int 4))) lNil))))
def d__law_race : FD := fnF .pure 1 g__law_race
def g__law_told_race : SM :=
(sSeq (sAsg (eCall d__law_names (lCons (eVar 0) (lCons (eC (.int 8)) lNil))) (bName 2))
(sSeq (sPar 3 4 (lCons (eCall d__law_pick (lCons (eVar 0) (lCons (eVar 1) lNil))) (lCons (eCallB bTuple (lCons (eSlice (eVar 2) (oSome (eC (.int 1))) (oSome (eOp opAdd (eC (.int 3)) (eCall d__law_next (lCons (eVar 0) (lCons (eC (.int 4)) lNil)))))) lNil)) lNil)))
(sSeq (sPar 5 6 (lCons (eOp opAdd (eC (.int 1)) (eCall d__law_next (lCons (eVar 0) (lCons (eCallB bLenX (lCons (eVar 4) lNil)) lNil)))) (lCons (eC (.str "")) lNil)))
(sSeq (sIf (eOp opEq (eVar 3) (eC (.str "rank")))
(sSeq (sAsg (eCall d__law_pick (lCons (eVar 0) (lCons (eLst (lCons (eC (.str "runoff")) (lCons (eC (.str "pairs")) (lCons (eC (.str "share")) (lCons (eC (.str "share")) lNil))))) lNil))) (bName 6))
(sAsg (eIf (eOp opEq (eVar 6) (eC (.str "share"))) (eVar 5) (eC (.int 1))) (bName 5)))
sSkip)
(sRet (eTup (lCons (eOp opIxX (eVar 2) (eC (.int 0))) (lCons (eVar 3) (lCons (eVar 4) (lCons (eVar 5) (lCons (eVar 6) lNil)))))))))))
def d__law_told_race : FD := fnF .keep 7 g__law_told_race
end
end DR
end
section
/-! set(xs) == set(ys), of ints and texts. -/
namespace L2
open PySem PySem.Spec PyProof.Rows
theorem entry_set_eq : entryFor table "set.__eq__" = some Builtin.«frozenset.__eq__» :=
  entryFor_alias (id' := "frozenset.__eq__") (by kernel_rfl) rfl (by decide +kernel) (by kernel_rfl)
theorem entry_set_ne : entryFor table "set.__ne__" = some Builtin.«frozenset.__ne__» :=
  entryFor_alias (id' := "frozenset.__ne__") (by kernel_rfl) rfl (by decide +kernel) (by kernel_rfl)
section
variable {prog : Program} {w : World} {A : Around} {E : Value → Shared → Prop} {s : Shared} {a b : Addr} {S S' : Key → Bool} {n n' : Nat}
theorem setEntries_ {a : Addr} {o : Obj} {es : Array (Int × Value)} {ep : Nat} {t : SetTable} {Q : Array (Int × Value) → Shared → Prop} (ho : s.heap.get? a = some o) (hd : o.data = .set es ep t) (hf : t.fits es.size = true) (h : Q es s) : wpAny (model prog w) A (setEntries a) Q E s := by
  unfold setEntries
  exact wpAny_bind (wpAny_setState_of ho hd hf (wpAny_pure h))
theorem setEpoch_ {a : Addr} {o : Obj} {es : Array (Int × Value)} {ep : Nat} {t : SetTable} {Q : Nat → Shared → Prop} (ho : s.heap.get? a = some o) (hd : o.data = .set es ep t) (hf : t.fits es.size = true) (h : Q ep s) : wpAny (model prog w) A (setEpoch a) Q E s := by
  unfold setEpoch
  exact wpAny_bind (wpAny_setState_of ho hd hf (wpAny_pure h))
theorem sizeOf_ {Q : Nat → Shared → Prop} (hS : s.heap.SetOf (mixKind prog w) a S n) (h : Q n s) : wpAny (model prog w) A (Builtin.Frozenset.sizeOf a) Q E s := by
  obtain ⟨o, es, ep, t, ho, _, hd, _, _, _, hf, hn⟩ := hS
  unfold Builtin.Frozenset.sizeOf
  exact wpAny_bind (setEntries_ ho hd hf (wpAny_pure (by rw [hn]; exact h)))
/-- no element is an object -/
theorem quiet_ {k : Key} {x : Value} {Q : Bool → Shared → Prop} (hk : (mixKind prog w).is k x = true) (h : Q true s) : wpAny (model prog w) A (Builtin.Frozenset.quietEq x) Q E s := by
  have c := (mixKind prog w).byValue k x hk
  unfold Builtin.Frozenset.quietEq
  cases x <;> first | exact wpAny_pure h | (cases c)
theorem walkUnseen_ {es es' : Array (Int × Value)} {o o' : Obj} {ep ep' : Nat} {t t' : SetTable} {Q : List (Int × Value) → Shared → Prop} (ho : s.heap.get? a = some o) (hd : o.data = .set es ep t) (hf : t.fits es.size = true) (he : ElemsOf (mixKind prog w) es.toList)
    (ho' : s.heap.get? b = some o') (hd' : o'.data = .set es' ep' t') (hf' : t'.fits es'.size = true) (he' : ElemsOf (mixKind prog w) es'.toList) (h : Q es.toList s) : wpAny (model prog w) A (Builtin.Frozenset.walkUnseen a b) Q E s := by
  unfold Builtin.Frozenset.walkUnseen
  refine wpAny_bind (setEntries_ ho hd hf ?_)
  refine wpAny_bind (setEntries_ ho' hd' hf' ?_)
  have hm : ∀ e ∈ es.toList ++ es'.toList, ∃ k, (mixKind prog w).is k e.2 = true := fun e hm => by
    rcases List.mem_append.mp hm with q | q
    · obtain ⟨⟨k, hk, _⟩, _⟩ := he e q; exact ⟨k, hk⟩
    · obtain ⟨⟨k, hk, _⟩, _⟩ := he' e q; exact ⟨k, hk⟩
  refine wpAny_bind (wpAny_mono (wpAny_forIn_list _ (fun (l : List (Int × Value)) r s2 => r = ⟨none, ⟨⟩⟩ ∧ s2 = s ∧ ∀ e ∈ l, ∃ k, (mixKind prog w).is k e.2 = true) (fun r s2 => r = ⟨none, ⟨⟩⟩ ∧ s2 = s) (fun x rest r s2 ⟨h1, h2, h3⟩ => ?_) (fun r s2 ⟨h1, h2, _⟩ => ⟨h1, h2⟩) _ _ ⟨rfl, rfl, hm⟩) (fun r s2 ⟨h1, h2⟩ => ?_) fun _ _ x => x)
  · subst h1 h2
    exact wpAny_pure h
  · subst h1 h2
    obtain ⟨k, hk⟩ := h3 x List.mem_cons_self
    obtain ⟨hh, v⟩ := x
    dsimp only
    refine wpAny_bind (quiet_ hk ?_)
    exact wpAny_pure ⟨rfl, rfl, fun e he => h3 e (List.mem_cons_of_mem _ he)⟩
open Classical in
/-- all of one within the other -/
theorem subsetOf_ {id : String} {Q : Bool → Shared → Prop} (hA : s.heap.SetOf (mixKind prog w) a S n) (hB : s.heap.SetOf (mixKind prog w) b S' n') (hn : n ≤ n') (h : Q (decide (∀ k, S k = true → S' k = true)) s) : wpAny (model prog w) A (Builtin.Frozenset.subsetOf id a b) Q E s := by
  unfold Builtin.Frozenset.subsetOf
  refine wpAny_bind (sizeOf_ hA ?_)
  refine wpAny_bind (sizeOf_ hB ?_)
  rw [if_neg (by omega)]
  have hA0 := hA
  have hB0 := hB
  obtain ⟨o, es, ep, t, ho, hx, hd, he, hm, hb, hf, hl⟩ := hA0
  obtain ⟨o', es', ep', t', ho', hx', hd', he', hm', hb', hf', hl'⟩ := hB0
  try refine wpAny_bind (wpAny_pure ?_)
  refine wpAny_bind (setEpoch_ ho hd hf ?_)
  refine wpAny_bind (walkUnseen_ ho hd hf he ho' hd' hf' he' ?_)
  have p0 : (∀ k, S k = true → S' k = true) ↔ ∀ e ∈ es.toList, ∀ k, (mixKind prog w).is k e.2 = true → S' k = true :=
    ⟨fun q e he k hk => q k ((hm k).mpr ⟨e, he, hk⟩), fun q k hk => by
      obtain ⟨e, he, hk⟩ := (hm k).mp hk
      exact q e he k hk⟩
  refine wpAny_bind (wpAny_mono (wpAny_forIn_list _ (fun (l : List (Int × Value)) r s2 => r = ⟨none, ⟨⟩⟩ ∧ s2 = s ∧ (∀ e ∈ l, e ∈ es.toList) ∧ ((∀ k, S k = true → S' k = true) ↔ ∀ e ∈ l, ∀ k, (mixKind prog w).is k e.2 = true → S' k = true)) (fun r s2 => s2 = s ∧ ((r = ⟨none, ⟨⟩⟩ ∧ ∀ k, S k = true → S' k = true) ∨ (r = ⟨some false, ⟨⟩⟩ ∧ ¬ ∀ k, S k = true → S' k = true))) (fun x rest r s2 ⟨h1, h2, h3, h4⟩ => ?_) (fun r s2 ⟨h1, h2, _, h4⟩ => ⟨h2, .inl ⟨h1, h4.mpr fun _ h => by simp at h⟩⟩) _ _ ⟨rfl, rfl, fun _ h => h, p0⟩) (fun r s2 ⟨h1, h2⟩ => ?_) fun _ _ x => x)
  · subst h1
    rcases h2 with ⟨rfl, q⟩ | ⟨rfl, q⟩
    · rw [decide_eq_true q] at h
      exact wpAny_pure h
    · rw [decide_eq_false q] at h
      exact wpAny_pure h
  · subst h1 h2
    obtain ⟨⟨k, hk, hh⟩, sc⟩ := he x (h3 x List.mem_cons_self)
    obtain ⟨hx, v⟩ := x
    dsimp only at hk hh sc ⊢
    subst hh
    refine wpAny_bind (wpAny_holding (wpAny_setFind_of hk sc hB fun r hr => ?_))
    have un : ∀ k', (mixKind prog w).is k' v = true → k' = k := fun k' h' => (mixKind prog w).inj v k' k h' hk
    cases hs : S' k with
    | false =>
      rw [hs] at hr
      have : r.isNone = true := by cases r <;> simp_all
      rw [if_pos this]
      refine wpAny_pure ⟨rfl, .inr ⟨rfl, fun q => ?_⟩⟩
      have := h4.mp q _ List.mem_cons_self k hk
      rw [hs] at this
      cases this
    | true =>
      rw [hs] at hr
      have : ¬ r.isNone = true := by cases r <;> simp_all
      rw [if_neg this]
      try refine wpAny_bind (wpAny_pure ?_)
      unfold Builtin.Frozenset.unchanged
      refine wpAny_bind (wpAny_bind (setEpoch_ ho hd hf ?_))
      rw [if_neg (by simp)]
      refine wpAny_pure ?_
      refine wpAny_pure ⟨rfl, rfl, fun e he => h3 e (List.mem_cons_of_mem _ he), h4.trans ⟨fun q e he => q e (List.mem_cons_of_mem _ he), fun q e he k' hk' => ?_⟩⟩
      rcases List.mem_cons.mp he with rfl | he
      · rw [un k' hk']; exact hs
      · exact q e he k' hk'
theorem anySet_ {Q : Bool → Shared → Prop} (hS : s.heap.SetOf (mixKind prog w) a S n) (h : Q true s) : wpAny (model prog w) A (Builtin.Frozenset.isAnySet (.ref a)) Q E s := by
  unfold Builtin.Frozenset.isAnySet orM
  refine wpAny_bind (wpAny_isInstance hS.typeIs (U := "set") (b := true) (by rw [isSubtype_type]; kernel_rfl) ?_)
  exact wpAny_pure h
open Classical in
/-- the answer of «frozenset.__eq__» within -/
theorem slot1_ {x y : Value} {nm : String} {Q : Value × Value → Shared → Prop} (h : Q (x, y) s) : wpAny (model prog w) A (Builtin.Frozenset.slot1 nm ⟨[x, y], []⟩) Q E s := by
  unfold Builtin.Frozenset.slot1 slotArgs
  refine wpAny_bind ?_
  dsimp only
  rw [if_neg (by simp)]
  rw [if_neg (by simp)]
  refine wpAny_pure ?_
  dsimp only
  exact wpAny_pure h
open Classical in
/-- two sets of ints and texts -/
theorem setEq_ {Q : Value → Shared → Prop} (hA : s.heap.SetOf (mixKind prog w) a S n) (hB : s.heap.SetOf (mixKind prog w) b S' n') (h : Q (.bool ((decide (n = n' ∧ ∀ k, S k = true → S' k = true)))) s) (hu : A.units < cLine) : wpAny (model prog w) A (richCompare .Eq (.ref a) (.ref b)) Q E s := by
  refine wpAny_richCompare_same_room hA.typeIs hB.typeIs PySem.F.slot_set_eq (wpAny_call_entry PySem.F.slot_set_eq hA.typeIs entry_set_eq ?_ (PySem.F.args_set_eq_2 _ _)) hu
  unfold Builtin.«frozenset.__eq__»
  refine wpAny_bind ?_
  refine slot1_ ?_
  dsimp only
  refine wpAny_bind (anySet_ hB ?_)
  rw [if_neg (by simp)]
  refine wpAny_bind ?_
  unfold Builtin.Frozenset.addrOf
  refine wpAny_pure ?_
  refine wpAny_bind ?_
  refine wpAny_pure ?_
  refine wpAny_bind (sizeOf_ hA ?_)
  refine wpAny_bind (sizeOf_ hB ?_)
  refine wpAny_bind ?_
  by_cases hn : n = n'
  · subst hn
    rw [if_neg (by simp)]
    refine wpAny_bind ?_
    unfold andM
    refine wpAny_bind (wpAny_isInstance hA.typeIs (U := "frozenset") (b := false) (by rw [isSubtype_type]; kernel_rfl) ?_)
    refine wpAny_pure ?_
    rw [if_neg (by simp)]
    refine subsetOf_ hA hB (Nat.le_refl _) ?_
    unfold ret
    simp only [true_and] at h
    exact wpAny_pure ⟨_, rfl, by simp, h⟩
  · rw [if_pos (by simp [hn])]
    refine wpAny_pure ?_
    unfold ret
    simp only [hn, false_and, decide_false] at h
    exact wpAny_pure ⟨_, rfl, by simp, h⟩
open Classical in
/-- two sets of ints and texts -/
theorem setNe_ {Q : Value → Shared → Prop} (hA : s.heap.SetOf (mixKind prog w) a S n) (hB : s.heap.SetOf (mixKind prog w) b S' n') (h : Q (.bool (!(decide (n = n' ∧ ∀ k, S k = true → S' k = true)))) s) (hu : A.units < cLine) : wpAny (model prog w) A (richCompare .NotEq (.ref a) (.ref b)) Q E s := by
  refine wpAny_richCompare_same_room hA.typeIs hB.typeIs PySem.F.slot_set_ne (wpAny_call_entry PySem.F.slot_set_ne hA.typeIs entry_set_ne ?_ (PySem.F.args_set_ne_2 _ _)) hu
  unfold Builtin.«frozenset.__ne__»
  refine wpAny_bind ?_
  refine slot1_ ?_
  dsimp only
  refine wpAny_bind (anySet_ hB ?_)
  rw [if_neg (by simp)]
  refine wpAny_bind ?_
  unfold Builtin.Frozenset.addrOf
  refine wpAny_pure ?_
  refine wpAny_bind ?_
  refine wpAny_pure ?_
  refine wpAny_bind (sizeOf_ hA ?_)
  refine wpAny_bind (sizeOf_ hB ?_)
  refine wpAny_bind ?_
  by_cases hn : n = n'
  · subst hn
    rw [if_neg (by simp)]
    refine wpAny_bind ?_
    unfold andM
    refine wpAny_bind (wpAny_isInstance hA.typeIs (U := "frozenset") (b := false) (by rw [isSubtype_type]; kernel_rfl) ?_)
    refine wpAny_pure ?_
    rw [if_neg (by simp)]
    refine subsetOf_ hA hB (Nat.le_refl _) ?_
    unfold ret
    simp only [true_and] at h
    exact wpAny_pure ⟨_, rfl, by simp, h⟩
  · rw [if_pos (by simp [hn])]
    refine wpAny_pure ?_
    unfold ret
    simp only [hn, false_and, decide_false] at h
    exact wpAny_pure ⟨_, rfl, by simp, h⟩
end
open DL
section
variable {X : Cx}
/-- set(xs) -/
def tSetK (P : Program) (w : World) (K : PySem.W.Frag) (ta : TE) : TE := fun σ H Q => ta σ H fun x H1 => ∃ (l : Addr) (ks : List Key), x = .ref l ∧ (SqL K H1 l (ks.map kV) ∨ SqT K H1 l (ks.map kV)) ∧ DL.few ks.length ∧ ∀ p, H1 p = none → Q (.ref p) (upd H1 p (SetK P w p (memK ks) (dcnt ks)))
theorem pe_setK {a : Expr} {ta : TE} {p2 q : Pos} (hc : X.calm = true) (hg2 : Gl X "set") (hm2 : X.mg "set" = none) (ha : PE X a ta)
    (na : starEach [a] X.env = (false, eval a X.env) :: starEach [] X.env := by rfl) : PE X (.Call (.Name "set" p2) [a] [] q) (tSetK X.prog X.w X.K ta) := by
  refine ⟨fun pins s σ H Q I h => Call_ (ld_blt I hg2 hm2 boot_set (PyProof.Rows.callWith_type1 (PyProof.Rows.args_cons (thn (ha.run pins s σ H _ I h) fun v s1 ⟨x, H1, I1, r1, q1⟩ => PyProof.Rows.args_nil ?_) na) na rfl))⟩
  obtain ⟨l, ks, rfl, hq, hf, q1⟩ := q1
  cases r1
  have go : ∀ (h' : Heap) (tk : Nat), SetMade X.prog X.w s1 ks h' → EP X pins σ Q (.ref s1.heap.objs.size) { s1 with heap := h', toks := tk } := fun h' tk ⟨made, old⟩ =>
    ⟨.ref _, _, I1.laid (t' := tk) (fun b o e => old b o (Heap.lt_size e) e) (Nat.le_refl _) (setK_new made), rfl, q1 _ (I1.hok.fresh (Nat.le_refl _))⟩
  rcases hq with hq | hq
  · obtain ⟨its, r, pl, hz⟩ := I1.list hq
    exact set_of_list (I1.ok.hd hc) pl.isList (by simpa using DL.vals_keys r) hf fun h' tk made => go h' tk made
  · obtain ⟨its, r, pl, hz⟩ := I1.tuple hq
    exact set_of_tuple (I1.ok.hd hc) pl (by simpa using DL.vals_keys r) hf fun h' tk made => go h' tk made
open Classical in
noncomputable def rSetEq (P : Program) (w : World) (neg : Bool) : R2 := fun x y H Q => ∃ (a b : Addr) (S S' : Key → Bool) (n n' : Nat), x = .ref a ∧ y = .ref b ∧ H a = some (SetK P w a S n) ∧ H b = some (SetK P w b S' n') ∧ Q (.bl (if neg then !(decide (n = n' ∧ ∀ k, S k = true → S' k = true)) else decide (n = n' ∧ ∀ k, S k = true → S' k = true))) H
theorem op_setEq (hu : X.A.units < cLine) : OpR X (compareOp .Eq) (rSetEq X.prog X.w false) := by
  intro pins s σ H x y v u Q I rx ry h
  obtain ⟨a, b, S, S', n, n', rfl, rfl, ha, hb, q⟩ := h
  cases rx
  cases ry
  exact setEq_ (setK_get I ha) (setK_get I hb) ⟨.bl _, H, I, rfl, q⟩ hu
theorem op_setNe (hu : X.A.units < cLine) : OpR X (compareOp .NotEq) (rSetEq X.prog X.w true) := by
  intro pins s σ H x y v u Q I rx ry h
  obtain ⟨a, b, S, S', n, n', rfl, rfl, ha, hb, q⟩ := h
  cases rx
  cases ry
  exact setNe_ (setK_get I ha) (setK_get I hb) ⟨.bl _, H, I, rfl, q⟩ hu
end
end L2
namespace DL
open PySem L2 PySem.Spec PyProof.Rows
section
variable {G : Glb} {X : Cx} {W : WX}
open Classical in
/-- the same members -/
noncomputable def sameK (ks js : List Key) : Bool := decide (dcnt ks = dcnt js ∧ ∀ k, memK ks k = true → memK js k = true)
noncomputable def eSetEq (neg : Bool) (fa fb : EM) : EM := fun env S => (fa env S).bind fun d S => match (seqD S d).bind keysD with
  | some ks => if few ks.length then match fb env S with
    | .ok d' S' => match (seqD S' d').bind keysD with
      | some js => if few js.length then .ok (.bl (if neg then !(sameK ks js) else sameK ks js)) S' else .bad
      | none => .bad
    | _ => .bad
    else .bad
  | none => .bad
theorem seqD_set {φ : Fi} {H : Hp} {S : Store} {d : D} {x : V} {ks : List Key} (s1 : SOk G φ S H) (i1 : Is G φ H d x) (e : (seqD S d).bind keysD = some ks) : ∃ l, x = .ref l ∧ (SqL G.K H l (ks.map kV) ∨ SqT G.K H l (ks.map kV)) := by
  obtain ⟨ds, e2, e3⟩ := Option.bind_eq_some_iff.mp e
  obtain ⟨l, xs, rfl, r, il⟩ := seqD_sq s1 i1 e2
  exact ⟨l, rfl, by rw [← keysD_is il e3]; exact r⟩
theorem set_of {ta tb : TE} {neg : Bool} {fa fb : EM} (hK : X.K = G.K) (qa : ∀ σ H env φ S Q, SOk G φ S H → RepE G φ H σ env → PostE G W φ H σ (fa env S) Q → ta σ H Q) (qb : ∀ σ H env φ S Q, SOk G φ S H → RepE G φ H σ env → PostE G W φ H σ (fb env S) Q → tb σ H Q)
    (σ : L2.St) (H : Hp) (env : EnvD) (φ : Fi) (S : Store) (Q : VK) (s : SOk G φ S H) (re : RepE G φ H σ env) (h : PostE G W φ H σ (eSetEq neg fa fb env S) Q) : tOp (rSetEq X.prog X.w neg) (tSetK X.prog X.w X.K ta) (tSetK X.prog X.w X.K tb) σ H Q := by
  refine qa σ H env φ S _ s re (PostE.bind h fun d S1 φ1 H1 v e1 s1 i1 h1 => ?_)
  split at h1
  · rename_i ks e
    obtain ⟨l, rfl, r⟩ := seqD_set s1 i1 e
    split at h1
    · rename_i hf
      refine ⟨l, ks, rfl, by rw [hK]; exact r, hf, fun p hp => ?_⟩
      refine qb σ _ env (φ1.hide p) S1 _ (s1.hide hp) ((re.ext e1).kept (Kept.hide hp)) ?_
      cases hb1 : fb env S1 with
      | bad => rw [hb1] at h1; exact False.elim h1
      | ex x S3 => rw [hb1] at h1; exact False.elim h1
      | ok d' S' =>
        rw [hb1] at h1
        intro φ2 H2 y e2 s2 i2
        dsimp only at h1
        split at h1
        · rename_i js ej
          obtain ⟨l', rfl, r'⟩ := seqD_set s2 i2 ej
          split at h1
          · rename_i hf'
            refine ⟨l', js, rfl, by rw [hK]; exact r', hf', fun p' hp' => ?_⟩
            have l2 : Lk φ1 H1 p φ2 H2 := (Lk.start hp).ext' e2
            have nc : p ∉ (φ1.hide p).c := s1.freshc hp
            have ho : H2 p = some (SetK X.prog X.w p (memK ks) (dcnt ks)) := e2.keepE nc upd_same (by unfold SetK; rintro (⟨_, z⟩ | ⟨_, z⟩) <;> cases z)
            refine ⟨p, p', _, _, _, _, rfl, rfl, by rw [upd_ne (ne_of_none ho hp')]; exact ho, upd_same, ?_⟩
            have s3 := (l2.past s2)
            exact h1 _ _ _ (l2.ext.trans (Ext.laid hp')) (s3.laid hp') (show Is G _ _ (.bl _) (.bl _) from rfl)
          · exact False.elim h1
        · exact False.elim h1
    · exact False.elim h1
  · exact False.elim h1
theorem dt_setCmp {op : CmpOp} {neg : Bool} {a b : Expr} {fa fb : EM} {p2 q p3 q3 pos : Pos} (hop : OpR X (compareOp op) (rSetEq X.prog X.w neg)) (hc : X.calm = true) (hK : X.K = G.K) (hg2 : Gl X "set") (hm2 : X.mg "set" = none) (ha : DE G X W a fa) (hb : DE G X W b fb)
    (hm : behindInMarks op (.Call (.Name "set" p3) [b] [] q3) = false)
    (na : starEach [a] X.env = (false, eval a X.env) :: starEach [] X.env) (nb : starEach [b] X.env = (false, eval b X.env) :: starEach [] X.env) : DT G X W (.Compare (.Call (.Name "set" p2) [a] [] q) [op] [.Call (.Name "set" p3) [b] [] q3] pos) (eSetEq neg fa fb) := by
  obtain ⟨ta, pa, qa⟩ := ha
  obtain ⟨tb, pb, qb⟩ := hb
  exact ⟨_, pt_cmpR hop (pe_setK hc hg2 hm2 pa na) (pe_setK hc hg2 hm2 pb nb) hm, fun σ H env φ S Q s re h => set_of hK qa qb σ H env φ S _ s re h.of⟩
theorem dt_setEq {a b : Expr} {fa fb : EM} {p2 q p3 q3 pos : Pos} (hu : X.A.units + 100 < cLine) (hc : X.calm = true) (hK : X.K = G.K) (hg2 : Gl X "set") (hm2 : X.mg "set" = none) (ha : DE G X W a fa) (hb : DE G X W b fb)
    (na : starEach [a] X.env = (false, eval a X.env) :: starEach [] X.env := by rfl) (nb : starEach [b] X.env = (false, eval b X.env) :: starEach [] X.env := by rfl) : DT G X W (.Compare (.Call (.Name "set" p2) [a] [] q) [.Eq] [.Call (.Name "set" p3) [b] [] q3] pos) (eSetEq false fa fb) :=
  dt_setCmp (op_setEq (by omega)) hc hK hg2 hm2 ha hb (nomark _) na nb
theorem dt_setNe {a b : Expr} {fa fb : EM} {p2 q p3 q3 pos : Pos} (hu : X.A.units + 100 < cLine) (hc : X.calm = true) (hK : X.K = G.K) (hg2 : Gl X "set") (hm2 : X.mg "set" = none) (ha : DE G X W a fa) (hb : DE G X W b fb)
    (na : starEach [a] X.env = (false, eval a X.env) :: starEach [] X.env := by rfl) (nb : starEach [b] X.env = (false, eval b X.env) :: starEach [] X.env := by rfl) : DT G X W (.Compare (.Call (.Name "set" p2) [a] [] q) [.NotEq] [.Call (.Name "set" p3) [b] [] q3] pos) (eSetEq true fa fb) :=
  dt_setCmp (op_setNe (by omega)) hc hK hg2 hm2 ha hb (nomark _) na nb
open Classical in
/-- each once -/
noncomputable def ddK : List Key → List Key
  | [] => []
  | k :: r => if k ∈ r then ddK r else k :: ddK r
theorem mem_ddK {x : Key} : ∀ {l : List Key}, x ∈ ddK l ↔ x ∈ l
  | [] => Iff.rfl
  | a :: l => by
    unfold ddK
    split
    · rename_i h
      rw [mem_ddK, List.mem_cons]
      exact ⟨.inr, fun z => z.elim (fun e => e ▸ h) id⟩
    · rw [List.mem_cons, List.mem_cons, mem_ddK]
theorem nd_ddK : ∀ l : List Key, (ddK l).Nodup
  | [] => List.nodup_nil
  | a :: l => by
    unfold ddK
    split
    · exact nd_ddK l
    · rename_i h
      exact List.nodup_cons.mpr ⟨fun z => h (mem_ddK.mp z), nd_ddK l⟩
theorem len_ddK : ∀ l : List Key, (ddK l).length = dcntR l
  | [] => rfl
  | a :: l => by
    unfold ddK dcntR
    split
    · exact len_ddK l
    · rw [List.length_cons, len_ddK l]
theorem nd_sub {α : Type} [DecidableEq α] : ∀ {A B : List α}, A.Nodup → (∀ x ∈ A, x ∈ B) → B.length ≤ A.length → ∀ x ∈ B, x ∈ A
  | [], B, _, _, h, x, hx => by
    cases B with
    | nil => exact hx
    | cons => simp at h
  | a :: A, B, hn, hs, hl, x, hx => by
    by_cases e : x = a
    · exact e ▸ List.mem_cons_self
    · refine List.mem_cons_of_mem _ (nd_sub (B := B.erase a) (List.nodup_cons.mp hn).2 (fun y hy => ?_) ?_ x ?_)
      · have : y ≠ a := fun q => (List.nodup_cons.mp hn).1 (q ▸ hy)
        exact (List.mem_erase_of_ne this).mpr (hs y (List.mem_cons_of_mem _ hy))
      · rw [List.length_erase_of_mem (hs a List.mem_cons_self)]
        simp only [List.length_cons] at hl
        omega
      · exact (List.mem_erase_of_ne e).mpr hx
theorem nd_len {α : Type} [DecidableEq α] : ∀ {A B : List α}, A.Nodup → (∀ x ∈ A, x ∈ B) → A.length ≤ B.length
  | [], B, _, _ => by simp
  | a :: A, B, hn, hs => by
    have := nd_len (B := B.erase a) (List.nodup_cons.mp hn).2 (fun y hy => by
      have : y ≠ a := fun q => (List.nodup_cons.mp hn).1 (q ▸ hy)
      exact (List.mem_erase_of_ne this).mpr (hs y (List.mem_cons_of_mem _ hy)))
    have h := hs a List.mem_cons_self
    rw [List.length_erase_of_mem h] at this
    have := List.length_pos_of_mem h
    simp only [List.length_cons]
    omega
open Classical in
theorem sameK_is {ks js : List Key} : sameK ks js = true ↔ ∀ k, k ∈ ks ↔ k ∈ js := by
  unfold sameK
  rw [decide_eq_true_iff]
  have m : ∀ (l : List Key) k, k ∈ ddK l.reverse ↔ k ∈ l := fun l k => by rw [mem_ddK, List.mem_reverse]
  have n : ∀ l : List Key, (ddK l.reverse).length = dcnt l := fun l => len_ddK _
  constructor
  · rintro ⟨h1, h2⟩ k
    refine ⟨fun z => memK_iff.mp (h2 k (memK_iff.mpr z)), fun z => (m ks k).mp (nd_sub (B := ddK js.reverse) (nd_ddK _) (fun x hx => (m js x).mpr (memK_iff.mp (h2 x (memK_iff.mpr ((m ks x).mp hx))))) (by rw [n, n, h1]; exact Nat.le_refl _) k ((m js k).mpr z))⟩
  · intro h
    refine ⟨Nat.le_antisymm ?_ ?_, fun k z => memK_iff.mpr ((h k).mp (memK_iff.mp z))⟩
    · rw [← n, ← n]
      exact nd_len (nd_ddK _) fun x hx => (m js x).mpr ((h x).mp ((m ks x).mp hx))
    · rw [← n, ← n]
      exact nd_len (nd_ddK _) fun x hx => (m ks x).mpr ((h x).mpr ((m js x).mp hx))
theorem sameK_strs {ks js : List Str} : sameK (ks.map .inr) (js.map .inr) = true ↔ ∀ k, k ∈ ks ↔ k ∈ js := by
  rw [sameK_is]
  constructor
  · intro h k
    have := h (.inr k)
    simpa using this
  · intro h k
    cases k with
    | inl i => simp
    | inr k => simpa using h k
end
end DL
end
section
/-! An expression of its own: what it makes is left behind, its value read as data. -/
namespace DL
open PySem L2
variable {G : Glb} {X : Cx} {W : WX}
end DL
end
section
/-! Statements as a scope: the cells they make are left behind; what stands in the slots is read as data. -/
namespace DL
open PySem L2
variable {G : Glb} {X : Cx} {W : WX}
open Classical in
noncomputable def sScope (g : SM) : SM := fun env S => match g env S with
  | .nx e S1 => if S1.take S.length = S ∨ (S1.take S.length).all (Cell.bel S.length) = true then .nx (e.map fun o => o.bind (frzD (resD S.length S1 12))) (S1.take S.length) else .bad
  | .rt d S1 => (match exitD .pure S d S1 with
    | .ok d' S2 => .rt d' S2
    | _ => .bad)
  | .ex x e S1 => .ex x e S1
  | _ => .bad
theorem cut_env {φ0 φ : Fi} {H0 H : Hp} {S0 S : Store} {σ : L2.St} {e : EnvD} (s0 : SOk G φ0 S0 H0) (ex : Ext φ0 H0 φ H) (s : SOk G φ S H) (re : RepE G φ H σ e) (hc : S.take S0.length = S0 ∨ (S.take S0.length).all (Cell.bel S0.length) = true) :
    Ext φ0 H0 φ0 H ∧ SOk G φ0 (S.take S0.length) H ∧ RepE G φ0 H σ (e.map fun o => o.bind (frzD (resD S0.length S 12))) := by
  have eφ : φ.cut S0.length = φ0 := by
    obtain ⟨ψ, e1, _⟩ := ex.pre
    obtain ⟨c0, h0⟩ := φ0
    obtain ⟨c1, h1⟩ := φ
    have eh := ex.hid
    simp only at e1 eh
    subst e1 eh
    have hl : c0.length = S0.length := s0.len
    show Fi.mk ((c0 ++ ψ).take S0.length) h1 = Fi.mk c0 h1
    rw [← hl, List.take_left]
  have hb : ∀ c ∈ S.take S0.length, c.bel S0.length = true := by
    rcases hc with hc | hc
    · intro c hm
      rw [hc] at hm
      obtain ⟨l, hl, e1⟩ := List.getElem_of_mem hm
      obtain ⟨a, ha, k⟩ := s0.cell l c (by rw [← e1]; exact List.getElem?_eq_getElem hl)
      exact k.bel (by rw [s0.len]; exact Nat.le_refl _)
    · exact fun c hm => List.all_eq_true.mp hc c hm
  have s2 := s.cut hb
  rw [eφ] at s2
  refine ⟨⟨⟨[], by simp, fun _ z => by simp at z⟩, rfl, ex.keep⟩, s2, ?_⟩
  refine ⟨by rw [List.length_map]; exact re.1, fun i d hd => ?_⟩
  rw [List.getElem?_map] at hd
  obtain ⟨o, ho, h2⟩ := Option.map_eq_some_iff.mp hd
  cases o with
  | none => cases h2
  | some d0 =>
    obtain ⟨v, hv, iv⟩ := re.2 i d0 ho
    have i2 := frz_is (n := S0.length) (res_is s S0.length 12) iv (show frzD (resD S0.length S 12) d0 = some d from h2)
    rw [eφ] at i2
    exact ⟨v, hv, i2⟩
theorem dss_scope {sts : List Stmt} {g : SM} (h : DSs G X W sts g) : DSs G X W sts (sScope g) := by
  obtain ⟨t, p, q⟩ := h
  refine ⟨t, p, fun σ H env φ S N s re h => q σ H env φ S N s re ?_⟩
  unfold sScope at h
  cases hr : g env S with
  | nx e S1 =>
    rw [hr] at h
    dsimp only at h
    split at h
    · rename_i hc
      intro φ' H' σ' e1 s1 r1
      obtain ⟨a1, a2, a3⟩ := cut_env s e1 s1 r1 hc
      exact h φ H' σ' a1 a2 a3
    · exact h.elim
  | rt d S1 =>
    rw [hr] at h
    dsimp only at h
    intro φ' H' v e1 s1 i1
    cases hx : exitD .pure S d S1 with
    | ok d' S2 =>
      rw [hx] at h
      dsimp only at h
      exact exit_ok (W := W) (σ := σ) (m := .pure) s e1 s1 i1 (by rw [hx]; exact h)
    | ex x S2 => rw [hx] at h; exact h.elim
    | bad => rw [hx] at h; exact h.elim
  | bk e S1 => rw [hr] at h; exact h.elim
  | ct e S1 => rw [hr] at h; exact h.elim
  | ex x e S1 => rw [hr] at h; exact h
  | bad => rw [hr] at h; exact h.elim
end DL
end
section
/-! Some statements of a suite, as a scope. -/
namespace L2
open PySem PySem.Spec PyProof.Rows
theorem wp_execs_append {M : Model} {Γ : PySem.Ctx} {A : Around} {env : Env} {ys : List Stmt} {Q : Flow → Shared → Prop} {E : Value → Shared → Prop} (hΓ : Γ.In A) : ∀ (xs : List Stmt) (p : Pos) (s : Shared),
    Sem.wp M Γ (execs xs env) (fun f _ s' => match f with | .next => wpAny M A (execs ys env) Q E s' | f => Q f s') (fun e _ s' => E e s') p s →
    Sem.wp M Γ (execs (xs ++ ys) env) (fun f _ s' => Q f s') (fun e _ s' => E e s') p s
  | [], p, s, h => h Γ p hΓ
  | x :: xs, p, s, h => by
    rw [List.cons_append, execs_cons, Sem.wp_bind']
    rw [execs_cons, Sem.wp_bind'] at h
    refine Sem.wp_mono M Γ _ (fun f p' s' h' => ?_) (fun _ _ _ h' => h') _ _ h
    cases f with
    | next => exact wp_execs_append hΓ xs p' s' h'
    | _ => exact h'
theorem pss_app {X : Cx} {as rest : List Stmt} {t u : TS} (h1 : PSs X as t) (h2 : PSs X rest u) : PSs X (as ++ rest) (tSeq t u) := by
  refine ⟨fun pins s σ H D I h => fun Γ p hΓ => wp_execs_append hΓ as p s ?_⟩
  refine Sem.wp_mono _ Γ _ (fun f p' s1 q => ?_) (fun _ _ _ h' => h') _ _ (h1.run pins s σ H { D with nx := u D } I h Γ p hΓ)
  cases f with
  | next =>
    obtain ⟨σ', H', I', q⟩ := q
    exact h2.run pins s1 σ' H' D I' q
  | ret v => exact q
  | brk => exact q
  | cont => exact q
end L2
namespace DL
open PySem L2
variable {G : Glb} {X : Cx} {W : WX}
theorem dss_app {as rest : List Stmt} {f g : SM} (ha : DSs G X W as f) (hb : DSs G X W rest g) : DSs G X W (as ++ rest) (sSeq f g) := by
  obtain ⟨t, p, q⟩ := ha
  obtain ⟨u, p', q'⟩ := hb
  refine ⟨_, pss_app p p', fun σ H env φ S N s re h => ?_⟩
  refine q σ H env φ S _ s re ?_
  unfold sSeq at h
  cases hr : f env S with
  | nx e S1 =>
    rw [hr] at h
    exact fun φ1 H1 σ1 e1 s1 r1 => q' σ1 H1 e φ1 S1 _ s1 r1 (PostS.ext e1 h)
  | rt d S1 => rw [hr] at h; exact h
  | bk d S1 => rw [hr] at h; exact h
  | ct d S1 => rw [hr] at h; exact h
  | ex x d S1 => rw [hr] at h; exact h
  | bad => rw [hr] at h; exact h
/-- the first two statements as a scope -/
theorem dss_pre2 {a b : Stmt} {rest : List Stmt} {f g : SM} (ha : DSs G X W [a, b] f) (hb : DSs G X W rest g) : DSs G X W (a :: b :: rest) (sSeq (sScope f) g) := dss_app (dss_scope ha) hb
end DL
end
section
/-! list(zip(a, b)), lists and tuples in any mixture: each pair that was drawn stays in the list. -/
namespace PySem
end PySem
namespace DL
open PySem PySem.Spec PyProof.Rows L2
section
variable {prog : Program} {w : World} {A : Around} {E : Value → Shared → Prop} {s : Shared} {z TI TO i1 i2 : Addr} {fp1 fp2 : List Addr} {n1 n2 i : Nat} {P1 P2 : Nat → Value → Prop} {St1 St2 : Nat → Heap → Prop} {T : Addr} {f : Bool} {oT : Obj}
end
section
variable {prog : Program} {w : World} {A : Around} {E : Value → Shared → Prop} {s : Shared} {z TI TO i1 i2 L : Addr} {fp1 fp2 : List Addr} {n1 n2 : Nat} {P1 P2 : Nat → Value → Prop} {St1 St2 : Nat → Heap → Prop}
/-- a zip that drew i times -/
structure ZAt (z TI TO i1 i2 L : Addr) (St1 St2 : Nat → Heap → Prop) (i : Nat) (h : Heap) : Prop where
  ti : IsTupOf2 h TI (.ref i1) (.ref i2)
  a : St1 i h
  b : St2 i h
  at_ : (IsZip h z TI TO .none ∧ ∃ x y, IsTupOf2 h TO x y) ∨ ∃ T f oT, IsZipHeld h z TI TO T f ∧ h.get? T = some oT ∧ L < T
/-- where it lies -/
structure ZLow (z TI TO i1 i2 L : Addr) (fp1 fp2 : List Addr) : Prop where
  z : z < L
  ti : TI < L
  to : TO < L
  f1 : ∀ b ∈ fp1, b < L
  f2 : ∀ b ∈ fp2, b < L
/-- the pairs as they lie -/
structure Prs (P1 P2 : Nat → Value → Prop) (L : Addr) (h : Heap) (as : List Addr) : Prop where
  rise : as.Pairwise (· < ·)
  above : ∀ a ∈ as, L < a
  at_ : ∀ j b, as[j]? = some b → ∃ x1 x2, P1 j x1 ∧ P2 j x2 ∧ IsTupOf2 h b x1 x2
theorem Prs.there {h : Heap} {as : List Addr} (p : Prs P1 P2 L h as) {a : Addr} (ha : a ∈ as) : a < h.objs.size := by
  obtain ⟨j, hj⟩ := List.getElem?_of_mem ha
  obtain ⟨_, _, _, _, e⟩ := p.at_ j a hj
  exact Heap.lt_size e
theorem ZAt.keep {i : Nat} {h h' : Heap} (D1 : ∀ i h h', St1 i h → (∀ b ∈ fp1, ∀ o, h.get? b = some o → h'.get? b = some o) → St1 i h') (D2 : ∀ i h h', St2 i h → (∀ b ∈ fp2, ∀ o, h.get? b = some o → h'.get? b = some o) → St2 i h') (lo : ZLow z TI TO i1 i2 L fp1 fp2)
    (q : ZAt z TI TO i1 i2 L St1 St2 i h) (k : ∀ b o, b ≠ L → h.get? b = some o → h'.get? b = some o) : ZAt z TI TO i1 i2 L St1 St2 i h' := by
  refine ⟨k _ _ (Nat.ne_of_lt lo.ti) q.ti, D1 _ _ _ q.a fun b hb o => k b o (Nat.ne_of_lt (lo.f1 b hb)), D2 _ _ _ q.b fun b hb o => k b o (Nat.ne_of_lt (lo.f2 b hb)), ?_⟩
  rcases q.at_ with ⟨e1, x, y, e2⟩ | ⟨T, f, oT, e1, e2, e3⟩
  · exact .inl ⟨k _ _ (Nat.ne_of_lt lo.z) e1, x, y, k _ _ (Nat.ne_of_lt lo.to) e2⟩
  · exact .inr ⟨T, f, oT, k _ _ (Nat.ne_of_lt lo.z) e1, k _ _ (Nat.ne_of_gt e3) e2, e3⟩
end
theorem HasG.kept {t : Bool} {h h' : Heap} {a : Addr} {its : Array Value} (p : HasG t h a its) (k : ∀ b o, h.get? b = some o → h'.get? b = some o) : HasG t h' a its := by
  cases t with
  | false => obtain ⟨o, e, r⟩ := p; exact ⟨o, k a o e, r⟩
  | true => obtain ⟨o, e, r⟩ := p; exact ⟨o, k a o e, r⟩
/-! ### what is tracked -/
section
variable {X : Cx} {pins : List (Addr × Obj)} {σ : L2.St} {H : Hp} {s : Shared}
end
variable {G : Glb} {X : Cx} {W : WX}
end DL
end
section
/-! a tuple == () -/
namespace PySem.SeqAt
open AutoSeq1 (wpAny_loadPart')
section
variable {prog : Program} {w : World}
end
end PySem.SeqAt
namespace L2
open PySem PySem.Spec PyProof.Rows
end L2
namespace DL
open PySem L2
variable {G : Glb} {X : Cx} {W : WX}
/-- a tuple of anything == () -/
def opEq0 (x y : D) (S : Store) : ER := match x, y with
  | .tup ds, .tup [] => .ok (.bl (decide (ds.length = 0))) S
  | _, _ => .bad
def opNe0 (x y : D) (S : Store) : ER := match x, y with
  | .tup ds, .tup [] => .ok (.bl (!decide (ds.length = 0))) S
  | _, _ => .bad
@[simp] theorem opEq0_is {ds : List D} {S : Store} : opEq0 (.tup ds) (.tup []) S = .ok (.bl (decide (ds.length = 0))) S := rfl
@[simp] theorem opNe0_is {ds : List D} {S : Store} : opNe0 (.tup ds) (.tup []) S = .ok (.bl (!decide (ds.length = 0))) S := rfl
end DL
end
section
/-! repr of texts, None, tuples, dicts. -/
namespace L2
open PySem PySem.Spec PyProof.Rows
section
variable {X : Cx}
end
end L2
namespace DL
open PySem L2
variable {G : Glb} {X : Cx} {W : WX}
end DL
end
section
/-! == of dicts of whole numbers that hold the same, keys in any order. -/
namespace L2
open PySem PySem.Spec PyProof.Rows
section
variable {X : Cx} {pins : List (Addr × Obj)} {σ : St} {H : Hp} {s : Shared}
end
end L2
namespace DL
open PySem L2
variable {G : Glb} {X : Cx} {W : WX}
end DL
end
section
/-! == of two tuples that hold the same, dicts of whole numbers among them, keys in any order. -/
namespace PySem.SeqAt
open AutoSeq1 (wpAny_loadPart')
section
variable {prog : Program} {w : World}
end
end PySem.SeqAt
namespace L2
open PySem PySem.Spec PyProof.Rows
section
variable {X : Cx} {pins : List (Addr × Obj)} {σ : St} {H : Hp} {s : Shared}
end
end L2
namespace DL
open PySem L2
variable {G : Glb} {X : Cx} {W : WX}
end DL
end
section
/-! sorted of a dict of texts; methods called with keywords. -/
namespace L2
open PySem PySem.Spec PyProof.Rows
section
variable {X : Cx} {CX : CXT} {k n : Nat} {m : Str} {ks : List Str} {E : St → XK} {pos apos : Pos} {e o : Expr} {es : List Expr} {kws : List Keyword} {ta : TE} {t tk : TA} {Ok : Addr → Addr → Sp → Prop} {g : List Value → List Value → List Value} {gV : List V → List V → List V}
end
end L2
namespace DL
open PySem L2
variable {G : Glb} {X : Cx} {W : WX}
/-- a method called with n values (self counted) and keywords ks: l parameters -/
structure MethKN (G : Glb) (P : Program) (w : World) (mg : Str → Option Value) (base : Heap) (k : Nat) (c m : Str) (n : Nat) (ks : List Str) (l : Nat) (gD : List D → List D → List D) (F : FD) : Prop where
  ex : ∃ C f fd ps g gV, G.ca c = some C ∧ Cls G.K C ∧ Meth G.K C m f ∧ FnG P w G.K mg base (L2.CX P w) k f fd ps (spD G l F) ∧ KBn G.K fd ps n ks g gV ∧
    ∀ {φ : Fi} {H : Hp} {ds es : List D} {vs zs : List V}, ds.length = n → es.length = ks.length → IsL G φ H ds vs → IsL G φ H es zs → IsL G φ H (gD ds es) (gV vs zs) ∧ (gD ds es).length = l
end DL
namespace DL
open PySem L2 PyProof.Rows
end DL
end
section
/-! sorted, of a tuple of texts. -/
namespace L2
open PySem PySem.Spec PyProof.Rows PyProof
section
variable {prog : Program} {w : World} {A : Around} {E : Value → Shared → Prop} {s : Shared}
end
section
variable {X : Cx}
end
end L2
namespace DL
open PySem L2
variable {G : Glb} {X : Cx} {W : WX}
/-- sorted: a list or a tuple of texts -/
def bSortedU (ds : List D) (S : Store) : ER := match ds with
  | [.tup es] => match strsD es with
    | some ns => if ns.length < 64 then .ok (.lst ((sortS ns).map .str)) S else .bad
    | none => .bad
  | ds => bSortedS ds S
@[simp] theorem bSortedU_t {ns : List Str} {S : Store} : bSortedU [.tup (ns.map .str)] S = if ns.length < 64 then .ok (.lst ((sortS ns).map .str)) S else .bad := by
  unfold bSortedU
  dsimp only
  rw [strsD_map]
@[simp] theorem bSortedU_l {ns : List Str} {S : Store} : bSortedU [.lst (ns.map .str)] S = if ns.length < 64 then .ok (.lst ((sortS ns).map .str)) S else .bad := bSortedS_l
end DL
end
section
set_option maxHeartbeats 400000
/-! d.update(e): a dict's cell, a dict as data. -/
namespace L2
open PySem PySem.Spec PyProof.Rows
section
variable {X : Cx}
end
end L2
namespace DL
open PySem L2
section
variable {G : Glb} {X : Cx} {W : WX}
end
end DL
end
section
set_option maxHeartbeats 400000
/-! d.update({.. for x in e.values()}), both live dicts: e is read as data meanwhile, what was laid later is hidden. -/
namespace DL
open PySem L2
def Fi.fold (φ : Fi) (l : Nat) : Fi := ⟨φ.c.take l, φ.h ++ φ.c.drop (l + 1)⟩
section
variable {G : Glb} {φ : Fi} {H : Hp} {S : Store}
theorem fold_out {l : Nat} {a : Addr} (h : φ.out a) : (φ.fold l).out a := ⟨fun z => h.1 (List.mem_of_mem_take z), fun z => by
  rcases List.mem_append.mp z with z | z
  · exact h.2 z
  · exact h.1 (List.mem_of_mem_drop z)⟩
theorem RdL.fold {n : Nat} {a : Addr} {xs : List V} (h : RdL G φ H a xs) : RdL G (φ.fold n) H a xs := h.elim (fun z => .inl ⟨fold_out z.1, z.2⟩) .inr
theorem RdT.fold {n : Nat} {a : Addr} {xs : List V} (h : RdT G φ H a xs) : RdT G (φ.fold n) H a xs := h.elim (fun z => .inl ⟨fold_out z.1, z.2⟩) .inr
mutual
theorem fold_is {n : Nat} : ∀ {d : D} {v : V}, belD n d = true → Is G φ H d v → Is G (φ.fold n) H d v
  | .non, _, _, i => i
  | .bl _, _, _, i => i
  | .int _, _, _, i => i
  | .str _, _, _, i => i
  | .tup ds, _, h, i => by obtain ⟨a, xs, e1, r, q⟩ := i; exact ⟨a, xs, e1, r.fold, fold_isL h q⟩
  | .lst ds, _, h, i => by obtain ⟨a, xs, e1, r, q⟩ := i; exact ⟨a, xs, e1, r.fold, fold_isL h q⟩
  | .dic _ ds, _, h, i => by obtain ⟨a, xs, e1, ⟨n1, r⟩, z, q⟩ := i; exact ⟨a, xs, e1, ⟨fold_out n1, r⟩, z, fold_isL h q⟩
  | .obj _ _ ds, _, h, i => by obtain ⟨a, C, dx, xs, e1, ⟨n1, r⟩, c, z, q⟩ := i; exact ⟨a, C, dx, xs, e1, ⟨fold_out n1, r⟩, c, z, fold_isL h q⟩
  | .dct _ ds, _, h, i => by obtain ⟨a, xs, e1, ⟨n1, r⟩, z, q⟩ := i; exact ⟨a, xs, e1, ⟨fold_out n1, r⟩, z, fold_isL h q⟩
  | .exn _ _ ds, _, h, i => by
    obtain ⟨a, C, d, e1, ⟨n1, r⟩, c, z⟩ := i
    refine ⟨a, C, d, e1, ⟨fold_out n1, r⟩, c, ?_⟩
    rcases z with z | ⟨b, fs, e4, ⟨n2, r2⟩, e5, q⟩
    · exact .inl z
    · exact .inr ⟨b, fs, e4, ⟨fold_out n2, r2⟩, e5, fold_isL h q⟩
  | .tpl _, _, h, i => by obtain ⟨a, xs, o, e1, ⟨n1, r⟩, q⟩ := i; exact ⟨a, xs, o, e1, ⟨fold_out n1, r⟩, fold_isL h q⟩
  | .loc l, _, h, i => by
    obtain ⟨a, ha, e⟩ := i
    have hl : l < n := of_decide_eq_true h
    exact ⟨a, by show (φ.c.take n)[l]? = _; rw [List.getElem?_take, if_pos hl]; exact ha, e⟩
theorem fold_isL {n : Nat} : ∀ {ds : List D} {vs : List V}, belDs n ds = true → IsL G φ H ds vs → IsL G (φ.fold n) H ds vs
  | [], _, _, i => i
  | d :: ds, _, h, i => by
    obtain ⟨x, r, e1, p, q⟩ := i
    have h' : (belD n d && belDs n ds) = true := h
    simp only [Bool.and_eq_true] at h'
    exact ⟨x, r, e1, fold_is h'.1 p, fold_isL h'.2 q⟩
end
theorem CellOk.fold {a : Addr} {c : Cell} {n : Nat} (hb : c.bel n = true) (h : CellOk G φ H a c) : CellOk G (φ.fold n) H a c := by
  cases c with
  | lst ds => obtain ⟨xs, k, q⟩ := h; exact ⟨xs, k, fold_isL hb q⟩
  | dic kvs => obtain ⟨xs, k, z, q⟩ := h; exact ⟨xs, k, z, fold_isL hb q⟩
  | ins c fs => obtain ⟨C, dx, xs, k, y, z, q⟩ := h; exact ⟨C, dx, xs, k, y, z, fold_isL hb q⟩
  | dct kvs => obtain ⟨xs, k, z, q⟩ := h; exact ⟨xs, k, z, fold_isL hb q⟩
theorem CellOk.notup {a : Addr} {c : Cell} (h : CellOk G φ H a c) : ∃ o, H a = Option.some o ∧ NoTup o := by
  cases c with
  | lst ds => obtain ⟨xs, k, _⟩ := h; exact ⟨_, k, trivial⟩
  | dic kvs => obtain ⟨xs, k, _⟩ := h; exact ⟨_, k, trivial⟩
  | ins c fs => obtain ⟨C, dx, xs, _, k, _⟩ := h; exact ⟨_, k, trivial⟩
  | dct kvs => obtain ⟨xs, k, _⟩ := h; exact ⟨_, k, trivial⟩
theorem SOk.fold (s : SOk G φ S H) {n : Nat} (hb : ∀ c ∈ S.take n, c.bel n = true) : SOk G (φ.fold n) (S.take n) H := by
  refine ⟨by simp [Fi.fold, s.len], s.nd.sublist (List.take_sublist _ _), fun a ha => ?_, fun l c hc => ?_⟩
  · rcases List.mem_append.mp ha with z | z
    · obtain ⟨n1, q⟩ := s.hid a z
      exact ⟨fun z => n1 (List.mem_of_mem_take z), q⟩
    · obtain ⟨i, hi, e⟩ := List.getElem_of_mem z
      have hi2 : n + 1 + i < φ.c.length := by rw [List.length_drop] at hi; omega
      have e2 : φ.c[n + 1 + i]? = some a := by rw [List.getElem?_eq_getElem hi2, ← e, List.getElem_drop]
      have hi3 : n + 1 + i < S.length := by rw [← s.len]; exact hi2
      obtain ⟨a', ha', k⟩ := s.cell (n + 1 + i) _ (List.getElem?_eq_getElem hi3)
      rw [e2] at ha'
      cases ha'
      refine ⟨fun y => ?_, k.notup⟩
      obtain ⟨j, hj, e3⟩ := List.getElem_of_mem (show a ∈ φ.c.take n from y)
      rw [List.length_take] at hj
      have hj2 : j < φ.c.length := by omega
      have e4 : φ.c[j] = φ.c[n + 1 + i] := by
        rw [List.getElem_take] at e3
        rw [e3]
        have := List.getElem?_eq_getElem hi2
        rw [e2] at this
        exact Option.some.inj this
      have := (List.getElem_inj s.nd).mp e4
      omega
  · have hm := hb c (List.mem_of_getElem? hc)
    rw [List.getElem?_take] at hc
    split at hc
    · rename_i hl
      obtain ⟨a, ha, k⟩ := s.cell l c hc
      exact ⟨a, by show (φ.c.take n)[l]? = _; rw [List.getElem?_take, if_pos hl]; exact ha, k.fold hm⟩
    · cases hc
end
section
variable {G : Glb} {X : Cx} {W : WX}
end
end DL
end
section
/-! a list of anything != [] -/
namespace L2
open PySem PySem.Spec PyProof.Rows
end L2
namespace DL
open PySem L2
variable {G : Glb} {X : Cx} {W : WX}
/-- a list of anything != [] -/
def opNeL0 (x y : D) (S : Store) : ER := match listD S x, y with
  | some ds, .lst [] => .ok (.bl (!decide (ds.length = 0))) S
  | _, _ => .bad
@[simp] theorem opNeL0_l {ds : List D} {S : Store} : opNeL0 (.lst ds) (.lst []) S = .ok (.bl (!decide (ds.length = 0))) S := rfl
end DL
end
section
/-! a dict == {}. -/
namespace L2
open PySem PySem.Spec PyProof.Rows
section
variable {X : Cx} {pins : List (Addr × Obj)} {σ : St} {H : Hp} {s : Shared}
end
end L2
namespace DL
open PySem L2
variable {G : Glb} {X : Cx} {W : WX}
end DL
end
section
/-! d.setdefault(k, x) of a dict that is a cell. -/
namespace DL
open PySem L2
variable {G : Glb} {X : Cx} {W : WX}
end DL
end
section
/-! repr of lists within dicts and dicts within lists; d != {}; d.pop(k); tuple * n. -/
namespace L2
open PySem PySem.Spec PyProof.Rows
section
variable {X : Cx} {pins : List (Addr × Obj)} {σ : St} {H : Hp} {s : Shared}
/-! ### repr of nested data: dicts alone must not be the start's own -/
structure RpOk (P : Program) (w : World) (h : Heap) (v : Value) (d : PyData) : Prop where
  rd : ∃ as, Reads h v d as
  rp : d.showable = true → d.shown.length ≤ sizeLine → ∃ bs, ReadAtMost h d.depth bs ∧ ReprK P w bs h d.depth v d.shown
structure RpAll (P : Program) (w : World) (h : Heap) (vs : List Value) (ds : List PyData) : Prop where
  rd : ∃ as, ReadsAll h vs ds as
  rp : PyData.showableAll ds = true → (∀ t ∈ PyData.shownAll ds, t.length ≤ sizeLine) → ∃ bs, ReadAtMost h (PyData.depthAll ds) bs ∧ ReprAllK P w bs h (PyData.depthAll ds) vs (PyData.shownAll ds)
section
variable {P : Program} {w : World} {h : Heap}
theorem RpOk.none : RpOk P w h .none .none := ⟨⟨_, .none⟩, fun _ _ => ⟨[], (fun _ h => nomatch h), by simp only [PyData.shown]; exact .of_is ReprIs.none _ _ _⟩⟩
theorem RpOk.bool (b : Bool) : RpOk P w h (.bool b) (.bool b) := ⟨⟨_, .bool b⟩, fun _ _ => ⟨[], (fun _ h => nomatch h), by simp only [PyData.shown]; exact .of_is (ReprIs.bool b) _ _ _⟩⟩
theorem RpOk.int (i : Int) (t : Tok) : RpOk P w h (.int i t) (.int i) := ⟨⟨_, .int i t⟩, fun hs _ => ⟨[], (fun _ h => nomatch h), by simp only [PyData.shown]; exact .of_is (ReprIs.int t (by simpa [PyData.showable] using hs)) _ _ _⟩⟩
theorem RpOk.str (x : Str) (t : Tok) : RpOk P w h (.str x t) (.str x) := ⟨⟨_, .str x t⟩, fun _ hz => ⟨[], (fun _ h => nomatch h), by simp only [PyData.shown]; exact .of_is (ReprIs.str x t (by simpa only [PyData.shown] using hz)) _ _ _⟩⟩
theorem RpAll.nil : RpAll P w h [] [] := ⟨⟨_, .nil⟩, fun _ _ => ⟨[], (fun _ h => nomatch h), by simp only [PyData.shownAll]; exact .nil⟩⟩
theorem RpAll.cons {v : Value} {vs : List Value} {d : PyData} {ds : List PyData} (r : RpOk P w h v d) (rs : RpAll P w h vs ds) : RpAll P w h (v :: vs) (d :: ds) := by
  refine ⟨?_, fun hs hz => ?_⟩
  · obtain ⟨as, a⟩ := r.rd
    obtain ⟨bs, b⟩ := rs.rd
    exact ⟨_, .cons a b⟩
  · have hs' : d.showable = true ∧ PyData.showableAll ds = true := by simpa [PyData.showableAll] using hs
    obtain ⟨b1, hb1, k1⟩ := r.rp hs'.1 (hz _ (by simp only [PyData.shownAll]; exact List.mem_cons_self ..))
    obtain ⟨b2, hb2, k2⟩ := rs.rp hs'.2 (fun t ht => hz t (by simp only [PyData.shownAll]; exact List.mem_cons_of_mem _ ht))
    refine ⟨b1 ++ b2, ?_, ?_⟩
    · intro b hm
      simp only [PyData.depthAll]
      rcases List.mem_append.mp hm with hm | hm
      · obtain ⟨d', as', r', hd'⟩ := hb1 b hm
        exact ⟨d', as', r', Nat.le_trans hd' (Nat.le_max_left _ _)⟩
      · obtain ⟨d', as', r', hd'⟩ := hb2 b hm
        exact ⟨d', as', r', Nat.le_trans hd' (Nat.le_max_right _ _)⟩
    · simp only [PyData.depthAll, PyData.shownAll]
      exact .cons ((k1.more fun b hb => List.mem_append_left _ hb).level_le (Nat.le_max_left _ _)) (k2.more_le (fun b hb => List.mem_append_right _ hb) (Nat.le_max_right _ _))
/-- an object whose repr is known -/
structure RpObj (P : Program) (w : World) (h : Heap) (a : Addr) (d : PyData) : Prop where
  ok : RpOk P w h (.ref a) d
  sh : d.showable = true → d.shown.length ≤ sizeLine → ∃ T idr, ShowsBy P w h a d T idr
theorem RpObj.list {a : Addr} {o : Obj} {vs : Array Value} {n : Nat} {xs : List PyData} (h1 : h.get? a = some o) (h2 : o.cls = .type "list") (h3 : o.data = .seq vs n) (h4 : RpAll P w h vs.toList xs) : RpObj P w h a (.list xs) := by
  obtain ⟨as, r4⟩ := h4.rd
  have r : Reads h (.ref a) (.list xs) _ := .list h1 h2 h3 r4
  refine ⟨⟨⟨_, r⟩, fun hs hz => ?_⟩, fun hs hsz => ?_⟩
  · have hz' : (listText (PyData.shownAll xs)).length ≤ sizeLine := by simpa only [PyData.shown] using hz
    obtain ⟨bs, hb, hk⟩ := h4.rp (by simpa [PyData.showable] using hs) (fun t ht => Nat.le_trans (listText_mem_le ht) hz')
    have hna : a ∉ bs := not_mem_of_deeper r (by simp only [PyData.depth]; omega) hb
    refine ⟨a :: bs, ReadAtMost.cons r (by simp only [PyData.depth]; omega) hb, ?_⟩
    simp only [PyData.depth, PyData.shown]
    obtain ⟨l⟩ := vs
    cases l with
    | nil =>
      have h4' : ReadsAll h [] xs _ := r4
      cases h4'
      simp only [PyData.shownAll, listText_nil]
      exact ReprK.listEmpty h1 h2 h3
    | cons x l => exact ReprK.list h1 h2 h3 hna (by simpa using hk.length_eq) (fun i y e => hk.item i y (by simpa using e))
  · have hz' : (listText (PyData.shownAll xs)).length ≤ sizeLine := by simpa only [PyData.shown] using hsz
    obtain ⟨bs, hb, hk⟩ := h4.rp (by simpa [PyData.showable] using hs) (fun t ht => Nat.le_trans (listText_mem_le ht) hz')
    have hna : a ∉ bs := not_mem_of_deeper r (by simp only [PyData.depth]; omega) hb
    refine ⟨"list", "list.__repr__", F.slot_list_repr.toG, F.slot_list_str, F.slot_list_format, fun s hk0 => ⟨o, hk0 _ _ h1, h2⟩, fun A E s Q hg hu hk0 hQ => ?_⟩
    simp only [PyData.depth] at hu
    simp only [PyData.shown] at hQ
    obtain ⟨l⟩ := vs
    cases l with
    | nil =>
      have h4' : ReadsAll h [] xs _ := r4
      cases h4'
      simp only [PyData.shownAll, listText_nil] at hQ
      exact call_list_repr_empty ⟨o, hk0 _ _ h1, h2⟩ (hk0 _ _ h1) h3 (hQ s.heap _ _ fun _ _ e => e)
    | cons x l =>
      exact call_list_reprK h1 h2 h3 hna (by simpa using hk.length_eq) (fun i y e => hk.item i y (by simpa using e)) hg (fun b _ => Clear.nil b) hu hk0 hQ hz'
theorem RpObj.tuple {a : Addr} {o : Obj} {vs : Array Value} {n : Nat} {xs : List PyData} (h1 : h.get? a = some o) (h2 : o.cls = .type "tuple") (h3 : o.data = .seq vs n) (h4 : RpAll P w h vs.toList xs) : RpObj P w h a (.tuple xs) := by
  obtain ⟨as, r4⟩ := h4.rd
  have r : Reads h (.ref a) (.tuple xs) _ := .tuple h1 h2 h3 r4
  refine ⟨⟨⟨_, r⟩, fun hs hz => ?_⟩, fun hs hsz => ?_⟩
  · have hz' : (tupleText (PyData.shownAll xs)).length ≤ sizeLine := by simpa only [PyData.shown] using hz
    obtain ⟨bs, hb, hk⟩ := h4.rp (by simpa [PyData.showable] using hs) (fun t ht => Nat.le_trans (tupleText_mem_le ht) hz')
    have hna : a ∉ bs := not_mem_of_deeper r (by simp only [PyData.depth]; omega) hb
    refine ⟨a :: bs, ReadAtMost.cons r (by simp only [PyData.depth]; omega) hb, ?_⟩
    simp only [PyData.depth, PyData.shown]
    exact ReprK.tuple h1 h2 h3 hna hk
  · have hz' : (tupleText (PyData.shownAll xs)).length ≤ sizeLine := by simpa only [PyData.shown] using hsz
    obtain ⟨bs, hb, hk⟩ := h4.rp (by simpa [PyData.showable] using hs) (fun t ht => Nat.le_trans (tupleText_mem_le ht) hz')
    have hna : a ∉ bs := not_mem_of_deeper r (by simp only [PyData.depth]; omega) hb
    refine ⟨"tuple", "tuple.__repr__", F.slot_tuple_repr, F.slot_tuple_str, F.slot_tuple_format, fun s hk0 => ⟨o, hk0 _ _ h1, h2⟩, fun A E s Q hg hu hk0 hQ => ?_⟩
    simp only [PyData.depth] at hu
    simp only [PyData.shown] at hQ
    exact call_tuple_reprK h1 h2 h3 hna hk hg (fun b _ => Clear.nil b) hu hk0 hQ hz'
theorem RpObj.dict {a : Addr} {o : Obj} {es : Array DictEntry} {n : Nat} {kvs : List (PyData × PyData)} (h1 : h.get? a = some o) (h2 : o.cls = .type "dict") (h3 : o.data = .dict es n) (hsys : (a == sysModules) = false)
    (h4 : RpAll P w h (es.toList.map (·.key)) (kvs.map (·.1))) (h5 : RpAll P w h (es.toList.map (·.val)) (kvs.map (·.2))) : RpObj P w h a (.dict kvs) := by
  obtain ⟨as, r4⟩ := h4.rd
  obtain ⟨bs, r5⟩ := h5.rd
  have r : Reads h (.ref a) (.dict kvs) _ := .dict h1 h2 h3 r4 r5
  have both : (PyData.dict kvs).showable = true → (PyData.dict kvs).shown.length ≤ sizeLine → ∃ b1 b2, a ∉ b1 ++ b2 ∧ ReadAtMost h (PyData.depthKv kvs) (b1 ++ b2) ∧ (dictText (PyData.shownKv kvs)).length ≤ sizeLine ∧
      ReprEntriesK P w (b1 ++ b2) h (PyData.depthKv kvs) es.toList (List.zipWith (fun k v => k ++ ": " ++ v) (PyData.shownAll (kvs.map (·.1))) (PyData.shownAll (kvs.map (·.2)))) := fun hs hz => by
    have hz' : (dictText (PyData.shownKv kvs)).length ≤ sizeLine := by simpa only [PyData.shown] using hz
    obtain ⟨hs1, hs2⟩ := PyData.showableKv_split kvs (by simpa [PyData.showable] using hs)
    obtain ⟨b1, hb1, k1⟩ := h4.rp hs1 (fun t ht => let ⟨p, hp, hl⟩ := PyData.shownKv_key_le kvs t ht; Nat.le_trans hl (Nat.le_trans (dictText_mem_le hp) hz'))
    obtain ⟨b2, hb2, k2⟩ := h5.rp hs2 (fun t ht => let ⟨p, hp, hl⟩ := PyData.shownKv_val_le kvs t ht; Nat.le_trans hl (Nat.le_trans (dictText_mem_le hp) hz'))
    have hb : ReadAtMost h (PyData.depthKv kvs) (b1 ++ b2) := (hb1.mono (PyData.depthAll_keys_le kvs)).append (hb2.mono (PyData.depthAll_vals_le kvs))
    have hna : a ∉ b1 ++ b2 := not_mem_of_deeper r (by simp only [PyData.depth]; omega) hb
    exact ⟨b1, b2, hna, hb, hz', ReprEntriesK.of_two es.toList _ _
      (k1.more_le (fun b hb => List.mem_append_left _ hb) (PyData.depthAll_keys_le kvs)) (k2.more_le (fun b hb => List.mem_append_right _ hb) (PyData.depthAll_vals_le kvs))⟩
  refine ⟨⟨⟨_, r⟩, fun hs hz => ?_⟩, fun hs hsz => ?_⟩
  · obtain ⟨b1, b2, hna, hb, _, hk⟩ := both hs hz
    refine ⟨a :: (b1 ++ b2), ReadAtMost.cons r (by simp only [PyData.depth]; omega) hb, ?_⟩
    simp only [PyData.depth, PyData.shown, PyData.shownKv_eq]
    exact ReprK.dict h1 h2 h3 hsys hna hk
  · obtain ⟨b1, b2, hna, hb, hz', hk⟩ := both hs hsz
    refine ⟨"dict", "dict.__repr__", F.slot_dict_repr, F.slot_dict_str, F.slot_dict_format, fun s hk0 => ⟨o, hk0 _ _ h1, h2⟩, fun A E s Q hg hu hk0 hQ => ?_⟩
    simp only [PyData.depth] at hu
    simp only [PyData.shown, PyData.shownKv_eq] at hQ
    exact call_dict_reprK h1 h2 h3 hsys hna hk hg (fun b _ => Clear.nil b) hu hk0 hQ (by rw [← PyData.shownKv_eq]; exact hz')
end
/-- what stands at a value, told of any state -/
def RdM (K : PySem.W.Frag) (H : Hp) (v : V) (p : PyData) : Prop :=
  ∀ (X : Cx) (pins : List (Addr × Obj)) (σ : St) (s : Shared) (u : Value), X.K = K → Inv X pins σ H s → RelV v u → RpOk X.prog X.w s.heap u p
def RdO (K : PySem.W.Frag) (H : Hp) (a : Addr) (p : PyData) : Prop :=
  ∀ (X : Cx) (pins : List (Addr × Obj)) (σ : St) (s : Shared), X.K = K → Inv X pins σ H s → RpObj X.prog X.w s.heap a p
theorem RdO.m {K : PySem.W.Frag} {H : Hp} {a : Addr} {p : PyData} (h : RdO K H a p) : RdM K H (.ref a) p := fun X pins σ s u hK I r => by
  cases (show u = Value.ref a from r)
  exact (h X pins σ s hK I).ok
end
end L2
namespace DL
open PySem L2
variable {G : Glb} {X : Cx} {W : WX}
/-! ### tuple * n -/
/-! ### d.pop(k) -/
/-! ### repr -/
/-- a thing as data: lists, tuples, dicts, of one another -/
def pyL (S : Store) : Nat → D → Option PyData
  | 0 => fun _ => none
  | n + 1 => fun d => match d with
    | .non => some .none
    | .bl b => some (.bool b)
    | .int i => some (.int i)
    | .str x => some (.str x)
    | .tup ds => (optL (pyL S n) ds).map .tuple
    | .tpl ds => (optL (pyL S n) ds).map .tuple
    | .lst ds => (optL (pyL S n) ds).map .list
    | .dic ks ds => (optL (pyL S n) ds).map fun ps => .dict ((ks.map keyPy).zip ps)
    | .loc l => match S[l]? with
      | some (.dic kvs) => (optL (pyL S n) (kvs.map (·.2))).map fun ps => .dict (((kvs.map (·.1)).map keyPy).zip ps)
      | some (.lst ds) => (optL (pyL S n) ds).map .list
      | _ => none
    | _ => none
section
variable {φ : Fi} {S : Store} {H : Hp}
theorem optL_m {f : D → Option PyData} (st : ∀ d v p, Is G φ H d v → f d = some p → RdM G.K H v p) {X : Cx} {pins : List (Addr × Obj)} {σ : L2.St} {s : Shared} (hK : X.K = G.K) (I : Inv X pins σ H s) :
    ∀ {ds : List D} {vs : List V} {ps : List PyData} {us : List Value}, IsL G φ H ds vs → optL f ds = some ps → Vals vs us → RpAll X.prog X.w s.heap us ps
  | [], vs, ps, us, i, e, r => by
    cases (show vs = [] from i); cases e; cases r
    exact .nil
  | d :: ds, vs, ps, us, i, e, r => by
    obtain ⟨x, r0, rfl, p, q⟩ := i
    obtain ⟨a, e1, e2⟩ := Option.bind_eq_some_iff.mp (show (f d).bind (fun b => (optL f ds).map (b :: ·)) = some ps from e)
    obtain ⟨b, e3, e4⟩ := Option.map_eq_some_iff.mp e2
    subst e4
    cases r with
    | cons r1 r2 => exact .cons (st _ _ _ p e1 X pins σ s _ hK I r1) (optL_m st hK I q e3 r2)
theorem keys_m {P : Program} {w : World} {h : Heap} : ∀ {es : List DictEntry} {vs : List (Key × Value)}, Pairs (mixKind P w) es vs → RpAll P w h (es.map (·.key)) ((vs.map (·.1)).map keyPy)
  | _, _, .nil => .nil
  | _, _, .cons (e := e) (kv := kv) h1 h2 r => by
    have ih := keys_m (h := h) r
    have rd : RpOk P w h e.key (keyPy kv.1) := by
      rcases keyIs_shape (show keyIs kv.1 e.key = true from h1) with ⟨i, t, e1, e2⟩ | ⟨x, t, e1, e2⟩
      · rw [e1, e2]; exact .int i t
      · rw [e1, e2]; exact .str x t
    exact .cons rd ih
theorem dic_m {f : D → Option PyData} (st : ∀ d v p, Is G φ H d v → f d = some p → RdM G.K H v p) {a : Addr} {kvs : List (Key × V)} {ds : List D} {ps : List PyData} (r : Rd H a (.dK kvs)) (il : IsL G φ H ds (kvs.map (·.2))) (e : optL f ds = some ps) : RdO G.K H a (.dict (((kvs.map (·.1)).map keyPy).zip ps)) := by
  intro X pins σ s hK I
  obtain ⟨hz, h0, vs, kv, o, es, ep, h1, h2, h3, h4, h5, h6⟩ := dk_rd I.hok r
  obtain ⟨v1, v2⟩ := vals_pairs h5 kv
  have q1 := optL_m st hK I il e v1
  have lp : ps.length = kvs.length := by rw [optL_len e, il.length, List.length_map]
  have z1 : ((((kvs.map (·.1)).map keyPy).zip ps).map (·.1)) = (kvs.map (·.1)).map keyPy := by
    rw [List.map_fst_zip (by simp; omega)]
  have z2 : ((((kvs.map (·.1)).map keyPy).zip ps).map (·.2)) = ps := by
    rw [List.map_snd_zip (by simp; omega)]
  exact .dict h1 h2.1 h3 h0 (by rw [z1, v2]; exact keys_m h5) (by rw [z2]; exact q1)
theorem lst_m {f : D → Option PyData} (st : ∀ d v p, Is G φ H d v → f d = some p → RdM G.K H v p) {a : Addr} {xs : List V} {ds : List D} {ps : List PyData} (r : SqL G.K H a xs) (il : IsL G φ H ds xs) (e : optL f ds = some ps) : RdO G.K H a (.list ps) := by
  intro X pins σ s hK I
  obtain ⟨its, rv, ⟨o, n, ho, hc, _, hd⟩, _⟩ := I.list (by rw [hK]; exact r)
  exact .list ho hc hd (optL_m st hK I il e rv)
theorem tup_m {f : D → Option PyData} (st : ∀ d v p, Is G φ H d v → f d = some p → RdM G.K H v p) {a : Addr} {xs : List V} {ds : List D} {ps : List PyData} (r : SqT G.K H a xs) (il : IsL G φ H ds xs) (e : optL f ds = some ps) : RdO G.K H a (.tuple ps) := by
  intro X pins σ s hK I
  obtain ⟨its, rv, ⟨o, ho, hc, m, hd⟩, _⟩ := I.tuple (by rw [hK]; exact r)
  exact .tuple ho hc hd (optL_m st hK I il e rv)
def isSeqL : D → Bool
  | .lst _ => true
  | .tup _ => true
  | .tpl _ => true
  | .dic _ _ => true
  | .loc _ => true
  | _ => false
mutual
theorem pyL_o (s : SOk G φ S H) : ∀ (n : Nat) (d : D) (v : V) (p : PyData), isSeqL d = true → Is G φ H d v → pyL S (n + 1) d = some p → ∃ a, v = .ref a ∧ RdO G.K H a p := fun n d v p hq i e => by
    cases d with
    | tup ds =>
      obtain ⟨a, xs, rfl, r, q⟩ := i
      obtain ⟨ps, e1, e2⟩ := Option.map_eq_some_iff.mp (show (optL (pyL S n) ds).map PyData.tuple = some p from e)
      subst e2
      exact ⟨a, rfl, tup_m (pyL_rd s n) r.seq q e1⟩
    | tpl ds =>
      obtain ⟨a, xs, o', rfl, ⟨_, r, _, _⟩, q⟩ := i
      obtain ⟨ps, e1, e2⟩ := Option.map_eq_some_iff.mp (show (optL (pyL S n) ds).map PyData.tuple = some p from e)
      subst e2
      exact ⟨a, rfl, tup_m (pyL_rd s n) (.inl (.inr ⟨_, r⟩)) q e1⟩
    | lst ds =>
      obtain ⟨a, xs, rfl, r, q⟩ := i
      obtain ⟨ps, e1, e2⟩ := Option.map_eq_some_iff.mp (show (optL (pyL S n) ds).map PyData.list = some p from e)
      subst e2
      exact ⟨a, rfl, lst_m (pyL_rd s n) r.seq q e1⟩
    | dic ks ds =>
      obtain ⟨a, kvs, rfl, ⟨_, r⟩, ek, il⟩ := i
      obtain ⟨ps, e1, e2⟩ := Option.map_eq_some_iff.mp (show (optL (pyL S n) ds).map (fun ps => PyData.dict ((ks.map keyPy).zip ps)) = some p from e)
      subst e2
      rw [← ek]
      exact ⟨a, rfl, dic_m (pyL_rd s n) r il e1⟩
    | loc l =>
      obtain ⟨a, ha, rfl⟩ := i
      simp only [pyL] at e
      split at e
      · rename_i kvs hc
        obtain ⟨ps, e1, e2⟩ := Option.map_eq_some_iff.mp e
        subst e2
        obtain ⟨ws, hx, hk, il⟩ := s.at_ hc ha
        rw [← hk]
        exact ⟨a, rfl, dic_m (pyL_rd s n) (.inl hx) il e1⟩
      · rename_i ds hc
        obtain ⟨ps, e1, e2⟩ := Option.map_eq_some_iff.mp e
        subst e2
        obtain ⟨xs, hx, il⟩ := s.at_ hc ha
        exact ⟨a, rfl, lst_m (pyL_rd s n) (SqL.of hx) il e1⟩
      · cases e
    | _ => cases hq
termination_by n => (n + 1, 0)
theorem pyL_rd (s : SOk G φ S H) : ∀ (n : Nat) (d : D) (v : V) (p : PyData), Is G φ H d v → pyL S n d = some p → RdM G.K H v p
  | 0, d, v, p, i, e => by cases e
  | n + 1, d, v, p, i, e => by
      cases hq : isSeqL d with
      | true =>
        obtain ⟨a, rfl, h⟩ := pyL_o s n d v p hq i e
        exact h.m
      | false =>
        cases d with
        | non => cases (show v = _ from i); cases e; exact fun X pins σ s u _ I r => by cases r; exact .none
        | bl b => cases (show v = _ from i); cases e; exact fun X pins σ s u _ I r => by cases r; exact .bool b
        | int b => cases (show v = _ from i); cases e; exact fun X pins σ s u _ I r => by obtain ⟨t, rfl⟩ := r; exact .int b t
        | str b => cases (show v = _ from i); cases e; exact fun X pins σ s u _ I r => by obtain ⟨t, rfl⟩ := r; exact .str b t
        | obj _ _ _ => cases e
        | dct _ _ => cases e
        | exn _ _ _ => cases e
        | _ => cases hq
termination_by n => (n, 1)
end
end
end DL
end
section
/-! sorted of a tuple of ints; a list of anything == []; *a, b = a tuple. -/
namespace L2
open PySem PySem.Spec PySem.Calls PyProof.Rows PyProof PySem.W
section
variable {prog : Program} {w : World} {A : Around} {E : Value → Shared → Prop} {s : Shared}
end
section
variable {X : Cx} {pos : Pos}
theorem op_lstEq0 (hu : X.A.units + 100 < cLine) : OpR X (compareOp .Eq) (fun x y H Q => ∃ a b xs, x = .ref a ∧ y = .ref b ∧ SqL X.K H a xs ∧ SqL X.K H b [] ∧ Q (.bl (decide (xs = []))) H) := by
  rintro pins s σ H x y v u Q I rx ry ⟨a, b, xs, rfl, rfl, ha, hb, q⟩
  cases (show v = Value.ref a from rx)
  cases (show u = Value.ref b from ry)
  obtain ⟨us, r1, p1, _⟩ := I.list ha
  obtain ⟨ws, r2, p2, _⟩ := I.list hb
  cases r2
  have res : ∃ w H', Inv X pins σ H' s ∧ RelV w (.bool (decide (xs = []))) ∧ Q w H' := ⟨.bl (decide (xs = [])), H, I, rfl, q⟩
  cases xs with
  | nil =>
    cases r1
    refine (SeqAt.RcAt.lists (e := fun _ => true) p1.isList p2.isList rfl (by omega) (fun j h1 h2 => ?_)) X.prog X.w _ _ res
    simp at h1
  | cons x xs =>
    refine (SeqAt.RcAt.lists_lengths p1.isList p2.isList ?_ (by omega)) X.prog X.w _ _ res
    rw [List.size_toArray, ← r1.length]
    simp
end
end L2
namespace DL
open PySem L2
variable {G : Glb} {X : Cx} {W : WX}
/-- sorted: a list, a dict or a tuple of ints -/
def bSortedV (ds : List D) (S : Store) : ER := match ds with
  | [.tup es] => match intsD es with
    | some ns => if ns.length < 64 then .ok (.lst ((sortI ns).map .int)) S else .bad
    | none => .bad
  | ds => bSortedX ds S
@[simp] theorem bSortedV_t {ns : List Int} {S : Store} : bSortedV [.tup (ns.map .int)] S = if ns.length < 64 then .ok (.lst ((sortI ns).map .int)) S else .bad := by
  unfold bSortedV
  dsimp only
  rw [intsD_map]
@[simp] theorem bSortedV_l {ns : List Int} {S : Store} : bSortedV [.lst (ns.map .int)] S = .ok (.lst ((sortI ns).map .int)) S := by
  show bSortedX [.lst (ns.map .int)] S = _
  rw [bSortedX_lst]
  unfold bSorted
  dsimp only [listD, Option.bind]
  rw [intsD_map]
/-- a list of anything == [] -/
def opEqL0 (x y : D) (S : Store) : ER := match listD S x, y with
  | some ds, .lst [] => .ok (.bl (decide (ds.length = 0))) S
  | _, _ => .bad
theorem do_eqL0 (hK : X.K = G.K) (hu : X.A.units + 100 < cLine) : DOp G X (compareOp .Eq) opEqL0 := by
  refine ⟨_, op_lstEq0 hu, fun W φ S H σ dx dy x y Q s ix iy h => ?_⟩
  unfold opEqL0 at h
  split at h
  · rename_i ds hd
    obtain ⟨p, xs, rfl, r1, q1⟩ := listD_sq s ix hd
    obtain ⟨p2, ys, rfl, r2, q2⟩ := listD_sq s iy (ds := []) rfl
    have z : ys = [] := List.eq_nil_of_length_eq_zero (by simpa using q2.length.symm)
    subst z
    have e : decide (xs = []) = decide (ds.length = 0) := by
      rw [q1.length]; cases xs <;> simp
    refine ⟨p, p2, xs, rfl, rfl, by rw [hK]; exact r1, by rw [hK]; exact r2, ?_⟩
    rw [e]
    exact h.now s rfl
  · exact bad_no h
@[simp] theorem opEqL0_l {ds : List D} {S : Store} : opEqL0 (.lst ds) (.lst []) S = .ok (.bl (decide (ds.length = 0))) S := rfl
/-- *a, b = a list or a tuple -/
def sqTL (S : Store) : D → Option (List D)
  | .tup ds => some ds
  | d => listD S d
def sStarT (i j : Nat) (f : EM) : SM := fun e S => (f e S).bindS e fun d S => match sqTL S d with
  | some ds => match ds.getLast? with
    | some x => .nx ((e.set i (some (.lst ds.dropLast))).set j (some x)) S
    | none => .bad
  | none => .bad
@[simp] theorem sStarT_is {i j : Nat} {f : EM} {e : EnvD} {S : Store} : sStarT i j f e S = (f e S).bindS e fun d S => match sqTL S d with
  | some ds => match ds.getLast? with
    | some x => .nx ((e.set i (some (.lst ds.dropLast))).set j (some x)) S
    | none => .bad
  | none => .bad := rfl
end DL
namespace L2
open PySem PySem.Spec PyProof.Rows
/-! ### tuple * 1 -/
end L2
namespace DL
open PySem L2
variable {G : Glb} {X : Cx} {W : WX}
end DL
end
section
namespace DR.K47
open PySem L2  
open DL
noncomputable section
def g_totals_e1 : EM :=
(eC (.int 0))
def g_totals_b1 : SM :=
(sAugX (· + ·) (eVar 2) (eVar 4) (eC (.int 1)))
def g_totals_b2 : SM :=
(sFor (iSeq (eIf (eOp opEq (eFldC ["Race"] "kind" (eVar 0)) (eC (.str "rank"))) (eSlice (eVar 3) oNone (oSome (eC (.int 1)))) (eVar 3))) (bName 4) g_totals_b1)
def g_totals : SM :=
(sSeq (sAsg (eDcM (iSeq (eFldC ["Race"] "choices" (eVar 0))) (bName 4) eYes (eVar 4) g_totals_e1 [4]) (bName 2))
(sSeq (sFor (iSeq (eCall d_good_marks (lCons (eVar 0) (lCons (eVar 1) lNil)))) (bName 3) g_totals_b2)
(sRet (eVar 2))))
def d_totals : FD := fnF .keep 5 g_totals
def g_best_first_e1 : EM :=
(eTup (lCons (eNeg (eOp opIxX (eVar 0) (eVar 5))) (lCons (eOp opIxX (eVar 2) (eVar 5)) (lCons (eVar 5) lNil))))
def g_best_first : SM :=
(sSeq (sAsg (eDc (iEnumX (lCons (eVar 1) lNil)) (bTup (bCons (bName 4) (bCons (bName 5) bNil))) eYes (eVar 5) (eVar 4) [4, 5]) (bName 2))
(sSeq (sAsg (eCallB bSortedZ (lCons (eView 0 (eLc (iAny (eVar 0)) (bName 5) eYes g_best_first_e1 [5])) lNil)) (bName 3))
(sRet (eLc (iSeq (eVar 3)) (bTup (bCons (bName 6) (bCons (bName 7) (bCons (bName 5) bNil)))) eYes (eVar 5) [6, 7, 5]))))
def d_best_first : FD := fnF .pure 8 g_best_first
def g_top : SM :=
(sSeq (sDrop (eCall d_need_lot (lCons (eFldC ["Race"] "choices" (eVar 0)) (lCons (eUn (eVar 2)) lNil))))
(sSeq (sAsg (eCall d_totals (lCons (eVar 0) (lCons (eVar 1) lNil))) (bName 3))
(sRet (eCallB bTuple (lCons (eSlice (eCall d_best_first (lCons (eVar 3) (lCons (eUn (eVar 2)) lNil))) oNone (oSome (eFldC ["Race"] "seats" (eVar 0)))) lNil)))))
def d_top : FD := fnF .pure 4 g_top
def g_turned_t1 : EM :=
(eAnd (eOp opIn (eVar 2) (eVar 10)) (eOp opNotIn (eVar 3) (eVar 10)))
def g_turned_t2 : EM :=
(eAnd (eOp opIn (eVar 3) (eVar 10)) (eOp opNotIn (eVar 2) (eVar 10)))
def g_turned : SM :=
(sSeq (sAsg (eLc (iSeq (eVar 0)) (bName 10) g_turned_t1 (eVar 10) [10]) (bName 5))
(sSeq (sAsg (eLc (iSeq (eVar 0)) (bName 10) g_turned_t2 (eVar 10) [10]) (bName 6))
(sSeq (sAsg (eCallB (bII minII) (lCons (eCallB bLenX (lCons (eVar 5) lNil)) (lCons (eOp opFdiv (eOp opAdd (eVar 4) (eC (.int 1))) (eC (.int 2))) lNil))) (bName 7))
(sSeq (sAsg (eCallB (bII maxII) (lCons (eC (.int 0)) (lCons (eOp opSub (eVar 4) (eOp opMul (eC (.int 2)) (eVar 7))) lNil))) (bName 8))
(sSeq (sAsg (eOp opSub (eOp opSub (eVar 1) (eCallB bLenX (lCons (eVar 5) lNil))) (eCallB bLenX (lCons (eVar 6) lNil))) (bName 9))
(sRet (eIf (eOp opLe (eVar 8) (eVar 9)) (eOp opAdd (eVar 7) (eVar 8)) (eC .non))))))))
def d_turned : FD := fnF .pure 11 g_turned
def g_margin_b1 : SM :=
(sSeq (sAsg (eOp opAdd (eOp opSub (eOp opIxX (eVar 4) (eVar 8)) (eOp opIxX (eVar 4) (eVar 9))) (eCallB bInt (lCons (eOp opLt (eIndexZ (eVar 2) (lCons (eVar 8) lNil)) (eIndexZ (eVar 2) (lCons (eVar 9) lNil))) lNil))) (bName 10))
(sSeq (sAsg (eCall d_turned (lCons (eVar 3) (lCons (eVar 5) (lCons (eVar 8) (lCons (eVar 9) (lCons (eVar 10) lNil)))))) (bName 11))
(sIf (eOp opNotN (eVar 11) (eC .non))
(sDrop (eMeth "list" mAppend (eVar 7) (lCons (eVar 11) lNil)))
sSkip)))
def g_margin_b2 : SM :=
(sFor (iSeq (eSlice (eVar 6) (oSome (eFldC ["Race"] "seats" (eVar 0))) oNone)) (bName 9) g_margin_b1)
def g_margin : SM :=
(sSeq (sIf (eOp opEq (eFldC ["Race"] "kind" (eVar 0)) (eC (.str "rank")))
(sRaise "NoRace")
sSkip)
(sSeq (sDrop (eCall d_need_lot (lCons (eFldC ["Race"] "choices" (eVar 0)) (lCons (eUn (eVar 2)) lNil))))
(sSeq (sPar3 3 4 5 (lCons (eCall d_good_marks (lCons (eVar 0) (lCons (eVar 1) lNil))) (lCons (eCall d_totals (lCons (eVar 0) (lCons (eVar 1) lNil))) (lCons (eCallB bLenX (lCons (eVar 1) lNil)) lNil))))
(sSeq (sAsg (eCall d_best_first (lCons (eVar 4) (lCons (eUn (eVar 2)) lNil))) (bName 6))
(sSeq (sAsg (eLstM (lCons (eOp opAdd (eVar 5) (eC (.int 1))) lNil)) (bName 7))
(sSeq (sFor (iSeq (eSlice (eVar 6) oNone (oSome (eFldC ["Race"] "seats" (eVar 0))))) (bName 8) g_margin_b2)
(sRet (eCallB bMinL (lCons (eVar 7) lNil)))))))))
def d_margin : FD := fnF .pure 12 g_margin
def g__law_turned_t1 : EM :=
(eOp opNe (eOp opIxX (eVar 5) (eVar 10)) (eVar 6))
def g__law_turned_e1 : EM :=
(eTup (lCons (eOp opSub (eC (.int 0)) (eCall d__law_help (lCons (eVar 0) (lCons (eOp opIxX (eVar 5) (eVar 10)) (lCons (eVar 2) (lCons (eVar 3) lNil)))))) (lCons (eVar 10) lNil)))
def g__law_turned_b1 : SM :=
(sSeq (sAsg (eLc (iRange1 (lCons (eCallB bLenX (lCons (eVar 5) lNil)) lNil)) (bName 10) g__law_turned_t1 (eVar 10) [10]) (bName 8))
(sSeq (sAsg (eLc (iSeq (eVar 8)) (bName 10) eYes g__law_turned_e1 [10]) (bName 9))
(sSeq (sIf (eOp opEqL0 (eVar 9) (eLst lNil))
(sRet (eVar 5))
sSkip)
(sPutX (eVar 5) (eOp opIxX (eOp opIxX (eCallB bSortedZ (lCons (eVar 9) lNil)) (eC (.int 0))) (eC (.int 1))) (eVar 6)))))
def g__law_turned : SM :=
(sSeq (sAsg (eTup (lCons (eCallB bListXM (lCons (eVar 1) lNil)) (lCons (eIf (eOp opEq (eOp opIxX (eVar 0) (eC (.int 1))) (eC (.str "one"))) (eVar 3) (eTup (lCons (eVar 3) lNil))) lNil))) (bTup (bCons (bName 5) (bCons (bName 6) bNil))))
(sSeq (sFor (iRange1 (lCons (eVar 4) lNil)) (bName 7) g__law_turned_b1)
(sRet (eVar 5))))
def d__law_turned : FD := fnF .pure 11 g__law_turned
def g__law_right_t1 : EM :=
(eOp opNotIn (eVar 15) (eVar 7))
def g__law_right_c1 : EM :=
(eAnd (eOp opLt (eVar 11) (eVar 8)) (eSetEq false (eCall d_top (lCons (eVar 6) (lCons (eVar 12) (lCons (eVar 5) lNil)))) (eVar 7)))
def g__law_right_b1 : SM :=
(sSeq (sAsg (eOp opAdd (eVar 11) (eC (.int 1))) (bName 11))
(sAsg (eCall d__law_turned (lCons (eVar 3) (lCons (eVar 12) (lCons (eVar 9) (lCons (eVar 10) (lCons (eC (.int 1)) lNil)))))) (bName 12)))
def g__law_right_b2 : SM :=
(sSeq (sPar 11 12 (lCons (eC (.int 0)) (lCons (eVar 4) lNil)))
(sSeq (sWhile g__law_right_c1 g__law_right_b1)
(sAsg (eCallB (bII minII) (lCons (eVar 8) (lCons (eVar 11) lNil))) (bName 8))))
def g__law_right_b3 : SM :=
(sFor (iSeq (eLc (iSeq (eOp opIxX (eVar 3) (eC (.int 2)))) (bName 15) g__law_right_t1 (eVar 15) [15])) (bName 10) g__law_right_b2)
def g__law_right_b4 : SM :=
(sPutX (eVar 12) (eVar 14) (eCall d__law_mark (lCons (eVar 2) (lCons (eVar 3) lNil))))
def g__law_right_b5 : SM :=
(sSeq (sScope (sSeq (sAsg (eCallB bListXM (lCons (eVar 4) lNil)) (bName 12))
(sFor (iSeq (eSlice (eCall d__law_shuffled (lCons (eVar 2) (lCons (eLRg (rg1 (eCallB bLenX (lCons (eVar 4) lNil)))) lNil))) oNone (oSome (eCallB (bII maxII) (lCons (eC (.int 0)) (lCons (eOp opSub (eVar 8) (eC (.int 1))) lNil)))))) (bName 14) g__law_right_b4)))
(sIf (eSetEq true (eCall d_top (lCons (eVar 6) (lCons (eVar 12) (lCons (eVar 5) lNil)))) (eVar 7))
(sRet (eC (.bl false)))
sSkip))
def g__law_right : SM :=
(sSeq (sAsg (eCall d__law_begun (lCons (eVar 0) (lCons (eVar 1) lNil))) (bName 2))
(sSeq (sAsg (eCall d__law_told_race (lCons (eVar 2) (lCons (eLst (lCons (eC (.str "one")) (lCons (eC (.str "any")) lNil))) lNil))) (bName 3))
(sSeq (sPar 4 5 (lCons (eCall d__law_marks (lCons (eVar 2) (lCons (eVar 3) (lCons (eC (.int 60)) lNil)))) (lCons (eCallB bTupleZ (lCons (eCall d__law_shuffled (lCons (eVar 2) (lCons (eOp opIxX (eVar 3) (eC (.int 2))) lNil))) lNil)) lNil)))
(sSeq (sAsg (eCall d__law_race (lCons (eVar 3) lNil)) (bName 6))
(sSeq (sAsg (eTup (lCons (eCall d_top (lCons (eVar 6) (lCons (eVar 4) (lCons (eVar 5) lNil)))) (lCons (eOp opAdd (eCallB bLenX (lCons (eVar 4) lNil)) (eC (.int 1))) lNil))) (bTup (bCons (bName 7) (bCons (bName 8) bNil))))
(sSeq (sFor (iSeq (eVar 7)) (bName 9) g__law_right_b3)
(sSeq (sIf (eOr (eOp opNe (eCall d_margin (lCons (eVar 6) (lCons (eVar 4) (lCons (eVar 5) lNil)))) (eVar 8)) (eOp opNe (eCall d_margin (lCons (eVar 6) (lCons (eCallB bTuple (lCons (eVar 4) lNil)) (lCons (eVar 5) lNil)))) (eVar 8)))
(sRet (eC (.bl false)))
sSkip)
(sSeq (sFor (iRange1 (lCons (eC (.int 6)) lNil)) (bName 13) g__law_right_b5)
(sRet (eC (.bl true)))))))))))
def d__law_right : FD := fnF .pure 16 g__law_right
def g_law_b1 : SM :=
(sIf (eNot (eCall d__law_right (lCons (eVar 2) (lCons (eVar 1) lNil))))
(sRet (eC (.bl false)))
sSkip)
def g_law : SM :=
(sSeq (sFor (iEnumX (lCons (eSlice (eOp opAdd (eVar 0) (eLst (lCons (eC (.int 3)) lNil))) oNone (oSome (eCallB (bII maxII) (lCons (eC (.int 1)) (lCons (eCallB (bII minII) (lCons (eC (.int 4)) (lCons (eCallB bLenX (lCons (eVar 0) lNil)) lNil))) lNil))))) lNil)) (bTup (bCons (bName 1) (bCons (bName 2) bNil))) g_law_b1)
(sRet (eC (.bl true))))
def d_law : FD := fnF .pure 3 g_law
end
end DR.K47
end
section
/-! Loops, comprehensions and equality of plain lists. -/
namespace DL
open PySem L2
theorem forD_cons {b : D → EnvD → Option EnvD} {body : SM} {d : D} {ds : List D} {e : EnvD} {S : Store} : forD b body (d :: ds) e S = match b d e with
    | none => .bad
    | some e1 => match body e1 S with
      | .nx e2 S2 => forD b body ds e2 S2
      | .ct e2 S2 => forD b body ds e2 S2
      | .bk e2 S2 => .nx e2 S2
      | .rt d S2 => .rt d S2
      | .ex x e2 S2 => .ex x e2 S2
      | .bad => .bad := rfl
/-- a loop that is never left, by what holds of the turn, the slots and the store -/
theorem forD_inv {b : D → EnvD → Option EnvD} {body : SM} (P : Nat → EnvD → Store → Prop) : ∀ (ds : List D) (n : Nat) {e : EnvD} {S : Store}, P n e S →
    (∀ i d e S, ds[i]? = some d → P (n + i) e S → ∃ e1, b d e = some e1 ∧ ∃ e2 S2, (body e1 S = .nx e2 S2 ∨ body e1 S = .ct e2 S2) ∧ P (n + i + 1) e2 S2) → ∃ e' S', forD b body ds e S = .nx e' S' ∧ P (n + ds.length) e' S'
  | [], n, e, S, h0, _ => ⟨e, S, rfl, h0⟩
  | d :: ds, n, e, S, h0, st => by
    obtain ⟨e1, hb, e2, S2, hg, h1⟩ := st 0 d e S rfl h0
    obtain ⟨e', S', hf, h2⟩ := forD_inv P ds (n + 1) (e := e2) (S := S2) h1 fun i d' e S hd hp => by
      have := st (i + 1) d' e S (by simpa using hd) (by rw [show n + (i + 1) = n + 1 + i by omega]; exact hp)
      rw [show n + (i + 1) + 1 = n + 1 + i + 1 by omega] at this
      exact this
    refine ⟨e', S', ?_, by rw [show n + (d :: ds).length = n + 1 + ds.length by simp; omega]; exact h2⟩
    rw [forD_cons, hb]
    dsimp only
    rcases hg with hg | hg <;> rw [hg] <;> exact hf
theorem range_get {lo : Int} {n i : Nat} {d : D} (h : (rangeD lo n)[i]? = some d) : i < n ∧ d = .int (lo + (i : Nat)) := by
  unfold rangeD at h
  rw [List.getElem?_map] at h
  obtain ⟨j, e1, e2⟩ := Option.map_eq_some_iff.mp h
  obtain ⟨hl, e3⟩ := List.getElem?_eq_some_iff.mp e1
  simp at hl e3
  subst e3 e2
  exact ⟨hl, rfl⟩
@[simp] theorem range_len {lo : Int} {n : Nat} : (rangeD lo n).length = n := by simp [rangeD]
/-- for k in range(n) -/
theorem forD_range {b : D → EnvD → Option EnvD} {body : SM} (P : Nat → EnvD → Store → Prop) {lo : Int} {n : Nat} {e : EnvD} {S : Store} (h0 : P 0 e S)
    (st : ∀ i e S, i < n → P i e S → ∃ e1, b (.int (lo + (i : Nat))) e = some e1 ∧ ∃ e2 S2, (body e1 S = .nx e2 S2 ∨ body e1 S = .ct e2 S2) ∧ P (i + 1) e2 S2) : ∃ e' S', forD b body (rangeD lo n) e S = .nx e' S' ∧ P n e' S' := by
  obtain ⟨e', S', h1, h2⟩ := forD_inv (b := b) (body := body) P (rangeD lo n) 0 h0 fun i d e S hd hp => by
    obtain ⟨hl, rfl⟩ := range_get hd
    have := st i e S hl (by simpa using hp)
    simpa using this
  exact ⟨e', S', h1, by simpa using h2⟩
/-- a comprehension whose parts leave the store: filter, then map -/
theorem lcD_fm {b : D → EnvD → Option EnvD} {tt elt : EM} {env : EnvD} {S : Store} (p : D → Bool) (f : D → D) : ∀ (ds acc : List D),
    (∀ d ∈ ds, ∃ e1, b d env = some e1 ∧ tt e1 S = .ok (.bl (p d)) S ∧ (p d = true → elt e1 S = .ok (f d) S)) → acc.length + ds.length ≤ 16777216 → lcD b tt elt env acc ds S = .ok (acc ++ (ds.filter p).map f) S
  | [], acc, _, _ => by simp
  | d :: ds, acc, h, hl => by
    obtain ⟨e1, hb, ht, he⟩ := h d List.mem_cons_self
    have hl' : acc.length + (ds.length + 1) ≤ 16777216 := hl
    unfold lcD
    rw [hb]
    dsimp only
    rw [ht]
    cases hp : p d with
    | true =>
      dsimp only
      rw [he hp]
      dsimp only
      rw [if_pos (show sz (acc.length + 1) by unfold sz; omega), lcD_fm p f ds _ (fun d' hd => h d' (List.mem_cons_of_mem _ hd)) (by simp; omega)]
      simp [List.filter_cons, hp]
    | false =>
      dsimp only
      rw [lcD_fm p f ds acc (fun d' hd => h d' (List.mem_cons_of_mem _ hd)) (by omega)]
      simp [List.filter_cons, hp]
theorem lcD_map {b : D → EnvD → Option EnvD} {elt : EM} {env : EnvD} {S : Store} (f : D → D) (ds : List D)
    (h : ∀ d ∈ ds, ∃ e1, b d env = some e1 ∧ elt e1 S = .ok (f d) S) (hl : ds.length ≤ 16777216) : lcD b eYes elt env [] ds S = .ok (ds.map f) S := by
  rw [lcD_fm (tt := eYes) (fun _ => true) f ds [] (fun d hd => let ⟨e1, a, c⟩ := h d hd; ⟨e1, a, rfl, fun _ => c⟩) (by simpa using hl), List.nil_append, List.filter_eq_self.mpr (fun _ _ => rfl)]
/-! equality of lists and tuples of whole numbers -/
theorem pys_ints {S : Store} : ∀ ns : List Int, D.pys S (ns.map .int) = some (ns.map .int)
  | [] => rfl
  | n :: ns => by simp [D.pys, D.py, pys_ints ns]
theorem eqv_ints : ∀ as bs : List Int, PyData.eqvAll (as.map .int) (bs.map .int) = decide (as = bs)
  | [], [] => rfl
  | [], _ :: _ => rfl
  | _ :: _, [] => rfl
  | a :: as, b :: bs => by
    show (PyData.eqv (.int a) (.int b) && PyData.eqvAll (as.map .int) (bs.map .int)) = _
    rw [eqv_ints as bs]
    show ((a == b) && decide (as = bs)) = _
    by_cases h : a = b
    · subst h; simp
    · simp [h]
/-- data whose texts may be laid, not deeper than k -/
def Shp (k : Nat) (p : PyData) : Prop := p.canLay0 = true ∧ p.depth ≤ k
theorem Shp.shaped {k : Nat} {p : PyData} (h : Shp k p) (hk : k ≤ 64) : SeqAt.shaped p = true := by
  unfold SeqAt.shaped
  rw [h.1, decide_eq_true (by have := h.2; omega : p.depth ≤ 64)]; rfl
theorem Shp.mono {k m : Nat} {p : PyData} (h : Shp k p) (hk : k ≤ m) : Shp m p := ⟨h.1, Nat.le_trans h.2 hk⟩
theorem Shp.int {k : Nat} (i : Int) : Shp k (.int i) := ⟨rfl, Nat.zero_le _⟩
theorem Shp.bool {k : Nat} (i : Bool) : Shp k (.bool i) := ⟨rfl, Nat.zero_le _⟩
theorem Shp.none {k : Nat} : Shp k .none := ⟨rfl, Nat.zero_le _⟩
theorem Shp.str {k : Nat} {x : Str} (h : PyData.strOk x = true) : Shp k (.str x) := ⟨h, Nat.zero_le _⟩
theorem Shp.all {k : Nat} : ∀ {ps : List PyData}, (∀ p ∈ ps, Shp k p) → PyData.canLayAll0 ps = true ∧ PyData.depthAll ps ≤ k
  | [], _ => ⟨rfl, Nat.zero_le _⟩
  | p :: ps, h => by
    obtain ⟨h1, h2⟩ := h p List.mem_cons_self
    obtain ⟨h3, h4⟩ := Shp.all fun q hq => h q (List.mem_cons_of_mem _ hq)
    refine ⟨?_, Nat.max_le.mpr ⟨h2, h4⟩⟩
    show (p.canLay0 && PyData.canLayAll0 ps) = true
    rw [h1, h3]; rfl
theorem Shp.list {k : Nat} {ps : List PyData} (h : ∀ p ∈ ps, Shp k p) : Shp (k + 1) (.list ps) := ⟨(Shp.all h).1, Nat.succ_le_succ (Shp.all h).2⟩
theorem Shp.tuple {k : Nat} {ps : List PyData} (h : ∀ p ∈ ps, Shp k p) : Shp (k + 1) (.tuple ps) := ⟨(Shp.all h).1, Nat.succ_le_succ (Shp.all h).2⟩
theorem Shp.ints {k : Nat} {ns : List Int} : ∀ p ∈ ns.map PyData.int, Shp k p := fun p hp => by
  obtain ⟨i, _, rfl⟩ := List.mem_map.mp hp
  exact .int i
theorem opEqB_of {neg : Bool} {x y : D} {S : Store} {p q : PyData} (hx : x.pyO S = some p) (hy : y.pyO S = some q) (h1 : SeqAt.shaped p = true) (h2 : SeqAt.shaped q = true) (ns : ∀ a b, x = .str a → y = .str b → False) :
    opEqB neg x y S = .ok (.bl (if neg then !PyData.eqv p q else PyData.eqv p q)) S := by
  unfold opEqB
  split
  · exact (ns _ _ rfl rfl).elim
  · rw [hx, hy]
    simp only [h1, h2, Bool.and_self, if_true]
@[simp] theorem opEq_tints {as bs : List Int} {S : Store} : opEq (.tup (as.map .int)) (.tup (bs.map .int)) S = .ok (.bl (decide (as = bs))) S := by
  rw [opEq, opEqB_of (p := .tuple (as.map .int)) (q := .tuple (bs.map .int)) (by simp [D.pyO, D.py, pys_ints]) (by simp [D.pyO, D.py, pys_ints]) ((Shp.tuple (k := 0) Shp.ints).shaped (by decide)) ((Shp.tuple (k := 0) Shp.ints).shaped (by decide)) (fun _ _ h => by cases h), PyData.eqv, eqv_ints]
  rfl
@[simp] theorem opNe_tints {as bs : List Int} {S : Store} : opNe (.tup (as.map .int)) (.tup (bs.map .int)) S = .ok (.bl (!decide (as = bs))) S := by
  rw [opNe, opEqB_of (p := .tuple (as.map .int)) (q := .tuple (bs.map .int)) (by simp [D.pyO, D.py, pys_ints]) (by simp [D.pyO, D.py, pys_ints]) ((Shp.tuple (k := 0) Shp.ints).shaped (by decide)) ((Shp.tuple (k := 0) Shp.ints).shaped (by decide)) (fun _ _ h => by cases h), PyData.eqv, eqv_ints]
  rfl
@[simp] theorem opEq_lints {as bs : List Int} {S : Store} : opEq (.lst (as.map .int)) (.lst (bs.map .int)) S = .ok (.bl (decide (as = bs))) S := by
  rw [opEq, opEqB_of (p := .list (as.map .int)) (q := .list (bs.map .int)) (by simp [D.pyO, D.py, pys_ints]) (by simp [D.pyO, D.py, pys_ints]) ((Shp.list (k := 0) Shp.ints).shaped (by decide)) ((Shp.list (k := 0) Shp.ints).shaped (by decide)) (fun _ _ h => by cases h), PyData.eqv, eqv_ints]
  rfl
@[simp] theorem opNe_lints {as bs : List Int} {S : Store} : opNe (.lst (as.map .int)) (.lst (bs.map .int)) S = .ok (.bl (!decide (as = bs))) S := by
  rw [opNe, opEqB_of (p := .list (as.map .int)) (q := .list (bs.map .int)) (by simp [D.pyO, D.py, pys_ints]) (by simp [D.pyO, D.py, pys_ints]) ((Shp.list (k := 0) Shp.ints).shaped (by decide)) ((Shp.list (k := 0) Shp.ints).shaped (by decide)) (fun _ _ h => by cases h), PyData.eqv, eqv_ints]
  rfl
@[simp] theorem exit_bl0 {b : Bool} {S : Store} : exitD .pure [] (.bl b) S = .ok (.bl b) [] := exit_of (d' := .bl b) rfl (by simp)
theorem cut_map {α β : Type} (f : α → β) (xs : List α) (lo hi : Option Int) : cutD (xs.map f) lo hi = (cutD xs lo hi).map f := by
  simp [cutD]
theorem cut_len {α : Type} (xs : List α) (lo hi : Option Int) : (cutD xs lo hi).length ≤ xs.length := by
  unfold cutD
  rw [List.length_take, List.length_drop]; omega
/-- the law's own loop: every cell of the script, with its number -/
theorem law_loop {b : D → EnvD → Option EnvD} {body : SM} {e : EnvD} {S : Store} (P : EnvD → Prop) (ms : List Int) (h0 : P e)
    (st : ∀ (i : Nat) (c : Int) (e : EnvD), i < ms.length → P e → ∃ e1 e2, b (.tup [.int (i : Nat), .int c]) e = some e1 ∧ body e1 S = .nx e2 S ∧ P e2) : ∃ e', forD b body (enumD 0 (ms.map .int)) e S = .nx e' S := by
  obtain ⟨e', S', h, _, rfl⟩ := forD_inv (b := b) (body := body) (fun _ e S' => P e ∧ S' = S) (enumD 0 (ms.map .int)) 0 (e := e) (S := S) ⟨h0, rfl⟩ (by
    rintro i d e S' hd ⟨hp, rfl⟩
    obtain ⟨x, hx, rfl⟩ := enumD_get 0 _ i d hd
    rw [List.getElem?_map] at hx
    obtain ⟨c, hc, rfl⟩ := Option.map_eq_some_iff.mp hx
    have hi : i < ms.length := (List.getElem?_eq_some_iff.mp hc).1
    obtain ⟨e1, e2, h1, h2, h3⟩ := st i c e hi hp
    rw [Nat.zero_add]
    exact ⟨e1, h1, e2, S', .inl h2, h3, rfl⟩)
  exact ⟨e', h⟩
end DL
end
section
/-! The laws' draws. -/
namespace DL
open PySem L2
/-- a row of draws of which at most m were drawn -/
structure Drw (c : Cell) (m : Nat) : Prop where
  ex : ∃ a s k : Int, c = .lst [.int a, .int s, .int k] ∧ 0 ≤ a ∧ 0 ≤ s ∧ s < 2147483648 ∧ 0 ≤ k ∧ k ≤ m
theorem Drw.mono {c : Cell} {m n : Nat} (d : Drw c m) (h : m ≤ n) : Drw c n := by
  obtain ⟨a, s, k, e, h1, h2, h3, h4, h5⟩ := d.ex
  exact ⟨a, s, k, e, h1, h2, h3, h4, by omega⟩
theorem next_ok {S : Store} {l : Nat} {c : Cell} {m : Nat} {n : Int} (hc : cel S l = some c) (d : Drw c m) (hm : m ≤ 100000) (hn : 0 < n) (hn2 : n < 1073741824) :
    ∃ x c', d__law_next [.loc l, .int n] S = .ok (.int x) (S.set l c') ∧ 0 ≤ x ∧ x < n ∧ Drw c' (m + 1) := by
  obtain ⟨a, s, k, rfl, ha, hs, hs2, hk, hk2⟩ := d.ex
  by_cases h0 : 0 < a
  · refine ⟨a % n, .lst [.int (a / n), .int s, .int k], ?_, Int.emod_nonneg _ (by omega), Int.emod_lt_of_pos _ hn, ⟨_, _, _, rfl, Int.ediv_nonneg ha (by omega), hs, hs2, hk, by omega⟩⟩
    simp [d__law_next, g__law_next, hc, h0, hn, hn2]
  · have e1 : (s * (2 * (k + 1) + 1) + 7919 * (k + 1) * (k + 1) + 11).natAbs < 2 ^ 64 := by
      have h1 : s * (2 * (k + 1) + 1) ≤ 2147483648 * (2 * (k + 1) + 1) := Int.mul_le_mul_of_nonneg_right (by omega) (by omega)
      have h2 : 0 ≤ s * (2 * (k + 1) + 1) := Int.mul_nonneg hs (by omega)
      have h3 : 7919 * (k + 1) * (k + 1) ≤ 7919 * 100001 * (k + 1) := Int.mul_le_mul_of_nonneg_right (by omega) (by omega)
      have h4 : 0 ≤ 7919 * (k + 1) * (k + 1) := Int.mul_nonneg (by omega) (by omega)
      omega
    refine ⟨((s * (2 * (k + 1) + 1) + 7919 * (k + 1) * (k + 1) + 11) ^ 5 % 2147483647) / 11 % n, .lst [.int a, .int s, .int (k + 1)], ?_, Int.emod_nonneg _ (by omega), Int.emod_lt_of_pos _ hn, ⟨_, _, _, rfl, ha, hs, hs2, by omega, by omega⟩⟩
    have m1 : s.natAbs < 18446744073709551616 := by omega
    have m2 : (k + 1).natAbs < 18446744073709551616 := by omega
    simp [d__law_next, g__law_next, hc, h0, hn, hn2, m1, m2, e1]
theorem begun_ok {S : Store} {a k : Int} (hk : 0 ≤ k) (hk2 : k ≤ 100000) : ∃ c, d__law_begun [.int a, .int k] S = .ok (.loc S.length) (S ++ [c]) ∧ Drw c 0 := by
  have h1 : 0 ≤ a % 2147483647 := Int.emod_nonneg _ (by omega)
  have h2 : a % 2147483647 < 2147483647 := Int.emod_lt_of_pos _ (by omega)
  have e1 : (a % 2147483647 * 48271 + 104729 * k + 7).natAbs < 2 ^ 64 := by omega
  have m1 : (a % 2147483647).natAbs < 18446744073709551616 := by omega
  have h3 : 0 ≤ (a % 2147483647 * 48271 + 104729 * k + 7) ^ 3 % 2147483629 := Int.emod_nonneg _ (by omega)
  have h4 : (a % 2147483647 * 48271 + 104729 * k + 7) ^ 3 % 2147483629 < 2147483629 := Int.emod_lt_of_pos _ (by omega)
  by_cases h : 1000000000000000000 ≤ a
  · refine ⟨.lst [.int (a - 1000000000000000000), .int (1 + (a % 2147483647 * 48271 + 104729 * k + 7) ^ 3 % 2147483629), .int 0], ?_, ⟨_, _, _, rfl, by omega, by omega, by omega, by omega, by omega⟩⟩
    simp [d__law_begun, g__law_begun, h, e1]
  · refine ⟨.lst [.int 0, .int (1 + (a % 2147483647 * 48271 + 104729 * k + 7) ^ 3 % 2147483629), .int 0], ?_, ⟨_, _, _, rfl, by omega, by omega, by omega, by omega, by omega⟩⟩
    simp [d__law_begun, g__law_begun, h, e1]
theorem atI_mem {α : Type} {ds : List α} {i : Int} (h0 : 0 ≤ i) (h1 : i < ds.length) : ∃ d ∈ ds, atI ds i = some d := by
  obtain ⟨j, rfl⟩ := Int.eq_ofNat_of_zero_le h0
  have hj : j < ds.length := by omega
  exact ⟨ds[j], List.getElem_mem hj, atI_nat (List.getElem?_eq_getElem hj)⟩
theorem pick_ok {S : Store} {l : Nat} {c : Cell} {m : Nat} {ds : List D} (hc : cel S l = some c) (d : Drw c m) (hm : m ≤ 100000) (hn : ds ≠ []) (hn2 : ds.length < 1073741824) :
    ∃ x ∈ ds, ∃ c', d__law_pick [.loc l, .lst ds] S = .ok x (S.set l c') ∧ Drw c' (m + 1) := by
  have hp : 0 < ds.length := List.length_pos_iff.mpr hn
  obtain ⟨i, c', e, h0, h1, d'⟩ := next_ok (n := ds.length) hc d hm (by omega) (by omega)
  obtain ⟨x, hx, e2⟩ := atI_mem h0 h1
  refine ⟨x, hx, c', ?_, d'⟩
  simp [d__law_pick, g__law_pick, e, e2]
theorem pick_okT {S : Store} {l : Nat} {c : Cell} {m : Nat} {ds : List D} (hc : cel S l = some c) (d : Drw c m) (hm : m ≤ 100000) (hn : ds ≠ []) (hn2 : ds.length < 1073741824) :
    ∃ x ∈ ds, ∃ c', d__law_pick [.loc l, .tup ds] S = .ok x (S.set l c') ∧ Drw c' (m + 1) := by
  have hp : 0 < ds.length := List.length_pos_iff.mpr hn
  obtain ⟨i, c', e, h0, h1, d'⟩ := next_ok (n := ds.length) hc d hm (by omega) (by omega)
  obtain ⟨x, hx, e2⟩ := atI_mem h0 h1
  refine ⟨x, hx, c', ?_, d'⟩
  simp [d__law_pick, g__law_pick, e, e2]
end DL
namespace DL
open PySem L2
/-! the same where the draws' cell stands alone -/
theorem next1 {c : Cell} {m : Nat} (n : Int) (d : Drw c m) (hm : m ≤ 100000) (hn : 0 < n) (hn2 : n < 1073741824) :
    ∃ x c', d__law_next [.loc 0, .int n] [c] = .ok (.int x) [c'] ∧ 0 ≤ x ∧ x < n ∧ Drw c' (m + 1) := next_ok (S := [c]) (l := 0) rfl d hm hn hn2
theorem begun1 (a : Int) {k : Int} (hk : 0 ≤ k) (hk2 : k ≤ 100000) : ∃ c, d__law_begun [.int a, .int k] [] = .ok (.loc 0) [c] ∧ Drw c 0 := begun_ok (S := []) hk hk2
theorem pick1 {c : Cell} {m : Nat} (ds : List D) (d : Drw c m) (hm : m ≤ 100000) (hn : ds ≠ []) (hn2 : ds.length < 1073741824) :
    ∃ x ∈ ds, ∃ c', d__law_pick [.loc 0, .lst ds] [c] = .ok x [c'] ∧ Drw c' (m + 1) := pick_ok (S := [c]) (l := 0) rfl d hm hn hn2
theorem pick1T {c : Cell} {m : Nat} (ds : List D) (d : Drw c m) (hm : m ≤ 100000) (hn : ds ≠ []) (hn2 : ds.length < 1073741824) :
    ∃ x ∈ ds, ∃ c', d__law_pick [.loc 0, .tup ds] [c] = .ok x [c'] ∧ Drw c' (m + 1) := pick_okT (S := [c]) (l := 0) rfl d hm hn hn2
end DL
end
section
/-! Shares in lowest terms: the program's own lowest and the laws'. -/
namespace DL
open PySem L2
@[simp] theorem sWhile_is {c : EM} {b : SM} {e : EnvD} {S : Store} : sWhile c b e S = whileD c b bigN e S := rfl
theorem whileD_succ {c : EM} {b : SM} {n : Nat} {e : EnvD} {S : Store} : whileD c b (n + 1) e S = match c e S with
    | .ok (.bl true) S1 => match b e S1 with
      | .nx e2 S2 => whileD c b n e2 S2
      | .ct e2 S2 => whileD c b n e2 S2
      | .bk e2 S2 => .nx e2 S2
      | .rt d S2 => .rt d S2
      | .ex x e2 S2 => .ex x e2 S2
      | .bad => .bad
    | .ok (.bl false) S1 => .nx e S1
    | .ex x S1 => .ex x e S1
    | _ => .bad := rfl
/-- n / d is x / y in lowest terms -/
structure IsLow (n d x y : Nat) : Prop where
  eq : n * y = x * d
  cop : Nat.gcd n d = 1
  pos : 0 < d
theorem IsLow.le {n d x y : Nat} (h : IsLow n d x y) (hy : 0 < y) : d ≤ y := by
  have : d ∣ n * y := by rw [h.eq]; exact Nat.dvd_mul_left _ _
  exact Nat.le_of_dvd hy (Nat.Coprime.dvd_of_dvd_mul_left (show Nat.Coprime d n by rw [Nat.Coprime, Nat.gcd_comm]; exact h.cop) this)
end DL
end
section
/-! numbers modulo 2147483647; polynomials through points -/
namespace Mp
abbrev p : Int := 2147483647
/-- alike modulo p -/
def E (a b : Int) : Prop := a % 2147483647 = b % 2147483647
theorem E.refl (a : Int) : E a a := rfl
theorem E.symm {a b : Int} (h : E a b) : E b a := Eq.symm h
theorem E.trans {a b c : Int} (h : E a b) (k : E b c) : E a c := Eq.trans h k
theorem E.of {a b : Int} (h : a = b) : E a b := by rw [h]; exact E.refl b
theorem E.mod (a : Int) : E (a % 2147483647) a := by unfold E; omega
theorem E.add {a b c d : Int} (h : E a b) (k : E c d) : E (a + c) (b + d) := by unfold E at *; omega
theorem E.sub {a b c d : Int} (h : E a b) (k : E c d) : E (a - c) (b - d) := by unfold E at *; omega
theorem E.neg {a b : Int} (h : E a b) : E (-a) (-b) := by unfold E at *; omega
theorem E.mul {a b c d : Int} (h : E a b) (k : E c d) : E (a * c) (b * d) := by
  unfold E at *
  rw [Int.mul_emod, h, k, ← Int.mul_emod]
theorem E.pow {a b : Int} (h : E a b) : ∀ n : Nat, E (a ^ n) (b ^ n)
  | 0 => by rw [Int.pow_zero, Int.pow_zero]; exact E.refl 1
  | n + 1 => by rw [Int.pow_succ, Int.pow_succ]; exact (E.pow h n).mul h
theorem E.eq {a b : Int} (h : E a b) (h0 : 0 ≤ a) (h1 : a < 2147483647) (h2 : 0 ≤ b) (h3 : b < 2147483647) : a = b := by unfold E at h; omega
theorem mod_lt (a : Int) : 0 ≤ a % 2147483647 ∧ a % 2147483647 < 2147483647 := by omega
/-- a number with an inverse -/
def Inv (a : Int) : Prop := ∃ b, E (a * b) 1
theorem Inv.mul {a b : Int} (h : Inv a) (k : Inv b) : Inv (a * b) := by
  obtain ⟨c, hc⟩ := h
  obtain ⟨d, hd⟩ := k
  refine ⟨c * d, (E.of (by grind : a * b * (c * d) = (a * c) * (b * d))).trans ?_⟩
  exact (hc.mul hd).trans (E.of (by decide))
theorem Inv.cancel {a b : Int} (h : Inv a) (z : E (a * b) 0) : E b 0 := by
  obtain ⟨c, hc⟩ := h
  have h1 : E (c * (a * b)) (c * 0) := (E.refl c).mul z
  have h2 : E (c * (a * b)) (1 * b) := (E.of (by grind : c * (a * b) = (a * c) * b)).trans (hc.mul (E.refl b))
  have h3 := h2.symm.trans h1
  rw [Int.one_mul, Int.mul_zero] at h3
  exact h3
/-! ### powers -/
/-- powers with a remainder taken at each step; a proof by reckoning -/
def pw (a : Nat) : List Bool → Nat → Nat
  | [], acc => acc
  | b :: bs, acc => pw a bs ((if b then acc * acc % 2147483647 * a else acc * acc) % 2147483647)
/-- the exponent p - 1, bit by bit -/
def eb : List Bool := [true, true, true, true, true, true, true, true, true, true, true, true, true, true, true, true, true, true, true, true, true, true, true, true, true, true, true, true, true, true, false]
end Mp
end
section
namespace Mp
/-! ### polynomials: lists of coefficients, the least power first -/
def ev : List Int → Int → Int
  | [], _ => 0
  | a :: c, x => a + x * ev c x
/-- one step of a product with X - x, b ahead -/
def less (x : Int) : Int → List Int → List Int
  | b, [] => [b % 2147483647]
  | b, a :: c => (b - x * a) % 2147483647 :: less x a c
/-! ### as many roots as coefficients: all are 0 -/
def zeros (c : List Int) : Prop := ∀ a ∈ c, E a 0
/-- division by X - x -/
def quo (x : Int) : List Int → List Int
  | [] => []
  | [_] => []
  | _ :: b :: c => ev (b :: c) x :: quo x (b :: c)
theorem quo_len (x : Int) : ∀ c : List Int, (quo x c).length = c.length - 1
  | [] => rfl
  | [_] => rfl
  | _ :: b :: c => by simp [quo, quo_len x (b :: c)]
theorem quo_ev (x t : Int) : ∀ c : List Int, ev c t = ev c x + (t - x) * ev (quo x c) t
  | [] => by show (0 : Int) = 0 + (t - x) * 0; grind
  | [a] => by show a + t * 0 = a + x * 0 + (t - x) * 0; grind
  | a :: b :: c => by
    have ih := quo_ev x t (b :: c)
    show a + t * ev (b :: c) t = a + x * ev (b :: c) x + (t - x) * (ev (b :: c) x + t * ev (quo x (b :: c)) t)
    rw [ih]
    grind
theorem quo_zeros (x : Int) : ∀ c : List Int, zeros (quo x c) → E (ev c x) 0 → zeros c
  | [], _, _ => fun a h => by simp at h
  | [a], _, h => fun b hb => by
    simp at hb; subst hb
    have : ev [b] x = b := by show b + x * 0 = b; grind
    rw [this] at h; exact h
  | a :: b :: c, hz, h => by
    have h1 : E (ev (b :: c) x) 0 := hz _ (by simp [quo])
    have h2 := quo_zeros x (b :: c) (fun z hz' => hz z (by simp [quo, hz'])) h1
    intro z hm
    rcases List.mem_cons.mp hm with e | hm
    · subst e
      have h3 : E (z + x * ev (b :: c) x) 0 := h
      have h4 : E (x * ev (b :: c) x) (x * 0) := (E.refl x).mul h1
      have h5 := h3.sub h4
      have e1 : z + x * ev (b :: c) x - x * ev (b :: c) x = z := by grind
      have e2 : (0 : Int) - x * 0 = 0 := by grind
      rw [e1, e2] at h5
      exact h5
    · exact h2 z hm
/-- numbers that differ by what has an inverse -/
def Apart : List Int → Prop
  | [] => True
  | x :: xs => (∀ y ∈ xs, Inv (y - x)) ∧ Apart xs
theorem roots : ∀ (xs c : List Int), Apart xs → c.length ≤ xs.length → (∀ x ∈ xs, E (ev c x) 0) → zeros c
  | [], c, _, hl, _ => by
    have : c = [] := List.length_eq_zero_iff.mp (by simpa using hl)
    subst this
    intro a h; simp at h
  | x :: xs, c, ha, hl, hr => by
    have h0 := hr x (by simp)
    refine quo_zeros x c (roots xs (quo x c) ha.2 (by rw [quo_len]; simp at hl; omega) fun y hy => ?_) h0
    have h1 := hr y (by simp [hy])
    rw [quo_ev x y c] at h1
    have h2 := h1.sub h0
    have e1 : ev c x + (y - x) * ev (quo x c) y - ev c x = (y - x) * ev (quo x c) y := by grind
    have e2 : (0 : Int) - 0 = 0 := by decide
    rw [e1, e2] at h2
    exact (ha.1 y hy).cancel h2
/-- the differences of coefficients, and of worths -/
def dif : List Int → List Int → List Int
  | a :: c, b :: d => (a - b) :: dif c d
  | c, [] => c
  | [], d => d.map (fun b => -b)
theorem ev_neg (t : Int) : ∀ d : List Int, ev (d.map fun b => -b) t = -ev d t
  | [] => by show (0 : Int) = -0; decide
  | b :: d => by
    show -b + t * ev (d.map fun b => -b) t = -(b + t * ev d t)
    rw [ev_neg t d]; grind
theorem dif_ev (t : Int) : ∀ c d : List Int, ev (dif c d) t = ev c t - ev d t
  | [], [] => by show (0 : Int) = 0 - 0; decide
  | a :: c, [] => by show a + t * ev c t = a + t * ev c t - 0; grind
  | [], b :: d => by
    show ev ((b :: d).map fun b => -b) t = 0 - ev (b :: d) t
    rw [ev_neg]; grind
  | a :: c, b :: d => by
    show a - b + t * ev (dif c d) t = a + t * ev c t - (b + t * ev d t)
    rw [dif_ev t c d]; grind
theorem dif_len : ∀ c d : List Int, (dif c d).length = max c.length d.length
  | [], [] => rfl
  | _ :: _, [] => by simp [dif]
  | [], _ :: _ => by simp [dif]
  | a :: c, b :: d => by simp [dif, dif_len c d]
/-- two polynomials of few coefficients, alike at as many places: alike at every place, and in their first coefficients -/
theorem same {xs c d : List Int} (ha : Apart xs) (hc : c.length ≤ xs.length) (hd : d.length ≤ xs.length) (h : ∀ x ∈ xs, E (ev c x) (ev d x)) (t : Int) : E (ev c t) (ev d t) := by
  have hz := roots xs (dif c d) ha (by rw [dif_len]; omega) fun x hx => by
    rw [dif_ev]
    have := (h x hx).sub (E.refl (ev d x))
    have e : ev d x - ev d x = 0 := by omega
    rw [e] at this
    exact this
  have : ∀ l : List Int, zeros l → E (ev l t) 0 := fun l => by
    induction l with
    | nil => intro _; exact E.refl 0
    | cons a l ih =>
      intro hl
      have h1 := hl a (by simp)
      have h2 := ih fun b hb => hl b (by simp [hb])
      have h3 := h1.add ((E.refl t).mul h2)
      have e : (0 : Int) + t * 0 = 0 := by grind
      rw [e] at h3
      exact h3
  have h1 := this _ hz
  rw [dif_ev] at h1
  have h2 := h1.add (E.refl (ev d t))
  have e1 : ev c t - ev d t + ev d t = ev c t := by omega
  have e2 : (0 : Int) + ev d t = ev d t := by omega
  rw [e1, e2] at h2
  exact h2
end Mp
end
section
namespace Mp
/-! ### the polynomial through points -/
def backI (a : Int) : Int := a ^ 2147483645 % 2147483647
abbrev Pts := List (Int × Int)
def ownStep (x : Int) (o : List Int × Int) (q : Int × Int) : List Int × Int := if q.1 ≠ x then (less q.1 0 o.1, o.2 * (x - q.1) % 2147483647) else o
def own (pts : Pts) (x : Int) : List Int × Int := pts.foldl (ownStep x) ([1], 1)
def part (pts : Pts) (q : Int × Int) : Int := q.2 * backI (own pts q.1).2 % 2147483647
/-- a number times its back is 1 -/
def Good (s : Int) : Prop := E (s * s ^ 2147483645) 1
theorem Good.one : Good 1 := by unfold Good; rw [Int.one_pow]; exact E.of (by decide)
theorem Good.mul {a b : Int} (h : Good a) (k : Good b) : Good (a * b) := by
  unfold Good at *
  rw [Int.mul_pow]
  exact (E.of (by grind : a * b * (a ^ 2147483645 * b ^ 2147483645) = a * a ^ 2147483645 * (b * b ^ 2147483645))).trans ((h.mul k).trans (E.of (by decide)))
theorem Good.mod {a : Int} (h : Good a) : Good (a % 2147483647) := by
  unfold Good at *
  exact ((E.mod a).mul ((E.mod a).pow _)).trans h
theorem Good.inv {a : Int} (h : Good a) : Inv a := ⟨_, h⟩
/-- points of unlike keepers, whose differences are good -/
structure Fine (pts : Pts) : Prop where
  nd : (pts.map (·.1)).Nodup
  good : ∀ q ∈ pts, ∀ r ∈ pts, r.1 ≠ q.1 → Good (q.1 - r.1)
theorem Fine.apart : ∀ {pts : Pts}, Fine pts → Apart (pts.map (·.1))
  | [], _ => trivial
  | q :: pts, f => by
    have nd := f.nd
    rw [List.map_cons, List.nodup_cons] at nd
    refine ⟨fun y hy => ?_, Fine.apart ⟨nd.2, fun a ha b hb => f.good a (by simp [ha]) b (by simp [hb])⟩⟩
    obtain ⟨r, hr, rfl⟩ := List.mem_map.mp hy
    exact (f.good r (by simp [hr]) q (by simp) fun e => nd.1 (by rw [e]; exact List.mem_map.mpr ⟨r, hr, rfl⟩)).inv
end Mp
end
section
/-! Keepers' numbers: what the program's defs reckon. -/
namespace DL
open PySem L2 Mp
variable {S : Store}
theorem whole_ok (i : Int) : d_is_whole [.int i] S = .ok (.bl true) S := by simp [d_is_whole, g_is_whole, Ty.isa]
theorem between_ok (i a b : Int) : d_is_between [.int i, .int a, .int b] S = .ok (.bl (decide (a ≤ i ∧ i ≤ b))) S := by
  by_cases h1 : a ≤ i <;> by_cases h2 : i ≤ b <;> simp [d_is_between, g_is_between, whole_ok, h1, h2]
end DL
end
section
namespace DL
open PySem L2 Mp
variable {S : Store}
/-- pairs of whole numbers -/
def prD (q : Int × Int) : D := .tup [.int q.1, .int q.2]
/-- points, a list or a tuple -/
def PtsD (pts : Pts) (pd : D) : Prop := pd = .lst (pts.map prD) ∨ pd = .tup (pts.map prD)
theorem PtsD.seq {pts : Pts} {pd : D} (h : PtsD pts pd) {env : EnvD} {f : EM} (hf : f env S = .ok pd S) : iSeq f env S = .ok (pts.map prD) S := by
  rcases h with rfl | rfl <;> simp [hf]
theorem PtsD.len {pts : Pts} {pd : D} (h : PtsD pts pd) : bLenX [pd] S = .ok (.int pts.length) S := by
  rcases h with rfl | rfl <;> simp
/-- points that may be told -/
structure Sane (pts : Pts) : Prop where
  x : ∀ q ∈ pts, 1 ≤ q.1 ∧ q.1 ≤ 9
  v : ∀ q ∈ pts, 0 ≤ q.2 ∧ q.2 < 2147483647
  len : pts.length ≤ 100
end DL
end
section
namespace DL
open PySem L2 Mp
variable {S : Store}
end DL
end
section
/-! The laws' helpers: like, shuffled, low. -/
namespace DL
open PySem L2 Mp
variable {S : Store}
theorem atI_ofNat {α : Type} {l : List α} {i : Nat} (h : i < l.length) : atI l (i : Int) = some l[i] := by
  have : (i : Int) < l.length := by omega
  simp [atI, ixN, this, h]
theorem Drw.bel {c : Cell} {m n : Nat} (d : Drw c m) : c.bel n = true := by
  obtain ⟨a, s, k, rfl, _⟩ := d.ex
  rfl
theorem frzDs_map {α : Type} {ρ : Nat → Option D} {f : α → D} (hf : ∀ a, frzD ρ (f a) = some (f a)) : ∀ l : List α, frzDs ρ (l.map f) = some (l.map f)
  | [] => rfl
  | a :: l => by simp [frzDs, hf a, frzDs_map hf l]
theorem seqIndex_nat {i n : Nat} (h : i < n) : seqIndex? (i : Int) n = some i := by
  unfold seqIndex?
  have h0 : ¬ ((i : Int) < 0) := by omega
  simp [h0, h]
theorem eraseIdx_mapD {α : Type} (f : α → D) : ∀ (l : List α) (j : Nat), (l.map f).eraseIdx j = (l.eraseIdx j).map f
  | [], _ => rfl
  | _ :: _, 0 => rfl
  | a :: l, j + 1 => by
    show f a :: (l.map f).eraseIdx j = f a :: (l.eraseIdx j).map f
    rw [eraseIdx_mapD f l j]
theorem perm_out {α : Type} : ∀ (l : List α) (j : Nat) (h : j < l.length), (l[j] :: l.eraseIdx j).Perm l
  | _ :: _, 0, _ => .refl _
  | a :: l, j + 1, h => (List.Perm.swap _ _ _).trans ((perm_out l j (by simpa using h)).cons a)
/-- one by one taken out -/
theorem shuffle_loop {α : Type} (f : α → D) {elt : EM} {env : EnvD} (he : ∀ (k : D) (S : Store), elt (env.set 3 (some k)) S = (eMeth "list" mPopAt (eC (.loc 1)) (lCons (eCall d__law_next (lCons (eC (.loc 0)) (lCons (eCallB bLenX (lCons (eC (.loc 1)) lNil)) lNil))) lNil)) env S) :
    ∀ (n : Nat) (ds : List D) (l : List α) (acc : List D) (c : Cell) (m : Nat), l.length = n → ds.length = n → acc.length + n ≤ 1000 → Drw c m → m + n ≤ 90000 →
      ∃ (l' : List α) (c' : Cell), lcD (bName 3) eYes elt env acc ds [c, .lst (l.map f)] = .ok (acc ++ l'.map f) [c', .lst []] ∧ l'.Perm l ∧ Drw c' (m + n) := by
  intro n
  induction n with
  | zero =>
    intro ds l acc c m hl hd _ d _
    have e1 := List.length_eq_zero_iff.mp hl
    have e2 := List.length_eq_zero_iff.mp hd
    subst e1 e2
    exact ⟨[], c, by simp, .refl _, d⟩
  | succ n ih =>
    intro ds l acc c m hl hd ha d hm
    cases ds with
    | nil => simp at hd
    | cons k ds =>
      obtain ⟨i, c1, n1, i0, i1, d1⟩ := next_ok (S := [c, .lst (l.map f)]) (l := 0) (c := c) (n := (l.length : Int)) rfl d (by omega) (by omega) (by omega)
      obtain ⟨j, rfl⟩ := Int.eq_ofNat_of_zero_le i0
      have hj : j < l.length := by omega
      obtain ⟨l', c', h1, h2, h3⟩ := ih ds (l.eraseIdx j) (acc ++ [f l[j]]) c1 (m + 1) (by rw [List.length_eraseIdx_of_lt hj]; omega) (by simpa using hd) (by simp; omega) d1 (by omega)
      refine ⟨l[j] :: l', c', ?_, ?_, by rw [show m + (n + 1) = m + 1 + n by omega]; exact h3⟩
      · unfold lcD
        dsimp only [bName, eYes]
        rw [he]
        have w : w63 ((j : Nat) : Int) := w63_is (by omega) (by omega)
        have q := seqIndex_nat (i := j) (n := l.length) hj
        have n1' : d__law_next [.loc 0, .int (l.length : Int)] [c, .lst (l.map f)] = .ok (.int (j : Nat)) [c1, .lst (l.map f)] := n1
        have ee : (eMeth "list" mPopAt (eC (.loc 1)) (lCons (eCall d__law_next (lCons (eC (.loc 0)) (lCons (eCallB bLenX (lCons (eC (.loc 1)) lNil)) lNil))) lNil)) env [c, .lst (l.map f)] = .ok (f l[j]) [c1, .lst ((l.eraseIdx j).map f)] := by
          have c0 : cel [c, .lst (l.map f)] 1 = some (.lst (l.map f)) := rfl
          have c2 : cel [c1, .lst (l.map f)] 1 = some (.lst (l.map f)) := rfl
          have em : (l.map f).eraseIdx j = (l.eraseIdx j).map f := eraseIdx_mapD f l j
          simp [c0, c2, n1', w, q, hj, em]
        rw [ee]
        dsimp only
        rw [if_pos (show sz (acc.length + 1) from sz_is (by omega)), h1]
        simp
      · exact (List.Perm.cons _ h2).trans (perm_out l j hj)
end DL
end
section
/-! Names, as the laws with races draw them; what the program's forms say of them. -/
namespace DR
open PySem L2 DL
variable {S : Store}
def abc : Str := "abcdefghijklmnopqrstuvwxyz"
theorem opIn_sg {c : Nat} {z : Str} : opIn (.str ⟨#[c]⟩) (.str z) S = .ok (.bl (decide (c ∈ z.cps.toList))) S := rfl
/-- a good name -/
def goodN (s : Str) : Bool := (decide (1 ≤ s.length) && (decide (s ≠ "zz") && decide (s ≠ "zzzzzzzz"))) && decide (s.length ≤ 8) && s.cps.toList.all fun c => decide (c ∈ abc.cps.toList)
theorem mapTrue (ds : List D) : ds.map (fun _ => D.bl true) = (ds.map fun _ => true).map D.bl := by simp
theorem allTr {α : Type} (l : List α) : (l.all fun _ => true) = true := by simp
theorem isName_ok {s : Str} (h : goodN s = true) : d_is_name [.str s] S = .ok (.bl true) S := by
  unfold goodN at h
  simp only [Bool.and_eq_true, decide_eq_true_eq, List.all_eq_true] at h
  obtain ⟨⟨h1, h2⟩, h3⟩ := h
  have sl : (signsD s).length = s.length := by simp [signsD, Str.length]
  have e := lcD_map (S := S) (b := bName 1) (elt := g_is_name_e1) (env := [some (.str s), none]) (fun _ => .bl true) (signsD s) (fun d hd => by
    unfold signsD at hd
    obtain ⟨c, hc, rfl⟩ := List.mem_map.mp hd
    have q : (c ∈ (Str.ofString "abcdefghijklmnopqrstuvwxyz").cps.toList) := h3 c hc
    refine ⟨_, rfl, ?_⟩
    simp only [g_is_name_e1, eOp_is, eC_is]
    rw [eVar_at (d := .str ⟨#[c]⟩) (by rfl)]
    simp only [ER.bind_ok, opIn_sg, q, decide_true]) (by omega)
  rw [mapTrue] at e
  have z : sz s.length := sz_is (by omega)
  have i1 : (1 : Int) ≤ s.length := by have := h1.1; omega
  have i2 : (s.length : Int) ≤ 8 := by omega
  simp [d_is_name, g_is_name, Ty.isa, z, i1, i2, e, allTr, -List.map_map, -List.map_const]
theorem keysD_strs : ∀ ns : List Str, keysD (ns.map .str) = some (ns.map Sum.inr)
  | [] => rfl
  | n :: ns => by
    show ((keyD (.str n)).bind fun k => (keysD (ns.map .str)).map (k :: ·)) = _
    rw [keysD_strs ns]; rfl
theorem dcnt_strs {ns : List Str} (nd : ns.Nodup) : dcnt (ns.map fun i => (.inr i : Key)) = ns.length := by
  have e : (ns.map fun i => (.inr i : Key)).length = ns.length := by simp
  rw [← e]
  exact (dcnt_eq _).mpr (nd.map _ (fun a b h z => h (Sum.inr.inj z)))
theorem few_s {n : Nat} (h : n ≤ 1000) : few n := by
  unfold few
  have : 1002 < scanBound := by decide
  omega
theorem unlike_ok {ns : List Str} {a b : Int} (hg : ∀ n ∈ ns, goodN n = true) (nd : ns.Nodup) (h1 : a ≤ ns.length) (h2 : (ns.length : Int) ≤ b) (hl : ns.length ≤ 1000) :
    d_are_unlike_names [.tup (ns.map .str), .int a, .int b] S = .ok (.bl true) S := by
  have e := lcD_map (S := S) (b := bName 3) (elt := g_are_unlike_names_e1) (env := [some (.tup (ns.map .str)), some (.int a), some (.int b), none]) (fun _ => .bl true) (ns.map .str) (fun d hd => by
    obtain ⟨n, hn, rfl⟩ := List.mem_map.mp hd
    exact ⟨_, rfl, by simp [g_are_unlike_names_e1, isName_ok (hg n hn)]⟩) (by simp; omega)
  rw [mapTrue] at e
  have f := few_s (n := ns.length) hl
  simp [d_are_unlike_names, g_are_unlike_names, Ty.isa, h1, h2, e, keysD_strs, dcnt_strs nd, f, allTr, -List.map_map, -List.map_const]
theorem flat_strs (ns : List Str) : (ns.map D.str).all flatD = true := by simp
theorem any_strs (s : Str) (ns : List Str) : ((ns.map D.str).any fun y => eqF y (.str s)) = decide (s ∈ ns) := by
  rw [Bool.eq_iff_iff]
  simp
theorem in_strs {s : Str} {ns : List Str} : opIn (.str s) (.tup (ns.map .str)) S = .ok (.bl (decide (s ∈ ns))) S := by
  rw [opIn_tt, flat_strs, any_strs]; simp
theorem in_strsL {s : Str} {ns : List Str} : opIn (.str s) (.lst (ns.map .str)) S = .ok (.bl (decide (s ∈ ns))) S := by
  rw [opIn_ll, flat_strs, any_strs]; simp
theorem oneOf_s {s : Str} {ns : List Str} : d_is_one_of [.str s, .tup (ns.map .str)] S = .ok (.bl (decide (s ∈ ns))) S := by
  simp only [d_is_one_of, g_is_one_of]
  by_cases h : s ∈ ns <;> simp [Ty.isa, in_strs, h, -opIn_tt]
/-! what is drawn -/
def sgs : List Str := ["a", "b", "c", "d", "e", "f", "g", "h", "i", "j", "k", "l", "m", "n", "o", "p", "q", "r", "s", "t", "u", "v", "w", "x", "y", "z"]
def tls : List Str := ["x", "", "qxqxqxq", "xx", "qxqxq", "zq"]
def own1 : List Str := ["one", "any", "rank", "runoff", "pairs", "in", "out", "place", "letter", "doubt", "counts", "doubled", "admit"]
def own2 : List Str := ["refuse", "again", "stands", "counted", "vote", "roll", "uses", "mixed", "late", "result", "use", "close"]
def own3 : List Str := ["each", "odd", "spoilt", "good", "blank"]
def own : List Str := own1 ++ own2 ++ own3
theorem split1 : Txt.split "one any rank runoff pairs in out place letter doubt counts doubled admit" " " = own1 := by decide +kernel
theorem split2 : Txt.split "refuse again stands counted vote roll uses mixed late result use close" " " = own2 := by decide +kernel
theorem signs_abc : signsD abc = sgs.map .str := by
  have : abc.cps.toList.map (fun c => (⟨#[c]⟩ : Str)) = sgs := by decide +kernel
  rw [← this]; simp [signsD]
def nmB (i t k : Nat) : Str := sgs.getD ((i + 5 * k) % 26) "" ++ tls.getD ((t + k * k) % 6) ""
def namesA (i : Nat) : List Str := (own.drop i ++ own.take i).take 8
def namesB (i t : Nat) : List Str := (List.range 8).map (nmB i t)
/-- eight unlike good names -/
structure Names (ns : List Str) : Prop where
  len : ns.length = 8
  good : ∀ n ∈ ns, goodN n = true
  nd : ns.Nodup
def okNames (ns : List Str) : Bool := decide (ns.length = 8) && ns.all goodN && decide ns.Nodup
theorem okNames_is {ns : List Str} (h : okNames ns = true) : Names ns := by
  unfold okNames at h
  simp only [Bool.and_eq_true, decide_eq_true_eq, List.all_eq_true] at h
  exact ⟨h.1.1, h.1.2, h.2⟩
theorem okA : ∀ i, i < 26 → okNames (namesA i) = true := by decide +kernel
theorem okB : ∀ i, i < 26 → ∀ t, t < 6 → okNames (namesB i t) = true := by decide +kernel
end DR
end
section
/-! The names drawn. -/
namespace DR
open PySem L2 DL
variable {S : Store}
theorem opAdd_locL {l : Nat} {a b : List D} (h : cel S l = some (.lst a)) : opAdd (.loc l) (.lst b) S = if sz (a.length + b.length) then .ok (.lst (a ++ b)) S else .bad := by
  unfold cel at h
  show (match listD S (.loc l), listD S (.lst b) with
    | some a, some b => if sz (a.length + b.length) then ER.ok (.lst (a ++ b)) S else .bad
    | _, _ => .bad) = _
  have e : listD S (.loc l) = some a := by
    unfold listD
    dsimp only
    rw [h]
  rw [e]; rfl
theorem sIx_n (n L d : Nat) : HT.sIx L d (some (n : Int)) = min n L := HT.sIx_nat L d n
theorem cut_hi {α : Type} (xs : List α) (n : Nat) : cutD xs none (some (n : Int)) = xs.take n := by
  unfold cutD
  rw [sIx_n]
  show (xs.drop 0).take (min n xs.length - 0) = _
  rw [List.drop_zero, Nat.sub_zero]
  by_cases h : n ≤ xs.length
  · rw [Nat.min_eq_left h]
  · rw [Nat.min_eq_right (by omega), List.take_length, List.take_of_length_le (by omega)]
theorem cut_lo {α : Type} (xs : List α) (n : Nat) : cutD xs (some (n : Int)) none = xs.drop n := by
  unfold cutD
  rw [sIx_n]
  show (xs.drop (min n xs.length)).take (xs.length - min n xs.length) = _
  by_cases h : n ≤ xs.length
  · rw [Nat.min_eq_left h, List.take_of_length_le (by simp)]
  · rw [Nat.min_eq_right (by omega), List.drop_length, List.drop_of_length_le (by omega)]; simp
theorem sg_at {j : Nat} (h : j < 26) : strAt abc (j : Int) = some (.str (sgs.getD j "")) := by
  have hl : abc.cps.toList.length = 26 := by decide +kernel
  have e : ∀ j, j < 26 → (⟨#[abc.cps.toList.getD j 0]⟩ : Str) = sgs.getD j "" := by decide +kernel
  unfold strAt
  rw [atI_ofNat (by omega), ← e j h]
  simp [List.getD, List.getElem?_eq_getElem (by omega : j < abc.cps.toList.length)]
theorem tl_at {j : Nat} (h : j < 6) : atI ([.str "x", .str "", .str "qxqxqxq", .str "xx", .str "qxqxq", .str "zq"] : List D) (j : Int) = some (.str (tls.getD j "")) := by
  have : ([.str "x", .str "", .str "qxqxqxq", .str "xx", .str "qxqxq", .str "zq"] : List D) = tls.map .str := rfl
  rw [this, atI_ofNat (by simp [tls]; omega)]
  simp [List.getD, List.getElem?_eq_getElem (by simp [tls]; omega : j < tls.length)]
theorem nmB_sz {i t k : Nat} : (sgs.getD ((i + 5 * k) % 26) "").length + (tls.getD ((t + k * k) % 6) "").length ≤ 8 := by
  have h1 : ∀ j, j < 26 → (sgs.getD j "").length = 1 := by decide +kernel
  have h2 : ∀ j, j < 6 → (tls.getD j "").length ≤ 7 := by decide +kernel
  have := h1 ((i + 5 * k) % 26) (Nat.mod_lt _ (by decide))
  have := h2 ((t + k * k) % 6) (Nat.mod_lt _ (by decide))
  omega
theorem loop_b0 {c : Cell} {i t k : Nat} {a b s w : Option D} {A T : D} {x y : Str} {acc : List D} (hk : k < 26) (hA : ∀ S, opIxX A (.int (((i + 5 * k) % 26 : Nat) : Int)) S = .ok (.str x) S) (hT : ∀ S, opIxX T (.int (((t + k * k) % 6 : Nat) : Int)) S = .ok (.str y) S) (hz : x.length + y.length ≤ 8) (hl : acc.length ≤ 1000) :
    g__law_names_b1 [a, b, s, some A, some (.int (i : Nat)), some (.int (t : Nat)), some T, some (.loc 1), some (.int (k : Nat)), w] [c, .lst acc] =
      .nx [a, b, s, some A, some (.int (i : Nat)), some (.int (t : Nat)), some T, some (.loc 1), some (.int (k : Nat)), w] [c, .lst (acc ++ [.str (x ++ y)])] := by
  have c1 : cel [c, .lst acc] 1 = some (.lst acc) := rfl
  have m1 : mulOk (5 : Int) (k : Int) := mulOk_l (by decide)
  have m2 : mulOk (k : Int) (k : Int) := mulOk_l (by omega)
  have e1 : ((i : Int) + 5 * (k : Int)) % 26 = (((i + 5 * k) % 26 : Nat) : Int) := by omega
  have e2 : ((t : Int) + (k : Int) * (k : Int)) % 6 = (((t + k * k) % 6 : Nat) : Int) := by
    rw [← Int.natCast_mul]; omega
  have z1 := sz_is (n := x.length + y.length) (by omega)
  have z2 : sz (acc.length + 1) := sz_is (by omega)
  simp [g__law_names_b1, c1, m1, m2, e1, e2, hA, hT, z1, z2, -Int.natCast_emod, -Int.natCast_add, -Int.natCast_mul]
theorem loop_b1 {c : Cell} {i t k : Nat} {a b s w : Option D} (hk : k < 26) :
    g__law_names_b1 [a, b, s, some (.str abc), some (.int (i : Nat)), some (.int (t : Nat)), some (.lst [.str "x", .str "", .str "qxqxqxq", .str "xx", .str "qxqxq", .str "zq"]), some (.loc 1), some (.int (k : Nat)), w] [c, .lst (((List.range k).map (nmB i t)).map .str)] =
      .nx [a, b, s, some (.str abc), some (.int (i : Nat)), some (.int (t : Nat)), some (.lst [.str "x", .str "", .str "qxqxqxq", .str "xx", .str "qxqxq", .str "zq"]), some (.loc 1), some (.int (k : Nat)), w] [c, .lst (((List.range (k + 1)).map (nmB i t)).map .str)] := by
  have z0 : sz abc.length := sz_is (by decide +kernel)
  have s1 := sg_at (j := (i + 5 * k) % 26) (Nat.mod_lt _ (by decide))
  have s2 := tl_at (j := (t + k * k) % 6) (Nat.mod_lt _ (by decide))
  have e := loop_b0 (c := c) (i := i) (t := t) (a := a) (b := b) (s := s) (w := w) (A := .str abc) (T := .lst [.str "x", .str "", .str "qxqxqxq", .str "xx", .str "qxqxq", .str "zq"]) (acc := ((List.range k).map (nmB i t)).map .str) hk
    (x := sgs.getD ((i + 5 * k) % 26) "") (y := tls.getD ((t + k * k) % 6) "") (fun S => by rw [opIxX_s, if_pos z0, s1]) (fun S => by rw [opIxX_l, s2]) nmB_sz (by simp; omega)
  rw [e, List.range_succ, List.map_append, List.map_append]
  rfl
end DR
end
section
namespace DR
open PySem L2 DL
variable {S : Store}
theorem frz_strs {ρ : Nat → Option D} (l : List Str) : frzDs ρ (l.map .str) = some (l.map .str) := frzDs_map (fun _ => rfl) l
theorem sp1 {c : Cell} : mSplit (.str "one any rank runoff pairs in out place letter doubt counts doubled admit") [.str " "] [c] = .ok (.lst (own1.map .str)) [c] := by
    show (if ((" " : Str).length == 0) = false ∧ ("one any rank runoff pairs in out place letter doubt counts doubled admit" : Str).length ≤ 10000000 then ER.ok (D.lst ((Txt.split "one any rank runoff pairs in out place letter doubt counts doubled admit" " ").map D.str)) [c] else ER.bad) = _
    rw [split1]
    exact if_pos ⟨by decide +kernel, by decide +kernel⟩
theorem sp2 {c : Cell} : mSplit (.str "refuse again stands counted vote roll uses mixed late result use close") [.str " "] [c] = .ok (.lst (own2.map .str)) [c] := by
    show (if ((" " : Str).length == 0) = false ∧ ("refuse again stands counted vote roll uses mixed late result use close" : Str).length ≤ 10000000 then ER.ok (D.lst ((Txt.split "refuse again stands counted vote roll uses mixed late result use close" " ").map D.str)) [c] else ER.bad) = _
    rw [split2]
    exact if_pos ⟨by decide +kernel, by decide +kernel⟩
theorem ad1 {c : Cell} : opAdd (.lst (own1.map .str)) (.lst (own2.map .str)) [c] = .ok (.lst ((own1 ++ own2).map .str)) [c] := by
    have l1 : own1.length = 13 := rfl
    have l2 : own2.length = 12 := rfl
    rw [opAdd_ll, if_pos (sz_is (by rw [List.length_map, List.length_map, l1, l2]; decide)), List.map_append]
theorem ad2 {c : Cell} : opAdd (.lst ((own1 ++ own2).map .str)) (.lst (own3.map .str)) [c] = .ok (.lst (own.map .str)) [c] := by
    have l1 : own1.length = 13 := rfl
    have l2 : own2.length = 12 := rfl
    have l3 : own3.length = 5 := rfl
    rw [opAdd_ll, if_pos (sz_is (by rw [List.length_map, List.length_map, List.length_append, l1, l2, l3]; decide)), ← List.map_append]; rfl

theorem namesA_run {c c1 c2 c3 : Cell} {i t n : Nat} (hn : n ≤ 8) (hi : i < 26) (n1 : d__law_next [.loc 0, .int 26] [c] = .ok (.int (i : Nat)) [c1]) (n2 : d__law_next [.loc 0, .int 6] [c1] = .ok (.int (t : Nat)) [c2]) (n3 : d__law_next [.loc 0, .int 4] [c2] = .ok (.int 0) [c3]) :
    g__law_names [some (.loc 0), some (.int (n : Nat)), none, none, none, none, none, none, none, none] [c] = .rt (.lst (((namesA i).take n).map .str)) [c3] := by
  have ty : ∀ s, tyD "str" [c] (.str s) = true := fun _ => rfl
  have ad1 := ad1 (c := c)
  have ad2 := ad2 (c := c)
  have sp1 := sp1 (c := c)
  have sp2 := sp2 (c := c)
  have ad3 : opAdd (.lst ((own.drop i).map .str)) (.lst ((own.take i).map .str)) [c3] = .ok (.lst ((own.drop i ++ own.take i).map .str)) [c3] := by
      have : own.length = 30 := rfl
      rw [opAdd_ll, if_pos (sz_is (by simp; omega)), List.map_append]
  have k1 : cutD (own.map D.str) (some (i : Int)) none = (own.drop i).map .str := by rw [cut_lo, List.map_drop]
  have k2 : cutD (own.map D.str) none (some (i : Int)) = (own.take i).map .str := by rw [cut_hi, List.map_take]
  have k3 : cutD ((own.drop i ++ own.take i).map D.str) none (some (n : Int)) = ((namesA i).take n).map .str := by
      rw [cut_hi, namesA, List.take_take, Nat.min_eq_left hn, List.map_take]
  have e3 : eLst (lCons (eC (.str "each")) (lCons (eC (.str "odd")) (lCons (eC (.str "spoilt")) (lCons (eC (.str "good")) (lCons (eC (.str "blank")) lNil))))) = fun env S => .ok (.lst (own3.map .str)) S := by
    funext env S
    simp [own3]
  unfold g__law_names
  rw [e3]
  generalize hL1 : own1.map D.str = L1 at *
  generalize hL2 : own2.map D.str = L2 at *
  generalize hL3 : own3.map D.str = L3 at *
  generalize hL12 : (own1 ++ own2).map D.str = L12 at *
  generalize hO : own.map D.str = O at *
  generalize hd : (own.drop i).map D.str = O1 at *
  generalize ht : (own.take i).map D.str = O2 at *
  generalize hdt : (own.drop i ++ own.take i).map D.str = O3 at *
  generalize hna : ((namesA i).take n).map D.str = NA at *
  simp [oSome, oNone, ty, sp1, sp2, ad1, ad2, n1, n2, n3, k1, k2, ad3, k3, -opAdd_ll]

def yyy (s : Str) : D := .str (s ++ "yyy")
abbrev tl6 : D := .lst [.str "x", .str "", .str "qxqxqxq", .str "xx", .str "qxqxq", .str "zq"]
theorem namesB_loop {c : Cell} {i t n : Nat} {O : D} : ∃ k, forD (bName 8) g__law_names_b1 (rangeD 0 26) [some (.loc 0), some (.int (n : Nat)), some O, some (.str abc), some (.int (i : Nat)), some (.int (t : Nat)), some tl6, some (.loc 1), none, none] [c, .lst []] =
    .nx [some (.loc 0), some (.int (n : Nat)), some O, some (.str abc), some (.int (i : Nat)), some (.int (t : Nat)), some tl6, some (.loc 1), k, none] [c, .lst (((List.range 26).map (nmB i t)).map .str)] := by
  obtain ⟨e', S', hf, k, rfl, rfl⟩ := forD_range (b := bName 8) (body := g__law_names_b1)
      (fun q e S => ∃ k, e = [some (.loc 0), some (.int (n : Nat)), some O, some (.str abc), some (.int (i : Nat)), some (.int (t : Nat)), some tl6, some (.loc 1), k, none] ∧ S = [c, .lst (((List.range q).map (nmB i t)).map .str)])
      (lo := 0) (n := 26) (e := [some (.loc 0), some (.int (n : Nat)), some O, some (.str abc), some (.int (i : Nat)), some (.int (t : Nat)), some tl6, some (.loc 1), none, none]) (S := [c, .lst []]) ⟨none, rfl, rfl⟩ (by
        rintro q e S hn ⟨k, rfl, rfl⟩
        have e := loop_b1 (c := c) (i := i) (t := t) (k := q) (a := some (.loc 0)) (b := some (.int (n : Nat))) (s := some O) (w := none) hn
        rw [Int.zero_add]
        exact ⟨_, rfl, _, _, .inl e, _, rfl, rfl⟩)
  exact ⟨k, hf⟩
theorem namesB_lc {S : Store} {env : EnvD} (he : env.length = 10) : lcD (bName 9) eYes g__law_names_e1 env [] (sgs.map .str) S = .ok (sgs.map yyy) S :=
  by
    have h := lcD_map (S := S) (b := bName 9) (elt := g__law_names_e1) (env := env) (fun d => match d with | .str s => yyy s | d => d) (sgs.map .str) (fun d hd => by
        obtain ⟨s, hs, rfl⟩ := List.mem_map.mp hd
        have l1 : s.length = 1 := by
          have h : ∀ s ∈ sgs, s.length = 1 := by decide +kernel
          exact h s hs
        have l2 : ("yyy" : Str).length = 3 := by decide +kernel
        have zz : sz (s.length + ("yyy" : Str).length) := sz_is (by omega)
        refine ⟨_, rfl, ?_⟩
        have ev : eVar 9 (env.set 9 (some (.str s))) S = .ok (.str s) S := eVar_at (List.getElem?_set_self (by omega))
        show (eOp opAdd (eVar 9) (eC (.str "yyy"))) (env.set 9 (some (.str s))) S = _
        rw [eOp_is, ev]
        simp only [ER.bind_ok, eC_is, opAdd_ss]
        rw [if_pos zz]; rfl) (by decide)
    rw [List.map_map] at h
    exact h
theorem namesB_run {c c1 c2 c3 : Cell} {i t n : Nat} {z : Int} (hn : n ≤ 8) (hz : z ≠ 0) (n1 : d__law_next [.loc 0, .int 26] [c] = .ok (.int (i : Nat)) [c1]) (n2 : d__law_next [.loc 0, .int 6] [c1] = .ok (.int (t : Nat)) [c2]) (n3 : d__law_next [.loc 0, .int 4] [c2] = .ok (.int z) [c3]) :
    g__law_names [some (.loc 0), some (.int (n : Nat)), none, none, none, none, none, none, none, none] [c] = .rt (.lst (((namesB i t).take n).map .str)) [c3, .lst (((List.range 26).map (nmB i t)).map .str)] := by
  have ty : ∀ s, tyD "str" [c] (.str s) = true := fun _ => rfl
  have ad1 := ad1 (c := c)
  have ad2 := ad2 (c := c)
  have sp1 := sp1 (c := c)
  have sp2 := sp2 (c := c)
  have e3 : eLst (lCons (eC (.str "each")) (lCons (eC (.str "odd")) (lCons (eC (.str "spoilt")) (lCons (eC (.str "good")) (lCons (eC (.str "blank")) lNil))))) = fun env S => .ok (.lst (own3.map .str)) S := by
    funext env S
    simp [own3]
  have e6 : eLst (lCons (eC (.str "x")) (lCons (eC (.str "")) (lCons (eC (.str "qxqxqxq")) (lCons (eC (.str "xx")) (lCons (eC (.str "qxqxq")) (lCons (eC (.str "zq")) lNil)))))) = fun env S => .ok tl6 S := by
    funext env S
    simp
  have ea : eC (.str "abcdefghijklmnopqrstuvwxyz") = eC (.str abc) := rfl
  obtain ⟨k, hf⟩ := namesB_loop (c := c3) (i := i) (t := t) (n := n) (O := .lst (own.map .str))
  have lc := namesB_lc (S := [c3, .lst (((List.range 26).map (nmB i t)).map .str)]) (env := [some (.loc 0), some (.int (n : Nat)), some (.lst (own.map .str)), some (.str abc), some (.int (i : Nat)), some (.int (t : Nat)), some tl6, some (.loc 1), k, none]) rfl
  have ad4 := opAdd_locL (S := [c3, .lst (((List.range 26).map (nmB i t)).map D.str)]) (l := 1) (a := ((List.range 26).map (nmB i t)).map .str) (b := sgs.map yyy) rfl
  rw [if_pos (sz_is (by simp [sgs]))] at ad4
  have k3 : cutD (((List.range 26).map (nmB i t)).map D.str ++ sgs.map yyy) none (some (n : Int)) = ((namesB i t).take n).map .str := by
      rw [cut_hi, List.take_append_of_le_length (by simp; omega), namesB, ← List.map_take, ← List.map_take, ← List.map_take, List.take_range, List.take_range, Nat.min_eq_left (by omega), Nat.min_eq_left (by omega)]
  have sa := signs_abc
  unfold g__law_names
  rw [e3, e6, ea]
  generalize hL1 : own1.map D.str = L1 at *
  generalize hL2 : own2.map D.str = L2 at *
  generalize hL3 : own3.map D.str = L3 at *
  generalize hL12 : (own1 ++ own2).map D.str = L12 at *
  generalize hO : own.map D.str = O at *
  generalize hna : ((namesB i t).take n).map D.str = NA at *
  generalize hfo : ((List.range 26).map (nmB i t)).map D.str = FO at *
  generalize hy : sgs.map yyy = Y at *
  generalize hs : sgs.map D.str = SG at *
  generalize tl6 = T at *
  have r26 : rOk (26 : Int) := ⟨by decide, by decide⟩
  simp [oSome, oNone, ty, sp1, sp2, ad1, ad2, n1, n2, n3, hz, r26, -opAdd_ll]
  rw [hf]
  simp [oSome, oNone, sa, lc, ad4, k3, -opAdd_ll]
theorem names_okN {c : Cell} {m n : Nat} (hn : n ≤ 8) (d : Drw c m) (hm : m ≤ 90000) : ∃ ns c', d__law_names [.loc 0, .int (n : Nat)] [c] = .ok (.lst ((ns.take n).map .str)) [c'] ∧ Names ns ∧ Drw c' (m + 3) := by
  obtain ⟨x, c1, n1, x0, x1, d1⟩ := next1 26 d (by omega) (by decide) (by decide)
  obtain ⟨y, c2, n2, y0, y1, d2⟩ := next1 6 d1 (by omega) (by decide) (by decide)
  obtain ⟨z, c3, n3, z0, z1, d3⟩ := next1 4 d2 (by omega) (by decide) (by decide)
  obtain ⟨i, rfl⟩ := Int.eq_ofNat_of_zero_le x0
  obtain ⟨t, rfl⟩ := Int.eq_ofNat_of_zero_le y0
  have hi : i < 26 := by omega
  have ht : t < 6 := by omega
  by_cases hz : z = 0
  · subst hz
    refine ⟨namesA i, c3, ?_, okNames_is (okA i hi), d3⟩
    have ex := exit_draw (c := c) (c' := c3) (T := []) (d := .lst (((namesA i).take n).map .str)) (d' := .lst (((namesA i).take n).map .str)) (by simp [frzD, frz_strs, -List.map_take]) d3.bel
    have r := namesA_run hn hi n1 n2 n3
    show (match g__law_names [some (.loc 0), some (.int (n : Nat)), none, none, none, none, none, none, none, none] [c] with
      | .nx _ S1 => exitD .pure [c] .non S1
      | .rt d S1 => exitD .pure [c] d S1
      | .ex x _ S1 => .ex x S1
      | _ => .bad) = _
    rw [r]
    exact ex
  · refine ⟨namesB i t, c3, ?_, okNames_is (okB i hi t ht), d3⟩
    have ex := exit_draw (c := c) (c' := c3) (T := [.lst (((List.range 26).map (nmB i t)).map .str)]) (d := .lst (((namesB i t).take n).map .str)) (d' := .lst (((namesB i t).take n).map .str)) (by simp [frzD, frz_strs, -List.map_take]) d3.bel
    have r := namesB_run hn hz n1 n2 n3
    show (match g__law_names [some (.loc 0), some (.int (n : Nat)), none, none, none, none, none, none, none, none] [c] with
      | .nx _ S1 => exitD .pure [c] .non S1
      | .rt d S1 => exitD .pure [c] d S1
      | .ex x _ S1 => .ex x S1
      | _ => .bad) = _
    rw [r]
    exact ex
theorem names_ok {c : Cell} {m : Nat} (d : Drw c m) (hm : m ≤ 90000) : ∃ ns c', d__law_names [.loc 0, .int 8] [c] = .ok (.lst (ns.map .str)) [c'] ∧ Names ns ∧ Drw c' (m + 3) := by
  obtain ⟨ns, c', h1, h2, h3⟩ := names_okN (n := 8) (Nat.le_refl _) d hm
  exact ⟨ns, c', by rw [List.take_of_length_le (Nat.le_of_eq h2.len)] at h1; exact h1, h2, h3⟩
end DR
end
section
/-! Races told and made; marks; what the program says of marks. -/
namespace DR
open PySem L2 DL
variable {S : Store}
abbrev tupS (l : List Str) : D := .tup (l.map .str)
abbrev toldD (nm kd : Str) (cs : List Str) (seats : Int) (way : Str) : D := .tup [.str nm, .str kd, tupS cs, .int seats, .str way]
abbrev raceD (nm kd : Str) (cs : List Str) (seats : Int) (way : Str) : D := .obj "Race" ["name", "kind", "choices", "districts", "seats", "by"] [.str nm, .str kd, tupS cs, .tup [.str "here"], .int seats, .str way]
/-- what a race may be made of -/
structure Told (nm kd : Str) (cs : List Str) (seats : Int) (way : Str) : Prop where
  nm : goodN nm = true
  good : ∀ n ∈ cs, goodN n = true
  nd : cs.Nodup
  l2 : 2 ≤ cs.length
  l5 : cs.length ≤ 5
  kdOk : kd = "one" ∨ kd = "any" ∨ kd = "rank"
  s1 : 1 ≤ seats
  s2 : seats ≤ cs.length
  w : (kd ≠ "rank" ∧ way = "") ∨ (kd = "rank" ∧ (way = "runoff" ∨ way = "pairs" ∨ way = "share") ∧ (way = "share" ∨ seats = 1))
theorem Told.as {nm kd : Str} {cs : List Str} {seats seats' : Int} {way way' : Str} (t : Told nm kd cs seats way) (s1 : 1 ≤ seats') (s2 : seats' ≤ cs.length) (w : (kd ≠ "rank" ∧ way' = "") ∨ (kd = "rank" ∧ (way' = "runoff" ∨ way' = "pairs" ∨ way' = "share") ∧ (way' = "share" ∨ seats' = 1))) : Told nm kd cs seats' way' :=
  ⟨t.nm, t.good, t.nd, t.l2, t.l5, t.kdOk, s1, s2, w⟩
theorem here_good : goodN "here" = true := by decide +kernel
theorem kinds_in {kd : Str} (h : kd = "one" ∨ kd = "any" ∨ kd = "rank") : kd ∈ (["one", "any", "rank"] : List Str) := by
  rcases h with h | h | h <;> simp [h]
theorem way_ok {kd way : Str} {seats : Int} (w : (kd ≠ "rank" ∧ way = "") ∨ (kd = "rank" ∧ (way = "runoff" ∨ way = "pairs" ∨ way = "share") ∧ (way = "share" ∨ seats = 1))) : d_is_way [.str kd, .str way, .int seats] S = .ok (.bl true) S := by
  have e : ∀ s : Str, d_is_one_of [.str s, .tup [.str "runoff", .str "pairs", .str "share"]] S = .ok (.bl (decide (s ∈ (["runoff", "pairs", "share"] : List Str)))) S := fun s => oneOf_s (ns := ["runoff", "pairs", "share"])
  rcases w with ⟨h1, h2⟩ | ⟨h1, h2, h3⟩
  · subst h2
    simp [d_is_way, g_is_way, h1, Ty.isa]
  · subst h1
    have q : way ∈ (["runoff", "pairs", "share"] : List Str) := by rcases h2 with h | h | h <;> simp [h]
    have e2 := e way
    rw [decide_eq_true q] at e2
    by_cases h4 : way = "share"
    · subst h4
      simp only [d_is_way, g_is_way, fnF]
      simp [e2]
    · have h5 : seats = 1 := h3.resolve_left h4
      simp only [d_is_way, g_is_way, fnF]
      simp [e2, h4, h5]
theorem unlike1 {nm : Str} (h : goodN nm = true) : d_are_unlike_names [.tup [.str nm], .int 1, .int 1] S = .ok (.bl true) S :=
  unlike_ok (ns := [nm]) (fun n hn => by simp at hn; subst hn; exact h) (by simp) (by simp) (by simp) (by simp)
theorem unlikeHere : d_are_unlike_names [.tup [.str "here"], .int 1, .int 6] S = .ok (.bl true) S :=
  unlike_ok (ns := ["here"]) (fun n hn => by simp at hn; subst hn; exact here_good) (by simp) (by simp) (by simp) (by simp)
theorem ne_name_kind : ((Str.ofString "name" : Str) = Str.ofString "kind") = False := by simp only [eq_iff_iff, iff_false]; decide +kernel
theorem ne_name_choices : ((Str.ofString "name" : Str) = Str.ofString "choices") = False := by simp only [eq_iff_iff, iff_false]; decide +kernel
theorem ne_name_districts : ((Str.ofString "name" : Str) = Str.ofString "districts") = False := by simp only [eq_iff_iff, iff_false]; decide +kernel
theorem ne_name_seats : ((Str.ofString "name" : Str) = Str.ofString "seats") = False := by simp only [eq_iff_iff, iff_false]; decide +kernel
theorem ne_name_by : ((Str.ofString "name" : Str) = Str.ofString "by") = False := by simp only [eq_iff_iff, iff_false]; decide +kernel
theorem ne_kind_choices : ((Str.ofString "kind" : Str) = Str.ofString "choices") = False := by simp only [eq_iff_iff, iff_false]; decide +kernel
theorem ne_kind_districts : ((Str.ofString "kind" : Str) = Str.ofString "districts") = False := by simp only [eq_iff_iff, iff_false]; decide +kernel
theorem ne_kind_seats : ((Str.ofString "kind" : Str) = Str.ofString "seats") = False := by simp only [eq_iff_iff, iff_false]; decide +kernel
theorem ne_kind_by : ((Str.ofString "kind" : Str) = Str.ofString "by") = False := by simp only [eq_iff_iff, iff_false]; decide +kernel
theorem ne_choices_districts : ((Str.ofString "choices" : Str) = Str.ofString "districts") = False := by simp only [eq_iff_iff, iff_false]; decide +kernel
theorem ne_choices_seats : ((Str.ofString "choices" : Str) = Str.ofString "seats") = False := by simp only [eq_iff_iff, iff_false]; decide +kernel
theorem ne_choices_by : ((Str.ofString "choices" : Str) = Str.ofString "by") = False := by simp only [eq_iff_iff, iff_false]; decide +kernel
theorem ne_districts_seats : ((Str.ofString "districts" : Str) = Str.ofString "seats") = False := by simp only [eq_iff_iff, iff_false]; decide +kernel
theorem ne_districts_by : ((Str.ofString "districts" : Str) = Str.ofString "by") = False := by simp only [eq_iff_iff, iff_false]; decide +kernel
theorem ne_seats_by : ((Str.ofString "seats" : Str) = Str.ofString "by") = False := by simp only [eq_iff_iff, iff_false]; decide +kernel
theorem init_ok {nm kd : Str} {cs : List Str} {seats : Int} {way : Str} {c : Cell} (t : Told nm kd cs seats way) (hb : c.bel 2 = true) :
    d_Race_init [.loc 1, .str nm, .str kd, tupS cs, .tup [.str "here"], .int seats, .str way] [c, .ins "Race" []] = .ok .non [c, .ins "Race" [("name", .str nm), ("kind", .str kd), ("choices", tupS cs), ("districts", .tup [.str "here"]), ("seats", .int seats), ("by", .str way)]] := by
  have e1 := unlike1 (S := [c, .ins "Race" []]) t.nm
  have e2 : d_is_one_of [.str kd, .tup [.str "one", .str "any", .str "rank"]] [c, .ins "Race" []] = .ok (.bl true) [c, .ins "Race" []] := by
    have := oneOf_s (S := [c, .ins "Race" []]) (s := kd) (ns := ["one", "any", "rank"])
    rw [decide_eq_true (kinds_in t.kdOk)] at this
    exact this
  have e3 := unlike_ok (S := [c, .ins "Race" []]) (a := 2) (b := 5) t.good t.nd (by have := t.l2; omega) (by have := t.l5; omega) (by have := t.l5; omega)
  have e4 := unlikeHere (S := [c, .ins "Race" []])
  have e5 := between_ok (S := [c, .ins "Race" []]) seats 1 cs.length
  rw [decide_eq_true ⟨t.s1, t.s2⟩] at e5
  have e6 := way_ok (S := [c, .ins "Race" []]) t.w
  have nn : (cs.map D.str).length = cs.length := List.length_map _
  have ex : exitD .pure [c, .ins "Race" []] .non [c, .ins "Race" [("name", .str nm), ("kind", .str kd), ("choices", tupS cs), ("districts", .tup [.str "here"]), ("seats", .int seats), ("by", .str way)]] = .ok .non [c, .ins "Race" [("name", .str nm), ("kind", .str kd), ("choices", tupS cs), ("districts", .tup [.str "here"]), ("seats", .int seats), ("by", .str way)]] := by
    have b : ∀ l : List Str, belDs 2 (l.map .str) = true := fun l => by
      induction l with
      | nil => rfl
      | cons a l ih => show (true && belDs 2 (l.map .str)) = true; rw [ih]; rfl
    have rb : Cell.bel 2 (.ins "Race" [("name", .str nm), ("kind", .str kd), ("choices", tupS cs), ("districts", .tup [.str "here"]), ("seats", .int seats), ("by", .str way)]) = true := by
      simp [Cell.bel, belDs, belD, b]
    unfold exitD
    simp only [frzD]
    rw [if_pos (.inr (by
      show (Cell.bel 2 c && (Cell.bel 2 _ && true)) = true
      rw [hb, rb]; rfl))]
    rfl
  simp only [d_Race_init, g_Race_init, fnF]
  simp [e1, e2, e3, e4, e5, e6, putFD, startD, ex, ne_name_kind, ne_name_choices, ne_name_districts, ne_name_seats, ne_name_by, ne_kind_choices, ne_kind_districts, ne_kind_seats, ne_kind_by, ne_choices_districts, ne_choices_seats, ne_choices_by, ne_districts_seats, ne_districts_by, ne_seats_by]
theorem race_ok {nm kd : Str} {cs : List Str} {seats : Int} {way : Str} {c : Cell} (t : Told nm kd cs seats way) (hb : c.bel 2 = true) :
    d__law_race [toldD nm kd cs seats way] [c] = .ok (raceD nm kd cs seats way) [c] := by
  have e := init_ok t hb
  have ex : exitD .pure [c] (.loc 1) [c, .ins "Race" [("name", .str nm), ("kind", .str kd), ("choices", tupS cs), ("districts", .tup [.str "here"]), ("seats", .int seats), ("by", .str way)]] = .ok (raceD nm kd cs seats way) [c] := by
    have f : ∀ (ρ : Nat → Option D) (l : List Str), frzDs ρ (l.map .str) = some (l.map .str) := fun ρ l => frz_strs l
    refine exit_of ?_ rfl
    have step : ∀ k, resD 1 [c, .ins "Race" [("name", .str nm), ("kind", .str kd), ("choices", tupS cs), ("districts", .tup [.str "here"]), ("seats", .int seats), ("by", .str way)]] (k + 1) 1 = (frzDs (resD 1 [c, .ins "Race" [("name", .str nm), ("kind", .str kd), ("choices", tupS cs), ("districts", .tup [.str "here"]), ("seats", .int seats), ("by", .str way)]] k) [.str nm, .str kd, tupS cs, .tup [.str "here"], .int seats, .str way]).map (.obj "Race" ["name", "kind", "choices", "districts", "seats", "by"]) := fun k => rfl
    have st := step 11
    rw [show (11 + 1 : Nat) = 12 from rfl] at st
    rw [show [c].length = 1 from rfl, frzD, st]
    generalize resD 1 _ 11 = ρ
    simp [frzDs, frzD, f ρ cs]
  have a3 : ∀ a b c d e : D, atI [a, b, c, d, e] 3 = some d := fun _ _ _ _ _ => rfl
  have a4 : ∀ a b c d e : D, atI [a, b, c, d, e] 4 = some e := fun _ _ _ _ _ => rfl
  simp only [d__law_race, g__law_race, fnF]
  simp [pk, a3, a4, e, ex]
end DR
end
section
/-! A race told, drawn. -/
namespace DR
open PySem L2 DL
theorem cut_mid {α : Type} (xs : List α) (a b : Nat) (h : a ≤ b) (hb : b ≤ xs.length) : cutD xs (some (a : Int)) (some (b : Int)) = (xs.take b).drop a := by
  unfold cutD
  rw [sIx_n, sIx_n, Nat.min_eq_left (show a ≤ xs.length by omega), Nat.min_eq_left hb, List.drop_take]
theorem told_ok {c : Cell} {m : Nat} (ks : List Str) (hk : ks ≠ []) (hk3 : ∀ k ∈ ks, k = "one" ∨ k = "any" ∨ k = "rank") (hkl : ks.length ≤ 1000) (d : Drw c m) (hm : m ≤ 80000) :
    ∃ nm kd cs seats way c', d__law_told_race [.loc 0, .lst (ks.map .str)] [c] = .ok (toldD nm kd cs seats way) [c'] ∧ Told nm kd cs seats way ∧ kd ∈ ks ∧ Drw c' (m + 10) := by
  obtain ⟨ns, c1, n1, N, d1⟩ := names_ok d (by omega)
  obtain ⟨x, hx, c2, p2, d2⟩ := pick1 (ks.map .str) d1 (by omega) (by simpa using hk) (by simp; omega)
  obtain ⟨kd, hkd, rfl⟩ := List.mem_map.mp hx
  obtain ⟨y, c3, n3, y0, y1, d3⟩ := next1 4 d2 (by omega) (by decide) (by decide)
  obtain ⟨j, rfl⟩ := Int.eq_ofNat_of_zero_le y0
  have hj : j < 4 := by omega
  obtain ⟨cs, hcs⟩ : ∃ cs, cs = (ns.take (3 + j)).drop 1 := ⟨_, rfl⟩
  have lcs : cs.length = 2 + j := by rw [hcs, List.length_drop, List.length_take, N.len]; omega
  have csub : ∀ n ∈ cs, n ∈ ns := fun n hn => by rw [hcs] at hn; exact List.mem_of_mem_take (List.mem_of_mem_drop hn)
  have cnd : cs.Nodup := by rw [hcs]; exact (N.nd.sublist (List.take_sublist _ _)).sublist (List.drop_sublist _ _)
  obtain ⟨z, c4, n4, z0, z1, d4⟩ := next1 (cs.length : Int) d3 (by omega) (by omega) (by omega)
  obtain ⟨nm, hnm⟩ : ∃ nm, ns[0]? = some nm := ⟨_, List.getElem?_eq_getElem (by rw [N.len]; decide)⟩
  have a0 : atI (ns.map D.str) 0 = some (.str nm) := by
    have := atI_nat (xs := ns.map D.str) (j := 0) (v := .str nm) (by rw [List.getElem?_map, hnm]; rfl)
    exact this
  have ct : cutD (ns.map D.str) (some 1) (some (3 + (j : Int))) = cs.map .str := by
    have e := cut_mid (ns.map D.str) 1 (3 + j) (by omega) (by rw [List.length_map, N.len]; omega)
    rw [show ((1 : Nat) : Int) = 1 from rfl, show ((3 + j : Nat) : Int) = 3 + (j : Int) by omega] at e
    rw [e, hcs, List.map_drop, List.map_take]
  have good : ∀ n ∈ cs, goodN n = true := fun n hn => N.good n (csub n hn)
  have gnm : goodN nm = true := N.good nm (List.mem_of_getElem? hnm)
  have bt : ∀ l : List D, ∀ S, bTuple [.lst l] S = .ok (.tup l) S := fun _ _ => rfl
  by_cases hr : kd = "rank"
  · obtain ⟨w, hw, c5, p5, d5⟩ := pick1 [.str "runoff", .str "pairs", .str "share", .str "share"] d4 (by omega) (by simp) (by simp)
    have hw' : ∃ way : Str, w = .str way ∧ (way = "runoff" ∨ way = "pairs" ∨ way = "share") := by
      simp at hw
      rcases hw with rfl | rfl | rfl
      · exact ⟨_, rfl, .inl rfl⟩
      · exact ⟨_, rfl, .inr (.inl rfl)⟩
      · exact ⟨_, rfl, .inr (.inr rfl)⟩
    obtain ⟨way, rfl, hway⟩ := hw'
    by_cases hs : way = "share"
    · refine ⟨nm, kd, cs, 1 + z, way, c5, ?_, ⟨gnm, good, cnd, by omega, by omega, hk3 _ hkd, by omega, by omega, .inr ⟨hr, hway, .inl hs⟩⟩, hkd, d5.mono (by omega)⟩
      simp only [d__law_told_race, g__law_told_race, fnF]
      generalize hC : cs.map D.str = C at *
      have lC : C.length = cs.length := by rw [← hC]; simp
      simp [oSome, n1, p2, n3, ct, bt, lC, n4, hr, p5, hs, a0]
      exact hC.symm
    · refine ⟨nm, kd, cs, 1, way, c5, ?_, ⟨gnm, good, cnd, by omega, by omega, hk3 _ hkd, by omega, by omega, .inr ⟨hr, hway, .inr rfl⟩⟩, hkd, d5.mono (by omega)⟩
      simp only [d__law_told_race, g__law_told_race, fnF]
      generalize hC : cs.map D.str = C at *
      have lC : C.length = cs.length := by rw [← hC]; simp
      simp [oSome, n1, p2, n3, ct, bt, lC, n4, hr, p5, hs, a0]
      exact hC.symm
  · refine ⟨nm, kd, cs, 1 + z, "", c4, ?_, ⟨gnm, good, cnd, by omega, by omega, hk3 _ hkd, by omega, by omega, .inl ⟨hr, rfl⟩⟩, hkd, d4.mono (by omega)⟩
    simp only [d__law_told_race, g__law_told_race, fnF]
    generalize hC : cs.map D.str = C at *
    have lC : C.length = cs.length := by rw [← hC]; simp
    simp [oSome, n1, p2, n3, ct, bt, lC, n4, hr, a0]
    exact hC.symm
end DR
end
section
/-! Dicts by names: what stands in them. -/
namespace DR
open PySem L2 DL
variable {S : Store}
/-- the dict of f over some names -/
def kdf (cs : List Str) (f : Str → Int) : Kds := cs.map fun c => ((.inr c : Key), D.int (f c))
abbrev dicF (cs : List Str) (f : Str → Int) : D := .dic (cs.map fun c => (.inr c : Key)) (cs.map fun c => D.int (f c))
theorem kdf_len (cs : List Str) (f : Str → Int) : (kdf cs f).length = cs.length := by simp [kdf]
theorem zip_kdf (cs : List Str) (f : Str → Int) : (cs.map fun c => (.inr c : Key)).zip (cs.map fun c => D.int (f c)) = kdf cs f := by
  induction cs with
  | nil => rfl
  | cons c cs ih => simp [kdf] at ih ⊢; exact ih
theorem unzip_kdf1 (cs : List Str) (f : Str → Int) : (kdf cs f).map (·.1) = cs.map fun c => (.inr c : Key) := by simp [kdf]
theorem unzip_kdf2 (cs : List Str) (f : Str → Int) : (kdf cs f).map (·.2) = cs.map fun c => D.int (f c) := by simp [kdf]
theorem val_kdf {cs : List Str} {f : Str → Int} {c : Str} (h : c ∈ cs) : valD (kdf cs f) (.inr c) = some (.int (f c)) := by
  induction cs with
  | nil => simp at h
  | cons a cs ih =>
    unfold valD kdf
    rw [List.map_cons, List.find?_cons]
    by_cases e : a = c
    · subst e; simp
    · have : decide ((Sum.inr a : Key) = Sum.inr c) = false := decide_eq_false fun z => e (Sum.inr.inj z)
      rw [this]
      exact ih ((List.mem_cons.mp h).resolve_left (fun z => e z.symm))
theorem any_kdf (cs : List Str) (f : Str → Int) (c : Str) : ((kdf cs f).any fun kv => decide (kv.1 = (.inr c : Key))) = decide (c ∈ cs) := by
  rw [Bool.eq_iff_iff]
  simp only [List.any_eq_true, decide_eq_true_eq]
  constructor
  · rintro ⟨⟨k, d⟩, h1, h2⟩
    obtain ⟨a, ha, e⟩ := List.mem_map.mp h1
    cases e
    cases h2
    exact ha
  · intro h
    exact ⟨(.inr c, .int (f c)), List.mem_map.mpr ⟨c, h, rfl⟩, rfl⟩
theorem put_kdf {cs : List Str} {f : Str → Int} {c : Str} {x : Int} (h : c ∈ cs) : putD (kdf cs f) (.inr c) (.int x) = kdf cs (fun a => if a = c then x else f a) := by
  unfold putD
  rw [any_kdf, decide_eq_true h, if_pos rfl]
  unfold kdf
  rw [List.map_map]
  refine List.map_congr_left fun a _ => ?_
  dsimp only [Function.comp]
  by_cases e : a = c
  · subst e; simp
  · rw [if_neg (fun z => e (Sum.inr.inj z)), if_neg e]
theorem putD_len' (kds : Kds) (k : Key) (d : D) : (putD kds k d).length ≤ kds.length + 1 := by
  unfold putD
  split
  · simp
  · simp
/-- all new keys -/
theorem fold_put {α : Type} (k : α → Key) (v : α → D) : ∀ (l : List α) (acc : Kds), (l.map k).Nodup → (∀ a ∈ l, ∀ kv ∈ acc, kv.1 ≠ k a) → l.foldl (fun acc a => putD acc (k a) (v a)) acc = acc ++ l.map fun a => (k a, v a)
  | [], acc, _, _ => by simp
  | a :: l, acc, nd, h => by
    rw [List.map_cons, List.nodup_cons] at nd
    have e : putD acc (k a) (v a) = acc ++ [(k a, v a)] := by
      unfold putD
      rw [if_neg]
      intro z
      obtain ⟨kv, h1, h2⟩ := List.any_eq_true.mp z
      exact h a List.mem_cons_self kv h1 (of_decide_eq_true h2)
    rw [List.foldl_cons, e, fold_put k v l _ nd.2 (fun b hb kv hkv => by
      rcases List.mem_append.mp hkv with q | q
      · exact h b (List.mem_cons_of_mem _ hb) kv q
      · simp at q
        subst q
        intro z
        exact nd.1 (List.mem_map.mpr ⟨b, hb, z.symm⟩))]
    simp
theorem dcD_fold {α : Type} {b : D → EnvD → Option EnvD} {ek ev : EM} {env : EnvD} (h : α → D) (kd : α → D) (k : α → Key) (v : α → D) : ∀ (l : List α) (acc : Kds), (∀ a ∈ l, ∃ e1, b (h a) env = some e1 ∧ ek e1 S = .ok (kd a) S ∧ keyD (kd a) = some (k a) ∧ ev e1 S = .ok (v a) S) → acc.length + l.length ≤ 1000000 →
    dcD b eYes ek ev env acc (l.map h) S = some (l.foldl (fun acc a => putD acc (k a) (v a)) acc, S)
  | [], acc, _, _ => rfl
  | a :: l, acc, st, hl => by
    obtain ⟨e1, h1, h2, h3, h4⟩ := st a (by simp)
    have hl' : acc.length + (l.length + 1) ≤ 1000000 := hl
    have pl := putD_len' acc (k a) (v a)
    rw [List.map_cons]
    unfold dcD
    rw [h1]
    dsimp only [eYes]
    rw [h2]
    dsimp only
    rw [h4]
    dsimp only
    rw [h3]
    dsimp only
    rw [if_pos (show sz (acc.length + 1) from sz_is (by omega)), dcD_fold h kd k v l _ (fun c hc => st c (by simp [hc])) (by omega)]
    rfl
/-- a dict comprehension of unlike keys -/
theorem dcD_new {α : Type} {b : D → EnvD → Option EnvD} {ek ev : EM} {env : EnvD} (h : α → D) (kd : α → D) (k : α → Key) (v : α → D) (l : List α) (st : ∀ a ∈ l, ∃ e1, b (h a) env = some e1 ∧ ek e1 S = .ok (kd a) S ∧ keyD (kd a) = some (k a) ∧ ev e1 S = .ok (v a) S) (nd : (l.map k).Nodup) (hl : l.length ≤ 1000) :
    dcD b eYes ek ev env [] (l.map h) S = some (l.map fun a => (k a, v a), S) := by
  rw [dcD_fold h kd k v l [] st (by simp; omega), fold_put k v l [] nd (fun _ _ _ h => by simp at h)]
  simp
theorem nd_inr {cs : List Str} (nd : cs.Nodup) : (cs.map fun c => (.inr c : Key)).Nodup := nd.map _ (fun a b h z => h (Sum.inr.inj z))
/-- enumerate of names -/
theorem enum_strs (l : List Str) : enumD 0 (l.map D.str) = (l.zipIdx).map fun p => .tup [.int (p.2 : Nat), .str p.1] := by
  have : ∀ (l : List Str) (n : Nat), enumD n (l.map D.str) = (l.zipIdx n).map fun p => .tup [.int (p.2 : Nat), .str p.1] := by
    intro l
    induction l with
    | nil => intro n; rfl
    | cons a l ih => intro n; simp [enumD, List.zipIdx_cons] at ih ⊢; exact ih (n + 1)
  exact this l 0
end DR
end
section
/-! Marks drawn; good ones. -/
namespace DR
open PySem L2 DL
variable {S : Store}
/-- a comprehension whose every turn draws -/
theorem lc_draw {α : Type} (f : α → D) (P : α → Prop) (st i M : Nat) {elt : EM} {env : EnvD} (he : ∀ (k : D) (c : Cell) (m : Nat), Drw c m → m ≤ M → ∃ a c', elt (env.set i (some k)) [c] = .ok (f a) [c'] ∧ P a ∧ Drw c' (m + st)) :
    ∀ (ds : List D) (acc : List D) (c : Cell) (m : Nat), Drw c m → m + st * ds.length ≤ M → acc.length + ds.length ≤ 100000 →
      ∃ (l : List α) (c' : Cell), lcD (bName i) eYes elt env acc ds [c] = .ok (acc ++ l.map f) [c'] ∧ l.length = ds.length ∧ (∀ a ∈ l, P a) ∧ Drw c' (m + st * ds.length)
  | [], acc, c, m, d, _, _ => ⟨[], c, by simp, rfl, fun _ h => by simp at h, d⟩
  | k :: ds, acc, c, m, d, hm, hl => by
    have hl' : acc.length + (ds.length + 1) ≤ 100000 := hl
    have hm' : m + st * (ds.length + 1) ≤ M := hm
    rw [Nat.mul_succ] at hm'
    obtain ⟨a, c1, h1, h2, h3⟩ := he k c m d (by omega)
    obtain ⟨l, c2, h4, h5, h6, h7⟩ := lc_draw f P st i M he ds (acc ++ [f a]) c1 (m + st) h3 (by omega) (by simp; omega)
    refine ⟨a :: l, c2, ?_, by simp [h5], fun b hb => ?_, ?_⟩
    · unfold lcD
      dsimp only [bName, eYes]
      rw [h1]
      dsimp only
      rw [if_pos (show sz (acc.length + 1) from sz_is (by omega)), h4]
      simp
    · rcases List.mem_cons.mp hb with e | hb
      · subst e; exact h2
      · exact h6 b hb
    · have e : m + st * (k :: ds).length = m + st + st * ds.length := by
        rw [List.length_cons, Nat.mul_succ]; omega
      rw [e]; exact h7
/-- a filter by draws -/
theorem lc_pick {elt tt : EM} {env : EnvD} {i : Nat} (he : ∀ (s : Str) (c : Cell) (m : Nat), Drw c m → m ≤ 90000 → ∃ (b : Bool) (c' : Cell), tt (env.set i (some (.str s))) [c] = .ok (.bl b) [c'] ∧ Drw c' (m + 1)) (hv : ∀ (s : Str) (S : Store), elt (env.set i (some (.str s))) S = .ok (.str s) S) :
    ∀ (ss : List Str) (acc : List Str) (c : Cell) (m : Nat), Drw c m → m + ss.length ≤ 90000 → acc.length + ss.length ≤ 100000 →
      ∃ (l : List Str) (c' : Cell), lcD (bName i) tt elt env (acc.map .str) (ss.map .str) [c] = .ok ((acc ++ l).map .str) [c'] ∧ l.Sublist ss ∧ Drw c' (m + ss.length)
  | [], acc, c, m, d, _, _ => ⟨[], c, by simp, .slnil, d⟩
  | s :: ss, acc, c, m, d, hm, hl => by
    have hl' : acc.length + (ss.length + 1) ≤ 100000 := hl
    have hm' : m + (ss.length + 1) ≤ 90000 := hm
    obtain ⟨b, c1, h1, h3⟩ := he s c m d (by omega)
    cases b with
    | true =>
      obtain ⟨l, c2, h4, h5, h7⟩ := lc_pick he hv ss (acc ++ [s]) c1 (m + 1) h3 (by omega) (by simp; omega)
      refine ⟨s :: l, c2, ?_, h5.cons₂ s, ?_⟩
      · rw [List.map_cons]
        unfold lcD
        dsimp only [bName]
        rw [h1]
        dsimp only
        rw [hv]
        dsimp only
        rw [if_pos (show sz ((acc.map D.str).length + 1) from sz_is (by simp; omega))]
        have e : acc.map D.str ++ [D.str s] = (acc ++ [s]).map D.str := by simp
        rw [e, h4]
        simp
      · rw [show m + (s :: ss).length = m + 1 + ss.length by simp; omega]; exact h7
    | false =>
      obtain ⟨l, c2, h4, h5, h7⟩ := lc_pick he hv ss acc c1 (m + 1) h3 (by omega) (by omega)
      refine ⟨l, c2, ?_, h5.cons s, ?_⟩
      · rw [List.map_cons]
        unfold lcD
        dsimp only [bName]
        rw [h1]
        dsimp only
        rw [h4]
      · rw [show m + (s :: ss).length = m + 1 + ss.length by simp; omega]; exact h7
/-- what stands on a paper: nothing, the sign of spoilt ones, or choices -/
inductive Mk where
  | no | odd | good (l : List Str)
def Mk.D (one : Bool) : Mk → PySem.Str → D
  | .no, _ => .non
  | .odd, _ => .str "?"
  | .good l, _ => if one then .str (l.headD "") else .tup (l.map .str)
def mkD (one : Bool) : Mk → D
  | .no => .non
  | .odd => .str "?"
  | .good l => if one then .str (l.headD "") else .tup (l.map .str)
structure MkOk (one : Bool) (cs : List Str) (mk : Mk) : Prop where
  ok : ∀ l, mk = .good l → l ≠ [] ∧ l.Nodup ∧ (∀ c ∈ l, c ∈ cs) ∧ (one = true → l.length = 1)
def goodsOf : List Mk → List (List Str)
  | [] => []
  | .good l :: r => l :: goodsOf r
  | _ :: r => goodsOf r
theorem mkD_frz (one : Bool) (ρ : Nat → Option D) (mk : Mk) : frzD ρ (mkD one mk) = some (mkD one mk) := by
  cases mk with
  | no => rfl
  | odd => rfl
  | good l =>
    unfold mkD
    cases one with
    | true => rfl
    | false => simp [frzD, frz_strs]
theorem shuf_ok {α : Type} (f : α → D) (hf : ∀ ρ a, frzD ρ (f a) = some (f a)) (l : List α) {c : Cell} {m : Nat} (d : Drw c m) (hm : m + l.length ≤ 90000) (hl : l.length ≤ 900) :
    ∃ (l' : List α) (c' : Cell), d__law_shuffled [.loc 0, .lst (l.map f)] [c] = .ok (.lst (l'.map f)) [c'] ∧ l'.Perm l ∧ Drw c' (m + l.length) := by
  obtain ⟨l', c', h1, h2, h3⟩ := shuffle_loop f (elt := g__law_shuffled_e1) (env := [some (.loc 0), some (.lst (l.map f)), some (.loc 1), none]) (fun k S => rfl) l.length (rangeD 0 l.length) l [] c m rfl (by simp) (by simp; omega) d hm
  refine ⟨l', c', ?_, h2, h3⟩
  have r : rOk (l.length : Int) := rOk_n (by omega)
  have ex := exit_draw (c := c) (c' := c') (T := [.lst []]) (d := .lst (l'.map f)) (d' := .lst (l'.map f)) (by simp [frzD, frzDs_map (hf _)]) h3.bel
  simp only [List.nil_append] at h1
  have c0 : cel [c, .lst (l.map f)] 1 = some (.lst (l.map f)) := rfl
  simp [d__law_shuffled, g__law_shuffled, r, c0, h1, ex]
theorem shufT_ok {α : Type} (f : α → D) (hf : ∀ ρ a, frzD ρ (f a) = some (f a)) (l : List α) {c : Cell} {m : Nat} (d : Drw c m) (hm : m + l.length ≤ 90000) (hl : l.length ≤ 900) :
    ∃ (l' : List α) (c' : Cell), d__law_shuffled [.loc 0, .tup (l.map f)] [c] = .ok (.lst (l'.map f)) [c'] ∧ l'.Perm l ∧ Drw c' (m + l.length) := by
  obtain ⟨l', c', h1, h2, h3⟩ := shuffle_loop f (elt := g__law_shuffled_e1) (env := [some (.loc 0), some (.tup (l.map f)), some (.loc 1), none]) (fun k S => rfl) l.length (rangeD 0 l.length) l [] c m rfl (by simp) (by simp; omega) d hm
  refine ⟨l', c', ?_, h2, h3⟩
  have r : rOk (l.length : Int) := rOk_n (by omega)
  have ex := exit_draw (c := c) (c' := c') (T := [.lst []]) (d := .lst (l'.map f)) (d' := .lst (l'.map f)) (by simp [frzD, frzDs_map (hf _)]) h3.bel
  simp only [List.nil_append] at h1
  have c0 : cel [c, .lst (l.map f)] 1 = some (.lst (l.map f)) := rfl
  simp [d__law_shuffled, g__law_shuffled, r, c0, h1, ex]
/-- a mark, drawn -/
theorem mark_ok {nm kd : Str} {cs : List Str} {seats : Int} {way : Str} {c : Cell} {m : Nat} (t : Told nm kd cs seats way) (d : Drw c m) (hm : m ≤ 80000) :
    ∃ mk c', d__law_mark [.loc 0, toldD nm kd cs seats way] [c] = .ok (mkD (decide (kd = "one")) mk) [c'] ∧ MkOk (decide (kd = "one")) cs mk ∧ Drw c' (m + 20) := by
  obtain ⟨x, c1, n1, x0, x1, d1⟩ := next1 9 d (by omega) (by decide) (by decide)
  have l5 := t.l5
  have l2 := t.l2
  have hne : cs ≠ [] := fun z => by rw [z] at l2; simp at l2
  by_cases h0 : x = 0
  · subst h0
    refine ⟨.no, c1, ?_, ⟨fun l z => by cases z⟩, d1.mono (by omega)⟩
    simp [d__law_mark, g__law_mark, n1, exitD, mkD]
  · by_cases h1 : x = 1
    · subst h1
      refine ⟨.odd, c1, ?_, ⟨fun l z => by cases z⟩, d1.mono (by omega)⟩
      simp [d__law_mark, g__law_mark, n1, exitD, mkD]
    · have h2 : ¬ x < 2 := by omega
      by_cases ho : kd = "one"
      · obtain ⟨y, hy, c2, p2, d2⟩ := pick1T (cs.map .str) d1 (by omega) (by simpa using hne) (by simp; omega)
        obtain ⟨s, hs, rfl⟩ := List.mem_map.mp hy
        refine ⟨.good [s], c2, ?_, ⟨fun l z => ?_⟩, d2.mono (by omega)⟩
        · simp [d__law_mark, g__law_mark, n1, h2, ho, p2, exitD, mkD]
        · cases z
          exact ⟨by simp, by simp, by simpa using hs, fun _ => rfl⟩
      · obtain ⟨l, c2, e2, sl, d2⟩ := lc_pick (tt := g__law_mark_t1) (elt := eVar 5) (env := [some (.loc 0), some (toldD nm kd cs seats way), some (.int x), some (tupS cs), none, none]) (i := 5) (fun s c m d hm => by
          obtain ⟨b, c', q, _, _, d'⟩ := next1 2 d (by omega) (by decide) (by decide)
          exact ⟨decide (b = 0), c', by simp [g__law_mark_t1, q], d'⟩) (fun s S => by simp) cs [] c1 (m + 1) d1 (by omega) (by simp; omega)
        simp only [List.map_nil, List.nil_append] at e2
        have main : ∀ (some_ : List Str) (c3 : Cell) (m3 : Nat), Drw c3 m3 → m3 ≤ m + 7 → some_ ≠ [] → some_.Nodup → (∀ c ∈ some_, c ∈ cs) → some_.length ≤ 5 → ∃ mk c', (sRet (eCallB bTuple (lCons (eIf (eOp opEq (eOp opIxX (eVar 1) (eC (.int 1))) (eC (.str "any"))) (eVar 4) (eCall d__law_shuffled (lCons (eVar 0) (lCons (eVar 4) lNil)))) lNil))) [some (.loc 0), some (toldD nm kd cs seats way), some (.int x), some (tupS cs), some (.lst (some_.map .str)), none] [c3] = .rt (mkD false mk) [c'] ∧ MkOk false cs mk ∧ Drw c' (m + 20) := by
          intro some_ c3 m3 d3 hm3 hn nd hsub hl
          by_cases ha : kd = "any"
          · exact ⟨.good some_, c3, by simp [ha, mkD], ⟨fun l z => by cases z; exact ⟨hn, nd, hsub, fun z => by cases z⟩⟩, d3.mono (by omega)⟩
          · obtain ⟨l', c4, h4, p4, d4⟩ := shuf_ok D.str (fun _ _ => rfl) some_ d3 (by omega) (by omega)
            exact ⟨.good l', c4, by simp [ha, h4, mkD], ⟨fun l z => by cases z; exact ⟨fun z => hn (by rw [z] at p4; exact p4.nil_eq.symm), p4.nodup_iff.mpr nd, fun c hc => hsub c (p4.mem_iff.mp hc), fun z => by cases z⟩⟩, d4.mono (by omega)⟩
        have lsub : ∀ c ∈ l, c ∈ cs := fun c hc => sl.subset hc
        have ll : l.length ≤ 5 := Nat.le_trans sl.length_le l5
        by_cases hl : l = []
        · subst hl
          obtain ⟨y, hy, c3, p3, d3⟩ := pick1T (cs.map .str) d2 (by omega) (by simpa using hne) (by simp; omega)
          obtain ⟨s, hs, rfl⟩ := List.mem_map.mp hy
          obtain ⟨mk, c', e, ok, d'⟩ := main [s] c3 _ d3 (by omega) (by simp) (by simp) (by simpa using hs) (by simp)
          refine ⟨mk, c', ?_, by rw [decide_eq_false ho]; exact ok, d'⟩
          rw [decide_eq_false ho]
          simp only [List.map_cons, List.map_nil] at e e2
          unfold d__law_mark g__law_mark
          generalize hq : (sRet (eCallB bTuple (lCons (eIf (eOp opEq (eOp opIxX (eVar 1) (eC (.int 1))) (eC (.str "any"))) (eVar 4) (eCall d__law_shuffled (lCons (eVar 0) (lCons (eVar 4) lNil)))) lNil))) = last at e
          simp [n1, h2, ho, e2, p3, e, exitD]
        · obtain ⟨mk, c', e, ok, d'⟩ := main l c2 _ d2 (by omega) hl (sl.nodup t.nd) lsub ll
          refine ⟨mk, c', ?_, by rw [decide_eq_false ho]; exact ok, d'⟩
          rw [decide_eq_false ho]
          unfold d__law_mark g__law_mark
          generalize hq : (sRet (eCallB bTuple (lCons (eIf (eOp opEq (eOp opIxX (eVar 1) (eC (.int 1))) (eC (.str "any"))) (eVar 4) (eCall d__law_shuffled (lCons (eVar 0) (lCons (eVar 4) lNil)))) lNil))) = last at e
          have hl2 : (l.map D.str).isEmpty = false := by cases l with
            | nil => exact absurd rfl hl
            | cons _ _ => rfl
          simp [n1, h2, ho, e2, e, exitD, hl2]
end DR
end
section
/-! What the program and the laws say of marks. -/
namespace DR
open PySem L2 DL
variable {S : Store}
/-- marks drawn -/
theorem marks_okN (most : Nat) (hmost : most ≤ 100) {nm kd : Str} {cs : List Str} {seats : Int} {way : Str} {c : Cell} {m : Nat} (t : Told nm kd cs seats way) (d : Drw c m) (hm : m ≤ 70000) :
    ∃ (mks : List Mk) (c' : Cell), d__law_marks [.loc 0, toldD nm kd cs seats way, .int (most : Nat)] [c] = .ok (.lst (mks.map (mkD (decide (kd = "one"))))) [c'] ∧ (∀ mk ∈ mks, MkOk (decide (kd = "one")) cs mk) ∧ mks.length ≤ most ∧ Drw c' (m + 300) := by
  obtain ⟨x, c1, n1, x0, x1, d1⟩ := next1 6 d (by omega) (by decide) (by decide)
  obtain ⟨j, rfl⟩ := Int.eq_ofNat_of_zero_le x0
  have hj : j < 6 := by omega
  obtain ⟨ks, c2, e2, l2, h2, d2⟩ := lc_draw (mkD (decide (kd = "one"))) (MkOk (decide (kd = "one")) cs) 20 4 80000 (elt := g__law_marks_e1) (env := [some (.loc 0), some (toldD nm kd cs seats way), some (.int (most : Nat)), none, none]) (fun k c m d hm => by
    obtain ⟨mk, c', e, ok, d'⟩ := mark_ok t d hm
    exact ⟨mk, c', by simp [g__law_marks_e1, e], ok, d'⟩) (rangeD 0 (1 + j)) [] c1 (m + 1) d1 (by simp; omega) (by simp; omega)
  obtain ⟨y, c3, n3, y0, y1, d3⟩ := next1 ((most : Int) + 1) d2 (by simp; omega) (by omega) (by omega)
  obtain ⟨i, rfl⟩ := Int.eq_ofNat_of_zero_le y0
  have hi : i < most + 1 := by omega
  simp only [range_len] at l2 d2 d3
  have kne : ks.map (mkD (decide (kd = "one"))) ≠ [] := fun z => by
    have := congrArg List.length z
    simp at this
    rw [this] at l2
    simp at l2
    omega
  obtain ⟨ms, c4, e4, l4, h4, d4⟩ := lc_draw (mkD (decide (kd = "one"))) (MkOk (decide (kd = "one")) cs) 1 4 80000 (elt := g__law_marks_e2) (env := [some (.loc 0), some (toldD nm kd cs seats way), some (.int (most : Nat)), some (.lst (ks.map (mkD (decide (kd = "one"))))), none]) (fun k c m d hm => by
    obtain ⟨z, hz, c', e, d'⟩ := pick1 (ks.map (mkD (decide (kd = "one")))) d (by omega) kne (by simp [l2]; omega)
    obtain ⟨mk, hmk, rfl⟩ := List.mem_map.mp hz
    exact ⟨mk, c', by simp [g__law_marks_e2, e], h2 mk hmk, d'⟩) (rangeD 0 i) [] c3 _ d3 (by simp; omega) (by simp; omega)
  simp only [range_len, List.nil_append] at l4 d4 e4 e2
  refine ⟨ms, c4, ?_, h4, by omega, d4.mono (by omega)⟩
  have r1 : rOk (1 + (j : Int)) := rOk_i (by omega) (by omega)
  have r2 : rOk (i : Int) := rOk_n (by omega)
  have t1 : (1 + (j : Int)).toNat = 1 + j := by omega
  simp [d__law_marks, g__law_marks, n1, r1, t1, e2, n3, r2, e4, exitD]
/-! the program's words -/
@[simp] theorem fld_kind {nm kd : Str} {cs : List Str} {seats : Int} {way : Str} : fldC S (raceD nm kd cs seats way) "kind" = some (("Race" : Str), D.str kd) := rfl
@[simp] theorem fld_choices {nm kd : Str} {cs : List Str} {seats : Int} {way : Str} : fldC S (raceD nm kd cs seats way) "choices" = some (("Race" : Str), tupS cs) := rfl
@[simp] theorem fld_seats {nm kd : Str} {cs : List Str} {seats : Int} {way : Str} : fldC S (raceD nm kd cs seats way) "seats" = some (("Race" : Str), D.int seats) := rfl
theorem kind_ok {nm kd : Str} {cs : List Str} {seats : Int} {way : Str} {env : EnvD} {e : EM} (h : e env S = .ok (raceD nm kd cs seats way) S) : eFldC ["Race"] "kind" e env S = .ok (.str kd) S := by
  rw [eFldC_is, h]; rfl
theorem choices_ok {nm kd : Str} {cs : List Str} {seats : Int} {way : Str} {env : EnvD} {e : EM} (h : e env S = .ok (raceD nm kd cs seats way) S) : eFldC ["Race"] "choices" e env S = .ok (tupS cs) S := by
  rw [eFldC_is, h]; rfl
theorem seats_ok {nm kd : Str} {cs : List Str} {seats : Int} {way : Str} {env : EnvD} {e : EM} (h : e env S = .ok (raceD nm kd cs seats way) S) : eFldC ["Race"] "seats" e env S = .ok (.int seats) S := by
  rw [eFldC_is, h]; rfl
theorem sub_len {α : Type} [DecidableEq α] : ∀ {l m : List α}, l.Nodup → (∀ a ∈ l, a ∈ m) → l.length ≤ m.length
  | [], _, _, _ => Nat.zero_le _
  | a :: l, m, nd, h => by
    rw [List.nodup_cons] at nd
    have ha := h a List.mem_cons_self
    have := sub_len (l := l) (m := m.erase a) nd.2 fun b hb => (List.mem_erase_of_ne (fun z => nd.1 (by rw [← z]; exact hb))).mpr (h b (List.mem_cons_of_mem _ hb))
    rw [List.length_erase_of_mem ha] at this
    have : 0 < m.length := List.length_pos_of_mem ha
    show l.length + 1 ≤ m.length
    omega
theorem odd_notin {cs : List Str} (h : ∀ n ∈ cs, goodN n = true) : ("?" : Str) ∉ cs := fun z => by
  have := h _ z
  revert this
  decide +kernel
theorem goodN_ok {s : Str} (h : goodN s = true) : PyData.strOk s = true := by
  unfold goodN at h
  simp only [Bool.and_eq_true, decide_eq_true_eq, List.all_eq_true] at h
  obtain ⟨_, h3⟩ := h
  have q : ∀ c ∈ abc.cps.toList, c < 0x110000 := by decide +kernel
  unfold PyData.strOk
  rw [Array.all_eq_true']
  intro c hc
  exact decide_eq_true (q c (h3 c (by simpa using hc)))
theorem pys_strs : ∀ l : List Str, D.pys S (l.map .str) = some (l.map .str)
  | [] => rfl
  | n :: ns => by simp [D.pys, D.py, pys_strs ns]
theorem eqv_strs : ∀ as bs : List Str, PyData.eqvAll (as.map .str) (bs.map .str) = decide (as = bs)
  | [], [] => rfl
  | [], _ :: _ => rfl
  | _ :: _, [] => rfl
  | a :: as, b :: bs => by
    show (PyData.eqv (.str a) (.str b) && PyData.eqvAll (as.map .str) (bs.map .str)) = _
    rw [eqv_strs as bs]
    show ((a == b) && decide (as = bs)) = _
    by_cases h : a = b
    · subst h; simp
    · simp [h]
theorem shp_strs {l : List Str} {k : Nat} (h : ∀ n ∈ l, PyData.strOk n = true) : ∀ p ∈ l.map PyData.str, Shp k p := fun p hp => by
  obtain ⟨s, hs, rfl⟩ := List.mem_map.mp hp
  exact .str (h s hs)
theorem eqB_tS {neg : Bool} {a b : List Str} (ha : ∀ n ∈ a, PyData.strOk n = true) (hb : ∀ n ∈ b, PyData.strOk n = true) : opEqB neg (tupS a) (tupS b) S = .ok (.bl (if neg then !decide (a = b) else decide (a = b))) S := by
  rw [opEqB_of (p := .tuple (a.map .str)) (q := .tuple (b.map .str)) (by simp [D.pyO, D.py, pys_strs]) (by simp [D.pyO, D.py, pys_strs]) ((Shp.tuple (k := 0) (shp_strs ha)).shaped (by decide)) ((Shp.tuple (k := 0) (shp_strs hb)).shaped (by decide)) (fun _ _ h => by cases h)]
  have : PyData.eqv (.tuple (a.map .str)) (.tuple (b.map .str)) = decide (a = b) := eqv_strs a b
  rw [this]
theorem eqB_tstr {neg : Bool} {a : List Str} {z : Str} (ha : ∀ n ∈ a, PyData.strOk n = true) (hz : PyData.strOk z = true) : opEqB neg (tupS a) (.str z) S = .ok (.bl neg) S := by
  rw [opEqB_of (p := .tuple (a.map .str)) (q := .str z) (by simp [D.pyO, D.py, pys_strs]) (by simp [D.pyO, D.py]) ((Shp.tuple (k := 0) (shp_strs ha)).shaped (by decide)) ((Shp.str (k := 0) hz).shaped (by decide)) (fun _ _ h => by cases h)]
  have : PyData.eqv (.tuple (a.map .str)) (.str z) = false := rfl
  rw [this]
  cases neg <;> rfl
theorem qok : PyData.strOk "?" = true := by decide +kernel
theorem nil_ok : ∀ n ∈ ([] : List Str), PyData.strOk n = true := fun _ h => by simp at h
theorem opEq_nilT {l : List Str} (h : ∀ n ∈ l, PyData.strOk n = true) : opEq (tupS l) (.tup []) S = .ok (.bl (decide (l = []))) S := eqB_tS (b := []) (neg := false) h nil_ok
def wordOf : Mk → Str
  | .no => "blank"
  | .odd => "spoilt"
  | .good _ => "good"
theorem word_ok {nm kd : Str} {cs : List Str} {seats : Int} {way : Str} (t : Told nm kd cs seats way) {mk : Mk} (ok : MkOk (decide (kd = "one")) cs mk) :
    d_mark_word [raceD nm kd cs seats way, mkD (decide (kd = "one")) mk] S = .ok (.str (wordOf mk)) S := by
  have fk : ∀ {e : EM} {env : EnvD}, e env S = .ok (raceD nm kd cs seats way) S → eFldC ["Race"] "kind" e env S = .ok (.str kd) S := fun h => kind_ok h
  have fc : ∀ {e : EM} {env : EnvD}, e env S = .ok (raceD nm kd cs seats way) S → eFldC ["Race"] "choices" e env S = .ok (tupS cs) S := fun h => choices_ok h
  cases mk with
  | no => simp [d_mark_word, g_mark_word, d_is_blank, g_is_blank, mkD, wordOf]
  | odd =>
    have nin := odd_notin t.good
    have bl : d_is_blank [raceD nm kd cs seats way, .str "?"] S = .ok (.bl false) S := by simp [d_is_blank, g_is_blank, Ty.isa]
    have gd : d_is_good [raceD nm kd cs seats way, .str "?"] S = .ok (.bl false) S := by
      have e := oneOf_s (S := S) (s := "?") (ns := cs)
      rw [decide_eq_false nin] at e
      by_cases ho : kd = "one"
      · simp only [d_is_good, g_is_good, fnF]
        simp [ho, e]
      · simp only [d_is_good, g_is_good, fnF]
        simp [ho, Ty.isa]
    simp [d_mark_word, g_mark_word, mkD, wordOf, bl, gd]
  | good l =>
    obtain ⟨h1, h2, h3, h4⟩ := ok.ok l rfl
    have so : ∀ n ∈ l, PyData.strOk n = true := fun n hn => goodN_ok (t.good n (h3 n hn))
    by_cases ho : kd = "one"
    · obtain ⟨s, rfl⟩ := List.length_eq_one_iff.mp (h4 (decide_eq_true ho))
      have e := oneOf_s (S := S) (s := s) (ns := cs)
      rw [decide_eq_true (h3 s (by simp))] at e
      have bl : d_is_blank [raceD nm kd cs seats way, .str s] S = .ok (.bl false) S := by simp [d_is_blank, g_is_blank, Ty.isa]
      have gd : d_is_good [raceD nm kd cs seats way, .str s] S = .ok (.bl true) S := by
        simp only [d_is_good, g_is_good, fnF]
        simp [ho, e]
      have em : mkD (decide (kd = "one")) (.good [s]) = .str s := by simp [mkD, ho]
      rw [em]
      simp [d_mark_word, g_mark_word, wordOf, bl, gd]
    · have em : mkD (decide (kd = "one")) (.good l) = tupS l := by simp [mkD, ho]
      rw [em]
      have q := opEq_nilT (S := S) so
      rw [decide_eq_false h1] at q
      have bl : d_is_blank [raceD nm kd cs seats way, tupS l] S = .ok (.bl false) S := by simp [d_is_blank, g_is_blank, Ty.isa, q]
      have lc := lcD_map (S := S) (b := bName 2) (elt := g_is_good_e1) (env := [some (raceD nm kd cs seats way), some (tupS l), none]) (fun _ => .bl true) (l.map .str) (fun d hd => by
        obtain ⟨s, hs, rfl⟩ := List.mem_map.mp hd
        have e := oneOf_s (S := S) (s := s) (ns := cs)
        rw [decide_eq_true (h3 s hs)] at e
        exact ⟨_, rfl, by simp [g_is_good_e1, e]⟩) (by
          have : l.length ≤ cs.length := sub_len h2 h3
          have := t.l5
          simp; omega)
      rw [mapTrue] at lc
      have fw := few_s (n := l.length) (by
          have : l.length ≤ cs.length := sub_len h2 h3
          have := t.l5
          omega)
      have gd : d_is_good [raceD nm kd cs seats way, tupS l] S = .ok (.bl true) S := by
        simp only [d_is_good, g_is_good, fnF]
        simp [ho, Ty.isa, q, lc, keysD_strs, dcnt_strs h2, fw, allTr, -List.map_map, -List.map_const]
      simp [d_mark_word, g_mark_word, wordOf, bl, gd]
end DR
end
section
/-! Good marks; counting loops. -/
namespace DR
open PySem L2 DL
variable {S : Store}
theorem lcD_fa {α : Type} {b : D → EnvD → Option EnvD} {tt elt : EM} {env : EnvD} (h : α → D) (p : α → Bool) (f : α → D) : ∀ (l : List α) (acc : List D),
    (∀ a ∈ l, ∃ e1, b (h a) env = some e1 ∧ tt e1 S = .ok (.bl (p a)) S ∧ (p a = true → elt e1 S = .ok (f a) S)) → acc.length + l.length ≤ 16777216 → lcD b tt elt env acc (l.map h) S = .ok (acc ++ (l.filter p).map f) S
  | [], acc, _, _ => by simp
  | a :: l, acc, st, hl => by
    obtain ⟨e1, hb, ht, he⟩ := st a List.mem_cons_self
    have hl' : acc.length + (l.length + 1) ≤ 16777216 := hl
    rw [List.map_cons]
    unfold lcD
    rw [hb]
    dsimp only
    rw [ht]
    cases hp : p a with
    | true =>
      dsimp only
      rw [he hp]
      dsimp only
      rw [if_pos (show sz (acc.length + 1) by unfold sz; omega), lcD_fa h p f l _ (fun d' hd => st d' (List.mem_cons_of_mem _ hd)) (by simp; omega)]
      simp [List.filter_cons, hp]
    | false =>
      dsimp only
      rw [lcD_fa h p f l acc (fun d' hd => st d' (List.mem_cons_of_mem _ hd)) (by omega)]
      simp [List.filter_cons, hp]
theorem lcD_ma {α : Type} {b : D → EnvD → Option EnvD} {elt : EM} {env : EnvD} (h : α → D) (f : α → D) (l : List α) (st : ∀ a ∈ l, ∃ e1, b (h a) env = some e1 ∧ elt e1 S = .ok (f a) S) (hl : l.length ≤ 16777216) : lcD b eYes elt env [] (l.map h) S = .ok (l.map f) S := by
  rw [lcD_fa (tt := eYes) h (fun _ => true) f l [] (fun a ha => let ⟨e1, x, y⟩ := st a ha; ⟨e1, x, rfl, fun _ => y⟩) (by simpa using hl), List.nil_append, List.filter_eq_self.mpr (fun _ _ => rfl)]
/-- a loop that folds, the store too -/
theorem forD_foldS {α β : Type} {b : D → EnvD → Option EnvD} {body : SM} (f : α → D) (g : β → α → β) (R : β → EnvD → Store → Prop) : ∀ (l : List α) (s0 : β) (e0 : EnvD) (S0 : Store), R s0 e0 S0 →
    (∀ a ∈ l, ∀ s e S, R s e S → ∃ e1 e2 S2, b (f a) e = some e1 ∧ body e1 S = .nx e2 S2 ∧ R (g s a) e2 S2) → ∃ e' S', forD b body (l.map f) e0 S0 = .nx e' S' ∧ R (l.foldl g s0) e' S'
  | [], s0, e0, S0, h0, _ => ⟨e0, S0, rfl, h0⟩
  | a :: l, s0, e0, S0, h0, st => by
    obtain ⟨e1, e2, S2, h1, h2, h3⟩ := st a (by simp) s0 e0 S0 h0
    obtain ⟨e', S', h4, h5⟩ := forD_foldS f g R l (g s0 a) e2 S2 h3 fun c hc => st c (by simp [hc])
    refine ⟨e', S', ?_, h5⟩
    rw [List.map_cons, forD_cons, h1]
    dsimp only
    rw [h2]
    exact h4
theorem frz_tups {ρ : Nat → Option D} (l : List (List Str)) : frzDs ρ (l.map tupS) = some (l.map tupS) := frzDs_map (fun a => by simp [frzD, frz_strs]) l
def goodB : Mk → Bool
  | .good _ => true
  | _ => false
def lstOf : Mk → List Str
  | .good l => l
  | _ => []
theorem goodsOf_eq : ∀ mks : List Mk, (mks.filter goodB).map lstOf = goodsOf mks
  | [] => rfl
  | .no :: r => goodsOf_eq r
  | .odd :: r => goodsOf_eq r
  | .good l :: r => by
    show l :: (r.filter goodB).map lstOf = l :: goodsOf r
    rw [goodsOf_eq r]
theorem goods_mem {one : Bool} {cs : List Str} : ∀ {mks : List Mk}, (∀ mk ∈ mks, MkOk one cs mk) → ∀ l ∈ goodsOf mks, MkOk one cs (.good l)
  | [], _, l, h => by simp [goodsOf] at h
  | mk :: r, ok, l, h => by
    cases mk with
    | no => exact goods_mem (fun m hm => ok m (List.mem_cons_of_mem _ hm)) l h
    | odd => exact goods_mem (fun m hm => ok m (List.mem_cons_of_mem _ hm)) l h
    | good l' =>
      rcases List.mem_cons.mp (show l ∈ l' :: goodsOf r from h) with e | h
      · subst e; exact ok _ List.mem_cons_self
      · exact goods_mem (fun m hm => ok m (List.mem_cons_of_mem _ hm)) l h
theorem goods_len : ∀ mks : List Mk, (goodsOf mks).length ≤ mks.length
  | [] => Nat.le_refl _
  | .no :: r => by have := goods_len r; show (goodsOf r).length ≤ r.length + 1; omega
  | .odd :: r => by have := goods_len r; show (goodsOf r).length ≤ r.length + 1; omega
  | .good l :: r => by have := goods_len r; show (goodsOf r).length + 1 ≤ r.length + 1; omega
/-- one's mark as a tuple -/
theorem one_tup {l : List Str} (h : l.length = 1) : D.tup [.str (l.headD "")] = tupS l := by
  obtain ⟨s, rfl⟩ := List.length_eq_one_iff.mp h
  rfl
section
variable {nm kd : Str} {cs : List Str} {seats : Int} {way : Str}
theorem good_step {a b c : Option D} {mk : Mk} {env : EnvD} (ok : MkOk (decide (kd = "one")) cs mk) (hg : goodB mk = true) {f g : EM} (hk : f env S = .ok (.str kd) S) (hv : g env S = .ok (mkD (decide (kd = "one")) mk) S) :
    (eIf (eOp opEq f (eC (.str "one"))) (eTup (lCons g lNil)) g) env S = .ok (tupS (lstOf mk)) S := by
  cases mk with
  | good l =>
    obtain ⟨h1, h2, h3, h4⟩ := ok.ok l rfl
    by_cases ho : kd = "one"
    · have e := one_tup (h4 (decide_eq_true ho))
      have em : mkD (decide (kd = "one")) (.good l) = .str (l.headD "") := by simp [mkD, ho]
      rw [em] at hv
      simp only [eIf_is, eOp_is, hk, eC_is, ER.bind_ok, opEq_ss, decide_eq_true ho, eTup_is, lCons_is, hv, ER.bindL_ok, lNil_is, LR.bind_ok, LR.bindE_ok]
      rw [if_pos (sz_is (by simp)), e]; rfl
    · have em : mkD (decide (kd = "one")) (.good l) = tupS l := by simp [mkD, ho]
      rw [em] at hv
      simp only [eIf_is, eOp_is, hk, eC_is, ER.bind_ok, opEq_ss, decide_eq_false ho, hv]
      rfl
  | no => cases hg
  | odd => cases hg
theorem goodMarks_ok (t : Told nm kd cs seats way) {mks : List Mk} (ok : ∀ mk ∈ mks, MkOk (decide (kd = "one")) cs mk) (hl : mks.length ≤ 100000) {d : D} (hd : d = .lst (mks.map (mkD (decide (kd = "one")))) ∨ d = .tup (mks.map (mkD (decide (kd = "one"))))) :
    d_good_marks [raceD nm kd cs seats way, d] S = .ok (.lst ((goodsOf mks).map tupS)) S := by
  have l1 := lcD_fa (S := S) (b := bName 3) (tt := g_good_marks_t1) (elt := eVar 3) (env := [some (raceD nm kd cs seats way), some d, none, none]) (mkD (decide (kd = "one"))) goodB (mkD (decide (kd = "one"))) mks [] (fun mk hmk => by
    refine ⟨_, rfl, ?_, fun _ => by simp⟩
    have w := word_ok (S := S) t (ok mk hmk)
    simp [g_good_marks_t1, w]
    cases mk <;> first | rfl | (simp only [wordOf, goodB]; decide +kernel)) (by simp; omega)
  rw [List.nil_append] at l1
  have l2 := lcD_ma (S := S) (b := bName 3) (elt := g_good_marks_e1) (env := [some (raceD nm kd cs seats way), some d, some (.lst ((mks.filter goodB).map (mkD (decide (kd = "one"))))), none]) (mkD (decide (kd = "one"))) (fun mk => tupS (lstOf mk)) (mks.filter goodB) (fun mk hmk => by
    obtain ⟨h1, h2⟩ := List.mem_filter.mp hmk
    refine ⟨_, rfl, good_step (a := none) (b := none) (c := none) (ok mk h1) h2 ?_ ?_⟩
    · exact kind_ok (nm := nm) (kd := kd) (cs := cs) (seats := seats) (way := way) (by simp)
    · simp) (by have := List.length_filter_le goodB mks; omega)
  have e : (mks.filter goodB).map (fun mk => tupS (lstOf mk)) = (goodsOf mks).map tupS := by rw [← goodsOf_eq, List.map_map]; rfl
  rw [e] at l2
  simp only [d_good_marks, g_good_marks, fnF]
  rcases hd with rfl | rfl
  · simp [l1, l2, exit_of, exitD, frzD, frz_tups]
  · simp [l1, l2, exit_of, exitD, frzD, frz_tups]
end
end DR
end
section
/-! The first of the greatest, one after the other: the sorted row. No program. -/
namespace DR
variable {α : Type} [DecidableEq α]
/-- one thing ahead of another: more, or as much and ahead in the lot -/
def Ahead (f : α → Int) (lot : List α) (a b : α) : Prop := f b ≤ f a ∧ (f a = f b → lot.idxOf a ≤ lot.idxOf b)
end DR
end
section
/-! The order of names: more first, as much by the lot. -/
namespace DR
open PySem L2 DL
variable {S : Store}
def trK (f : Str → Int) (lot : List Str) (c : Str) : List Key := [.inl (-(f c)), .inl (lot.idxOf c : Nat), .inr c]
def ordL (f : Str → Int) (lot cs : List Str) : List Str := cs.mergeSort fun a b => leKs (trK f lot a) (trK f lot b)
theorem ord_perm (f : Str → Int) (lot cs : List Str) : (ordL f lot cs).Perm cs := List.mergeSort_perm _ _
theorem ord_sort (f : Str → Int) (lot cs : List Str) : sortKs (cs.map (trK f lot)) = (ordL f lot cs).map (trK f lot) := by
  unfold sortKs ordL
  exact (List.map_mergeSort (r := fun a b => leKs (trK f lot a) (trK f lot b)) (s := leKs) (f := trK f lot) (l := cs) (fun a _ b _ => rfl)).symm
theorem ahead_of {f : Str → Int} {lot : List Str} {a b : Str} (h : leKs (trK f lot a) (trK f lot b) = true) : Ahead f lot a b := by
  unfold leKs at h
  rw [Bool.not_eq_true'] at h
  unfold trK at h
  rw [ltKs_cons] at h
  by_cases e : f a = f b
  · refine ⟨by omega, fun _ => ?_⟩
    rw [if_pos (by rw [e]), ltKs_cons] at h
    by_cases e2 : lot.idxOf a = lot.idxOf b
    · omega
    · rw [if_neg (fun z => e2 (by have := Sum.inl.inj z; omega))] at h
      have : ¬ ((lot.idxOf b : Nat) : Int) < (lot.idxOf a : Nat) := of_decide_eq_false h
      omega
  · rw [if_neg (fun z => e (by have := Sum.inl.inj z; omega))] at h
    have : ¬ (-(f b) < -(f a)) := of_decide_eq_false h
    exact ⟨by omega, fun z => absurd z e⟩
theorem ord_pw (f : Str → Int) (lot cs : List Str) : (ordL f lot cs).Pairwise (Ahead f lot) :=
  (List.pairwise_mergeSort (le := fun a b => leKs (trK f lot a) (trK f lot b)) (fun a b c h1 h2 => leKs_tr _ _ _ h1 h2) (fun a b => leKs_tot _ _) cs).imp fun h => ahead_of h
theorem ord_len (f : Str → Int) (lot cs : List Str) : (ordL f lot cs).length = cs.length := (ord_perm f lot cs).length_eq
/-- the places in the lot -/
def plc (lot : List Str) : Kds := lot.zipIdx.map fun p => ((.inr p.1 : Key), D.int (p.2 : Nat))
theorem val_plc_aux {c : Str} : ∀ (lot : List Str) (n : Nat), lot.Nodup → c ∈ lot → valD ((lot.zipIdx n).map fun p => ((.inr p.1 : Key), D.int (p.2 : Nat))) (.inr c) = some (.int ((lot.idxOf c + n : Nat) : Int))
  | [], _, _, h => by simp at h
  | a :: lot, n, nd, h => by
    rw [List.nodup_cons] at nd
    unfold valD
    rw [List.zipIdx_cons, List.map_cons, List.find?_cons]
    by_cases e : a = c
    · subst e; simp
    · have : decide ((Sum.inr a : Key) = Sum.inr c) = false := decide_eq_false fun z => e (Sum.inr.inj z)
      rw [this]
      have ih := val_plc_aux lot (n + 1) nd.2 ((List.mem_cons.mp h).resolve_left (fun z => e z.symm))
      unfold valD at ih
      rw [List.idxOf_cons, cond_eq_if]
      have : (a == c) = false := by simpa using e
      rw [this]
      rw [show (if false = true then 0 else lot.idxOf c + 1) + n = lot.idxOf c + (n + 1) by simp; omega]
      exact ih
theorem val_plc {lot : List Str} {c : Str} (nd : lot.Nodup) (h : c ∈ lot) : valD (plc lot) (.inr c) = some (.int (lot.idxOf c : Nat)) := by
  have := val_plc_aux lot 0 nd h
  simpa [plc] using this
abbrev plcD (lot : List Str) : D := .dic ((plc lot).map (·.1)) ((plc lot).map (·.2))
theorem zipIdx_keys : ∀ (lot : List Str) (n : Nat), (lot.zipIdx n).map (fun p => (.inr p.1 : Key)) = lot.map fun c => (.inr c : Key)
  | [], _ => rfl
  | a :: l, n => by rw [List.zipIdx_cons, List.map_cons, zipIdx_keys l (n + 1)]; rfl
theorem ix_plc {lot : List Str} {c : Str} (nd : lot.Nodup) (h : c ∈ lot) : opIxX (plcD lot) (.str c) S = .ok (.int (lot.idxOf c : Nat)) S := by
  rw [opIxX_ds]
  have : ((plc lot).map (·.1)).zip ((plc lot).map (·.2)) = plc lot := by
    induction (plc lot) with
    | nil => rfl
    | cons p l ih => simp [ih]
  rw [this, val_plc nd h]
theorem ix_dicF {cs : List Str} {f : Str → Int} {c : Str} (h : c ∈ cs) : opIxX (dicF cs f) (.str c) S = .ok (.int (f c)) S := by
  rw [opIxX_ds, zip_kdf, val_kdf h]
theorem places_ok {lot : List Str} {env : EnvD} (nd : lot.Nodup) (hl : lot.length ≤ 1000) (he : env.length = 8) : dcD (bTup (bCons (bName 4) (bCons (bName 5) bNil))) eYes (eVar 5) (eVar 4) env [] (enumD 0 (lot.map .str)) S = some (plc lot, S) := by
  rw [enum_strs]
  refine dcD_new (fun p : Str × Nat => D.tup [.int (p.2 : Nat), .str p.1]) (fun p => .str p.1) (fun p => .inr p.1) (fun p => .int (p.2 : Nat)) lot.zipIdx (fun p _ => ?_) ?_ (by simpa using hl)
  · refine ⟨_, rfl, ?_, rfl, ?_⟩
    · exact eVar_at (by simp [he])
    · exact eVar_at (by rw [List.getElem?_set_ne (by decide), List.getElem?_set_self (by omega)])
  · rw [zipIdx_keys]; exact nd_inr nd
theorem tK_tr (f : Str → Int) (lot : List Str) (c : Str) : tK (trK f lot c) = .tup [.int (-(f c)), .int (lot.idxOf c : Nat), .str c] := rfl
theorem one_tr (f : Str → Int) (lot cs : List Str) : oneForm (cs.map (trK f lot)) = true := by
  cases cs with
  | nil => rfl
  | cons c cs =>
    show (!(trK f lot c).isEmpty && (cs.map (trK f lot)).all fun l => l.map isS == (trK f lot c).map isS) = true
    simp [trK, isS]
end DR
end
section
/-! Counting names; things that are like themselves. -/
namespace DR
open PySem L2 DL
variable {S : Store}
structure Sm (k : Nat) (p : PyData) : Prop where
  shp : Shp k p
  refl : PyData.eqv p p = true
theorem Sm.int {k : Nat} (i : Int) : Sm k (.int i) := ⟨.int i, by show (i == i) = true; simp⟩
theorem Sm.none {k : Nat} : Sm k .none := ⟨.none, rfl⟩
theorem Sm.str {k : Nat} {x : Str} (h : PyData.strOk x = true) : Sm k (.str x) := ⟨.str h, by show (x == x) = true; simp⟩
theorem Sm.all {k : Nat} : ∀ {ps : List PyData}, (∀ p ∈ ps, Sm k p) → PyData.eqvAll ps ps = true
  | [], _ => rfl
  | p :: ps, h => by
    show (PyData.eqv p p && PyData.eqvAll ps ps) = true
    rw [(h p List.mem_cons_self).refl, Sm.all fun q hq => h q (List.mem_cons_of_mem _ hq)]; rfl
theorem Sm.list {k : Nat} {ps : List PyData} (h : ∀ p ∈ ps, Sm k p) : Sm (k + 1) (.list ps) := ⟨.list fun p hp => (h p hp).shp, Sm.all h⟩
theorem Sm.tuple {k : Nat} {ps : List PyData} (h : ∀ p ∈ ps, Sm k p) : Sm (k + 1) (.tuple ps) := ⟨.tuple fun p hp => (h p hp).shp, Sm.all h⟩
/-! counting -/
def bump (f : Str → Int) (c : Str) : Str → Int := fun a => if a = c then f c + 1 else f a
def part (rank : Bool) (l : List Str) : List Str := if rank then l.take 1 else l
def tally (rank : Bool) (ls : List (List Str)) : Str → Int := ls.foldl (fun f l => (part rank l).foldl bump f) fun _ => 0
theorem part_sub {rank : Bool} {l : List Str} : ∀ c ∈ part rank l, c ∈ l := fun c hc => by
  unfold part at hc
  split at hc
  · exact List.mem_of_mem_take hc
  · exact hc
theorem put_bump {cs : List Str} {f : Str → Int} {c : Str} (h : c ∈ cs) : putD (kdf cs f) (.inr c) (.int (f c + 1)) = kdf cs (bump f c) := put_kdf h
/-- d[c] += 1 -/
theorem aug_cell {cs : List Str} {f : Str → Int} {c : Str} {l : Nat} {o i : EM} {env : EnvD} (ho : o env S = .ok (.loc l) S) (hi : i env S = .ok (.str c) S) (hl : S[l]? = some (.dic (kdf cs f))) (h : c ∈ cs) (hc : cs.length ≤ 1000) :
    sAugX (· + ·) o i (eC (.int 1)) env S = .nx env (S.set l (.dic (kdf cs (bump f c)))) := by
  unfold sAugX
  rw [ho]
  simp only [ER.bindS_ok]
  rw [hi]
  simp only [ER.bindS_ok, keyD]
  rw [hl]
  dsimp only
  rw [val_kdf h]
  dsimp only [eC, ER.bindS]
  rw [hl]
  dsimp only
  rw [if_pos (sz_is (by rw [kdf_len]; omega)), put_bump h]
def mkPy (one : Bool) : Mk → PyData
  | .no => .none
  | .odd => .str "?"
  | .good l => if one then .str (l.headD "") else .tuple (l.map .str)
theorem py_mk (one : Bool) (mk : Mk) : D.py S (mkD one mk) = some (mkPy one mk) := by
  cases mk with
  | no => rfl
  | odd => rfl
  | good l =>
    unfold mkD mkPy
    cases one with
    | true => rfl
    | false => simp [D.py, pys_strs]
theorem sm_mk {one : Bool} {cs : List Str} {mk : Mk} (good : ∀ n ∈ cs, goodN n = true) (ok : MkOk one cs mk) : Sm 1 (mkPy one mk) := by
  cases mk with
  | no => exact .none
  | odd => exact .str qok
  | good l =>
    obtain ⟨h1, h2, h3, h4⟩ := ok.ok l rfl
    have so : ∀ n ∈ l, PyData.strOk n = true := fun n hn => goodN_ok (good n (h3 n hn))
    unfold mkPy
    cases one with
    | true =>
      obtain ⟨s, rfl⟩ := List.length_eq_one_iff.mp (h4 rfl)
      exact .str (so s (by simp))
    | false =>
      refine Sm.tuple (k := 0) fun p hp => ?_
      obtain ⟨s, hs, rfl⟩ := List.mem_map.mp hp
      exact .str (so s hs)
end DR
end
section
/-! Marks of one and any: names in the order of choices; all parts of a row of names. -/
namespace DR
open PySem L2 DL
variable {S : Store}
/-! all parts -/
def subStep (acc : List (List Str)) (c : Str) : List (List Str) := acc ++ acc.map (· ++ [c])
def subsL (cs : List Str) : List (List Str) := cs.foldl subStep [[]]
structure SubsOk (cs : List Str) : Prop where
  hd : ∃ T, subsL cs = [] :: T ∧ ∀ l ∈ T, l ≠ []
  len : (subsL cs).length = 2 ^ cs.length
  mem : ∀ l, l ∈ subsL cs ↔ l.Sublist cs
/-! marks beside one another -/
instance : DecidableEq Mk := fun a b => match a, b with
  | .no, .no => isTrue rfl
  | .odd, .odd => isTrue rfl
  | .good l, .good m => if h : l = m then isTrue (by rw [h]) else isFalse fun z => h (by cases z; rfl)
  | .no, .odd => isFalse fun z => by cases z
  | .no, .good _ => isFalse fun z => by cases z
  | .odd, .no => isFalse fun z => by cases z
  | .odd, .good _ => isFalse fun z => by cases z
  | .good _, .no => isFalse fun z => by cases z
  | .good _, .odd => isFalse fun z => by cases z
theorem mkPy_inj {one : Bool} {cs : List Str} {a b : Mk} (good : ∀ n ∈ cs, goodN n = true) (oa : MkOk one cs a) (ob : MkOk one cs b) : PyData.eqv (mkPy one a) (mkPy one b) = decide (a = b) := by
  have nq := odd_notin good
  have head : ∀ l, MkOk one cs (.good l) → one = true → ∃ s, l = [s] ∧ s ≠ "?" := fun l ok h => by
    obtain ⟨_, _, h3, h4⟩ := ok.ok l rfl
    obtain ⟨s, rfl⟩ := List.length_eq_one_iff.mp (h4 h)
    exact ⟨s, rfl, fun z => nq (by rw [← z]; exact h3 s (by simp))⟩
  cases a with
  | no =>
    cases b with
    | no => rfl
    | odd => rfl
    | good l => unfold mkPy; cases one <;> rfl
  | odd =>
    cases b with
    | no => rfl
    | odd => show (("?" : Str) == "?") = _; simp
    | good l =>
      unfold mkPy
      cases one with
      | true =>
        obtain ⟨s, rfl, hs⟩ := head l ob rfl
        show (("?" : Str) == s) = _
        have : ¬ ("?" : Str) = s := fun z => hs z.symm
        simp [this]
      | false => rfl
  | good l =>
    cases b with
    | no => unfold mkPy; cases one <;> rfl
    | odd =>
      unfold mkPy
      cases one with
      | true =>
        obtain ⟨s, rfl, hs⟩ := head l oa rfl
        show (s == ("?" : Str)) = _
        simp [hs]
      | false => rfl
    | good m =>
      unfold mkPy
      cases one with
      | true =>
        obtain ⟨s, rfl, hs⟩ := head l oa rfl
        obtain ⟨u, rfl, hu⟩ := head m ob rfl
        show (s == u) = _
        by_cases e : s = u <;> simp [e]
      | false =>
        show PyData.eqvAll (l.map .str) (m.map .str) = _
        rw [eqv_strs]
        by_cases e : l = m <;> simp [e]
theorem mk_ne {one : Bool} {cs : List Str} {a b : Mk} (good : ∀ n ∈ cs, goodN n = true) (oa : MkOk one cs a) (ob : MkOk one cs b) : opNe (mkD one a) (mkD one b) S = .ok (.bl (!decide (a = b))) S := by
  by_cases h : ∃ s u, mkD one a = .str s ∧ mkD one b = .str u
  · obtain ⟨s, u, e1, e2⟩ := h
    have p1 : mkPy one a = .str s := by
      have := py_mk (S := S) one a
      rw [e1] at this
      exact (Option.some.inj this).symm
    have p2 : mkPy one b = .str u := by
      have := py_mk (S := S) one b
      rw [e2] at this
      exact (Option.some.inj this).symm
    have q := mkPy_inj good oa ob
    rw [p1, p2] at q
    have q' : decide (s = u) = decide (a = b) := by
      rw [← q]
      show decide (s = u) = (s == u)
      by_cases e : s = u <;> simp [e]
    rw [e1, e2]
    show ER.ok (.bl (!decide (s = u))) S = _
    rw [q']
  · have po : ∀ mk : Mk, D.pyO S (mkD one mk) = some (mkPy one mk) := fun mk => by
      have p := py_mk (S := S) one mk
      cases mk with
      | no => exact p
      | odd => exact p
      | good l => unfold mkD mkPy at *; cases one with
        | true => exact p
        | false => simpa [D.pyO] using p
    have := opEqB_of (S := S) (neg := true) (po a) (po b) ((sm_mk good oa).shp.shaped (by decide)) ((sm_mk good ob).shp.shaped (by decide)) (fun s u e1 e2 => h ⟨s, u, e1, e2⟩)
    rw [mkPy_inj good oa ob] at this
    exact this
end DR
end
section
/-! Margins: the fewest marks that change who is on top. No program. -/
namespace DR
section
variable {α β : Type} [DecidableEq α] [DecidableEq β]
theorem ahead_anti {F : α → Int} {lot : List α} {a b : α} (ha : a ∈ lot) (hb : b ∈ lot) (h1 : Ahead F lot a b) (h2 : Ahead F lot b a) : a = b := by
  obtain ⟨p1, p2⟩ := h1
  obtain ⟨q1, q2⟩ := h2
  have e : F a = F b := by omega
  have i := p2 e
  have j := q2 e.symm
  have ij : lot.idxOf a = lot.idxOf b := by omega
  have gg : ∀ x ∈ lot, lot[lot.idxOf x]? = some x := fun x hx => by rw [List.getElem?_eq_getElem (List.idxOf_lt_length_of_mem hx)]; simp
  have x1 := gg a ha
  have x2 := gg b hb
  rw [ij, x2] at x1
  exact (Option.some.inj x1).symm
theorem cut_ahead {F : α → Int} {lot L : List α} {n : Nat} (pw : L.Pairwise (Ahead F lot)) {w l : α} (hw : w ∈ L.take n) (hl : l ∈ L.drop n) : Ahead F lot w l := by
  rw [← List.take_append_drop n L, List.pairwise_append] at pw
  exact pw.2.2 w hw l hl
theorem sub_lenR : ∀ {l m : List α}, l.Nodup → (∀ a ∈ l, a ∈ m) → l.length ≤ m.length
  | [], _, _, _ => Nat.zero_le _
  | a :: l, m, nd, h => by
    rw [List.nodup_cons] at nd
    have ha := h a List.mem_cons_self
    have := sub_lenR (l := l) (m := m.erase a) nd.2 fun b hb => (List.mem_erase_of_ne (fun z => nd.1 (by rw [← z]; exact hb))).mpr (h b (List.mem_cons_of_mem _ hb))
    rw [List.length_erase_of_mem ha] at this
    have := List.length_pos_of_mem ha
    rw [List.length_cons]; omega
/-- as many, but not the same: one went, one came -/
theorem went_came {A B : List α} (na : A.Nodup) (nb : B.Nodup) (hl : A.length = B.length) (h : ¬ A.Perm B) : (∃ w ∈ A, w ∉ B) ∧ ∃ l ∈ B, l ∉ A := by
  have sub : ∀ {X Y : List α}, X.Nodup → Y.Nodup → X.length = Y.length → (∀ x ∈ X, x ∈ Y) → X.Perm Y := fun {X Y} nx ny hl hs => by
    refine (List.perm_ext_iff_of_nodup nx ny).mpr fun a => ⟨hs a, fun ha => ?_⟩
    refine Classical.byContradiction fun q => ?_
    have := sub_lenR (l := X) (m := Y.erase a) nx fun b hb => (List.mem_erase_of_ne (fun z => q (by rw [← z]; exact hb))).mpr (hs b hb)
    rw [List.length_erase_of_mem ha] at this
    have := List.length_pos_of_mem ha
    omega
  constructor
  · rcases Classical.em (∃ w ∈ A, w ∉ B) with z | z
    · exact z
    · exact absurd (sub na nb hl fun x hx => Classical.byContradiction fun q => z ⟨x, hx, q⟩) h
  · rcases Classical.em (∃ l ∈ B, l ∉ A) with z | z
    · exact z
    · exact absurd (sub nb na hl.symm fun x hx => Classical.byContradiction fun q => z ⟨x, hx, q⟩).symm h
variable (has : α → β → Bool)
def cntB (ms : List β) (c : α) : Int := (ms.countP (has c) : Nat)
def gB (w l : α) (b : β) : Int := (if has l b then 1 else 0) - (if has w b then 1 else 0)
def onesB (w l : α) (b : β) : Bool := has w b && !has l b
def othB (w l : α) (b : β) : Bool := has l b && !has w b
def neuB (w l : α) (b : β) : Bool := !(onesB has w l b) && !(othB has w l b)
def sumB (w l : α) (ms : List β) : Int := (ms.map (gB has w l)).sum
theorem sumB_is (w l : α) : ∀ ms : List β, sumB has w l ms = cntB has ms l - cntB has ms w
  | [] => rfl
  | b :: ms => by
    have ih := sumB_is w l ms
    unfold sumB cntB at ih ⊢
    rw [List.map_cons, List.sum_cons, ih, List.countP_cons, List.countP_cons]
    unfold gB
    cases has l b <;> cases has w b <;> simp <;> omega
def dif (r ms : List β) : Nat := ((r.zip ms).filter fun p => decide (p.1 ≠ p.2)).length
theorem kinds_len (w l : α) : ∀ ms : List β, ms.countP (onesB has w l) + ms.countP (othB has w l) + ms.countP (neuB has w l) = ms.length
  | [] => rfl
  | b :: ms => by
    have ih := kinds_len w l ms
    simp only [List.countP_cons, List.length_cons]
    unfold neuB onesB othB at ih ⊢
    cases has l b <;> cases has w b <;> simp <;> simp at ih <;> omega
theorem lower (w l : α) : ∀ (r ms : List β), r.length = ms.length → ∃ a b : Nat, a ≤ ms.countP (onesB has w l) ∧ b ≤ ms.countP (neuB has w l) ∧ sumB has w l r - sumB has w l ms ≤ 2 * a + b ∧ a + b ≤ dif r ms
  | [], [], _ => ⟨0, 0, by simp, by simp, by simp [sumB], by simp⟩
  | [], _ :: _, h => by simp at h
  | _ :: _, [], h => by simp at h
  | x :: r, y :: ms, h => by
    obtain ⟨a, b, h1, h2, h3, h4⟩ := lower w l r ms (by simpa using h)
    have s1 : sumB has w l (x :: r) = gB has w l x + sumB has w l r := by unfold sumB; simp
    have s2 : sumB has w l (y :: ms) = gB has w l y + sumB has w l ms := by unfold sumB; simp
    have gx : gB has w l x ≤ 1 := by unfold gB; cases has l x <;> cases has w x <;> simp
    by_cases e : x = y
    · subst e
      refine ⟨a, b, by rw [List.countP_cons]; omega, by rw [List.countP_cons]; omega, by rw [s1, s2]; omega, ?_⟩
      have : dif (x :: r) (x :: ms) = dif r ms := by unfold dif; simp
      omega
    · have dd : dif (x :: r) (y :: ms) = dif r ms + 1 := by unfold dif; simp [e]
      rw [s1, s2, dd, List.countP_cons, List.countP_cons]
      by_cases h5 : onesB has w l y = true
      · have gy : gB has w l y = -1 := by
          unfold onesB at h5; unfold gB
          cases q1 : has l y <;> cases q2 : has w y <;> simp [q1, q2] at h5 ⊢
        exact ⟨a + 1, b, by rw [if_pos h5]; omega, by omega, by omega, by omega⟩
      · by_cases h6 : neuB has w l y = true
        · have gy : gB has w l y = 0 := by
            unfold neuB onesB othB at h6; unfold gB
            cases q1 : has l y <;> cases q2 : has w y <;> simp [q1, q2] at h6 ⊢
          exact ⟨a, b + 1, by omega, by rw [if_pos h6]; omega, by omega, by omega⟩
        · have gy : gB has w l y = 1 := by
            unfold neuB onesB othB at h6; unfold onesB at h5; unfold gB
            cases q1 : has l y <;> cases q2 : has w y <;> simp [q1, q2] at h5 h6 ⊢
          exact ⟨a, b, by omega, by omega, by omega, by omega⟩
theorem dif_cons_le (x y : β) (r ms : List β) : dif (x :: r) (y :: ms) ≤ dif r ms + 1 := by
  unfold dif
  by_cases e : x = y
  · simp [e]
  · simp [e]
theorem dif_same (x : β) (r ms : List β) : dif (x :: r) (x :: ms) = dif r ms := by unfold dif; simp
/-- the fewest to turn, so that a loser is ahead by so much -/
def twB (o a : Nat) : Nat := min o ((a + 1) / 2)
def lfB (o a : Nat) : Nat := a - 2 * twB o a
def trn (o rest a : Nat) : Option Nat := if lfB o a ≤ rest then some (twB o a + lfB o a) else none
def askB (F : α → Int) (lot : List α) (w l : α) : Int := F w - F l + if lot.idxOf w < lot.idxOf l then 1 else 0
theorem trn_low {o rest a x y : Nat} (h1 : x ≤ o) (h2 : y ≤ rest) (h3 : a ≤ 2 * x + y) : ∃ k, trn o rest a = some k ∧ k ≤ x + y := by
  unfold trn lfB twB
  refine ⟨_, if_pos ?_, ?_⟩ <;> omega
theorem trn_up {o rest a k : Nat} (h : trn o rest a = some k) : twB o a ≤ o ∧ lfB o a ≤ rest ∧ a ≤ 2 * twB o a + lfB o a ∧ k = twB o a + lfB o a := by
  unfold trn at h
  split at h
  · cases h
    refine ⟨Nat.min_le_left _ _, by assumption, ?_, rfl⟩
    unfold lfB; omega
  · cases h
theorem ask_pos {F : α → Int} {lot : List α} {w l : α} (hw : w ∈ lot) (hl : l ∈ lot) (ne : w ≠ l) (h : Ahead F lot w l) : 1 ≤ askB F lot w l := by
  obtain ⟨h1, h2⟩ := h
  unfold askB
  split
  · omega
  · rename_i q
    by_cases e : F w = F l
    · have := h2 e
      have ij : lot.idxOf w = lot.idxOf l := by omega
      have gg : ∀ x ∈ lot, lot[lot.idxOf x]? = some x := fun x hx => by rw [List.getElem?_eq_getElem (List.idxOf_lt_length_of_mem hx)]; simp
      have x1 := gg w hw
      have x2 := gg l hl
      rw [ij, x2] at x1
      exact absurd (Option.some.inj x1).symm ne
    · omega
theorem ahead_ask {F F' : α → Int} {lot : List α} {w l : α} (h : Ahead F' lot l w) : askB F lot w l ≤ (F' l - F' w) - (F l - F w) := by
  obtain ⟨h1, h2⟩ := h
  unfold askB
  split
  · rename_i q
    by_cases e : F' l = F' w
    · have := h2 e; omega
    · omega
  · omega
theorem ask_ahead {F F' : α → Int} {lot : List α} {w l : α} (h : askB F lot w l ≤ (F' l - F' w) - (F l - F w)) : Ahead F' lot l w := by
  unfold askB at h
  split at h
  · exact ⟨by omega, fun e => by omega⟩
  · exact ⟨by omega, fun e => by omega⟩
/-- an order of cs, the best first -/
structure Ord (F : α → Int) (lot cs L : List α) : Prop where
  perm : L.Perm cs
  pw : L.Pairwise (Ahead F lot)
variable {lot cs L : List α} {n : Nat} {ms : List β}
theorem low_row (nd : cs.Nodup) (hlot : ∀ c ∈ cs, c ∈ lot) (hn : n ≤ cs.length) (o : Ord (cntB has ms) lot cs L) {r : List β} {L' : List α} (hr : r.length = ms.length) (o' : Ord (cntB has r) lot cs L') (ne : ¬ (L.take n).Perm (L'.take n)) :
    ∃ w ∈ L.take n, ∃ l ∈ L.drop n, ∃ k, trn (ms.countP (onesB has w l)) (ms.countP (neuB has w l)) (askB (cntB has ms) lot w l).toNat = some k ∧ k ≤ dif r ms := by
  have n1 : L.Nodup := o.perm.nodup_iff.mpr nd
  have n2 : L'.Nodup := o'.perm.nodup_iff.mpr nd
  have l1 := o.perm.length_eq
  have l2 := o'.perm.length_eq
  obtain ⟨⟨w, hw, hw'⟩, ⟨l, hl, hl'⟩⟩ := went_came (n1.sublist (List.take_sublist n L)) (n2.sublist (List.take_sublist n L')) (by rw [List.length_take, List.length_take]; omega) ne
  have inL : ∀ c, c ∈ cs → c ∉ L.take n → c ∈ L.drop n := fun c hc h => by
    have := o.perm.mem_iff.mpr hc
    rw [← List.take_append_drop n L] at this
    exact (List.mem_append.mp this).resolve_left h
  have inL' : ∀ c, c ∈ cs → c ∉ L'.take n → c ∈ L'.drop n := fun c hc h => by
    have := o'.perm.mem_iff.mpr hc
    rw [← List.take_append_drop n L'] at this
    exact (List.mem_append.mp this).resolve_left h
  have lc : l ∈ cs := o'.perm.mem_iff.mp (List.mem_of_mem_take hl)
  have wc : w ∈ cs := o.perm.mem_iff.mp (List.mem_of_mem_take hw)
  have ah := cut_ahead o'.pw hl (inL' w wc hw')
  have ak := ahead_ask (F := cntB has ms) ah
  obtain ⟨a, b, h1, h2, h3, h4⟩ := lower has w l r ms hr
  rw [sumB_is, sumB_is] at h3
  obtain ⟨k, e, hk⟩ := trn_low (a := (askB (cntB has ms) lot w l).toNat) h1 h2 (by omega)
  exact ⟨w, hw, l, inL l lc hl', k, e, by omega⟩
end
end DR
end
section
namespace DR.K47
open PySem L2 DL DR
variable {S : Store} {nm kd : Str} {cs : List Str} {seats : Int} {way : Str}
theorem cut1 (l : List Str) : cutD (l.map D.str) none (some 1) = (l.take 1).map .str := by
  have := cut_hi (l.map D.str) 1
  rw [show ((1 : Nat) : Int) = 1 from rfl] at this
  rw [this, List.map_take]
/-- the names of a mark that count -/
theorem walked {env : EnvD} {i : Nat} {f : EM} {l : List Str} (hk : f env S = .ok (.str kd) S) (hv : eVar i env S = .ok (tupS l) S) :
    iSeq (eIf (eOp opEq f (eC (.str "rank"))) (eSlice (eVar i) oNone (oSome (eC (.int 1)))) (eVar i)) env S = .ok ((part (decide (kd = "rank")) l).map .str) S := by
  have os : oSome (eC (.int 1)) env S = .ok (some 1) S := rfl
  have on : oNone env S = .ok none S := rfl
  rw [iSeq_is, eIf_is, eOp_is, hk]
  simp only [ER.bind_ok, eC_is, opEq_ss]
  by_cases h : kd = "rank"
  · simp only [decide_eq_true h, eSlice_is, hv, ER.bind_ok, on, os, OR.bindE_ok, slD_t, ER.bindL_ok, cut1, part, if_true]
  · simp only [decide_eq_false h, hv, ER.bindL_ok, part]
    rfl
theorem totals_ok (t : Told nm kd cs seats way) {mks : List Mk} (ok : ∀ mk ∈ mks, MkOk (decide (kd = "one")) cs mk) (hl : mks.length ≤ 1000) {d : D} (hd : d = .lst (mks.map (mkD (decide (kd = "one")))) ∨ d = .tup (mks.map (mkD (decide (kd = "one"))))) :
    d_totals [raceD nm kd cs seats way, d] S = .ok (.loc S.length) (S ++ [.dic (kdf cs (tally (decide (kd = "rank")) (goodsOf mks)))]) := by
  have hc : cs.length ≤ 1000 := by have := t.l5; omega
  have dc := dcD_new (S := S) (b := bName 4) (ek := eVar 4) (ev := g_totals_e1) (env := [some (raceD nm kd cs seats way), some d, none, none, none]) D.str D.str (fun c => .inr c) (fun _ => .int 0) cs (fun c _ => ⟨_, rfl, by simp, rfl, by simp [g_totals_e1]⟩) (nd_inr t.nd) hc
  have gm := goodMarks_ok (S := S ++ [.dic (kdf cs fun _ => 0)]) t ok (by omega) hd
  obtain ⟨e', S', h1, k1, k2, e1, e2⟩ := forD_foldS (b := bName 3) (body := g_totals_b2) tupS (fun f l => (part (decide (kd = "rank")) l).foldl bump f)
    (fun F e S' => ∃ k1 k2, e = [some (raceD nm kd cs seats way), some d, some (.loc S.length), k1, k2] ∧ S' = S ++ [.dic (kdf cs F)]) (goodsOf mks) (fun _ => 0) [some (raceD nm kd cs seats way), some d, some (.loc S.length), none, none] (S ++ [.dic (kdf cs fun _ => 0)]) ⟨none, none, rfl, rfl⟩ (by
      rintro l hlm F e S' ⟨k1, k2, rfl, rfl⟩
      obtain ⟨q1, q2, q3, q4⟩ := (goods_mem ok l hlm).ok l rfl
      obtain ⟨e', S', h1, k3, e1, e2⟩ := forD_foldS (b := bName 4) (body := g_totals_b1) D.str bump
        (fun F e S' => ∃ k2, e = [some (raceD nm kd cs seats way), some d, some (.loc S.length), some (tupS l), k2] ∧ S' = S ++ [.dic (kdf cs F)]) (part (decide (kd = "rank")) l) F [some (raceD nm kd cs seats way), some d, some (.loc S.length), some (tupS l), k2] (S ++ [.dic (kdf cs F)]) ⟨k2, rfl, rfl⟩ (by
          rintro c hcm F e S' ⟨k2, rfl, rfl⟩
          have hcs : c ∈ cs := q3 c (part_sub c hcm)
          refine ⟨[some (raceD nm kd cs seats way), some d, some (.loc S.length), some (tupS l), some (.str c)], [some (raceD nm kd cs seats way), some d, some (.loc S.length), some (tupS l), some (.str c)], S ++ [.dic (kdf cs (bump F c))], rfl, ?_, some (.str c), rfl, rfl⟩
          have := aug_cell (f := F) (c := c) (cs := cs) (S := S ++ [.dic (kdf cs F)]) (o := eVar 2) (i := eVar 4) (l := S.length) (env := [some (raceD nm kd cs seats way), some d, some (.loc S.length), some (tupS l), some (.str c)]) (by simp) (by simp) (by simp) hcs hc
          rw [show g_totals_b1 = sAugX (· + ·) (eVar 2) (eVar 4) (eC (.int 1)) from rfl, this]
          simp)
      refine ⟨[some (raceD nm kd cs seats way), some d, some (.loc S.length), some (tupS l), k2], e', S', rfl, ?_, ?_⟩
      · have w := walked (S := S ++ [.dic (kdf cs F)]) (kd := kd) (l := l) (i := 3) (f := eFldC ["Race"] "kind" (eVar 0)) (env := [some (raceD nm kd cs seats way), some d, some (.loc S.length), some (tupS l), k2]) (kind_ok (nm := nm) (kd := kd) (cs := cs) (seats := seats) (way := way) (by simp)) (by simp)
        show sFor _ (bName 4) g_totals_b1 _ _ = _
        rw [sFor_is, w]
        exact h1
      · exact ⟨_, k3, e1, e2⟩)
  subst e1 e2
  simp only [d_totals, g_totals, fnF]
  have dc' : dcD (bName 4) eYes (eVar 4) g_totals_e1 [some (raceD nm kd cs seats way), some d, none, none, none] [] (cs.map .str) S = some (kdf cs fun _ => 0, S) := dc
  simp [dc', gm, h1, startD]
  rfl
end DR.K47
end
section
namespace DR.K47
open PySem L2 DL DR
variable {S : Store} {nm kd : Str} {cs : List Str} {seats : Int} {way : Str}
theorem bel_strs {n : Nat} : ∀ l : List Str, belDs n (l.map .str) = true
  | [] => rfl
  | a :: l => by show (true && belDs n (l.map .str)) = true; rw [bel_strs l]; rfl
theorem bel_kdf {n : Nat} {f : Str → Int} : ∀ l : List Str, belDs n (l.map fun c => D.int (f c)) = true
  | [] => rfl
  | a :: l => by show (true && belDs n (l.map fun c => D.int (f c))) = true; rw [bel_kdf l]; rfl
theorem bel_plc {n : Nat} (lot : List Str) : belDs n ((plc lot).map (·.2)) = true := by
  unfold plc
  rw [List.map_map]
  generalize lot.zipIdx = l
  induction l with
  | nil => rfl
  | cons a l ih => show (true && belDs n (l.map _)) = true; rw [ih]; rfl
theorem noD_tK {f : Str → Int} {lot : List Str} : ∀ l : List Str, noDs (l.map fun c => tK (trK f lot c)) = true
  | [] => rfl
  | a :: l => by show (true && noDs (l.map fun c => tK (trK f lot c))) = true; rw [noD_tK l]; rfl
/-- a store whose cells hold no dicts and nothing beyond -/
structure Cln (S : Store) : Prop where
  bel : S.all (Cell.bel S.length) = true
  noD : S.all Cell.noD = true
theorem bestFirst_cell {lot : List Str} {f : Str → Int} (hS : Cln S) (nd : lot.Nodup) (hs : ∀ c ∈ cs, c ∈ lot) (hn : cs ≠ []) (hl : lot.length ≤ 1000) (hc : cs.length ≤ 1000) :
    d_best_first [.loc S.length, tupS lot] (S ++ [.dic (kdf cs f)]) = .ok (.lst ((ordL f lot cs).map .str)) (S ++ [.dic (kdf cs f)]) := by
  have l1 := lcD_ma (S := S) (b := bName 5) (elt := g_best_first_e1) (env := [some (dicF cs f), some (tupS lot), some (plcD lot), none, none, none, none, none]) D.str (fun c => tK (trK f lot c)) cs (fun c hc => by
    refine ⟨_, rfl, ?_⟩
    have e1 := ix_dicF (S := S) (f := f) hc
    have e2 := ix_plc (S := S) nd (hs c hc)
    simp [g_best_first_e1, e1, e2, tK_tr, -opIxX_ds]) (by omega)
  have so := bSortedZ_l (S := S ++ [.dic (kdf cs f)]) (one_tr f lot cs) (by simpa using hn)
  rw [ord_sort, List.map_map, List.map_map] at so
  have l2 := lcD_ma (S := S ++ [.dic (kdf cs f)]) (b := bTup (bCons (bName 6) (bCons (bName 7) (bCons (bName 5) bNil)))) (elt := eVar 5) (env := [some (.loc S.length), some (tupS lot), some (plcD lot), some (.lst ((ordL f lot cs).map (tK ∘ trK f lot))), none, none, none, none]) (tK ∘ trK f lot) D.str (ordL f lot cs) (fun c hc => ⟨_, rfl, by simp [dKey]⟩) (by rw [ord_len]; omega)
  have so' : bSortedZ [.lst (cs.map fun c => tK (trK f lot c))] (S ++ [.dic (kdf cs f)]) = .ok (.lst ((ordL f lot cs).map (tK ∘ trK f lot))) (S ++ [.dic (kdf cs f)]) := so
  have pl := places_ok (S := S ++ [.dic (kdf cs f)]) (env := [some (.loc S.length), some (tupS lot), none, none, none, none, none, none]) nd hl rfl
  have ka : (cs.map fun c => (.inr c : Key)).map dKey = cs.map D.str := by simp [dKey]
  have vw : eView 0 (eLc (iAny (eVar 0)) (bName 5) eYes g_best_first_e1 [5]) [some (.loc S.length), some (tupS lot), some (plcD lot), none, none, none, none, none] (S ++ [.dic (kdf cs f)]) = .ok (.lst (cs.map fun c => tK (trK f lot c))) (S ++ [.dic (kdf cs f)]) := by
    have g0 : (S ++ [Cell.dic (kdf cs f)])[S.length]? = some (.dic (kdf cs f)) := by simp
    have tk : (S ++ [Cell.dic (kdf cs f)]).take S.length = S := by simp
    have b1 : belDs S.length ((kdf cs f).map (·.2)) = true := by rw [unzip_kdf2]; exact bel_kdf cs
    have ev : ([some (D.loc S.length), some (tupS lot), some (plcD lot), none, none, none, none, none] : EnvD).map (viewD S.length (.dic ((kdf cs f).map (·.1)) ((kdf cs f).map (·.2)))) = [some (dicF cs f), some (tupS lot), some (plcD lot), none, none, none, none, none] := by
      have v1 : belD S.length (tupS lot) = true := bel_strs lot
      have v2 : belD S.length (plcD lot) = true := bel_plc lot
      simp [viewD, v1, v2, unzip_kdf1, unzip_kdf2]
    unfold eView
    simp only [List.getElem?_cons_zero]
    rw [g0]
    dsimp only
    rw [if_pos ⟨by simp, by rw [tk]; exact hS.bel, b1⟩, tk, ev]
    have r : eLc (iAny (eVar 0)) (bName 5) eYes g_best_first_e1 [5] [some (dicF cs f), some (tupS lot), some (plcD lot), none, none, none, none, none] S = .ok (.lst (cs.map fun c => tK (trK f lot c))) S := by
      simp [ka, l1, -List.map_map]
    rw [r]
    dsimp only
    rw [if_pos ⟨rfl, noD_tK cs, hS.noD⟩]
  have ex : exitD .pure (S ++ [.dic (kdf cs f)]) (.lst ((ordL f lot cs).map .str)) (S ++ [.dic (kdf cs f)]) = .ok (.lst ((ordL f lot cs).map .str)) (S ++ [.dic (kdf cs f)]) := exit_same (by simp [frzD, frz_strs])
  simp only [d_best_first, g_best_first, fnF]
  simp [startD, pl, vw, so', l2, ex, -List.map_map]
end DR.K47
end
section
/-! Margins: what the program tells. -/
namespace DR.K47
open PySem L2 DL DR
variable {S : Store} {nm kd : Str} {cs : List Str} {seats : Int} {way : Str}
def hasM (c : Str) : Mk → Bool
  | .good l => decide (c ∈ l)
  | _ => false
theorem bump_count (c : Str) : ∀ (l : List Str) (f : Str → Int), (l.foldl bump f) c = f c + (l.count c : Nat)
  | [], f => by simp
  | a :: l, f => by
    rw [List.foldl_cons, bump_count c l, List.count_cons]
    unfold bump
    by_cases e : a = c
    · subst e; simp; omega
    · have : ¬ c = a := fun z => e z.symm
      simp [e, this]
theorem count_nd {c : Str} {l : List Str} (nd : l.Nodup) : l.count c = if c ∈ l then 1 else 0 := nd.count
theorem notIn_strs {s : Str} {ns : List Str} : opNotIn (.str s) (.tup (ns.map .str)) S = .ok (.bl (!decide (s ∈ ns))) S := by
  rw [opNotIn_tt, flat_strs, any_strs]; simp
theorem tally_cnt (c : Str) : ∀ (mks : List Mk) (f : Str → Int), (∀ l ∈ goodsOf mks, l.Nodup) → ((goodsOf mks).foldl (fun f l => (part false l).foldl bump f) f) c = f c + (mks.countP (hasM c) : Nat)
  | [], f, _ => by simp [goodsOf]
  | .no :: mks, f, h => by
    have ih := tally_cnt c mks f h
    have e : hasM c .no = false := rfl
    rw [List.countP_cons, e]
    exact ih
  | .odd :: mks, f, h => by
    have ih := tally_cnt c mks f h
    have e : hasM c .odd = false := rfl
    rw [List.countP_cons, e]
    exact ih
  | .good l :: mks, f, h => by
    have h2 : ∀ l' ∈ goodsOf mks, l'.Nodup := fun l' hl => h l' (List.mem_cons_of_mem _ hl)
    have nl : l.Nodup := h l List.mem_cons_self
    have ih := tally_cnt c mks ((part false l).foldl bump f) h2
    show ((goodsOf mks).foldl (fun f l => (part false l).foldl bump f) ((part false l).foldl bump f)) c = _
    rw [ih]
    have e : part false l = l := rfl
    rw [e, bump_count, count_nd nl, List.countP_cons]
    have q : hasM c (.good l) = decide (c ∈ l) := rfl
    rw [q]
    by_cases hc : c ∈ l
    · simp [hc]; omega
    · simp [hc]
theorem tally_is {mks : List Mk} (h : ∀ l ∈ goodsOf mks, l.Nodup) : tally false (goodsOf mks) = cntB hasM mks := by
  funext c
  have := tally_cnt c mks (fun _ => 0) h
  unfold tally cntB
  rw [this]; omega
theorem goods_count (p : List Str → Bool) (q : Mk → Bool) (h1 : ∀ l, q (.good l) = p l) (h2 : q .no = false) (h3 : q .odd = false) : ∀ mks : List Mk, ((goodsOf mks).filter p).length = mks.countP q
  | [] => rfl
  | .no :: mks => by rw [List.countP_cons, h2]; simpa [goodsOf] using goods_count p q h1 h2 h3 mks
  | .odd :: mks => by rw [List.countP_cons, h3]; simpa [goodsOf] using goods_count p q h1 h2 h3 mks
  | .good l :: mks => by
    have ih := goods_count p q h1 h2 h3 mks
    rw [List.countP_cons, h1]
    show ((l :: goodsOf mks).filter p).length = _
    rw [List.filter_cons]
    cases p l <;> simp [ih]
def optI : Option Nat → D
  | some k => .int (k : Nat)
  | none => .non
theorem turned_ok {mks : List Mk} (hl : mks.length ≤ 1000) {w l : Str} {a : Nat} (ha : a ≤ 100000) : d_turned [.lst ((goodsOf mks).map tupS), .int (mks.length : Nat), .str w, .str l, .int (a : Nat)] S =
    .ok (optI (trn (mks.countP (onesB hasM w l)) (mks.countP (neuB hasM w l)) a)) S := by
  have gl : (goodsOf mks).length ≤ 1000 := Nat.le_trans (goods_len mks) hl
  have one : ∀ (x y : Str) (t : EM) (r : List (Option D)), t = (eAnd (eOp opIn (eC (.str x)) (eVar 10)) (eOp opNotIn (eC (.str y)) (eVar 10))) → True := fun _ _ _ _ _ => trivial
  have lc1 := lcD_fa (S := S) (b := bName 10) (tt := g_turned_t1) (elt := eVar 10) (env := [some (.lst ((goodsOf mks).map tupS)), some (.int (mks.length : Nat)), some (.str w), some (.str l), some (.int (a : Nat)), none, none, none, none, none, none]) tupS (fun p => decide (w ∈ p) && !decide (l ∈ p)) tupS (goodsOf mks) [] (fun p hp => by
    refine ⟨_, rfl, ?_, fun _ => rfl⟩
    have i1 := in_strs (S := S) (s := w) (ns := p)
    have i2 : opNotIn (.str l) (tupS p) S = .ok (.bl (!decide (l ∈ p))) S := notIn_strs
    have v2 : eVar 2 ([some (.lst ((goodsOf mks).map tupS)), some (.int (mks.length : Nat)), some (.str w), some (.str l), some (.int (a : Nat)), none, none, none, none, none, some (tupS p)] : EnvD) S = .ok (.str w) S := rfl
    have v3 : eVar 3 ([some (.lst ((goodsOf mks).map tupS)), some (.int (mks.length : Nat)), some (.str w), some (.str l), some (.int (a : Nat)), none, none, none, none, none, some (tupS p)] : EnvD) S = .ok (.str l) S := rfl
    have v10 : eVar 10 ([some (.lst ((goodsOf mks).map tupS)), some (.int (mks.length : Nat)), some (.str w), some (.str l), some (.int (a : Nat)), none, none, none, none, none, some (tupS p)] : EnvD) S = .ok (tupS p) S := rfl
    show g_turned_t1 [some (.lst ((goodsOf mks).map tupS)), some (.int (mks.length : Nat)), some (.str w), some (.str l), some (.int (a : Nat)), none, none, none, none, none, some (tupS p)] S = _
    unfold g_turned_t1
    rw [eAnd_is]
    simp only [eOp_is, v2, v3, v10, ER.bind_ok, i1, i2]
    by_cases h : w ∈ p <;> simp [h]) (by simp; omega)
  have lc2 := lcD_fa (S := S) (b := bName 10) (tt := g_turned_t2) (elt := eVar 10) (env := [some (.lst ((goodsOf mks).map tupS)), some (.int (mks.length : Nat)), some (.str w), some (.str l), some (.int (a : Nat)), some (.lst (((goodsOf mks).filter fun p => decide (w ∈ p) && !decide (l ∈ p)).map tupS)), none, none, none, none, none]) tupS (fun p => decide (l ∈ p) && !decide (w ∈ p)) tupS (goodsOf mks) [] (fun p hp => by
    refine ⟨_, rfl, ?_, fun _ => rfl⟩
    have i1 := in_strs (S := S) (s := l) (ns := p)
    have i2 : opNotIn (.str w) (tupS p) S = .ok (.bl (!decide (w ∈ p))) S := notIn_strs
    have v2 : eVar 2 ([some (.lst ((goodsOf mks).map tupS)), some (.int (mks.length : Nat)), some (.str w), some (.str l), some (.int (a : Nat)), some (.lst (((goodsOf mks).filter fun p => decide (w ∈ p) && !decide (l ∈ p)).map tupS)), none, none, none, none, some (tupS p)] : EnvD) S = .ok (.str w) S := rfl
    have v3 : eVar 3 ([some (.lst ((goodsOf mks).map tupS)), some (.int (mks.length : Nat)), some (.str w), some (.str l), some (.int (a : Nat)), some (.lst (((goodsOf mks).filter fun p => decide (w ∈ p) && !decide (l ∈ p)).map tupS)), none, none, none, none, some (tupS p)] : EnvD) S = .ok (.str l) S := rfl
    have v10 : eVar 10 ([some (.lst ((goodsOf mks).map tupS)), some (.int (mks.length : Nat)), some (.str w), some (.str l), some (.int (a : Nat)), some (.lst (((goodsOf mks).filter fun p => decide (w ∈ p) && !decide (l ∈ p)).map tupS)), none, none, none, none, some (tupS p)] : EnvD) S = .ok (tupS p) S := rfl
    show g_turned_t2 [some (.lst ((goodsOf mks).map tupS)), some (.int (mks.length : Nat)), some (.str w), some (.str l), some (.int (a : Nat)), some (.lst (((goodsOf mks).filter fun p => decide (w ∈ p) && !decide (l ∈ p)).map tupS)), none, none, none, none, some (tupS p)] S = _
    unfold g_turned_t2
    rw [eAnd_is]
    simp only [eOp_is, v2, v3, v10, ER.bind_ok, i1, i2]
    by_cases h : l ∈ p <;> simp [h]) (by simp; omega)
  rw [List.nil_append] at lc1 lc2
  have n1 := goods_count (fun p => decide (w ∈ p) && !decide (l ∈ p)) (onesB hasM w l) (fun p => rfl) rfl rfl mks
  have n2 := goods_count (fun p => decide (l ∈ p) && !decide (w ∈ p)) (othB hasM w l) (fun p => rfl) rfl rfl mks
  have kl := kinds_len hasM w l mks
  have m1 : (((goodsOf mks).filter fun p => decide (w ∈ p) && !decide (l ∈ p)).map tupS).length = mks.countP (onesB hasM w l) := by rw [List.length_map]; exact n1
  have m2 : (((goodsOf mks).filter fun p => decide (l ∈ p) && !decide (w ∈ p)).map tupS).length = mks.countP (othB hasM w l) := by rw [List.length_map]; exact n2
  generalize hA : ((goodsOf mks).filter fun p => decide (w ∈ p) && !decide (l ∈ p)).map tupS = A at *
  generalize hB : ((goodsOf mks).filter fun p => decide (l ∈ p) && !decide (w ∈ p)).map tupS = B at *
  generalize (goodsOf mks).map tupS = GS at *
  generalize mks.countP (onesB hasM w l) = o at *
  generalize mks.countP (othB hasM w l) = t at *
  generalize mks.countP (neuB hasM w l) = r at *
  generalize mks.length = m at *
  have z1 : sz A.length := sz_is (by omega)
  have z2 : sz B.length := sz_is (by omega)
  have st : ∀ a b c d e : D, startD 11 [a, b, c, d, e] = [some a, some b, some c, some d, some e, none, none, none, none, none, none] := fun _ _ _ _ _ => rfl
  have dv : divOk (2 : Int) := divOk_s (by decide) (by decide)
  have tw : minII (o : Int) (((a : Int) + 1) / 2) = (twB o a : Nat) := by
    unfold minII twB
    have : ((a : Int) + 1) / 2 = (((a + 1) / 2 : Nat) : Int) := by omega
    rw [this]
    split <;> omega
  have ml : mulOk (2 : Int) ((twB o a : Nat) : Int) := mulOk_l (by decide)
  have lf : maxII (0 : Int) ((a : Int) - 2 * (twB o a : Nat)) = (lfB o a : Nat) := by
    have : 2 * twB o a ≤ a + 1 := by unfold twB; omega
    unfold maxII lfB
    split <;> omega
  have rs : (m : Int) - (o : Nat) - (t : Nat) = (r : Nat) := by omega
  unfold d_turned g_turned
  by_cases h : lfB o a ≤ r
  · have e : trn o r a = some (twB o a + lfB o a) := by unfold trn; rw [if_pos h]
    rw [e]
    have hi : ((lfB o a : Nat) : Int) ≤ (r : Nat) := by omega
    simp [st, lc1, lc2, m1, m2, z1, z2, dv, tw, ml, lf, rs, hi, optI, exitD, frzD]
  · have e : trn o r a = none := by unfold trn; rw [if_neg h]
    rw [e]
    have hi : ¬ ((lfB o a : Nat) : Int) ≤ (r : Nat) := by omega
    simp [st, lc1, lc2, m1, m2, z1, z2, dv, tw, ml, lf, rs, hi, optI, exitD, frzD]
end DR.K47
end
section
/-! Margins: what the program tells, to the end. -/
namespace DR.K47
open PySem L2 DL DR
variable {S : Store} {nm kd : Str} {cs : List Str} {seats : Int} {way : Str}
theorem needLot_ok {lot : List Str} (hp : lot.Perm cs) (hl : cs.length ≤ 1000) : d_need_lot [tupS cs, tupS lot] S = .ok .non S := by
  have e := lcD_map (S := S) (b := bName 2) (elt := g_need_lot_e1) (env := [some (tupS cs), some (tupS lot), none]) (fun _ => .bl true) (cs.map .str) (fun d hd => by
    obtain ⟨n, hn, rfl⟩ := List.mem_map.mp hd
    have q : opIn (.str n) (tupS lot) S = .ok (.bl (decide (n ∈ lot))) S := in_strs
    rw [decide_eq_true (hp.mem_iff.mpr hn)] at q
    exact ⟨_, rfl, by simp [g_need_lot_e1, Ty.isa, q, -opIn_tt]⟩) (by simp; omega)
  rw [mapTrue] at e
  have le := hp.length_eq
  simp [d_need_lot, g_need_lot, Ty.isa, le, e, allTr, -List.map_map, -List.map_const]
def pairN (mks : List Mk) (lot : List Str) (w l : Str) : Option Nat := trn (mks.countP (onesB hasM w l)) (mks.countP (neuB hasM w l)) (askB (cntB hasM mks) lot w l).toNat
def numsW (mks : List Mk) (lot ls : List Str) (w : Str) : List Nat := ls.filterMap (pairN mks lot w)
def nums (mks : List Mk) (lot ws ls : List Str) : List Nat := ws.flatMap (numsW mks lot ls)
abbrev intsN (l : List Nat) : List D := l.map fun k => D.int (k : Nat)
theorem cnt_bd (mks : List Mk) (c : Str) : 0 ≤ cntB hasM mks c ∧ cntB hasM mks c ≤ mks.length := by
  unfold cntB
  have := List.countP_le_length (p := hasM c) (l := mks)
  omega
/-- a pair looked at -/
theorem pair_step {U : Store} {mks : List Mk} {lot : List Str} {w l : Str} {acc : List Nat} {v0 v1 v6 v10 v11 : Option D} (hl : mks.length ≤ 1000) (hw : w ∈ cs) (hlc : l ∈ cs) (hwl : w ∈ lot) (hll : l ∈ lot) (ne : w ≠ l) (ah : Ahead (cntB hasM mks) lot w l) (ha : acc.length ≤ 1000) :
    ∃ a b, g_margin_b1 [v0, v1, some (.tpl (lot.map .str)), some (.lst ((goodsOf mks).map tupS)), some (.loc U.length), some (.int (mks.length : Nat)), v6, some (.loc (U.length + 1)), some (.str w), some (.str l), v10, v11] (U ++ [.dic (kdf cs (cntB hasM mks)), .lst (intsN acc)]) =
      .nx [v0, v1, some (.tpl (lot.map .str)), some (.lst ((goodsOf mks).map tupS)), some (.loc U.length), some (.int (mks.length : Nat)), v6, some (.loc (U.length + 1)), some (.str w), some (.str l), a, b] (U ++ [.dic (kdf cs (cntB hasM mks)), .lst (intsN (acc ++ (pairN mks lot w l).toList))]) := by
  have ap := ask_pos hwl hll ne ah
  obtain ⟨a, hA⟩ := Int.eq_ofNat_of_zero_le (show 0 ≤ askB (cntB hasM mks) lot w l by omega)
  have hA' : askB (cntB hasM mks) lot w l = (a : Nat) := hA
  have f1 := cnt_bd mks w
  have f2 := cnt_bd mks l
  have ab : a ≤ 100000 := by
    have : askB (cntB hasM mks) lot w l ≤ cntB hasM mks w - cntB hasM mks l + 1 := by unfold askB; split <;> omega
    omega
  have cl : cel (U ++ [.dic (kdf cs (cntB hasM mks)), .lst (intsN acc)]) U.length = some (.dic (kdf cs (cntB hasM mks))) := by simp [cel]
  have cl2 : cel (U ++ [.dic (kdf cs (cntB hasM mks)), .lst (intsN acc)]) (U.length + 1) = some (.lst (intsN acc)) := by simp [cel]
  have v1' := val_kdf (f := cntB hasM mks) hw
  have v2' := val_kdf (f := cntB hasM mks) hlc
  have m1 := mIndexZ_is (S := U ++ [.dic (kdf cs (cntB hasM mks)), .lst (intsN acc)]) hwl
  have m2 := mIndexZ_is (S := U ++ [.dic (kdf cs (cntB hasM mks)), .lst (intsN acc)]) hll
  have tr := turned_ok (S := U ++ [.dic (kdf cs (cntB hasM mks)), .lst (intsN acc)]) hl (w := w) (l := l) ab
  have pn : pairN mks lot w l = trn (mks.countP (onesB hasM w l)) (mks.countP (neuB hasM w l)) a := by
    unfold pairN; rw [hA', Int.toNat_natCast]
  rw [← pn] at tr
  have ty : isTpl (.tpl (lot.map .str)) = true := rfl
  have ask : cntB hasM mks w - cntB hasM mks l + (if lot.idxOf w < lot.idxOf l then (1 : Int) else 0) = (a : Nat) := hA'
  have set2 : ∀ X : Cell, (U ++ [Cell.dic (kdf cs (cntB hasM mks)), Cell.lst (intsN acc)]).set (U.length + 1) X = U ++ [.dic (kdf cs (cntB hasM mks)), X] := fun X => by
    rw [List.set_append_right _ _ (by omega)]
    simp
  have z : sz ((intsN acc).length + 1) := sz_is (by simp; omega)
  refine ⟨some (.int (a : Nat)), some (optI (pairN mks lot w l)), ?_⟩
  generalize hI : intsN acc = I at *
  have eI : ∀ k, intsN (acc ++ [k]) = I ++ [.int (k : Nat)] := fun k => by rw [← hI]; simp [intsN]
  generalize lot.map D.str = LT at *
  generalize (goodsOf mks).map tupS = GS at *
  by_cases hi : lot.idxOf w < lot.idxOf l
  · rw [if_pos hi] at ask
    have ask' : cntB hasM mks w - cntB hasM mks l + 1 = (a : Nat) := ask
    have hi' : ((lot.idxOf w : Nat) : Int) < (lot.idxOf l : Nat) := by omega
    cases hp : pairN mks lot w l with
    | none =>
      rw [hp] at tr
      generalize hU : U ++ [Cell.dic (kdf cs (cntB hasM mks)), .lst I] = UU at *
      have e0 : U ++ [Cell.dic (kdf cs (cntB hasM mks)), .lst (intsN (acc ++ (none : Option Nat).toList))] = UU := by rw [← hU, ← hI]; simp
      rw [e0]
      simp [g_margin_b1, eIndexZ, cl, v1', v2', m1, m2, ty, hi, ask', tr, optI, D.isN]
    | some k =>
      rw [hp] at tr
      have e0 : U ++ [Cell.dic (kdf cs (cntB hasM mks)), .lst (intsN (acc ++ (some k).toList))] = U ++ [Cell.dic (kdf cs (cntB hasM mks)), .lst (I ++ [.int (k : Nat)])] := by rw [← eI]; rfl
      rw [e0]
      have s2 := set2 (.lst (I ++ [.int (k : Nat)]))
      generalize hU : U ++ [Cell.dic (kdf cs (cntB hasM mks)), .lst I] = UU at *
      generalize U ++ [Cell.dic (kdf cs (cntB hasM mks)), .lst (I ++ [.int (k : Nat)])] = VV at *
      simp [g_margin_b1, eIndexZ, cl, v1', v2', m1, m2, ty, hi, ask', tr, optI, D.isN, cl2, z, s2]
  · rw [if_neg hi] at ask
    have ask' : cntB hasM mks w - cntB hasM mks l = (a : Nat) := by omega
    have hi' : ¬ ((lot.idxOf w : Nat) : Int) < (lot.idxOf l : Nat) := by omega
    cases hp : pairN mks lot w l with
    | none =>
      rw [hp] at tr
      generalize hU : U ++ [Cell.dic (kdf cs (cntB hasM mks)), .lst I] = UU at *
      have e0 : U ++ [Cell.dic (kdf cs (cntB hasM mks)), .lst (intsN (acc ++ (none : Option Nat).toList))] = UU := by rw [← hU, ← hI]; simp
      rw [e0]
      simp [g_margin_b1, eIndexZ, cl, v1', v2', m1, m2, ty, hi, ask', tr, optI, D.isN]
    | some k =>
      rw [hp] at tr
      have e0 : U ++ [Cell.dic (kdf cs (cntB hasM mks)), .lst (intsN (acc ++ (some k).toList))] = U ++ [Cell.dic (kdf cs (cntB hasM mks)), .lst (I ++ [.int (k : Nat)])] := by rw [← eI]; rfl
      rw [e0]
      have s2 := set2 (.lst (I ++ [.int (k : Nat)]))
      generalize hU : U ++ [Cell.dic (kdf cs (cntB hasM mks)), .lst I] = UU at *
      generalize U ++ [Cell.dic (kdf cs (cntB hasM mks)), .lst (I ++ [.int (k : Nat)])] = VV at *
      simp [g_margin_b1, eIndexZ, cl, v1', v2', m1, m2, ty, hi, ask', tr, optI, D.isN, cl2, z, s2]
end DR.K47
end
section
/-! Margins: the loops, what margin tells. -/
namespace DR.K47
open PySem L2 DL DR
variable {S : Store} {nm kd : Str} {cs : List Str} {seats : Int} {way : Str}
theorem fm_snoc {α β : Type} (f : α → Option β) (ls : List α) {i : Nat} {a : α} (h : ls[i]? = some a) : (ls.take (i + 1)).filterMap f = (ls.take i).filterMap f ++ (f a).toList := by
  rw [List.take_succ, h, List.filterMap_append]
  congr 1
theorem inner_loop {U : Store} {mks : List Mk} {lot ls : List Str} {w : Str} {acc : List Nat} {v0 v1 v6 v9 v10 v11 : Option D} (hl : mks.length ≤ 1000) (hw : w ∈ cs) (hlc : ∀ l ∈ ls, l ∈ cs) (hlot : ∀ c ∈ cs, c ∈ lot) (ne : ∀ l ∈ ls, w ≠ l) (ah : ∀ l ∈ ls, Ahead (cntB hasM mks) lot w l) (ha : acc.length + ls.length ≤ 900) :
    ∃ x a b, forD (bName 9) g_margin_b1 (ls.map .str) [v0, v1, some (.tpl (lot.map .str)), some (.lst ((goodsOf mks).map tupS)), some (.loc U.length), some (.int (mks.length : Nat)), v6, some (.loc (U.length + 1)), some (.str w), v9, v10, v11] (U ++ [.dic (kdf cs (cntB hasM mks)), .lst (intsN acc)]) =
      .nx [v0, v1, some (.tpl (lot.map .str)), some (.lst ((goodsOf mks).map tupS)), some (.loc U.length), some (.int (mks.length : Nat)), v6, some (.loc (U.length + 1)), some (.str w), x, a, b] (U ++ [.dic (kdf cs (cntB hasM mks)), .lst (intsN (acc ++ numsW mks lot ls w))]) := by
  obtain ⟨e', S', h1, x, a, b, e1, e2⟩ := forD_inv (b := bName 9) (body := g_margin_b1) (fun i e S => ∃ x a b, e = [v0, v1, some (.tpl (lot.map .str)), some (.lst ((goodsOf mks).map tupS)), some (.loc U.length), some (.int (mks.length : Nat)), v6, some (.loc (U.length + 1)), some (.str w), x, a, b] ∧
      S = U ++ [.dic (kdf cs (cntB hasM mks)), .lst (intsN (acc ++ (ls.take i).filterMap (pairN mks lot w)))]) (ls.map .str) 0 (e := [v0, v1, some (.tpl (lot.map .str)), some (.lst ((goodsOf mks).map tupS)), some (.loc U.length), some (.int (mks.length : Nat)), v6, some (.loc (U.length + 1)), some (.str w), v9, v10, v11]) (S := U ++ [.dic (kdf cs (cntB hasM mks)), .lst (intsN acc)])
      ⟨v9, v10, v11, rfl, by simp⟩ (by
    rintro i d e S hd ⟨x, a, b, rfl, rfl⟩
    rw [List.getElem?_map] at hd
    obtain ⟨l, hi, rfl⟩ := Option.map_eq_some_iff.mp hd
    have hm := List.mem_of_getElem? hi
    have il : i < ls.length := (List.getElem?_eq_some_iff.mp hi).1
    rw [Nat.zero_add]
    have bd : ((ls.take i).filterMap (pairN mks lot w)).length ≤ i := Nat.le_trans (List.length_filterMap_le _ _) (by rw [List.length_take]; omega)
    obtain ⟨a', b', st⟩ := pair_step (U := U) (mks := mks) (lot := lot) (w := w) (l := l) (cs := cs) (acc := acc ++ (ls.take i).filterMap (pairN mks lot w)) (v0 := v0) (v1 := v1) (v6 := v6) (v10 := a) (v11 := b) hl hw (hlc l hm) (hlot w hw) (hlot l (hlc l hm)) (ne l hm) (ah l hm) (by rw [List.length_append]; omega)
    exact ⟨_, rfl, _, _, .inl st, _, _, _, rfl, by rw [fm_snoc _ _ hi, List.append_assoc]⟩)
  subst e1 e2
  refine ⟨x, a, b, ?_⟩
  rw [h1]
  simp [numsW, List.take_of_length_le]
theorem outer_loop {U : Store} {mks : List Mk} {lot ws L : List Str} {n : Nat} {v1 v8 v9 v10 v11 : Option D} (hl : mks.length ≤ 1000) (hL : ∀ l ∈ L, l ∈ cs) (nd : L.Nodup) (hlot : ∀ c ∈ cs, c ∈ lot) (pw : L.Pairwise (Ahead (cntB hasM mks) lot)) (h5 : L.length ≤ 5) (hs : seats = (n : Int)) {acc : List Nat} (ha : acc.length ≤ 5) :
    ∃ x y a b, forD (bName 8) g_margin_b2 ((L.take n).map .str) [some (raceD nm kd cs seats way), v1, some (.tpl (lot.map .str)), some (.lst ((goodsOf mks).map tupS)), some (.loc U.length), some (.int (mks.length : Nat)), some (.lst (L.map .str)), some (.loc (U.length + 1)), v8, v9, v10, v11] (U ++ [.dic (kdf cs (cntB hasM mks)), .lst (intsN acc)]) =
      .nx [some (raceD nm kd cs seats way), v1, some (.tpl (lot.map .str)), some (.lst ((goodsOf mks).map tupS)), some (.loc U.length), some (.int (mks.length : Nat)), some (.lst (L.map .str)), some (.loc (U.length + 1)), x, y, a, b] (U ++ [.dic (kdf cs (cntB hasM mks)), .lst (intsN (acc ++ nums mks lot (L.take n) (L.drop n)))]) := by
  obtain ⟨e', S', h1, x, y, a, b, e1, e2⟩ := forD_inv (b := bName 8) (body := g_margin_b2) (fun i e S => ∃ x y a b, e = [some (raceD nm kd cs seats way), v1, some (.tpl (lot.map .str)), some (.lst ((goodsOf mks).map tupS)), some (.loc U.length), some (.int (mks.length : Nat)), some (.lst (L.map .str)), some (.loc (U.length + 1)), x, y, a, b] ∧
      S = U ++ [.dic (kdf cs (cntB hasM mks)), .lst (intsN (acc ++ ((L.take n).take i).flatMap (numsW mks lot (L.drop n))))]) ((L.take n).map .str) 0 (e := [some (raceD nm kd cs seats way), v1, some (.tpl (lot.map .str)), some (.lst ((goodsOf mks).map tupS)), some (.loc U.length), some (.int (mks.length : Nat)), some (.lst (L.map .str)), some (.loc (U.length + 1)), v8, v9, v10, v11]) (S := U ++ [.dic (kdf cs (cntB hasM mks)), .lst (intsN acc)])
      ⟨v8, v9, v10, v11, rfl, by simp⟩ (by
    rintro i d e S hd ⟨x, y, a, b, rfl, rfl⟩
    rw [List.getElem?_map] at hd
    obtain ⟨w, hi, rfl⟩ := Option.map_eq_some_iff.mp hd
    have hm := List.mem_of_getElem? hi
    have il : i < (L.take n).length := (List.getElem?_eq_some_iff.mp hi).1
    rw [Nat.zero_add]
    have dl : (L.drop n).length ≤ 5 := by rw [List.length_drop]; omega
    have il5 : i ≤ 5 := by rw [List.length_take] at il; omega
    have bd : ∀ i ≤ 5, (((L.take n).take i).flatMap (numsW mks lot (L.drop n))).length ≤ 5 * i := fun i hi => by
      have g : ∀ m : List Str, (m.flatMap (numsW mks lot (L.drop n))).length ≤ 5 * m.length := fun m => by
        induction m with
        | nil => simp
        | cons c m ih =>
          rw [List.flatMap_cons, List.length_append, List.length_cons]
          have : (numsW mks lot (L.drop n) c).length ≤ 5 := Nat.le_trans (List.length_filterMap_le _ _) dl
          omega
      have := g ((L.take n).take i)
      have : ((L.take n).take i).length ≤ i := by rw [List.length_take]; omega
      omega
    have b0 := bd i il5
    have cut : ∀ X : Store, iSeq (eSlice (eVar 6) (oSome (eFldC ["Race"] "seats" (eVar 0))) oNone) [some (raceD nm kd cs seats way), v1, some (.tpl (lot.map .str)), some (.lst ((goodsOf mks).map tupS)), some (.loc U.length), some (.int (mks.length : Nat)), some (.lst (L.map .str)), some (.loc (U.length + 1)), some (.str w), y, a, b] X = .ok ((L.drop n).map .str) X := fun X => by
      have sk := seats_ok (S := X) (nm := nm) (kd := kd) (cs := cs) (seats := seats) (way := way) (env := [some (raceD nm kd cs seats way), v1, some (.tpl (lot.map .str)), some (.lst ((goodsOf mks).map tupS)), some (.loc U.length), some (.int (mks.length : Nat)), some (.lst (L.map .str)), some (.loc (U.length + 1)), some (.str w), y, a, b]) (e := eVar 0) (by simp)
      have os : oSome (eFldC ["Race"] "seats" (eVar 0)) [some (raceD nm kd cs seats way), v1, some (.tpl (lot.map .str)), some (.lst ((goodsOf mks).map tupS)), some (.loc U.length), some (.int (mks.length : Nat)), some (.lst (L.map .str)), some (.loc (U.length + 1)), some (.str w), y, a, b] X = .ok (some (n : Int)) X := by
        unfold oSome
        rw [sk, hs]
      have cl := cut_lo (L.map D.str) n
      have on : ∀ env, oNone env X = .ok none X := fun _ => rfl
      rw [iSeq_is, eSlice_is]
      simp [os, on, cl]
    obtain ⟨x', a', b', st⟩ := inner_loop (U := U) (mks := mks) (lot := lot) (ls := L.drop n) (w := w) (cs := cs) (acc := acc ++ ((L.take n).take i).flatMap (numsW mks lot (L.drop n))) (v0 := some (raceD nm kd cs seats way)) (v1 := v1) (v6 := some (.lst (L.map .str))) (v9 := y) (v10 := a) (v11 := b) hl (hL w (List.mem_of_mem_take hm)) (fun l h => hL l (List.mem_of_mem_drop h)) hlot (fun l h z => by
        subst z
        rw [← List.take_append_drop n L, List.nodup_append] at nd
        exact nd.2.2 w hm w h rfl) (fun l h => cut_ahead pw hm h) (by rw [List.length_append]; omega)
    refine ⟨_, rfl, _, _, .inl ?_, some (.str w), x', a', b', rfl, rfl⟩
    · show sFor _ (bName 9) g_margin_b1 _ _ = _
      rw [sFor_is]
      have c0 := cut (U ++ [.dic (kdf cs (cntB hasM mks)), .lst (intsN (acc ++ ((L.take n).take i).flatMap (numsW mks lot (L.drop n))))])
      have c1 : ∀ E, E = [some (raceD nm kd cs seats way), v1, some (.tpl (lot.map .str)), some (.lst ((goodsOf mks).map tupS)), some (.loc U.length), some (.int (mks.length : Nat)), some (.lst (L.map .str)), some (.loc (U.length + 1)), some (.str w), y, a, b] → (iSeq (eSlice (eVar 6) (oSome (eFldC ["Race"] "seats" (eVar 0))) oNone) E (U ++ [.dic (kdf cs (cntB hasM mks)), .lst (intsN (acc ++ ((L.take n).take i).flatMap (numsW mks lot (L.drop n))))])).bindS E (fun ds S => forD (bName 9) g_margin_b1 ds E S) = _ := fun E hE => by
        subst hE
        rw [c0, LR.bindS_ok]
      have tk : (L.take n).take (i + 1) = (L.take n).take i ++ [w] := by rw [List.take_succ, hi]; rfl
      have fl : ((L.take n).take (i + 1)).flatMap (numsW mks lot (L.drop n)) = ((L.take n).take i).flatMap (numsW mks lot (L.drop n)) ++ numsW mks lot (L.drop n) w := by
        rw [tk, List.flatMap_append]; simp
      rw [fl, ← List.append_assoc]
      exact (c1 _ rfl).trans st)
  subst e1 e2
  refine ⟨x, y, a, b, ?_⟩
  rw [h1]
  have tk : (L.take n).take (0 + ((L.take n).map D.str).length) = L.take n := by
    rw [Nat.zero_add, List.length_map]; exact List.take_length
  rw [tk]
  rfl
end DR.K47
end
section
/-! What margin tells. -/
namespace DR.K47
open PySem L2 DL DR
variable {S : Store} {nm kd : Str} {cs : List Str} {seats : Int} {way : Str}
theorem unDs_strs (l : List Str) : unDs (l.map .str) = l.map .str := by
  induction l with
  | nil => rfl
  | cons a l ih =>
    show unD (.str a) :: unDs (l.map .str) = _
    rw [ih]; rfl
theorem un_lot {i : Nat} {lot : List Str} {e : EnvD} (he : e[i]? = some (some (.tpl (lot.map .str)))) : eUn (eVar i) e S = .ok (tupS lot) S := by
  unfold eUn
  rw [eVar_at he]
  simp only [ER.bind_ok]
  show ER.ok (D.tup (unDs (lot.map .str))) S = _
  rw [unDs_strs]
theorem minL_c {l : Nat} {n : Int} {ns : List Int} (h : S[l]? = some (.lst ((n :: ns).map .int))) : bMinL [.loc l] S = .ok (.int (minL n ns)) S := by
  have := intsD_map (n :: ns)
  unfold bMinL
  dsimp only
  rw [show listD S (.loc l) = some ((n :: ns).map .int) by simp only [listD]; rw [h], Option.bind_some, this]
def marginN (mks : List Mk) (lot cs : List Str) (n : Nat) : Int :=
  minL ((mks.length + 1 : Nat) : Int) ((nums mks lot ((ordL (cntB hasM mks) lot cs).take n) ((ordL (cntB hasM mks) lot cs).drop n)).map fun k : Nat => (k : Int))
theorem margin_ok (t : Told nm kd cs seats way) (hk : kd ≠ "rank") {mks : List Mk} (ok : ∀ mk ∈ mks, MkOk (decide (kd = "one")) cs mk) (hl : mks.length ≤ 100) {lot : List Str} (lp : lot.Perm cs) (hS : Cln S) {d : D} (hd : d = .lst (mks.map (mkD (decide (kd = "one")))) ∨ d = .tup (mks.map (mkD (decide (kd = "one"))))) :
    d_margin [raceD nm kd cs seats way, d, .tpl (lot.map .str)] S = .ok (.int (marginN mks lot cs seats.toNat)) S := by
  have l5 := t.l5
  have l2 := t.l2
  have nl : d_need_lot [tupS cs, .tup (lot.map .str)] S = .ok .non S := needLot_ok (S := S) lp (by omega)
  have gm := goodMarks_ok (S := S) t ok (by omega) hd
  have t1 := totals_ok (S := S) t ok (by omega) hd
  have nd : ∀ l ∈ goodsOf mks, l.Nodup := fun l hl => ((goods_mem ok l hl).ok l rfl).2.1
  have tl : tally (decide (kd = "rank")) (goodsOf mks) = cntB hasM mks := by
    rw [decide_eq_false hk]; exact tally_is nd
  rw [tl] at t1
  have bf : d_best_first [.loc S.length, .tup (lot.map .str)] (S ++ [.dic (kdf cs (cntB hasM mks))]) = .ok (.lst ((ordL (cntB hasM mks) lot cs).map .str)) (S ++ [.dic (kdf cs (cntB hasM mks))]) := bestFirst_cell (S := S) (f := cntB hasM mks) hS (lp.nodup_iff.mpr t.nd) (fun c hc => lp.mem_iff.mpr hc) (fun z => by rw [z] at l2; simp at l2) (by rw [lp.length_eq]; omega) (by omega)
  obtain ⟨L, hL⟩ : ∃ L, L = ordL (cntB hasM mks) lot cs := ⟨_, rfl⟩
  have Lp : L.Perm cs := by rw [hL]; exact ord_perm _ _ _
  obtain ⟨n, hn⟩ := Int.eq_ofNat_of_zero_le (show 0 ≤ seats by have := t.s1; omega)
  have hn' : seats = (n : Int) := hn
  have fl := fun v8 v9 v10 v11 => outer_loop (seats := seats) (nm := nm) (kd := kd) (way := way) (cs := cs) (U := S) (mks := mks) (lot := lot) (ws := L) (L := L) (n := n) (v1 := some d) (v8 := v8) (v9 := v9) (v10 := v10) (v11 := v11) (acc := [mks.length + 1]) (by omega) (fun l h => Lp.mem_iff.mp h) (Lp.nodup_iff.mpr t.nd) (fun c hc => lp.mem_iff.mpr hc) (by rw [hL]; exact ord_pw _ _ _) (by rw [Lp.length_eq]; omega) hn' (by simp)
  obtain ⟨x, y, a, b, f1⟩ := fl none none none none
  rw [← hL] at bf
  have e7 : seats.toNat = n := by omega
  have mn : bMinL [.loc (S.length + 1)] (S ++ [.dic (kdf cs (cntB hasM mks)), .lst (intsN ([mks.length + 1] ++ nums mks lot (L.take n) (L.drop n)))]) = .ok (.int (marginN mks lot cs n)) (S ++ [.dic (kdf cs (cntB hasM mks)), .lst (intsN ([mks.length + 1] ++ nums mks lot (L.take n) (L.drop n)))]) := by
    have g : (S ++ [Cell.dic (kdf cs (cntB hasM mks)), .lst (intsN ([mks.length + 1] ++ nums mks lot (L.take n) (L.drop n)))])[S.length + 1]? = some (.lst ((((mks.length + 1 : Nat) : Int) :: (nums mks lot (L.take n) (L.drop n)).map fun k : Nat => (k : Int)).map .int)) := by
      rw [List.getElem?_append_right (by omega)]
      simp [intsN, List.map_map, Function.comp_def]
    rw [minL_c g]
    unfold marginN
    rw [← hL]
  rw [e7]
  have ex : ∀ X : Cell, exitD .pure S (.int (marginN mks lot cs n)) (S ++ [.dic (kdf cs (cntB hasM mks)), X]) = .ok (.int (marginN mks lot cs n)) S := fun X => exit_of (by simp [frzD]) (by simp)
  have us : ∀ (e : EnvD) (S : Store), e[2]? = some (some (.tpl (lot.map .str))) → eUn (eVar 2) e S = .ok (.tup (lot.map .str)) S := fun e S he => un_lot he
  have st : ∀ a b c : D, startD 12 [a, b, c] = [some a, some b, some c, none, none, none, none, none, none, none, none, none] := fun _ _ _ => rfl
  have seat : ∀ (r : EnvD) (X : Store), oSome (eFldC ["Race"] "seats" (eVar 0)) (some (raceD nm kd cs seats way) :: r) X = .ok (some (n : Int)) X := fun r X => by
    have sk := seats_ok (S := X) (nm := nm) (kd := kd) (cs := cs) (seats := seats) (way := way) (env := some (raceD nm kd cs seats way) :: r) (e := eVar 0) (by simp)
    unfold oSome
    rw [sk, hn']
  have kk : ∀ (r : EnvD) (X : Store), eFldC ["Race"] "kind" (eVar 0) (some (raceD nm kd cs seats way) :: r) X = .ok (.str kd) X := fun r X => kind_ok (nm := nm) (kd := kd) (cs := cs) (seats := seats) (way := way) (by simp)
  have ck : ∀ (r : EnvD) (X : Store), eFldC ["Race"] "choices" (eVar 0) (some (raceD nm kd cs seats way) :: r) X = .ok (tupS cs) X := fun r X => choices_ok (nm := nm) (kd := kd) (cs := cs) (seats := seats) (way := way) (by simp)
  have on : ∀ env S, oNone env S = .ok none S := fun _ _ => rfl
  have ct := cut_hi (L.map D.str) n
  rw [← List.map_take] at ct
  have z1 : sz mks.length := sz_is (by omega)
  have ml : ∀ X, bLenX [d] X = .ok (.int (mks.length : Nat)) X := fun X => by rcases hd with rfl | rfl <;> simp [z1]
  clear hd
  have c1 : intsN [mks.length + 1] = [D.int ((mks.length : Int) + 1)] := by simp [intsN]
  rw [c1] at f1
  generalize hU : S ++ [Cell.dic (kdf cs (cntB hasM mks)), .lst (intsN ([mks.length + 1] ++ nums mks lot (L.take n) (L.drop n)))] = U2 at *
  have ex' : exitD .pure S (.int (marginN mks lot cs n)) U2 = .ok (.int (marginN mks lot cs n)) S := by rw [← hU]; exact ex _
  clear ex hU
  generalize hLT : lot.map D.str = LT at *
  generalize (goodsOf mks).map tupS = GS at *
  generalize marginN mks lot cs n = ans at *
  generalize hD : kdf cs (cntB hasM mks) = KD at *
  generalize (L.take n).map D.str = LL at *
  generalize hLm : L.map D.str = LM at *
  have us2 : ∀ (e : EnvD) (S : Store), e[2]? = some (some (.tpl LT)) → eUn (eVar 2) e S = .ok (.tup LT) S := us
  have u1 : ∀ a b r X, eUn (eVar 2) (a :: b :: some (.tpl LT) :: r) X = .ok (.tup LT) X := fun a b r X => us2 _ _ rfl
  unfold d_margin g_margin
  simp [st, kk, ck, hk, u1, nl, gm, t1, ml, z1, bf, seat, on, ct, f1, mn, ex', List.append_assoc]
end DR.K47
end
section
namespace DR.K47
open PySem L2 DL DR
variable {S : Store} {nm kd : Str} {cs : List Str} {seats : Int} {way : Str}
theorem mem_nums {mks : List Mk} {lot ws ls : List Str} {k : Nat} : k ∈ nums mks lot ws ls ↔ ∃ w ∈ ws, ∃ l ∈ ls, pairN mks lot w l = some k := by
  unfold nums numsW
  simp only [List.mem_flatMap, List.mem_filterMap]
theorem ord_is (F : Str → Int) (lot cs : List Str) : Ord F lot cs (ordL F lot cs) := ⟨ord_perm _ _ _, ord_pw _ _ _⟩
end DR.K47
end
section
/-! Marks turned one by one, those that help most ahead: as many as margin tells are enough. Plain. -/
namespace DR.K47
open PySem L2 DL DR
variable {cs lot : List Str}
/-- by how much a mark turned for l alone brings it nearer to w -/
def hlp (w l : Str) (mk : Mk) : Int := 1 + (if hasM w mk = true then 1 else 0) - (if hasM l mk = true then 1 else 0)
abbrev alone (l : Str) : Mk := .good [l]
/-- one mark turned: one that helps most -/
def Step (w l : Str) (X Y : List Mk) : Prop := (Y = X ∧ ∀ b ∈ X, b = alone l) ∨ ∃ p a, X[p]? = some a ∧ a ≠ alone l ∧ Y = X.set p (alone l) ∧ ∀ b ∈ X, b ≠ alone l → hlp w l b ≤ hlp w l a
theorem Step.len {w l : Str} {X Y : List Mk} (h : Step w l X Y) : Y.length = X.length := by
  rcases h with ⟨rfl, _⟩ | ⟨p, a, _, _, rfl, _⟩
  · rfl
  · simp
theorem Step.mem {w l : Str} {X Y : List Mk} (h : Step w l X Y) : ∀ b ∈ Y, b ∈ X ∨ b = alone l := by
  rcases h with ⟨rfl, _⟩ | ⟨p, a, _, _, rfl, _⟩
  · exact fun b hb => .inl hb
  · intro b hb
    exact List.mem_or_eq_of_mem_set hb
theorem dif_set (X ms : List Mk) (p : Nat) (a : Mk) : dif (X.set p a) ms ≤ dif X ms + 1 := by
  induction X generalizing ms p with
  | nil => simp [dif]
  | cons x X ih =>
    cases ms with
    | nil => simp [dif]
    | cons y ms =>
      cases p with
      | zero =>
        rw [List.set_cons_zero]
        have h1 := dif_cons_le a y X ms
        have h2 : dif X ms ≤ dif (x :: X) (y :: ms) := by
          unfold dif
          rw [List.zip_cons_cons, List.filter_cons]
          split <;> simp
        omega
      | succ p =>
        rw [List.set_cons_succ]
        have := ih ms p
        unfold dif at this ⊢
        rw [List.zip_cons_cons, List.filter_cons, List.zip_cons_cons, List.filter_cons]
        split <;> (try simp only [List.length_cons]) <;> omega
theorem Step.dif {w l : Str} {X Y ms : List Mk} (h : Step w l X Y) : dif Y ms ≤ dif X ms + 1 := by
  rcases h with ⟨rfl, _⟩ | ⟨p, a, _, _, rfl, _⟩
  · omega
  · exact dif_set X ms p _
theorem countP_set (q : Mk → Bool) (X : List Mk) (p : Nat) (a b : Mk) (h : X[p]? = some a) : (X.set p b).countP q + (if q a = true then 1 else 0) = X.countP q + (if q b = true then 1 else 0) := by
  induction X generalizing p with
  | nil => simp at h
  | cons x X ih =>
    cases p with
    | zero =>
      simp at h
      subst h
      rw [List.set_cons_zero, List.countP_cons, List.countP_cons]
      omega
    | succ p =>
      rw [List.getElem?_cons_succ] at h
      have := ih p h
      rw [List.set_cons_succ, List.countP_cons, List.countP_cons]
      omega
section
variable {w l : Str} (ne : w ≠ l)
include ne
theorem step_gain {X Y : List Mk} (h : Step w l X Y) : sumB hasM w l X ≤ sumB hasM w l Y ∧
    (1 ≤ X.countP (onesB hasM w l) → sumB hasM w l Y = sumB hasM w l X + 2 ∧ Y.countP (onesB hasM w l) + 1 = X.countP (onesB hasM w l) ∧ Y.countP (neuB hasM w l) = X.countP (neuB hasM w l)) ∧
    (X.countP (onesB hasM w l) = 0 → 1 ≤ X.countP (neuB hasM w l) → sumB hasM w l Y = sumB hasM w l X + 1 ∧ Y.countP (onesB hasM w l) = 0 ∧ Y.countP (neuB hasM w l) + 1 = X.countP (neuB hasM w l)) := by
  have aw : hasM w (alone l) = false := by simp [hasM, ne]
  have al : hasM l (alone l) = true := by simp [hasM]
  have o1 : onesB hasM w l (alone l) = false := by simp [onesB, aw]
  have n1 : neuB hasM w l (alone l) = false := by simp [neuB, onesB, othB, aw, al]
  rcases h with ⟨rfl, ha⟩ | ⟨p, a, hp, hna, rfl, hm⟩
  · have c1 : Y.countP (onesB hasM w l) = 0 := by rw [List.countP_eq_zero]; intro b hb; rw [ha b hb, o1]; simp
    have c2 : Y.countP (neuB hasM w l) = 0 := by rw [List.countP_eq_zero]; intro b hb; rw [ha b hb, n1]; simp
    exact ⟨Int.le_refl _, fun z => by omega, fun _ z => by omega⟩
  · have q1 := countP_set (hasM w) X p a (alone l) hp
    have q2 := countP_set (hasM l) X p a (alone l) hp
    have q3 := countP_set (onesB hasM w l) X p a (alone l) hp
    have q4 := countP_set (neuB hasM w l) X p a (alone l) hp
    rw [aw] at q1
    rw [al] at q2
    rw [o1] at q3
    rw [n1] at q4
    rw [sumB_is, sumB_is]
    unfold cntB
    simp only [Bool.false_eq_true, if_false, if_true] at q1 q2 q3 q4
    have hh : hlp w l a = 1 + (if hasM w a = true then 1 else 0) - (if hasM l a = true then 1 else 0) := rfl
    refine ⟨?_, fun z => ?_, fun z0 z => ?_⟩
    · split at q1 <;> split at q2 <;> omega
    · obtain ⟨b, hb, hbo⟩ := List.countP_pos_iff.mp (show 0 < X.countP (onesB hasM w l) by omega)
      have := hm b hb fun e => by rw [e, o1] at hbo; cases hbo
      have hb2 : hlp w l b = 2 := by
        unfold onesB at hbo
        unfold hlp
        simp only [Bool.and_eq_true, Bool.not_eq_true'] at hbo
        rw [hbo.1, hbo.2]; rfl
      rw [hb2] at this
      have e1 : hasM w a = true := by
        cases h : hasM w a with
        | true => rfl
        | false => rw [h] at hh; split at hh <;> simp at hh <;> omega
      have e2 : hasM l a = false := by
        cases h : hasM l a with
        | false => rfl
        | true => rw [h, e1] at hh; simp at hh; omega
      have e3 : onesB hasM w l a = true := by simp [onesB, e1, e2]
      have e4 : neuB hasM w l a = false := by simp [neuB, e3]
      rw [e1] at q1
      rw [e2] at q2
      rw [e3] at q3
      rw [e4] at q4
      simp only [Bool.false_eq_true, if_false, if_true] at q1 q2 q3 q4
      omega
    · obtain ⟨b, hb, hbn⟩ := List.countP_pos_iff.mp (show 0 < X.countP (neuB hasM w l) by omega)
      have := hm b hb fun e => by rw [e, n1] at hbn; cases hbn
      have ao : onesB hasM w l a = false := by
        have := List.countP_eq_zero.mp z0 a (List.mem_of_getElem? hp)
        simpa using this
      have hb2 : hlp w l b = 1 := by
        unfold neuB onesB othB at hbn
        unfold hlp
        cases h1 : hasM w b <;> cases h2 : hasM l b <;> simp [h1, h2] at hbn ⊢
      rw [hb2] at this
      have an : neuB hasM w l a = true := by
        unfold neuB
        rw [ao]
        unfold onesB at ao
        unfold othB
        cases h1 : hasM w a <;> cases h2 : hasM l a <;> simp [h1, h2] at ao hh ⊢
        omega
      rw [ao] at q3
      rw [an] at q4
      simp only [Bool.false_eq_true, if_false, if_true] at q3 q4
      have e : hasM w a = hasM l a := by
        unfold neuB onesB othB at an
        cases h1 : hasM w a <;> cases h2 : hasM l a <;> simp [h1, h2] at an ⊢
      rw [e] at q1
      split at q1
      · rename_i hl
        rw [if_pos hl] at q2
        omega
      · rename_i hl
        rw [if_neg hl] at q2
        omega
/-- many steps -/
inductive Steps (w l : Str) : Nat → List Mk → List Mk → Prop where
  | zero (X : List Mk) : Steps w l 0 X X
  | succ {k : Nat} {X Y Z : List Mk} : Step w l X Y → Steps w l k Y Z → Steps w l (k + 1) X Z
omit ne in
theorem Steps.snoc {k : Nat} {X Y Z : List Mk} (h : Steps w l k X Y) (s : Step w l Y Z) : Steps w l (k + 1) X Z := by
  induction h with
  | zero X => exact .succ s (.zero _)
  | succ s1 _ ih => exact .succ s1 (ih s)
theorem steps_gain : ∀ (k : Nat) (X Z : List Mk) (x y : Nat), Steps w l k X Z → x ≤ X.countP (onesB hasM w l) → y ≤ X.countP (neuB hasM w l) → x + y ≤ k → sumB hasM w l X + 2 * x + y ≤ sumB hasM w l Z := by
  intro k
  induction k with
  | zero =>
    intro X Z x y h h1 h2 h3
    cases h
    have : x = 0 := by omega
    have : y = 0 := by omega
    subst x y
    simp
  | succ k ih =>
    intro X Z x y h h1 h2 h3
    cases h with
    | succ s r =>
      rename_i Y
      obtain ⟨g0, g1, g2⟩ := step_gain ne s
      by_cases hx : 1 ≤ X.countP (onesB hasM w l)
      · obtain ⟨a1, a2, a3⟩ := g1 hx
        by_cases x0 : x = 0
        · subst x0
          by_cases y0 : y = 0
          · subst y0
            have := ih Y Z 0 0 r (Nat.zero_le _) (Nat.zero_le _) (by omega)
            omega
          · have := ih Y Z 0 (y - 1) r (Nat.zero_le _) (by omega) (by omega)
            omega
        · have := ih Y Z (x - 1) y r (by omega) (by omega) (by omega)
          omega
      · have x0 : x = 0 := by omega
        subst x0
        by_cases y0 : y = 0
        · subst y0
          have := ih Y Z 0 0 r (Nat.zero_le _) (Nat.zero_le _) (by omega)
          omega
        · obtain ⟨a1, a2, a3⟩ := g2 (by omega) (by omega)
          have := ih Y Z 0 (y - 1) r (Nat.zero_le _) (by omega) (by omega)
          omega
end
/-- who is on top -/
def tps (ms : List Mk) (lot cs : List Str) (n : Nat) : List Str := (ordL (cntB hasM ms) lot cs).take n
/-- the same ones -/
def sameS (A B : List Str) : Bool := A.all (fun x => decide (x ∈ B)) && B.all fun x => decide (x ∈ A)
theorem sameS_is {A B : List Str} : sameS A B = true ↔ ∀ x, x ∈ A ↔ x ∈ B := by
  unfold sameS
  simp only [Bool.and_eq_true, List.all_eq_true, decide_eq_true_eq]
  exact ⟨fun ⟨h1, h2⟩ x => ⟨h1 x, h2 x⟩, fun h => ⟨fun x => (h x).mp, fun x => (h x).mpr⟩⟩
theorem steps_turn {ms Z : List Mk} {n k : Nat} {w l : Str} (nd : cs.Nodup) (lp : lot.Perm cs) (hw : w ∈ tps ms lot cs n) (hl : l ∈ (ordL (cntB hasM ms) lot cs).drop n) (hk : pairN ms lot w l = some k) (st : Steps w l k ms Z) : sameS (tps Z lot cs n) (tps ms lot cs n) = false := by
  have o := ord_is (cntB hasM ms) lot cs
  have o' := ord_is (cntB hasM Z) lot cs
  have n1 : (ordL (cntB hasM ms) lot cs).Nodup := o.perm.nodup_iff.mpr nd
  have wl : w ≠ l := fun z => by
    subst z
    rw [← List.take_append_drop n (ordL (cntB hasM ms) lot cs), List.nodup_append] at n1
    exact n1.2.2 w hw w hl rfl
  have lc : l ∈ cs := o.perm.mem_iff.mp (List.mem_of_mem_drop hl)
  have wc : w ∈ cs := o.perm.mem_iff.mp (List.mem_of_mem_take hw)
  obtain ⟨h1, h2, h3, h4⟩ := trn_up hk
  have g := steps_gain wl k ms Z _ _ st h1 h2 (by omega)
  rw [sumB_is, sumB_is] at g
  have ah : Ahead (cntB hasM Z) lot l w := ask_ahead (F := cntB hasM ms) (by omega)
  cases hs : sameS (tps Z lot cs n) (tps ms lot cs n) with
  | false => rfl
  | true =>
    have q := sameS_is.mp hs
    have w' : w ∈ (ordL (cntB hasM Z) lot cs).take n := (q w).mpr hw
    have l0 : l ∉ (ordL (cntB hasM ms) lot cs).take n := fun z => by
      rw [← List.take_append_drop n (ordL (cntB hasM ms) lot cs), List.nodup_append] at n1
      exact n1.2.2 l z l hl rfl
    have l' : l ∈ (ordL (cntB hasM Z) lot cs).drop n := by
      have := o'.perm.mem_iff.mpr lc
      rw [← List.take_append_drop n (ordL (cntB hasM Z) lot cs)] at this
      exact (List.mem_append.mp this).resolve_left fun z => l0 ((q l).mp z)
    exact absurd (ahead_anti (lp.mem_iff.mpr wc) (lp.mem_iff.mpr lc) (cut_ahead o'.pw w' l') ah) wl
/-- fewer than margin tells turn nothing -/
theorem few_same {ms r : List Mk} {n : Nat} (nd : cs.Nodup) (lp : lot.Perm cs) (hn : n ≤ cs.length) (hr : r.length = ms.length) (hd : ((dif r ms : Nat) : Int) < marginN ms lot cs n) : sameS (tps r lot cs n) (tps ms lot cs n) = true := by
  cases hs : sameS (tps r lot cs n) (tps ms lot cs n) with
  | true => rfl
  | false =>
    have np : ¬ ((ordL (cntB hasM ms) lot cs).take n).Perm ((ordL (cntB hasM r) lot cs).take n) := fun z => by
      have : sameS (tps r lot cs n) (tps ms lot cs n) = true := sameS_is.mpr fun x => (z.mem_iff (a := x)).symm
      rw [hs] at this
      cases this
    obtain ⟨w, hw, l, hl, k, hk, hle⟩ := low_row hasM nd (fun c hc => lp.mem_iff.mpr hc) hn (ord_is (cntB hasM ms) lot cs) hr (ord_is (cntB hasM r) lot cs) np
    have : (k : Int) ∈ ((ms.length + 1 : Nat) : Int) :: ((nums ms lot ((ordL (cntB hasM ms) lot cs).take n) ((ordL (cntB hasM ms) lot cs).drop n)).map fun k : Nat => (k : Int)) :=
      List.mem_cons_of_mem _ (List.mem_map.mpr ⟨k, mem_nums.mpr ⟨w, hw, l, hl, hk⟩, rfl⟩)
    have h2 := minL_le _ _ _ this
    unfold marginN at hd
    omega
/-- the least of all pairs -/
theorem margin_mem {ms : List Mk} {n : Nat} : marginN ms lot cs n = ((ms.length + 1 : Nat) : Int) ∨ ∃ w ∈ tps ms lot cs n, ∃ l ∈ (ordL (cntB hasM ms) lot cs).drop n, ∃ k : Nat, pairN ms lot w l = some k ∧ marginN ms lot cs n = (k : Int) := by
  unfold marginN
  rcases List.mem_cons.mp (minL_mem ((nums ms lot ((ordL (cntB hasM ms) lot cs).take n) ((ordL (cntB hasM ms) lot cs).drop n)).map fun k : Nat => (k : Int)) ((ms.length + 1 : Nat) : Int)) with e | e
  · exact .inl e
  · obtain ⟨k, hk, ek⟩ := List.mem_map.mp e
    obtain ⟨w, hw, l, hl, hp⟩ := mem_nums.mp hk
    exact .inr ⟨w, hw, l, hl, k, hp, ek.symm⟩
theorem margin_le {ms : List Mk} {n : Nat} : marginN ms lot cs n ≤ ((ms.length + 1 : Nat) : Int) := minL_le _ _ _ List.mem_cons_self
end DR.K47
end
section
/-! Steps: a def is walked statement by statement, what stands behind each is reckoned by simp only. -/
namespace DL
open PySem L2
variable {S S' S1 : Store} {env e : EnvD} {r : SR} {d x : D}
theorem stN {a b : SM} (h : a env S = .nx e S') (k : b e S' = r) : sSeq a b env S = r := by rw [sSeq_is, h]; exact k
theorem fnRt {m : Mode} {n : Nat} {g : SM} {ds : List D} {R : ER} (h : g (startD n ds) S = .rt d S') (k : exitD m S d S' = R) : fnF m n g ds S = R := by rw [fnF_is, h]; exact k
theorem ifFB {c : EM} {a b : SM} (h : c env S = .ok (.bl false) S') (k : b env S' = r) : sIf c a b env S = r := by rw [sIf_is, h]; exact k
/-- a for, one turn; what ends it -/
theorem forC {b : D → EnvD → Option EnvD} {body : SM} {ds : List D} {e1 e2 : EnvD} (h1 : b d env = some e1) (h2 : body e1 S = .nx e2 S') (k : forD b body ds e2 S' = r) : forD b body (d :: ds) env S = r := by
  conv => lhs; unfold forD
  rw [h1]; dsimp only; rw [h2]; exact k
end DL
end
section
/-! The law's turning of one mark. -/
namespace DR.K47
open PySem L2 DL DR
variable {S : Store} {nm kd : Str} {cs : List Str} {seats : Int} {way : Str}
theorem told1 : opIxX (toldD nm kd cs seats way) (.int 1) S = .ok (.str kd) S := by
  have a1 : atI [D.str nm, .str kd, tupS cs, .int seats, .str way] 1 = some (.str kd) := rfl
  simp [a1]
theorem told2 : opIxX (toldD nm kd cs seats way) (.int 2) S = .ok (tupS cs) S := by
  have a1 : atI [D.str nm, .str kd, tupS cs, .int seats, .str way] 2 = some (tupS cs) := rfl
  simp [a1]
theorem eqOddT {l : List Str} (h : ∀ n ∈ l, PyData.strOk n = true) : opEq (tupS l) (.str "?") S = .ok (.bl false) S := eqB_tstr (neg := false) h qok
theorem help_ok (t : Told nm kd cs seats way) {mk : Mk} (ok : MkOk (decide (kd = "one")) cs mk) {w l : Str} :
    d__law_help [toldD nm kd cs seats way, mkD (decide (kd = "one")) mk, .str w, .str l] S = .ok (.int (hlp w l mk)) S := by
  have fin : ∀ (ns : List Str) (e1 : D) , hasM w mk = decide (w ∈ ns) → hasM l mk = decide (l ∈ ns) → (sRet (eOp opSub (eOp opAdd (eC (.int 1)) (eCallB bInt (lCons (eOp opIn (eVar 2) (eVar 4)) lNil))) (eCallB bInt (lCons (eOp opIn (eVar 3) (eVar 4)) lNil)))) [some (toldD nm kd cs seats way), some e1, some (.str w), some (.str l), some (.lst (ns.map .str))] S = .rt (.int (hlp w l mk)) S := by
    intro ns e1 h1 h2
    have i1 : opIn (.str w) (.lst (ns.map .str)) S = .ok (.bl (decide (w ∈ ns))) S := in_strsL
    have i2 : opIn (.str l) (.lst (ns.map .str)) S = .ok (.bl (decide (l ∈ ns))) S := in_strsL
    generalize ns.map D.str = NS at *
    generalize toldD nm kd cs seats way = TD
    unfold hlp
    rw [h1, h2]
    by_cases q1 : w ∈ ns <;> by_cases q2 : l ∈ ns <;> simp [i1, i2, q1, q2, -opIn_ll]
  unfold d__law_help
  refine fnRt (S' := S) (d := .int (hlp w l mk)) ?_ (by simp [exitD, frzD])
  unfold g__law_help
  have t1 := @told1 S nm kd cs seats way
  have go : ∀ ns : List Str, hasM w mk = decide (w ∈ ns) → hasM l mk = decide (l ∈ ns) → (eIf (eOr (eOp opIsN (eVar 1) (eC .non)) (eOp opEq (eVar 1) (eC (.str "?")))) (eLst lNil) (eIf (eOp opEq (eOp opIxX (eVar 0) (eC (.int 1))) (eC (.str "one"))) (eLst (lCons (eVar 1) lNil)) (eCallB bListX (lCons (eVar 1) lNil)))) [some (toldD nm kd cs seats way), some (mkD (decide (kd = "one")) mk), some (.str w), some (.str l), none] S = .ok (.lst (ns.map .str)) S → (sSeq (sAsg (eIf (eOr (eOp opIsN (eVar 1) (eC .non)) (eOp opEq (eVar 1) (eC (.str "?")))) (eLst lNil) (eIf (eOp opEq (eOp opIxX (eVar 0) (eC (.int 1))) (eC (.str "one"))) (eLst (lCons (eVar 1) lNil)) (eCallB bListX (lCons (eVar 1) lNil)))) (bName 4))
      (sRet (eOp opSub (eOp opAdd (eC (.int 1)) (eCallB bInt (lCons (eOp opIn (eVar 2) (eVar 4)) lNil))) (eCallB bInt (lCons (eOp opIn (eVar 3) (eVar 4)) lNil))))) [some (toldD nm kd cs seats way), some (mkD (decide (kd = "one")) mk), some (.str w), some (.str l), none] S = .rt (.int (hlp w l mk)) S := by
    intro ns h1 h2 h3
    refine stN (S' := S) (e := [some (toldD nm kd cs seats way), some (mkD (decide (kd = "one")) mk), some (.str w), some (.str l), some (.lst (ns.map .str))]) ?_ (fin ns _ h1 h2)
    rw [sAsg_is, h3]; rfl
  cases mk with
  | no => exact go [] (by simp [hasM]) (by simp [hasM]) (by simp [mkD])
  | odd => exact go [] (by simp [hasM]) (by simp [hasM]) (by simp [mkD])
  | good ns =>
    obtain ⟨h1, h2, h3, h4⟩ := ok.ok ns rfl
    refine go ns (by simp [hasM]) (by simp [hasM]) ?_
    by_cases ho : kd = "one"
    · obtain ⟨s, rfl⟩ := List.length_eq_one_iff.mp (h4 (decide_eq_true ho))
      have nq : s ≠ "?" := fun z => odd_notin t.good (by rw [← z]; exact h3 s (by simp))
      have em : mkD (decide (kd = "one")) (.good [s]) = .str s := by simp [mkD, ho]
      rw [em]
      generalize toldD nm kd cs seats way = TD at *
      simp [t1, ho, nq]
    · have em : mkD (decide (kd = "one")) (.good ns) = tupS ns := by simp [mkD, ho]
      rw [em]
      have so : ∀ n ∈ ns, PyData.strOk n = true := fun n hn => goodN_ok (t.good n (h3 n hn))
      have e1 := eqOddT (S := S) so
      have bl : bListX [tupS ns] S = .ok (.lst (ns.map .str)) S := rfl
      generalize toldD nm kd cs seats way = TD at *
      generalize hT : tupS ns = TN at *
      have e0 : D.isN TN = false := by rw [← hT]; rfl
      simp [t1, ho, e1, bl, e0]
theorem rg_map (n : Nat) : rangeD 0 n = (List.range n).map fun k : Nat => D.int k := by simp [rangeD]
/-- the places of marks not yet turned -/
def plc1 (l : Str) (X : List Mk) : List Nat := (List.range X.length).filter fun k => !decide (X.getD k .no = alone l)
def kh (w l : Str) (X : List Mk) (k : Nat) : List Key := [.inl (0 - hlp w l (X.getD k .no)), .inl (k : Int)]
theorem kh_t (w l : Str) (X : List Mk) (k : Nat) : tK (kh w l X k) = .tup [.int (0 - hlp w l (X.getD k .no)), .int (k : Nat)] := rfl
theorem kh_form (w l : Str) (X : List Mk) : ∀ L : List Nat, oneForm (L.map (kh w l X)) = true
  | [] => rfl
  | k :: L => by
    show ((!(kh w l X k).isEmpty) && ((k :: L).map (kh w l X)).all fun z => z.map isS == (kh w l X k).map isS) = true
    simp only [kh, List.isEmpty_cons, Bool.not_false, Bool.true_and, List.all_eq_true]
    intro z hz
    obtain ⟨q, _, rfl⟩ := List.mem_map.mp hz
    rfl
/-- the one that helps most -/
theorem first_best {w l : Str} {X : List Mk} {L : List Nat} (hL : L ≠ []) : ∃ p ∈ L, ∃ r, sortKs (L.map (kh w l X)) = kh w l X p :: r ∧ ∀ k ∈ L, hlp w l (X.getD k .no) ≤ hlp w l (X.getD p .no) := by
  have pm := sortKs_perm (L.map (kh w l X))
  have pw := sortKs_pw (L.map (kh w l X))
  cases h : sortKs (L.map (kh w l X)) with
  | nil =>
    rw [h] at pm
    have := pm.length_eq
    simp at this
    exact absurd (List.length_eq_zero_iff.mp this.symm) hL
  | cons z r =>
    rw [h] at pm pw
    obtain ⟨p, hp, rfl⟩ := List.mem_map.mp (pm.subset List.mem_cons_self)
    refine ⟨p, hp, r, rfl, fun k hk => ?_⟩
    have hm : kh w l X k ∈ kh w l X p :: r := pm.mem_iff.mpr (List.mem_map.mpr ⟨k, hk, rfl⟩)
    rcases List.mem_cons.mp hm with e | hm
    · have : (Sum.inl (0 - hlp w l (X.getD k .no)) : Key) = .inl (0 - hlp w l (X.getD p .no)) := by
        unfold kh at e
        exact (List.cons.inj e).1
      have := Sum.inl.inj this
      omega
    · have q := (List.pairwise_cons.mp pw).1 _ hm
      unfold kh at q
      rw [ltKs_cons] at q
      split at q
      · rename_i e
        have := Sum.inl.inj e
        omega
      · have q' : decide ((0 - hlp w l (X.getD k .no)) < (0 - hlp w l (X.getD p .no))) = false := q
        have := of_decide_eq_false q'
        omega
theorem mkAlone (one : Bool) (l : Str) : mkD one (alone l) = if one then .str l else .tup [.str l] := by
  cases one <;> rfl
theorem aloneOk {one : Bool} {l : Str} (hl : l ∈ cs) : MkOk one cs (alone l) := ⟨fun z e => by cases e; exact ⟨by simp, by simp, by simpa using hl, fun _ => rfl⟩⟩
abbrev tE (nm kd : Str) (cs : List Str) (seats : Int) (way : Str) (one : Bool) (ms : List Mk) (w l : Str) (n : Nat) (e7 e8 e9 e10 : Option D) : EnvD :=
  [some (toldD nm kd cs seats way), some (.lst (ms.map (mkD one))), some (.str w), some (.str l), some (.int 1), some (.loc n), some (mkD one (alone l)), e7, e8, e9, e10]
theorem getD_map {one : Bool} {X : List Mk} {k : Nat} (hk : k < X.length) : (X.map (mkD one))[k]? = some (mkD one (X.getD k .no)) := by
  rw [List.getElem?_map, List.getD_eq_getElem?_getD, List.getElem?_eq_getElem hk]; rfl
theorem getD_mem {X : List Mk} {k : Nat} (hk : k < X.length) : X.getD k .no ∈ X := by
  rw [List.getD_eq_getElem?_getD, List.getElem?_eq_getElem hk]
  exact List.getElem_mem hk
theorem ix_found {one : Bool} {X : List Mk} {k : Nat} (hk : k < X.length) (hX : X.length ≤ 1000) : opIxX (.loc S.length) (.int (k : Nat)) (S ++ [.lst (X.map (mkD one))]) = .ok (mkD one (X.getD k .no)) (S ++ [.lst (X.map (mkD one))]) := by
  have c0 : cel (S ++ [.lst (X.map (mkD one))]) S.length = some (.lst (X.map (mkD one))) := by simp [cel]
  have g := getD_map (one := one) hk
  have w : w63 ((k : Nat) : Int) := w63_is (by omega) (by omega)
  have q := seqIndex_nat (i := k) (n := X.length) hk
  have ai := atI_ofNat (l := X.map (mkD one)) (i := k) (by simpa using hk)
  have g' : (X.map (mkD one))[k]'(by simpa using hk) = mkD one (X.getD k .no) := by
    rw [List.getElem?_eq_getElem (by simpa using hk)] at g
    exact Option.some.inj g
  rw [g'] at ai
  clear g'
  generalize X.getD k .no = a at *
  generalize X.map (mkD one) = XM at *
  simp [c0, ai]
theorem set_found {one : Bool} {X : List Mk} {p : Nat} {a : Mk} (hp : p < X.length) (hX : X.length ≤ 1000) : setX (.loc S.length) (.int (p : Nat)) (mkD one a) (S ++ [.lst (X.map (mkD one))]) = some (S ++ [.lst ((X.set p a).map (mkD one))]) := by
  have c0 : cel (S ++ [.lst (X.map (mkD one))]) S.length = some (.lst (X.map (mkD one))) := by simp [cel]
  have w : w63 ((p : Nat) : Int) := w63_is (by omega) (by omega)
  have q := seqIndex_nat (i := p) (n := X.length) hp
  have e : (X.map (mkD one)).set p (mkD one a) = (X.set p a).map (mkD one) := (List.map_set ..).symm
  have l : (X.map (mkD one)).length = X.length := by simp
  rw [← e]
  generalize X.map (mkD one) = XM at *
  simp [c0, putIx, ixN, w, q, l, hp]
theorem body_ok (t : Told nm kd cs seats way) {ms X : List Mk} (okX : ∀ mk ∈ X, MkOk (decide (kd = "one")) cs mk) (hX : X.length ≤ 1000) {w l : Str} (hl : l ∈ cs) {e7 e8 e9 e10 : Option D} :
    ∃ Y e8' e9' e10', Step w l X Y ∧ ((g__law_turned_b1 (tE nm kd cs seats way (decide (kd = "one")) ms w l S.length e7 e8 e9 e10) (S ++ [.lst (X.map (mkD (decide (kd = "one"))))]) = .nx (tE nm kd cs seats way (decide (kd = "one")) ms w l S.length e7 e8' e9' e10') (S ++ [.lst (Y.map (mkD (decide (kd = "one"))))])) ∨ (g__law_turned_b1 (tE nm kd cs seats way (decide (kd = "one")) ms w l S.length e7 e8 e9 e10) (S ++ [.lst (X.map (mkD (decide (kd = "one"))))]) = .rt (.loc S.length) (S ++ [.lst (Y.map (mkD (decide (kd = "one"))))]))) := by
  obtain ⟨one, ho⟩ : ∃ one, one = decide (kd = "one") := ⟨_, rfl⟩
  rw [← ho] at okX ⊢
  obtain ⟨T, hT⟩ : ∃ T, T = S ++ [Cell.lst (X.map (mkD one))] := ⟨_, rfl⟩
  obtain ⟨L, hL⟩ : ∃ L, L = plc1 l X := ⟨_, rfl⟩
  have inL : ∀ k, k ∈ L ↔ k < X.length ∧ X.getD k .no ≠ alone l := fun k => by
    rw [hL]
    unfold plc1
    rw [List.mem_filter, List.mem_range]
    simp
  have ix : ∀ k, k < X.length → opIxX (.loc S.length) (.int (k : Nat)) T = .ok (mkD one (X.getD k .no)) T := fun k hk => by rw [hT]; exact ix_found hk hX
  have ll : L.length ≤ 1000 := by
    rw [hL]
    refine Nat.le_trans (List.length_filter_le _ _) ?_
    simpa using hX
  have al : MkOk one cs (alone l) := aloneOk hl
  -- places
  have l1 := lcD_fa (S := T) (b := bName 10) (tt := g__law_turned_t1) (elt := eVar 10) (env := [some (toldD nm kd cs seats way), some (.lst (ms.map (mkD one))), some (.str w), some (.str l), some (.int 1), some (.loc S.length), some (mkD one (alone l)), e7, e8, e9, none]) (fun k : Nat => D.int k) (fun k => !decide (X.getD k .no = alone l)) (fun k : Nat => D.int k) (List.range X.length) [] (fun k hk => by
    have hk' := List.mem_range.mp hk
    have i1 := ix k hk'
    have n1 := mk_ne (S := T) t.good (okX _ (getD_mem hk')) al
    refine ⟨_, rfl, ?_, fun _ => by simp⟩
    generalize X.getD k .no = a at *
    generalize mkD one a = da at *
    generalize mkD one (alone l) = db at *
    simp [g__law_turned_t1, i1, n1, -opIxX_ci]) (by simp; omega)
  rw [List.nil_append, ← rg_map] at l1
  have l1' : lcD (bName 10) g__law_turned_t1 (eVar 10) [some (toldD nm kd cs seats way), some (.lst (ms.map (mkD one))), some (.str w), some (.str l), some (.int 1), some (.loc S.length), some (mkD one (alone l)), e7, e8, e9, none] [] (rangeD 0 X.length) T = .ok (L.map fun k : Nat => D.int k) T := by rw [l1, hL]; rfl
  -- how much each helps
  have l2 := lcD_ma (S := T) (b := bName 10) (elt := g__law_turned_e1) (env := [some (toldD nm kd cs seats way), some (.lst (ms.map (mkD one))), some (.str w), some (.str l), some (.int 1), some (.loc S.length), some (mkD one (alone l)), e7, some (.lst (L.map fun k : Nat => D.int k)), e9, none]) (fun k : Nat => D.int k) (fun k => tK (kh w l X k)) L (fun k hk => by
    have hk' := ((inL k).mp hk).1
    have i1 := ix k hk'
    have h1 := help_ok (S := T) t (mk := X.getD k .no) (by rw [← ho]; exact okX _ (getD_mem hk')) (w := w) (l := l)
    rw [← ho] at h1
    refine ⟨_, rfl, ?_⟩
    rw [kh_t]
    generalize X.getD k .no = a at *
    generalize mkD one a = da at *
    generalize mkD one (alone l) = db at *
    generalize toldD nm kd cs seats way = TD at *
    simp [g__law_turned_e1, i1, h1, -opIxX_ci]) (by omega)
  have cT : cel T S.length = some (.lst (X.map (mkD one))) := by rw [hT]; simp [cel]
  have lenX : (X.map (mkD one)).length = X.length := by simp
  have rk : rOk ((X.length : Nat) : Int) := rOk_n (by omega)
  have zx : sz X.length := sz_is (by omega)
  by_cases hE : L = []
  · refine ⟨X, none, none, none, .inl ⟨rfl, fun b hb => ?_⟩, .inr ?_⟩
    · obtain ⟨k, hk, e⟩ := List.getElem_of_mem hb
      have : k ∉ L := by rw [hE]; simp
      rw [inL] at this
      have q : X.getD k .no = alone l := by
        by_cases z : X.getD k .no = alone l
        · exact z
        · exact absurd ⟨hk, z⟩ this
      rw [List.getD_eq_getElem?_getD, List.getElem?_eq_getElem hk, e] at q
      exact q
    · rw [hE] at l1' l2
      simp only [List.map_nil] at l1' l2
      rw [← hT]
      unfold g__law_turned_b1 tE
      generalize toldD nm kd cs seats way = TD at *
      generalize mkD one (alone l) = db at *
      generalize ms.map (mkD one) = MM at *
      generalize X.map (mkD one) = XM at *
      simp [cT, lenX, rk, zx, l1', l2, opEqL0, listD]
  · obtain ⟨p, hp, r, hs, hb⟩ := first_best (w := w) (l := l) (X := X) hE
    have hp' := (inL p).mp hp
    have pg : X[p]? = some (X.getD p .no) := by rw [List.getD_eq_getElem?_getD, List.getElem?_eq_getElem hp'.1]; rfl
    refine ⟨X.set p (alone l), some (.lst (L.map fun k : Nat => D.int k)), some (.lst (L.map fun k => tK (kh w l X k))), e10, .inr ⟨p, X.getD p .no, pg, hp'.2, rfl, fun b hb1 hb2 => ?_⟩, .inl ?_⟩
    · obtain ⟨k, hk, e⟩ := List.getElem_of_mem hb1
      have q : X.getD k .no = b := by rw [List.getD_eq_getElem?_getD, List.getElem?_eq_getElem hk, e]; rfl
      have := hb k ((inL k).mpr ⟨hk, by rw [q]; exact hb2⟩)
      rw [q] at this
      exact this
    · have so := bSortedZ_l (S := T) (kh_form w l X L) (by simpa using hE)
      rw [hs, List.map_map] at so
      have so' : bSortedZ [.lst (L.map fun k => tK (kh w l X k))] T = .ok (.lst (((kh w l X p) :: r).map tK)) T := so
      have st := set_found (S := S) (one := one) (a := alone l) hp'.1 hX
      rw [← hT] at st ⊢
      have hd : ((L.map fun k => tK (kh w l X k)) = []) = False := by simpa using hE
      have e0 : opEqL0 (.lst (L.map fun k => tK (kh w l X k))) (.lst []) T = .ok (.bl false) T := by
        have : ¬ (L.map fun k => tK (kh w l X k)).length = 0 := by
          rw [List.length_map]
          exact fun z => hE (List.length_eq_zero_iff.mp z)
        show ER.ok (.bl (decide ((L.map fun k => tK (kh w l X k)).length = 0))) T = _
        rw [decide_eq_false this]
      have kt := kh_t w l X p
      rw [List.map_cons, kt] at so'
      unfold g__law_turned_b1 tE
      generalize (L.map fun k => tK (kh w l X k)) = HL at *
      generalize (L.map fun k : Nat => D.int k) = PL at *
      generalize 0 - hlp w l (X.getD p .no) = hv at *
      generalize r.map tK = RT at *
      generalize toldD nm kd cs seats way = TD at *
      generalize mkD one (alone l) = db at *
      generalize ms.map (mkD one) = MM at *
      generalize X.map (mkD one) = XM at *
      simp [cT, lenX, rk, zx, l1', l2, e0, so', st]
end DR.K47
end
section
/-! Turned; on top; the same set. -/
namespace DR.K47
open PySem L2 DL DR
variable {S : Store} {nm kd : Str} {cs : List Str} {seats : Int} {way : Str}
theorem frz_mks {one : Bool} {ρ : Nat → Option D} (X : List Mk) : frzDs ρ (X.map (mkD one)) = some (X.map (mkD one)) := frzDs_map (mkD_frz one ρ) X
theorem exit_mks {one : Bool} (X : List Mk) : exitD .pure S (.loc S.length) (S ++ [.lst (X.map (mkD one))]) = .ok (.lst (X.map (mkD one))) S := by
  refine exit_of ?_ (by simp)
  show resD S.length (S ++ [Cell.lst (X.map (mkD one))]) 12 S.length = _
  unfold resD
  rw [if_neg (by omega), show (S ++ [Cell.lst (X.map (mkD one))])[S.length]? = some (.lst (X.map (mkD one))) from by simp]
  dsimp only
  rw [frz_mks]
  rfl
theorem turned_ok1 (t : Told nm kd cs seats way) {ms : List Mk} (okm : ∀ mk ∈ ms, MkOk (decide (kd = "one")) cs mk) (hm : ms.length ≤ 1000) {w l : Str} (hl : l ∈ cs) :
    ∃ Y, d__law_turned [toldD nm kd cs seats way, .lst (ms.map (mkD (decide (kd = "one")))), .str w, .str l, .int 1] S = .ok (.lst (Y.map (mkD (decide (kd = "one"))))) S ∧ Step w l ms Y := by
  obtain ⟨Y, a, b, c, st, h⟩ := body_ok (S := S) (e7 := some (.int 0)) (e8 := none) (e9 := none) (e10 := none) (ms := ms) t okm hm (w := w) hl
  refine ⟨Y, ?_, st⟩
  have ex := exit_mks (S := S) (one := decide (kd = "one")) Y
  have t1 := @told1 S nm kd cs seats way
  have al := mkAlone (decide (kd = "one")) l
  have bl : bListXM [.lst (ms.map (mkD (decide (kd = "one"))))] S = .ok (.loc S.length) (S ++ [.lst (ms.map (mkD (decide (kd = "one"))))]) := rfl
  have rg : rangeD 0 1 = [.int 0] := rfl
  unfold tE at h
  have t1' : ∀ T, opIxX (toldD nm kd cs seats way) (.int 1) T = .ok (.str kd) T := fun T => told1
  have cond : ∀ r T, (eIf (eOp opEq (eOp opIxX (eVar 0) (eC (.int 1))) (eC (.str "one"))) (eVar 3) (eTup (lCons (eVar 3) lNil))) (some (toldD nm kd cs seats way) :: some (.lst (ms.map (mkD (decide (kd = "one"))))) :: some (.str w) :: some (.str l) :: r) T = .ok (mkD (decide (kd = "one")) (alone l)) T := by
    intro r T
    rw [al]
    by_cases ho : kd = "one" <;> simp [t1', ho]
  have r1 : rOk 1 := rOk_i (by decide) (by decide)
  generalize toldD nm kd cs seats way = TD at *
  generalize mkD (decide (kd = "one")) (alone l) = db at *
  generalize ms.map (mkD (decide (kd = "one"))) = MM at *
  generalize Y.map (mkD (decide (kd = "one"))) = YM at *
  rcases h with h | h
  · refine fnRt (S' := S ++ [.lst YM]) (d := .loc S.length) ?_ ex
    unfold g__law_turned
    generalize (eIf (eOp opEq (eOp opIxX (eVar 0) (eC (.int 1))) (eC (.str "one"))) (eVar 3) (eTup (lCons (eVar 3) lNil))) = EI at *
    simp [startD, bl, cond, r1, rg, forD, bName, h]
  · refine fnRt (S' := S ++ [.lst YM]) (d := .loc S.length) ?_ ex
    unfold g__law_turned
    generalize (eIf (eOp opEq (eOp opIxX (eVar 0) (eC (.int 1))) (eC (.str "one"))) (eVar 3) (eTup (lCons (eVar 3) lNil))) = EI at *
    simp [startD, bl, cond, r1, rg, forD, bName, h]
theorem top_ok (t : Told nm kd cs seats way) (hk : kd ≠ "rank") {mks : List Mk} (ok : ∀ mk ∈ mks, MkOk (decide (kd = "one")) cs mk) (hl : mks.length ≤ 1000) {lot : List Str} (hp : lot.Perm cs) (hS : Cln S) :
    d_top [raceD nm kd cs seats way, .lst (mks.map (mkD (decide (kd = "one")))), .tpl (lot.map .str)] S = .ok (tupS (tps mks lot cs seats.toNat)) S := by
  have l5 := t.l5
  have l2 := t.l2
  have nl : d_need_lot [tupS cs, .tup (lot.map .str)] S = .ok .non S := needLot_ok (S := S) hp (by omega)
  have t1 := totals_ok (S := S) t ok hl (.inl rfl)
  have nd : ∀ l ∈ goodsOf mks, l.Nodup := fun l hl => ((goods_mem ok l hl).ok l rfl).2.1
  have tl : tally (decide (kd = "rank")) (goodsOf mks) = cntB hasM mks := by
    rw [decide_eq_false hk]; exact tally_is nd
  rw [tl] at t1
  have b1 : d_best_first [.loc S.length, .tup (lot.map .str)] (S ++ [.dic (kdf cs (cntB hasM mks))]) = .ok (.lst ((ordL (cntB hasM mks) lot cs).map .str)) (S ++ [.dic (kdf cs (cntB hasM mks))]) := bestFirst_cell (S := S) (f := cntB hasM mks) hS (hp.nodup_iff.mpr t.nd) (fun c hc => hp.mem_iff.mpr hc) (fun z => by rw [z] at l2; simp at l2) (by rw [hp.length_eq]; omega) (by omega)
  obtain ⟨n, rfl⟩ := Int.eq_ofNat_of_zero_le (show 0 ≤ seats by have := t.s1; omega)
  have k := cut_hi ((ordL (cntB hasM mks) lot cs).map D.str) n
  unfold tps
  rw [Int.toNat_natCast]
  generalize cntB hasM mks = F at *
  have bt : ∀ l : List D, ∀ S, bTuple [.lst l] S = .ok (.tup l) S := fun _ _ => rfl
  have ex : exitD .pure S (tupS ((ordL F lot cs).take n)) (S ++ [.dic (kdf cs F)]) = .ok (tupS ((ordL F lot cs).take n)) S := exit_of (by simp [frzD, frz_strs, -List.map_take]) (by simp)
  have os : ∀ env S, oSome (eFldC ["Race"] "seats" (eVar 0)) (some (raceD nm kd cs (n : Int) way) :: env) S = .ok (some (n : Int)) S := fun env S => by
    have := seats_ok (S := S) (nm := nm) (kd := kd) (cs := cs) (seats := (n : Int)) (way := way) (env := some (raceD nm kd cs (n : Int) way) :: env) (e := eVar 0) (by simp)
    unfold oSome
    rw [this]
  have on : ∀ env S, oNone env S = .ok none S := fun _ _ => rfl
  have us : ∀ (a b d : Option D) (S : Store), eUn (eVar 2) [a, b, some (.tpl (lot.map .str)), d] S = .ok (.tup (lot.map .str)) S := fun a b d S => un_lot rfl
  simp only [d_top, g_top, fnF]
  rw [← List.map_take] at k
  simp [startD, nl, t1, b1, os, on, k, bt, ex, us, -List.map_take]
theorem keys_tup {A : List Str} : (seqD S (tupS A)).bind keysD = some (A.map .inr) := by
  show (some (A.map D.str)).bind keysD = _
  rw [Option.bind_some, keysD_str]
theorem sameK_S {A B : List Str} : sameK (A.map .inr) (B.map .inr) = sameS A B := by
  rw [Bool.eq_iff_iff, sameK_strs, sameS_is]
theorem set_tt {neg : Bool} {fa fb : EM} {env : EnvD} {A B : List Str} (ha : fa env S = .ok (tupS A) S) (hb : fb env S = .ok (tupS B) S) (la : A.length ≤ 1000) (lb : B.length ≤ 1000) :
    eSetEq neg fa fb env S = .ok (.bl (if neg then !(sameS A B) else sameS A B)) S := by
  unfold eSetEq
  rw [ha]
  show (match (seqD S (tupS A)).bind keysD with | some ks => _ | none => _) = _
  rw [keys_tup]
  dsimp only
  rw [if_pos (few_is (by simp; omega)), hb]
  dsimp only
  rw [keys_tup]
  dsimp only
  rw [if_pos (few_is (by simp; omega)), sameK_S]
end DR.K47
end
section
/-! The law's first part: what is due. -/
namespace DR.K47
open PySem L2 DL DR
variable {S : Store} {nm kd : Str} {cs : List Str} {way : Str}
abbrev rE (cell : Int) (k0 : Nat) (nm kd : Str) (cs : List Str) (n : Nat) (way : Str) (ms : List Mk) (lot fs : List Str) (due : Nat) (e9 e10 e11 e12 e13 e14 e15 : Option D) : EnvD :=
  [some (.int cell), some (.int (k0 : Nat)), some (.loc 0), some (toldD nm kd cs (n : Int) way), some (.lst (ms.map (mkD (decide (kd = "one"))))), some (.tpl (lot.map .str)), some (raceD nm kd cs (n : Int) way), some (tupS fs), some (.int (due : Nat)), e9, e10, e11, e12, e13, e14, e15]
/-- where the turning for one pair ends -/
structure Ends (lot cs : List Str) (n : Nat) (ms : List Mk) (w l : Str) (due m : Nat) (Y : List Mk) : Prop where
  le : m ≤ due
  st : Steps w l m ms Y
  off : m < due → sameS (tps Y lot cs n) (tps ms lot cs n) = false
  on : ∀ i, i < m → ∃ Z, Steps w l i ms Z ∧ sameS (tps Z lot cs n) (tps ms lot cs n) = true
theorem Steps.len {w l : Str} {k : Nat} {X Y : List Mk} (h : Steps w l k X Y) : Y.length = X.length := by
  induction h with
  | zero => rfl
  | succ s _ ih => rw [ih, s.len]
theorem Steps.mem {w l : Str} {k : Nat} {X Y : List Mk} (h : Steps w l k X Y) : ∀ b ∈ Y, b ∈ X ∨ b = alone l := by
  induction h with
  | zero => exact fun b hb => .inl hb
  | succ s _ ih =>
    intro b hb
    rcases ih b hb with h | h
    · exact s.mem b h
    · exact .inr h
theorem dif_self : ∀ X : List Mk, dif X X = 0
  | [] => rfl
  | x :: X => by rw [dif_same, dif_self X]
theorem Steps.dif {w l : Str} {k : Nat} {X Y : List Mk} (h : Steps w l k X Y) : ∀ ms, DR.dif Y ms ≤ DR.dif X ms + k := by
  induction h with
  | zero => intro ms; omega
  | succ s _ ih =>
    intro ms
    have := ih ms
    have := s.dif (ms := ms)
    omega
theorem while_ok {n : Nat} {cell : Int} {k0 : Nat} {ms : List Mk} {lot : List Str} (t : Told nm kd cs (n : Int) way) (hk : kd ≠ "rank") (lp : lot.Perm cs) (hS : Cln S) (okm : ∀ mk ∈ ms, MkOk (decide (kd = "one")) cs mk) (hm : ms.length ≤ 100)
    {w l : Str} (hl : l ∈ cs) {due : Nat} (hd : due ≤ 1000) {e13 e14 e15 : Option D} :
    ∀ (fuel j : Nat) (X : List Mk), Steps w l j ms X → (∀ i, i < j → ∃ Z, Steps w l i ms Z ∧ sameS (tps Z lot cs n) (tps ms lot cs n) = true) → j ≤ due → due - j < fuel →
      ∃ m Y, whileD g__law_right_c1 g__law_right_b1 fuel (rE cell k0 nm kd cs n way ms lot (tps ms lot cs n) due (some (.str w)) (some (.str l)) (some (.int (j : Nat))) (some (.lst (X.map (mkD (decide (kd = "one")))))) e13 e14 e15) S = .nx (rE cell k0 nm kd cs n way ms lot (tps ms lot cs n) due (some (.str w)) (some (.str l)) (some (.int (m : Nat))) (some (.lst (Y.map (mkD (decide (kd = "one")))))) e13 e14 e15) S ∧ Ends lot cs n ms w l due m Y := by
  intro fuel
  induction fuel with
  | zero => intro j X _ _ _ h; omega
  | succ fuel ih =>
    intro j X st on hj hf
    have okX : ∀ mk ∈ X, MkOk (decide (kd = "one")) cs mk := fun mk hmk => (st.mem mk hmk).elim (okm mk) fun e => e ▸ aloneOk hl
    have lX := st.len
    have l5 := t.l5
    have tl : ∀ Z : List Mk, (tps Z lot cs n).length ≤ 1000 := fun Z => by
      unfold tps
      rw [List.length_take, ord_len]
      omega
    have tp := top_ok (S := S) t hk okX (by omega) lp hS
    rw [Int.toNat_natCast] at tp
    obtain ⟨Y, ty, sy⟩ := turned_ok1 (S := S) t okX (by omega) (w := w) hl
    have ss := set_tt (S := S) (neg := false) (fa := eCall d_top (lCons (eVar 6) (lCons (eVar 12) (lCons (eVar 5) lNil)))) (fb := eVar 7) (env := rE cell k0 nm kd cs n way ms lot (tps ms lot cs n) due (some (.str w)) (some (.str l)) (some (.int (j : Nat))) (some (.lst (X.map (mkD (decide (kd = "one")))))) e13 e14 e15) (A := tps X lot cs n) (B := tps ms lot cs n)
      (by
        unfold rE
        generalize toldD nm kd cs (n : Int) way = TD at *
        generalize raceD nm kd cs (n : Int) way = RD at *
        generalize X.map (mkD (decide (kd = "one"))) = XM at *
        generalize lot.map D.str = LT at *
        simp [tp]) rfl (tl X) (tl ms)
    rw [if_neg (by simp)] at ss
    have cnd : g__law_right_c1 (rE cell k0 nm kd cs n way ms lot (tps ms lot cs n) due (some (.str w)) (some (.str l)) (some (.int (j : Nat))) (some (.lst (X.map (mkD (decide (kd = "one")))))) e13 e14 e15) S = .ok (.bl (decide (j < due) && sameS (tps X lot cs n) (tps ms lot cs n))) S := by
      unfold g__law_right_c1
      rw [eAnd_is]
      have q : (eOp opLt (eVar 11) (eVar 8)) (rE cell k0 nm kd cs n way ms lot (tps ms lot cs n) due (some (.str w)) (some (.str l)) (some (.int (j : Nat))) (some (.lst (X.map (mkD (decide (kd = "one")))))) e13 e14 e15) S = .ok (.bl (decide (j < due))) S := by
        unfold rE
        generalize toldD nm kd cs (n : Int) way = TD at *
        generalize raceD nm kd cs (n : Int) way = RD at *
        generalize X.map (mkD (decide (kd = "one"))) = XM at *
        simp
      rw [q]
      by_cases z : j < due
      · rw [decide_eq_true z, Bool.true_and]
        exact ss
      · rw [decide_eq_false z]; rfl
    rw [whileD_succ, cnd]
    by_cases z : j < due
    · rw [decide_eq_true z, Bool.true_and]
      cases hs : sameS (tps X lot cs n) (tps ms lot cs n) with
      | false =>
        exact ⟨j, X, rfl, ⟨hj, st, fun _ => hs, on⟩⟩
      | true =>
        have bd : g__law_right_b1 (rE cell k0 nm kd cs n way ms lot (tps ms lot cs n) due (some (.str w)) (some (.str l)) (some (.int (j : Nat))) (some (.lst (X.map (mkD (decide (kd = "one")))))) e13 e14 e15) S = .nx (rE cell k0 nm kd cs n way ms lot (tps ms lot cs n) due (some (.str w)) (some (.str l)) (some (.int ((j + 1 : Nat) : Int))) (some (.lst (Y.map (mkD (decide (kd = "one")))))) e13 e14 e15) S := by
          unfold rE g__law_right_b1
          generalize toldD nm kd cs (n : Int) way = TD at *
          generalize raceD nm kd cs (n : Int) way = RD at *
          generalize X.map (mkD (decide (kd = "one"))) = XM at *
          generalize Y.map (mkD (decide (kd = "one"))) = YM at *
          generalize ms.map (mkD (decide (kd = "one"))) = MM at *
          simp [ty]
        obtain ⟨m, Z, e, en⟩ := ih (j + 1) Y (st.snoc sy) (fun i hi => by
          by_cases h : i < j
          · exact on i h
          · have : i = j := by omega
            subst this
            exact ⟨X, st, hs⟩) (by omega) (by omega)
        refine ⟨m, Z, ?_, en⟩
        dsimp only
        rw [bd]
        exact e
    · rw [decide_eq_false z]
      exact ⟨j, X, rfl, ⟨hj, st, fun h => absurd h z, on⟩⟩
/-- what is due so far -/
structure Due (lot cs : List Str) (n : Nat) (ms : List Mk) (due : Nat) : Prop where
  le : due ≤ ms.length + 1
  ex : due = ms.length + 1 ∨ ∃ Y : List Mk, Y.length = ms.length ∧ sameS (tps Y lot cs n) (tps ms lot cs n) = false ∧ dif Y ms ≤ due
theorem Due.next {lot : List Str} {n : Nat} {ms : List Mk} {due m : Nat} {w l : Str} {Y : List Mk} (d : Due lot cs n ms due) (e : Ends lot cs n ms w l due m Y) : Due lot cs n ms m := by
  have h1 := e.le
  have h2 := d.le
  refine ⟨by omega, ?_⟩
  by_cases z : m < due
  · have := e.st.dif ms
    rw [dif_self] at this
    exact .inr ⟨Y, e.st.len, e.off z, by omega⟩
  · have : m = due := by omega
    rw [this]
    exact d.ex
theorem Ends.pair {lot : List Str} {n : Nat} {ms : List Mk} {due m k : Nat} {w l : Str} {Y : List Mk} (e : Ends lot cs n ms w l due m Y) (nd : cs.Nodup) (lp : lot.Perm cs) (hw : w ∈ tps ms lot cs n) (hl : l ∈ (ordL (cntB hasM ms) lot cs).drop n) (hk : pairN ms lot w l = some k) : m ≤ k := by
  by_cases h : k < m
  · obtain ⟨Z, s, q⟩ := e.on k h
    have := steps_turn nd lp hw hl hk s
    rw [q] at this
    cases this
  · omega
theorem Due.margin {lot : List Str} {n : Nat} {ms : List Mk} {due : Nat} (d : Due lot cs n ms due) (nd : cs.Nodup) (lp : lot.Perm cs) (hn : n ≤ cs.length)
    (hp : ∀ w ∈ tps ms lot cs n, ∀ l ∈ (ordL (cntB hasM ms) lot cs).drop n, ∀ k, pairN ms lot w l = some k → due ≤ k) : ((due : Nat) : Int) = marginN ms lot cs n := by
  have h1 := d.le
  refine Int.le_antisymm ?_ ?_
  · rcases margin_mem (ms := ms) (lot := lot) (cs := cs) (n := n) with e | ⟨w, hw, l, hl, k, hk, e⟩
    · rw [e]; omega
    · have := hp w hw l hl k hk
      rw [e]; omega
  · rcases d.ex with e | ⟨Y, h2, h3, h4⟩
    · rw [e]; exact margin_le
    · by_cases z : ((dif Y ms : Nat) : Int) < marginN ms lot cs n
      · rw [few_same nd lp hn h2 z] at h3
        cases h3
      · omega
end DR.K47
end
section
/-! The law's first part: all pairs. -/
namespace DR.K47
open PySem L2 DL DR
variable {S : Store} {nm kd : Str} {cs : List Str} {way : Str}
section
variable {n : Nat} {cell : Int} {k0 : Nat} {ms : List Mk} {lot : List Str} (t : Told nm kd cs (n : Int) way) (hk : kd ≠ "rank") (lp : lot.Perm cs) (hS : Cln S) (okm : ∀ mk ∈ ms, MkOk (decide (kd = "one")) cs mk) (hm : ms.length ≤ 100)
include t hk lp hS okm hm
theorem pair_ok {w l : Str} (hl : l ∈ cs) {due : Nat} (hd : due ≤ 1000) {e11 e12 e13 e14 e15 : Option D} :
    ∃ m Y, g__law_right_b2 (rE cell k0 nm kd cs n way ms lot (tps ms lot cs n) due (some (.str w)) (some (.str l)) e11 e12 e13 e14 e15) S = .nx (rE cell k0 nm kd cs n way ms lot (tps ms lot cs n) m (some (.str w)) (some (.str l)) (some (.int (m : Nat))) (some (.lst (Y.map (mkD (decide (kd = "one")))))) e13 e14 e15) S ∧ Ends lot cs n ms w l due m Y := by
  obtain ⟨m, Y, e, en⟩ := while_ok (cell := cell) (k0 := k0) (e13 := e13) (e14 := e14) (e15 := e15) t hk lp hS okm hm (w := w) hl hd bigN 0 ms (.zero _) (fun i h => by omega) (Nat.zero_le _) (by unfold bigN; omega)
  refine ⟨m, Y, ?_, en⟩
  have mn : minII (due : Int) (m : Int) = (m : Int) := by
    have := en.le
    unfold minII
    split <;> omega
  unfold rE at e ⊢
  unfold g__law_right_b2
  generalize toldD nm kd cs (n : Int) way = TD at *
  generalize raceD nm kd cs (n : Int) way = RD at *
  generalize Y.map (mkD (decide (kd = "one"))) = YM at *
  generalize ms.map (mkD (decide (kd = "one"))) = MM at *
  have e' : whileD g__law_right_c1 g__law_right_b1 bigN [some (D.int cell), some (D.int (k0 : Nat)), some (D.loc 0), some TD, some (D.lst MM), some (D.tpl (lot.map D.str)), some RD, some (tupS (tps ms lot cs n)), some (D.int (due : Nat)), some (D.str w), some (D.str l), some (.int 0), some (D.lst MM), e13, e14, e15] S = _ := e
  simp [e', mn]
theorem losers_loop {w : Str} : ∀ (ls : List Str) (due : Nat) (e10 e11 e12 e13 e14 e15 : Option D), (∀ l ∈ ls, l ∈ cs) → Due lot cs n ms due → (∀ l ∈ ls, l ∈ (ordL (cntB hasM ms) lot cs).drop n) → w ∈ tps ms lot cs n →
    ∃ due' e10' e11' e12', forD (bName 10) g__law_right_b2 (ls.map .str) (rE cell k0 nm kd cs n way ms lot (tps ms lot cs n) due (some (.str w)) e10 e11 e12 e13 e14 e15) S = .nx (rE cell k0 nm kd cs n way ms lot (tps ms lot cs n) due' (some (.str w)) e10' e11' e12' e13 e14 e15) S ∧ Due lot cs n ms due' ∧ due' ≤ due ∧ ∀ l ∈ ls, ∀ k, pairN ms lot w l = some k → due' ≤ k
  | [], due, e10, e11, e12, _, _, _, _, d, _, _ => ⟨due, e10, e11, e12, rfl, d, Nat.le_refl _, fun l h => by simp at h⟩
  | l :: ls, due, e10, e11, e12, e13, e14, e15, hl, d, hdr, hw => by
    obtain ⟨m, Y, e, en⟩ := pair_ok (S := S) (cell := cell) (k0 := k0) t hk lp hS okm hm (w := w) (hl l List.mem_cons_self) (due := due) (by have := d.le; omega) (e11 := e11) (e12 := e12) (e13 := e13) (e14 := e14) (e15 := e15)
    obtain ⟨due', a, b, c, f, d', le, al⟩ := losers_loop ls m (some (.str l)) (some (.int (m : Nat))) (some (.lst (Y.map (mkD (decide (kd = "one")))))) e13 e14 e15 (fun x hx => hl x (List.mem_cons_of_mem _ hx)) (d.next en) (fun x hx => hdr x (List.mem_cons_of_mem _ hx)) hw
    refine ⟨due', a, b, c, ?_, d', Nat.le_trans le en.le, fun x hx k hk' => ?_⟩
    · rw [List.map_cons]
      exact forC rfl e f
    · rcases List.mem_cons.mp hx with rfl | hx
      · exact Nat.le_trans le (en.pair t.nd lp hw (hdr x List.mem_cons_self) hk')
      · exact al x hx k hk'
theorem loser_is : ∀ l, l ∈ cs.filter (fun c => !decide (c ∈ tps ms lot cs n)) ↔ l ∈ (ordL (cntB hasM ms) lot cs).drop n := fun l => by
  have p := ord_perm (cntB hasM ms) lot cs
  have n1 : (ordL (cntB hasM ms) lot cs).Nodup := p.nodup_iff.mpr t.nd
  have m : l ∈ cs ↔ l ∈ (ordL (cntB hasM ms) lot cs).take n ∨ l ∈ (ordL (cntB hasM ms) lot cs).drop n := by
    rw [← List.mem_append, List.take_append_drop]
    exact p.mem_iff.symm
  rw [← List.take_append_drop n (ordL (cntB hasM ms) lot cs), List.nodup_append] at n1
  unfold tps
  rw [List.mem_filter, m]
  simp only [Bool.not_eq_true', decide_eq_false_iff_not]
  constructor
  · rintro ⟨h1, h2⟩
    exact h1.resolve_left h2
  · intro h
    exact ⟨.inr h, fun z => n1.2.2 l z l h rfl⟩
theorem winner_ok {w : Str} (hw : w ∈ tps ms lot cs n) {due : Nat} (d : Due lot cs n ms due) {e10 e11 e12 e13 e14 e15 : Option D} :
    ∃ due' e10' e11' e12', g__law_right_b3 (rE cell k0 nm kd cs n way ms lot (tps ms lot cs n) due (some (.str w)) e10 e11 e12 e13 e14 e15) S = .nx (rE cell k0 nm kd cs n way ms lot (tps ms lot cs n) due' (some (.str w)) e10' e11' e12' e13 e14 e15) S ∧ Due lot cs n ms due' ∧ due' ≤ due ∧ ∀ l ∈ (ordL (cntB hasM ms) lot cs).drop n, ∀ k, pairN ms lot w l = some k → due' ≤ k := by
  have li := loser_is (n := n) (ms := ms) (lot := lot) t hk lp hS okm hm
  obtain ⟨ls, hls⟩ : ∃ ls, ls = cs.filter (fun c => !decide (c ∈ tps ms lot cs n)) := ⟨_, rfl⟩
  rw [← hls] at li
  have lcs : ∀ l ∈ ls, l ∈ cs := fun l hl => by rw [hls] at hl; exact (List.mem_filter.mp hl).1
  obtain ⟨due', a, b, c, f, d', le, al⟩ := losers_loop (S := S) (cell := cell) (k0 := k0) t hk lp hS okm hm (w := w) ls due e10 e11 e12 e13 e14 e15 lcs d (fun l hl => (li l).mp hl) hw
  refine ⟨due', a, b, c, ?_, d', le, fun l hl => al l ((li l).mpr hl)⟩
  have l1 := lcD_fa (S := S) (b := bName 15) (tt := g__law_right_t1) (elt := eVar 15) (env := rE cell k0 nm kd cs n way ms lot (tps ms lot cs n) due (some (.str w)) e10 e11 e12 e13 e14 none) D.str (fun c => !decide (c ∈ tps ms lot cs n)) D.str cs [] (fun x hx => by
    have q : opNotIn (.str x) (tupS (tps ms lot cs n)) S = .ok (.bl (!decide (x ∈ tps ms lot cs n))) S := notIn_strs
    refine ⟨_, rfl, ?_, fun _ => ?_⟩
    · unfold g__law_right_t1 rE
      generalize toldD nm kd cs (n : Int) way = TD at *
      generalize raceD nm kd cs (n : Int) way = RD at *
      generalize ms.map (mkD (decide (kd = "one"))) = MM at *
      generalize hT : tupS (tps ms lot cs n) = TT at *
      simp [q]
    · simp [rE]) (by have := t.l5; simp; omega)
  rw [List.nil_append, ← hls] at l1
  have t2 : ∀ T, opIxX (toldD nm kd cs (n : Int) way) (.int 2) T = .ok (tupS cs) T := fun T => told2
  unfold g__law_right_b3
  unfold rE at f l1 ⊢
  generalize toldD nm kd cs (n : Int) way = TD at *
  generalize raceD nm kd cs (n : Int) way = RD at *
  generalize ms.map (mkD (decide (kd = "one"))) = MM at *
  generalize hT : tupS (tps ms lot cs n) = TT at *
  generalize ls.map D.str = LS at *
  simp [t2, l1, f]
theorem winners_loop : ∀ (ws : List Str) (due : Nat) (e9 e10 e11 e12 e13 e14 e15 : Option D), (∀ w ∈ ws, w ∈ tps ms lot cs n) → Due lot cs n ms due →
    ∃ due' e9' e10' e11' e12', forD (bName 9) g__law_right_b3 (ws.map .str) (rE cell k0 nm kd cs n way ms lot (tps ms lot cs n) due e9 e10 e11 e12 e13 e14 e15) S = .nx (rE cell k0 nm kd cs n way ms lot (tps ms lot cs n) due' e9' e10' e11' e12' e13 e14 e15) S ∧ Due lot cs n ms due' ∧ due' ≤ due ∧ ∀ w ∈ ws, ∀ l ∈ (ordL (cntB hasM ms) lot cs).drop n, ∀ k, pairN ms lot w l = some k → due' ≤ k
  | [], due, e9, e10, e11, e12, _, _, _, _, d => ⟨due, e9, e10, e11, e12, rfl, d, Nat.le_refl _, fun l h => by simp at h⟩
  | w :: ws, due, e9, e10, e11, e12, e13, e14, e15, hw, d => by
    obtain ⟨m, a, b, c, e, d1, le1, al1⟩ := winner_ok (S := S) (cell := cell) (k0 := k0) t hk lp hS okm hm (hw w List.mem_cons_self) d (e10 := e10) (e11 := e11) (e12 := e12) (e13 := e13) (e14 := e14) (e15 := e15)
    obtain ⟨due', a', b', c', d'', f, d2, le2, al2⟩ := winners_loop ws m (some (.str w)) a b c e13 e14 e15 (fun x hx => hw x (List.mem_cons_of_mem _ hx)) d1
    refine ⟨due', a', b', c', d'', ?_, d2, Nat.le_trans le2 le1, fun x hx l hl k hk' => ?_⟩
    · rw [List.map_cons]
      exact forC rfl e f
    · rcases List.mem_cons.mp hx with rfl | hx
      · exact Nat.le_trans le2 (al1 l hl k hk')
      · exact al2 x hx l hl k hk'
/-- what is due is the margin -/
theorem due_ok (e9 e10 e11 e12 e13 e14 e15 : Option D) : ∃ (due : Nat) (e9' e10' e11' e12' : Option D), forD (bName 9) g__law_right_b3 ((tps ms lot cs n).map .str) (rE cell k0 nm kd cs n way ms lot (tps ms lot cs n) (ms.length + 1) e9 e10 e11 e12 e13 e14 e15) S = .nx (rE cell k0 nm kd cs n way ms lot (tps ms lot cs n) due e9' e10' e11' e12' e13 e14 e15) S ∧ ((due : Nat) : Int) = marginN ms lot cs n ∧ due ≤ ms.length + 1 := by
  obtain ⟨due, a, b, c, d, f, du, le, al⟩ := winners_loop (S := S) (cell := cell) (k0 := k0) t hk lp hS okm hm (tps ms lot cs n) (ms.length + 1) e9 e10 e11 e12 e13 e14 e15 (fun _ h => h) ⟨Nat.le_refl _, .inl rfl⟩
  exact ⟨due, a, b, c, d, f, du.margin t.nd lp (by have := t.s2; omega) al, le⟩
end
end DR.K47
end
section
namespace DR.K47
open PySem L2 DL DR
variable {S : Store}
theorem nextT {c : Cell} {m : Nat} {T : Store} (n : Int) (d : Drw c m) (hm : m ≤ 100000) (hn : 0 < n) (hn2 : n < 1073741824) :
    ∃ x c', d__law_next [.loc 0, .int n] (c :: T) = .ok (.int x) (c' :: T) ∧ 0 ≤ x ∧ x < n ∧ Drw c' (m + 1) := next_ok (S := c :: T) (l := 0) rfl d hm hn hn2
theorem shuffle_loopT {α : Type} (f : α → D) (T : Store) {elt : EM} {env : EnvD} (he : ∀ (k : D) (S : Store), elt (env.set 3 (some k)) S = (eMeth "list" mPopAt (eC (.loc (T.length + 1))) (lCons (eCall d__law_next (lCons (eC (.loc 0)) (lCons (eCallB bLenX (lCons (eC (.loc (T.length + 1))) lNil)) lNil))) lNil)) env S) :
    ∀ (n : Nat) (ds : List D) (l : List α) (acc : List D) (c : Cell) (m : Nat), l.length = n → ds.length = n → acc.length + n ≤ 1000 → Drw c m → m + n ≤ 90000 →
      ∃ (l' : List α) (c' : Cell), lcD (bName 3) eYes elt env acc ds (c :: (T ++ [.lst (l.map f)])) = .ok (acc ++ l'.map f) (c' :: (T ++ [.lst []])) ∧ l'.Perm l ∧ Drw c' (m + n) := by
  intro n
  induction n with
  | zero =>
    intro ds l acc c m hl hd _ d _
    have e1 := List.length_eq_zero_iff.mp hl
    have e2 := List.length_eq_zero_iff.mp hd
    subst e1 e2
    exact ⟨[], c, by simp, .refl _, d⟩
  | succ n ih =>
    intro ds l acc c m hl hd ha d hm
    cases ds with
    | nil => simp at hd
    | cons k ds =>
      obtain ⟨i, c1, n1, i0, i1, d1⟩ := nextT (T := T ++ [.lst (l.map f)]) (c := c) (l.length : Int) d (by omega) (by omega) (by omega)
      obtain ⟨j, rfl⟩ := Int.eq_ofNat_of_zero_le i0
      have hj : j < l.length := by omega
      obtain ⟨l', c', h1, h2, h3⟩ := ih ds (l.eraseIdx j) (acc ++ [f l[j]]) c1 (m + 1) (by rw [List.length_eraseIdx_of_lt hj]; omega) (by simpa using hd) (by simp; omega) d1 (by omega)
      refine ⟨l[j] :: l', c', ?_, ?_, by rw [show m + (n + 1) = m + 1 + n by omega]; exact h3⟩
      · unfold lcD
        dsimp only [bName, eYes]
        rw [he]
        have w : w63 ((j : Nat) : Int) := w63_is (by omega) (by omega)
        have q := seqIndex_nat (i := j) (n := l.length) hj
        have ee : (eMeth "list" mPopAt (eC (.loc (T.length + 1))) (lCons (eCall d__law_next (lCons (eC (.loc 0)) (lCons (eCallB bLenX (lCons (eC (.loc (T.length + 1))) lNil)) lNil))) lNil)) env (c :: (T ++ [.lst (l.map f)])) = .ok (f l[j]) (c1 :: (T ++ [.lst ((l.eraseIdx j).map f)])) := by
          have c0 : cel (c :: (T ++ [.lst (l.map f)])) (T.length + 1) = some (.lst (l.map f)) := by simp [cel]
          have c2 : cel (c1 :: (T ++ [.lst (l.map f)])) (T.length + 1) = some (.lst (l.map f)) := by simp [cel]
          have em : (l.map f).eraseIdx j = (l.eraseIdx j).map f := eraseIdx_mapD f l j
          simp [c0, c2, n1, w, q, hj, em]
        rw [ee]
        dsimp only
        rw [if_pos (show sz (acc.length + 1) from sz_is (by omega)), h1]
        simp
      · exact (List.Perm.cons _ h2).trans (perm_out l j hj)
/-- cells that hold no others -/
def Flat (T : Store) : Prop := ∀ n, T.all (Cell.bel n) = true
theorem exit_drawT {c c' : Cell} {T T2 : Store} {d d' : D} (h : frzD (resD (T.length + 1) (c' :: (T ++ T2)) 12) d = some d') (hb : c'.bel (T.length + 1) = true) (fT : Flat T) : exitD .pure (c :: T) d (c' :: (T ++ T2)) = .ok d' (c' :: T) := by
  have tk : (c' :: (T ++ T2)).take (T.length + 1) = c' :: T := by simp
  unfold exitD
  rw [show (c :: T).length = T.length + 1 from rfl, h]
  dsimp only
  rw [tk, if_pos (.inr (by rw [List.all_cons, hb, fT]; rfl))]
theorem shufT {α : Type} {T : Store} (fT : Flat T) (f : α → D) (hf : ∀ ρ a, frzD ρ (f a) = some (f a)) (l : List α) {c : Cell} {m : Nat} (d : Drw c m) (hm : m + l.length ≤ 90000) (hl : l.length ≤ 900) :
    ∃ (l' : List α) (c' : Cell), d__law_shuffled [.loc 0, .lst (l.map f)] (c :: T) = .ok (.lst (l'.map f)) (c' :: T) ∧ l'.Perm l ∧ Drw c' (m + l.length) := by
  obtain ⟨l', c', h1, h2, h3⟩ := shuffle_loopT f T (elt := g__law_shuffled_e1) (env := [some (.loc 0), some (.lst (l.map f)), some (.loc (T.length + 1)), none]) (fun k S => rfl) l.length (rangeD 0 l.length) l [] c m rfl (by simp) (by simp; omega) d hm
  refine ⟨l', c', ?_, h2, h3⟩
  have r : rOk (l.length : Int) := rOk_n (by omega)
  have ex := exit_drawT (c := c) (c' := c') (T := T) (T2 := [.lst []]) (d := .lst (l'.map f)) (d' := .lst (l'.map f)) (by simp [frzD, frzDs_map (hf _)]) h3.bel fT
  simp only [List.nil_append] at h1
  have z : sz l.length := sz_is (by omega)
  have c0 : cel (c :: (T ++ [.lst (l.map f)])) (T.length + 1) = some (.lst (l.map f)) := by simp [cel]
  simp [d__law_shuffled, g__law_shuffled, r, z, c0, h1, ex]
theorem pickTT {c : Cell} {m : Nat} {T : Store} (ds : List D) (d : Drw c m) (hm : m ≤ 100000) (hn : ds ≠ []) (hn2 : ds.length < 1073741824) :
    ∃ x ∈ ds, ∃ c', d__law_pick [.loc 0, .tup ds] (c :: T) = .ok x (c' :: T) ∧ Drw c' (m + 1) := pick_okT (S := c :: T) (l := 0) rfl d hm hn hn2
theorem lc_pickT {T : Store} {elt tt : EM} {env : EnvD} {i : Nat} (he : ∀ (s : Str) (c : Cell) (m : Nat), Drw c m → m ≤ 90000 → ∃ (b : Bool) (c' : Cell), tt (env.set i (some (.str s))) (c :: T) = .ok (.bl b) (c' :: T) ∧ Drw c' (m + 1)) (hv : ∀ (s : Str) (S : Store), elt (env.set i (some (.str s))) S = .ok (.str s) S) :
    ∀ (ss : List Str) (acc : List Str) (c : Cell) (m : Nat), Drw c m → m + ss.length ≤ 90000 → acc.length + ss.length ≤ 100000 →
      ∃ (l : List Str) (c' : Cell), lcD (bName i) tt elt env (acc.map .str) (ss.map .str) (c :: T) = .ok ((acc ++ l).map .str) (c' :: T) ∧ l.Sublist ss ∧ Drw c' (m + ss.length)
  | [], acc, c, m, d, _, _ => ⟨[], c, by simp, .slnil, d⟩
  | s :: ss, acc, c, m, d, hm, hl => by
    have hl' : acc.length + (ss.length + 1) ≤ 100000 := hl
    have hm' : m + (ss.length + 1) ≤ 90000 := hm
    obtain ⟨b, c1, h1, h3⟩ := he s c m d (by omega)
    cases b with
    | true =>
      obtain ⟨l, c2, h4, h5, h7⟩ := lc_pickT he hv ss (acc ++ [s]) c1 (m + 1) h3 (by omega) (by simp; omega)
      refine ⟨s :: l, c2, ?_, h5.cons₂ s, ?_⟩
      · rw [List.map_cons]
        unfold lcD
        dsimp only [bName]
        rw [h1]
        dsimp only
        rw [hv]
        dsimp only
        rw [if_pos (show sz ((acc.map D.str).length + 1) from sz_is (by simp; omega))]
        have e : acc.map D.str ++ [D.str s] = (acc ++ [s]).map D.str := by simp
        rw [e, h4]
        simp
      · rw [show m + (s :: ss).length = m + 1 + ss.length by simp; omega]; exact h7
    | false =>
      obtain ⟨l, c2, h4, h5, h7⟩ := lc_pickT he hv ss acc c1 (m + 1) h3 (by omega) (by omega)
      refine ⟨l, c2, ?_, h5.cons s, ?_⟩
      · rw [List.map_cons]
        unfold lcD
        dsimp only [bName]
        rw [h1]
        dsimp only
        rw [h4]
      · rw [show m + (s :: ss).length = m + 1 + ss.length by simp; omega]; exact h7
theorem markT_ok {T : Store} (fT : Flat T) {nm kd : Str} {cs : List Str} {seats : Int} {way : Str} {c : Cell} {m : Nat} (t : Told nm kd cs seats way) (d : Drw c m) (hm : m ≤ 80000) :
    ∃ mk c', d__law_mark [.loc 0, toldD nm kd cs seats way] (c :: T) = .ok (mkD (decide (kd = "one")) mk) (c' :: T) ∧ MkOk (decide (kd = "one")) cs mk ∧ Drw c' (m + 20) := by
  obtain ⟨x, c1, n1, x0, x1, d1⟩ := nextT (T := T) 9 d (by omega) (by decide) (by decide)
  have l5 := t.l5
  have l2 := t.l2
  have hne : cs ≠ [] := fun z => by rw [z] at l2; simp at l2
  by_cases h0 : x = 0
  · subst h0
    refine ⟨.no, c1, ?_, ⟨fun l z => by cases z⟩, d1.mono (by omega)⟩
    simp [d__law_mark, g__law_mark, n1, exitD, mkD]
  · by_cases h1 : x = 1
    · subst h1
      refine ⟨.odd, c1, ?_, ⟨fun l z => by cases z⟩, d1.mono (by omega)⟩
      simp [d__law_mark, g__law_mark, n1, exitD, mkD]
    · have h2 : ¬ x < 2 := by omega
      by_cases ho : kd = "one"
      · obtain ⟨y, hy, c2, p2, d2⟩ := pickTT (T := T) (cs.map .str) d1 (by omega) (by simpa using hne) (by simp; omega)
        obtain ⟨s, hs, rfl⟩ := List.mem_map.mp hy
        refine ⟨.good [s], c2, ?_, ⟨fun l z => ?_⟩, d2.mono (by omega)⟩
        · simp [d__law_mark, g__law_mark, n1, h2, ho, p2, exitD, mkD]
        · cases z
          exact ⟨by simp, by simp, by simpa using hs, fun _ => rfl⟩
      · obtain ⟨l, c2, e2, sl, d2⟩ := lc_pickT (T := T) (tt := g__law_mark_t1) (elt := eVar 5) (env := [some (.loc 0), some (toldD nm kd cs seats way), some (.int x), some (tupS cs), none, none]) (i := 5) (fun s c m d hm => by
          obtain ⟨b, c', q, _, _, d'⟩ := nextT (T := T) 2 d (by omega) (by decide) (by decide)
          exact ⟨decide (b = 0), c', by simp [g__law_mark_t1, q], d'⟩) (fun s S => by simp) cs [] c1 (m + 1) d1 (by omega) (by simp; omega)
        simp only [List.map_nil, List.nil_append] at e2
        have main : ∀ (some_ : List Str) (c3 : Cell) (m3 : Nat), Drw c3 m3 → m3 ≤ m + 7 → some_ ≠ [] → some_.Nodup → (∀ c ∈ some_, c ∈ cs) → some_.length ≤ 5 → ∃ mk c', (sRet (eCallB bTuple (lCons (eIf (eOp opEq (eOp opIxX (eVar 1) (eC (.int 1))) (eC (.str "any"))) (eVar 4) (eCall d__law_shuffled (lCons (eVar 0) (lCons (eVar 4) lNil)))) lNil))) [some (.loc 0), some (toldD nm kd cs seats way), some (.int x), some (tupS cs), some (.lst (some_.map .str)), none] (c3 :: T) = .rt (mkD false mk) (c' :: T) ∧ MkOk false cs mk ∧ Drw c' (m + 20) := by
          intro some_ c3 m3 d3 hm3 hn nd hsub hl
          by_cases ha : kd = "any"
          · exact ⟨.good some_, c3, by simp [ha, mkD], ⟨fun l z => by cases z; exact ⟨hn, nd, hsub, fun z => by cases z⟩⟩, d3.mono (by omega)⟩
          · obtain ⟨l', c4, h4, p4, d4⟩ := shufT fT D.str (fun _ _ => rfl) some_ d3 (by omega) (by omega)
            exact ⟨.good l', c4, by simp [ha, h4, mkD], ⟨fun l z => by cases z; exact ⟨fun z => hn (by rw [z] at p4; exact p4.nil_eq.symm), p4.nodup_iff.mpr nd, fun c hc => hsub c (p4.mem_iff.mp hc), fun z => by cases z⟩⟩, d4.mono (by omega)⟩
        have lsub : ∀ c ∈ l, c ∈ cs := fun c hc => sl.subset hc
        have ll : l.length ≤ 5 := Nat.le_trans sl.length_le l5
        by_cases hl : l = []
        · subst hl
          obtain ⟨y, hy, c3, p3, d3⟩ := pickTT (T := T) (cs.map .str) d2 (by omega) (by simpa using hne) (by simp; omega)
          obtain ⟨s, hs, rfl⟩ := List.mem_map.mp hy
          obtain ⟨mk, c', e, ok, d'⟩ := main [s] c3 _ d3 (by omega) (by simp) (by simp) (by simpa using hs) (by simp)
          refine ⟨mk, c', ?_, by rw [decide_eq_false ho]; exact ok, d'⟩
          rw [decide_eq_false ho]
          simp only [List.map_cons, List.map_nil] at e e2
          unfold d__law_mark g__law_mark
          generalize hq : (sRet (eCallB bTuple (lCons (eIf (eOp opEq (eOp opIxX (eVar 1) (eC (.int 1))) (eC (.str "any"))) (eVar 4) (eCall d__law_shuffled (lCons (eVar 0) (lCons (eVar 4) lNil)))) lNil))) = last at e
          simp [n1, h2, ho, e2, p3, e, exitD]
        · obtain ⟨mk, c', e, ok, d'⟩ := main l c2 _ d2 (by omega) hl (sl.nodup t.nd) lsub ll
          refine ⟨mk, c', ?_, by rw [decide_eq_false ho]; exact ok, d'⟩
          rw [decide_eq_false ho]
          unfold d__law_mark g__law_mark
          generalize hq : (sRet (eCallB bTuple (lCons (eIf (eOp opEq (eOp opIxX (eVar 1) (eC (.int 1))) (eC (.str "any"))) (eVar 4) (eCall d__law_shuffled (lCons (eVar 0) (lCons (eVar 4) lNil)))) lNil))) = last at e
          have hl2 : (l.map D.str).isEmpty = false := by cases l with
            | nil => exact absurd rfl hl
            | cons _ _ => rfl
          simp [n1, h2, ho, e2, e, exitD, hl2]
theorem bel_mk {one : Bool} {n : Nat} : ∀ l : List Mk, belDs n (l.map (mkD one)) = true
  | [] => rfl
  | a :: l => by
    show (belD n (mkD one a) && belDs n (l.map (mkD one))) = true
    rw [bel_mk l, Bool.and_true]
    cases a with
    | no => rfl
    | odd => rfl
    | good l =>
      cases one with
      | true => rfl
      | false => exact bel_strs l
theorem flat_mk {one : Bool} (l : List Mk) : Flat [.lst (l.map (mkD one))] := fun n => by
  show (belDs n (l.map (mkD one)) && true) = true
  rw [bel_mk]; rfl
end DR.K47
end
section
/-! The law's second part: fewer changes turn nothing. -/
namespace DR.K47
open PySem L2 DL DR
variable {nm kd : Str} {cs : List Str} {way : Str}
theorem cln_one {c : Cell} {m : Nat} (d : Drw c m) : Cln [c] := by
  refine ⟨?_, ?_⟩
  · simp only [List.all_cons, List.all_nil, Bool.and_true]; exact d.bel
  · obtain ⟨a, s, k, rfl, _⟩ := d.ex
    rfl
/-- marks drawn anew at some places -/
theorem spots_loop {n : Nat} {cell : Int} {k0 due : Nat} {ms : List Mk} {lot fs : List Str} (t : Told nm kd cs (n : Int) way) {e9 e10 e11 e13 e15 : Option D} : ∀ (L : List Nat) (X : List Mk) (c : Cell) (m : Nat) (e14 : Option D), (∀ k ∈ L, k < ms.length) → X.length = ms.length → X.length ≤ 100 → (∀ mk ∈ X, MkOk (decide (kd = "one")) cs mk) → Drw c m → m + 20 * L.length ≤ 70000 →
    ∃ Y e14' c', forD (bName 14) g__law_right_b4 (L.map fun k : Nat => D.int k) (rE cell k0 nm kd cs n way ms lot fs due e9 e10 e11 (some (.loc 1)) e13 e14 e15) [c, .lst (X.map (mkD (decide (kd = "one"))))] = .nx (rE cell k0 nm kd cs n way ms lot fs due e9 e10 e11 (some (.loc 1)) e13 e14' e15) [c', .lst (Y.map (mkD (decide (kd = "one"))))] ∧ Y.length = ms.length ∧ (∀ mk ∈ Y, MkOk (decide (kd = "one")) cs mk) ∧ dif Y ms ≤ dif X ms + L.length ∧ (L = [] → Y = X) ∧ Drw c' (m + 20 * L.length)
  | [], X, c, m, e14, _, hl, _, ok, d, _ => ⟨X, e14, c, rfl, hl, ok, by simp, fun _ => rfl, d⟩
  | k :: L, X, c, m, e14, hk, hl, hX, ok, d, hm => by
    have hk1 : k < X.length := by rw [hl]; exact hk k List.mem_cons_self
    have hlen : (k :: L).length = L.length + 1 := rfl
    rw [hlen] at hm
    obtain ⟨a, c1, e1, oka, d1⟩ := markT_ok (T := [.lst (X.map (mkD (decide (kd = "one"))))]) (flat_mk X) t d (by omega)
    have ok' : ∀ mk ∈ X.set k a, MkOk (decide (kd = "one")) cs mk := fun mk hmk => (List.mem_or_eq_of_mem_set hmk).elim (ok mk) fun e => e ▸ oka
    obtain ⟨Y, e14', c', f, l2, ok2, df, _, d2⟩ := spots_loop t L (X.set k a) c1 (m + 20) (some (.int (k : Nat))) (fun x hx => hk x (List.mem_cons_of_mem _ hx)) (by rw [List.length_set]; exact hl) (by rw [List.length_set]; exact hX) ok' d1 (by omega)
    refine ⟨Y, e14', c', ?_, l2, ok2, ?_, (fun h => nomatch h), d2.mono (by rw [hlen]; omega)⟩
    · rw [List.map_cons]
      refine forC rfl ?_ f
      have sf := set_found (S := [c1]) (one := decide (kd = "one")) (p := k) (a := a) hk1 (by omega)
      have sf' : setX (.loc 1) (.int (k : Nat)) (mkD (decide (kd = "one")) a) [c1, .lst (X.map (mkD (decide (kd = "one"))))] = some [c1, .lst ((X.set k a).map (mkD (decide (kd = "one"))))] := sf
      unfold g__law_right_b4 rE
      generalize toldD nm kd cs (n : Int) way = TD at *
      generalize raceD nm kd cs (n : Int) way = RD at *
      generalize mkD (decide (kd = "one")) a = da at *
      generalize (X.set k a).map (mkD (decide (kd = "one"))) = X2 at *
      generalize X.map (mkD (decide (kd = "one"))) = XM at *
      generalize ms.map (mkD (decide (kd = "one"))) = MM at *
      simp [e1, sf', -setX_ci]
    · have := dif_set X ms k a
      rw [hlen]
      omega
theorem frzMk {one : Bool} {ρ : Nat → Option D} (X : List Mk) : frzD ρ (.lst (X.map (mkD one))) = some (.lst (X.map (mkD one))) := by
  show (frzDs ρ (X.map (mkD one))).map D.lst = _
  rw [frz_mks]; rfl
theorem frzTS {ρ : Nat → Option D} (l : List Str) : frzD ρ (tupS l) = some (tupS l) := by
  show (frzDs ρ (l.map D.str)).map D.tup = _
  rw [frzDs_map (f := D.str) (fun _ => rfl)]; rfl
theorem frzTpl {ρ : Nat → Option D} (l : List Str) : frzD ρ (.tpl (l.map .str)) = some (.tpl (l.map .str)) := by
  show (frzDs ρ (l.map D.str)).map D.tpl = _
  rw [frzDs_map (f := D.str) (fun _ => rfl)]; rfl
theorem frzTold {ρ : Nat → Option D} {seats : Int} : frzD ρ (toldD nm kd cs seats way) = some (toldD nm kd cs seats way) := by
  have := frzTS (ρ := ρ) cs
  show (frzDs ρ [D.str nm, .str kd, tupS cs, .int seats, .str way]).map D.tup = _
  unfold frzDs frzDs frzDs frzDs frzDs frzDs
  rw [this]
  rfl
theorem frzRace {ρ : Nat → Option D} {seats : Int} : frzD ρ (raceD nm kd cs seats way) = some (raceD nm kd cs seats way) := by
  have := frzTS (ρ := ρ) cs
  show (frzDs ρ [D.str nm, .str kd, tupS cs, .tup [.str "here"], .int seats, .str way]).map (D.obj _ _) = _
  unfold frzDs frzDs frzDs frzDs frzDs frzDs frzDs
  rw [this]
  rfl
theorem round_ok {n : Nat} {cell : Int} {k0 due : Nat} {ms : List Mk} {lot : List Str} (t : Told nm kd cs (n : Int) way) (hk : kd ≠ "rank") (lp : lot.Perm cs) (okm : ∀ mk ∈ ms, MkOk (decide (kd = "one")) cs mk) (hl : ms.length ≤ 100) (hdue : ((due : Nat) : Int) = marginN ms lot cs n) (hdl : due ≤ ms.length + 1)
    {c : Cell} {m : Nat} (d : Drw c m) (hm : m ≤ 60000) {e9 e10 e11 e12 e13 e14 e15 : Option D} :
    ∃ e9' e10' e11' e12' e13' e14' e15' c', g__law_right_b5 (rE cell k0 nm kd cs n way ms lot (tps ms lot cs n) due e9 e10 e11 e12 e13 e14 e15) [c] = .nx (rE cell k0 nm kd cs n way ms lot (tps ms lot cs n) due e9' e10' e11' e12' e13' e14' e15') [c'] ∧ Drw c' (m + 2200) := by
  obtain ⟨l', c1, e1, p1, d1⟩ := shufT (T := [.lst (ms.map (mkD (decide (kd = "one"))))]) (flat_mk ms) (fun k : Nat => D.int k) (fun _ _ => rfl) (List.range ms.length) d (by simp; omega) (by simp; omega)
  rw [List.length_range] at d1
  have lt : ∀ k ∈ l'.take (due - 1), k < ms.length := fun k hk => List.mem_range.mp (p1.mem_iff.mp (List.mem_of_mem_take hk))
  have lle : (l'.take (due - 1)).length ≤ 100 := by
    have := p1.length_eq
    rw [List.length_range] at this
    rw [List.length_take]
    omega
  obtain ⟨Y, e14', c2, f, ly, okY, df, em, d2⟩ := spots_loop (cell := cell) (k0 := k0) (due := due) (ms := ms) (lot := lot) (fs := tps ms lot cs n) (e9 := e9) (e10 := e10) (e11 := e11) (e13 := e13) (e15 := e15) t (l'.take (due - 1)) ms c1 (m + ms.length) e14 lt rfl hl okm d1 (by omega)
  have l5 := t.l5
  have same : sameS (tps Y lot cs n) (tps ms lot cs n) = true := by
    by_cases z : due = 0
    · have : Y = ms := em (by rw [z]; rfl)
      rw [this]
      exact sameS_is.mpr fun x => Iff.rfl
    · refine few_same t.nd lp (by have := t.s2; omega) ly ?_
      rw [dif_self, List.length_take] at df
      omega
  have d2' : Drw c2 (m + 2200) := d2.mono (by omega)
  have tp := top_ok (S := [c2]) t hk okY (by omega) lp (cln_one d2)
  rw [Int.toNat_natCast] at tp
  obtain ⟨ρ, hρ⟩ : ∃ ρ, ρ = resD 1 [c2, Cell.lst (Y.map (mkD (decide (kd = "one"))))] 12 := ⟨_, rfl⟩
  have f0 : frzD ρ (.loc 0) = some (.loc 0) := by rw [hρ]; rfl
  have f1 : frzD ρ (.loc 1) = some (.lst (Y.map (mkD (decide (kd = "one"))))) := by
    rw [hρ]
    show (frzDs _ (Y.map (mkD (decide (kd = "one"))))).map D.lst = _
    rw [frz_mks]; rfl
  have b2 : c2.bel 1 = true := d2.bel
  -- the scope
  have sc : ∃ e9' e10' e11' e13' e14'' e15', (sScope (sSeq (sAsg (eCallB bListXM (lCons (eVar 4) lNil)) (bName 12))
(sFor (iSeq (eSlice (eCall d__law_shuffled (lCons (eVar 2) (lCons (eLRg (rg1 (eCallB bLenX (lCons (eVar 4) lNil)))) lNil))) oNone (oSome (eCallB (bII maxII) (lCons (eC (.int 0)) (lCons (eOp opSub (eVar 8) (eC (.int 1))) lNil)))))) (bName 14) g__law_right_b4))) (rE cell k0 nm kd cs n way ms lot (tps ms lot cs n) due e9 e10 e11 e12 e13 e14 e15) [c] = .nx (rE cell k0 nm kd cs n way ms lot (tps ms lot cs n) due e9' e10' e11' (some (.lst (Y.map (mkD (decide (kd = "one")))))) e13' e14'' e15') [c2] := by
    have s1 : (sAsg (eCallB bListXM (lCons (eVar 4) lNil)) (bName 12)) (rE cell k0 nm kd cs n way ms lot (tps ms lot cs n) due e9 e10 e11 e12 e13 e14 e15) [c] = .nx (rE cell k0 nm kd cs n way ms lot (tps ms lot cs n) due e9 e10 e11 (some (.loc 1)) e13 e14 e15) [c, .lst (ms.map (mkD (decide (kd = "one"))))] := by
      have bl : bListXM [.lst (ms.map (mkD (decide (kd = "one"))))] [c] = .ok (.loc 1) ([c] ++ [.lst (ms.map (mkD (decide (kd = "one"))))]) := rfl
      unfold rE
      generalize toldD nm kd cs (n : Int) way = TD at *
      generalize raceD nm kd cs (n : Int) way = RD at *
      generalize ms.map (mkD (decide (kd = "one"))) = MM at *
      simp [bl]
    have s2 : (sFor (iSeq (eSlice (eCall d__law_shuffled (lCons (eVar 2) (lCons (eLRg (rg1 (eCallB bLenX (lCons (eVar 4) lNil)))) lNil))) oNone (oSome (eCallB (bII maxII) (lCons (eC (.int 0)) (lCons (eOp opSub (eVar 8) (eC (.int 1))) lNil)))))) (bName 14) g__law_right_b4) (rE cell k0 nm kd cs n way ms lot (tps ms lot cs n) due e9 e10 e11 (some (.loc 1)) e13 e14 e15) [c, .lst (ms.map (mkD (decide (kd = "one"))))] = .nx (rE cell k0 nm kd cs n way ms lot (tps ms lot cs n) due e9 e10 e11 (some (.loc 1)) e13 e14' e15) [c2, .lst (Y.map (mkD (decide (kd = "one"))))] := by
      have lm : (ms.map (mkD (decide (kd = "one")))).length = ms.length := by simp
      have rk : rOk ((ms.length : Nat) : Int) := rOk_n (by omega)
      have zx : sz ms.length := sz_is (by omega)
      have rg := rg_map ms.length
      have mx : maxII 0 ((due : Int) - 1) = ((due - 1 : Nat) : Int) := by unfold maxII; split <;> omega
      have ct := cut_hi (l'.map fun k : Nat => D.int k) (due - 1)
      rw [← List.map_take] at ct
      have hi : ∀ T, oSome (eCallB (bII maxII) (lCons (eC (.int 0)) (lCons (eOp opSub (eVar 8) (eC (.int 1))) lNil))) (rE cell k0 nm kd cs n way ms lot (tps ms lot cs n) due e9 e10 e11 (some (.loc 1)) e13 e14 e15) T = .ok (some ((due - 1 : Nat) : Int)) T := by
        intro T
        unfold oSome rE
        generalize toldD nm kd cs (n : Int) way = TD at *
        generalize raceD nm kd cs (n : Int) way = RD at *
        generalize ms.map (mkD (decide (kd = "one"))) = MM at *
        simp [mx]
      have no : ∀ T e, oNone e T = .ok none T := fun _ _ => rfl
      rw [← rg] at e1
      unfold rE at f hi ⊢
      generalize oSome (eCallB (bII maxII) (lCons (eC (.int 0)) (lCons (eOp opSub (eVar 8) (eC (.int 1))) lNil))) = OS at *
      generalize toldD nm kd cs (n : Int) way = TD at *
      generalize raceD nm kd cs (n : Int) way = RD at *
      generalize (l'.take (due - 1)).map (fun k : Nat => D.int k) = L2 at *
      generalize l'.map (fun k : Nat => D.int k) = L1 at *
      generalize Y.map (mkD (decide (kd = "one"))) = YM at *
      generalize ms.map (mkD (decide (kd = "one"))) = MM at *
      simp [lm, rk, zx, e1, hi, no, ct, f]
    refine ⟨e9.bind (frzD ρ), e10.bind (frzD ρ), e11.bind (frzD ρ), e13.bind (frzD ρ), e14'.bind (frzD ρ), e15.bind (frzD ρ), ?_⟩
    unfold sScope
    rw [stN s1 s2]
    dsimp only
    rw [show ([c2, Cell.lst (Y.map (mkD (decide (kd = "one"))))] : Store).take ([c] : Store).length = [c2] from rfl, if_pos (.inr (by show (Cell.bel 1 c2 && true) = true; rw [b2]; rfl)), show ([c] : Store).length = 1 from rfl, ← hρ]
    show SR.nx [(some (D.int cell)).bind (frzD ρ), (some (D.int (k0 : Nat))).bind (frzD ρ), (some (D.loc 0)).bind (frzD ρ), (some (toldD nm kd cs (n : Int) way)).bind (frzD ρ), (some (D.lst (ms.map (mkD (decide (kd = "one")))))).bind (frzD ρ), (some (D.tpl (lot.map .str))).bind (frzD ρ), (some (raceD nm kd cs (n : Int) way)).bind (frzD ρ), (some (tupS (tps ms lot cs n))).bind (frzD ρ), (some (D.int (due : Nat))).bind (frzD ρ), _, _, _, (some (D.loc 1)).bind (frzD ρ), _, _, _] _ = _
    simp only [Option.bind_some, f0, f1, frzMk, frzTpl, frzTold, frzRace, frzTS]
    rfl
  obtain ⟨e9', e10', e11', e13', e14'', e15', sc⟩ := sc
  refine ⟨e9', e10', e11', some (.lst (Y.map (mkD (decide (kd = "one"))))), e13', e14'', e15', c2, ?_, d2'⟩
  unfold g__law_right_b5
  refine stN sc ?_
  have tl : ∀ Z : List Mk, (tps Z lot cs n).length ≤ 1000 := fun Z => by
    unfold tps
    rw [List.length_take, ord_len]
    omega
  have ss := set_tt (S := [c2]) (neg := true) (fa := eCall d_top (lCons (eVar 6) (lCons (eVar 12) (lCons (eVar 5) lNil)))) (fb := eVar 7) (env := rE cell k0 nm kd cs n way ms lot (tps ms lot cs n) due e9' e10' e11' (some (.lst (Y.map (mkD (decide (kd = "one")))))) e13' e14'' e15') (A := tps Y lot cs n) (B := tps ms lot cs n)
    (by
      unfold rE
      generalize toldD nm kd cs (n : Int) way = TD at *
      generalize raceD nm kd cs (n : Int) way = RD at *
      generalize Y.map (mkD (decide (kd = "one"))) = YM at *
      generalize lot.map D.str = LT at *
      simp [tp]) rfl (tl Y) (tl ms)
  rw [if_pos rfl, same] at ss
  exact ifFB ss rfl
theorem rounds_ok {n : Nat} {cell : Int} {k0 due : Nat} {ms : List Mk} {lot : List Str} (t : Told nm kd cs (n : Int) way) (hk : kd ≠ "rank") (lp : lot.Perm cs) (okm : ∀ mk ∈ ms, MkOk (decide (kd = "one")) cs mk) (hl : ms.length ≤ 100) (hdue : ((due : Nat) : Int) = marginN ms lot cs n) (hdl : due ≤ ms.length + 1) :
    ∀ (ds : List D) (c : Cell) (m : Nat) (e9 e10 e11 e12 e13 e14 e15 : Option D), Drw c m → m + 2200 * ds.length ≤ 60000 →
    ∃ e9' e10' e11' e12' e13' e14' e15' c', forD (bName 13) g__law_right_b5 ds (rE cell k0 nm kd cs n way ms lot (tps ms lot cs n) due e9 e10 e11 e12 e13 e14 e15) [c] = .nx (rE cell k0 nm kd cs n way ms lot (tps ms lot cs n) due e9' e10' e11' e12' e13' e14' e15') [c']
  | [], c, m, e9, e10, e11, e12, e13, e14, e15, d, hm => ⟨e9, e10, e11, e12, e13, e14, e15, c, rfl⟩
  | x :: ds, c, m, e9, e10, e11, e12, e13, e14, e15, d, hm => by
    have hlen : (x :: ds).length = ds.length + 1 := rfl
    rw [hlen] at hm
    obtain ⟨a9, a10, a11, a12, a13, a14, a15, c1, e1, d1⟩ := round_ok (cell := cell) (k0 := k0) t hk lp okm hl hdue hdl d (by omega) (e9 := e9) (e10 := e10) (e11 := e11) (e12 := e12) (e13 := some x) (e14 := e14) (e15 := e15)
    obtain ⟨b9, b10, b11, b12, b13, b14, b15, c2, e2⟩ := rounds_ok t hk lp okm hl hdue hdl ds c1 (m + 2200) a9 a10 a11 a12 a13 a14 a15 d1 (by omega)
    exact ⟨b9, b10, b11, b12, b13, b14, b15, c2, forC rfl e1 e2⟩
theorem right_ok (cell : Int) {k0 : Nat} (hk : k0 ≤ 100) : d__law_right [.int cell, .int (k0 : Nat)] [] = .ok (.bl true) [] := by
  obtain ⟨c0, b0, d0⟩ := begun1 cell (k := (k0 : Int)) (by omega) (by omega)
  obtain ⟨nm, kd, cs, seats, way, c1, p1, t0, hkd, d1⟩ := told_ok (c := c0) (m := 0) ["one", "any"] (by simp) (fun k hk => by simp at hk; rcases hk with h | h <;> simp [h]) (by simp) d0 (by omega)
  have p1' : d__law_told_race [.loc 0, .lst [.str "one", .str "any"]] [c0] = .ok (toldD nm kd cs seats way) [c1] := p1
  have hkr : kd ≠ "rank" := fun z => by
    rw [z] at hkd
    revert hkd
    decide +kernel
  obtain ⟨n, rfl⟩ := Int.eq_ofNat_of_zero_le (show 0 ≤ seats by have := t0.s1; omega)
  have t := t0
  have l5 := t.l5
  obtain ⟨ms, c2, e2, okm, lm, d2⟩ := marks_okN 60 (by decide) t d1 (by omega)
  obtain ⟨lot, c3, p3, lp, d3⟩ := shufT_ok D.str (fun _ _ => rfl) cs d2 (by omega) (by omega)
  have rc := race_ok (c := c3) t d3.bel
  have tp := top_ok (S := [c3]) t hkr okm (by omega) lp (cln_one d3)
  rw [Int.toNat_natCast] at tp
  obtain ⟨due, x9, x10, x11, x12, dk, hdue, hdl⟩ := due_ok (S := [c3]) (cell := cell) (k0 := k0) t hkr lp (cln_one d3) okm (by omega) none none none none none none none
  have mg1 := margin_ok (S := [c3]) t hkr okm (by omega) lp (cln_one d3) (.inl rfl)
  have mg2 := margin_ok (S := [c3]) t hkr okm (by omega) lp (cln_one d3) (.inr rfl)
  rw [Int.toNat_natCast, ← hdue] at mg1 mg2
  obtain ⟨b9, b10, b11, b12, b13, b14, b15, c4, rl⟩ := rounds_ok (cell := cell) (k0 := k0) t hkr lp okm (by omega) hdue hdl (rangeD 0 6) c3 _ x9 x10 x11 x12 none none none d3 (by simp; omega)
  have bt : ∀ l : List D, ∀ S, bTupleZ [.lst l] S = .ok (.tpl l) S := fun _ _ => rfl
  have main : g__law_right [some (.int cell), some (.int (k0 : Nat)), none, none, none, none, none, none, none, none, none, none, none, none, none, none] [] = .rt (.bl true) [c4] := by
    unfold g__law_right
    refine stN (S' := [c0]) (e := [some (.int cell), some (.int (k0 : Nat)), some (.loc 0), none, none, none, none, none, none, none, none, none, none, none, none, none]) (by simp [b0]) ?_
    refine stN (S' := [c1]) (e := [some (.int cell), some (.int (k0 : Nat)), some (.loc 0), some (toldD nm kd cs (n : Int) way), none, none, none, none, none, none, none, none, none, none, none, none]) ?_ ?_
    · generalize toldD nm kd cs (n : Int) way = TD at *
      simp [p1']
    refine stN (S' := [c3]) (e := [some (.int cell), some (.int (k0 : Nat)), some (.loc 0), some (toldD nm kd cs (n : Int) way), some (.lst (ms.map (mkD (decide (kd = "one"))))), some (.tpl (lot.map .str)), none, none, none, none, none, none, none, none, none, none]) ?_ ?_
    · have e2' : d__law_marks [.loc 0, toldD nm kd cs (n : Int) way, .int 60] [c1] = .ok (.lst (ms.map (mkD (decide (kd = "one"))))) [c2] := e2
      have t2 : ∀ T, opIxX (toldD nm kd cs (n : Int) way) (.int 2) T = .ok (tupS cs) T := fun T => told2
      generalize toldD nm kd cs (n : Int) way = TD at *
      have p3' : d__law_shuffled [.loc 0, tupS cs] [c2] = .ok (.lst (lot.map .str)) [c3] := p3
      generalize tupS cs = TC at *
      generalize ms.map (mkD (decide (kd = "one"))) = MM at *
      generalize lot.map D.str = LT at *
      simp [e2', t2, p3', bt]
    refine stN (S' := [c3]) (e := [some (.int cell), some (.int (k0 : Nat)), some (.loc 0), some (toldD nm kd cs (n : Int) way), some (.lst (ms.map (mkD (decide (kd = "one"))))), some (.tpl (lot.map .str)), some (raceD nm kd cs (n : Int) way), none, none, none, none, none, none, none, none, none]) ?_ ?_
    · generalize toldD nm kd cs (n : Int) way = TD at *
      generalize raceD nm kd cs (n : Int) way = RD at *
      simp [rc]
    refine stN (S' := [c3]) (e := rE cell k0 nm kd cs n way ms lot (tps ms lot cs n) (ms.length + 1) none none none none none none none) ?_ ?_
    · have lmm : (ms.map (mkD (decide (kd = "one")))).length = ms.length := by simp
      have zl : sz ms.length := sz_is (by omega)
      have m1 : ((ms.length + 1 : Nat) : Int) = (ms.length : Int) + 1 := by omega
      unfold rE
      rw [m1]
      generalize toldD nm kd cs (n : Int) way = TD at *
      generalize raceD nm kd cs (n : Int) way = RD at *
      generalize ms.map (mkD (decide (kd = "one"))) = MM at *
      generalize lot.map D.str = LT at *
      generalize tupS (tps ms lot cs n) = TP at *
      simp [tp, lmm, zl]
    refine stN (S' := [c3]) (e := rE cell k0 nm kd cs n way ms lot (tps ms lot cs n) due x9 x10 x11 x12 none none none) ?_ ?_
    · unfold rE at dk ⊢
      generalize toldD nm kd cs (n : Int) way = TD at *
      generalize raceD nm kd cs (n : Int) way = RD at *
      generalize ms.map (mkD (decide (kd = "one"))) = MM at *
      generalize lot.map D.str = LT at *
      have is : ∀ T e, iSeq (eVar 7) (some (D.int cell) :: some (D.int (k0 : Nat)) :: some (.loc 0) :: some TD :: some (.lst MM) :: some (.tpl LT) :: some RD :: some (tupS (tps ms lot cs n)) :: e) T = .ok ((tps ms lot cs n).map .str) T := fun _ _ => rfl
      generalize (tps ms lot cs n).map D.str = TL at *
      generalize tupS (tps ms lot cs n) = TP at *
      rw [sFor_is, is]
      exact dk
    refine stN (S' := [c3]) (e := rE cell k0 nm kd cs n way ms lot (tps ms lot cs n) due x9 x10 x11 x12 none none none) ?_ ?_
    · have bt2 : ∀ l : List D, ∀ S, bTuple [.lst l] S = .ok (.tup l) S := fun _ _ => rfl
      unfold rE
      generalize toldD nm kd cs (n : Int) way = TD at *
      generalize raceD nm kd cs (n : Int) way = RD at *
      generalize ms.map (mkD (decide (kd = "one"))) = MM at *
      generalize lot.map D.str = LT at *
      generalize tupS (tps ms lot cs n) = TP at *
      simp [mg1, mg2, bt2]
    refine stN (S' := [c4]) (e := rE cell k0 nm kd cs n way ms lot (tps ms lot cs n) due b9 b10 b11 b12 b13 b14 b15) ?_ ?_
    · have r6 : rOk 6 := rOk_i (by decide) (by decide)
      generalize g__law_right_b5 = B5 at *
      generalize rE cell k0 nm kd cs n way ms lot (tps ms lot cs n) due x9 x10 x11 x12 none none none = E1 at *
      have t6 : ((6 : Int) - 0).toNat = 6 := rfl
      simp [r6, rl]
    rfl
  unfold d__law_right
  exact fnRt (S' := [c4]) main (by simp)
theorem law_true (ns : List Int) (h : ns.length ≤ 63) : ∃ S, d_law [.lst (ns.map .int)] [] = .ok (.bl true) S := by
  have e3 : (ns.map D.int ++ [.int 3]) = (ns ++ [3]).map D.int := by simp
  have hl : (cutD (ns ++ [3]) none (some (maxII 1 (minII 4 (ns.length : Int))))).length ≤ 100 := Nat.le_trans (cut_len _ _ _) (by simp; omega)
  obtain ⟨e', he⟩ := law_loop (S := []) (b := bTup (bCons (bName 1) (bCons (bName 2) bNil))) (body := g_law_b1) (e := [some (.lst (ns.map D.int)), none, none])
    (fun e => ∃ a b, e = [some (.lst (ns.map D.int)), a, b]) (cutD (ns ++ [3]) none (some (maxII 1 (minII 4 (ns.length : Int))))) ⟨_, _, rfl⟩ (by
      rintro i c e hi ⟨a, b, rfl⟩
      have hr := right_ok c (k0 := i) (by omega)
      refine ⟨[some (.lst (ns.map D.int)), some (.int (i : Nat)), some (.int c)], [some (.lst (ns.map D.int)), some (.int (i : Nat)), some (.int c)], rfl, ?_, _, _, rfl⟩
      simp [g_law_b1, hr])
  unfold d_law g_law
  refine ⟨[], ?_⟩
  have e4 : cutD (ns.map D.int ++ [.int 3]) none (some (maxII 1 (minII 4 (ns.length : Int)))) = (cutD (ns ++ [3]) none (some (maxII 1 (minII 4 (ns.length : Int))))).map D.int := by rw [e3, cut_map]
  have hz : sz (ns.length + 1) := sz_is (by omega)
  simp [hz, e4, he]
end DR.K47
end
section
namespace DR.K47
open PySem L2  
open DL
def top (i : Nat) : Stmt := PySem.Challenge.pw_rolltally_k47_whole_margins_of_many.main.body.getD i (.Pass ⟨0, 0, 0, 0⟩)
structure Txt (K : PySem.W.Frag) (mg : Str → Option Value) (ca ce : Str → Option Addr) (w : World) : Prop where
  own : ∀ c C, ca c = some C → OwnC K C
  b_all : mg "all" = none
  b_bool : mg "bool" = none
  b_enumerate : mg "enumerate" = none
  b_int : mg "int" = none
  b_isinstance : mg "isinstance" = none
  b_len : mg "len" = none
  b_list : mg "list" = none
  b_max : mg "max" = none
  b_min : mg "min" = none
  b_range : mg "range" = none
  b_set : mg "set" = none
  b_sorted : mg "sorted" = none
  b_str : mg "str" = none
  b_tuple : mg "tuple" = none
  g_LETTERS : ∃ t, mg "LETTERS" = some (.str "abcdefghijklmnopqrstuvwxyz" t)
  g_MOST_CHOICES : ∃ t, mg "MOST_CHOICES" = some (.int (5) t)
  g_MOST_DISTRICTS : ∃ t, mg "MOST_DISTRICTS" = some (.int (6) t)
  g_MOST_LETTERS : ∃ t, mg "MOST_LETTERS" = some (.int (8) t)
  g_KINDS : ∃ a, mg "KINDS" = some (.ref a) ∧ KTup K a (([.str "one", .str "any", .str "rank"] : List D).map dV)
  g_RANK_WAYS : ∃ a, mg "RANK_WAYS" = some (.ref a) ∧ KTup K a (([.str "runoff", .str "pairs", .str "share"] : List D).map dV)
  fl_by : FldOk ⟨K, ca, ce⟩ "by" ["Race"]
  fl_choices : FldOk ⟨K, ca, ce⟩ "choices" ["Race"]
  fl_districts : FldOk ⟨K, ca, ce⟩ "districts" ["Race"]
  fl_kind : FldOk ⟨K, ca, ce⟩ "kind" ["Race"]
  fl_name : FldOk ⟨K, ca, ce⟩ "name" ["Place", "Race"]
  fl_seats : FldOk ⟨K, ca, ce⟩ "seats" ["Race"]
  is_bool : IsT ⟨K, ca, ce⟩ (.type "bool") (tabB .bool)
  is_int : IsT ⟨K, ca, ce⟩ (.type "int") (tabB .int)
  is_str : IsT ⟨K, ca, ce⟩ (.type "str") (tabB .str)
  is_tuple : IsT ⟨K, ca, ce⟩ (.type "tuple") (tabB .tuple)
  is_Race : ∃ C, mg "Race" = some (.ref C) ∧ IsT ⟨K, ca, ce⟩ (.ref C) (tabO "Race")
  x_NoLot : ExcR ⟨K, ca, ce⟩ mg "NoLot"
  x_NoRace : ExcR ⟨K, ca, ce⟩ mg "NoRace"
section
variable {P : Program} {w : World} {K : PySem.W.Frag} {ca ce : Str → Option Addr} {mg : Str → Option Value} {base : Heap}
abbrev s__law_begun : Stmt := top 32
theorem sc__law_begun : FnScope ["_law_cell", "_law_k", "_law_seed"] ["_law_cell", "_law_k"] (defScope s__law_begun) := ⟨rfl, rfl, rfl, by decide +kernel, rfl, by decide +kernel, by decide +kernel⟩
theorem ok__law_begun {f : Addr} {fd : FuncData} (F : Fun K "_law_begun" "_law_begun" s__law_begun f fd) (T : Txt K mg ca ce w)  : FnG P w K mg base (L2.CX P w) 1 f fd ["_law_cell", "_law_k"] (spD ⟨K, ca, ce⟩ 2 d__law_begun) :=
fnG (G := ⟨K, ca, ce⟩) (N := ["_law_cell", "_law_k", "_law_seed"]) .keep F sc__law_begun fun cdv A outer s H E hr tk po gd =>
(dss_cons (ds_set (i := 2) sc__law_begun.nd rfl (Or.inl rfl) (de_op (do_add rfl) de_int (de_op do_mod (de_op do_pow (de_op (do_add rfl) (de_op (do_add rfl) (de_op do_mul (de_op do_mod (de_var 0) de_int) de_int) (de_op do_mul de_int (de_var 1))) de_int) de_int) de_int)))
(dss_cons (ds_if (dt_cmp do_ge (de_var 0) (de_op do_pow de_int de_int))
(dss_one (ds_ret (de_lstM (da_cons (de_op do_sub (de_var 0) (de_op do_pow de_int de_int)) (da_cons (de_var 2) (da_cons de_int da_nil))))))
dss_nil)
(dss_one (ds_ret (de_lstM (da_cons de_int (da_cons (de_var 2) (da_cons de_int da_nil))))))))

abbrev s__law_next : Stmt := top 33
theorem sc__law_next : FnScope ["_law_draw", "_law_size", "_law_found", "_law_mixed"] ["_law_draw", "_law_size"] (defScope s__law_next) := ⟨rfl, rfl, rfl, by decide +kernel, rfl, by decide +kernel, by decide +kernel⟩
theorem ok__law_next {f : Addr} {fd : FuncData} (F : Fun K "_law_next" "_law_next" s__law_next f fd) (T : Txt K mg ca ce w)  : FnG P w K mg base (L2.CX P w) 1 f fd ["_law_draw", "_law_size"] (spD ⟨K, ca, ce⟩ 2 d__law_next) :=
fnG (G := ⟨K, ca, ce⟩) (N := ["_law_draw", "_law_size", "_law_found", "_law_mixed"]) .keep F sc__law_next fun cdv A outer s H E hr tk po gd =>
(dss_cons (ds_if (dt_cmp do_gt (de_ixX rfl (units1 hr) (de_var 0) de_int) de_int)
(dss_cons (ds_set (i := 2) sc__law_next.nd rfl (Or.inl rfl) (de_op do_mod (de_ixX rfl (units1 hr) (de_var 0) de_int) (de_var 1)))
(dss_cons (ds_putX (units1 hr) (de_op do_fdiv (de_ixX rfl (units1 hr) (de_var 0) de_int) (de_var 1)) (de_var 0) de_int)
(dss_one (ds_ret (de_var 2)))))
dss_nil)
(dss_cons (ds_putX (units1 hr) (de_op (do_add rfl) (de_ixX rfl (units1 hr) (de_var 0) de_int) de_int) (de_var 0) de_int)
(dss_cons (ds_set (i := 3) sc__law_next.nd rfl (Or.inl rfl) (de_op do_mod (de_op do_pow (de_op (do_add rfl) (de_op (do_add rfl) (de_op do_mul (de_ixX rfl (units1 hr) (de_var 0) de_int) (de_op (do_add rfl) (de_op do_mul de_int (de_ixX rfl (units1 hr) (de_var 0) de_int)) de_int)) (de_op do_mul (de_op do_mul de_int (de_ixX rfl (units1 hr) (de_var 0) de_int)) (de_ixX rfl (units1 hr) (de_var 0) de_int))) de_int) de_int) de_int))
(dss_one (ds_ret (de_op do_mod (de_op do_fdiv (de_var 3) de_int) (de_var 1)))))))

abbrev s__law_names : Stmt := top 35
theorem sc__law_names : FnScope ["_law_draw", "_law_many", "_law_own", "_law_signs", "_law_lead", "_law_turn", "_law_tails", "_law_found", "_law_k", "_law_sign"] ["_law_draw", "_law_many"] (defScope s__law_names) := ⟨rfl, rfl, rfl, by decide +kernel, rfl, by decide +kernel, by decide +kernel⟩
theorem ok__law_names {f : Addr} {fd : FuncData} (F : Fun K "_law_names" "_law_names" s__law_names f fd) (T : Txt K mg ca ce w) (c__law_next : DefG ⟨K, ca, ce⟩ P w mg base 1 "_law_next" 2 d__law_next) : FnG P w K mg base (L2.CX P w) 2 f fd ["_law_draw", "_law_many"] (spD ⟨K, ca, ce⟩ 2 d__law_names) :=
fnG (G := ⟨K, ca, ce⟩) (N := ["_law_draw", "_law_many", "_law_own", "_law_signs", "_law_lead", "_law_turn", "_law_tails", "_law_found", "_law_k", "_law_sign"]) .pure F sc__law_names fun cdv A outer s H E hr tk po gd =>
(dss_cons (ds_set (i := 2) sc__law_names.nd rfl (Or.inl rfl) (de_meth PySem.F.plainAttrs_str PySem.F.slot_str_split PySem.F.type_str_split dm_split rfl de_str (da_cons de_str da_nil)))
(dss_cons (ds_set (i := 2) sc__law_names.nd rfl (Or.inl rfl) (de_op (do_add rfl) (de_var 2) (de_meth PySem.F.plainAttrs_str PySem.F.slot_str_split PySem.F.type_str_split dm_split rfl de_str (da_cons de_str da_nil))))
(dss_cons (ds_set (i := 2) sc__law_names.nd rfl (Or.inl rfl) (de_op (do_add rfl) (de_var 2) (de_lst (da_cons de_str (da_cons de_str (da_cons de_str (da_cons de_str (da_cons de_str da_nil))))))))
(dss_cons (ds_set (i := 3) sc__law_names.nd rfl (Or.inl rfl) de_str)
(dss_cons (ds_par (i := 4) (j := 5) rfl sc__law_names.nd rfl rfl (by decide) rfl rfl (da_cons (de_callG c__law_next gd rfl (hr.mono (by omega)) rfl tk (da_cons (de_var 0) (da_cons de_int da_nil)) rfl (la_cons (la_cons la_nil))) (da_cons (de_callG c__law_next gd rfl (hr.mono (by omega)) rfl tk (da_cons (de_var 0) (da_cons de_int da_nil)) rfl (la_cons (la_cons la_nil))) da_nil)) (by rfl))
(dss_cons (ds_if (dt_cmp (do_eq rfl (units100 hr)) (de_callG c__law_next gd rfl (hr.mono (by omega)) rfl tk (da_cons (de_var 0) (da_cons de_int da_nil)) rfl (la_cons (la_cons la_nil))) de_int)
(dss_one (ds_ret (de_slice rfl (de_op (do_add rfl) (de_slice rfl (de_var 2) (do_some (de_var 4)) do_none) (de_slice rfl (de_var 2) do_none (do_some (de_var 4)))) do_none (do_some (de_var 1)))))
dss_nil)
(dss_cons (ds_set (i := 6) sc__law_names.nd rfl (Or.inl rfl) (de_lst (da_cons de_str (da_cons de_str (da_cons de_str (da_cons de_str (da_cons de_str (da_cons de_str da_nil))))))))
(dss_cons (ds_set (i := 7) sc__law_names.nd rfl (Or.inl rfl) (de_lstM da_nil))
(dss_cons (ds_for po rfl (di_range1 rfl T.b_range (da_cons de_int da_nil)) (dg_name sc__law_names.nd rfl (by first | exact Or.inl rfl | exact Or.inr rfl))
(dss_one (ds_expr (de_meth PySem.F.plainAttrs_list PySem.F.slot_list_append PySem.F.type_list_append dm_append rfl (de_var 7) (da_cons (de_op (do_add rfl) (de_ixX rfl (units1 hr) (de_var 3) (de_op do_mod (de_op (do_add rfl) (de_var 4) (de_op do_mul de_int (de_var 8))) de_int)) (de_ixX rfl (units1 hr) (de_var 6) (de_op do_mod (de_op (do_add rfl) (de_var 5) (de_op do_mul (de_var 8) (de_var 8))) de_int))) da_nil)))))
(dss_one (ds_ret (de_slice rfl (de_op (do_add rfl) (de_var 7) (de_lc (own := [("_law_sign", 9)]) rfl sc__law_names.nd (di_seq rfl (de_var 3)) (blkOk_by (N := ["_law_draw", "_law_many", "_law_own", "_law_signs", "_law_lead", "_law_turn", "_law_tails", "_law_found", "_law_k", "_law_sign"]) (sc := defScope s__law_names) (own := [("_law_sign", 9)]) (by decide +kernel)) (fun _ _ _ _ _ => (dg_name sc__law_names.nd rfl (by first | exact Or.inl rfl | exact Or.inr rfl))) (fun _ _ _ _ _ => dts_nil) (fun _ _ _ _ _ => (de_op (do_add rfl) (de_var 9) de_str)) (by decide))) do_none (do_some (de_var 1))))))))))))))

abbrev s__law_pick : Stmt := top 34
theorem sc__law_pick : FnScope ["_law_draw", "_law_some"] ["_law_draw", "_law_some"] (defScope s__law_pick) := ⟨rfl, rfl, rfl, by decide +kernel, rfl, by decide +kernel, by decide +kernel⟩
theorem ok__law_pick {f : Addr} {fd : FuncData} (F : Fun K "_law_pick" "_law_pick" s__law_pick f fd) (T : Txt K mg ca ce w) (c__law_next : DefG ⟨K, ca, ce⟩ P w mg base 1 "_law_next" 2 d__law_next) : FnG P w K mg base (L2.CX P w) 2 f fd ["_law_draw", "_law_some"] (spD ⟨K, ca, ce⟩ 2 d__law_pick) :=
fnG (G := ⟨K, ca, ce⟩) (N := ["_law_draw", "_law_some"]) .keep F sc__law_pick fun cdv A outer s H E hr tk po gd =>
(dss_one (ds_ret (de_ixX rfl (units1 hr) (de_var 1) (de_callG c__law_next gd rfl (hr.mono (by omega)) rfl tk (da_cons (de_var 0) (da_cons (de_callB (dc_lenX rfl) rfl T.b_len (by decide +kernel) (da_cons (de_var 1) da_nil)) da_nil)) rfl (la_cons (la_cons la_nil))))))

abbrev s__law_told_race : Stmt := top 36
theorem sc__law_told_race : FnScope ["_law_draw", "_law_kinds", "_law_names_here", "_law_kind", "_law_choices", "_law_seats_told", "_law_way"] ["_law_draw", "_law_kinds"] (defScope s__law_told_race) := ⟨rfl, rfl, rfl, by decide +kernel, rfl, by decide +kernel, by decide +kernel⟩
theorem ok__law_told_race {f : Addr} {fd : FuncData} (F : Fun K "_law_told_race" "_law_told_race" s__law_told_race f fd) (T : Txt K mg ca ce w) (c__law_next : DefG ⟨K, ca, ce⟩ P w mg base 1 "_law_next" 2 d__law_next) (c__law_names : DefG ⟨K, ca, ce⟩ P w mg base 2 "_law_names" 2 d__law_names) (c__law_pick : DefG ⟨K, ca, ce⟩ P w mg base 2 "_law_pick" 2 d__law_pick) : FnG P w K mg base (L2.CX P w) 3 f fd ["_law_draw", "_law_kinds"] (spD ⟨K, ca, ce⟩ 2 d__law_told_race) :=
fnG (G := ⟨K, ca, ce⟩) (N := ["_law_draw", "_law_kinds", "_law_names_here", "_law_kind", "_law_choices", "_law_seats_told", "_law_way"]) .keep F sc__law_told_race fun cdv A outer s H E hr tk po gd =>
(dss_cons (ds_set (i := 2) sc__law_told_race.nd rfl (Or.inl rfl) (de_callG c__law_names gd rfl (hr.mono (by omega)) rfl tk (da_cons (de_var 0) (da_cons de_int da_nil)) rfl (la_cons (la_cons la_nil))))
(dss_cons (ds_par (i := 3) (j := 4) rfl sc__law_told_race.nd rfl rfl (by decide) rfl rfl (da_cons (de_callG c__law_pick gd rfl (hr.mono (by omega)) rfl tk (da_cons (de_var 0) (da_cons (de_var 1) da_nil)) rfl (la_cons (la_cons la_nil))) (da_cons (de_callTy (dc_tuple rfl) rfl T.b_tuple (by decide +kernel) (da_cons (de_slice rfl (de_var 2) (do_some de_int) (do_some (de_op (do_add rfl) de_int (de_callG c__law_next gd rfl (hr.mono (by omega)) rfl tk (da_cons (de_var 0) (da_cons de_int da_nil)) rfl (la_cons (la_cons la_nil)))))) da_nil)) da_nil)) (by rfl))
(dss_cons (ds_par (i := 5) (j := 6) rfl sc__law_told_race.nd rfl rfl (by decide) rfl rfl (da_cons (de_op (do_add rfl) de_int (de_callG c__law_next gd rfl (hr.mono (by omega)) rfl tk (da_cons (de_var 0) (da_cons (de_callB (dc_lenX rfl) rfl T.b_len (by decide +kernel) (da_cons (de_var 4) da_nil)) da_nil)) rfl (la_cons (la_cons la_nil)))) (da_cons de_str da_nil)) (by rfl))
(dss_cons (ds_if (dt_cmp (do_eq rfl (units100 hr)) (de_var 3) de_str)
(dss_cons (ds_set (i := 6) sc__law_told_race.nd rfl (Or.inl rfl) (de_callG c__law_pick gd rfl (hr.mono (by omega)) rfl tk (da_cons (de_var 0) (da_cons (de_lst (da_cons de_str (da_cons de_str (da_cons de_str (da_cons de_str da_nil))))) da_nil)) rfl (la_cons (la_cons la_nil))))
(dss_one (ds_set (i := 5) sc__law_told_race.nd rfl (Or.inl rfl) (de_if (dt_cmp (do_eq rfl (units100 hr)) (de_var 6) de_str) (de_var 5) de_int))))
dss_nil)
(dss_one (ds_ret (de_tup (da_cons (de_ixX rfl (units1 hr) (de_var 2) de_int) (da_cons (de_var 3) (da_cons (de_var 4) (da_cons (de_var 5) (da_cons (de_var 6) da_nil))))))))))))

abbrev s_is_name : Stmt := top 7
theorem sc_is_name : FnScope ["thing", "sign"] ["thing"] (defScope s_is_name) := ⟨rfl, rfl, rfl, by decide +kernel, rfl, by decide +kernel, by decide +kernel⟩
theorem ok_is_name {f : Addr} {fd : FuncData} (F : Fun K "is_name" "is_name" s_is_name f fd) (T : Txt K mg ca ce w)  : FnG P w K mg base (L2.CX P w) 1 f fd ["thing"] (spD ⟨K, ca, ce⟩ 1 d_is_name) :=
fnG (G := ⟨K, ca, ce⟩) (N := ["thing", "sign"]) .pure F sc_is_name fun cdv A outer s H E hr tk po gd =>
(dss_cons (ds_if (DW.t (dw_or (dt_not (dt_val (de_isC rfl T.own T.is_str (cn_ty rfl T.b_str (by decide +kernel)) rfl T.b_isinstance (de_var 0)))) (dw_or1 (dt_not (dt_chain do_le do_le de_int (de_callB (dc_lenX rfl) rfl T.b_len (by decide +kernel) (da_cons (de_var 0) da_nil)) (de_gInt T.g_MOST_LETTERS rfl))))))
(dss_one (ds_ret de_bl))
dss_nil)
(dss_one (ds_ret (de_callB (dc_all rfl rfl) rfl T.b_all (by decide +kernel) (da_cons (de_lc (own := [("sign", 1)]) rfl sc_is_name.nd (di_seq rfl (de_var 0)) (blkOk_by (N := ["thing", "sign"]) (sc := defScope s_is_name) (own := [("sign", 1)]) (by decide +kernel)) (fun _ _ _ _ _ => (dg_name sc_is_name.nd rfl (by first | exact Or.inl rfl | exact Or.inr rfl))) (fun _ _ _ _ _ => dts_nil) (fun _ _ _ _ _ => (de_cmp (do_in rfl (units65 hr)) (de_var 1) (de_gStr T.g_LETTERS rfl))) (by decide)) da_nil)))))

abbrev s_are_unlike_names : Stmt := top 10
theorem sc_are_unlike_names : FnScope ["thing", "least", "most", "one"] ["thing", "least", "most"] (defScope s_are_unlike_names) := ⟨rfl, rfl, rfl, by decide +kernel, rfl, by decide +kernel, by decide +kernel⟩
theorem ok_are_unlike_names {f : Addr} {fd : FuncData} (F : Fun K "are_unlike_names" "are_unlike_names" s_are_unlike_names f fd) (T : Txt K mg ca ce w) (c_is_name : DefG ⟨K, ca, ce⟩ P w mg base 1 "is_name" 1 d_is_name) : FnG P w K mg base (L2.CX P w) 2 f fd ["thing", "least", "most"] (spD ⟨K, ca, ce⟩ 3 d_are_unlike_names) :=
fnG (G := ⟨K, ca, ce⟩) (N := ["thing", "least", "most", "one"]) .pure F sc_are_unlike_names fun cdv A outer s H E hr tk po gd =>
(dss_cons (ds_if (DW.t (dw_or (dt_not (dt_val (de_isC rfl T.own T.is_tuple (cn_ty rfl T.b_tuple (by decide +kernel)) rfl T.b_isinstance (de_var 0)))) (dw_or (dt_not (dt_chain do_le do_le (de_var 1) (de_callB (dc_lenX rfl) rfl T.b_len (by decide +kernel) (da_cons (de_var 0) da_nil)) (de_var 2))) (dw_or1 (dt_not (dt_val (de_callB (dc_all rfl rfl) rfl T.b_all (by decide +kernel) (da_cons (de_lc (own := [("one", 3)]) rfl sc_are_unlike_names.nd (di_seq rfl (de_var 0)) (blkOk_by (N := ["thing", "least", "most", "one"]) (sc := defScope s_are_unlike_names) (own := [("one", 3)]) (by decide +kernel)) (fun _ _ _ _ _ => (dg_name sc_are_unlike_names.nd rfl (by first | exact Or.inl rfl | exact Or.inr rfl))) (fun _ _ _ _ _ => dts_nil) (fun _ _ _ _ _ => (de_callG c_is_name gd rfl (hr.mono (by omega)) rfl takes0 (da_cons (de_var 3) da_nil) rfl (la_cons la_nil))) (by decide)) da_nil))))))))
(dss_one (ds_ret de_bl))
dss_nil)
(dss_one (ds_ret (de_cmp (do_eq rfl (units100 hr)) (de_lenSet rfl rfl rfl T.b_len rfl T.b_set (de_var 0)) (de_callB (dc_lenX rfl) rfl T.b_len (by decide +kernel) (da_cons (de_var 0) da_nil))))))

abbrev s_is_one_of : Stmt := top 16
theorem sc_is_one_of : FnScope ["thing", "some"] ["thing", "some"] (defScope s_is_one_of) := ⟨rfl, rfl, rfl, by decide +kernel, rfl, by decide +kernel, by decide +kernel⟩
theorem ok_is_one_of {f : Addr} {fd : FuncData} (F : Fun K "is_one_of" "is_one_of" s_is_one_of f fd) (T : Txt K mg ca ce w)  : FnG P w K mg base (L2.CX P w) 1 f fd ["thing", "some"] (spD ⟨K, ca, ce⟩ 2 d_is_one_of) :=
fnG (G := ⟨K, ca, ce⟩) (N := ["thing", "some"]) .pure F sc_is_one_of fun cdv A outer s H E hr tk po gd =>
(dss_one (ds_ret (de_and (de_isC rfl T.own T.is_str (cn_ty rfl T.b_str (by decide +kernel)) rfl T.b_isinstance (de_var 0)) (de_one (de_cmp (do_in rfl (units65 hr)) (de_var 0) (de_var 1))))))

abbrev s_is_whole : Stmt := top 8
theorem sc_is_whole : FnScope ["thing"] ["thing"] (defScope s_is_whole) := ⟨rfl, rfl, rfl, by decide +kernel, rfl, by decide +kernel, by decide +kernel⟩
theorem ok_is_whole {f : Addr} {fd : FuncData} (F : Fun K "is_whole" "is_whole" s_is_whole f fd) (T : Txt K mg ca ce w)  : FnG P w K mg base (L2.CX P w) 1 f fd ["thing"] (spD ⟨K, ca, ce⟩ 1 d_is_whole) :=
fnG (G := ⟨K, ca, ce⟩) (N := ["thing"]) .pure F sc_is_whole fun cdv A outer s H E hr tk po gd =>
(dss_one (ds_ret (de_and (de_isC rfl T.own T.is_int (cn_ty rfl T.b_int (by decide +kernel)) rfl T.b_isinstance (de_var 0)) (de_one (de_not (de_isC rfl T.own T.is_bool (cn_ty rfl T.b_bool (by decide +kernel)) rfl T.b_isinstance (de_var 0)))))))

abbrev s_is_between : Stmt := top 9
theorem sc_is_between : FnScope ["thing", "least", "most"] ["thing", "least", "most"] (defScope s_is_between) := ⟨rfl, rfl, rfl, by decide +kernel, rfl, by decide +kernel, by decide +kernel⟩
theorem ok_is_between {f : Addr} {fd : FuncData} (F : Fun K "is_between" "is_between" s_is_between f fd) (T : Txt K mg ca ce w) (c_is_whole : DefG ⟨K, ca, ce⟩ P w mg base 1 "is_whole" 1 d_is_whole) : FnG P w K mg base (L2.CX P w) 2 f fd ["thing", "least", "most"] (spD ⟨K, ca, ce⟩ 3 d_is_between) :=
fnG (G := ⟨K, ca, ce⟩) (N := ["thing", "least", "most"]) .pure F sc_is_between fun cdv A outer s H E hr tk po gd =>
(dss_one (ds_ret (de_and (de_callG c_is_whole gd rfl (hr.mono (by omega)) rfl tk (da_cons (de_var 0) da_nil) rfl (la_cons la_nil)) (de_one (de_chain do_le do_le (de_var 1) (de_var 0) (de_var 2))))))

abbrev s_is_way : Stmt := top 17
theorem sc_is_way : FnScope ["kind", "by", "seats"] ["kind", "by", "seats"] (defScope s_is_way) := ⟨rfl, rfl, rfl, by decide +kernel, rfl, by decide +kernel, by decide +kernel⟩
theorem ok_is_way {f : Addr} {fd : FuncData} (F : Fun K "is_way" "is_way" s_is_way f fd) (T : Txt K mg ca ce w) (c_is_one_of : DefG ⟨K, ca, ce⟩ P w mg base 1 "is_one_of" 2 d_is_one_of) : FnG P w K mg base (L2.CX P w) 2 f fd ["kind", "by", "seats"] (spD ⟨K, ca, ce⟩ 3 d_is_way) :=
fnG (G := ⟨K, ca, ce⟩) (N := ["kind", "by", "seats"]) .pure F sc_is_way fun cdv A outer s H E hr tk po gd =>
(dss_cons (ds_if (dt_cmp (do_ne rfl (units100 hr)) (de_var 0) de_str)
(dss_one (ds_ret (de_and (de_isC rfl T.own T.is_str (cn_ty rfl T.b_str (by decide +kernel)) rfl T.b_isinstance (de_var 1)) (de_one (de_cmp (do_eq rfl (units100 hr)) (de_var 1) de_str)))))
dss_nil)
(dss_one (ds_ret (de_and (de_callG c_is_one_of gd rfl (hr.mono (by omega)) rfl tk (da_cons (de_var 1) (da_cons (de_gTup T.g_RANK_WAYS (.cons rfl (.cons rfl (.one rfl))) rfl) da_nil)) rfl (la_cons (la_cons la_nil))) (de_one (de_or (de_cmp (do_eq rfl (units100 hr)) (de_var 1) de_str) (de_one (de_cmp (do_eq rfl (units100 hr)) (de_var 2) de_int))))))))

abbrev s_Race_init : Stmt := inClass (top 18) 0
theorem sc_Race_init : FnScope ["self", "name", "kind", "choices", "districts", "seats", "by"] ["self", "name", "kind", "choices", "districts", "seats", "by"] (defScope s_Race_init) := ⟨rfl, rfl, rfl, by decide +kernel, rfl, by decide +kernel, by decide +kernel⟩
theorem ok_Race_init {f : Addr} {fd : FuncData} (F : FunD K "__init__" "Race.__init__" (defArgs s_Race_init) (defBody s_Race_init) (defScope s_Race_init) [] [("seats", .int (1)), ("by", .str "")] f fd) (T : Txt K mg ca ce w) (c_are_unlike_names : DefG ⟨K, ca, ce⟩ P w mg base 2 "are_unlike_names" 3 d_are_unlike_names) (c_is_one_of : DefG ⟨K, ca, ce⟩ P w mg base 1 "is_one_of" 2 d_is_one_of) (c_is_between : DefG ⟨K, ca, ce⟩ P w mg base 2 "is_between" 3 d_is_between) (c_is_way : DefG ⟨K, ca, ce⟩ P w mg base 2 "is_way" 3 d_is_way) : FnG P w K mg base (L2.CX P w) 3 f fd ["self", "name", "kind", "choices", "districts", "seats", "by"] (spD ⟨K, ca, ce⟩ 7 d_Race_init) :=
fnGD (G := ⟨K, ca, ce⟩) (N := ["self", "name", "kind", "choices", "districts", "seats", "by"]) (k := 2) (g := g_Race_init) .pure F sc_Race_init fun cdv A outer s H E hr tk po gd =>
(dss_cons (ds_if (DW.t (dw_or (dt_not (dt_val (de_callG c_are_unlike_names gd rfl (hr.mono (by omega)) rfl tk (da_cons (de_tup (da_cons (de_var 1) da_nil)) (da_cons de_int (da_cons de_int da_nil))) rfl (la_cons (la_cons (la_cons la_nil)))))) (dw_or1 (dt_not (dt_val (de_callG c_is_one_of gd rfl (hr.mono (by omega)) rfl tk (da_cons (de_var 2) (da_cons (de_gTup T.g_KINDS (.cons rfl (.cons rfl (.one rfl))) rfl) da_nil)) rfl (la_cons (la_cons la_nil))))))))
(dss_one (ds_raise rfl rfl tk T.x_NoRace (by rfl)))
dss_nil)
(dss_cons (ds_if (DW.t (dw_or (dt_not (dt_val (de_callG c_are_unlike_names gd rfl (hr.mono (by omega)) rfl tk (da_cons (de_var 3) (da_cons de_int (da_cons (de_gInt T.g_MOST_CHOICES rfl) da_nil))) rfl (la_cons (la_cons (la_cons la_nil)))))) (dw_or1 (dt_not (dt_val (de_callG c_are_unlike_names gd rfl (hr.mono (by omega)) rfl tk (da_cons (de_var 4) (da_cons de_int (da_cons (de_gInt T.g_MOST_DISTRICTS rfl) da_nil))) rfl (la_cons (la_cons (la_cons la_nil)))))))))
(dss_one (ds_raise rfl rfl tk T.x_NoRace (by rfl)))
dss_nil)
(dss_cons (ds_if (DW.t (dw_or (dt_not (dt_val (de_callG c_is_between gd rfl (hr.mono (by omega)) rfl tk (da_cons (de_var 5) (da_cons de_int (da_cons (de_callB (dc_lenX rfl) rfl T.b_len (by decide +kernel) (da_cons (de_var 3) da_nil)) da_nil))) rfl (la_cons (la_cons (la_cons la_nil)))))) (dw_or1 (dt_not (dt_val (de_callG c_is_way gd rfl (hr.mono (by omega)) rfl tk (da_cons (de_var 2) (da_cons (de_var 6) (da_cons (de_var 5) da_nil))) rfl (la_cons (la_cons (la_cons la_nil)))))))))
(dss_one (ds_raise rfl rfl tk T.x_NoRace (by rfl)))
dss_nil)
(dss_cons (ds_fldC rfl T.fl_name (de_var 1) (de_var 0))
(dss_cons (ds_fldC rfl T.fl_kind (de_var 2) (de_var 0))
(dss_cons (ds_fldC rfl T.fl_choices (de_var 3) (de_var 0))
(dss_cons (ds_fldC rfl T.fl_districts (de_var 4) (de_var 0))
(dss_cons (ds_fldC rfl T.fl_seats (de_var 5) (de_var 0))
(dss_one (ds_fldC rfl T.fl_by (de_var 6) (de_var 0)))))))))))

abbrev s__law_race : Stmt := top 37
theorem sc__law_race : FnScope ["_law_told"] ["_law_told"] (defScope s__law_race) := ⟨rfl, rfl, rfl, by decide +kernel, rfl, by decide +kernel, by decide +kernel⟩
theorem ok__law_race {f : Addr} {fd : FuncData} (F : Fun K "_law_race" "_law_race" s__law_race f fd) (T : Txt K mg ca ce w) (c_Race__mk4_seats_by : ClsKN ⟨K, ca, ce⟩ P w mg base 3 "Race" 4 ["seats", "by"] 7 (fun ds es => ds ++ pk [.inr 0, .inr 1] [] es) d_Race_init) : FnG P w K mg base (L2.CX P w) 5 f fd ["_law_told"] (spD ⟨K, ca, ce⟩ 1 d__law_race) :=
fnG (G := ⟨K, ca, ce⟩) (N := ["_law_told"]) .pure F sc__law_race fun cdv A outer s H E hr tk po gd =>
(dss_one (ds_ret (de_makeKN c_Race__mk4_seats_by gd rfl (hr.mono (by omega)) rfl tk (da_cons (de_ixX rfl (units1 hr) (de_var 0) de_int) (da_cons (de_ixX rfl (units1 hr) (de_var 0) de_int) (da_cons (de_ixX rfl (units1 hr) (de_var 0) de_int) (da_cons (de_tup (da_cons de_str da_nil)) da_nil)))) (dk_cons (de_ixX rfl (units1 hr) (de_var 0) de_int) (dk_cons (de_ixX rfl (units1 hr) (de_var 0) de_int) dk_nil)) (la_cons (la_cons (la_cons (la_cons la_nil)))) (la_cons (la_cons la_nil)))))

abbrev s__law_shuffled : Stmt := top 38
theorem sc__law_shuffled : FnScope ["_law_draw", "_law_things", "_law_left", "_law_k"] ["_law_draw", "_law_things"] (defScope s__law_shuffled) := ⟨rfl, rfl, rfl, by decide +kernel, rfl, by decide +kernel, by decide +kernel⟩
theorem ok__law_shuffled {f : Addr} {fd : FuncData} (F : Fun K "_law_shuffled" "_law_shuffled" s__law_shuffled f fd) (T : Txt K mg ca ce w) (c__law_next : DefG ⟨K, ca, ce⟩ P w mg base 1 "_law_next" 2 d__law_next) : FnG P w K mg base (L2.CX P w) 2 f fd ["_law_draw", "_law_things"] (spD ⟨K, ca, ce⟩ 2 d__law_shuffled) :=
fnG (G := ⟨K, ca, ce⟩) (N := ["_law_draw", "_law_things", "_law_left", "_law_k"]) .pure F sc__law_shuffled fun cdv A outer s H E hr tk po gd =>
(dss_cons (ds_set (i := 2) sc__law_shuffled.nd rfl (Or.inr rfl) (de_callTy (dc_listXM rfl rfl) rfl T.b_list (by decide +kernel) (da_cons (de_var 1) da_nil)))
(dss_one (ds_ret (de_lc (own := [("_law_k", 3)]) rfl sc__law_shuffled.nd (di_range1 rfl T.b_range (da_cons (de_callB (dc_lenX rfl) rfl T.b_len (by decide +kernel) (da_cons (de_var 2) da_nil)) da_nil)) (blkOk_by (N := ["_law_draw", "_law_things", "_law_left", "_law_k"]) (sc := defScope s__law_shuffled) (own := [("_law_k", 3)]) (by decide +kernel)) (fun _ _ _ _ _ => (dg_name sc__law_shuffled.nd rfl (by first | exact Or.inl rfl | exact Or.inr rfl))) (fun _ _ _ _ _ => dts_nil) (fun _ _ _ _ _ => (de_meth PySem.F.plainAttrs_list PySem.F.slot_list_pop PySem.F.type_list_pop dm_popAt rfl (de_var 2) (da_cons (de_callG c__law_next gd rfl (hr.mono (by omega)) rfl takes0 (da_cons (de_var 0) (da_cons (de_callB (dc_lenX rfl) rfl T.b_len (by decide +kernel) (da_cons (de_var 2) da_nil)) da_nil)) rfl (la_cons (la_cons la_nil))) da_nil))) (by decide)))))

abbrev s__law_mark : Stmt := top 39
theorem sc__law_mark : FnScope ["_law_draw", "_law_told", "_law_way", "_law_choices", "_law_some", "_law_one"] ["_law_draw", "_law_told"] (defScope s__law_mark) := ⟨rfl, rfl, rfl, by decide +kernel, rfl, by decide +kernel, by decide +kernel⟩
theorem ok__law_mark {f : Addr} {fd : FuncData} (F : Fun K "_law_mark" "_law_mark" s__law_mark f fd) (T : Txt K mg ca ce w) (c__law_next : DefG ⟨K, ca, ce⟩ P w mg base 1 "_law_next" 2 d__law_next) (c__law_pick : DefG ⟨K, ca, ce⟩ P w mg base 2 "_law_pick" 2 d__law_pick) (c__law_shuffled : DefG ⟨K, ca, ce⟩ P w mg base 2 "_law_shuffled" 2 d__law_shuffled) : FnG P w K mg base (L2.CX P w) 3 f fd ["_law_draw", "_law_told"] (spD ⟨K, ca, ce⟩ 2 d__law_mark) :=
fnG (G := ⟨K, ca, ce⟩) (N := ["_law_draw", "_law_told", "_law_way", "_law_choices", "_law_some", "_law_one"]) .keep F sc__law_mark fun cdv A outer s H E hr tk po gd =>
(dss_cons (ds_par (i := 2) (j := 3) rfl sc__law_mark.nd rfl rfl (by decide) rfl rfl (da_cons (de_callG c__law_next gd rfl (hr.mono (by omega)) rfl tk (da_cons (de_var 0) (da_cons de_int da_nil)) rfl (la_cons (la_cons la_nil))) (da_cons (de_ixX rfl (units1 hr) (de_var 1) de_int) da_nil)) (by rfl))
(dss_cons (ds_if (dt_cmp do_lt (de_var 2) de_int)
(dss_one (ds_ret (de_ixX rfl (units1 hr) (de_lst (da_cons de_non (da_cons de_str da_nil))) (de_var 2))))
dss_nil)
(dss_cons (ds_if (dt_cmp (do_eq rfl (units100 hr)) (de_ixX rfl (units1 hr) (de_var 1) de_int) de_str)
(dss_one (ds_ret (de_callG c__law_pick gd rfl (hr.mono (by omega)) rfl tk (da_cons (de_var 0) (da_cons (de_var 3) da_nil)) rfl (la_cons (la_cons la_nil)))))
dss_nil)
(dss_cons (ds_set (i := 4) sc__law_mark.nd rfl (Or.inl rfl) (de_orT rfl (de_lc (own := [("_law_one", 5)]) rfl sc__law_mark.nd (di_seq rfl (de_var 3)) (blkOk_by (N := ["_law_draw", "_law_told", "_law_way", "_law_choices", "_law_some", "_law_one"]) (sc := defScope s__law_mark) (own := [("_law_one", 5)]) (by decide +kernel)) (fun _ _ _ _ _ => (dg_name sc__law_mark.nd rfl (by first | exact Or.inl rfl | exact Or.inr rfl))) (fun _ _ _ _ _ => (dts_one (dt_cmp (do_eq rfl (units100 hr)) (de_callG c__law_next gd rfl (hr.mono (by omega)) rfl takes0 (da_cons (de_var 0) (da_cons de_int da_nil)) rfl (la_cons (la_cons la_nil))) de_int))) (fun _ _ _ _ _ => (de_var 5)) (by decide)) (de_one (de_lst (da_cons (de_callG c__law_pick gd rfl (hr.mono (by omega)) rfl tk (da_cons (de_var 0) (da_cons (de_var 3) da_nil)) rfl (la_cons (la_cons la_nil))) da_nil)))))
(dss_one (ds_ret (de_callTy (dc_tuple rfl) rfl T.b_tuple (by decide +kernel) (da_cons (de_if (dt_cmp (do_eq rfl (units100 hr)) (de_ixX rfl (units1 hr) (de_var 1) de_int) de_str) (de_var 4) (de_callG c__law_shuffled gd rfl (hr.mono (by omega)) rfl tk (da_cons (de_var 0) (da_cons (de_var 4) da_nil)) rfl (la_cons (la_cons la_nil)))) da_nil))))))))

abbrev s__law_marks : Stmt := top 40
theorem sc__law_marks : FnScope ["_law_draw", "_law_told", "_law_most", "_law_kinds", "_law_k"] ["_law_draw", "_law_told", "_law_most"] (defScope s__law_marks) := ⟨rfl, rfl, rfl, by decide +kernel, rfl, by decide +kernel, by decide +kernel⟩
theorem ok__law_marks {f : Addr} {fd : FuncData} (F : Fun K "_law_marks" "_law_marks" s__law_marks f fd) (T : Txt K mg ca ce w) (c__law_next : DefG ⟨K, ca, ce⟩ P w mg base 1 "_law_next" 2 d__law_next) (c__law_pick : DefG ⟨K, ca, ce⟩ P w mg base 2 "_law_pick" 2 d__law_pick) (c__law_mark : DefG ⟨K, ca, ce⟩ P w mg base 3 "_law_mark" 2 d__law_mark) : FnG P w K mg base (L2.CX P w) 4 f fd ["_law_draw", "_law_told", "_law_most"] (spD ⟨K, ca, ce⟩ 3 d__law_marks) :=
fnG (G := ⟨K, ca, ce⟩) (N := ["_law_draw", "_law_told", "_law_most", "_law_kinds", "_law_k"]) .keep F sc__law_marks fun cdv A outer s H E hr tk po gd =>
(dss_cons (ds_set (i := 3) sc__law_marks.nd rfl (Or.inr rfl) (de_lc (own := [("_law_k", 4)]) rfl sc__law_marks.nd (di_range1 rfl T.b_range (da_cons (de_op (do_add rfl) de_int (de_callG c__law_next gd rfl (hr.mono (by omega)) rfl tk (da_cons (de_var 0) (da_cons de_int da_nil)) rfl (la_cons (la_cons la_nil)))) da_nil)) (blkOk_by (N := ["_law_draw", "_law_told", "_law_most", "_law_kinds", "_law_k"]) (sc := defScope s__law_marks) (own := [("_law_k", 4)]) (by decide +kernel)) (fun _ _ _ _ _ => (dg_name sc__law_marks.nd rfl (by first | exact Or.inl rfl | exact Or.inr rfl))) (fun _ _ _ _ _ => dts_nil) (fun _ _ _ _ _ => (de_callG c__law_mark gd rfl (hr.mono (by omega)) rfl takes0 (da_cons (de_var 0) (da_cons (de_var 1) da_nil)) rfl (la_cons (la_cons la_nil)))) (by decide)))
(dss_one (ds_ret (de_lc (own := [("_law_k", 4)]) rfl sc__law_marks.nd (di_range1 rfl T.b_range (da_cons (de_callG c__law_next gd rfl (hr.mono (by omega)) rfl tk (da_cons (de_var 0) (da_cons (de_op (do_add rfl) (de_var 2) de_int) da_nil)) rfl (la_cons (la_cons la_nil))) da_nil)) (blkOk_by (N := ["_law_draw", "_law_told", "_law_most", "_law_kinds", "_law_k"]) (sc := defScope s__law_marks) (own := [("_law_k", 4)]) (by decide +kernel)) (fun _ _ _ _ _ => (dg_name sc__law_marks.nd rfl (by first | exact Or.inl rfl | exact Or.inr rfl))) (fun _ _ _ _ _ => dts_nil) (fun _ _ _ _ _ => (de_callG c__law_pick gd rfl (hr.mono (by omega)) rfl takes0 (da_cons (de_var 0) (da_cons (de_var 3) da_nil)) rfl (la_cons (la_cons la_nil)))) (by decide)))))

abbrev s_need_lot : Stmt := top 23
theorem sc_need_lot : FnScope ["names", "lot", "name"] ["names", "lot"] (defScope s_need_lot) := ⟨rfl, rfl, rfl, by decide +kernel, rfl, by decide +kernel, by decide +kernel⟩
theorem ok_need_lot {f : Addr} {fd : FuncData} (F : Fun K "need_lot" "need_lot" s_need_lot f fd) (T : Txt K mg ca ce w)  : FnG P w K mg base (L2.CX P w) 1 f fd ["names", "lot"] (spD ⟨K, ca, ce⟩ 2 d_need_lot) :=
fnG (G := ⟨K, ca, ce⟩) (N := ["names", "lot", "name"]) .pure F sc_need_lot fun cdv A outer s H E hr tk po gd =>
(dss_cons (ds_if (DW.t (dw_or (dt_not (dt_val (de_isC rfl T.own T.is_tuple (cn_ty rfl T.b_tuple (by decide +kernel)) rfl T.b_isinstance (de_var 1)))) (dw_or1 (dt_cmp (do_ne rfl (units100 hr)) (de_callB (dc_lenX rfl) rfl T.b_len (by decide +kernel) (da_cons (de_var 1) da_nil)) (de_callB (dc_lenX rfl) rfl T.b_len (by decide +kernel) (da_cons (de_var 0) da_nil))))))
(dss_one (ds_raise rfl rfl tk T.x_NoLot (by rfl)))
dss_nil)
(dss_one (ds_if (dt_not (dt_val (de_callB (dc_all rfl rfl) rfl T.b_all (by decide +kernel) (da_cons (de_lc (own := [("name", 2)]) rfl sc_need_lot.nd (di_seq rfl (de_var 0)) (blkOk_by (N := ["names", "lot", "name"]) (sc := defScope s_need_lot) (own := [("name", 2)]) (by decide +kernel)) (fun _ _ _ _ _ => (dg_name sc_need_lot.nd rfl (by first | exact Or.inl rfl | exact Or.inr rfl))) (fun _ _ _ _ _ => dts_nil) (fun _ _ _ _ _ => (de_and (de_isC rfl T.own T.is_str (cn_ty rfl T.b_str (by decide +kernel)) rfl T.b_isinstance (de_var 2)) (de_one (de_cmp (do_in rfl (units65 hr)) (de_var 2) (de_var 1))))) (by decide)) da_nil))))
(dss_one (ds_raise rfl rfl tk T.x_NoLot (by rfl)))
dss_nil)))

abbrev s_is_blank : Stmt := top 19
theorem sc_is_blank : FnScope ["race", "mark"] ["race", "mark"] (defScope s_is_blank) := ⟨rfl, rfl, rfl, by decide +kernel, rfl, by decide +kernel, by decide +kernel⟩
theorem ok_is_blank {f : Addr} {fd : FuncData} (F : Fun K "is_blank" "is_blank" s_is_blank f fd) (T : Txt K mg ca ce w)  : FnG P w K mg base (L2.CX P w) 1 f fd ["race", "mark"] (spD ⟨K, ca, ce⟩ 2 d_is_blank) :=
fnG (G := ⟨K, ca, ce⟩) (N := ["race", "mark"]) .pure F sc_is_blank fun cdv A outer s H E hr tk po gd =>
(dss_one (ds_ret (de_or (de_cmp do_isN (de_var 1) de_non) (de_one (de_and (de_isC rfl T.own T.is_tuple (cn_ty rfl T.b_tuple (by decide +kernel)) rfl T.b_isinstance (de_var 1)) (de_and (de_cmp (do_eq rfl (units100 hr)) (de_var 1) (de_tup da_nil)) (de_one (de_cmp (do_ne rfl (units100 hr)) (de_fldC rfl T.fl_kind (de_var 0)) de_str))))))))

abbrev s_is_good : Stmt := top 20
theorem sc_is_good : FnScope ["race", "mark", "one"] ["race", "mark"] (defScope s_is_good) := ⟨rfl, rfl, rfl, by decide +kernel, rfl, by decide +kernel, by decide +kernel⟩
theorem ok_is_good {f : Addr} {fd : FuncData} (F : Fun K "is_good" "is_good" s_is_good f fd) (T : Txt K mg ca ce w) (c_is_one_of : DefG ⟨K, ca, ce⟩ P w mg base 1 "is_one_of" 2 d_is_one_of) : FnG P w K mg base (L2.CX P w) 2 f fd ["race", "mark"] (spD ⟨K, ca, ce⟩ 2 d_is_good) :=
fnG (G := ⟨K, ca, ce⟩) (N := ["race", "mark", "one"]) .pure F sc_is_good fun cdv A outer s H E hr tk po gd =>
(dss_cons (ds_if (dt_cmp (do_eq rfl (units100 hr)) (de_fldC rfl T.fl_kind (de_var 0)) de_str)
(dss_one (ds_ret (de_callG c_is_one_of gd rfl (hr.mono (by omega)) rfl tk (da_cons (de_var 1) (da_cons (de_fldC rfl T.fl_choices (de_var 0)) da_nil)) rfl (la_cons (la_cons la_nil)))))
dss_nil)
(dss_cons (ds_if (DW.t (dw_or (dt_not (dt_val (de_isC rfl T.own T.is_tuple (cn_ty rfl T.b_tuple (by decide +kernel)) rfl T.b_isinstance (de_var 1)))) (dw_or (dt_cmp (do_eq rfl (units100 hr)) (de_var 1) (de_tup da_nil)) (dw_or1 (dt_not (dt_val (de_callB (dc_all rfl rfl) rfl T.b_all (by decide +kernel) (da_cons (de_lc (own := [("one", 2)]) rfl sc_is_good.nd (di_seq rfl (de_var 1)) (blkOk_by (N := ["race", "mark", "one"]) (sc := defScope s_is_good) (own := [("one", 2)]) (by decide +kernel)) (fun _ _ _ _ _ => (dg_name sc_is_good.nd rfl (by first | exact Or.inl rfl | exact Or.inr rfl))) (fun _ _ _ _ _ => dts_nil) (fun _ _ _ _ _ => (de_callG c_is_one_of gd rfl (hr.mono (by omega)) rfl takes0 (da_cons (de_var 2) (da_cons (de_fldC rfl T.fl_choices (de_var 0)) da_nil)) rfl (la_cons (la_cons la_nil)))) (by decide)) da_nil))))))))
(dss_one (ds_ret de_bl))
dss_nil)
(dss_one (ds_ret (de_cmp (do_eq rfl (units100 hr)) (de_lenSet rfl rfl rfl T.b_len rfl T.b_set (de_var 1)) (de_callB (dc_lenX rfl) rfl T.b_len (by decide +kernel) (da_cons (de_var 1) da_nil)))))))

abbrev s_mark_word : Stmt := top 21
theorem sc_mark_word : FnScope ["race", "mark"] ["race", "mark"] (defScope s_mark_word) := ⟨rfl, rfl, rfl, by decide +kernel, rfl, by decide +kernel, by decide +kernel⟩
theorem ok_mark_word {f : Addr} {fd : FuncData} (F : Fun K "mark_word" "mark_word" s_mark_word f fd) (T : Txt K mg ca ce w) (c_is_blank : DefG ⟨K, ca, ce⟩ P w mg base 1 "is_blank" 2 d_is_blank) (c_is_good : DefG ⟨K, ca, ce⟩ P w mg base 2 "is_good" 2 d_is_good) : FnG P w K mg base (L2.CX P w) 3 f fd ["race", "mark"] (spD ⟨K, ca, ce⟩ 2 d_mark_word) :=
fnG (G := ⟨K, ca, ce⟩) (N := ["race", "mark"]) .pure F sc_mark_word fun cdv A outer s H E hr tk po gd =>
(dss_cons (ds_if (dt_val (de_callG c_is_blank gd rfl (hr.mono (by omega)) rfl tk (da_cons (de_var 0) (da_cons (de_var 1) da_nil)) rfl (la_cons (la_cons la_nil))))
(dss_one (ds_ret de_str))
dss_nil)
(dss_one (ds_ret (de_if (dt_val (de_callG c_is_good gd rfl (hr.mono (by omega)) rfl tk (da_cons (de_var 0) (da_cons (de_var 1) da_nil)) rfl (la_cons (la_cons la_nil)))) de_str de_str))))

abbrev s_good_marks : Stmt := top 24
theorem sc_good_marks : FnScope ["race", "marks", "found", "mark"] ["race", "marks"] (defScope s_good_marks) := ⟨rfl, rfl, rfl, by decide +kernel, rfl, by decide +kernel, by decide +kernel⟩
theorem ok_good_marks {f : Addr} {fd : FuncData} (F : Fun K "good_marks" "good_marks" s_good_marks f fd) (T : Txt K mg ca ce w) (c_mark_word : DefG ⟨K, ca, ce⟩ P w mg base 3 "mark_word" 2 d_mark_word) : FnG P w K mg base (L2.CX P w) 4 f fd ["race", "marks"] (spD ⟨K, ca, ce⟩ 2 d_good_marks) :=
fnG (G := ⟨K, ca, ce⟩) (N := ["race", "marks", "found", "mark"]) .pure F sc_good_marks fun cdv A outer s H E hr tk po gd =>
(dss_cons (ds_setLc (own := [("mark", 3)]) (i := 2) rfl sc_good_marks.nd (di_seq rfl (de_var 1)) (blkOk_by (N := ["race", "marks", "found", "mark"]) (sc := defScope s_good_marks) (own := [("mark", 3)]) (by decide +kernel)) (fun _ _ _ _ _ => (dg_name sc_good_marks.nd rfl (by first | exact Or.inl rfl | exact Or.inr rfl))) (fun _ _ _ _ _ => (dts_one (dt_cmp (do_eq rfl (units100 hr)) (de_callG c_mark_word gd rfl (hr.mono (by omega)) rfl takes0 (da_cons (de_var 0) (da_cons (de_var 3) da_nil)) rfl (la_cons (la_cons la_nil))) de_str))) (fun _ _ _ _ _ => (de_var 3)) (by decide) rfl rfl (sw_true rfl rfl rfl (by decide +kernel)))
(dss_one (ds_ret (de_lc (own := [("mark", 3)]) rfl sc_good_marks.nd (di_any rfl (de_var 2)) (blkOk_by (N := ["race", "marks", "found", "mark"]) (sc := defScope s_good_marks) (own := [("mark", 3)]) (by decide +kernel)) (fun _ _ _ _ _ => (dg_name sc_good_marks.nd rfl (by first | exact Or.inl rfl | exact Or.inr rfl))) (fun _ _ _ _ _ => dts_nil) (fun _ _ _ _ _ => (de_if (dt_cmp (do_eq rfl (units100 hr)) (de_fldC rfl T.fl_kind (de_var 0)) de_str) (de_tup (da_cons (de_var 3) da_nil)) (de_var 3))) (by decide)))))

abbrev s_totals : Stmt := top 25
theorem sc_totals : FnScope ["race", "marks", "found", "mark", "choice"] ["race", "marks"] (defScope s_totals) := ⟨rfl, rfl, rfl, by decide +kernel, rfl, by decide +kernel, by decide +kernel⟩
theorem ok_totals {f : Addr} {fd : FuncData} (F : Fun K "totals" "totals" s_totals f fd) (T : Txt K mg ca ce w) (c_good_marks : DefG ⟨K, ca, ce⟩ P w mg base 4 "good_marks" 2 d_good_marks) : FnG P w K mg base (L2.CX P w) 5 f fd ["race", "marks"] (spD ⟨K, ca, ce⟩ 2 d_totals) :=
fnG (G := ⟨K, ca, ce⟩) (N := ["race", "marks", "found", "mark", "choice"]) .keep F sc_totals fun cdv A outer s H E hr tk po gd =>
(dss_cons (ds_setDcM (own := [("choice", 4)]) (i := 2) rfl sc_totals.nd (di_seq rfl (de_fldC rfl T.fl_choices (de_var 0))) (blkOk_by (N := ["race", "marks", "found", "mark", "choice"]) (sc := defScope s_totals) (own := [("choice", 4)]) (by decide +kernel)) (fun _ _ _ _ _ => (dg_name sc_totals.nd rfl (by first | exact Or.inl rfl | exact Or.inr rfl))) (fun _ _ _ _ _ => dts_nil) (fun _ _ _ _ _ => (de_var 4)) (fun _ _ _ _ _ => de_int) (by decide) rfl rfl (sw_trueD rfl rfl rfl (by decide +kernel)))
(dss_cons (ds_for po rfl (di_seq rfl (de_callG c_good_marks gd rfl (hr.mono (by omega)) rfl tk (da_cons (de_var 0) (da_cons (de_var 1) da_nil)) rfl (la_cons (la_cons la_nil)))) (dg_name sc_totals.nd rfl (by first | exact Or.inl rfl | exact Or.inr rfl))
(dss_one (ds_for po rfl (di_seq rfl (de_if (dt_cmp (do_eq rfl (units100 hr)) (de_fldC rfl T.fl_kind (de_var 0)) de_str) (de_slice rfl (de_var 3) do_none (do_some de_int)) (de_var 3))) (dg_name sc_totals.nd rfl (by first | exact Or.inl rfl | exact Or.inr rfl))
(dss_one (ds_augX (units1 hr) in_add (de_var 2) (de_var 4) de_int)))))
(dss_one (ds_ret (de_var 2)))))

abbrev s_best_first : Stmt := top 26
theorem sc_best_first : FnScope ["counts", "lot", "places", "rows", "k", "name", "count", "place"] ["counts", "lot"] (defScope s_best_first) := ⟨rfl, rfl, rfl, by decide +kernel, rfl, by decide +kernel, by decide +kernel⟩
theorem ok_best_first {f : Addr} {fd : FuncData} (F : Fun K "best_first" "best_first" s_best_first f fd) (T : Txt K mg ca ce w)  : FnG P w K mg base (L2.CX P w) 1 f fd ["counts", "lot"] (spD ⟨K, ca, ce⟩ 2 d_best_first) :=
fnG (G := ⟨K, ca, ce⟩) (N := ["counts", "lot", "places", "rows", "k", "name", "count", "place"]) .pure F sc_best_first fun cdv A outer s H E hr tk po gd =>
(dss_cons (ds_set (i := 2) sc_best_first.nd rfl (Or.inr rfl) (de_dc (own := [("k", 4), ("name", 5)]) rfl sc_best_first.nd (di_enumX rfl rfl T.b_enumerate (da_cons (de_var 1) da_nil)) (blkOk_by (N := ["counts", "lot", "places", "rows", "k", "name", "count", "place"]) (sc := defScope s_best_first) (own := [("k", 4), ("name", 5)]) (by decide +kernel)) (fun _ _ _ _ _ => (dg_tup rfl rfl (dgs_cons (dg_name sc_best_first.nd rfl (by first | exact Or.inl rfl | exact Or.inr rfl)) (dgs_cons (dg_name sc_best_first.nd rfl (by first | exact Or.inl rfl | exact Or.inr rfl)) dgs_nil)) (blen_cons (blen_cons blen_nil)))) (fun _ _ _ _ _ => dts_nil) (fun _ _ _ _ _ => (de_var 5)) (fun _ _ _ _ _ => (de_var 4)) (by decide)))
(dss_cons (ds_set (i := 3) sc_best_first.nd rfl (Or.inl rfl) (de_callB (dc_sortedZ rfl rfl) rfl T.b_sorted (by decide +kernel) (da_cons (de_view 0 (de_lc (own := [("name", 5)]) rfl sc_best_first.nd (di_any rfl (de_var 0)) (blkOk_by (N := ["counts", "lot", "places", "rows", "k", "name", "count", "place"]) (sc := defScope s_best_first) (own := [("name", 5)]) (by decide +kernel)) (fun _ _ _ _ _ => (dg_name sc_best_first.nd rfl (by first | exact Or.inl rfl | exact Or.inr rfl))) (fun _ _ _ _ _ => dts_nil) (fun _ _ _ _ _ => (de_tup (da_cons (de_neg (de_ixX rfl (units1 hr) (de_var 0) (de_var 5))) (da_cons (de_ixX rfl (units1 hr) (de_var 2) (de_var 5)) (da_cons (de_var 5) da_nil))))) (by decide))) da_nil)))
(dss_one (ds_ret (de_lc (own := [("count", 6), ("place", 7), ("name", 5)]) rfl sc_best_first.nd (di_seq rfl (de_var 3)) (blkOk_by (N := ["counts", "lot", "places", "rows", "k", "name", "count", "place"]) (sc := defScope s_best_first) (own := [("count", 6), ("place", 7), ("name", 5)]) (by decide +kernel)) (fun _ _ _ _ _ => (dg_tup rfl rfl (dgs_cons (dg_name sc_best_first.nd rfl (by first | exact Or.inl rfl | exact Or.inr rfl)) (dgs_cons (dg_name sc_best_first.nd rfl (by first | exact Or.inl rfl | exact Or.inr rfl)) (dgs_cons (dg_name sc_best_first.nd rfl (by first | exact Or.inl rfl | exact Or.inr rfl)) dgs_nil))) (blen_cons (blen_cons (blen_cons blen_nil))))) (fun _ _ _ _ _ => dts_nil) (fun _ _ _ _ _ => (de_var 5)) (by decide))))))

abbrev s_top : Stmt := top 27
theorem sc_top : FnScope ["race", "marks", "lot", "counts"] ["race", "marks", "lot"] (defScope s_top) := ⟨rfl, rfl, rfl, by decide +kernel, rfl, by decide +kernel, by decide +kernel⟩
theorem ok_top {f : Addr} {fd : FuncData} (F : Fun K "top" "top" s_top f fd) (T : Txt K mg ca ce w) (c_need_lot : DefG ⟨K, ca, ce⟩ P w mg base 1 "need_lot" 2 d_need_lot) (c_totals : DefG ⟨K, ca, ce⟩ P w mg base 5 "totals" 2 d_totals) (c_best_first : DefG ⟨K, ca, ce⟩ P w mg base 1 "best_first" 2 d_best_first) : FnG P w K mg base (L2.CX P w) 6 f fd ["race", "marks", "lot"] (spD ⟨K, ca, ce⟩ 3 d_top) :=
fnG (G := ⟨K, ca, ce⟩) (N := ["race", "marks", "lot", "counts"]) .pure F sc_top fun cdv A outer s H E hr tk po gd =>
(dss_cons (ds_expr (de_callG c_need_lot gd rfl (hr.mono (by omega)) rfl tk (da_cons (de_fldC rfl T.fl_choices (de_var 0)) (da_cons (de_un (de_var 2)) da_nil)) rfl (la_cons (la_cons la_nil))))
(dss_cons (ds_set (i := 3) sc_top.nd rfl (Or.inl rfl) (de_callG c_totals gd rfl (hr.mono (by omega)) rfl tk (da_cons (de_var 0) (da_cons (de_var 1) da_nil)) rfl (la_cons (la_cons la_nil))))
(dss_one (ds_ret (de_callTy (dc_tuple rfl) rfl T.b_tuple (by decide +kernel) (da_cons (de_slice rfl (de_callG c_best_first gd rfl (hr.mono (by omega)) rfl tk (da_cons (de_var 3) (da_cons (de_un (de_var 2)) da_nil)) rfl (la_cons (la_cons la_nil))) do_none (do_some (de_fldC rfl T.fl_seats (de_var 0)))) da_nil))))))

abbrev s_turned : Stmt := top 29
theorem sc_turned : FnScope ["papers", "many", "winner", "loser", "asked", "ones", "others", "twos", "left", "rest", "paper"] ["papers", "many", "winner", "loser", "asked"] (defScope s_turned) := ⟨rfl, rfl, rfl, by decide +kernel, rfl, by decide +kernel, by decide +kernel⟩
theorem ok_turned {f : Addr} {fd : FuncData} (F : Fun K "turned" "turned" s_turned f fd) (T : Txt K mg ca ce w)  : FnG P w K mg base (L2.CX P w) 1 f fd ["papers", "many", "winner", "loser", "asked"] (spD ⟨K, ca, ce⟩ 5 d_turned) :=
fnG (G := ⟨K, ca, ce⟩) (N := ["papers", "many", "winner", "loser", "asked", "ones", "others", "twos", "left", "rest", "paper"]) .pure F sc_turned fun cdv A outer s H E hr tk po gd =>
(dss_cons (ds_setLc (own := [("paper", 10)]) (i := 5) rfl sc_turned.nd (di_seq rfl (de_var 0)) (blkOk_by (N := ["papers", "many", "winner", "loser", "asked", "ones", "others", "twos", "left", "rest", "paper"]) (sc := defScope s_turned) (own := [("paper", 10)]) (by decide +kernel)) (fun _ _ _ _ _ => (dg_name sc_turned.nd rfl (by first | exact Or.inl rfl | exact Or.inr rfl))) (fun _ _ _ _ _ => (dts_one (DW.t (dw_and (dt_cmp (do_in rfl (units65 hr)) (de_var 2) (de_var 10)) (dw_and1 (dt_cmp (do_notIn rfl (units65 hr)) (de_var 3) (de_var 10))))))) (fun _ _ _ _ _ => (de_var 10)) (by decide) rfl rfl (sw_true rfl rfl rfl (by decide +kernel)))
(dss_cons (ds_setLc (own := [("paper", 10)]) (i := 6) rfl sc_turned.nd (di_seq rfl (de_var 0)) (blkOk_by (N := ["papers", "many", "winner", "loser", "asked", "ones", "others", "twos", "left", "rest", "paper"]) (sc := defScope s_turned) (own := [("paper", 10)]) (by decide +kernel)) (fun _ _ _ _ _ => (dg_name sc_turned.nd rfl (by first | exact Or.inl rfl | exact Or.inr rfl))) (fun _ _ _ _ _ => (dts_one (DW.t (dw_and (dt_cmp (do_in rfl (units65 hr)) (de_var 3) (de_var 10)) (dw_and1 (dt_cmp (do_notIn rfl (units65 hr)) (de_var 2) (de_var 10))))))) (fun _ _ _ _ _ => (de_var 10)) (by decide) rfl rfl (sw_true rfl rfl rfl (by decide +kernel)))
(dss_cons (ds_set (i := 7) sc_turned.nd rfl (Or.inl rfl) (de_callB (dc_min2 rfl) rfl T.b_min (by decide +kernel) (da_cons (de_callB (dc_lenX rfl) rfl T.b_len (by decide +kernel) (da_cons (de_var 5) da_nil)) (da_cons (de_op do_fdiv (de_op (do_add rfl) (de_var 4) de_int) de_int) da_nil))))
(dss_cons (ds_set (i := 8) sc_turned.nd rfl (Or.inl rfl) (de_callB (dc_max2 rfl) rfl T.b_max (by decide +kernel) (da_cons de_int (da_cons (de_op do_sub (de_var 4) (de_op do_mul de_int (de_var 7))) da_nil))))
(dss_cons (ds_set (i := 9) sc_turned.nd rfl (Or.inl rfl) (de_op do_sub (de_op do_sub (de_var 1) (de_callB (dc_lenX rfl) rfl T.b_len (by decide +kernel) (da_cons (de_var 5) da_nil))) (de_callB (dc_lenX rfl) rfl T.b_len (by decide +kernel) (da_cons (de_var 6) da_nil))))
(dss_one (ds_ret (de_if (dt_cmp do_le (de_var 8) (de_var 9)) (de_op (do_add rfl) (de_var 7) (de_var 8)) de_non))))))))

abbrev s_margin : Stmt := top 30
theorem sc_margin : FnScope ["race", "marks", "lot", "papers", "counts", "many", "order", "found", "winner", "loser", "asked", "number"] ["race", "marks", "lot"] (defScope s_margin) := ⟨rfl, rfl, rfl, by decide +kernel, rfl, by decide +kernel, by decide +kernel⟩
theorem ok_margin {f : Addr} {fd : FuncData} (F : Fun K "margin" "margin" s_margin f fd) (T : Txt K mg ca ce w) (c_need_lot : DefG ⟨K, ca, ce⟩ P w mg base 1 "need_lot" 2 d_need_lot) (c_good_marks : DefG ⟨K, ca, ce⟩ P w mg base 4 "good_marks" 2 d_good_marks) (c_totals : DefG ⟨K, ca, ce⟩ P w mg base 5 "totals" 2 d_totals) (c_best_first : DefG ⟨K, ca, ce⟩ P w mg base 1 "best_first" 2 d_best_first) (c_turned : DefG ⟨K, ca, ce⟩ P w mg base 1 "turned" 5 d_turned) : FnG P w K mg base (L2.CX P w) 6 f fd ["race", "marks", "lot"] (spD ⟨K, ca, ce⟩ 3 d_margin) :=
fnG (G := ⟨K, ca, ce⟩) (N := ["race", "marks", "lot", "papers", "counts", "many", "order", "found", "winner", "loser", "asked", "number"]) .pure F sc_margin fun cdv A outer s H E hr tk po gd =>
(dss_cons (ds_if (dt_cmp (do_eq rfl (units100 hr)) (de_fldC rfl T.fl_kind (de_var 0)) de_str)
(dss_one (ds_raise rfl rfl tk T.x_NoRace (by rfl)))
dss_nil)
(dss_cons (ds_expr (de_callG c_need_lot gd rfl (hr.mono (by omega)) rfl tk (da_cons (de_fldC rfl T.fl_choices (de_var 0)) (da_cons (de_un (de_var 2)) da_nil)) rfl (la_cons (la_cons la_nil))))
(dss_cons (ds_par3 (i := 3) (j := 4) (l := 5) rfl sc_margin.nd rfl rfl rfl (by decide) (by decide) (by decide) rfl rfl rfl (da_cons (de_callG c_good_marks gd rfl (hr.mono (by omega)) rfl tk (da_cons (de_var 0) (da_cons (de_var 1) da_nil)) rfl (la_cons (la_cons la_nil))) (da_cons (de_callG c_totals gd rfl (hr.mono (by omega)) rfl tk (da_cons (de_var 0) (da_cons (de_var 1) da_nil)) rfl (la_cons (la_cons la_nil))) (da_cons (de_callB (dc_lenX rfl) rfl T.b_len (by decide +kernel) (da_cons (de_var 1) da_nil)) da_nil))) (by rfl))
(dss_cons (ds_set (i := 6) sc_margin.nd rfl (Or.inl rfl) (de_callG c_best_first gd rfl (hr.mono (by omega)) rfl tk (da_cons (de_var 4) (da_cons (de_un (de_var 2)) da_nil)) rfl (la_cons (la_cons la_nil))))
(dss_cons (ds_set (i := 7) sc_margin.nd rfl (Or.inl rfl) (de_lstM (da_cons (de_op (do_add rfl) (de_var 5) de_int) da_nil)))
(dss_cons (ds_for po rfl (di_seq rfl (de_slice rfl (de_var 6) do_none (do_some (de_fldC rfl T.fl_seats (de_var 0))))) (dg_name sc_margin.nd rfl (by first | exact Or.inl rfl | exact Or.inr rfl))
(dss_one (ds_for po rfl (di_seq rfl (de_slice rfl (de_var 6) (do_some (de_fldC rfl T.fl_seats (de_var 0))) do_none)) (dg_name sc_margin.nd rfl (by first | exact Or.inl rfl | exact Or.inr rfl))
(dss_cons (ds_set (i := 10) sc_margin.nd rfl (Or.inl rfl) (de_op (do_add rfl) (de_op do_sub (de_ixX rfl (units1 hr) (de_var 4) (de_var 8)) (de_ixX rfl (units1 hr) (de_var 4) (de_var 9))) (de_callTy dc_int rfl T.b_int (by decide +kernel) (da_cons (de_cmp do_lt (de_indexZ rfl (de_var 2) (da_cons (de_var 8) da_nil)) (de_indexZ rfl (de_var 2) (da_cons (de_var 9) da_nil))) da_nil))))
(dss_cons (ds_set (i := 11) sc_margin.nd rfl (Or.inl rfl) (de_callG c_turned gd rfl (hr.mono (by omega)) rfl tk (da_cons (de_var 3) (da_cons (de_var 5) (da_cons (de_var 8) (da_cons (de_var 9) (da_cons (de_var 10) da_nil))))) rfl (la_cons (la_cons (la_cons (la_cons (la_cons la_nil)))))))
(dss_one (ds_if (dt_cmp do_notN (de_var 11) de_non)
(dss_one (ds_expr (de_meth PySem.F.plainAttrs_list PySem.F.slot_list_append PySem.F.type_list_append dm_append rfl (de_var 7) (da_cons (de_var 11) da_nil))))
dss_nil)))))))
(dss_one (ds_ret (de_callB (dc_minL rfl rfl) rfl T.b_min (by decide +kernel) (da_cons (de_var 7) da_nil))))))))))

abbrev s__law_help : Stmt := top 41
theorem sc__law_help : FnScope ["_law_told", "_law_mark_here", "_law_winner", "_law_loser", "_law_some"] ["_law_told", "_law_mark_here", "_law_winner", "_law_loser"] (defScope s__law_help) := ⟨rfl, rfl, rfl, by decide +kernel, rfl, by decide +kernel, by decide +kernel⟩
theorem ok__law_help {f : Addr} {fd : FuncData} (F : Fun K "_law_help" "_law_help" s__law_help f fd) (T : Txt K mg ca ce w)  : FnG P w K mg base (L2.CX P w) 1 f fd ["_law_told", "_law_mark_here", "_law_winner", "_law_loser"] (spD ⟨K, ca, ce⟩ 4 d__law_help) :=
fnG (G := ⟨K, ca, ce⟩) (N := ["_law_told", "_law_mark_here", "_law_winner", "_law_loser", "_law_some"]) .pure F sc__law_help fun cdv A outer s H E hr tk po gd =>
(dss_cons (ds_set (i := 4) sc__law_help.nd rfl (Or.inl rfl) (de_if (DW.t (dw_or (dt_cmp do_isN (de_var 1) de_non) (dw_or1 (dt_cmp (do_eq rfl (units100 hr)) (de_var 1) de_str)))) (de_lst da_nil) (de_if (dt_cmp (do_eq rfl (units100 hr)) (de_ixX rfl (units1 hr) (de_var 0) de_int) de_str) (de_lst (da_cons (de_var 1) da_nil)) (de_callTy (dc_listX rfl rfl) rfl T.b_list (by decide +kernel) (da_cons (de_var 1) da_nil)))))
(dss_one (ds_ret (de_op do_sub (de_op (do_add rfl) de_int (de_callTy dc_int rfl T.b_int (by decide +kernel) (da_cons (de_cmp (do_in rfl (units65 hr)) (de_var 2) (de_var 4)) da_nil))) (de_callTy dc_int rfl T.b_int (by decide +kernel) (da_cons (de_cmp (do_in rfl (units65 hr)) (de_var 3) (de_var 4)) da_nil))))))

abbrev s__law_turned : Stmt := top 42
theorem sc__law_turned : FnScope ["_law_told", "_law_marks_here", "_law_winner", "_law_loser", "_law_many", "_law_found", "_law_alone", "_law_turn", "_law_places", "_law_helps", "_law_k"] ["_law_told", "_law_marks_here", "_law_winner", "_law_loser", "_law_many"] (defScope s__law_turned) := ⟨rfl, rfl, rfl, by decide +kernel, rfl, by decide +kernel, by decide +kernel⟩
theorem ok__law_turned {f : Addr} {fd : FuncData} (F : Fun K "_law_turned" "_law_turned" s__law_turned f fd) (T : Txt K mg ca ce w) (c__law_help : DefG ⟨K, ca, ce⟩ P w mg base 1 "_law_help" 4 d__law_help) : FnG P w K mg base (L2.CX P w) 2 f fd ["_law_told", "_law_marks_here", "_law_winner", "_law_loser", "_law_many"] (spD ⟨K, ca, ce⟩ 5 d__law_turned) :=
fnG (G := ⟨K, ca, ce⟩) (N := ["_law_told", "_law_marks_here", "_law_winner", "_law_loser", "_law_many", "_law_found", "_law_alone", "_law_turn", "_law_places", "_law_helps", "_law_k"]) .pure F sc__law_turned fun cdv A outer s H E hr tk po gd =>
(dss_cons (ds_asg (de_tup (da_cons (de_callTy (dc_listXM rfl rfl) rfl T.b_list (by decide +kernel) (da_cons (de_var 1) da_nil)) (da_cons (de_if (dt_cmp (do_eq rfl (units100 hr)) (de_ixX rfl (units1 hr) (de_var 0) de_int) de_str) (de_var 3) (de_tup (da_cons (de_var 3) da_nil))) da_nil))) (dg_tup rfl rfl (dgs_cons (dg_name sc__law_turned.nd rfl (by first | exact Or.inl rfl | exact Or.inr rfl)) (dgs_cons (dg_name sc__law_turned.nd rfl (by first | exact Or.inl rfl | exact Or.inr rfl)) dgs_nil)) (blen_cons (blen_cons blen_nil))))
(dss_cons (ds_for po rfl (di_range1 rfl T.b_range (da_cons (de_var 4) da_nil)) (dg_name sc__law_turned.nd rfl (by first | exact Or.inl rfl | exact Or.inr rfl))
(dss_cons (ds_setLc (own := [("_law_k", 10)]) (i := 8) rfl sc__law_turned.nd (di_range1 rfl T.b_range (da_cons (de_callB (dc_lenX rfl) rfl T.b_len (by decide +kernel) (da_cons (de_var 5) da_nil)) da_nil)) (blkOk_by (N := ["_law_told", "_law_marks_here", "_law_winner", "_law_loser", "_law_many", "_law_found", "_law_alone", "_law_turn", "_law_places", "_law_helps", "_law_k"]) (sc := defScope s__law_turned) (own := [("_law_k", 10)]) (by decide +kernel)) (fun _ _ _ _ _ => (dg_name sc__law_turned.nd rfl (by first | exact Or.inl rfl | exact Or.inr rfl))) (fun _ _ _ _ _ => (dts_one (dt_cmp (do_ne rfl (units100 hr)) (de_ixX rfl (units1 hr) (de_var 5) (de_var 10)) (de_var 6)))) (fun _ _ _ _ _ => (de_var 10)) (by decide) rfl rfl (sw_true rfl rfl rfl (by decide +kernel)))
(dss_cons (ds_setLc (own := [("_law_k", 10)]) (i := 9) rfl sc__law_turned.nd (di_seq rfl (de_var 8)) (blkOk_by (N := ["_law_told", "_law_marks_here", "_law_winner", "_law_loser", "_law_many", "_law_found", "_law_alone", "_law_turn", "_law_places", "_law_helps", "_law_k"]) (sc := defScope s__law_turned) (own := [("_law_k", 10)]) (by decide +kernel)) (fun _ _ _ _ _ => (dg_name sc__law_turned.nd rfl (by first | exact Or.inl rfl | exact Or.inr rfl))) (fun _ _ _ _ _ => dts_nil) (fun _ _ _ _ _ => (de_tup (da_cons (de_op do_sub de_int (de_callG c__law_help gd rfl (hr.mono (by omega)) rfl takes0 (da_cons (de_var 0) (da_cons (de_ixX rfl (units1 hr) (de_var 5) (de_var 10)) (da_cons (de_var 2) (da_cons (de_var 3) da_nil)))) rfl (la_cons (la_cons (la_cons (la_cons la_nil)))))) (da_cons (de_var 10) da_nil)))) (by decide) rfl rfl (sw_true rfl rfl rfl (by decide +kernel)))
(dss_cons (ds_if (dt_cmp (do_eqL0 rfl (units100 hr)) (de_var 9) (de_lst da_nil))
(dss_one (ds_ret (de_var 5)))
dss_nil)
(dss_one (ds_putX (units1 hr) (de_var 6) (de_var 5) (de_ixX rfl (units1 hr) (de_ixX rfl (units1 hr) (de_callB (dc_sortedZ rfl rfl) rfl T.b_sorted (by decide +kernel) (da_cons (de_var 9) da_nil)) de_int) de_int)))))))
(dss_one (ds_ret (de_var 5)))))

abbrev s__law_right : Stmt := top 43
theorem sc__law_right : FnScope ["_law_cell", "_law_k", "_law_draw", "_law_told", "_law_marks_here", "_law_lot", "_law_race_here", "_law_first", "_law_due", "_law_winner", "_law_loser", "_law_many", "_law_other", "_law_turn", "_law_spot", "_law_name"] ["_law_cell", "_law_k"] (defScope s__law_right) := ⟨rfl, rfl, rfl, by decide +kernel, rfl, by decide +kernel, by decide +kernel⟩
theorem ok__law_right {f : Addr} {fd : FuncData} (F : Fun K "_law_right" "_law_right" s__law_right f fd) (T : Txt K mg ca ce w) (c__law_begun : DefG ⟨K, ca, ce⟩ P w mg base 1 "_law_begun" 2 d__law_begun) (c__law_told_race : DefG ⟨K, ca, ce⟩ P w mg base 3 "_law_told_race" 2 d__law_told_race) (c__law_race : DefG ⟨K, ca, ce⟩ P w mg base 5 "_law_race" 1 d__law_race) (c__law_shuffled : DefG ⟨K, ca, ce⟩ P w mg base 2 "_law_shuffled" 2 d__law_shuffled) (c__law_mark : DefG ⟨K, ca, ce⟩ P w mg base 3 "_law_mark" 2 d__law_mark) (c__law_marks : DefG ⟨K, ca, ce⟩ P w mg base 4 "_law_marks" 3 d__law_marks) (c_top : DefG ⟨K, ca, ce⟩ P w mg base 6 "top" 3 d_top) (c_margin : DefG ⟨K, ca, ce⟩ P w mg base 6 "margin" 3 d_margin) (c__law_turned : DefG ⟨K, ca, ce⟩ P w mg base 2 "_law_turned" 5 d__law_turned) : FnG P w K mg base (L2.CX P w) 7 f fd ["_law_cell", "_law_k"] (spD ⟨K, ca, ce⟩ 2 d__law_right) :=
fnG (G := ⟨K, ca, ce⟩) (N := ["_law_cell", "_law_k", "_law_draw", "_law_told", "_law_marks_here", "_law_lot", "_law_race_here", "_law_first", "_law_due", "_law_winner", "_law_loser", "_law_many", "_law_other", "_law_turn", "_law_spot", "_law_name"]) .pure F sc__law_right fun cdv A outer s H E hr tk po gd =>
(dss_cons (ds_set (i := 2) sc__law_right.nd rfl (Or.inl rfl) (de_callG c__law_begun gd rfl (hr.mono (by omega)) rfl tk (da_cons (de_var 0) (da_cons (de_var 1) da_nil)) rfl (la_cons (la_cons la_nil))))
(dss_cons (ds_set (i := 3) sc__law_right.nd rfl (Or.inl rfl) (de_callG c__law_told_race gd rfl (hr.mono (by omega)) rfl tk (da_cons (de_var 2) (da_cons (de_lst (da_cons de_str (da_cons de_str da_nil))) da_nil)) rfl (la_cons (la_cons la_nil))))
(dss_cons (ds_par (i := 4) (j := 5) rfl sc__law_right.nd rfl rfl (by decide) rfl rfl (da_cons (de_callG c__law_marks gd rfl (hr.mono (by omega)) rfl tk (da_cons (de_var 2) (da_cons (de_var 3) (da_cons de_int da_nil))) rfl (la_cons (la_cons (la_cons la_nil)))) (da_cons (de_callTy (dc_tupleZ rfl) rfl T.b_tuple (by decide +kernel) (da_cons (de_callG c__law_shuffled gd rfl (hr.mono (by omega)) rfl tk (da_cons (de_var 2) (da_cons (de_ixX rfl (units1 hr) (de_var 3) de_int) da_nil)) rfl (la_cons (la_cons la_nil))) da_nil)) da_nil)) (by rfl))
(dss_cons (ds_set (i := 6) sc__law_right.nd rfl (Or.inl rfl) (de_callG c__law_race gd rfl (hr.mono (by omega)) rfl tk (da_cons (de_var 3) da_nil) rfl (la_cons la_nil)))
(dss_cons (ds_asg (de_tup (da_cons (de_callG c_top gd rfl (hr.mono (by omega)) rfl tk (da_cons (de_var 6) (da_cons (de_var 4) (da_cons (de_var 5) da_nil))) rfl (la_cons (la_cons (la_cons la_nil)))) (da_cons (de_op (do_add rfl) (de_callB (dc_lenX rfl) rfl T.b_len (by decide +kernel) (da_cons (de_var 4) da_nil)) de_int) da_nil))) (dg_tup rfl rfl (dgs_cons (dg_name sc__law_right.nd rfl (by first | exact Or.inl rfl | exact Or.inr rfl)) (dgs_cons (dg_name sc__law_right.nd rfl (by first | exact Or.inl rfl | exact Or.inr rfl)) dgs_nil)) (blen_cons (blen_cons blen_nil))))
(dss_cons (ds_for po rfl (di_seq rfl (de_var 7)) (dg_name sc__law_right.nd rfl (by first | exact Or.inl rfl | exact Or.inr rfl))
(dss_one (ds_for po rfl (di_seq rfl (de_lc (own := [("_law_name", 15)]) rfl sc__law_right.nd (di_seq rfl (de_ixX rfl (units1 hr) (de_var 3) de_int)) (blkOk_by (N := ["_law_cell", "_law_k", "_law_draw", "_law_told", "_law_marks_here", "_law_lot", "_law_race_here", "_law_first", "_law_due", "_law_winner", "_law_loser", "_law_many", "_law_other", "_law_turn", "_law_spot", "_law_name"]) (sc := defScope s__law_right) (own := [("_law_name", 15)]) (by decide +kernel)) (fun _ _ _ _ _ => (dg_name sc__law_right.nd rfl (by first | exact Or.inl rfl | exact Or.inr rfl))) (fun _ _ _ _ _ => (dts_one (dt_cmp (do_notIn rfl (units65 hr)) (de_var 15) (de_var 7)))) (fun _ _ _ _ _ => (de_var 15)) (by decide))) (dg_name sc__law_right.nd rfl (by first | exact Or.inl rfl | exact Or.inr rfl))
(dss_cons (ds_par (i := 11) (j := 12) rfl sc__law_right.nd rfl rfl (by decide) rfl rfl (da_cons de_int (da_cons (de_var 4) da_nil)) (by rfl))
(dss_cons (ds_while po (DW.t (dw_and (dt_cmp do_lt (de_var 11) (de_var 8)) (dw_and1 (dt_setEq (units100 hr) rfl rfl rfl T.b_set (de_callG c_top gd rfl (hr.mono (by omega)) rfl tk (da_cons (de_var 6) (da_cons (de_var 12) (da_cons (de_var 5) da_nil))) rfl (la_cons (la_cons (la_cons la_nil)))) (de_var 7)))))
(dss_cons (ds_set (i := 11) sc__law_right.nd rfl (Or.inl rfl) (de_op (do_add rfl) (de_var 11) de_int))
(dss_one (ds_set (i := 12) sc__law_right.nd rfl (Or.inl rfl) (de_callG c__law_turned gd rfl (hr.mono (by omega)) rfl tk (da_cons (de_var 3) (da_cons (de_var 12) (da_cons (de_var 9) (da_cons (de_var 10) (da_cons de_int da_nil))))) rfl (la_cons (la_cons (la_cons (la_cons (la_cons la_nil))))))))))
(dss_one (ds_set (i := 8) sc__law_right.nd rfl (Or.inl rfl) (de_callB (dc_min2 rfl) rfl T.b_min (by decide +kernel) (da_cons (de_var 8) (da_cons (de_var 11) da_nil))))))))))
(dss_cons (ds_if (DW.t (dw_or (dt_cmp (do_ne rfl (units100 hr)) (de_callG c_margin gd rfl (hr.mono (by omega)) rfl tk (da_cons (de_var 6) (da_cons (de_var 4) (da_cons (de_var 5) da_nil))) rfl (la_cons (la_cons (la_cons la_nil)))) (de_var 8)) (dw_or1 (dt_cmp (do_ne rfl (units100 hr)) (de_callG c_margin gd rfl (hr.mono (by omega)) rfl tk (da_cons (de_var 6) (da_cons (de_callTy (dc_tuple rfl) rfl T.b_tuple (by decide +kernel) (da_cons (de_var 4) da_nil)) (da_cons (de_var 5) da_nil))) rfl (la_cons (la_cons (la_cons la_nil)))) (de_var 8)))))
(dss_one (ds_ret de_bl))
dss_nil)
(dss_cons (ds_for po rfl (di_range1 rfl T.b_range (da_cons de_int da_nil)) (dg_name sc__law_right.nd rfl (by first | exact Or.inl rfl | exact Or.inr rfl))
(dss_pre2 (dss_cons (ds_set (i := 12) sc__law_right.nd rfl (Or.inl rfl) (de_callTy (dc_listXM rfl rfl) rfl T.b_list (by decide +kernel) (da_cons (de_var 4) da_nil)))
(dss_one (ds_for po rfl (di_seq rfl (de_slice rfl (de_callG c__law_shuffled gd rfl (hr.mono (by omega)) rfl tk (da_cons (de_var 2) (da_cons (de_listRg rfl rfl T.b_list rgOk1 (dr_1 rfl T.b_range (de_callB (dc_lenX rfl) rfl T.b_len (by decide +kernel) (da_cons (de_var 4) da_nil)))) da_nil)) rfl (la_cons (la_cons la_nil))) do_none (do_some (de_callB (dc_max2 rfl) rfl T.b_max (by decide +kernel) (da_cons de_int (da_cons (de_op do_sub (de_var 8) de_int) da_nil)))))) (dg_name sc__law_right.nd rfl (by first | exact Or.inl rfl | exact Or.inr rfl))
(dss_one (ds_putX (units1 hr) (de_callG c__law_mark gd rfl (hr.mono (by omega)) rfl tk (da_cons (de_var 2) (da_cons (de_var 3) da_nil)) rfl (la_cons (la_cons la_nil))) (de_var 12) (de_var 14))))))
(dss_one (ds_if (dt_setNe (units100 hr) rfl rfl rfl T.b_set (de_callG c_top gd rfl (hr.mono (by omega)) rfl tk (da_cons (de_var 6) (da_cons (de_var 12) (da_cons (de_var 5) da_nil))) rfl (la_cons (la_cons (la_cons la_nil)))) (de_var 7))
(dss_one (ds_ret de_bl))
dss_nil))))
(dss_one (ds_ret de_bl))))))))))

abbrev s_law : Stmt := top 44
theorem sc_law : FnScope ["_law_script", "_law_k", "_law_cell"] ["_law_script"] (defScope s_law) := ⟨rfl, rfl, rfl, by decide +kernel, rfl, by decide +kernel, by decide +kernel⟩
theorem ok_law {f : Addr} {fd : FuncData} (F : Fun K "law" "law" s_law f fd) (T : Txt K mg ca ce w) (c__law_right : DefG ⟨K, ca, ce⟩ P w mg base 7 "_law_right" 2 d__law_right) : FnG P w K mg base (L2.CX P w) 8 f fd ["_law_script"] (spD ⟨K, ca, ce⟩ 1 d_law) :=
fnG (G := ⟨K, ca, ce⟩) (N := ["_law_script", "_law_k", "_law_cell"]) .pure F sc_law fun cdv A outer s H E hr tk po gd =>
(dss_cons (ds_for po rfl (di_enumX rfl rfl T.b_enumerate (da_cons (de_slice rfl (de_op (do_add rfl) (de_var 0) (de_lst (da_cons de_int da_nil))) do_none (do_some (de_callB (dc_max2 rfl) rfl T.b_max (by decide +kernel) (da_cons de_int (da_cons (de_callB (dc_min2 rfl) rfl T.b_min (by decide +kernel) (da_cons de_int (da_cons (de_callB (dc_lenX rfl) rfl T.b_len (by decide +kernel) (da_cons (de_var 0) da_nil)) da_nil))) da_nil))))) da_nil)) (dg_tup rfl rfl (dgs_cons (dg_name sc_law.nd rfl (by first | exact Or.inl rfl | exact Or.inr rfl)) (dgs_cons (dg_name sc_law.nd rfl (by first | exact Or.inl rfl | exact Or.inr rfl)) dgs_nil)) (blen_cons (blen_cons blen_nil)))
(dss_one (ds_if (dt_not (dt_val (de_callG c__law_right gd rfl (hr.mono (by omega)) rfl tk (da_cons (de_var 2) (da_cons (de_var 1) da_nil)) rfl (la_cons (la_cons la_nil)))))
(dss_one (ds_ret de_bl))
dss_nil)))
(dss_one (ds_ret de_bl)))
end
end DR.K47
end
section
namespace DR.K47
open PySem L2  
open DL
theorem all_mk {l : PySem.W.OpenLaw} {w : World} {K : PySem.W.Frag} {h : Heap} {mg : Str → Option Value} (X : K.In h) (G : h.Ns mainGlobals mg) {fa C1 f1 f2 f3 f4 f5 f6 f7 f8 f9 f10 f11 f12 kD12 f13 f14 f15 f16 f17 f18 f19 f20 f21 f22 f23 f24 f25 f26 f27 f28 f29 f30 X_NoLot X_NoRace aG_KINDS aG_RANK_WAYS : Addr} {od1 an1 od2 an2 od3 an3 od4 an4 od5 an5 od6 an6 od7 an7 od8 an8 od9 an9 od10 an10 od11 an11 od12 an12 od13 an13 od14 an14 od15 an15 od16 an16 od17 an17 od18 an18 od19 an19 od20 an20 od21 an21 od22 an22 od23 an23 od24 an24 od25 an25 od26 an26 od27 an27 od28 an28 od29 an29 od30 an30 oG_KINDS oG_RANK_WAYS : Option Addr} {sl1 sl2 sl3 sl4 sl5 sl6 sl7 sl8 sl9 sl10 sl11 sl12 sl13 sl14 sl15 sl16 sl17 sl18 sl19 sl20 sl21 sl22 sl23 sl24 sl25 sl26 sl27 sl28 sl29 sl30 sG_KINDS sG_RANK_WAYS : Array (Option Value)} {oc1 dc1 pm1 cd1 ct1 kV1 oc2 dc2 pm2 cd2 ct2 kV2 oc3 dc3 pm3 cd3 ct3 kV3 oc4 dc4 pm4 cd4 ct4 kV4 oc5 dc5 pm5 cd5 ct5 kV5 oc6 dc6 pm6 cd6 ct6 kV6 oc7 dc7 pm7 cd7 ct7 kV7 oc8 dc8 pm8 cd8 ct8 kV8 oc9 dc9 pm9 cd9 ct9 kV9 oc10 dc10 pm10 cd10 ct10 kV10 oc11 dc11 pm11 cd11 ct11 kV11 oc12 dc12 pm12 cd12 ct12 oc13 dc13 pm13 cd13 ct13 kV13 oc14 dc14 pm14 cd14 ct14 kV14 oc15 dc15 pm15 cd15 ct15 kV15 oc16 dc16 pm16 cd16 ct16 kV16 oc17 dc17 pm17 cd17 ct17 kV17 oc18 dc18 pm18 cd18 ct18 kV18 oc19 dc19 pm19 cd19 ct19 kV19 oc20 dc20 pm20 cd20 ct20 kV20 oc21 dc21 pm21 cd21 ct21 kV21 oc22 dc22 pm22 cd22 ct22 kV22 oc23 dc23 pm23 cd23 ct23 kV23 oc24 dc24 pm24 cd24 ct24 kV24 oc25 dc25 pm25 cd25 ct25 kV25 oc26 dc26 pm26 cd26 ct26 kV26 oc27 dc27 pm27 cd27 ct27 kV27 oc28 dc28 pm28 cd28 ct28 kV28 oc29 dc29 pm29 cd29 ct29 kV29 oc30 dc30 pm30 cd30 ct30 kV30 : Value} {tq12_0 tq12_1 t_LETTERS t_MOST_CHOICES t_MOST_DISTRICTS t_MOST_LETTERS tG0_KINDS tG1_KINDS tG2_KINDS tG0_RANK_WAYS tG1_RANK_WAYS tG2_RANK_WAYS : Tok} {nG_KINDS nG_RANK_WAYS : Nat} (hfa : mg "law" = some (.ref fa))
    (A1 : PySem.W.nsIn K mainGlobals "Race" = some (some (.ref C1)))
    (pg1 : PySem.W.plainGet K C1 Str.empty = true)
    (hd1 : PySem.W.hasDictIn K C1 = true)
    (po1 : PySem.W.plainOver K C1 = true)
    (sa1 : PySem.W.findIn K (.ref C1) "__setattr__" = some (some (.builtin "object.__setattr__")))
    (ha1 : PySem.W.findIn K (.ref C1) "__class__" = some (some (.builtin "object.__class__")))
    (hn1 : PySem.W.specialIn K (.builtin "object.__class__") "__get__" = some (some (.builtin "getset_descriptor.__get__")))
    (ht1 : PySem.W.takesIn K (.builtin "object.__class__") = some true)
    (hm1 : PySem.W.mroIn K C1 (.type "object") = some true)
    (ic1 : PySem.W.isClsIn K C1 = true)
    (tc1 : PySem.W.typeIn K (.ref C1) = some (.type "type"))
    (n1_by : PySem.W.findIn K (.ref C1) "by" = some none)
    (n1_choices : PySem.W.findIn K (.ref C1) "choices" = some none)
    (n1_districts : PySem.W.findIn K (.ref C1) "districts" = some none)
    (n1_kind : PySem.W.findIn K (.ref C1) "kind" = some none)
    (n1_name : PySem.W.findIn K (.ref C1) "name" = some none)
    (n1_seats : PySem.W.findIn K (.ref C1) "seats" = some none)
    (m1_bool : PySem.W.mroIn K C1 (.type "bool") = some false)
    (m1_int : PySem.W.mroIn K C1 (.type "int") = some false)
    (m1_str : PySem.W.mroIn K C1 (.type "str") = some false)
    (m1_tuple : PySem.W.mroIn K C1 (.type "tuple") = some false)
    (m1_1 : PySem.W.mroIn K C1 (.ref C1) = some (decide (("Race" : Str) = "Race")))
    (mk1 : PySem.W.makesIn K C1 = true)
    (kc1 : PySem.W.keepIn K (.ref C1) = true)
    (a1 : PySem.W.nsIn K mainGlobals "_law_begun" = some (some (.ref f1)))
    (l1 : K.lookup f1 = some ⟨oc1, od1, .func (PySem.W.fnOf "_law_begun" "_law_begun" (defArgs s__law_begun) (defBody s__law_begun) (defScope s__law_begun) .none kV1 dc1 pm1 an1 cd1 ct1), sl1⟩)
    (c1 : PySem.W.codeIn K cd1 "_law_begun" = true)
    (k1 : PySem.W.keepIn K (.ref f1) = true)
    (a2 : PySem.W.nsIn K mainGlobals "_law_next" = some (some (.ref f2)))
    (l2 : K.lookup f2 = some ⟨oc2, od2, .func (PySem.W.fnOf "_law_next" "_law_next" (defArgs s__law_next) (defBody s__law_next) (defScope s__law_next) .none kV2 dc2 pm2 an2 cd2 ct2), sl2⟩)
    (c2 : PySem.W.codeIn K cd2 "_law_next" = true)
    (k2 : PySem.W.keepIn K (.ref f2) = true)
    (a3 : PySem.W.nsIn K mainGlobals "_law_names" = some (some (.ref f3)))
    (l3 : K.lookup f3 = some ⟨oc3, od3, .func (PySem.W.fnOf "_law_names" "_law_names" (defArgs s__law_names) (defBody s__law_names) (defScope s__law_names) .none kV3 dc3 pm3 an3 cd3 ct3), sl3⟩)
    (c3 : PySem.W.codeIn K cd3 "_law_names" = true)
    (k3 : PySem.W.keepIn K (.ref f3) = true)
    (a4 : PySem.W.nsIn K mainGlobals "_law_pick" = some (some (.ref f4)))
    (l4 : K.lookup f4 = some ⟨oc4, od4, .func (PySem.W.fnOf "_law_pick" "_law_pick" (defArgs s__law_pick) (defBody s__law_pick) (defScope s__law_pick) .none kV4 dc4 pm4 an4 cd4 ct4), sl4⟩)
    (c4 : PySem.W.codeIn K cd4 "_law_pick" = true)
    (k4 : PySem.W.keepIn K (.ref f4) = true)
    (a5 : PySem.W.nsIn K mainGlobals "_law_told_race" = some (some (.ref f5)))
    (l5 : K.lookup f5 = some ⟨oc5, od5, .func (PySem.W.fnOf "_law_told_race" "_law_told_race" (defArgs s__law_told_race) (defBody s__law_told_race) (defScope s__law_told_race) .none kV5 dc5 pm5 an5 cd5 ct5), sl5⟩)
    (c5 : PySem.W.codeIn K cd5 "_law_told_race" = true)
    (k5 : PySem.W.keepIn K (.ref f5) = true)
    (a6 : PySem.W.nsIn K mainGlobals "is_name" = some (some (.ref f6)))
    (l6 : K.lookup f6 = some ⟨oc6, od6, .func (PySem.W.fnOf "is_name" "is_name" (defArgs s_is_name) (defBody s_is_name) (defScope s_is_name) .none kV6 dc6 pm6 an6 cd6 ct6), sl6⟩)
    (c6 : PySem.W.codeIn K cd6 "is_name" = true)
    (k6 : PySem.W.keepIn K (.ref f6) = true)
    (a7 : PySem.W.nsIn K mainGlobals "are_unlike_names" = some (some (.ref f7)))
    (l7 : K.lookup f7 = some ⟨oc7, od7, .func (PySem.W.fnOf "are_unlike_names" "are_unlike_names" (defArgs s_are_unlike_names) (defBody s_are_unlike_names) (defScope s_are_unlike_names) .none kV7 dc7 pm7 an7 cd7 ct7), sl7⟩)
    (c7 : PySem.W.codeIn K cd7 "are_unlike_names" = true)
    (k7 : PySem.W.keepIn K (.ref f7) = true)
    (a8 : PySem.W.nsIn K mainGlobals "is_one_of" = some (some (.ref f8)))
    (l8 : K.lookup f8 = some ⟨oc8, od8, .func (PySem.W.fnOf "is_one_of" "is_one_of" (defArgs s_is_one_of) (defBody s_is_one_of) (defScope s_is_one_of) .none kV8 dc8 pm8 an8 cd8 ct8), sl8⟩)
    (c8 : PySem.W.codeIn K cd8 "is_one_of" = true)
    (k8 : PySem.W.keepIn K (.ref f8) = true)
    (a9 : PySem.W.nsIn K mainGlobals "is_whole" = some (some (.ref f9)))
    (l9 : K.lookup f9 = some ⟨oc9, od9, .func (PySem.W.fnOf "is_whole" "is_whole" (defArgs s_is_whole) (defBody s_is_whole) (defScope s_is_whole) .none kV9 dc9 pm9 an9 cd9 ct9), sl9⟩)
    (c9 : PySem.W.codeIn K cd9 "is_whole" = true)
    (k9 : PySem.W.keepIn K (.ref f9) = true)
    (a10 : PySem.W.nsIn K mainGlobals "is_between" = some (some (.ref f10)))
    (l10 : K.lookup f10 = some ⟨oc10, od10, .func (PySem.W.fnOf "is_between" "is_between" (defArgs s_is_between) (defBody s_is_between) (defScope s_is_between) .none kV10 dc10 pm10 an10 cd10 ct10), sl10⟩)
    (c10 : PySem.W.codeIn K cd10 "is_between" = true)
    (k10 : PySem.W.keepIn K (.ref f10) = true)
    (a11 : PySem.W.nsIn K mainGlobals "is_way" = some (some (.ref f11)))
    (l11 : K.lookup f11 = some ⟨oc11, od11, .func (PySem.W.fnOf "is_way" "is_way" (defArgs s_is_way) (defBody s_is_way) (defScope s_is_way) .none kV11 dc11 pm11 an11 cd11 ct11), sl11⟩)
    (c11 : PySem.W.codeIn K cd11 "is_way" = true)
    (k11 : PySem.W.keepIn K (.ref f11) = true)
    (a12 : PySem.W.findIn K (.ref C1) "__init__" = some (some (.ref f12)))
    (i12 : PySem.W.isFn K (.ref f12) = true)
    (l12 : K.lookup f12 = some ⟨oc12, od12, .func (PySem.W.fnOf "__init__" "Race.__init__" (defArgs s_Race_init) (defBody s_Race_init) (defScope s_Race_init) .none (.ref kD12) dc12 pm12 an12 cd12 ct12), sl12⟩)
    (c12 : PySem.W.codeIn K cd12 "Race.__init__" = true)
    (k12 : PySem.W.keepIn K (.ref f12) = true)
    (q12_0 : PySem.W.nsIn K kD12 "seats" = some (some (.int (1) tq12_0)))
    (q12_1 : PySem.W.nsIn K kD12 "by" = some (some (.str "" tq12_1)))
    (a13 : PySem.W.nsIn K mainGlobals "_law_race" = some (some (.ref f13)))
    (l13 : K.lookup f13 = some ⟨oc13, od13, .func (PySem.W.fnOf "_law_race" "_law_race" (defArgs s__law_race) (defBody s__law_race) (defScope s__law_race) .none kV13 dc13 pm13 an13 cd13 ct13), sl13⟩)
    (c13 : PySem.W.codeIn K cd13 "_law_race" = true)
    (k13 : PySem.W.keepIn K (.ref f13) = true)
    (a14 : PySem.W.nsIn K mainGlobals "_law_shuffled" = some (some (.ref f14)))
    (l14 : K.lookup f14 = some ⟨oc14, od14, .func (PySem.W.fnOf "_law_shuffled" "_law_shuffled" (defArgs s__law_shuffled) (defBody s__law_shuffled) (defScope s__law_shuffled) .none kV14 dc14 pm14 an14 cd14 ct14), sl14⟩)
    (c14 : PySem.W.codeIn K cd14 "_law_shuffled" = true)
    (k14 : PySem.W.keepIn K (.ref f14) = true)
    (a15 : PySem.W.nsIn K mainGlobals "_law_mark" = some (some (.ref f15)))
    (l15 : K.lookup f15 = some ⟨oc15, od15, .func (PySem.W.fnOf "_law_mark" "_law_mark" (defArgs s__law_mark) (defBody s__law_mark) (defScope s__law_mark) .none kV15 dc15 pm15 an15 cd15 ct15), sl15⟩)
    (c15 : PySem.W.codeIn K cd15 "_law_mark" = true)
    (k15 : PySem.W.keepIn K (.ref f15) = true)
    (a16 : PySem.W.nsIn K mainGlobals "_law_marks" = some (some (.ref f16)))
    (l16 : K.lookup f16 = some ⟨oc16, od16, .func (PySem.W.fnOf "_law_marks" "_law_marks" (defArgs s__law_marks) (defBody s__law_marks) (defScope s__law_marks) .none kV16 dc16 pm16 an16 cd16 ct16), sl16⟩)
    (c16 : PySem.W.codeIn K cd16 "_law_marks" = true)
    (k16 : PySem.W.keepIn K (.ref f16) = true)
    (a17 : PySem.W.nsIn K mainGlobals "need_lot" = some (some (.ref f17)))
    (l17 : K.lookup f17 = some ⟨oc17, od17, .func (PySem.W.fnOf "need_lot" "need_lot" (defArgs s_need_lot) (defBody s_need_lot) (defScope s_need_lot) .none kV17 dc17 pm17 an17 cd17 ct17), sl17⟩)
    (c17 : PySem.W.codeIn K cd17 "need_lot" = true)
    (k17 : PySem.W.keepIn K (.ref f17) = true)
    (a18 : PySem.W.nsIn K mainGlobals "is_blank" = some (some (.ref f18)))
    (l18 : K.lookup f18 = some ⟨oc18, od18, .func (PySem.W.fnOf "is_blank" "is_blank" (defArgs s_is_blank) (defBody s_is_blank) (defScope s_is_blank) .none kV18 dc18 pm18 an18 cd18 ct18), sl18⟩)
    (c18 : PySem.W.codeIn K cd18 "is_blank" = true)
    (k18 : PySem.W.keepIn K (.ref f18) = true)
    (a19 : PySem.W.nsIn K mainGlobals "is_good" = some (some (.ref f19)))
    (l19 : K.lookup f19 = some ⟨oc19, od19, .func (PySem.W.fnOf "is_good" "is_good" (defArgs s_is_good) (defBody s_is_good) (defScope s_is_good) .none kV19 dc19 pm19 an19 cd19 ct19), sl19⟩)
    (c19 : PySem.W.codeIn K cd19 "is_good" = true)
    (k19 : PySem.W.keepIn K (.ref f19) = true)
    (a20 : PySem.W.nsIn K mainGlobals "mark_word" = some (some (.ref f20)))
    (l20 : K.lookup f20 = some ⟨oc20, od20, .func (PySem.W.fnOf "mark_word" "mark_word" (defArgs s_mark_word) (defBody s_mark_word) (defScope s_mark_word) .none kV20 dc20 pm20 an20 cd20 ct20), sl20⟩)
    (c20 : PySem.W.codeIn K cd20 "mark_word" = true)
    (k20 : PySem.W.keepIn K (.ref f20) = true)
    (a21 : PySem.W.nsIn K mainGlobals "good_marks" = some (some (.ref f21)))
    (l21 : K.lookup f21 = some ⟨oc21, od21, .func (PySem.W.fnOf "good_marks" "good_marks" (defArgs s_good_marks) (defBody s_good_marks) (defScope s_good_marks) .none kV21 dc21 pm21 an21 cd21 ct21), sl21⟩)
    (c21 : PySem.W.codeIn K cd21 "good_marks" = true)
    (k21 : PySem.W.keepIn K (.ref f21) = true)
    (a22 : PySem.W.nsIn K mainGlobals "totals" = some (some (.ref f22)))
    (l22 : K.lookup f22 = some ⟨oc22, od22, .func (PySem.W.fnOf "totals" "totals" (defArgs s_totals) (defBody s_totals) (defScope s_totals) .none kV22 dc22 pm22 an22 cd22 ct22), sl22⟩)
    (c22 : PySem.W.codeIn K cd22 "totals" = true)
    (k22 : PySem.W.keepIn K (.ref f22) = true)
    (a23 : PySem.W.nsIn K mainGlobals "best_first" = some (some (.ref f23)))
    (l23 : K.lookup f23 = some ⟨oc23, od23, .func (PySem.W.fnOf "best_first" "best_first" (defArgs s_best_first) (defBody s_best_first) (defScope s_best_first) .none kV23 dc23 pm23 an23 cd23 ct23), sl23⟩)
    (c23 : PySem.W.codeIn K cd23 "best_first" = true)
    (k23 : PySem.W.keepIn K (.ref f23) = true)
    (a24 : PySem.W.nsIn K mainGlobals "top" = some (some (.ref f24)))
    (l24 : K.lookup f24 = some ⟨oc24, od24, .func (PySem.W.fnOf "top" "top" (defArgs s_top) (defBody s_top) (defScope s_top) .none kV24 dc24 pm24 an24 cd24 ct24), sl24⟩)
    (c24 : PySem.W.codeIn K cd24 "top" = true)
    (k24 : PySem.W.keepIn K (.ref f24) = true)
    (a25 : PySem.W.nsIn K mainGlobals "turned" = some (some (.ref f25)))
    (l25 : K.lookup f25 = some ⟨oc25, od25, .func (PySem.W.fnOf "turned" "turned" (defArgs s_turned) (defBody s_turned) (defScope s_turned) .none kV25 dc25 pm25 an25 cd25 ct25), sl25⟩)
    (c25 : PySem.W.codeIn K cd25 "turned" = true)
    (k25 : PySem.W.keepIn K (.ref f25) = true)
    (a26 : PySem.W.nsIn K mainGlobals "margin" = some (some (.ref f26)))
    (l26 : K.lookup f26 = some ⟨oc26, od26, .func (PySem.W.fnOf "margin" "margin" (defArgs s_margin) (defBody s_margin) (defScope s_margin) .none kV26 dc26 pm26 an26 cd26 ct26), sl26⟩)
    (c26 : PySem.W.codeIn K cd26 "margin" = true)
    (k26 : PySem.W.keepIn K (.ref f26) = true)
    (a27 : PySem.W.nsIn K mainGlobals "_law_help" = some (some (.ref f27)))
    (l27 : K.lookup f27 = some ⟨oc27, od27, .func (PySem.W.fnOf "_law_help" "_law_help" (defArgs s__law_help) (defBody s__law_help) (defScope s__law_help) .none kV27 dc27 pm27 an27 cd27 ct27), sl27⟩)
    (c27 : PySem.W.codeIn K cd27 "_law_help" = true)
    (k27 : PySem.W.keepIn K (.ref f27) = true)
    (a28 : PySem.W.nsIn K mainGlobals "_law_turned" = some (some (.ref f28)))
    (l28 : K.lookup f28 = some ⟨oc28, od28, .func (PySem.W.fnOf "_law_turned" "_law_turned" (defArgs s__law_turned) (defBody s__law_turned) (defScope s__law_turned) .none kV28 dc28 pm28 an28 cd28 ct28), sl28⟩)
    (c28 : PySem.W.codeIn K cd28 "_law_turned" = true)
    (k28 : PySem.W.keepIn K (.ref f28) = true)
    (a29 : PySem.W.nsIn K mainGlobals "_law_right" = some (some (.ref f29)))
    (l29 : K.lookup f29 = some ⟨oc29, od29, .func (PySem.W.fnOf "_law_right" "_law_right" (defArgs s__law_right) (defBody s__law_right) (defScope s__law_right) .none kV29 dc29 pm29 an29 cd29 ct29), sl29⟩)
    (c29 : PySem.W.codeIn K cd29 "_law_right" = true)
    (k29 : PySem.W.keepIn K (.ref f29) = true)
    (a30 : PySem.W.nsIn K mainGlobals "law" = some (some (.ref f30)))
    (l30 : K.lookup f30 = some ⟨oc30, od30, .func (PySem.W.fnOf "law" "law" (defArgs s_law) (defBody s_law) (defScope s_law) .none kV30 dc30 pm30 an30 cd30 ct30), sl30⟩)
    (c30 : PySem.W.codeIn K cd30 "law" = true)
    (k30 : PySem.W.keepIn K (.ref f30) = true)
    (AX_NoLot : PySem.W.nsIn K mainGlobals "NoLot" = some (some (.ref X_NoLot)))
    (AX_NoRace : PySem.W.nsIn K mainGlobals "NoRace" = some (some (.ref X_NoRace)))
    (xi_NoLot : PySem.W.excIn K X_NoLot [.type "ValueError", .type "Exception", .type "BaseException", .type "object"] "ValueError.__new__" = true)
    (xk_NoLot : PySem.W.keepIn K (.ref X_NoLot) = true)
    (xs_NoLot : PySem.W.subIn K (.ref X_NoLot) (.type "BaseException") = some true)
    (xt_NoLot : PySem.W.typeIn K (.ref X_NoLot) = some (.type "type"))
    (xi_NoRace : PySem.W.excIn K X_NoRace [.type "ValueError", .type "Exception", .type "BaseException", .type "object"] "ValueError.__new__" = true)
    (xk_NoRace : PySem.W.keepIn K (.ref X_NoRace) = true)
    (xs_NoRace : PySem.W.subIn K (.ref X_NoRace) (.type "BaseException") = some true)
    (xt_NoRace : PySem.W.typeIn K (.ref X_NoRace) = some (.type "type"))
    (z_all : PySem.W.nsIn K mainGlobals "all" = some none)
    (z_bool : PySem.W.nsIn K mainGlobals "bool" = some none)
    (z_enumerate : PySem.W.nsIn K mainGlobals "enumerate" = some none)
    (z_int : PySem.W.nsIn K mainGlobals "int" = some none)
    (z_isinstance : PySem.W.nsIn K mainGlobals "isinstance" = some none)
    (z_len : PySem.W.nsIn K mainGlobals "len" = some none)
    (z_list : PySem.W.nsIn K mainGlobals "list" = some none)
    (z_max : PySem.W.nsIn K mainGlobals "max" = some none)
    (z_min : PySem.W.nsIn K mainGlobals "min" = some none)
    (z_range : PySem.W.nsIn K mainGlobals "range" = some none)
    (z_set : PySem.W.nsIn K mainGlobals "set" = some none)
    (z_sorted : PySem.W.nsIn K mainGlobals "sorted" = some none)
    (z_str : PySem.W.nsIn K mainGlobals "str" = some none)
    (z_tuple : PySem.W.nsIn K mainGlobals "tuple" = some none)
    (y_LETTERS : PySem.W.nsIn K mainGlobals "LETTERS" = some (some (.str "abcdefghijklmnopqrstuvwxyz" t_LETTERS)))
    (y_MOST_CHOICES : PySem.W.nsIn K mainGlobals "MOST_CHOICES" = some (some (.int (5) t_MOST_CHOICES)))
    (y_MOST_DISTRICTS : PySem.W.nsIn K mainGlobals "MOST_DISTRICTS" = some (some (.int (6) t_MOST_DISTRICTS)))
    (y_MOST_LETTERS : PySem.W.nsIn K mainGlobals "MOST_LETTERS" = some (some (.int (8) t_MOST_LETTERS)))
    (y_KINDS : PySem.W.nsIn K mainGlobals "KINDS" = some (some (.ref aG_KINDS)))
    (w_KINDS : K.lookup aG_KINDS = some ⟨.type "tuple", oG_KINDS, .seq (List.toArray [.str "one" tG0_KINDS, .str "any" tG1_KINDS, .str "rank" tG2_KINDS]) nG_KINDS, sG_KINDS⟩)
    (y_RANK_WAYS : PySem.W.nsIn K mainGlobals "RANK_WAYS" = some (some (.ref aG_RANK_WAYS)))
    (w_RANK_WAYS : K.lookup aG_RANK_WAYS = some ⟨.type "tuple", oG_RANK_WAYS, .seq (List.toArray [.str "runoff" tG0_RANK_WAYS, .str "pairs" tG1_RANK_WAYS, .str "share" tG2_RANK_WAYS]) nG_RANK_WAYS, sG_RANK_WAYS⟩) :
    ∃ fd : FuncData, (∀ (s : Shared) (v : Value), BindsTo s fd ⟨[v], []⟩ [("_law_script", v)]) ∧ ∀ base : Heap, K.In base → base.Ns mainGlobals mg → FnG l.prog w K mg base (L2.CX l.prog w) 8 fa fd ["_law_script"] (spA K 1 d_law) := by
  have e := hfa.symm.trans (PySem.W.mg_of X G a30)
  cases e
  let GG : Glb := ⟨K, fun c => List.lookup c ([("Race", C1)] : List (Str × Addr)), fun c => List.lookup c ([("NoLot", X_NoLot), ("NoRace", X_NoRace)] : List (Str × Addr))⟩
  have T : Txt K mg GG.ca GG.ce w := ⟨ca_all (mem_con (own_mk pg1 hd1 po1 sa1 ha1 hn1 ht1 hm1) mem_nil),
    PySem.W.mg_none_of X G z_all,
    PySem.W.mg_none_of X G z_bool,
    PySem.W.mg_none_of X G z_enumerate,
    PySem.W.mg_none_of X G z_int,
    PySem.W.mg_none_of X G z_isinstance,
    PySem.W.mg_none_of X G z_len,
    PySem.W.mg_none_of X G z_list,
    PySem.W.mg_none_of X G z_max,
    PySem.W.mg_none_of X G z_min,
    PySem.W.mg_none_of X G z_range,
    PySem.W.mg_none_of X G z_set,
    PySem.W.mg_none_of X G z_sorted,
    PySem.W.mg_none_of X G z_str,
    PySem.W.mg_none_of X G z_tuple,
    ⟨_, PySem.W.mg_of X G y_LETTERS⟩,
    ⟨_, PySem.W.mg_of X G y_MOST_CHOICES⟩,
    ⟨_, PySem.W.mg_of X G y_MOST_DISTRICTS⟩,
    ⟨_, PySem.W.mg_of X G y_MOST_LETTERS⟩,
    ⟨_, PySem.W.mg_of X G y_KINDS, ktup w_KINDS (Paired.cons ⟨_, rfl⟩ (Paired.cons ⟨_, rfl⟩ (Paired.cons ⟨_, rfl⟩ Paired.nil))) (show 3 ≤ 16777216 by decide)⟩,
    ⟨_, PySem.W.mg_of X G y_RANK_WAYS, ktup w_RANK_WAYS (Paired.cons ⟨_, rfl⟩ (Paired.cons ⟨_, rfl⟩ (Paired.cons ⟨_, rfl⟩ Paired.nil))) (show 3 ≤ 16777216 by decide)⟩,
    fld_mk (mem_con (fun _ => ⟨(own_mk pg1 hd1 po1 sa1 ha1 hn1 ht1 hm1).cl, n1_by⟩) mem_nil),
    fld_mk (mem_con (fun _ => ⟨(own_mk pg1 hd1 po1 sa1 ha1 hn1 ht1 hm1).cl, n1_choices⟩) mem_nil),
    fld_mk (mem_con (fun _ => ⟨(own_mk pg1 hd1 po1 sa1 ha1 hn1 ht1 hm1).cl, n1_districts⟩) mem_nil),
    fld_mk (mem_con (fun _ => ⟨(own_mk pg1 hd1 po1 sa1 ha1 hn1 ht1 hm1).cl, n1_kind⟩) mem_nil),
    fld_mk (mem_con (fun _ => ⟨(own_mk pg1 hd1 po1 sa1 ha1 hn1 ht1 hm1).cl, n1_name⟩) mem_nil),
    fld_mk (mem_con (fun _ => ⟨(own_mk pg1 hd1 po1 sa1 ha1 hn1 ht1 hm1).cl, n1_seats⟩) mem_nil),
    isT_b .bool (by decide) (ca_all (mem_con m1_bool mem_nil)),
    isT_b .int (by decide) (ca_all (mem_con m1_int mem_nil)),
    isT_b .str (by decide) (ca_all (mem_con m1_str mem_nil)),
    isT_b .tuple (by decide) (ca_all (mem_con m1_tuple mem_nil)),
    ⟨_, PySem.W.mg_of X G A1, isT_o rfl ic1 tc1 (ca_all (mem_con m1_1 mem_nil))⟩,
    ⟨⟨_, PySem.W.mg_of X G AX_NoLot, rfl, xi_NoLot, xk_NoLot, xs_NoLot, xt_NoLot⟩⟩,
    ⟨⟨_, PySem.W.mg_of X G AX_NoRace, rfl, xi_NoRace, xk_NoRace, xs_NoRace, xt_NoRace⟩⟩⟩
  have F1 := fun_mk (st := s__law_begun) l1 c1 k1
  have F2 := fun_mk (st := s__law_next) l2 c2 k2
  have F3 := fun_mk (st := s__law_names) l3 c3 k3
  have F4 := fun_mk (st := s__law_pick) l4 c4 k4
  have F5 := fun_mk (st := s__law_told_race) l5 c5 k5
  have F6 := fun_mk (st := s_is_name) l6 c6 k6
  have F7 := fun_mk (st := s_are_unlike_names) l7 c7 k7
  have F8 := fun_mk (st := s_is_one_of) l8 c8 k8
  have F9 := fun_mk (st := s_is_whole) l9 c9 k9
  have F10 := fun_mk (st := s_is_between) l10 c10 k10
  have F11 := fun_mk (st := s_is_way) l11 c11 k11
  have F12 := fun_mkK l12 c12 k12 (kw_int q12_0 (kw_str q12_1 kw_nil))
  have F13 := fun_mk (st := s__law_race) l13 c13 k13
  have F14 := fun_mk (st := s__law_shuffled) l14 c14 k14
  have F15 := fun_mk (st := s__law_mark) l15 c15 k15
  have F16 := fun_mk (st := s__law_marks) l16 c16 k16
  have F17 := fun_mk (st := s_need_lot) l17 c17 k17
  have F18 := fun_mk (st := s_is_blank) l18 c18 k18
  have F19 := fun_mk (st := s_is_good) l19 c19 k19
  have F20 := fun_mk (st := s_mark_word) l20 c20 k20
  have F21 := fun_mk (st := s_good_marks) l21 c21 k21
  have F22 := fun_mk (st := s_totals) l22 c22 k22
  have F23 := fun_mk (st := s_best_first) l23 c23 k23
  have F24 := fun_mk (st := s_top) l24 c24 k24
  have F25 := fun_mk (st := s_turned) l25 c25 k25
  have F26 := fun_mk (st := s_margin) l26 c26 k26
  have F27 := fun_mk (st := s__law_help) l27 c27 k27
  have F28 := fun_mk (st := s__law_turned) l28 c28 k28
  have F29 := fun_mk (st := s__law_right) l29 c29 k29
  have F30 := fun_mk (st := s_law) l30 c30 k30
  refine ⟨PySem.W.fnOf "law" "law" (defArgs s_law) (defBody s_law) (defScope s_law) .none kV30 dc30 pm30 an30 cd30 ct30, fun s v => .of_eq rfl, fun base _ _ => ?_⟩
  have D__law_begun : DefG GG l.prog w mg base 1 "_law_begun" 2 d__law_begun := ⟨⟨f1, _, _, (ok__law_begun (ca := GG.ca) (ce := GG.ce) F1 T ), PySem.W.mg_of X G a1, k1, (F1.binds (ps := ["_law_cell", "_law_k"]) fun _ _ _ _ _ _ us hl => match us, hl with | [_, _], _ => rfl)⟩⟩
  have D__law_next : DefG GG l.prog w mg base 1 "_law_next" 2 d__law_next := ⟨⟨f2, _, _, (ok__law_next (ca := GG.ca) (ce := GG.ce) F2 T ), PySem.W.mg_of X G a2, k2, (F2.binds (ps := ["_law_draw", "_law_size"]) fun _ _ _ _ _ _ us hl => match us, hl with | [_, _], _ => rfl)⟩⟩
  have D__law_names : DefG GG l.prog w mg base 2 "_law_names" 2 d__law_names := ⟨⟨f3, _, _, (ok__law_names (ca := GG.ca) (ce := GG.ce) F3 T D__law_next), PySem.W.mg_of X G a3, k3, (F3.binds (ps := ["_law_draw", "_law_many"]) fun _ _ _ _ _ _ us hl => match us, hl with | [_, _], _ => rfl)⟩⟩
  have D__law_pick : DefG GG l.prog w mg base 2 "_law_pick" 2 d__law_pick := ⟨⟨f4, _, _, (ok__law_pick (ca := GG.ca) (ce := GG.ce) F4 T D__law_next), PySem.W.mg_of X G a4, k4, (F4.binds (ps := ["_law_draw", "_law_some"]) fun _ _ _ _ _ _ us hl => match us, hl with | [_, _], _ => rfl)⟩⟩
  have D__law_told_race : DefG GG l.prog w mg base 3 "_law_told_race" 2 d__law_told_race := ⟨⟨f5, _, _, (ok__law_told_race (ca := GG.ca) (ce := GG.ce) F5 T D__law_next D__law_names D__law_pick), PySem.W.mg_of X G a5, k5, (F5.binds (ps := ["_law_draw", "_law_kinds"]) fun _ _ _ _ _ _ us hl => match us, hl with | [_, _], _ => rfl)⟩⟩
  have D_is_name : DefG GG l.prog w mg base 1 "is_name" 1 d_is_name := ⟨⟨f6, _, _, (ok_is_name (ca := GG.ca) (ce := GG.ce) F6 T ), PySem.W.mg_of X G a6, k6, (F6.binds (ps := ["thing"]) fun _ _ _ _ _ _ us hl => match us, hl with | [_], _ => rfl)⟩⟩
  have D_are_unlike_names : DefG GG l.prog w mg base 2 "are_unlike_names" 3 d_are_unlike_names := ⟨⟨f7, _, _, (ok_are_unlike_names (ca := GG.ca) (ce := GG.ce) F7 T D_is_name), PySem.W.mg_of X G a7, k7, (F7.binds (ps := ["thing", "least", "most"]) fun _ _ _ _ _ _ us hl => match us, hl with | [_, _, _], _ => rfl)⟩⟩
  have D_is_one_of : DefG GG l.prog w mg base 1 "is_one_of" 2 d_is_one_of := ⟨⟨f8, _, _, (ok_is_one_of (ca := GG.ca) (ce := GG.ce) F8 T ), PySem.W.mg_of X G a8, k8, (F8.binds (ps := ["thing", "some"]) fun _ _ _ _ _ _ us hl => match us, hl with | [_, _], _ => rfl)⟩⟩
  have D_is_whole : DefG GG l.prog w mg base 1 "is_whole" 1 d_is_whole := ⟨⟨f9, _, _, (ok_is_whole (ca := GG.ca) (ce := GG.ce) F9 T ), PySem.W.mg_of X G a9, k9, (F9.binds (ps := ["thing"]) fun _ _ _ _ _ _ us hl => match us, hl with | [_], _ => rfl)⟩⟩
  have D_is_between : DefG GG l.prog w mg base 2 "is_between" 3 d_is_between := ⟨⟨f10, _, _, (ok_is_between (ca := GG.ca) (ce := GG.ce) F10 T D_is_whole), PySem.W.mg_of X G a10, k10, (F10.binds (ps := ["thing", "least", "most"]) fun _ _ _ _ _ _ us hl => match us, hl with | [_, _, _], _ => rfl)⟩⟩
  have D_is_way : DefG GG l.prog w mg base 2 "is_way" 3 d_is_way := ⟨⟨f11, _, _, (ok_is_way (ca := GG.ca) (ce := GG.ce) F11 T D_is_one_of), PySem.W.mg_of X G a11, k11, (F11.binds (ps := ["kind", "by", "seats"]) fun _ _ _ _ _ _ us hl => match us, hl with | [_, _, _], _ => rfl)⟩⟩
  have D_Race__mk4_seats_by : ClsKN GG l.prog w mg base 3 "Race" 4 ["seats", "by"] 7 (fun ds es => ds ++ pk [.inr 0, .inr 1] [] es) d_Race_init := clsKN F12 ⟨mk1, a12, i12, kc1⟩ (ok_Race_init (ca := GG.ca) (ce := GG.ce) F12 T D_are_unlike_names D_is_one_of D_is_between D_is_way) (PySem.W.mg_of X G A1) rfl 4 ["seats", "by"] [] [] [.inr 0, .inr 1] (by simp) (by simp) rfl (fun es h => match es, h with | [_, _], _ => rfl) fun D doc pm an cdv ct us mv ws l1 l2 l3 => match us, mv, ws, l1, l2, l3 with | [_, _, _, _, _], [], [_, _], _, _, _ => rfl
  have D__law_race : DefG GG l.prog w mg base 5 "_law_race" 1 d__law_race := ⟨⟨f13, _, _, (ok__law_race (ca := GG.ca) (ce := GG.ce) F13 T D_Race__mk4_seats_by), PySem.W.mg_of X G a13, k13, (F13.binds (ps := ["_law_told"]) fun _ _ _ _ _ _ us hl => match us, hl with | [_], _ => rfl)⟩⟩
  have D__law_shuffled : DefG GG l.prog w mg base 2 "_law_shuffled" 2 d__law_shuffled := ⟨⟨f14, _, _, (ok__law_shuffled (ca := GG.ca) (ce := GG.ce) F14 T D__law_next), PySem.W.mg_of X G a14, k14, (F14.binds (ps := ["_law_draw", "_law_things"]) fun _ _ _ _ _ _ us hl => match us, hl with | [_, _], _ => rfl)⟩⟩
  have D__law_mark : DefG GG l.prog w mg base 3 "_law_mark" 2 d__law_mark := ⟨⟨f15, _, _, (ok__law_mark (ca := GG.ca) (ce := GG.ce) F15 T D__law_next D__law_pick D__law_shuffled), PySem.W.mg_of X G a15, k15, (F15.binds (ps := ["_law_draw", "_law_told"]) fun _ _ _ _ _ _ us hl => match us, hl with | [_, _], _ => rfl)⟩⟩
  have D__law_marks : DefG GG l.prog w mg base 4 "_law_marks" 3 d__law_marks := ⟨⟨f16, _, _, (ok__law_marks (ca := GG.ca) (ce := GG.ce) F16 T D__law_next D__law_pick D__law_mark), PySem.W.mg_of X G a16, k16, (F16.binds (ps := ["_law_draw", "_law_told", "_law_most"]) fun _ _ _ _ _ _ us hl => match us, hl with | [_, _, _], _ => rfl)⟩⟩
  have D_need_lot : DefG GG l.prog w mg base 1 "need_lot" 2 d_need_lot := ⟨⟨f17, _, _, (ok_need_lot (ca := GG.ca) (ce := GG.ce) F17 T ), PySem.W.mg_of X G a17, k17, (F17.binds (ps := ["names", "lot"]) fun _ _ _ _ _ _ us hl => match us, hl with | [_, _], _ => rfl)⟩⟩
  have D_is_blank : DefG GG l.prog w mg base 1 "is_blank" 2 d_is_blank := ⟨⟨f18, _, _, (ok_is_blank (ca := GG.ca) (ce := GG.ce) F18 T ), PySem.W.mg_of X G a18, k18, (F18.binds (ps := ["race", "mark"]) fun _ _ _ _ _ _ us hl => match us, hl with | [_, _], _ => rfl)⟩⟩
  have D_is_good : DefG GG l.prog w mg base 2 "is_good" 2 d_is_good := ⟨⟨f19, _, _, (ok_is_good (ca := GG.ca) (ce := GG.ce) F19 T D_is_one_of), PySem.W.mg_of X G a19, k19, (F19.binds (ps := ["race", "mark"]) fun _ _ _ _ _ _ us hl => match us, hl with | [_, _], _ => rfl)⟩⟩
  have D_mark_word : DefG GG l.prog w mg base 3 "mark_word" 2 d_mark_word := ⟨⟨f20, _, _, (ok_mark_word (ca := GG.ca) (ce := GG.ce) F20 T D_is_blank D_is_good), PySem.W.mg_of X G a20, k20, (F20.binds (ps := ["race", "mark"]) fun _ _ _ _ _ _ us hl => match us, hl with | [_, _], _ => rfl)⟩⟩
  have D_good_marks : DefG GG l.prog w mg base 4 "good_marks" 2 d_good_marks := ⟨⟨f21, _, _, (ok_good_marks (ca := GG.ca) (ce := GG.ce) F21 T D_mark_word), PySem.W.mg_of X G a21, k21, (F21.binds (ps := ["race", "marks"]) fun _ _ _ _ _ _ us hl => match us, hl with | [_, _], _ => rfl)⟩⟩
  have D_totals : DefG GG l.prog w mg base 5 "totals" 2 d_totals := ⟨⟨f22, _, _, (ok_totals (ca := GG.ca) (ce := GG.ce) F22 T D_good_marks), PySem.W.mg_of X G a22, k22, (F22.binds (ps := ["race", "marks"]) fun _ _ _ _ _ _ us hl => match us, hl with | [_, _], _ => rfl)⟩⟩
  have D_best_first : DefG GG l.prog w mg base 1 "best_first" 2 d_best_first := ⟨⟨f23, _, _, (ok_best_first (ca := GG.ca) (ce := GG.ce) F23 T ), PySem.W.mg_of X G a23, k23, (F23.binds (ps := ["counts", "lot"]) fun _ _ _ _ _ _ us hl => match us, hl with | [_, _], _ => rfl)⟩⟩
  have D_top : DefG GG l.prog w mg base 6 "top" 3 d_top := ⟨⟨f24, _, _, (ok_top (ca := GG.ca) (ce := GG.ce) F24 T D_need_lot D_totals D_best_first), PySem.W.mg_of X G a24, k24, (F24.binds (ps := ["race", "marks", "lot"]) fun _ _ _ _ _ _ us hl => match us, hl with | [_, _, _], _ => rfl)⟩⟩
  have D_turned : DefG GG l.prog w mg base 1 "turned" 5 d_turned := ⟨⟨f25, _, _, (ok_turned (ca := GG.ca) (ce := GG.ce) F25 T ), PySem.W.mg_of X G a25, k25, (F25.binds (ps := ["papers", "many", "winner", "loser", "asked"]) fun _ _ _ _ _ _ us hl => match us, hl with | [_, _, _, _, _], _ => rfl)⟩⟩
  have D_margin : DefG GG l.prog w mg base 6 "margin" 3 d_margin := ⟨⟨f26, _, _, (ok_margin (ca := GG.ca) (ce := GG.ce) F26 T D_need_lot D_good_marks D_totals D_best_first D_turned), PySem.W.mg_of X G a26, k26, (F26.binds (ps := ["race", "marks", "lot"]) fun _ _ _ _ _ _ us hl => match us, hl with | [_, _, _], _ => rfl)⟩⟩
  have D__law_help : DefG GG l.prog w mg base 1 "_law_help" 4 d__law_help := ⟨⟨f27, _, _, (ok__law_help (ca := GG.ca) (ce := GG.ce) F27 T ), PySem.W.mg_of X G a27, k27, (F27.binds (ps := ["_law_told", "_law_mark_here", "_law_winner", "_law_loser"]) fun _ _ _ _ _ _ us hl => match us, hl with | [_, _, _, _], _ => rfl)⟩⟩
  have D__law_turned : DefG GG l.prog w mg base 2 "_law_turned" 5 d__law_turned := ⟨⟨f28, _, _, (ok__law_turned (ca := GG.ca) (ce := GG.ce) F28 T D__law_help), PySem.W.mg_of X G a28, k28, (F28.binds (ps := ["_law_told", "_law_marks_here", "_law_winner", "_law_loser", "_law_many"]) fun _ _ _ _ _ _ us hl => match us, hl with | [_, _, _, _, _], _ => rfl)⟩⟩
  have D__law_right : DefG GG l.prog w mg base 7 "_law_right" 2 d__law_right := ⟨⟨f29, _, _, (ok__law_right (ca := GG.ca) (ce := GG.ce) F29 T D__law_begun D__law_told_race D__law_race D__law_shuffled D__law_mark D__law_marks D_top D_margin D__law_turned), PySem.W.mg_of X G a29, k29, (F29.binds (ps := ["_law_cell", "_law_k"]) fun _ _ _ _ _ _ us hl => match us, hl with | [_, _], _ => rfl)⟩⟩
  exact fnG_all (ok_law (ca := GG.ca) (ce := GG.ce) F30 T D__law_right)
theorem walk {l : PySem.W.OpenLaw} {q : Program} {loose : List Str} {XP : (Str → Option Value) → Heap → Prop} {YP : World → Heap → Prop} {d : DefRec} {K : Params → PySem.W.Frag} (hn : l.most = some 63) (hdf : d.params.defaults = [])
    (hY : ∀ (w : World) (h : Heap), YP w h → (K w.params).In h)
    (F : ∀ (w : World) (mg : Str → Option Value) (fa : Addr) (h : Heap), (K w.params).In h → h.Ns mainGlobals mg → mg d.name = some (.ref fa) →
      ∃ fd : FuncData, (∀ (s : Shared) (u : Value), BindsTo s fd ⟨[u], []⟩ [("_law_script", u)]) ∧ ∀ base : Heap, (K w.params).In base → base.Ns mainGlobals mg → FnG l.prog w (K w.params) mg base (L2.CX l.prog w) 8 fa fd ["_law_script"] (spA (K w.params) 1 d_law)) :
    PySem.W.WalkO q loose XP YP l.row.toRowW d [] (fun f vs => PySem.call f vs) :=
  L2.walk_ofG (n := 63) (k := 8) (x := "_law_script") (CX := fun w => L2.CX l.prog w) (sp := fun w => spA (K w.params) 1 d_law) hn (by decide) hdf ⟨rfl, by decide, by decide⟩ hY F
    (fun w H a ns hl hO hS ca ce => law_sp (G := ⟨K w.params, ca, ce⟩) hO hS (law_true ns hl)) fun w H s e s' z => no_CX z
end DR.K47
open PySem PySem.W PyProof.Rows in
set_option maxRecDepth 100000 in
set_option maxHeartbeats 0 in
theorem PySem.Challenge.cw_rolltally_k47_whole_margins_of_many_holds : PySem.Challenge.rw_rolltally_k47_whole_margins_of_many.Holds := by
  w_on; o_law; k_head; (case hw => w_witness2)
  k_fill
  refine DR.K47.walk (l := PySem.Challenge.rw_rolltally_k47_whole_margins_of_many) rfl rfl (fun w h Y => PySem.W.kIn_of Y) ?F
  case F =>
    intro w mg fa h KX G hmg
    refine' DR.K47.all_mk KX G hmg ?A1 ?pg1 ?hd1 ?po1 ?sa1 ?ha1 ?hn1 ?ht1 ?hm1 ?ic1 ?tc1 ?n1_by ?n1_choices ?n1_districts ?n1_kind ?n1_name ?n1_seats ?m1_bool ?m1_int ?m1_str ?m1_tuple ?m1_1 ?mk1 ?kc1 ?a1 ?l1 ?c1 ?k1 ?a2 ?l2 ?c2 ?k2 ?a3 ?l3 ?c3 ?k3 ?a4 ?l4 ?c4 ?k4 ?a5 ?l5 ?c5 ?k5 ?a6 ?l6 ?c6 ?k6 ?a7 ?l7 ?c7 ?k7 ?a8 ?l8 ?c8 ?k8 ?a9 ?l9 ?c9 ?k9 ?a10 ?l10 ?c10 ?k10 ?a11 ?l11 ?c11 ?k11 ?a12 ?i12 ?l12 ?c12 ?k12 ?q12_0 ?q12_1 ?a13 ?l13 ?c13 ?k13 ?a14 ?l14 ?c14 ?k14 ?a15 ?l15 ?c15 ?k15 ?a16 ?l16 ?c16 ?k16 ?a17 ?l17 ?c17 ?k17 ?a18 ?l18 ?c18 ?k18 ?a19 ?l19 ?c19 ?k19 ?a20 ?l20 ?c20 ?k20 ?a21 ?l21 ?c21 ?k21 ?a22 ?l22 ?c22 ?k22 ?a23 ?l23 ?c23 ?k23 ?a24 ?l24 ?c24 ?k24 ?a25 ?l25 ?c25 ?k25 ?a26 ?l26 ?c26 ?k26 ?a27 ?l27 ?c27 ?k27 ?a28 ?l28 ?c28 ?k28 ?a29 ?l29 ?c29 ?k29 ?a30 ?l30 ?c30 ?k30 ?AX_NoLot ?AX_NoRace ?xi_NoLot ?xk_NoLot ?xs_NoLot ?xt_NoLot ?xi_NoRace ?xk_NoRace ?xs_NoRace ?xt_NoRace ?z_all ?z_bool ?z_enumerate ?z_int ?z_isinstance ?z_len ?z_list ?z_max ?z_min ?z_range ?z_set ?z_sorted ?z_str ?z_tuple ?y_LETTERS ?y_MOST_CHOICES ?y_MOST_DISTRICTS ?y_MOST_LETTERS ?y_KINDS ?w_KINDS ?y_RANK_WAYS ?w_RANK_WAYS
    (case A1 => k_is)
    (case pg1 => k_is)
    (case hd1 => k_is)
    (case po1 => k_is)
    (case sa1 => k_is)
    (case ha1 => k_is)
    (case hn1 => k_is)
    (case ht1 => k_is)
    (case hm1 => k_is)
    (case ic1 => k_is)
    (case tc1 => k_is)
    (case n1_by => k_is)
    (case n1_choices => k_is)
    (case n1_districts => k_is)
    (case n1_kind => k_is)
    (case n1_name => k_is)
    (case n1_seats => k_is)
    (case m1_bool => k_is)
    (case m1_int => k_is)
    (case m1_str => k_is)
    (case m1_tuple => k_is)
    (case m1_1 => k_is)
    (case mk1 => k_is)
    (case kc1 => k_is)
    (case a1 => k_is)
    (case l1 => k_is)
    (case c1 => k_is)
    (case k1 => k_is)
    (case a2 => k_is)
    (case l2 => k_is)
    (case c2 => k_is)
    (case k2 => k_is)
    (case a3 => k_is)
    (case l3 => k_is)
    (case c3 => k_is)
    (case k3 => k_is)
    (case a4 => k_is)
    (case l4 => k_is)
    (case c4 => k_is)
    (case k4 => k_is)
    (case a5 => k_is)
    (case l5 => k_is)
    (case c5 => k_is)
    (case k5 => k_is)
    (case a6 => k_is)
    (case l6 => k_is)
    (case c6 => k_is)
    (case k6 => k_is)
    (case a7 => k_is)
    (case l7 => k_is)
    (case c7 => k_is)
    (case k7 => k_is)
    (case a8 => k_is)
    (case l8 => k_is)
    (case c8 => k_is)
    (case k8 => k_is)
    (case a9 => k_is)
    (case l9 => k_is)
    (case c9 => k_is)
    (case k9 => k_is)
    (case a10 => k_is)
    (case l10 => k_is)
    (case c10 => k_is)
    (case k10 => k_is)
    (case a11 => k_is)
    (case l11 => k_is)
    (case c11 => k_is)
    (case k11 => k_is)
    (case a12 => k_is)
    (case i12 => k_is)
    (case l12 => k_is)
    (case c12 => k_is)
    (case k12 => k_is)
    (case q12_0 => k_is)
    (case q12_1 => k_is)
    (case a13 => k_is)
    (case l13 => k_is)
    (case c13 => k_is)
    (case k13 => k_is)
    (case a14 => k_is)
    (case l14 => k_is)
    (case c14 => k_is)
    (case k14 => k_is)
    (case a15 => k_is)
    (case l15 => k_is)
    (case c15 => k_is)
    (case k15 => k_is)
    (case a16 => k_is)
    (case l16 => k_is)
    (case c16 => k_is)
    (case k16 => k_is)
    (case a17 => k_is)
    (case l17 => k_is)
    (case c17 => k_is)
    (case k17 => k_is)
    (case a18 => k_is)
    (case l18 => k_is)
    (case c18 => k_is)
    (case k18 => k_is)
    (case a19 => k_is)
    (case l19 => k_is)
    (case c19 => k_is)
    (case k19 => k_is)
    (case a20 => k_is)
    (case l20 => k_is)
    (case c20 => k_is)
    (case k20 => k_is)
    (case a21 => k_is)
    (case l21 => k_is)
    (case c21 => k_is)
    (case k21 => k_is)
    (case a22 => k_is)
    (case l22 => k_is)
    (case c22 => k_is)
    (case k22 => k_is)
    (case a23 => k_is)
    (case l23 => k_is)
    (case c23 => k_is)
    (case k23 => k_is)
    (case a24 => k_is)
    (case l24 => k_is)
    (case c24 => k_is)
    (case k24 => k_is)
    (case a25 => k_is)
    (case l25 => k_is)
    (case c25 => k_is)
    (case k25 => k_is)
    (case a26 => k_is)
    (case l26 => k_is)
    (case c26 => k_is)
    (case k26 => k_is)
    (case a27 => k_is)
    (case l27 => k_is)
    (case c27 => k_is)
    (case k27 => k_is)
    (case a28 => k_is)
    (case l28 => k_is)
    (case c28 => k_is)
    (case k28 => k_is)
    (case a29 => k_is)
    (case l29 => k_is)
    (case c29 => k_is)
    (case k29 => k_is)
    (case a30 => k_is)
    (case l30 => k_is)
    (case c30 => k_is)
    (case k30 => k_is)
    (case AX_NoLot => k_is)
    (case AX_NoRace => k_is)
    (case xi_NoLot => k_exc)
    (case xk_NoLot => k_is)
    (case xs_NoLot => k_is)
    (case xt_NoLot => k_is)
    (case xi_NoRace => k_exc)
    (case xk_NoRace => k_is)
    (case xs_NoRace => k_is)
    (case xt_NoRace => k_is)
    (case z_all => k_is)
    (case z_bool => k_is)
    (case z_enumerate => k_is)
    (case z_int => k_is)
    (case z_isinstance => k_is)
    (case z_len => k_is)
    (case z_list => k_is)
    (case z_max => k_is)
    (case z_min => k_is)
    (case z_range => k_is)
    (case z_set => k_is)
    (case z_sorted => k_is)
    (case z_str => k_is)
    (case z_tuple => k_is)
    (case y_LETTERS => k_is)
    (case y_MOST_CHOICES => k_is)
    (case y_MOST_DISTRICTS => k_is)
    (case y_MOST_LETTERS => k_is)
    (case y_KINDS => k_is)
    (case w_KINDS => k_is)
    (case y_RANK_WAYS => k_is)
    (case w_RANK_WAYS => k_is)
end
