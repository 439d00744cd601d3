import PyProof.Rows.All
import Wide.All
import OpenK.AllK
import Wide.FinOn
import HandS.ForMost
import HandS.ForExc
import HandS.CallSlots
import HandS.Wide
import PyProof.NeKinds
import HandS.DeepEq
import HandS.TupAny
import HandS.Style
import HandS.IsInst
import HandS.Deep
import HandS.More
import HandS.SortInts
import HandS.SetFor
import HandS.Finally
import HandS.Conv
import HandS.TupMul
import HandS.Keys
import HandS.Remove
import PyProof.Rows.SetFrom
import HandS.SetKeys
import HandS.Strs
import HandS.Zip
import HandS.SetBool
import HandS.WordsDict
import HandS.Small
import KE.GoesNew
import HandS.DictComp
import KE.KDictSum
import HandS.ListItems
import KE.KUnpackStar
import HandS.Defaults
import HandS.MakeKwOnly
import HandS.Text
import HandS.SortRule
import HandS.Flow
import HandS.Iter
import PyProof.Rows.StrInSeq3
import KE.KExcIs
import HandS.ExcIs
import HandS.ExcInit
import PyProof.AutoSeq1
import KE.KDictZip
import HandS.RaiseMore
import HandS.SortKw
import KE.KMinKey
import KE.LtData
import HandS.Set
import HandS.SetTxt0
import PySem.Challenge.RW_rolltally_k20_boxes
set_option Elab.async false
set_option linter.all false
set_option maxRecDepth 100000
set_option maxHeartbeats 4000000
section
/-! D-layer, part 0: data without addresses, a store of mutable cells, how both lie in the abstract heap. -/
namespace DL
open PySem L2

inductive D where
  | non
  | bl (b : Bool)
  | int (i : Int)
  | str (x : Str)
  | tup (ds : List D)
  | lst (ds : List D)
  | dic (ks : List Key) (ds : List D)
  | obj (c : Str) (ks : List Str) (ds : List D)
  | loc (l : Nat)
  | dct (ks : List (List Key)) (ds : List D)
  | exn (c : Str) (ks : List Str) (ds : List D)
  | tpl (ds : List D)

inductive Cell where
  | lst (ds : List D)
  | dic (kvs : List (Key × D))
  | ins (c : Str) (fs : List (Str × D))
  | dct (kvs : List (List Key × D))

abbrev Store := List Cell
abbrev EnvD := List (Option D)

/-- where the cells lie; what is hidden (a list that a comprehension fills) -/
structure Fi where
  c : List Addr
  h : List Addr
def Fi.out (φ : Fi) (a : Addr) : Prop := a ∉ φ.c ∧ a ∉ φ.h

/-- the written classes -/
structure Glb where
  K : PySem.W.Frag
  ca : Str → Option Addr
  ce : Str → Option Addr

/-- a caught exception that is kept -/
def ExH (cls : Value) (d : Option Addr) (a : Addr) : HO := .ext fun h => ∃ (oe : Obj) (vs : Array Value), h.get? a = some oe ∧ Zc cls d oe ∧ oe.data = .fields vs
def RdL (G : Glb) (φ : Fi) (H : Hp) (a : Addr) (xs : List V) : Prop := (φ.out a ∧ Rd H a (.lst xs)) ∨
  ∃ (o : Obj) (its : Array Value) (n : Nat), G.K.lookup a = some o ∧ o.cls = .type "list" ∧ o.dict = none ∧ o.data = .seq its n ∧ its.size ≤ sizeLine ∧ Vals xs its.toList
def RdT (G : Glb) (φ : Fi) (H : Hp) (a : Addr) (xs : List V) : Prop := (φ.out a ∧ Rd H a (.tup xs)) ∨
  ∃ (o : Obj) (its : Array Value) (n : Nat), G.K.lookup a = some o ∧ o.cls = .type "tuple" ∧ o.data = .seq its n ∧ its.size ≤ sizeLine ∧ Vals xs its.toList

mutual
def Is (G : Glb) (φ : Fi) (H : Hp) : D → V → Prop
  | .non, v => v = .non
  | .bl b, v => v = .bl b
  | .int i, v => v = .int i
  | .str x, v => v = .str x
  | .tup ds, v => ∃ a xs, v = .ref a ∧ RdT G φ H a xs ∧ IsL G φ H ds xs
  | .lst ds, v => ∃ a xs, v = .ref a ∧ RdL G φ H a xs ∧ IsL G φ H ds xs
  | .dic ks ds, v => ∃ a kvs, v = .ref a ∧ (φ.out a ∧ Rd H a (.dK kvs)) ∧ kvs.map (·.1) = ks ∧ IsL G φ H ds (kvs.map (·.2))
  | .obj c ks ds, v => ∃ a C dx fs, v = .ref a ∧ (φ.out a ∧ H a = some (.ins C dx fs)) ∧ G.ca c = some C ∧ fs.map (·.1) = ks ∧ IsL G φ H ds (fs.map (·.2))
  | .loc l, v => ∃ a, φ.c[l]? = some a ∧ v = .ref a
  | .dct ks ds, v => ∃ a kvs, v = .ref a ∧ (φ.out a ∧ Rd H a (.dT kvs)) ∧ kvs.map (·.1) = ks ∧ IsL G φ H ds (kvs.map (·.2))
  | .exn c ks ds, v => ∃ a C d, v = .ref a ∧ (φ.out a ∧ H a = some (ExH (.ref C) d a)) ∧ G.ce c = some C ∧ ((d = none ∧ ks = [] ∧ ds = []) ∨ ∃ b fs, d = some b ∧ (φ.out b ∧ H b = some (.xd fs)) ∧ fs.map (·.1) = ks ∧ IsL G φ H ds (fs.map (·.2)))
  | .tpl ds, v => ∃ a xs o, v = .ref a ∧ (φ.out a ∧ H a = some (.frz o (.tup xs)) ∧ o.cls = .type "tuple" ∧ o.dict = none) ∧ IsL G φ H ds xs
def IsL (G : Glb) (φ : Fi) (H : Hp) : List D → List V → Prop
  | [], xs => xs = []
  | d :: ds, xs => ∃ x r, xs = x :: r ∧ Is G φ H d x ∧ IsL G φ H ds r
end

/-- a dict -/
def Dt (o : HO) : Prop := (∃ kvs, o = .dK kvs) ∨ ∃ kvs, o = .dT kvs
/-- what a state may become -/
structure Ext (φ : Fi) (H : Hp) (φ' : Fi) (H' : Hp) : Prop where
  pre : ∃ ψ, φ'.c = φ.c ++ ψ ∧ ∀ a ∈ ψ, a ∉ φ.c ∧ H a = none
  hid : φ'.h = φ.h
  keep : ∀ a o, a ∉ φ.c → H a = some o → H' a = some o ∨ ∃ od, a ∉ φ.h ∧ Dt o ∧ H' a = some (.frz od o)

/-- all but dicts stay; a dict may be locked for good -/
theorem Ext.keepE {φ φ' : Fi} {H H' : Hp} (e : Ext φ H φ' H') {a : Addr} {o : HO} (n : a ∉ φ.c) (h : H a = some o) (hd : ¬ Dt o := by rintro (⟨_, z⟩ | ⟨_, z⟩) <;> cases z) : H' a = some o :=
  (e.keep a o n h).elim id fun ⟨_, _, z, _⟩ => absurd z hd
theorem Ext.keepH {φ φ' : Fi} {H H' : Hp} (e : Ext φ H φ' H') {a : Addr} {o : HO} (n : a ∉ φ.c) (h : H a = some o) (hh : a ∈ φ.h) : H' a = some o :=
  (e.keep a o n h).elim id fun ⟨_, z, _⟩ => absurd hh z
theorem Ext.keepT {φ φ' : Fi} {H H' : Hp} (e : Ext φ H φ' H') {a : Addr} {o : HO} (n : a ∉ φ.c) (h : H a = some o) : ∃ o', H' a = some o' :=
  (e.keep a o n h).elim (fun z => ⟨_, z⟩) fun ⟨_, _, _, z⟩ => ⟨_, z⟩
theorem Ext.refl {φ : Fi} {H : Hp} : Ext φ H φ H := ⟨⟨[], by simp, fun _ h => by simp at h⟩, rfl, fun _ _ _ h => .inl h⟩
theorem Ext.outc {φ φ' : Fi} {H H' : Hp} (e : Ext φ H φ' H') {a : Addr} {o : HO} (n : a ∉ φ.c) (h : H a = some o) : a ∉ φ'.c := by
  obtain ⟨ψ, e1, p⟩ := e.pre
  rw [e1]
  intro q
  rcases List.mem_append.mp q with q | q
  · exact n q
  · have z := (p a q).2
    rw [h] at z; cases z
theorem Ext.out {φ φ' : Fi} {H H' : Hp} (e : Ext φ H φ' H') {a : Addr} {o : HO} (n : φ.out a) (h : H a = some o) : φ'.out a :=
  ⟨e.outc n.1 h, by rw [e.hid]; exact n.2⟩
theorem Ext.trans {φ φ1 φ2 : Fi} {H H1 H2 : Hp} (a : Ext φ H φ1 H1) (b : Ext φ1 H1 φ2 H2) : Ext φ H φ2 H2 := by
  refine ⟨?_, b.hid.trans a.hid, fun c o n h => ?_⟩
  case refine_2 =>
    rcases a.keep c o n h with q | ⟨od, nh, z, q⟩
    · rw [← a.hid]
      exact b.keep c o (a.outc n h) q
    · exact .inr ⟨od, nh, z, b.keepE (a.outc n h) q⟩
  obtain ⟨ψ, e1, p⟩ := a.pre
  obtain ⟨χ, e2, q⟩ := b.pre
  refine ⟨ψ ++ χ, by rw [e2, e1, List.append_assoc], fun c hc => ?_⟩
  rcases List.mem_append.mp hc with hc | hc
  · exact p c hc
  · obtain ⟨n1, n2⟩ := q c hc
    have nφ : c ∉ φ.c := fun z => n1 (by rw [e1]; exact List.mem_append_left _ z)
    refine ⟨nφ, ?_⟩
    cases hq : H c with
    | none => rfl
    | some o => obtain ⟨o', q⟩ := a.keepT nφ hq; rw [q] at n2; cases n2
theorem Ext.get {φ φ' : Fi} {H H' : Hp} (e : Ext φ H φ' H') {l : Nat} {a : Addr} (h : φ.c[l]? = some a) : φ'.c[l]? = some a := by
  obtain ⟨ψ, e1, _⟩ := e.pre
  rw [e1, List.getElem?_append_left (List.getElem?_eq_some_iff.mp h).1]; exact h
theorem Ext.rd {φ φ' : Fi} {H H' : Hp} (e : Ext φ H φ' H') {a : Addr} {u : HO} (n : φ.out a) (h : Rd H a u) : φ'.out a ∧ Rd H' a u := by
  rcases h with h | ⟨o, h⟩
  · refine ⟨e.out n h, ?_⟩
    rcases e.keep _ _ n.1 h with q | ⟨od, _, _, q⟩
    · exact .inl q
    · exact .inr ⟨od, q⟩
  · exact ⟨e.out n h, .inr ⟨o, e.keepE n.1 h⟩⟩

/-- how readings are kept -/
structure Kept (φ : Fi) (H : Hp) (φ' : Fi) (H' : Hp) : Prop where
  get : ∀ (l : Nat) (a : Addr), φ.c[l]? = some a → φ'.c[l]? = some a
  rd : ∀ a u, φ.out a → Rd H a u → φ'.out a ∧ Rd H' a u
  ins : ∀ a C dx fs, φ.out a → H a = some (.ins C dx fs) → φ'.out a ∧ H' a = some (.ins C dx fs)
  frz : ∀ a o u, φ.out a → H a = some (.frz o u) → φ'.out a ∧ H' a = some (.frz o u)
  ext : ∀ a p, φ.out a → H a = some (.ext p) → φ'.out a ∧ H' a = some (.ext p)
  xd : ∀ a fs, φ.out a → H a = some (.xd fs) → φ'.out a ∧ H' a = some (.xd fs)
theorem Ext.kept {φ φ' : Fi} {H H' : Hp} (e : Ext φ H φ' H') : Kept φ H φ' H' :=
  ⟨fun _ _ => e.get, fun _ _ => e.rd, fun _ _ _ _ n h => ⟨e.out n h, e.keepE n.1 h⟩, fun _ _ _ n h => ⟨e.out n h, e.keepE n.1 h⟩, fun _ _ n h => ⟨e.out n h, e.keepE n.1 h⟩, fun _ _ n h => ⟨e.out n h, e.keepE n.1 h⟩⟩

section
variable {G : Glb} {φ φ' : Fi} {H H' : Hp}
theorem RdL.kept (k : Kept φ H φ' H') {a : Addr} {xs : List V} (h : RdL G φ H a xs) : RdL G φ' H' a xs := by
  rcases h with ⟨n, h⟩ | h
  · exact .inl (k.rd _ _ n h)
  · exact .inr h
theorem RdT.kept (k : Kept φ H φ' H') {a : Addr} {xs : List V} (h : RdT G φ H a xs) : RdT G φ' H' a xs := by
  rcases h with ⟨n, h⟩ | h
  · exact .inl (k.rd _ _ n h)
  · exact .inr h
mutual
theorem Is.kept (k : Kept φ H φ' H') : ∀ {d : D} {v : V}, Is G φ H d v → Is G φ' H' d v
  | .non, v, h => h
  | .bl b, v, h => h
  | .int i, v, h => h
  | .str x, v, h => h
  | .tup ds, v, h => by
    obtain ⟨a, xs, e, r, q⟩ := h
    exact ⟨a, xs, e, r.kept k, IsL.kept k q⟩
  | .lst ds, v, h => by
    obtain ⟨a, xs, e, r, q⟩ := h
    exact ⟨a, xs, e, r.kept k, IsL.kept k q⟩
  | .dic ks ds, v, h => by
    obtain ⟨a, kvs, e, ⟨n, r⟩, z, q⟩ := h
    exact ⟨a, kvs, e, k.rd _ _ n r, z, IsL.kept k q⟩
  | .obj c ks ds, v, h => by
    obtain ⟨a, C, dx, fs, e, ⟨n, r⟩, c, z, q⟩ := h
    exact ⟨a, C, dx, fs, e, k.ins _ _ _ _ n r, c, z, IsL.kept k q⟩
  | .loc l, v, h => by
    obtain ⟨a, p, e⟩ := h
    exact ⟨a, k.get _ _ p, e⟩
  | .dct ks ds, v, h => by
    obtain ⟨a, kvs, e, ⟨n, r⟩, z, q⟩ := h
    exact ⟨a, kvs, e, k.rd _ _ n r, z, IsL.kept k q⟩
  | .exn c ks ds, v, h => by
    obtain ⟨a, C, d, e, ⟨n, r⟩, c, z⟩ := h
    refine ⟨a, C, d, e, k.ext _ _ n r, c, ?_⟩
    rcases z with z | ⟨b, fs, e1, ⟨n1, r1⟩, e2, q⟩
    · exact .inl z
    · exact .inr ⟨b, fs, e1, k.xd _ _ n1 r1, e2, IsL.kept k q⟩
  | .tpl ds, v, h => by
    obtain ⟨a, xs, o, e, ⟨n, r, r2⟩, q⟩ := h
    have z := k.frz _ _ _ n r
    exact ⟨a, xs, o, e, ⟨z.1, z.2, r2⟩, IsL.kept k q⟩
theorem IsL.kept (k : Kept φ H φ' H') : ∀ {ds : List D} {xs : List V}, IsL G φ H ds xs → IsL G φ' H' ds xs
  | [], xs, h => h
  | d :: ds, xs, h => by
    obtain ⟨x, r, e, p, q⟩ := h
    exact ⟨x, r, e, Is.kept k p, IsL.kept k q⟩
end
theorem Is.ext (e : Ext φ H φ' H') {d : D} {v : V} (h : Is G φ H d v) : Is G φ' H' d v := Is.kept e.kept h
theorem IsL.ext (e : Ext φ H φ' H') {ds : List D} {xs : List V} (h : IsL G φ H ds xs) : IsL G φ' H' ds xs := IsL.kept e.kept h
theorem RdL.seq {a : Addr} {xs : List V} (h : RdL G φ H a xs) : SqL G.K H a xs := by
  rcases h with ⟨_, h⟩ | h
  · exact .inl h
  · exact .inr h
theorem RdT.seq {a : Addr} {xs : List V} (h : RdT G φ H a xs) : SqT G.K H a xs := by
  rcases h with ⟨_, h⟩ | h
  · exact .inl h
  · exact .inr h
theorem IsL.length : ∀ {ds : List D} {xs : List V}, IsL G φ H ds xs → ds.length = xs.length
  | [], xs, h => by cases (show xs = [] from h); rfl
  | d :: ds, xs, h => by
    obtain ⟨x, r, rfl, _, q⟩ := h
    simp [IsL.length q]
theorem IsL.get : ∀ {ds : List D} {xs : List V} {i : Nat} {d : D}, IsL G φ H ds xs → ds[i]? = some d → ∃ x, xs[i]? = some x ∧ Is G φ H d x
  | [], _, _, _, _, e => by simp at e
  | d :: ds, xs, 0, d', h, e => by
    obtain ⟨x, r, rfl, p, q⟩ := h
    simp at e; subst e
    exact ⟨x, rfl, p⟩
  | d :: ds, xs, i + 1, d', h, e => by
    obtain ⟨x, r, rfl, p, q⟩ := h
    simpa using IsL.get q (by simpa using e)
theorem IsL.append : ∀ {ds es : List D} {xs ys : List V}, IsL G φ H ds xs → IsL G φ H es ys → IsL G φ H (ds ++ es) (xs ++ ys)
  | [], es, xs, ys, h, k => by cases (show xs = [] from h); exact k
  | d :: ds, es, xs, ys, h, k => by
    obtain ⟨x, r, rfl, p, q⟩ := h
    exact ⟨x, r ++ ys, rfl, p, IsL.append q k⟩
theorem IsL.set : ∀ {ds : List D} {xs : List V} {d : D} {x : V} (i : Nat), IsL G φ H ds xs → Is G φ H d x → IsL G φ H (ds.set i d) (xs.set i x)
  | [], xs, _, _, _, h, _ => by cases (show xs = [] from h); exact rfl
  | _ :: _, xs, d', x', 0, h, k => by
    obtain ⟨x, r, rfl, p, q⟩ := h
    exact ⟨x', r, rfl, k, q⟩
  | _ :: _, xs, d', x', i + 1, h, k => by
    obtain ⟨x, r, rfl, p, q⟩ := h
    exact ⟨x, _, rfl, p, IsL.set i q k⟩
theorem IsL.take : ∀ {ds : List D} {xs : List V} (n : Nat), IsL G φ H ds xs → IsL G φ H (ds.take n) (xs.take n)
  | _, _, 0, _ => by simp [IsL]
  | [], xs, n + 1, h => by cases (show xs = [] from h); exact rfl
  | _ :: _, xs, n + 1, h => by
    obtain ⟨x, r, rfl, p, q⟩ := h
    exact ⟨x, _, rfl, p, IsL.take n q⟩
theorem IsL.drop : ∀ {ds : List D} {xs : List V} (n : Nat), IsL G φ H ds xs → IsL G φ H (ds.drop n) (xs.drop n)
  | _, _, 0, h => h
  | [], xs, n + 1, h => by cases (show xs = [] from h); exact rfl
  | _ :: _, xs, n + 1, h => by
    obtain ⟨x, r, rfl, p, q⟩ := h
    exact IsL.drop n q
theorem IsL.one {d : D} {x : V} (h : Is G φ H d x) : IsL G φ H [d] [x] := ⟨x, [], rfl, h, rfl⟩
theorem IsL.cons {d : D} {x : V} {ds : List D} {xs : List V} (h : Is G φ H d x) (k : IsL G φ H ds xs) : IsL G φ H (d :: ds) (x :: xs) := ⟨x, xs, rfl, h, k⟩
theorem IsL.reverse : ∀ {ds : List D} {xs : List V}, IsL G φ H ds xs → IsL G φ H ds.reverse xs.reverse
  | [], xs, h => by cases (show xs = [] from h); exact rfl
  | d :: ds, xs, h => by
    obtain ⟨x, r, rfl, p, q⟩ := h
    rw [List.reverse_cons, List.reverse_cons]
    exact IsL.append (IsL.reverse q) (.one p)
theorem IsL.ints : ∀ {ns : List Int} {xs : List V}, IsL G φ H (ns.map D.int) xs → xs = ns.map V.int
  | [], xs, h => h
  | n :: ns, xs, h => by
    obtain ⟨x, r, rfl, p, q⟩ := h
    rw [IsL.ints q, show x = V.int n from p]; rfl
theorem IsL.of_ints : ∀ {ns : List Int}, IsL G φ H (ns.map D.int) (ns.map V.int)
  | [] => rfl
  | n :: ns => ⟨_, _, rfl, rfl, IsL.of_ints⟩
theorem IsL.bls : ∀ {ns : List Bool} {xs : List V}, IsL G φ H (ns.map D.bl) xs → xs = ns.map V.bl
  | [], xs, h => h
  | n :: ns, xs, h => by
    obtain ⟨x, r, rfl, p, q⟩ := h
    rw [IsL.bls q, show x = V.bl n from p]; rfl
theorem IsL.strs : ∀ {ns : List Str} {xs : List V}, IsL G φ H (ns.map D.str) xs → xs = ns.map V.str
  | [], xs, h => h
  | n :: ns, xs, h => by
    obtain ⟨x, r, rfl, p, q⟩ := h
    rw [IsL.strs q, show x = V.str n from p]; rfl
end

/-- a cell as it lies at its address -/
def CellOk (G : Glb) (φ : Fi) (H : Hp) (a : Addr) : Cell → Prop
  | .lst ds => ∃ xs, H a = some (.lst xs) ∧ IsL G φ H ds xs
  | .dic kvs => ∃ ws, H a = some (.dK ws) ∧ ws.map (·.1) = kvs.map (·.1) ∧ IsL G φ H (kvs.map (·.2)) (ws.map (·.2))
  | .dct kvs => ∃ ws, H a = some (.dT ws) ∧ ws.map (·.1) = kvs.map (·.1) ∧ IsL G φ H (kvs.map (·.2)) (ws.map (·.2))
  | .ins c fs => ∃ C dx ws, G.ca c = some C ∧ H a = some (.ins C dx ws) ∧ ws.map (·.1) = fs.map (·.1) ∧ IsL G φ H (fs.map (·.2)) (ws.map (·.2))
/-- no tuple, locked or not -/
def NoTup : HO → Prop
  | .tup _ => False
  | .frz _ (.tup _) => False
  | _ => True
structure SOk (G : Glb) (φ : Fi) (S : Store) (H : Hp) : Prop where
  len : φ.c.length = S.length
  nd : φ.c.Nodup
  hid : ∀ a ∈ φ.h, a ∉ φ.c ∧ ∃ o, H a = some o ∧ NoTup o
  cell : ∀ (l : Nat) (c : Cell), S[l]? = some c → ∃ a, φ.c[l]? = some a ∧ CellOk G φ H a c

section
variable {G : Glb} {φ φ' : Fi} {H H' : Hp} {S : Store}
theorem CellOk.some {a : Addr} {c : Cell} (h : CellOk G φ H a c) : ∃ o, H a = some o := by
  cases c with
  | lst ds => obtain ⟨xs, h, _⟩ := h; exact ⟨_, h⟩
  | dic kvs => obtain ⟨xs, h, _⟩ := h; exact ⟨_, h⟩
  | ins c fs => obtain ⟨C, dx, ws, _, h, _⟩ := h; exact ⟨_, h⟩
  | dct kvs => obtain ⟨xs, h, _⟩ := h; exact ⟨_, h⟩
theorem CellOk.move {a : Addr} {c : Cell} (k : Kept φ H φ' H') (e : H' a = H a) (h : CellOk G φ H a c) : CellOk G φ' H' a c := by
  cases c with
  | lst ds => obtain ⟨xs, h, q⟩ := h; exact ⟨xs, by rw [e]; exact h, q.kept k⟩
  | dic kvs => obtain ⟨xs, h, z, q⟩ := h; exact ⟨xs, by rw [e]; exact h, z, q.kept k⟩
  | ins c fs => obtain ⟨C, dx, ws, z, h, y, q⟩ := h; exact ⟨C, dx, ws, z, by rw [e]; exact h, y, q.kept k⟩
  | dct kvs => obtain ⟨xs, h, z, q⟩ := h; exact ⟨xs, by rw [e]; exact h, z, q.kept k⟩
theorem SOk.there (s : SOk G φ S H) {a : Addr} (h : a ∈ φ.c) : ∃ o, H a = some o := by
  obtain ⟨l, hl, e⟩ := List.getElem_of_mem h
  have hS : l < S.length := by rw [← s.len]; exact hl
  obtain ⟨b, hb, c⟩ := s.cell l S[l] (List.getElem?_eq_getElem hS)
  rw [List.getElem?_eq_getElem hl, e] at hb
  cases hb
  exact c.some
theorem SOk.freshc (s : SOk G φ S H) {a : Addr} (h : H a = none) : a ∉ φ.c := fun q => by
  obtain ⟨o, e⟩ := s.there q
  rw [h] at e; cases e
theorem SOk.freshh (s : SOk G φ S H) {a : Addr} (h : H a = none) : a ∉ φ.h := fun q => by
  obtain ⟨_, o, e, _⟩ := s.hid a q
  rw [h] at e; cases e
theorem SOk.fresh (s : SOk G φ S H) {a : Addr} (h : H a = none) : φ.out a := ⟨s.freshc h, s.freshh h⟩
/-- a new object that is not of the store -/
theorem Ext.laid {a : Addr} {o : HO} (h : H a = none) : Ext φ H φ (upd H a o) :=
  ⟨⟨[], by simp, fun _ q => by simp at q⟩, rfl, fun b u _ e => .inl (by rw [upd_ne (ne_of_none e h)]; exact e)⟩
theorem Ext.keepN (e : Ext φ H φ' H') {a : Addr} (n : a ∉ φ.c) (h : ∃ o, H a = some o ∧ NoTup o) : ∃ o, H' a = some o ∧ NoTup o := by
  obtain ⟨o, h, t⟩ := h
  rcases e.keep a o n h with z | ⟨od, _, dt, z⟩
  · exact ⟨o, z, t⟩
  · refine ⟨_, z, ?_⟩
    rcases dt with ⟨_, rfl⟩ | ⟨_, rfl⟩ <;> exact trivial
theorem SOk.step (s : SOk G φ S H) (e : Ext φ H φ H') (k : ∀ a ∈ φ.c, H' a = H a) : SOk G φ S H' :=
  ⟨s.len, s.nd, fun a ha => let ⟨n, q⟩ := s.hid a ha; ⟨n, e.keepN n q⟩, fun l c h => by
    obtain ⟨a, ha, hc⟩ := s.cell l c h
    exact ⟨a, ha, hc.move e.kept (k a (List.mem_of_getElem? ha))⟩⟩
theorem SOk.laid (s : SOk G φ S H) {a : Addr} {o : HO} (h : H a = none) : SOk G φ S (upd H a o) :=
  s.step (.laid h) fun b hb => upd_ne fun q => by subst q; exact s.freshc h hb
/-- a new cell -/
def Fi.add (φ : Fi) (a : Addr) : Fi := ⟨φ.c ++ [a], φ.h⟩
theorem Ext.newCell {a : Addr} {o : HO} (s : SOk G φ S H) (h : H a = none) : Ext φ H (φ.add a) (upd H a o) :=
  ⟨⟨[a], rfl, fun b hb => by simp at hb; subst hb; exact ⟨s.freshc h, h⟩⟩, rfl, fun b u _ e => .inl (by rw [upd_ne (ne_of_none e h)]; exact e)⟩
theorem SOk.newCell (s : SOk G φ S H) {a : Addr} {o : HO} {c : Cell} (h : H a = none) (hc : CellOk G (φ.add a) (upd H a o) a c) : SOk G (φ.add a) (S ++ [c]) (upd H a o) := by
  refine ⟨by simp [Fi.add, s.len], ?_, fun b hb => ?_, fun l d hl => ?_⟩
  · refine List.nodup_append.mpr ⟨s.nd, by simp, fun x hx y hy => ?_⟩
    simp at hy; subst hy
    intro e; subst e; exact s.freshc h hx
  · obtain ⟨n, u, e, t⟩ := s.hid b hb
    have nb : b ≠ a := ne_of_none e h
    exact ⟨fun z => (List.mem_append.mp z).elim n fun z => nb (by simpa using z), u, by rw [upd_ne nb]; exact e, t⟩
  · by_cases q : l < S.length
    · rw [List.getElem?_append_left q] at hl
      obtain ⟨b, hb, kb⟩ := s.cell l d hl
      refine ⟨b, (Ext.newCell (o := o) s h).get hb, kb.move (Ext.newCell (o := o) s h).kept (upd_ne fun z => ?_)⟩
      subst z; exact s.freshc h (List.mem_of_getElem? hb)
    · rw [List.getElem?_append_right (Nat.le_of_not_lt q)] at hl
      have e : l = S.length := by
        have := (List.getElem?_eq_some_iff.mp hl).1
        simp at this; omega
      subst e
      simp at hl; subst hl
      exact ⟨a, by rw [← s.len]; simp [Fi.add], hc⟩
/-- a cell is written -/
theorem Ext.put {a : Addr} {o : HO} (h : a ∈ φ.c) : Ext φ H φ (upd H a o) :=
  ⟨⟨[], by simp, fun _ q => by simp at q⟩, rfl, fun b u n e => .inl (by rw [upd_ne (fun z => n (by rw [z]; exact h))]; exact e)⟩
theorem SOk.put (s : SOk G φ S H) {l : Nat} {a : Addr} {o : HO} {c : Cell} (ha : φ.c[l]? = some a) (hc : CellOk G φ (upd H a o) a c) : SOk G φ (S.set l c) (upd H a o) := by
  have hl : l < S.length := by rw [← s.len]; exact (List.getElem?_eq_some_iff.mp ha).1
  refine ⟨by simp [s.len], s.nd, fun b hb => ?_, fun i d hd => ?_⟩
  · obtain ⟨n, u, e, t⟩ := s.hid b hb
    exact ⟨n, u, by rw [upd_ne (fun z => n (by rw [z]; exact List.mem_of_getElem? ha))]; exact e, t⟩
  · by_cases q : i = l
    · subst q
      rw [List.getElem?_set_self hl] at hd
      cases hd
      exact ⟨a, ha, hc⟩
    · rw [List.getElem?_set_ne (fun z => q z.symm)] at hd
      obtain ⟨b, hb, kb⟩ := s.cell i d hd
      refine ⟨b, hb, kb.move (Ext.put (List.mem_of_getElem? ha)).kept (upd_ne fun z => ?_)⟩
      subst z
      exact q (nd_ix s.nd hb ha)
theorem SOk.at_ (s : SOk G φ S H) {l : Nat} {c : Cell} {a : Addr} (h : S[l]? = some c) (ha : φ.c[l]? = some a) : CellOk G φ H a c := by
  obtain ⟨b, hb, k⟩ := s.cell l c h
  rw [ha] at hb; cases hb; exact k
/-- a hidden object -/
def Fi.hide (φ : Fi) (a : Addr) : Fi := ⟨φ.c, a :: φ.h⟩
theorem Kept.hide {a : Addr} {o : HO} (h : H a = none) : Kept φ H (φ.hide a) (upd H a o) := by
  have no : ∀ {b : Addr} {u : HO}, φ.out b → Rd H b u → (φ.hide a).out b := fun {b u} n r => ⟨n.1, fun q => (List.mem_cons.mp q).elim (fun z => by
    subst z
    rcases r with r | ⟨_, r⟩ <;> rw [h] at r <;> cases r) n.2⟩
  refine ⟨fun _ _ q => q, fun b u n r => ⟨no n r, ?_⟩, fun b C dx fs n r => ⟨no (u := .ins C dx fs) n (.inl r), ?_⟩, fun b o u n r => ⟨no (u := .frz o u) n (.inl r), ?_⟩, fun b p n r => ⟨no (u := .ext p) n (.inl r), ?_⟩, fun b p n r => ⟨no (u := .xd p) n (.inl r), ?_⟩⟩
  · rcases r with r | ⟨w, r⟩
    · exact .inl (by rw [upd_ne (ne_of_none r h)]; exact r)
    · exact .inr ⟨w, by rw [upd_ne (ne_of_none r h)]; exact r⟩
  · rw [upd_ne (ne_of_none r h)]; exact r
  · rw [upd_ne (ne_of_none r h)]; exact r
  · rw [upd_ne (ne_of_none r h)]; exact r
  · rw [upd_ne (ne_of_none r h)]; exact r
theorem Kept.show_ {a : Addr} : Kept (φ.hide a) H φ H :=
  ⟨fun _ _ q => q, fun b u n r => ⟨⟨n.1, fun z => n.2 (List.mem_cons_of_mem _ z)⟩, r⟩, fun b C dx fs n r => ⟨⟨n.1, fun z => n.2 (List.mem_cons_of_mem _ z)⟩, r⟩, fun b o u n r => ⟨⟨n.1, fun z => n.2 (List.mem_cons_of_mem _ z)⟩, r⟩, fun b p n r => ⟨⟨n.1, fun z => n.2 (List.mem_cons_of_mem _ z)⟩, r⟩, fun b p n r => ⟨⟨n.1, fun z => n.2 (List.mem_cons_of_mem _ z)⟩, r⟩⟩
/-- the hidden object changes -/
theorem Kept.hidden {a : Addr} {o : HO} (hm : a ∈ φ.h) : Kept φ H φ (upd H a o) := by
  have nb : ∀ {b : Addr}, φ.out b → b ≠ a := fun n z => n.2 (by rw [z]; exact hm)
  refine ⟨fun _ _ q => q, fun b u n r => ⟨n, ?_⟩, fun b C dx fs n r => ⟨n, by rw [upd_ne (nb n)]; exact r⟩, fun b o u n r => ⟨n, by rw [upd_ne (nb n)]; exact r⟩, fun b p n r => ⟨n, by rw [upd_ne (nb n)]; exact r⟩, fun b p n r => ⟨n, by rw [upd_ne (nb n)]; exact r⟩⟩
  rcases r with r | ⟨w, r⟩
  · exact .inl (by rw [upd_ne (nb n)]; exact r)
  · exact .inr ⟨w, by rw [upd_ne (nb n)]; exact r⟩
theorem SOk.hide (s : SOk G φ S H) {a : Addr} {o : HO} (h : H a = none) (ho : NoTup o := by exact trivial) : SOk G (φ.hide a) S (upd H a o) := by
  refine ⟨s.len, s.nd, fun b hb => ?_, fun l c hl => ?_⟩
  · rcases List.mem_cons.mp hb with rfl | hb
    · exact ⟨s.freshc h, o, upd_same, ho⟩
    · obtain ⟨n, u, e, t⟩ := s.hid b hb
      exact ⟨n, u, by rw [upd_ne (ne_of_none e h)]; exact e, t⟩
  · obtain ⟨b, hb, kb⟩ := s.cell l c hl
    exact ⟨b, hb, kb.move (Kept.hide h) (upd_ne fun z => by subst z; exact s.freshc h (List.mem_of_getElem? hb))⟩
theorem SOk.show_ {a : Addr} (s : SOk G (φ.hide a) S H) : SOk G φ S H :=
  ⟨s.len, s.nd, fun b hb => s.hid b (List.mem_cons_of_mem _ hb), fun l c hl => let ⟨b, hb, kb⟩ := s.cell l c hl; ⟨b, hb, kb.move Kept.show_ rfl⟩⟩
theorem SOk.hidden (s : SOk G φ S H) {a : Addr} {o : HO} (hm : a ∈ φ.h) (ho : NoTup o := by exact trivial) : SOk G φ S (upd H a o) := by
  refine ⟨s.len, s.nd, fun b hb => ?_, fun l c hl => ?_⟩
  · obtain ⟨n, u, e, t⟩ := s.hid b hb
    by_cases q : b = a
    · subst q; exact ⟨n, o, upd_same, ho⟩
    · exact ⟨n, u, by rw [upd_ne q]; exact e, t⟩
  · obtain ⟨b, hb, kb⟩ := s.cell l c hl
    exact ⟨b, hb, kb.move (Kept.hidden hm) (upd_ne fun z => by subst z; exact (s.hid _ hm).1 (List.mem_of_getElem? hb))⟩
end
end DL
end
section
/-! D-layer, part 1: what expressions and statements give, the judgements. -/
namespace DL
open PySem L2

structure Exc where
  cls : Str
  fld : Option (Str × D)

inductive ER where
  | ok (d : D) (S : Store)
  | ex (x : Exc) (S : Store)
  | bad
inductive LR where
  | ok (ds : List D) (S : Store)
  | ex (x : Exc) (S : Store)
  | bad
inductive SR where
  | nx (e : EnvD) (S : Store)
  | rt (d : D) (S : Store)
  | bk (e : EnvD) (S : Store)
  | ct (e : EnvD) (S : Store)
  | ex (x : Exc) (e : EnvD) (S : Store)
  | bad
abbrev EM := EnvD → Store → ER
abbrev LM := EnvD → Store → LR
abbrev SM := EnvD → Store → SR
abbrev FD := List D → Store → ER

def ER.bind (r : ER) (g : D → Store → ER) : ER := match r with
  | .ok d S => g d S
  | .ex x S => .ex x S
  | .bad => .bad
def ER.bindL (r : ER) (g : D → Store → LR) : LR := match r with
  | .ok d S => g d S
  | .ex x S => .ex x S
  | .bad => .bad
def LR.bind (r : LR) (g : List D → Store → LR) : LR := match r with
  | .ok d S => g d S
  | .ex x S => .ex x S
  | .bad => .bad
def LR.bindE (r : LR) (g : List D → Store → ER) : ER := match r with
  | .ok d S => g d S
  | .ex x S => .ex x S
  | .bad => .bad
def ER.bindS (r : ER) (e : EnvD) (g : D → Store → SR) : SR := match r with
  | .ok d S => g d S
  | .ex x S => .ex x e S
  | .bad => .bad
def LR.bindS (r : LR) (e : EnvD) (g : List D → Store → SR) : SR := match r with
  | .ok d S => g d S
  | .ex x S => .ex x e S
  | .bad => .bad
def SR.seq (r : SR) (g : EnvD → Store → SR) : SR := match r with
  | .nx e S => g e S
  | r => r

/-- an exception as it lies -/
def IsX (G : Glb) (φ : Fi) (H : Hp) (x : Exc) (cls : Value) (dx : Option Addr) : Prop :=
  ∃ C, G.ce x.cls = some C ∧ cls = .ref C ∧ match x.fld with
    | none => dx = none
    | some (f, d) => ∃ a v, dx = some a ∧ φ.out a ∧ H a = some (.xd [(f, v)]) ∧ Is G φ H d v
theorem IsX.ext {G : Glb} {φ φ' : Fi} {H H' : Hp} (e : Ext φ H φ' H') {x : Exc} {cls : Value} {dx : Option Addr} (h : IsX G φ H x cls dx) : IsX G φ' H' x cls dx := by
  obtain ⟨C, a, b, q⟩ := h
  refine ⟨C, a, b, ?_⟩
  cases hx : x.fld with
  | none => rw [hx] at q; exact q
  | some p =>
    rw [hx] at q
    obtain ⟨a', v, e1, n, e2, i⟩ := q
    exact ⟨a', v, e1, e.out n e2, e.keepE n.1 e2, i.ext e⟩

def RepE (G : Glb) (φ : Fi) (H : Hp) (σ : St) (env : EnvD) : Prop :=
  σ.length = env.length ∧ ∀ (i : Nat) (d : D), env[i]? = some (some d) → ∃ v, σ[i]? = some (some v) ∧ Is G φ H d v
theorem RepE.kept {G : Glb} {φ φ' : Fi} {H H' : Hp} {σ : St} {env : EnvD} (k : Kept φ H φ' H') (h : RepE G φ H σ env) : RepE G φ' H' σ env :=
  ⟨h.1, fun i d e => let ⟨v, a, b⟩ := h.2 i d e; ⟨v, a, b.kept k⟩⟩
theorem RepE.ext {G : Glb} {φ φ' : Fi} {H H' : Hp} {σ : St} {env : EnvD} (e : Ext φ H φ' H') (h : RepE G φ H σ env) : RepE G φ' H' σ env := h.kept e.kept
theorem RepE.set {G : Glb} {φ : Fi} {H : Hp} {σ : St} {env : EnvD} (h : RepE G φ H σ env) {d : D} {v : V} (k : Is G φ H d v) (i : Nat) : RepE G φ H (σ.set i (some v)) (env.set i (some d)) := by
  refine ⟨by simp [h.1], fun j d' e => ?_⟩
  by_cases q : i = j
  · subst q
    by_cases hl : i < env.length
    · rw [List.getElem?_set_self hl] at e
      cases e
      exact ⟨v, by rw [List.getElem?_set_self (by rw [h.1]; exact hl)], k⟩
    · rw [List.getElem?_eq_none (by simpa using hl)] at e; cases e
  · rw [List.getElem?_set_ne q] at e
    obtain ⟨w, a, b⟩ := h.2 j d' e
    exact ⟨w, by rw [List.getElem?_set_ne q]; exact a, b⟩
def wipeD (env : EnvD) : List Nat → EnvD
  | [] => env
  | v :: vs => (wipeD env vs).set v none
theorem RepE.wipe {G : Glb} {φ : Fi} {H : Hp} {σ : St} {env : EnvD} (h : RepE G φ H σ env) : ∀ vs : List Nat, RepE G φ H (wipe σ vs) (wipeD env vs)
  | [] => h
  | w :: vs => by
    have ih := RepE.wipe h vs
    refine ⟨by simp [L2.wipe, wipeD, ih.1], fun j d' e => ?_⟩
    unfold wipeD at e
    unfold L2.wipe
    by_cases q : w = j
    · subst q
      by_cases hl : w < (wipeD env vs).length
      · rw [List.getElem?_set_self hl] at e; cases e
      · rw [List.getElem?_eq_none (by simpa using hl)] at e; cases e
    · rw [List.getElem?_set_ne q] at e ⊢
      exact ih.2 j d' e

section
variable (G : Glb) (W : WX) (φ : Fi) (H : Hp) (σ : St)
def PostE (r : ER) (Q : VK) : Prop := match r with
  | .ok d S => ∀ φ' H' v, Ext φ H φ' H' → SOk G φ' S H' → Is G φ' H' d v → Q v H'
  | .ex x S => ∀ φ' H' cls dx, Ext φ H φ' H' → SOk G φ' S H' → IsX G φ' H' x cls dx → W cls dx σ H'
  | .bad => False
def PostL (r : LR) (Q : List V → Hp → Prop) : Prop := match r with
  | .ok d S => ∀ φ' H' v, Ext φ H φ' H' → SOk G φ' S H' → IsL G φ' H' d v → Q v H'
  | .ex x S => ∀ φ' H' cls dx, Ext φ H φ' H' → SOk G φ' S H' → IsX G φ' H' x cls dx → W cls dx σ H'
  | .bad => False
def PostS (r : SR) (N : Ends) : Prop := match r with
  | .nx e S => ∀ φ' H' σ', Ext φ H φ' H' → SOk G φ' S H' → RepE G φ' H' σ' e → N.nx σ' H'
  | .rt d S => ∀ φ' H' v, Ext φ H φ' H' → SOk G φ' S H' → Is G φ' H' d v → N.rt v H'
  | .bk e S => ∀ φ' H' σ', Ext φ H φ' H' → SOk G φ' S H' → RepE G φ' H' σ' e → N.bk σ' H'
  | .ct e S => ∀ φ' H' σ', Ext φ H φ' H' → SOk G φ' S H' → RepE G φ' H' σ' e → N.ct σ' H'
  | .ex x e S => ∀ φ' H' σ' cls dx, Ext φ H φ' H' → SOk G φ' S H' → RepE G φ' H' σ' e → IsX G φ' H' x cls dx → W cls dx σ' H'
  | .bad => False
end

section
variable {G : Glb} {W : WX} {φ φ' : Fi} {H H' : Hp} {σ : St}
theorem PostE.ext (e : Ext φ H φ' H') {r : ER} {Q : VK} (h : PostE G W φ H σ r Q) : PostE G W φ' H' σ r Q := by
  cases r with
  | ok d S => exact fun φ2 H2 v e2 s i => h φ2 H2 v (e.trans e2) s i
  | ex x S => exact fun φ2 H2 c d e2 s i => h φ2 H2 c d (e.trans e2) s i
  | bad => exact h
theorem PostL.ext (e : Ext φ H φ' H') {r : LR} {Q : List V → Hp → Prop} (h : PostL G W φ H σ r Q) : PostL G W φ' H' σ r Q := by
  cases r with
  | ok d S => exact fun φ2 H2 v e2 s i => h φ2 H2 v (e.trans e2) s i
  | ex x S => exact fun φ2 H2 c d e2 s i => h φ2 H2 c d (e.trans e2) s i
  | bad => exact h
theorem PostS.ext (e : Ext φ H φ' H') {r : SR} {N : Ends} (h : PostS G W φ H r N) : PostS G W φ' H' r N := by
  cases r with
  | nx d S => exact fun φ2 H2 v e2 s i => h φ2 H2 v (e.trans e2) s i
  | rt d S => exact fun φ2 H2 v e2 s i => h φ2 H2 v (e.trans e2) s i
  | bk d S => exact fun φ2 H2 v e2 s i => h φ2 H2 v (e.trans e2) s i
  | ct d S => exact fun φ2 H2 v e2 s i => h φ2 H2 v (e.trans e2) s i
  | ex x d S => exact fun φ2 H2 v c dx e2 s i => h φ2 H2 v c dx (e.trans e2) s i
  | bad => exact h
/-- the ways on -/
theorem PostE.bind {r : ER} {g : D → Store → ER} {Q Q' : VK} (h : PostE G W φ H σ (r.bind g) Q)
    (k : ∀ d S φ' H' v, Ext φ H φ' H' → SOk G φ' S H' → Is G φ' H' d v → PostE G W φ' H' σ (g d S) Q → Q' v H') : PostE G W φ H σ r Q' := by
  cases r with
  | ok d S => exact fun φ2 H2 v e s i => k d S φ2 H2 v e s i (PostE.ext (r := g d S) e h)
  | ex x S => exact h
  | bad => exact h
theorem PostE.bindL {r : ER} {g : D → Store → LR} {Q : List V → Hp → Prop} {Q' : VK} (h : PostL G W φ H σ (r.bindL g) Q)
    (k : ∀ d S φ' H' v, Ext φ H φ' H' → SOk G φ' S H' → Is G φ' H' d v → PostL G W φ' H' σ (g d S) Q → Q' v H') : PostE G W φ H σ r Q' := by
  cases r with
  | ok d S => exact fun φ2 H2 v e s i => k d S φ2 H2 v e s i (PostL.ext (r := g d S) e h)
  | ex x S => exact h
  | bad => exact h
theorem PostL.bind {r : LR} {g : List D → Store → LR} {Q Q' : List V → Hp → Prop} (h : PostL G W φ H σ (r.bind g) Q)
    (k : ∀ d S φ' H' v, Ext φ H φ' H' → SOk G φ' S H' → IsL G φ' H' d v → PostL G W φ' H' σ (g d S) Q → Q' v H') : PostL G W φ H σ r Q' := by
  cases r with
  | ok d S => exact fun φ2 H2 v e s i => k d S φ2 H2 v e s i (PostL.ext (r := g d S) e h)
  | ex x S => exact h
  | bad => exact h
theorem PostL.bindE {r : LR} {g : List D → Store → ER} {Q : VK} {Q' : List V → Hp → Prop} (h : PostE G W φ H σ (r.bindE g) Q)
    (k : ∀ d S φ' H' v, Ext φ H φ' H' → SOk G φ' S H' → IsL G φ' H' d v → PostE G W φ' H' σ (g d S) Q → Q' v H') : PostL G W φ H σ r Q' := by
  cases r with
  | ok d S => exact fun φ2 H2 v e s i => k d S φ2 H2 v e s i (PostE.ext (r := g d S) e h)
  | ex x S => exact h
  | bad => exact h
theorem PostE.bindS {r : ER} {env : EnvD} (re : RepE G φ H σ env) {g : D → Store → SR} {N : Ends} {Q' : VK} (h : PostS G W φ H (r.bindS env g) N)
    (k : ∀ d S φ' H' v, Ext φ H φ' H' → SOk G φ' S H' → Is G φ' H' d v → PostS G W φ' H' (g d S) N → Q' v H') : PostE G W φ H σ r Q' := by
  cases r with
  | ok d S => exact fun φ2 H2 v e s i => k d S φ2 H2 v e s i (PostS.ext (r := g d S) e h)
  | ex x S => exact fun φ2 H2 c d e s i => h φ2 H2 σ c d e s (re.ext e) i
  | bad => exact h
theorem PostL.bindS {r : LR} {env : EnvD} (re : RepE G φ H σ env) {g : List D → Store → SR} {N : Ends} {Q' : List V → Hp → Prop} (h : PostS G W φ H (r.bindS env g) N)
    (k : ∀ d S φ' H' v, Ext φ H φ' H' → SOk G φ' S H' → IsL G φ' H' d v → PostS G W φ' H' (g d S) N → Q' v H') : PostL G W φ H σ r Q' := by
  cases r with
  | ok d S => exact fun φ2 H2 v e s i => k d S φ2 H2 v e s i (PostS.ext (r := g d S) e h)
  | ex x S => exact fun φ2 H2 c d e s i => h φ2 H2 σ c d e s (re.ext e) i
  | bad => exact h
theorem PostE.now {d : D} {S : Store} {v : V} {Q : VK} (h : PostE G W φ H σ (.ok d S) Q) (s : SOk G φ S H) (i : Is G φ H d v) : Q v H := h φ H v .refl s i
theorem PostL.now {d : List D} {S : Store} {v : List V} {Q : List V → Hp → Prop} (h : PostL G W φ H σ (.ok d S) Q) (s : SOk G φ S H) (i : IsL G φ H d v) : Q v H := h φ H v .refl s i
end

/-! ### the judgements -/
def DE (G : Glb) (X : Cx) (W : WX) (e : Expr) (f : EM) : Prop :=
  ∃ t, PE X e t ∧ ∀ σ H env φ S Q, SOk G φ S H → RepE G φ H σ env → PostE G W φ H σ (f env S) Q → t σ H Q
/-- a test -/
def PostT (G : Glb) (W : WX) (φ : Fi) (H : Hp) (σ : St) (r : ER) (Q : Bool → Hp → Prop) : Prop := PostE G W φ H σ (r.bind fun d S => match d with | .bl b => .ok (.bl b) S | _ => .bad) (fun v H' => ∀ b, v = .bl b → Q b H')
def DT (G : Glb) (X : Cx) (W : WX) (e : Expr) (f : EM) : Prop :=
  ∃ t, PT X e t ∧ ∀ σ H env φ S Q, SOk G φ S H → RepE G φ H σ env → PostT G W φ H σ (f env S) Q → t σ H Q
def DW (G : Glb) (X : Cx) (W : WX) (e : Expr) (f : EM) : Prop :=
  ∃ t, PW X e t ∧ ∀ σ H env φ S Q, SOk G φ S H → RepE G φ H σ env → PostT G W φ H σ (f env S) Q → t σ H Q
def DA (G : Glb) (X : Cx) (W : WX) (es : List Expr) (f : LM) : Prop :=
  ∃ t, PA X es t ∧ ∀ σ H env φ S Q, SOk G φ S H → RepE G φ H σ env → PostL G W φ H σ (f env S) Q → t σ H Q
def DS (G : Glb) (X : Cx) (W : WX) (st : Stmt) (f : SM) : Prop :=
  ∃ t, PS X st t ∧ ∀ σ H env φ S N, SOk G φ S H → RepE G φ H σ env → PostS G W φ H (f env S) N → t N σ H
def DSs (G : Glb) (X : Cx) (W : WX) (st : List Stmt) (f : SM) : Prop :=
  ∃ t, PSs X st t ∧ ∀ σ H env φ S N, SOk G φ S H → RepE G φ H σ env → PostS G W φ H (f env S) N → t N σ H
/-- alike but at some slots -/
def Off (vs : List Nat) (σ σ' : St) : Prop := σ'.length = σ.length ∧ ∀ j, j ∉ vs → σ'[j]? = σ[j]?
/-- a target; vs: the slots that it binds -/
def DG (G : Glb) (X : Cx) (tg : Expr) (b : D → EnvD → Option EnvD) (vs : List Nat) : Prop :=
  ∃ g, PG X tg g ∧ ∀ v d σ H env env' φ Q, Is G φ H d v → RepE G φ H σ env → b d env = some env' → (∀ σ', RepE G φ H σ' env' → Off vs σ σ' → Q σ' H) → g v σ H Q
def DGs (G : Glb) (X : Cx) (tgs : List Expr) (b : List D → EnvD → Option EnvD) (vs : List Nat) : Prop :=
  ∃ g, PGs X tgs g ∧ ∀ v d σ H env env' φ Q, IsL G φ H d v → RepE G φ H σ env → b d env = some env' → (∀ σ', RepE G φ H σ' env' → Off vs σ σ' → Q σ' H) → g v σ H Q

section
variable {G : Glb} {X : Cx} {W : WX}

/-! ### names and constants -/
def eVar (i : Nat) : EM := fun env S => match env[i]? with
  | some (some d) => .ok d S
  | _ => .bad
def eC (d : D) : EM := fun _ S => .ok d S
theorem de_var (i : Nat) {x : Str} {pos : Pos} (hN : X.N[i]? = some x := by rfl) (hv : Vis X.env.scope x := by first | exact Or.inl rfl | exact Or.inr (Or.inl rfl) | exact Or.inr (Or.inr rfl)) (hd : (x == ("__debug__" : Str)) = false := by decide)
    (hcd : (x == ("__classdict__" : Str)) = false := by decide) : DE G X W (.Name x pos) (eVar i) :=
  ⟨_, pe_var hN hv hd hcd, fun σ H env φ S Q s r h => by
    unfold eVar at h
    cases e : env[i]? with
    | none => rw [e] at h; exact h.elim
    | some o =>
      cases o with
      | none => rw [e] at h; exact h.elim
      | some d =>
        rw [e] at h
        obtain ⟨v, hv, k⟩ := r.2 i d e
        exact ⟨v, hv, h.now s k⟩⟩
theorem de_int {i : Int} {j pos} : DE G X W (.Constant (.int i) j pos) (eC (.int i)) := ⟨_, pe_int, fun _ _ _ _ _ _ s _ h => h.now s rfl⟩
theorem de_bl {i : Bool} {j pos} : DE G X W (.Constant (.bool i) j pos) (eC (.bl i)) := ⟨_, pe_bl, fun _ _ _ _ _ _ s _ h => h.now s rfl⟩
theorem de_non {j pos} : DE G X W (.Constant .none j pos) (eC .non) := ⟨_, pe_non, fun _ _ _ _ _ _ s _ h => h.now s rfl⟩
theorem de_str {x : Str} {j pos} : DE G X W (.Constant (.str x) j pos) (eC (.str x)) := ⟨_, pe_str, fun _ _ _ _ _ _ s _ h => h.now s rfl⟩
/-- a constant of the module: a number, a text, a truth, a tuple or list of such -/
theorem de_glob {x : Str} {d : D} {v : V} {u : Value} {pos : Pos} (hg : Gl X x) (hm : X.mg x = some u) (r : RelV v u) (hi : ∀ φ H, Is G φ H d v) (hd : (x == ("__debug__" : Str)) = false := by decide) : DE G X W (.Name x pos) (eC d) :=
  ⟨_, pe_glob hg hm r hd, fun _ _ _ _ _ _ s _ h => h.now s (hi _ _)⟩

/-! ### arguments -/
def lNil : LM := fun _ S => .ok [] S
def lCons (f : EM) (g : LM) : LM := fun env S => (f env S).bindL fun d S => (g env S).bind fun ds S => .ok (d :: ds) S
theorem da_nil : DA G X W [] lNil := ⟨_, pa_nil, fun _ _ _ _ _ _ s _ h => h.now s rfl⟩
theorem da_cons {e : Expr} {es : List Expr} {f : EM} {g : LM} (ha : DE G X W e f) (hb : DA G X W es g) (hs : starEach (e :: es) X.env = (false, eval e X.env) :: starEach es X.env := by rfl) : DA G X W (e :: es) (lCons f g) := by
  obtain ⟨ta, pa, qa⟩ := ha
  obtain ⟨tb, pb, qb⟩ := hb
  refine ⟨_, pa_cons pa pb hs, fun σ H env φ S Q s r h => ?_⟩
  refine qa σ H env φ S _ s r (PostE.bindL h fun d S1 φ1 H1 v e1 s1 i1 h1 => ?_)
  refine qb σ H1 env φ1 S1 _ s1 (r.ext e1) (PostL.bind h1 fun ds S2 φ2 H2 vs e2 s2 i2 h2 => ?_)
  exact h2.now s2 (.cons (i1.ext e2) i2)

/-! ### operators -/
/-- an operator by values -/
def DOp (G : Glb) (X : Cx) (f : Value → Value → Sem Value) (g : D → D → Store → ER) : Prop :=
  ∃ r, OpR X f r ∧ ∀ W φ S H σ dx dy x y Q, SOk G φ S H → Is G φ H dx x → Is G φ H dy y → PostE G W φ H σ (g dx dy S) Q → r x y H Q
def eOp (g : D → D → Store → ER) (a b : EM) : EM := fun env S => (a env S).bind fun x S => (b env S).bind fun y S => g x y S
theorem op_of {t ta tb : TE} {r : R2} {g : D → D → Store → ER} {fa fb : EM} (ha : ∀ σ H env φ S Q, SOk G φ S H → RepE G φ H σ env → PostE G W φ H σ (fa env S) Q → ta σ H Q)
    (hb : ∀ σ H env φ S Q, SOk G φ S H → RepE G φ H σ env → PostE G W φ H σ (fb env S) Q → tb σ H Q)
    (hr : ∀ W φ S H σ dx dy x y Q, SOk G φ S H → Is G φ H dx x → Is G φ H dy y → PostE G W φ H σ (g dx dy S) Q → r x y H Q) :
    ∀ σ H env φ S Q, SOk G φ S H → RepE G φ H σ env → PostE G W φ H σ (eOp g fa fb env S) Q → tOp r ta tb σ H Q := fun σ H env φ S Q s re h => by
  refine ha σ H env φ S _ s re (PostE.bind h fun d S1 φ1 H1 v e1 s1 i1 h1 => ?_)
  refine hb σ H1 env φ1 S1 _ s1 (re.ext e1) (PostE.bind h1 fun d2 S2 φ2 H2 v2 e2 s2 i2 h2 => ?_)
  exact hr W φ2 S2 H2 σ d d2 v v2 Q s2 (i1.ext e2) i2 h2
theorem de_op {op : Operator} {a b : Expr} {pos : Pos} {g : D → D → Store → ER} {fa fb : EM} (ho : DOp G X (binaryOp op) g) (ha : DE G X W a fa) (hb : DE G X W b fb) : DE G X W (.BinOp a op b pos) (eOp g fa fb) := by
  obtain ⟨r, hr, q⟩ := ho
  obtain ⟨ta, pa, qa⟩ := ha
  obtain ⟨tb, pb, qb⟩ := hb
  exact ⟨_, pe_op hr pa pb, op_of (t := ta) qa qb q⟩
theorem de_cmp {op : CmpOp} {a b : Expr} {pos : Pos} {g : D → D → Store → ER} {fa fb : EM} (ho : DOp G X (compareOp op) g) (ha : DE G X W a fa) (hb : DE G X W b fb) (hm : behindInMarks op b = false := by first | exact nomark _ | rfl) : DE G X W (.Compare a [op] [b] pos) (eOp g fa fb) := by
  obtain ⟨r, hr, q⟩ := ho
  obtain ⟨ta, pa, qa⟩ := ha
  obtain ⟨tb, pb, qb⟩ := hb
  exact ⟨_, pe_cmpR hr pa pb hm, op_of (t := ta) qa qb q⟩
theorem PostT.of {r : ER} {φ : Fi} {H : Hp} {σ : St} {Q : Bool → Hp → Prop} (h : PostT G W φ H σ r Q) : PostE G W φ H σ r fun x H' => ∃ k, x = .bl k ∧ Q k H' := by
  unfold PostT at h
  refine PostE.bind h fun d S φ' H' v e s i k => ?_
  cases d with
  | bl b =>
    have q := k.now s (show Is G φ' H' (.bl b) (.bl b) from rfl)
    exact ⟨b, i, q b rfl⟩
  | _ => exact False.elim k
theorem dt_cmp {op : CmpOp} {a b : Expr} {pos : Pos} {g : D → D → Store → ER} {fa fb : EM} (ho : DOp G X (compareOp op) g) (ha : DE G X W a fa) (hb : DE G X W b fb) (hm : behindInMarks op b = false := by first | exact nomark _ | rfl) : DT G X W (.Compare a [op] [b] pos) (eOp g fa fb) := by
  obtain ⟨r, hr, q⟩ := ho
  obtain ⟨ta, pa, qa⟩ := ha
  obtain ⟨tb, pb, qb⟩ := hb
  exact ⟨_, pt_cmpR hr pa pb hm, fun σ H env φ S Q s re h => op_of (t := ta) qa qb q σ H env φ S _ s re h.of⟩
/-- any expression that gives a truth, as a test -/
theorem dt_val {e : Expr} {f : EM} (h : DE G X W e f) (he : ∀ whole, isTrue e X.env whole = (do let v ← whole; standAt e.pos; holding [v] (truthy v)) := by intro _; rfl) : DT G X W e f := by
  obtain ⟨t, p, q⟩ := h
  refine ⟨_, pt_val p he, fun σ H env φ S Q s re hq => ?_⟩
  exact q σ H env φ S _ s re hq.of
theorem IsL.empty {φ : Fi} {H : Hp} {ds : List D} {xs : List V} (h : IsL G φ H ds xs) : (!ds.isEmpty) = !xs.isEmpty := by
  cases ds with
  | nil => cases (show xs = [] from h); rfl
  | cons d ds => obtain ⟨x, r, rfl, _⟩ := h; rfl
/-! ### and, or, not, if else -/
def eAnd (a b : EM) : EM := fun env S => (a env S).bind fun d S => match d with | .bl true => b env S | .bl false => .ok (.bl false) S | _ => .bad
def eOr (a b : EM) : EM := fun env S => (a env S).bind fun d S => match d with | .bl true => .ok (.bl true) S | .bl false => b env S | _ => .bad
def eNot (a : EM) : EM := fun env S => (a env S).bind fun d S => match d with | .bl b => .ok (.bl (!b)) S | _ => .bad
def eIf (c a b : EM) : EM := fun env S => (c env S).bind fun d S => match d with | .bl true => a env S | .bl false => b env S | _ => .bad
theorem de_one {op : BoolOp} {a : Expr} {pos : Pos} {f : EM} (h : DE G X W a f) : DE G X W (.BoolOp op [a] pos) f := let ⟨_, p, q⟩ := h; ⟨_, pe_one p, q⟩
theorem de_and {a b : Expr} {rest : List Expr} {pos : Pos} {fa fb : EM} (ha : DE G X W a fa) (hb : DE G X W (.BoolOp .And (b :: rest) pos) fb) : DE G X W (.BoolOp .And (a :: b :: rest) pos) (eAnd fa fb) := by
  obtain ⟨ta, pa, qa⟩ := ha
  obtain ⟨tb, pb, qb⟩ := hb
  refine ⟨_, pe_and pa pb, fun σ H env φ S Q s re h => ?_⟩
  refine qa σ H env φ S _ s re (PostE.bind h fun d S1 φ1 H1 v e1 s1 i1 h1 => ?_)
  cases d with
  | bl k =>
    refine ⟨k, i1, ?_⟩
    cases k with
    | true => exact iteT (qb σ H1 env φ1 S1 _ s1 (re.ext e1) h1)
    | false => exact iteF (h1.now s1 rfl)
  | _ => exact False.elim h1
theorem de_not {a : Expr} {pos : Pos} {fa : EM} (ha : DE G X W a fa) : DE G X W (.UnaryOp .Not a pos) (eNot fa) := by
  obtain ⟨ta, pa, qa⟩ := ha
  refine ⟨_, pe_not pa, fun σ H env φ S Q s re h => ?_⟩
  refine qa σ H env φ S _ s re (PostE.bind h fun d S1 φ1 H1 v e1 s1 i1 h1 => ?_)
  cases d with
  | bl k => exact ⟨k, i1, h1.now s1 rfl⟩
  | _ => exact False.elim h1
theorem PostT.bind {r : ER} {g : D → Store → ER} {φ : Fi} {H : Hp} {σ : St} {Q Q' : Bool → Hp → Prop} (h : PostT G W φ H σ (r.bind g) Q)
    (k : ∀ b S φ' H', Ext φ H φ' H' → SOk G φ' S H' → PostT G W φ' H' σ (g (.bl b) S) Q → Q' b H') (nb : ∀ d S, (∀ b, d ≠ .bl b) → g d S = .bad) : PostT G W φ H σ r Q' := by
  cases r with
  | ok d S =>
    cases d with
    | bl b =>
      intro φ2 H2 v e s i b' eb
      cases (show v = .bl b from i)
      cases eb
      exact k b S φ2 H2 e s (PostE.ext e h)
    | _ =>
      have z : PostT G W φ H σ (g _ S) Q := h
      rw [nb _ _ (fun b q => by cases q)] at z
      exact False.elim z
  | ex x S => exact h
  | bad => exact h
theorem PostT.now {b : Bool} {S : Store} {φ : Fi} {H : Hp} {σ : St} {Q : Bool → Hp → Prop} (h : PostT G W φ H σ (.ok (.bl b) S) Q) (s : SOk G φ S H) : Q b H := h φ H (.bl b) .refl s rfl b rfl
theorem dt_not {a : Expr} {pos : Pos} {fa : EM} (ha : DT G X W a fa) : DT G X W (.UnaryOp .Not a pos) (eNot fa) := by
  obtain ⟨ta, pa, qa⟩ := ha
  refine ⟨_, pt_not pa, fun σ H env φ S Q s re h => ?_⟩
  refine qa σ H env φ S _ s re (PostT.bind h (fun b S1 φ1 H1 e1 s1 h1 => PostT.now h1 s1) fun d S q => ?_)
  cases d with
  | bl b => exact absurd rfl (q b)
  | _ => rfl
theorem dw_or1 {a : Expr} {pos : Pos} {f : EM} (h : DT G X W a f) : DW G X W (.BoolOp .Or [a] pos) f := let ⟨_, p, q⟩ := h; ⟨_, pw_or1 p, q⟩
theorem dw_or {a b : Expr} {rest : List Expr} {pos : Pos} {fa fb : EM} (ha : DT G X W a fa) (hb : DW G X W (.BoolOp .Or (b :: rest) pos) fb) : DW G X W (.BoolOp .Or (a :: b :: rest) pos) (eOr fa fb) := by
  obtain ⟨ta, pa, qa⟩ := ha
  obtain ⟨tb, pb, qb⟩ := hb
  refine ⟨_, pw_or pa pb, fun σ H env φ S Q s re h => ?_⟩
  refine qa σ H env φ S _ s re (PostT.bind h (fun b S1 φ1 H1 e1 s1 h1 => ?_) fun d S q => ?_)
  · cases b with
    | true => exact iteT (h1.now s1)
    | false => exact iteF (qb σ H1 env φ1 S1 _ s1 (re.ext e1) h1)
  · cases d with
    | bl b => exact absurd rfl (q b)
    | _ => rfl
theorem DW.t {e : Expr} {f : EM} (h : DW G X W e f) : DT G X W e f := let ⟨_, p, q⟩ := h; ⟨_, p.pt, q⟩
/-! ### tuples and lists -/
/-- a length that may be; how it is decided stays shut (the kernel would count) -/
def sz (n : Nat) : Prop := n ≤ 16777216
noncomputable instance {n : Nat} : Decidable (sz n) := Classical.propDecidable _
noncomputable def eTup (f : LM) : EM := fun env S => (f env S).bindE fun ds S => if sz ds.length then .ok (.tup ds) S else .bad
noncomputable def eLst (f : LM) : EM := fun env S => (f env S).bindE fun ds S => if sz ds.length then .ok (.lst ds) S else .bad
/-- a list that is kept as a cell -/
noncomputable def eLstM (f : LM) : EM := fun env S => (f env S).bindE fun ds S => if sz ds.length then .ok (.loc S.length) (S ++ [.lst ds]) else .bad
theorem tup_new {φ : Fi} {H : Hp} {S : Store} {σ : St} {ds : List D} {xs : List V} {Q : VK} (s : SOk G φ S H) (i : IsL G φ H ds xs) (h : PostE G W φ H σ (.ok (.tup ds) S) Q) {p : Addr} (hp : H p = none) : Q (.ref p) (upd H p (.tup xs)) :=
  h φ _ _ (.laid hp) (s.laid hp) ⟨p, xs, rfl, .inl ⟨s.fresh hp, .inl upd_same⟩, i.ext (.laid hp)⟩
theorem lst_new {φ : Fi} {H : Hp} {S : Store} {σ : St} {ds : List D} {xs : List V} {Q : VK} (s : SOk G φ S H) (i : IsL G φ H ds xs) (h : PostE G W φ H σ (.ok (.lst ds) S) Q) {p : Addr} (hp : H p = none) : Q (.ref p) (upd H p (.lst xs)) :=
  h φ _ _ (.laid hp) (s.laid hp) ⟨p, xs, rfl, .inl ⟨s.fresh hp, .inl upd_same⟩, i.ext (.laid hp)⟩
theorem lst_newM {φ : Fi} {H : Hp} {S : Store} {σ : St} {ds : List D} {xs : List V} {Q : VK} (s : SOk G φ S H) (i : IsL G φ H ds xs) (h : PostE G W φ H σ (.ok (.loc S.length) (S ++ [.lst ds])) Q) {p : Addr} (hp : H p = none) : Q (.ref p) (upd H p (.lst xs)) :=
  h (φ.add p) _ _ (.newCell s hp) (s.newCell hp ⟨xs, upd_same, i.ext (.newCell s hp)⟩) ⟨p, by rw [← s.len]; simp [Fi.add], rfl⟩
theorem sizeLine_is {n : Nat} (h : n ≤ 16777216) : n ≤ sizeLine := by rw [sizeLine_eq]; exact h
theorem de_tup {es : List Expr} {x1} {pos : Pos} {f : LM} (h : DA G X W es f) : DE G X W (.Tuple es x1 pos) (eTup f) := by
  obtain ⟨t, p, q⟩ := h
  refine ⟨_, pe_tup p, fun σ H env φ S Q s re hq => ?_⟩
  refine q σ H env φ S _ s re (PostL.bindE hq fun ds S1 φ1 H1 xs e1 s1 i1 h1 => ?_)
  by_cases hl : sz ds.length
  · rw [if_pos hl] at h1
    exact ⟨by rw [← i1.length]; exact sizeLine_is hl, fun p hp => tup_new s1 i1 h1 hp⟩
  · rw [if_neg hl] at h1; exact h1.elim
theorem de_lst {es : List Expr} {pos : Pos} {f : LM} (h : DA G X W es f) : DE G X W (.List es pos) (eLst f) := by
  obtain ⟨t, p, q⟩ := h
  refine ⟨_, pe_lst p, fun σ H env φ S Q s re hq => ?_⟩
  refine q σ H env φ S _ s re (PostL.bindE hq fun ds S1 φ1 H1 xs e1 s1 i1 h1 => ?_)
  by_cases hl : sz ds.length
  · rw [if_pos hl] at h1
    exact ⟨by rw [← i1.length]; exact sizeLine_is hl, fun p hp => lst_new s1 i1 h1 hp⟩
  · rw [if_neg hl] at h1; exact h1.elim
theorem de_lstM {es : List Expr} {pos : Pos} {f : LM} (h : DA G X W es f) : DE G X W (.List es pos) (eLstM f) := by
  obtain ⟨t, p, q⟩ := h
  refine ⟨_, pe_lst p, fun σ H env φ S Q s re hq => ?_⟩
  refine q σ H env φ S _ s re (PostL.bindE hq fun ds S1 φ1 H1 xs e1 s1 i1 h1 => ?_)
  by_cases hl : sz ds.length
  · rw [if_pos hl] at h1
    exact ⟨by rw [← i1.length]; exact sizeLine_is hl, fun p hp => lst_newM s1 i1 h1 hp⟩
  · rw [if_neg hl] at h1; exact h1.elim

/-! ### statements -/
def sSkip : SM := fun e S => .nx e S
def sSeq (a b : SM) : SM := fun e S => (a e S).seq b
theorem dss_nil : DSs G X W [] sSkip := ⟨_, pss_nil, fun σ H env φ S N s re h => h φ H σ .refl s re⟩
theorem dss_cons {st : Stmt} {rest : List Stmt} {f g : SM} (ha : DS G X W st f) (hb : DSs G X W rest g) : DSs G X W (st :: rest) (sSeq f g) := by
  obtain ⟨t, p, q⟩ := ha
  obtain ⟨u, p', q'⟩ := hb
  refine ⟨_, pss_cons p p', fun σ H env φ S N s re h => ?_⟩
  refine q σ H env φ S _ s re ?_
  unfold sSeq at h
  cases hr : f env S with
  | nx e S1 =>
    rw [hr] at h
    exact fun φ1 H1 σ1 e1 s1 r1 => q' σ1 H1 e φ1 S1 _ s1 r1 (PostS.ext e1 h)
  | rt d S1 => rw [hr] at h; exact h
  | bk d S1 => rw [hr] at h; exact h
  | ct d S1 => rw [hr] at h; exact h
  | ex x d S1 => rw [hr] at h; exact h
  | bad => rw [hr] at h; exact h
theorem dss_one {st : Stmt} {f : SM} (ha : DS G X W st f) : DSs G X W [st] f := let ⟨_, p, q⟩ := ha; ⟨_, pss_one p, q⟩
def sBk : SM := fun e S => .bk e S
def sCt : SM := fun e S => .ct e S
def sRet (f : EM) : SM := fun e S => (f e S).bindS e fun d S => .rt d S
def sRetN : SM := fun e S => .rt .non S
def sDrop (f : EM) : SM := fun e S => (f e S).bindS e fun _ S => .nx e S
theorem ds_ret {e : Expr} {pos : Pos} {f : EM} (h : DE G X W e f) : DS G X W (.Return (some e) pos) (sRet f) := by
  obtain ⟨t, p, q⟩ := h
  refine ⟨_, ps_ret p, fun σ H env φ S N s re h => ?_⟩
  exact q σ H env φ S _ s re (PostE.bindS re h fun d S1 φ1 H1 v e1 s1 i1 h1 => h1 φ1 H1 v .refl s1 i1)
theorem ds_expr {e : Expr} {pos : Pos} {f : EM} (h : DE G X W e f) (hs : swapsWith e none pos.line X.env = pure false := by rfl) : DS G X W (.Expr e pos) (sDrop f) := by
  obtain ⟨t, p, q⟩ := h
  refine ⟨_, ps_expr p hs, fun σ H env φ S N s re h => ?_⟩
  exact q σ H env φ S _ s re (PostE.bindS re h fun d S1 φ1 H1 v e1 s1 i1 h1 => h1 φ1 H1 σ .refl s1 (re.ext e1))
def sIf (c : EM) (a b : SM) : SM := fun e S => (c e S).bindS e fun d S => match d with | .bl true => a e S | .bl false => b e S | _ => .bad
theorem ds_if {c : Expr} {a b : List Stmt} {pos : Pos} {fc : EM} {fa fb : SM} (hc : DT G X W c fc) (ha : DSs G X W a fa) (hb : DSs G X W b fb) : DS G X W (.If c a b pos) (sIf fc fa fb) := by
  obtain ⟨tc, pc, qc⟩ := hc
  obtain ⟨ta, pa, qa⟩ := ha
  obtain ⟨tb, pb, qb⟩ := hb
  refine ⟨_, ps_if pc pa pb, fun σ H env φ S N s re h => ?_⟩
  unfold sIf at h
  refine qc σ H env φ S _ s re ?_
  cases hr : fc env S with
  | ok d S1 =>
    rw [hr] at h
    cases d with
    | bl k =>
      intro φ1 H1 v e s1 i b eb
      cases (show v = .bl k from i)
      cases eb
      cases k with
      | true => exact iteT (qa σ H1 env φ1 S1 _ s1 (re.ext e) (PostS.ext e h))
      | false => exact iteF (qb σ H1 env φ1 S1 _ s1 (re.ext e) (PostS.ext e h))
    | _ => exact False.elim h
  | ex x S1 =>
    rw [hr] at h
    exact fun φ2 H2 c d e s i => h φ2 H2 σ c d e s (re.ext e) i
  | bad => rw [hr] at h; exact h

/-! ### targets, assignments -/
def bName (i : Nat) : D → EnvD → Option EnvD := fun d env => some (env.set i (some d))
theorem dg_name {i : Nat} {x : Str} {pos : Pos} (hN : X.N.Nodup) (hi : X.N[i]? = some x) (hx : Loc X.env.scope x) (hf : X.fn x = true ∨ X.env.scope.names.lookup x = some .local := by first | exact .inl rfl | exact .inr rfl) : DG G X (.Name x pos) (bName i) [i] :=
  ⟨_, pg_name hN hi hx hf, fun v d σ H env env' φ Q i1 r e k => by
    cases e
    refine k _ (r.set i1 i) ⟨by simp, fun j hj => ?_⟩
    rw [List.getElem?_set_ne (fun z => hj (by simp [z]))]⟩
def bNil : List D → EnvD → Option EnvD := fun ds env => match ds with | [] => some env | _ => none
def bCons (b : D → EnvD → Option EnvD) (c : List D → EnvD → Option EnvD) : List D → EnvD → Option EnvD := fun ds env => match ds with | [] => none | d :: ds => (b d env).bind (c ds)
def bTup (b : List D → EnvD → Option EnvD) : D → EnvD → Option EnvD := fun d env => match d with | .tup ds => b ds env | _ => none
theorem dgs_nil : DGs G X [] bNil [] := ⟨_, pgs_nil, fun v d σ H env env' φ Q i1 r e k => by
  cases d with
  | nil =>
    cases (show v = [] from i1)
    cases e
    exact ⟨rfl, k σ r ⟨rfl, fun _ _ => rfl⟩⟩
  | cons _ _ => cases e⟩
theorem dgs_cons {e : Expr} {es : List Expr} {b : D → EnvD → Option EnvD} {c : List D → EnvD → Option EnvD} {vs ws : List Nat} (h1 : DG G X e b vs) (h2 : DGs G X es c ws) (hs : List.map (fun x => x.snd) (assignEach (e :: es) X.env) = assign e X.env :: List.map (fun x => x.snd) (assignEach es X.env) := by rfl) : DGs G X (e :: es) (bCons b c) (vs ++ ws) := by
  obtain ⟨g, p, q⟩ := h1
  obtain ⟨g', p', q'⟩ := h2
  refine ⟨_, pgs_cons p p' hs, fun v d σ H env env' φ Q i1 r e k => ?_⟩
  cases d with
  | nil => cases e
  | cons d ds =>
    obtain ⟨x, xs, rfl, i2, i3⟩ := i1
    obtain ⟨env1, e1, e2⟩ := Option.bind_eq_some_iff.mp (show (b d env).bind (c ds) = some env' from e)
    refine ⟨x, xs, rfl, q x d σ H env env1 φ _ i2 r e1 fun σ1 r1 o1 => ?_⟩
    exact q' xs ds σ1 H env1 env' φ Q i3 r1 e2 fun σ2 r2 o2 => k σ2 r2 ⟨o2.1.trans o1.1, fun j hj => (o2.2 j fun z => hj (List.mem_append_right _ z)).trans (o1.2 j fun z => hj (List.mem_append_left _ z))⟩
def BLen (n : Nat) (b : List D → EnvD → Option EnvD) : Prop := ∀ ds env env', b ds env = some env' → ds.length = n
theorem blen_nil : BLen 0 bNil := fun ds env env' e => by
  cases ds with
  | nil => rfl
  | cons _ _ => cases e
theorem blen_cons {n : Nat} {b : D → EnvD → Option EnvD} {c : List D → EnvD → Option EnvD} (h : BLen n c) : BLen (n + 1) (bCons b c) := fun ds env env' e => by
  cases ds with
  | nil => cases e
  | cons d ds =>
    obtain ⟨env1, e1, e2⟩ := Option.bind_eq_some_iff.mp (show (b d env).bind (c ds) = some env' from e)
    simp [h _ _ _ e2]
theorem dg_tup {es : List Expr} {k n : Nat} {pos : Pos} {b : List D → EnvD → Option EnvD} {vs : List Nat} (hc : X.calm = true) (hK : X.K = G.K) (h : DGs G X es b vs) (hb : BLen n b)
    (hn : (assignEach es X.env).length = n := by rfl) (hst : (assignEach es X.env).findIdx? (·.1) = none := by rfl) : DG G X (.Tuple es k pos) (bTup b) vs := by
  obtain ⟨g, p, q⟩ := h
  refine ⟨_, pg_tup (n := n) hc p hn hst, fun v d σ H env env' φ Q i1 r e k => ?_⟩
  cases d with
  | tup ds =>
    obtain ⟨a, xs, rfl, rt, il⟩ := i1
    exact ⟨a, xs, rfl, by rw [hK]; exact rt.seq, by rw [← il.length]; exact hb _ _ _ e, q xs ds σ H env env' φ Q il r e k⟩
  | _ => cases e
def sAsg (f : EM) (b : D → EnvD → Option EnvD) : SM := fun e S => (f e S).bindS e fun d S => match b d e with | some e' => .nx e' S | none => .bad
theorem ds_asg {tg e : Expr} {pos : Pos} {f : EM} {b : D → EnvD → Option EnvD} {vs : List Nat} (he : DE G X W e f) (hg : DG G X tg b vs) (hs : swapsWithSole [tg] e pos.line X.env = pure false := by rfl) (hw : swappedStores [tg] e X.env = pure none := by rfl)
    (h1 : List.map (fun x => x.snd) (assignEach [tg] X.env) = [assign tg X.env] := by rfl) : DS G X W (.Assign [tg] e pos) (sAsg f b) := by
  obtain ⟨t, p, q⟩ := he
  obtain ⟨g, p', q'⟩ := hg
  refine ⟨_, ps_asg p p' hs hw h1, fun σ H env φ S N s re h => ?_⟩
  refine q σ H env φ S _ s re (PostE.bindS re h fun d S1 φ1 H1 v e1 s1 i1 h1 => ?_)
  cases hb : b d env with
  | none => rw [hb] at h1; exact h1.elim
  | some env' =>
    rw [hb] at h1
    exact q' v d σ H1 env env' φ1 _ i1 (re.ext e1) hb fun σ' r' _ => h1 φ1 H1 σ' .refl s1 r'
/-- x = e -/
theorem ds_set {i : Nat} {x : Str} {e : Expr} {pos pos' : Pos} {f : EM} (hN : X.N.Nodup) (hi : X.N[i]? = some x) (hx : Loc X.env.scope x) (he : DE G X W e f) (hs : swapsWith e (some (.Name x pos')) pos.line X.env = pure false := by rfl)
    (hf : X.fn x = true ∨ X.env.scope.names.lookup x = some .local := by first | exact .inl rfl | exact .inr rfl) : DS G X W (.Assign [.Name x pos'] e pos) (sAsg f (bName i)) := by
  obtain ⟨t, p, q⟩ := he
  refine ⟨_, ps_set hN hi hx p hs hf, fun σ H env φ S N s re h => ?_⟩
  refine q σ H env φ S _ s re (PostE.bindS re h fun d S1 φ1 H1 v e1 s1 i1 h1 => ?_)
  exact h1 φ1 H1 _ .refl s1 ((re.ext e1).set i1 i)
end
end DL
end
section
/-! == and != of nested lists and dicts that hold the same. -/
namespace PySem.SeqAt
open AutoSeq1 (wpAny_loadPart')
open MeetsSeq MeetsSeq2 MeetsSeq3 SeqRoads2
section
variable {prog : Program} {w : World}
theorem own_ne_loopIn (l b : Addr) (items items2 : Array Value) (n n2 : Nat) (dd dd2 : Option Addr) (sl sl2 : Array (Option Value)) (hsz : items.size = items2.size) (e : Nat → Bool) (k : Nat) :
    ∀ i : Nat, items.size - i = k → MeetsIn prog w (Builtin.«list.__eq__.loop» ⟨[.ref l, .ref b, rawInt i, rawInt 3], []⟩)
      (fun A R s => s.heap.get? l = some { cls := .type "list", dict := dd, data := .seq items n, slots := sl } ∧ s.heap.get? b = some { cls := .type "list", dict := dd2, data := .seq items2 n2, slots := sl2 } ∧
        (∀ j (h1 : j < items.size) (h2 : j < items2.size), EqP prog w A.in1 s items[j] items2[j] (e j)) ∧
        R (.ok (.ret (.bool (!((List.range items.size).drop i).all e)))) s) := by
  induction k with
  | zero =>
    intro i hk A R s h
    obtain ⟨hp, g, d, tk, os⟩ := s; obtain ⟨hl, hb, he, h⟩ := h
    wp_walk using wpAny_loadPart' hl, wpAny_loadPart' hb
    have hi1 : items[((i : Nat) : Int).toNat]? = none := by simp; omega
    have hi2 : items2[((i : Nat) : Int).toNat]? = none := by simp; omega
    have hd : (List.range items.size).drop i = [] := by simp; omega
    rw [hd] at h
    rw [hi1, hi2]
    wp_walk using wpAny_loadPart' hl, wpAny_loadPart' hb
    show R (.ok (.ret (.bool (items.size != items2.size)))) _
    rw [hsz]
    simpa using h
  | succ k ih =>
    intro i hk A R s h
    obtain ⟨hp, g, d, tk, os⟩ := s; obtain ⟨hl, hb, he, h⟩ := h
    wp_walk using wpAny_loadPart' hl, wpAny_loadPart' hb
    have hlt : i < items.size := by omega
    have hlt2 : i < items2.size := by omega
    have hi1 : items[((i : Nat) : Int).toNat]? = some items[i] := by simp [hlt]
    have hi2 : items2[((i : Nat) : Int).toNat]? = some items2[i] := by simp [hlt2]
    have hd : (List.range items.size).drop i = i :: (List.range items.size).drop (i + 1) := by simp [List.drop_eq_getElem_cons, hlt]
    have hc : ((i : Int) + 1) = ((i + 1 : Nat) : Int) := by push_cast; rfl
    rw [hd, List.all_cons] at h
    rw [hi1, hi2]
    refine wpAny_bind (he i hlt hlt2 _ _ ?_)
    cases hb' : e i with
    | true =>
      rw [hb'] at h
      wp_walk
      rw [hc]
      exact ⟨plainId_quiet plain_eq_loop _, codeAny_builtin entry_eq_loop (by
        rw [Around.under_plainId plain_eq_loop _]
        exact ih (i + 1) (by omega) A R _ ⟨hl, hb, he, by simpa using h⟩)⟩
    | false =>
      rw [hb'] at h
      wp_walk using wpAny_loadPart' hl, wpAny_loadPart' hb
      rw [hi1, hi2]
      wp_walk
      simpa using h
theorem own_list_neIn (l b : Addr) (items items2 : Array Value) (n n2 : Nat) (dd dd2 : Option Addr) (sl sl2 : Array (Option Value)) (hsz : items.size = items2.size) (e : Nat → Bool) :
    MeetsIn prog w (Builtin.«list.__ne__» ⟨[.ref l, .ref b], []⟩)
      (fun A R s => s.heap.get? l = some { cls := .type "list", dict := dd, data := .seq items n, slots := sl } ∧ s.heap.get? b = some { cls := .type "list", dict := dd2, data := .seq items2 n2, slots := sl2 } ∧
        (∀ j (h1 : j < items.size) (h2 : j < items2.size), EqP prog w A.in1 s items[j] items2[j] (e j)) ∧
        R (.ok (.ret (.bool (!(List.range items.size).all e)))) s) := by
  intro A R s h
  obtain ⟨hp, g, d, tk, os⟩ := s; obtain ⟨hl, hb, he, h⟩ := h
  have f3 := AutoSeq1.sub_list_list
  have hne : ¬ (items.size != items2.size) = true := by simp [hsz]
  wp_walk using wpAny_loadPart' hl, wpAny_loadPart' hb
  exact ⟨plainId_quiet plain_eq_loop _, codeAny_builtin entry_eq_loop (by
    rw [Around.under_plainId plain_eq_loop _]
    exact own_ne_loopIn l b items items2 n n2 dd dd2 sl sl2 hsz e _ 0 rfl A R _ ⟨hl, hb, he, by simpa using h⟩)⟩
theorem rcNeP_lists {A : Around} {s : Shared} {l b : Addr} {items items2 : Array Value} {e : Nat → Bool} (hl : s.heap.IsList l items) (hb : s.heap.IsList b items2) (hsz : items.size = items2.size) (hu : A.units < cLine)
    (he : ∀ j (h1 : j < items.size) (h2 : j < items2.size), EqP prog w A.in1 s items[j] items2[j] (e j)) (E Q : Value → Shared → Prop) (h : Q (.bool (!(List.range items.size).all e)) s) : wpAny (model prog w) A (richCompare .NotEq (.ref l) (.ref b)) Q E s := by
  obtain ⟨⟨cls, dd, data, sl⟩, ho, hc, n, hd⟩ := id hl
  obtain ⟨⟨cls2, dd2, data2, sl2⟩, ho2, hc2, n2, hd2⟩ := id hb
  simp only at hc hd hc2 hd2
  subst hc hd hc2 hd2
  have ta : s.TypeIs (.ref l) "list" := ⟨_, ho, rfl⟩
  have tb : s.TypeIs (.ref b) "list" := ⟨_, ho2, rfl⟩
  exact wpAny_richCompare_same_room (op := .NotEq) ta tb F.slot_list_ne (call_meetsIn F.slot_list_ne ta F.entry_list_ne (F.args_list_ne_2 _ _) (own_list_neIn l b items items2 n n2 dd dd2 sl sl2 hsz e)
    ⟨ho, ho2, he, show Value.bool (!(List.range items.size).all e) ≠ Value.notImplemented ∧ Q (.bool (!(List.range items.size).all e)) s from ⟨(fun x => nomatch x), h⟩⟩) hu
end
end PySem.SeqAt
namespace PySem.W
open PySem PySem.SeqAt PyProof.Rows
section
variable {prog : Program} {w : World} {A : Around} {s : Shared} {K : Type} [DecidableEq K] {knd : KeyKind prog w K}
theorem rcNeP_dicts {a b : Addr} {ka kb : List (K × Value)} {r : Bool} (ha : (a == sysModules) = false) (hb : (b == sysModules) = false)
    (da : s.heap.DictOf knd a ka) (db : s.heap.DictOf knd b kb) (hu : A.units < cLine) (hits : ka.length = kb.length → KeqHitsP prog w A.in1 s kb ka r) (E Q : Value → Shared → Prop) (h : Q (.bool (!(ka.length == kb.length && r))) s) : wpAny (model prog w) A (richCompare .NotEq (.ref a) (.ref b)) Q E s := by
  refine wpAny_richCompare_same_room (op := .NotEq) da.typeIs db.typeIs PySem.F.slot_dict_ne (wpAny_call_entry PySem.F.slot_dict_ne da.typeIs PySem.F.entry_dict_ne ?_ (PySem.F.args_dict_ne_2 _ _)) hu
  show wpAny _ _ (Builtin.Dict.dictSlotArgs "__ne__" ⟨[.ref a, .ref b], []⟩ >>= _) _ _ s
  refine wpAny_bind ?_
  unfold Builtin.Dict.dictSlotArgs
  refine wpAny_bind (wpAny_notOrdered_dict da.typeIs ?_)
  show wpAny _ _ (pure (Value.ref a, Value.ref b)) _ _ s
  refine wpAny_pure ?_
  refine wpAny_bind (wpAny_isInstance (T := "dict") db.typeIs PySem.F.sub_dict_dict ?_)
  simp only [Bool.not_true, Bool.false_eq_true, if_false]
  refine wpAny_bind (wpAny_pure (wpAny_bind (wpAny_pure ?_)))
  refine wpAny_bind (samePairsP ha hb da db hits ?_)
  refine wpAny_pure ⟨_, rfl, ?_, ?_⟩
  · exact fun x => nomatch x
  · simpa using h
end
end PySem.W
namespace L2
open PySem PySem.Spec PyProof.Rows
/-- two things that hold the same, of nesting below n -/
def EqW (K : PySem.W.Frag) (H : Hp) : Nat → V → V → Prop
  | 0 => fun _ _ => False
  | n + 1 => fun x y => (∃ p, Dp K H x p ∧ Dp K H y p ∧ SeqAt.shaped p = true ∧ PyData.eqv p p = true) ∨ (∃ a b xs ys, x = .ref a ∧ y = .ref b ∧ SqL K H a xs ∧ SqL K H b ys ∧ Paired (EqW K H n) xs ys) ∨
      ∃ a b ks ls, x = .ref a ∧ y = .ref b ∧ Rd H a (.dK ks) ∧ Rd H b (.dK ls) ∧ ks.map (·.1) = ls.map (·.1) ∧ Paired (EqW K H n) (ks.map (·.2)) (ls.map (·.2))
/-- two lists, two dicts -/
def EqT (K : PySem.W.Frag) (H : Hp) (n : Nat) (x y : V) : Prop := (∃ a b xs ys, x = .ref a ∧ y = .ref b ∧ SqL K H a xs ∧ SqL K H b ys ∧ Paired (EqW K H n) xs ys) ∨
      ∃ a b ks ls, x = .ref a ∧ y = .ref b ∧ Rd H a (.dK ks) ∧ Rd H b (.dK ls) ∧ ks.map (·.1) = ls.map (·.1) ∧ Paired (EqW K H n) (ks.map (·.2)) (ls.map (·.2))
theorem valV_mem {ls : List (Key × V)} (nd : (ls.map (·.1)).Nodup) : ∀ {k : Key} {u : V}, (k, u) ∈ ls → valV ls k = some u := by
  induction ls with
  | nil => intro k u h; simp at h
  | cons p ls ih =>
    intro k u h
    rw [List.map_cons, List.nodup_cons] at nd
    rcases List.mem_cons.mp h with e | h
    · subst e
      exact valV_pos rfl
    · rw [valV_neg fun e => nd.1 (by rw [e]; exact List.mem_map.mpr ⟨_, h, rfl⟩)]
      exact ih nd.2 h
theorem paired_zip {F : V → V → Prop} : ∀ {ks ls : List (Key × V)}, ks.map (·.1) = ls.map (·.1) → Paired F (ks.map (·.2)) (ls.map (·.2)) → ∀ p ∈ ks, ∃ u, (p.1, u) ∈ ls ∧ F p.2 u
  | [], _, _, _, p, h => by simp at h
  | k :: ks, [], e, _, _, _ => by simp at e
  | k :: ks, l :: ls, e, q, p, h => by
    simp only [List.map_cons, List.cons.injEq] at e
    cases q with
    | cons r t =>
      rcases List.mem_cons.mp h with e2 | h
      · subst e2
        exact ⟨l.2, by rw [e.1]; simp, r⟩
      · obtain ⟨u, h1, h2⟩ := paired_zip e.2 t p h
        exact ⟨u, List.mem_cons_of_mem _ h1, h2⟩
theorem KV.keysV {ls : List (Key × V)} {vb : List (Key × Value)} (r : KV ls vb) : ls.map (·.1) = vb.map (·.1) := by
  unfold KV at r
  induction r with
  | nil => rfl
  | cons h _ ih => simp [h.1, ih]
section
variable {X : Cx} {pins : List (Addr × Obj)} {σ : St} {H : Hp} {s : Shared}
theorem eqT_dicts (I : Inv X pins σ H s) {A : Around} {F : V → V → Prop} (hu : A.units < cLine) (ih : ∀ x y v u, F x y → RelV x v → RelV y u → SeqAt.EqP X.prog X.w A.in1 s v u true) {a b : Addr} {ks ls : List (Key × V)} (ha : Rd H a (.dK ks)) (hb : Rd H b (.dK ls)) (ek : ks.map (·.1) = ls.map (·.1))
    (hp : Paired F (ks.map (·.2)) (ls.map (·.2))) : ∃ (ka kb : List (Key × Value)), (a == sysModules) = false ∧ (b == sysModules) = false ∧ s.heap.DictOf (mixKind X.prog X.w) a ka ∧ s.heap.DictOf (mixKind X.prog X.w) b kb ∧ PySem.W.KeqHitsP X.prog X.w A.in1 s kb ka true ∧ (ka.length == kb.length && true) = true := by
  obtain ⟨_, ya, va, ra, da⟩ := (show ObjOk X.prog X.w H s.heap a (.dK ks) from ha.ok I.hok)
  obtain ⟨_, yb, vb, rb, db⟩ := (show ObjOk X.prog X.w H s.heap b (.dK ls) from hb.ok I.hok)
  have nd : (ls.map (·.1)).Nodup := by
    obtain ⟨_, _, _, _, _, _, _, _, nd⟩ := id db
    rw [KV.keysV rb]; exact nd
  refine ⟨va, vb, ya, yb, da, db, hits_run ih rb ra (fun p hm => ?_), ?_⟩
  · obtain ⟨u, h1, h2⟩ := paired_zip ek hp p hm
    exact ⟨u, valV_mem nd h1, h2⟩
  · have e : va.length = vb.length := by
      rw [← ra.length, ← rb.length]
      simpa using congrArg List.length ek
    rw [e]; simp
theorem eqW_run (I : Inv X pins σ H s) : ∀ (n : Nat) (A : Around), A.units + n + 65 < cLine → ∀ (x y : V) (v u : Value), EqW X.K H n x y → RelV x v → RelV y u → SeqAt.EqP X.prog X.w A s v u true
  | 0, _, _, _, _, _, _, h, _, _ => (show False from h).elim
  | n + 1, A, hu, x, y, v, u, h, rx, ry => by
    have ih := eqW_run I n A.in1 (by show A.units + 1 + n + 65 < cLine; omega)
    rcases h with ⟨p, dx, dy, hs, he⟩ | ⟨a, b, xs, ys, rfl, rfl, ha, hb, hp⟩ | ⟨a, b, ks, ls, rfl, rfl, ha, hb, ek, hp⟩
    · obtain ⟨as, r1⟩ := Dp.reads I p x v dx rx
      obtain ⟨bs, r2⟩ := Dp.reads I p y u dy ry
      have q := SeqAt.eqAt_reads p p A s v u as bs r1 r2 (SeqAt.canLay_of_shaped hs) (SeqAt.canLay_of_shaped hs) (SeqAt.room_of_shaped hs (by omega))
      rw [he] at q
      exact q.eqP
    · cases (show v = Value.ref a from rx)
      cases (show u = Value.ref b from ry)
      by_cases e : a = b
      · subst e; exact (SeqAt.EqAt.same _).eqP
      · refine SeqAt.eqP_refs e fun E Q q => ?_
        obtain ⟨us, r1, p1, _⟩ := I.list ha
        obtain ⟨ws, r2, p2, _⟩ := I.list hb
        have hsz : us.toArray.size = ws.toArray.size := by
          rw [List.size_toArray, List.size_toArray, ← r1.length, ← r2.length]
          exact Paired.length hp
        refine SeqAt.rcP_lists (e := fun _ => true) p1.isList p2.isList hsz (by omega) (fun j h1 h2 => ?_) E Q ?_
        · have k := items_run ih hp r1 r2 j (by simpa using h1) (by simpa using h2)
          simpa using k
        · rw [show ((List.range us.toArray.size).all fun _ => true) = true from List.all_eq_true.mpr fun _ _ => rfl]
          exact q
    · cases (show v = Value.ref a from rx)
      cases (show u = Value.ref b from ry)
      by_cases e : a = b
      · subst e; exact (SeqAt.EqAt.same _).eqP
      · refine SeqAt.eqP_refs e fun E Q q => ?_
        obtain ⟨va, vb, ya, yb, da, db, hits, hl⟩ := eqT_dicts I (A := A) (by omega) ih ha hb ek hp
        refine PySem.W.rcP_dicts (knd := mixKind X.prog X.w) (r := true) ya yb da db (by omega) (fun _ => hits) E Q ?_
        rw [hl]; exact q
theorem eqT_run (I : Inv X pins σ H s) {A : Around} {n : Nat} (hn : n ≤ 20) (hu : A.units + 100 < cLine) {x y : V} {v u : Value} (h : EqT X.K H n x y) (rx : RelV x v) (ry : RelV y u) (E Q : Value → Shared → Prop) :
    (Q (.bool true) s → wpAny (model X.prog X.w) A (richCompare .Eq v u) Q E s) ∧ (Q (.bool false) s → wpAny (model X.prog X.w) A (richCompare .NotEq v u) Q E s) := by
  have ih := eqW_run I n A.in1 (by show A.units + 1 + n + 65 < cLine; omega)
  rcases h with ⟨a, b, xs, ys, rfl, rfl, ha, hb, hp⟩ | ⟨a, b, ks, ls, rfl, rfl, ha, hb, ek, hp⟩
  · cases (show v = Value.ref a from rx)
    cases (show u = Value.ref b from ry)
    obtain ⟨us, r1, p1, _⟩ := I.list ha
    obtain ⟨ws, r2, p2, _⟩ := I.list hb
    have hsz : us.toArray.size = ws.toArray.size := by
      rw [List.size_toArray, List.size_toArray, ← r1.length, ← r2.length]
      exact Paired.length hp
    have it : ∀ j (h1 : j < us.toArray.size) (h2 : j < ws.toArray.size), SeqAt.EqP X.prog X.w A.in1 s us.toArray[j] ws.toArray[j] true := fun j h1 h2 => by
      have k := items_run ih hp r1 r2 j (by simpa using h1) (by simpa using h2)
      simpa using k
    have al : ((List.range us.toArray.size).all fun _ => true) = true := List.all_eq_true.mpr fun _ _ => rfl
    exact ⟨fun q => SeqAt.rcP_lists (e := fun _ => true) p1.isList p2.isList hsz (by omega) it E Q (by rw [al]; exact q), fun q => SeqAt.rcNeP_lists (e := fun _ => true) p1.isList p2.isList hsz (by omega) it E Q (by rw [al]; exact q)⟩
  · cases (show v = Value.ref a from rx)
    cases (show u = Value.ref b from ry)
    obtain ⟨va, vb, ya, yb, da, db, hits, hl⟩ := eqT_dicts I (A := A) (by omega) ih ha hb ek hp
    exact ⟨fun q => PySem.W.rcP_dicts (knd := mixKind X.prog X.w) (r := true) ya yb da db (by omega) (fun _ => hits) E Q (by rw [hl]; exact q), fun q => PySem.W.rcNeP_dicts (knd := mixKind X.prog X.w) (r := true) ya yb da db (by omega) (fun _ => hits) E Q (by rw [hl]; exact q)⟩
end
section
variable {X : Cx}
def rEqT (K : PySem.W.Frag) (r : Bool) : R2 := fun x y H Q => ∃ n, n ≤ 20 ∧ EqT K H n x y ∧ Q (.bl r) H
theorem op_eqT (hu : X.A.units + 100 < cLine) : OpR X (compareOp .Eq) (rEqT X.K true) := by
  intro pins s σ H x y v u Q I rx ry ⟨n, hn, h, q⟩
  exact (eqT_run I hn hu h rx ry _ _).1 ⟨.bl true, H, I, rfl, q⟩
theorem op_neT (hu : X.A.units + 100 < cLine) : OpR X (compareOp .NotEq) (rEqT X.K false) := by
  intro pins s σ H x y v u Q I rx ry ⟨n, hn, h, q⟩
  exact (eqT_run I hn hu h rx ry _ _).2 ⟨.bl false, H, I, rfl, q⟩
end
end L2
end
section
/-! D-layer, part 2: operators, subscripts, calls of built-ins. -/
namespace DL
open PySem L2

/-- the items of a list, be it a value or a cell -/
def listD (S : Store) : D → Option (List D)
  | .lst ds => some ds
  | .loc l => match S[l]? with
    | some (.lst ds) => some ds
    | _ => none
  | _ => none
def tupD : D → Option (List D)
  | .tup ds => some ds
  | _ => none
section
variable {G : Glb} {X : Cx} {W : WX} {φ : Fi} {S : Store} {H : Hp} {σ : St}
theorem listD_sq {d : D} {v : V} {ds : List D} (s : SOk G φ S H) (i : Is G φ H d v) (e : listD S d = some ds) : ∃ a xs, v = .ref a ∧ SqL G.K H a xs ∧ IsL G φ H ds xs := by
  cases d with
  | lst es =>
    cases e
    obtain ⟨a, xs, e1, r, q⟩ := i
    exact ⟨a, xs, e1, r.seq, q⟩
  | loc l =>
    obtain ⟨a, ha, e1⟩ := i
    simp only [listD] at e
    cases hc : S[l]? with
    | none => rw [hc] at e; cases e
    | some c =>
      rw [hc] at e
      have k := s.at_ hc ha
      cases c with
      | lst es =>
        cases e
        obtain ⟨xs, hx, q⟩ := k
        exact ⟨a, xs, e1, SqL.of hx, q⟩
      | _ => cases e
  | _ => cases e
theorem tupD_sq {d : D} {v : V} {ds : List D} (i : Is G φ H d v) (e : tupD d = some ds) : ∃ a xs, v = .ref a ∧ SqT G.K H a xs ∧ IsL G φ H ds xs := by
  cases d with
  | tup es =>
    cases e
    obtain ⟨a, xs, e1, r, q⟩ := i
    exact ⟨a, xs, e1, r.seq, q⟩
  | _ => cases e

/-! ### + - * // % ** -/
theorem add_lst_any {pins : List (Addr × Obj)} {s : Shared} {xs ys : List V} {a b : Addr} {E : Value → Shared → Prop} {Q : VK} (I : Inv X pins σ H s) (ha : SqL X.K H a xs) (hb : SqL X.K H b ys) (hz : xs.length + ys.length ≤ sizeLine)
    (q : ∀ p, H p = none → Q (.ref p) (upd H p (.lst (xs ++ ys)))) : wpAny (model X.prog X.w) X.A (binaryOp .Add (.ref a) (.ref b)) (EP X pins σ Q) E s := by
  obtain ⟨i1, r1, ⟨⟨c1, d1, t1, sl1⟩, n1, g1, hc1, hd1, ht1⟩, _⟩ := I.list ha
  obtain ⟨i2, r2, ⟨⟨c2, d2, t2, sl2⟩, n2, g2, hc2, hd2, ht2⟩, _⟩ := I.list hb
  simp only at hc1 hd1 ht1 hc2 hd2 ht2
  subst hc1 hd1 ht1 hc2 hd2 ht2
  have l1 := r1.length
  have l2 := r2.length
  have hj : i1.toArray ++ i2.toArray = (i1 ++ i2).toArray := by simp
  refine concat_meets ⟨_, g1, rfl⟩ ⟨_, g2, rfl⟩ noFill_list_add seq_list_add PySem.F.slot_list_add PySem.F.entry_list_add (PySem.F.args_list_add_2 _ _) (PyProof.Rows.list_addW a b i1.toArray i2.toArray n1 n2 none none sl1 sl2 (by simp; omega)) ⟨g1, g2, ?_⟩
  rw [hj]
  exact ⟨.ref _, _, I.lnew (t' := s.toks) (r1.append r2) (by rw [List.length_append]; omega), rfl, q _ I.fresh⟩
def rCatL (K : PySem.W.Frag) : R2 := fun x y H Q => ∃ l b xs zs, x = .ref l ∧ y = .ref b ∧ SqL K H l xs ∧ SqL K H b zs ∧ xs.length + zs.length ≤ sizeLine ∧ ∀ p, H p = none → Q (.ref p) (upd H p (.lst (xs ++ zs)))
theorem op_catL : OpR X (binaryOp .Add) (rCatL X.K) := by
  rintro pins s σ H x y v u Q I rx ry ⟨l, b, xs, zs, rfl, rfl, h1, h2, hz, q⟩
  cases rx
  cases ry
  exact add_lst_any I h1 h2 hz q
noncomputable def opAdd (x y : D) (S : Store) : ER := match x, y with
  | .int i, .int j => .ok (.int (i + j)) S
  | .str a, .str b => if sz (a.length + b.length) then .ok (.str (a ++ b)) S else .bad
  | .tup a, .tup b => if sz (a.length + b.length) then .ok (.tup (a ++ b)) S else .bad
  | x, y => match listD S x, listD S y with
    | some a, some b => if sz (a.length + b.length) then .ok (.lst (a ++ b)) S else .bad
    | _, _ => .bad
theorem bad_no {φ : Fi} {H : Hp} {Q : VK} {P : Prop} (h : PostE G W φ H σ .bad Q) : P := False.elim h
theorem do_add (hK : X.K = G.K) : DOp G X (binaryOp .Add) opAdd := by
  refine ⟨_, (op_add.or op_add_str).or (op_catA.or op_catL), fun W φ S H σ dx dy x y Q s ix iy h => ?_⟩
  unfold opAdd at h
  split at h
  · cases (show x = _ from ix); cases (show y = _ from iy)
    exact .inl (.inl ⟨_, _, rfl, rfl, h.now s rfl⟩)
  · cases (show x = _ from ix); cases (show y = _ from iy)
    split at h
    · exact .inl (.inr ⟨_, _, rfl, rfl, sizeLine_is (by assumption), h.now s rfl⟩)
    · exact bad_no h
  · split at h
    · rename_i a b hl
      obtain ⟨p, xs, rfl, r1, q1⟩ := ix
      obtain ⟨p2, ys, rfl, r2, q2⟩ := iy
      refine .inr (.inl ⟨p, p2, xs, ys, rfl, rfl, by rw [hK]; exact r1.seq, by rw [hK]; exact r2.seq, by rw [← q1.length, ← q2.length]; exact sizeLine_is hl, fun e => ?_, fun _ e => ?_, fun _ _ p hp => tup_new s (q1.append q2) h hp⟩)
      · subst e
        have z : a = [] := List.eq_nil_of_length_eq_zero (by simpa using q1.length)
        subst z
        exact h.now s ⟨p2, ys, rfl, r2, q2⟩
      · subst e
        have z : b = [] := List.eq_nil_of_length_eq_zero (by simpa using q2.length)
        subst z
        rw [List.append_nil] at h
        exact h.now s ⟨p, xs, rfl, r1, q1⟩
    · exact bad_no h
  · split at h
    · split at h
      · rename_i a b e1 e2 hl
        obtain ⟨p, xs, rfl, r1, q1⟩ := listD_sq s ix e1
        obtain ⟨p2, ys, rfl, r2, q2⟩ := listD_sq s iy e2
        exact .inr (.inr ⟨p, p2, xs, ys, rfl, rfl, by rw [hK]; exact r1, by rw [hK]; exact r2, by rw [← q1.length, ← q2.length]; exact sizeLine_is hl, fun p hp => lst_new s (q1.append q2) h hp⟩)
      · exact bad_no h
    · exact bad_no h
def opI (g : Int → Int → ER) (x y : D) : ER := match x, y with
  | .int i, .int j => g i j
  | _, _ => .bad
def opSub (x y : D) (S : Store) : ER := opI (fun i j => .ok (.int (i - j)) S) x y
theorem do_sub : DOp G X (binaryOp .Sub) opSub := by
  refine ⟨_, op_sub, fun W φ S H σ dx dy x y Q s ix iy h => ?_⟩
  unfold opSub opI at h
  dsimp only at h
  split at h
  · cases (show x = _ from ix); cases (show y = _ from iy)
    exact ⟨_, _, rfl, rfl, h.now s rfl⟩
  · exact bad_no h
/-- a factor within 64 bits, or both together within a million bits -/
def mulOk (i j : Int) : Prop := i.natAbs < 18446744073709551616 ∨ j.natAbs < 18446744073709551616 ∨ i.natAbs.log2 + j.natAbs.log2 < 1000000
noncomputable instance {i j : Int} : Decidable (mulOk i j) := Classical.propDecidable _
noncomputable def opMul (x y : D) (S : Store) : ER := opI (fun i j => if mulOk i j then .ok (.int (i * j)) S else .bad) x y
theorem do_mul : DOp G X (binaryOp .Mult) opMul := by
  refine ⟨_, op_mul.or op_mulW, fun W φ S H σ dx dy x y Q s ix iy h => ?_⟩
  unfold opMul opI at h
  dsimp only at h
  split at h
  · rename_i i j
    cases (show x = _ from ix); cases (show y = _ from iy)
    split at h
    · rename_i hm
      rcases hm with hm | hm | hm
      · exact .inl ⟨_, _, rfl, rfl, .inl (by omega), h.now s rfl⟩
      · exact .inl ⟨_, _, rfl, rfl, .inr (by omega), h.now s rfl⟩
      · exact .inr ⟨_, _, rfl, rfl, hm, h.now s rfl⟩
    · exact bad_no h
  · exact bad_no h
def opMod (x y : D) (S : Store) : ER := opI (fun i j => if 0 < j then .ok (.int (i % j)) S else .bad) x y
theorem do_mod : DOp G X (binaryOp .Mod) opMod := by
  refine ⟨_, op_mod, fun W φ S H σ dx dy x y Q s ix iy h => ?_⟩
  unfold opMod opI at h
  dsimp only at h
  split at h
  · cases (show x = _ from ix); cases (show y = _ from iy)
    split at h
    · rename_i hj
      exact ⟨_, _, rfl, rfl, hj, h.now s rfl⟩
    · exact bad_no h
  · exact bad_no h
def divOk (j : Int) : Prop := 0 < j ∧ (j < 1073741824 ∨ j.natAbs.log2 < 9000)
noncomputable instance {j : Int} : Decidable (divOk j) := Classical.propDecidable _
noncomputable def opFdiv (x y : D) (S : Store) : ER := opI (fun i j => if divOk j then .ok (.int (i / j)) S else .bad) x y
theorem do_fdiv : DOp G X (binaryOp .FloorDiv) opFdiv := by
  refine ⟨_, op_fdiv.or op_fdivW, fun W φ S H σ dx dy x y Q s ix iy h => ?_⟩
  unfold opFdiv opI at h
  dsimp only at h
  split at h
  · cases (show x = _ from ix); cases (show y = _ from iy)
    split at h
    · rename_i hj
      obtain ⟨h1, h2 | h2⟩ := hj
      · exact .inl ⟨_, _, rfl, rfl, ⟨h1, h2⟩, h.now s rfl⟩
      · exact .inr ⟨_, _, rfl, rfl, ⟨h1, h2⟩, h.now s rfl⟩
    · exact bad_no h
  · exact bad_no h
def powOk (i j : Int) : Prop := 0 ≤ j ∧ j ≤ 1000000 ∧ i.natAbs < 18446744073709551616
noncomputable instance {i j : Int} : Decidable (powOk i j) := Classical.propDecidable _
noncomputable def opPow (x y : D) (S : Store) : ER := opI (fun i j => if powOk i j then .ok (.int (i ^ j.toNat)) S else .bad) x y
theorem do_pow : DOp G X (binaryOp .Pow) opPow := by
  refine ⟨_, op_pow, fun W φ S H σ dx dy x y Q s ix iy h => ?_⟩
  unfold opPow opI at h
  dsimp only at h
  split at h
  · cases (show x = _ from ix); cases (show y = _ from iy)
    split at h
    · rename_i hj
      exact ⟨_, _, rfl, rfl, ⟨hj.1, hj.2.1, Nat.lt_of_lt_of_le hj.2.2 (by decide)⟩, h.now s rfl⟩
    · exact bad_no h
  · exact bad_no h
def mulSOk (i j : Int) : Prop := i.natAbs < 18446744073709551616 ∨ j.natAbs < 18446744073709551616
noncomputable instance {i j : Int} : Decidable (mulSOk i j) := Classical.propDecidable _
noncomputable def opMulS (x y : D) (S : Store) : ER := opI (fun i j => if mulSOk i j then .ok (.int (i * j)) S else .bad) x y
def opAddI (x y : D) (S : Store) : ER := opI (fun i j => .ok (.int (i + j)) S) x y
def eNeg (f : EM) : EM := fun env S => (f env S).bind fun d S => match d with | .int i => .ok (.int (-i)) S | _ => .bad
theorem de_neg {a : Expr} {pos : Pos} {f : EM} (ha : DE G X W a f) : DE G X W (.UnaryOp .USub a pos) (eNeg f) := by
  obtain ⟨ta, pa, qa⟩ := ha
  refine ⟨_, pe_un un_neg pa, fun σ H env φ S Q s re h => ?_⟩
  refine qa σ H env φ S _ s re (PostE.bind h fun d S1 φ1 H1 v e1 s1 i1 h1 => ?_)
  cases d with
  | int i => exact ⟨i, i1, h1.now s1 rfl⟩
  | _ => exact False.elim h1

/-! ### comparisons -/
def opCmp (g : Int → Int → Bool) (x y : D) (S : Store) : ER := opI (fun i j => .ok (.bl (g i j)) S) x y
theorem do_cmp {f : Value → Value → Sem Value} {g : Int → Int → Bool} (ho : OpR X f (rI0 fun i j => .bl (g i j))) : DOp G X f (opCmp g) := by
  refine ⟨_, ho, fun W φ S H σ dx dy x y Q s ix iy h => ?_⟩
  unfold opCmp opI at h
  dsimp only at h
  split at h
  · cases (show x = _ from ix); cases (show y = _ from iy)
    exact ⟨_, _, rfl, rfl, h.now s rfl⟩
  · exact bad_no h
def opLt := opCmp fun i j => decide (i < j)
def opLe := opCmp fun i j => decide (i ≤ j)
def opGt := opCmp fun i j => decide (j < i)
def opGe := opCmp fun i j => decide (j ≤ i)
theorem do_le : DOp G X (compareOp .LtE) opLe := do_cmp op_le
theorem do_gt : DOp G X (compareOp .Gt) opGt := do_cmp op_gt
theorem do_ge : DOp G X (compareOp .GtE) opGe := do_cmp op_ge
/-- a list of plain things -/
def pyFs : List D → Option (List PyData)
  | [] => some []
  | .non :: ds => (pyFs ds).map (.none :: ·)
  | .bl b :: ds => (pyFs ds).map (.bool b :: ·)
  | .int i :: ds => (pyFs ds).map (.int i :: ·)
  | .str x :: ds => (pyFs ds).map (.str x :: ·)
  | _ :: _ => none
theorem pyFs_dp : ∀ {ds : List D} {vs : List V} {ps : List PyData}, IsL G φ H ds vs → pyFs ds = some ps → DpAll G.K H vs ps
  | [], vs, ps, i, e => by cases (show vs = [] from i); cases e; exact .nil
  | .non :: ds, vs, ps, i, e => by
    obtain ⟨x, r, rfl, p, q⟩ := i
    obtain ⟨b, e3, e4⟩ := Option.map_eq_some_iff.mp (show (pyFs ds).map (PyData.none :: ·) = some ps from e)
    subst e4; cases (show x = _ from p); exact .cons .non (pyFs_dp q e3)
  | .bl k :: ds, vs, ps, i, e => by
    obtain ⟨x, r, rfl, p, q⟩ := i
    obtain ⟨b, e3, e4⟩ := Option.map_eq_some_iff.mp (show (pyFs ds).map (PyData.bool k :: ·) = some ps from e)
    subst e4; cases (show x = _ from p); exact .cons (.bl k) (pyFs_dp q e3)
  | .int k :: ds, vs, ps, i, e => by
    obtain ⟨x, r, rfl, p, q⟩ := i
    obtain ⟨b, e3, e4⟩ := Option.map_eq_some_iff.mp (show (pyFs ds).map (PyData.int k :: ·) = some ps from e)
    subst e4; cases (show x = _ from p); exact .cons (.int k) (pyFs_dp q e3)
  | .str k :: ds, vs, ps, i, e => by
    obtain ⟨x, r, rfl, p, q⟩ := i
    obtain ⟨b, e3, e4⟩ := Option.map_eq_some_iff.mp (show (pyFs ds).map (PyData.str k :: ·) = some ps from e)
    subst e4; cases (show x = _ from p); exact .cons (.str k) (pyFs_dp q e3)
  | .tup _ :: _, _, _, _, e => nomatch e
  | .lst _ :: _, _, _, _, e => nomatch e
  | .dic _ _ :: _, _, _, _, e => nomatch e
  | .obj _ _ _ :: _, _, _, _, e => nomatch e
  | .loc _ :: _, _, _, _, e => nomatch e
  | .dct _ _ :: _, _, _, _, e => nomatch e
  | .exn _ _ _ :: _, _, _, _, e => nomatch e
  | .tpl _ :: _, _, _, _, e => nomatch e
mutual
/-- data for == -/
def D.py (S : Store) : D → Option PyData
  | .non => some .none
  | .bl b => some (.bool b)
  | .int i => some (.int i)
  | .str x => some (.str x)
  | .tup ds => (D.pys S ds).map .tuple
  | .lst ds => (D.pys S ds).map .list
  | .loc l => match S[l]? with
    | some (.lst ds) => (pyFs ds).map .list
    | _ => none
  | _ => none
def D.pys (S : Store) : List D → Option (List PyData)
  | [] => some []
  | d :: ds => (D.py S d).bind fun a => (D.pys S ds).map (a :: ·)
end
mutual
theorem D.py_dp (s : SOk G φ S H) : ∀ {d : D} {v : V} {p : PyData}, Is G φ H d v → D.py S d = some p → Dp G.K H v p
  | .non, v, p, i, e => by cases (show v = _ from i); cases e; exact .non
  | .bl b, v, p, i, e => by cases (show v = _ from i); cases e; exact .bl b
  | .int b, v, p, i, e => by cases (show v = _ from i); cases e; exact .int b
  | .str b, v, p, i, e => by cases (show v = _ from i); cases e; exact .str b
  | .tup ds, v, p, i, e => by
    obtain ⟨a, xs, rfl, r, q⟩ := i
    obtain ⟨ps, e1, e2⟩ := Option.map_eq_some_iff.mp (show (D.pys S ds).map PyData.tuple = some p from e)
    subst e2
    exact .tup r.seq (D.pys_dp s q e1)
  | .lst ds, v, p, i, e => by
    obtain ⟨a, xs, rfl, r, q⟩ := i
    obtain ⟨ps, e1, e2⟩ := Option.map_eq_some_iff.mp (show (D.pys S ds).map PyData.list = some p from e)
    subst e2
    exact .lst r.seq (D.pys_dp s q e1)
  | .dic _ _, _, _, _, e => nomatch e
  | .obj _ _ _, _, _, _, e => nomatch e
  | .dct _ _, _, _, _, e => nomatch e
  | .exn _ _ _, _, _, _, e => nomatch e
  | .tpl _, _, _, _, e => nomatch e
  | .loc l, v, p, i, e => by
    simp only [D.py] at e
    split at e
    · rename_i h
      obtain ⟨ps, e1, e2⟩ := Option.map_eq_some_iff.mp e
      subst e2
      obtain ⟨a, xs, e3, r, q⟩ := listD_sq s (show Is G φ H (.loc l) v from i) (show listD S (.loc l) = some _ by simp only [listD]; rw [h])
      subst e3
      exact .lst r (pyFs_dp q e1)
    · cases e
theorem D.pys_dp (s : SOk G φ S H) : ∀ {ds : List D} {vs : List V} {ps : List PyData}, IsL G φ H ds vs → D.pys S ds = some ps → DpAll G.K H vs ps
  | [], vs, ps, i, e => by cases (show vs = [] from i); cases e; exact .nil
  | d :: ds, vs, ps, i, e => by
    obtain ⟨x, r, rfl, p, q⟩ := i
    obtain ⟨a, e1, e2⟩ := Option.bind_eq_some_iff.mp (show ((D.py S d).bind fun a => (D.pys S ds).map (a :: ·)) = some ps from e)
    obtain ⟨b, e3, e4⟩ := Option.map_eq_some_iff.mp e2
    subst e4
    exact .cons (D.py_dp s p e1) (D.pys_dp s q e3)
end
/-- a list's cell at the outside -/
def D.pyO (S : Store) : D → Option PyData
  | .loc l => match S[l]? with
    | some (.lst ds) => (D.pys S ds).map .list
    | _ => none
  | d => D.py S d
theorem D.pyO_dp {d : D} {v : V} {p : PyData} (s : SOk G φ S H) (i : Is G φ H d v) (e : D.pyO S d = some p) : Dp G.K H v p := by
  cases d with
  | loc l =>
    simp only [D.pyO] at e
    split at e
    · rename_i h
      obtain ⟨ps, e1, e2⟩ := Option.map_eq_some_iff.mp e
      subst e2
      obtain ⟨a, xs, e3, r, q⟩ := listD_sq s (show Is G φ H (.loc l) v from i) (show listD S (.loc l) = some _ by simp only [listD]; rw [h])
      subst e3
      exact .lst r (D.pys_dp s q e1)
    · cases e
  | _ => exact D.py_dp s i e
/-- data that may be compared with the same data: lists and dicts of such, too -/
def niceE (S : Store) : Nat → D → Bool
  | 0, _ => false
  | n + 1, d => match D.py S d with
    | some p => SeqAt.shaped p && PyData.eqv p p
    | none => match d with
      | .lst ds => ds.all (niceE S n)
      | .dic _ ds => ds.all (niceE S n)
      | _ => false
theorem paired_same {F : V → V → Prop} (f : D → Bool) (st : ∀ d x y, f d = true → Is G φ H d x → Is G φ H d y → F x y) : ∀ {ds : List D} {xs ys : List V}, ds.all f = true → IsL G φ H ds xs → IsL G φ H ds ys → Paired F xs ys
  | [], xs, ys, _, i, j => by cases (show xs = [] from i); cases (show ys = [] from j); exact .nil
  | d :: ds, xs, ys, h, i, j => by
    rw [List.all_cons, Bool.and_eq_true] at h
    obtain ⟨x, r, rfl, p, q⟩ := i
    obtain ⟨y, r', rfl, p', q'⟩ := j
    exact .cons (st d x y h.1 p p') (paired_same f st h.2 q q')
theorem niceE_is (s : SOk G φ S H) : ∀ (n : Nat) (d : D) (x y : V), niceE S n d = true → Is G φ H d x → Is G φ H d y → EqW G.K H n x y
  | 0, _, _, _, h, _, _ => by cases h
  | n + 1, d, x, y, h, i, j => by
    unfold niceE at h
    cases hp : D.py S d with
    | some p =>
      rw [hp] at h
      simp only [Bool.and_eq_true] at h
      exact .inl ⟨p, D.py_dp s i hp, D.py_dp s j hp, h.1, h.2⟩
    | none =>
      rw [hp] at h
      cases d with
      | lst ds =>
        obtain ⟨a, xs, rfl, r, q⟩ := i
        obtain ⟨b, ys, rfl, r', q'⟩ := j
        exact .inr (.inl ⟨a, b, xs, ys, rfl, rfl, r.seq, r'.seq, paired_same _ (niceE_is s n) h q q'⟩)
      | dic ks ds =>
        obtain ⟨a, xs, rfl, ⟨_, r⟩, e, q⟩ := i
        obtain ⟨b, ys, rfl, ⟨_, r'⟩, e', q'⟩ := j
        exact .inr (.inr ⟨a, b, xs, ys, rfl, rfl, r, r', e.trans e'.symm, paired_same _ (niceE_is s n) h q q'⟩)
      | _ => cases h
def niceT (S : Store) (d : D) : Bool := match d with
  | .lst ds => ds.all (niceE S 8)
  | .dic _ ds => ds.all (niceE S 8)
  | _ => false
theorem niceT_is (s : SOk G φ S H) {d : D} {x y : V} (h : niceT S d = true) (i : Is G φ H d x) (j : Is G φ H d y) : EqT G.K H 8 x y := by
  cases d with
  | lst ds =>
    obtain ⟨a, xs, rfl, r, q⟩ := i
    obtain ⟨b, ys, rfl, r', q'⟩ := j
    exact .inl ⟨a, b, xs, ys, rfl, rfl, r.seq, r'.seq, paired_same _ (niceE_is s 8) h q q'⟩
  | dic ks ds =>
    obtain ⟨a, xs, rfl, ⟨_, r⟩, e, q⟩ := i
    obtain ⟨b, ys, rfl, ⟨_, r'⟩, e', q'⟩ := j
    exact .inr ⟨a, b, xs, ys, rfl, rfl, r, r', e.trans e'.symm, paired_same _ (niceE_is s 8) h q q'⟩
  | _ => cases h
open Classical in
noncomputable def eqSame (neg : Bool) (x y : D) (S : Store) : ER := if x = y ∧ niceT S x = true then .ok (.bl (!neg)) S else .bad
noncomputable def opEqB (neg : Bool) (x y : D) (S : Store) : ER := match x, y with
  | .str a, .str b => .ok (.bl (if neg then !decide (a = b) else decide (a = b))) S
  | x, y => match x.pyO S, y.pyO S with
    | some p, some q => if SeqAt.shaped p && SeqAt.shaped q then .ok (.bl (if neg then !PyData.eqv p q else PyData.eqv p q)) S else .bad
    | _, _ => eqSame neg x y S
noncomputable def opEq := opEqB false
noncomputable def opNe := opEqB true
theorem units100 {k : Nat} {A : Around} (r : Room k A) : A.units + 100 < cLine := by have := r.un; omega
theorem dec_s {a b : Str} : decide (V.str a = V.str b) = decide (a = b) := by
  by_cases e : a = b
  · subst e; simp
  · rw [decide_eq_false e, decide_eq_false (fun z => e (V.str.inj z))]
theorem do_eq (hK : X.K = G.K) (hu : X.A.units + 100 < cLine) : DOp G X (compareOp .Eq) opEq := by
  refine ⟨_, (op_eq.or (op_eqD (by omega))).or (op_eqT hu), fun W φ S H σ dx dy x y Q s ix iy h => ?_⟩
  unfold opEq opEqB at h
  split at h
  · cases (show x = _ from ix); cases (show y = _ from iy)
    exact .inl (.inl ⟨rfl, by rw [dec_s]; exact h.now s rfl⟩)
  · split at h
    · rename_i p q e1 e2
      split at h
      · rename_i hs
        simp only [Bool.and_eq_true] at hs
        exact .inl (.inr ⟨p, q, by rw [hK]; exact D.pyO_dp s ix e1, by rw [hK]; exact D.pyO_dp s iy e2, hs.1, hs.2, h.now s rfl⟩)
      · exact bad_no h
    · unfold eqSame at h
      split at h
      · rename_i hx
        obtain ⟨e, hn⟩ := hx
        subst e
        exact .inr ⟨8, by decide, by rw [hK]; exact niceT_is s hn ix iy, h.now s rfl⟩
      · exact bad_no h
theorem do_ne (hK : X.K = G.K) (hu : X.A.units + 100 < cLine) : DOp G X (compareOp .NotEq) opNe := by
  refine ⟨_, (op_ne.or (op_neD (by omega))).or (op_neT hu), fun W φ S H σ dx dy x y Q s ix iy h => ?_⟩
  unfold opNe opEqB at h
  split at h
  · cases (show x = _ from ix); cases (show y = _ from iy)
    exact .inl (.inl ⟨rfl, by rw [dec_s]; exact h.now s rfl⟩)
  · split at h
    · rename_i p q e1 e2
      split at h
      · rename_i hs
        simp only [Bool.and_eq_true] at hs
        exact .inl (.inr ⟨p, q, by rw [hK]; exact D.pyO_dp s ix e1, by rw [hK]; exact D.pyO_dp s iy e2, hs.1, hs.2, h.now s rfl⟩)
      · exact bad_no h
    · unfold eqSame at h
      split at h
      · rename_i hx
        obtain ⟨e, hn⟩ := hx
        subst e
        exact .inr ⟨8, by decide, by rw [hK]; exact niceT_is s hn ix iy, h.now s rfl⟩
      · exact bad_no h
def D.isN : D → Bool
  | .non => true
  | _ => false
theorem isN_iff {d : D} {v : V} (i : Is G φ H d v) : decide (v = .non) = d.isN := by
  cases d with
  | non => cases (show v = _ from i); rfl
  | bl b => cases (show v = _ from i); rfl
  | int b => cases (show v = _ from i); rfl
  | str b => cases (show v = _ from i); rfl
  | tup ds => obtain ⟨a, xs, rfl, _⟩ := i; rfl
  | lst ds => obtain ⟨a, xs, rfl, _⟩ := i; rfl
  | dic ks ds => obtain ⟨a, xs, rfl, _⟩ := i; rfl
  | obj c ks ds => obtain ⟨a, C, dx, fs, rfl, _⟩ := i; rfl
  | loc l => obtain ⟨a, _, rfl⟩ := i; rfl
  | dct ks ds => obtain ⟨a, xs, rfl, _⟩ := i; rfl
  | exn c ks ds => obtain ⟨a, C, d, rfl, _⟩ := i; rfl
  | tpl ds => obtain ⟨a, xs, o, rfl, _⟩ := i; rfl
def opIsN (x y : D) (S : Store) : ER := match y with | .non => .ok (.bl x.isN) S | _ => .bad
def opNotN (x y : D) (S : Store) : ER := match y with | .non => .ok (.bl (!x.isN)) S | _ => .bad
theorem do_isN : DOp G X (compareOp .Is) opIsN := by
  refine ⟨_, op_isN, fun W φ S H σ dx dy x y Q s ix iy h => ?_⟩
  cases dy with
  | non => exact ⟨iy, by rw [isN_iff ix]; exact h.now s rfl⟩
  | _ => exact bad_no h
/-- a < b < c -/
def eChain (g g' : D → D → Store → ER) (a b c : EM) : EM := fun env S => (a env S).bind fun x S => (b env S).bind fun y S => (g x y S).bind fun z S => match z with
  | .bl true => (c env S).bind fun w S => g' y w S
  | .bl false => .ok (.bl false) S
  | _ => .bad

/-! ### subscripts -/
def seqD (S : Store) (d : D) : Option (List D) := match d with
  | .tup ds => some ds
  | d => listD S d
def strAt (x : Str) (i : Int) : Option D := (atI x.cps.toList i).map fun c => .str ⟨#[c]⟩
noncomputable def opIx (x y : D) (S : Store) : ER := match x, y with
  | .str x, .int i => if sz x.length then (match strAt x i with | some d => .ok d S | none => .bad) else .bad
  | .tup ds, .int i => match atI ds i with | some d => .ok d S | none => .bad
  | x, .int i => match listD S x with
    | some ds => (match atI ds i with | some d => .ok d S | none => .bad)
    | none => .bad
  | _, _ => .bad
theorem atI_is {ds : List D} {xs : List V} {i : Int} {d : D} (q : IsL G φ H ds xs) (e : atI ds i = some d) : ∃ v, atI xs i = some v ∧ Is G φ H d v := by
  unfold atI at e ⊢
  rw [q.length] at e
  obtain ⟨j, e1, e2⟩ := Option.bind_eq_some_iff.mp e
  obtain ⟨v, e3, k⟩ := q.get e2
  exact ⟨v, by rw [e1]; exact e3, k⟩
/-! ### calls of built-ins -/
/-- a built-in by values -/
def DCall (G : Glb) (X : Cx) (f : Value) (g : List D → Store → ER) : Prop :=
  ∃ r, CallR X f r ∧ ∀ W φ S H σ ds xs Q, SOk G φ S H → IsL G φ H ds xs → PostE G W φ H σ (g ds S) Q → r xs H Q
def eCallB (g : List D → Store → ER) (f : LM) : EM := fun env S => (f env S).bindE g
theorem de_callB {id : String} {x : Str} {e : Expr} {es : List Expr} {p pos : Pos} {g : List D → Store → ER} {f : LM} (hc : DCall G X (.builtin id) g) (hg : Gl X x) (hm : X.mg x = none) (hv : bootBuiltins x = some (.builtin id)) (ha : DA G X W (e :: es) f) (hn : x ≠ "__name__" := by decide) (hdb : (x == ("__debug__" : Str)) = false := by decide)
    (he : starEach (e :: es) X.env = (false, eval e X.env) :: starEach es X.env := by rfl) (hpl : (backTo pos (starEach es X.env)).any (·.1) = false := by rfl) : DE G X W (.Call (.Name x p) (e :: es) [] pos) (eCallB g f) := by
  obtain ⟨r, hr, q⟩ := hc
  obtain ⟨t, pt, qt⟩ := ha
  refine ⟨_, pe_callB hr hg hm hv pt hn hdb he hpl, fun σ H env φ S Q s re h => ?_⟩
  exact qt σ H env φ S _ s re (PostL.bindE h fun ds S1 φ1 H1 xs e1 s1 i1 h1 => q W φ1 S1 H1 σ ds xs Q s1 i1 h1)
theorem de_callTy {T : String} {x : Str} {e : Expr} {es : List Expr} {p pos : Pos} {g : List D → Store → ER} {f : LM} (hc : DCall G X (.type T) g) (hg : Gl X x) (hm : X.mg x = none) (hv : bootBuiltins x = some (.type T)) (ha : DA G X W (e :: es) f) (hn : x ≠ "__name__" := by decide) (hdb : (x == ("__debug__" : Str)) = false := by decide)
    (he : starEach (e :: es) X.env = (false, eval e X.env) :: starEach es X.env := by rfl) (hpl : (backTo pos (starEach es X.env)).any (·.1) = false := by rfl) : DE G X W (.Call (.Name x p) (e :: es) [] pos) (eCallB g f) := by
  obtain ⟨r, hr, q⟩ := hc
  obtain ⟨t, pt, qt⟩ := ha
  refine ⟨_, pe_callTy hr hg hm hv pt hn hdb he hpl, fun σ H env φ S Q s re h => ?_⟩
  exact qt σ H env φ S _ s re (PostL.bindE h fun ds S1 φ1 H1 xs e1 s1 i1 h1 => q W φ1 S1 H1 σ ds xs Q s1 i1 h1)
theorem IsL.inv1 {d : D} {xs : List V} (h : IsL G φ H [d] xs) : ∃ x, xs = [x] ∧ Is G φ H d x := by
  obtain ⟨x, r, rfl, p, q⟩ := h
  cases (show r = [] from q)
  exact ⟨x, rfl, p⟩
theorem IsL.inv2 {d e : D} {xs : List V} (h : IsL G φ H [d, e] xs) : ∃ x y, xs = [x, y] ∧ Is G φ H d x ∧ Is G φ H e y := by
  obtain ⟨x, r, rfl, p, q⟩ := h
  obtain ⟨y, rfl, k⟩ := IsL.inv1 q
  exact ⟨x, y, rfl, p, k⟩
noncomputable def bLen (ds : List D) (S : Store) : ER := match ds with
  | [.str x] => if sz x.length then .ok (.int x.length) S else .bad
  | [d] => match seqD S d with
    | some es => .ok (.int es.length) S
    | none => .bad
  | _ => .bad
theorem seqD_sq {d : D} {v : V} {ds : List D} (s : SOk G φ S H) (i : Is G φ H d v) (e : seqD S d = some ds) : ∃ a xs, v = .ref a ∧ (SqL G.K H a xs ∨ SqT G.K H a xs) ∧ IsL G φ H ds xs := by
  unfold seqD at e
  split at e
  · obtain ⟨a, xs, e1, r, q⟩ := tupD_sq i e
    exact ⟨a, xs, e1, .inr r, q⟩
  · obtain ⟨a, xs, e1, r, q⟩ := listD_sq s i e
    exact ⟨a, xs, e1, .inl r, q⟩
theorem dc_len (hK : X.K = G.K) : DCall G X (.builtin "len") bLen := by
  refine ⟨_, call_len_seq.or call_len_str, fun W φ S H σ ds xs Q s i h => ?_⟩
  unfold bLen at h
  split at h
  · obtain ⟨x, rfl, k⟩ := IsL.inv1 i
    cases (show x = _ from k)
    split at h
    · exact .inr ⟨_, rfl, sizeLine_is (by assumption), h.now s rfl⟩
    · exact bad_no h
  · obtain ⟨x, rfl, k⟩ := IsL.inv1 i
    split at h
    · rename_i es e
      obtain ⟨a, ys, rfl, r, q⟩ := seqD_sq s k e
      refine .inl ⟨a, ys, rfl, by rw [hK]; exact r, ?_⟩
      rw [← q.length]
      exact h.now s rfl
    · exact bad_no h
  · exact bad_no h
def bII (g : Int → Int → Int) (ds : List D) (S : Store) : ER := match ds with
  | [.int i, .int j] => .ok (.int (g i j)) S
  | _ => .bad
def maxII (i j : Int) : Int := if j > i then j else i
def minII (i j : Int) : Int := if j < i then j else i
theorem dc_max2 (hc : X.calm = true) : DCall G X (.builtin "max") (bII maxII) := by
  refine ⟨_, call_max2 hc, fun W φ S H σ ds xs Q s i h => ?_⟩
  unfold bII at h
  split at h
  · obtain ⟨x, y, rfl, k, l⟩ := IsL.inv2 i
    cases (show x = _ from k); cases (show y = _ from l)
    exact ⟨_, _, rfl, h.now s rfl⟩
  · exact bad_no h
theorem dc_min2 (hc : X.calm = true) : DCall G X (.builtin "min") (bII minII) := by
  refine ⟨_, call_min2 hc, fun W φ S H σ ds xs Q s i h => ?_⟩
  unfold bII at h
  split at h
  · obtain ⟨x, y, rfl, k, l⟩ := IsL.inv2 i
    cases (show x = _ from k); cases (show y = _ from l)
    exact ⟨_, _, rfl, h.now s rfl⟩
  · exact bad_no h
def bAbs (ds : List D) (S : Store) : ER := match ds with
  | [.int i] => .ok (.int (if i < 0 then -i else i)) S
  | _ => .bad
def bInt (ds : List D) (S : Store) : ER := match ds with
  | [.int i] => .ok (.int i) S
  | [.bl b] => .ok (.int (if b then 1 else 0)) S
  | _ => .bad
def bList (ds : List D) (S : Store) : ER := match ds with
  | [d] => match seqD S d with
    | some es => .ok (.lst es) S
    | none => .bad
  | _ => .bad
def bListM (ds : List D) (S : Store) : ER := match ds with
  | [d] => match seqD S d with
    | some es => .ok (.loc S.length) (S ++ [.lst es])
    | none => .bad
  | _ => .bad
theorem dc_listM (hK : X.K = G.K) : DCall G X (.type "list") bListM := by
  refine ⟨_, call_list_of, fun W φ S H σ ds xs Q s i h => ?_⟩
  unfold bListM at h
  split at h
  · obtain ⟨x, rfl, k⟩ := IsL.inv1 i
    split at h
    · rename_i es e
      obtain ⟨a, ys, rfl, r, q⟩ := seqD_sq s k e
      exact ⟨a, ys, rfl, by rw [hK]; exact r, fun l hl => lst_newM s q h hl⟩
    · exact bad_no h
  · exact bad_no h
def bTuple (ds : List D) (S : Store) : ER := match ds with
  | [d] => match seqD S d with
    | some es => .ok (.tup es) S
    | none => .bad
  | _ => .bad
theorem dc_tuple (hK : X.K = G.K) : DCall G X (.type "tuple") bTuple := by
  refine ⟨_, call_tuple_of, fun W φ S H σ ds xs Q s i h => ?_⟩
  unfold bTuple at h
  split at h
  · obtain ⟨x, rfl, k⟩ := IsL.inv1 i
    split at h
    · rename_i es e
      unfold seqD at e
      split at e
      · obtain ⟨a, ys, rfl, r, q⟩ := id k
        cases e
        exact ⟨a, ys, rfl, .inr ⟨by rw [hK]; exact r.seq, h.now s ⟨a, ys, rfl, r, q⟩⟩⟩
      · obtain ⟨a, ys, rfl, r, q⟩ := listD_sq s k e
        exact ⟨a, ys, rfl, .inl ⟨by rw [hK]; exact r, fun l hl => tup_new s q h hl⟩⟩
    · exact bad_no h
  · exact bad_no h
/-- lists of one kind -/
def intsD : List D → Option (List Int)
  | [] => some []
  | .int i :: ds => (intsD ds).map (i :: ·)
  | _ :: _ => none
theorem intsD_is : ∀ {ds : List D} {ns : List Int}, intsD ds = some ns → ds = ns.map D.int
  | [], ns, e => by cases e; rfl
  | d :: ds, ns, e => by
    cases d with
    | int i =>
      obtain ⟨a, e1, e2⟩ := Option.map_eq_some_iff.mp (show (intsD ds).map (i :: ·) = some ns from e)
      subst e2
      rw [intsD_is e1]; rfl
    | _ => cases e
theorem intsD_map : ∀ ns : List Int, intsD (ns.map D.int) = some ns
  | [] => rfl
  | n :: ns => by simp [intsD, intsD_map ns]
def blsD : List D → Option (List Bool)
  | [] => some []
  | .bl i :: ds => (blsD ds).map (i :: ·)
  | _ :: _ => none
theorem blsD_is : ∀ {ds : List D} {ns : List Bool}, blsD ds = some ns → ds = ns.map D.bl
  | [], ns, e => by cases e; rfl
  | d :: ds, ns, e => by
    cases d with
    | bl i =>
      obtain ⟨a, e1, e2⟩ := Option.map_eq_some_iff.mp (show (blsD ds).map (i :: ·) = some ns from e)
      subst e2
      rw [blsD_is e1]; rfl
    | _ => cases e
theorem blsD_map : ∀ ns : List Bool, blsD (ns.map D.bl) = some ns
  | [] => rfl
  | n :: ns => by simp [blsD, blsD_map ns]
def bAll (ds : List D) (S : Store) : ER := match ds with
  | [d] => match (listD S d).bind blsD with
    | some bs => .ok (.bl (bs.all id)) S
    | none => .bad
  | _ => .bad
def bAny (ds : List D) (S : Store) : ER := match ds with
  | [d] => match (listD S d).bind blsD with
    | some bs => .ok (.bl (bs.any id)) S
    | none => .bad
  | _ => .bad
theorem dc_all (hc : X.calm = true) (hK : X.K = G.K) : DCall G X (.builtin "all") bAll := by
  refine ⟨_, cr_all hc, fun W φ S H σ ds xs Q s i h => ?_⟩
  unfold bAll at h
  split at h
  · obtain ⟨x, rfl, k⟩ := IsL.inv1 i
    split at h
    · rename_i bs e
      obtain ⟨es, e1, e2⟩ := Option.bind_eq_some_iff.mp e
      obtain ⟨a, ys, rfl, r, q⟩ := listD_sq s k e1
      rw [blsD_is e2] at q
      exact ⟨a, bs, rfl, by rw [hK, ← q.bls]; exact r, h.now s rfl⟩
    · exact bad_no h
  · exact bad_no h
def bSum (ds : List D) (S : Store) : ER := match ds with
  | [d] => match (listD S d).bind intsD with
    | some ns => .ok (.int ns.sum) S
    | none => .bad
  | _ => .bad
end
end DL
end
section
/-! D-layer, part 3: loops, comprehensions, more assignments, defs and their calls. -/
namespace DL
open PySem L2

section
variable {G : Glb} {X : Cx} {W : WX}
/-! ### more assignments -/
/-- a, b = e1, e2 -/
def sPar (i j : Nat) (f : LM) : SM := fun e S => (f e S).bindS e fun ds S => match ds with
  | [a, b] => .nx ((e.set i (some a)).set j (some b)) S
  | _ => .bad
theorem ds_par {i j : Nat} {x y : Str} {a b : Expr} {f : LM} {px py pt pos : Pos} {kt k2 pt2} (hc : X.calm = true) (hN : X.N.Nodup) (hi : X.N[i]? = some x) (hj : X.N[j]? = some y) (hij : i ≠ j)
    (hx : X.env.scope.names.lookup x = some .local) (hy : X.env.scope.names.lookup y = some .local) (ha : DA G X W [a, b] f)
    (hw : swappedStores [.Tuple [.Name x px, .Name y py] kt pt] (.Tuple [a, b] k2 pt2) X.env = pure (some [x, y]))
    (hs : swapsWithSole [.Tuple [.Name x px, .Name y py] kt pt] (.Tuple [a, b] k2 pt2) pos.line X.env = pure false := by rfl) :
    DS G X W (.Assign [.Tuple [.Name x px, .Name y py] kt pt] (.Tuple [a, b] k2 pt2) pos) (sPar i j f) := by
  obtain ⟨t, p, q⟩ := ha
  refine ⟨_, ps_par hc hN hi hj hij hx hy p hw hs, fun σ H env φ S N s re h => ?_⟩
  refine q σ H env φ S _ s re (PostL.bindS re h fun ds S1 φ1 H1 vs e1 s1 i1 h1 => ?_)
  match ds, h1, i1 with
  | [d, d2], h1, i1 =>
    obtain ⟨v, w, rfl, k1, k2⟩ := IsL.inv2 i1
    exact ⟨v, w, rfl, h1 φ1 H1 _ .refl s1 (((re.ext e1).set k1 i).set k2 j)⟩
  | [], h1, _ => exact False.elim h1
  | [_], h1, _ => exact False.elim h1
  | _ :: _ :: _ :: _, h1, _ => exact False.elim h1
def sPar3 (i j l : Nat) (f : LM) : SM := fun e S => (f e S).bindS e fun ds S => match ds with
  | [a, b, c] => .nx (((e.set i (some a)).set j (some b)).set l (some c)) S
  | _ => .bad
/-- x op= e -/
def sAug (i : Nat) (g : D → D → Store → ER) (f : EM) : SM := fun e S => (eOp g (eVar i) f e S).bindS e fun d S => .nx (e.set i (some d)) S
/-! ### what is walked -/
structure Feeds (G : Glb) (φ0 : Fi) (H0 : Hp) (J : It) (ds : List D) : Prop where
  go : ∀ φ S H (i : Nat) d, Kept φ0 H0 φ H → SOk G φ S H → ds[i]? = some d → J.go i H ∧ ∀ x H', J.yld i H x H' → Ext φ H φ H' ∧ SOk G φ S H' ∧ Is G φ H' d x
  stop : ∀ φ S H, Kept φ0 H0 φ H → SOk G φ S H → J.stop ds.length H
theorem Kept.trans {φ φ1 φ2 : Fi} {H H1 H2 : Hp} (a : Kept φ H φ1 H1) (b : Kept φ1 H1 φ2 H2) : Kept φ H φ2 H2 :=
  ⟨fun l x q => b.get l x (a.get l x q), fun x u n r => let ⟨n1, r1⟩ := a.rd x u n r; b.rd x u n1 r1, fun x C dx fs n r => let ⟨n1, r1⟩ := a.ins x C dx fs n r; b.ins x C dx fs n1 r1, fun x o u n r => let ⟨n1, r1⟩ := a.frz x o u n r; b.frz x o u n1 r1, fun x u n r => let ⟨n1, r1⟩ := a.ext x u n r; b.ext x u n1 r1, fun x u n r => let ⟨n1, r1⟩ := a.xd x u n r; b.xd x u n1 r1⟩
def PostI (G : Glb) (W : WX) (φ : Fi) (H : Hp) (σ : St) (r : LR) (R : It → Hp → Prop) : Prop := match r with
  | .ok ds S => ∀ φ' H' J, Ext φ H φ' H' → SOk G φ' S H' → Feeds G φ' H' J ds → R J H'
  | .ex x S => ∀ φ' H' cls dx, Ext φ H φ' H' → SOk G φ' S H' → IsX G φ' H' x cls dx → W cls dx σ H'
  | .bad => False
def DI (G : Glb) (X : Cx) (W : WX) (tg e : Expr) (f : LM) : Prop :=
  ∃ wi, PI X tg e wi ∧ ∀ σ H env φ S R, SOk G φ S H → RepE G φ H σ env → PostI G W φ H σ (f env S) R → wi σ H R
theorem feeds_list {φ : Fi} {H : Hp} {a : Addr} {xs : List V} {ds : List D} (r : RdL G φ H a xs) (q : IsL G φ H ds xs) : Feeds G φ H (Itl G.K a) ds := by
  refine ⟨fun φ2 S2 H2 i d e s hd => ?_, fun φ2 S2 H2 e s => ⟨xs, (r.kept e).seq, by rw [q.length]; exact Nat.le_refl _⟩⟩
  obtain ⟨x, hx, k⟩ := q.get hd
  refine ⟨⟨xs, x, (r.kept e).seq, hx⟩, fun y H3 ⟨e3, hy⟩ => ?_⟩
  subst e3
  have z := hy xs (r.kept e).seq
  rw [hx] at z; cases z
  exact ⟨.refl, s, k.kept e⟩
theorem feeds_tup {φ : Fi} {H : Hp} {a : Addr} {xs : List V} {ds : List D} (r : RdT G φ H a xs) (q : IsL G φ H ds xs) : Feeds G φ H (Itt G.K a) ds := by
  refine ⟨fun φ2 S2 H2 i d e s hd => ?_, fun φ2 S2 H2 e s => ⟨xs, (r.kept e).seq, by rw [q.length]; exact Nat.le_refl _⟩⟩
  obtain ⟨x, hx, k⟩ := q.get hd
  refine ⟨⟨xs, x, (r.kept e).seq, hx⟩, fun y H3 ⟨e3, hy⟩ => ?_⟩
  subst e3
  have z := hy xs (r.kept e).seq
  rw [hx] at z; cases z
  exact ⟨.refl, s, k.kept e⟩
theorem PI.or {tg e : Expr} {w1 w2 : TI} (h1 : PI X tg e w1) (h2 : PI X tg e w2) : PI X tg e (fun σ H R => w1 σ H R ∨ w2 σ H R) :=
  ⟨fun pins s σ H R I h => h.elim (h1.run pins s σ H R I) (h2.run pins s σ H R I)⟩
/-- a text's signs -/
def signsD (x : Str) : List D := x.cps.toList.map fun c => .str ⟨#[c]⟩
theorem feeds_str {φ : Fi} {H : Hp} (x : Str) : Feeds G φ H (Its x) (signsD x) := by
  refine ⟨fun φ2 S2 H2 i d e s hd => ?_, fun φ2 S2 H2 e s => by show x.cps.size ≤ (signsD x).length; simp [signsD]⟩
  unfold signsD at hd
  rw [List.getElem?_map] at hd
  obtain ⟨c, e1, e2⟩ := Option.map_eq_some_iff.mp hd
  subst e2
  rw [Array.getElem?_toList] at e1
  refine ⟨(Array.getElem?_eq_some_iff.mp e1).1, fun y H3 ⟨e3, c', e4, e5⟩ => ?_⟩
  rw [e1] at e4
  cases e4
  subst e3 e5
  exact ⟨.refl, s, rfl⟩
def iSeq (f : EM) : LM := fun env S => (f env S).bindL fun d S => match d with
  | .lst ds => .ok ds S
  | .tup ds => .ok ds S
  | .str x => .ok (signsD x) S
  | _ => .bad
theorem di_seq {tg e : Expr} {f : EM} (hK : X.K = G.K) (he : DE G X W e f) : DI G X W tg e (iSeq f) := by
  obtain ⟨t, p, q⟩ := he
  refine ⟨_, PI.or (PI.or (pi_list p) (pi_tup p)) (pi_str p), fun σ H env φ S R s re h => ?_⟩
  unfold iSeq at h
  cases hr : f env S with
  | bad => rw [hr] at h; exact False.elim h
  | ex x S1 =>
    rw [hr] at h
    exact .inl (.inl (q σ H env φ S _ s re (by rw [hr]; exact h)))
  | ok d S1 =>
    rw [hr] at h
    cases d with
    | str x =>
      refine .inr (q σ H env φ S _ s re ?_)
      rw [hr]
      intro φ1 H1 v e1 s1 i1
      exact ⟨x, i1, h φ1 H1 _ e1 s1 (feeds_str x)⟩
    | lst ds =>
      refine .inl (.inl (q σ H env φ S _ s re ?_))
      rw [hr]
      intro φ1 H1 v e1 s1 i1
      obtain ⟨a, xs, rfl, r, il⟩ := i1
      refine ⟨a, rfl, ⟨xs, by rw [hK]; exact r.seq⟩, ?_⟩
      rw [hK]
      exact h φ1 H1 _ e1 s1 (feeds_list r il)
    | tup ds =>
      refine .inl (.inr (q σ H env φ S _ s re ?_))
      rw [hr]
      intro φ1 H1 v e1 s1 i1
      obtain ⟨a, xs, rfl, r, il⟩ := i1
      refine ⟨a, rfl, ⟨xs, by rw [hK]; exact r.seq⟩, ?_⟩
      rw [hK]
      exact h φ1 H1 _ e1 s1 (feeds_tup r il)
    | _ => exact False.elim h
def rangeD (lo : Int) (n : Nat) : List D := (List.range n).map fun i => .int (lo + (i : Nat))
theorem feeds_range {φ : Fi} {H : Hp} (lo : Int) (n : Nat) : Feeds G φ H (Itr lo n) (rangeD lo n) := by
  refine ⟨fun φ2 S2 H2 i d e s hd => ?_, fun φ2 S2 H2 e s => by show n ≤ (rangeD lo n).length; simp [rangeD]⟩
  unfold rangeD at hd
  rw [List.getElem?_map] at hd
  obtain ⟨j, e1, e2⟩ := Option.map_eq_some_iff.mp hd
  obtain ⟨hl, e3⟩ := List.getElem?_eq_some_iff.mp e1
  simp at hl e3
  subst e3 e2
  refine ⟨hl, fun x H3 ⟨e4, e5⟩ => ?_⟩
  subst e4 e5
  exact ⟨.refl, s, rfl⟩
def rOk (i : Int) : Prop := -4611686018427387904 ≤ i ∧ i < 4611686018427387904
noncomputable instance {i : Int} : Decidable (rOk i) := Classical.propDecidable _
theorem rOk.lo {i : Int} (h : rOk i) : -(2 ^ 62) ≤ i := by have := h.1; omega
theorem rOk.hi {i : Int} (h : rOk i) : i < 2 ^ 62 := by have := h.2; omega
noncomputable def iRange1 (f : LM) : LM := fun env S => (f env S).bind fun ds S => match ds with
  | [.int j] => if rOk j then .ok (rangeD 0 j.toNat) S else .bad
  | _ => .bad
noncomputable def iRange2 (f : LM) : LM := fun env S => (f env S).bind fun ds S => match ds with
  | [.int i, .int j] => if rOk i ∧ rOk j then .ok (rangeD i (j - i).toNat) S else .bad
  | _ => .bad
theorem PostL.toI {φ : Fi} {H : Hp} {σ : St} {r : LR} {g : List D → Store → LR} {R : It → Hp → Prop} {Q : List V → Hp → Prop} (h : PostI G W φ H σ (r.bind g) R)
    (k : ∀ d S φ' H' v, Ext φ H φ' H' → SOk G φ' S H' → IsL G φ' H' d v → PostI G W φ' H' σ (g d S) R → Q v H') : PostL G W φ H σ r Q := by
  cases r with
  | ok d S =>
    refine fun φ2 H2 v e s i => k d S φ2 H2 v e s i ?_
    have h' : PostI G W φ H σ (g d S) R := h
    cases hg : g d S with
    | ok ds S2 => rw [hg] at h'; exact fun φ3 H3 J e3 s3 f => h' φ3 H3 J (e.trans e3) s3 f
    | ex x S2 => rw [hg] at h'; exact fun φ3 H3 c dx e3 s3 f => h' φ3 H3 c dx (e.trans e3) s3 f
    | bad => rw [hg] at h'; exact h'
  | ex x S => exact h
  | bad => exact h
theorem di_range1 {tg a : Expr} {p pos : Pos} {f : LM} (hg : Gl X "range") (hm : X.mg "range" = none) (ha : DA G X W [a] f) (hs : starEach [a] X.env = [(false, eval a X.env)] := by rfl) : DI G X W tg (.Call (.Name "range" p) [a] [] pos) (iRange1 f) := by
  obtain ⟨t, pt, q⟩ := ha
  refine ⟨_, pi_range1 hg hm pt hs, fun σ H env φ S R s re h => ?_⟩
  refine q σ H env φ S _ s re (PostL.toI h fun ds S1 φ1 H1 vs e1 s1 i1 h1 => ?_)
  split at h1
  · rename_i j
    obtain ⟨x, rfl, k⟩ := IsL.inv1 i1
    cases (show x = _ from k)
    split at h1
    · rename_i hj
      exact ⟨j, rfl, hj.lo, hj.hi, h1 φ1 H1 _ .refl s1 (feeds_range 0 j.toNat)⟩
    · exact False.elim h1
  · exact False.elim h1
theorem di_range2 {tg a b : Expr} {p pos : Pos} {f : LM} (hg : Gl X "range") (hm : X.mg "range" = none) (ha : DA G X W [a, b] f) (hs : starEach [a, b] X.env = [(false, eval a X.env), (false, eval b X.env)] := by rfl) (hs2 : starEach [b] X.env = [(false, eval b X.env)] := by rfl) : DI G X W tg (.Call (.Name "range" p) [a, b] [] pos) (iRange2 f) := by
  obtain ⟨t, pt, q⟩ := ha
  refine ⟨_, pi_range2 hg hm pt hs hs2, fun σ H env φ S R s re h => ?_⟩
  refine q σ H env φ S _ s re (PostL.toI h fun ds S1 φ1 H1 vs e1 s1 i1 h1 => ?_)
  split at h1
  · rename_i i j
    obtain ⟨x, y, rfl, k, l⟩ := IsL.inv2 i1
    cases (show x = _ from k); cases (show y = _ from l)
    split at h1
    · rename_i hij
      exact ⟨i, j, rfl, ⟨hij.1.lo, hij.1.hi, hij.2.lo, hij.2.hi⟩, h1 φ1 H1 _ .refl s1 (feeds_range i (j - i).toNat)⟩
    · exact False.elim h1
  · exact False.elim h1
/-- enumerate of a list -/
def enumD : Nat → List D → List D
  | _, [] => []
  | n, d :: ds => .tup [.int (n : Nat), d] :: enumD (n + 1) ds
theorem enumD_length : ∀ (n : Nat) (ds : List D), (enumD n ds).length = ds.length
  | _, [] => rfl
  | n, d :: ds => by simp [enumD, enumD_length (n + 1) ds]
theorem enumD_get : ∀ (n : Nat) (ds : List D) (i : Nat) (d : D), (enumD n ds)[i]? = some d → ∃ e, ds[i]? = some e ∧ d = .tup [.int ((n + i : Nat) : Int), e]
  | _, [], _, _, h => by simp [enumD] at h
  | n, d :: ds, 0, d', h => by
    simp [enumD] at h
    exact ⟨d, rfl, h.symm⟩
  | n, d :: ds, i + 1, d', h => by
    obtain ⟨e, e1, e2⟩ := enumD_get (n + 1) ds i d' (by simpa [enumD] using h)
    exact ⟨e, by simpa using e1, by rw [e2, show n + 1 + i = n + (i + 1) by omega]⟩
def iEnumD (f : LM) : LM := fun env S => (f env S).bind fun ds S => match ds with
  | [.lst ds] => .ok (enumD 0 ds) S
  | _ => .bad
/-- zip of two lists -/
def zipD : List D → List D → List D
  | d :: ds, e :: es => .tup [d, e] :: zipD ds es
  | _, _ => []
def iZipD (f : LM) : LM := fun env S => (f env S).bind fun ds S => match ds with
  | [.lst ds, .lst es] => .ok (zipD ds es) S
  | _ => .bad
/-! ### for, while -/
def forD (b : D → EnvD → Option EnvD) (body : SM) : List D → SM
  | [], e, S => .nx e S
  | d :: ds, e, S => match b d e with
    | none => .bad
    | some e1 => match body e1 S with
      | .nx e2 S2 => forD b body ds e2 S2
      | .ct e2 S2 => forD b body ds e2 S2
      | .bk e2 S2 => .nx e2 S2
      | .rt d S2 => .rt d S2
      | .ex x e2 S2 => .ex x e2 S2
      | .bad => .bad
def sFor (f : LM) (b : D → EnvD → Option EnvD) (body : SM) : SM := fun e S => (f e S).bindS e fun ds S => forD b body ds e S
theorem PostI.ofS {φ : Fi} {H : Hp} {σ : St} {env : EnvD} (re : RepE G φ H σ env) {r : LR} {g : List D → Store → SR} {N : Ends} {R : It → Hp → Prop} (h : PostS G W φ H (r.bindS env g) N)
    (k : ∀ ds S φ' H' J, Ext φ H φ' H' → SOk G φ' S H' → Feeds G φ' H' J ds → PostS G W φ' H' (g ds S) N → R J H') : PostI G W φ H σ r R := by
  cases r with
  | ok d S => exact fun φ2 H2 J e s i => k d S φ2 H2 J e s i (PostS.ext (r := g d S) e h)
  | ex x S => exact fun φ2 H2 c d e s i => h φ2 H2 σ c d e s (re.ext e) i
  | bad => exact h
theorem ds_for {tg iter : Expr} {body : List Stmt} {pos : Pos} {f : LM} {b : D → EnvD → Option EnvD} {vs : List Nat} {g : SM} (hp : PassesOwn (model X.prog X.w) X.A X.env X.xe) (hc : X.calm = true) (hi : DI G X W tg iter f) (hg : DG G X tg b vs) (hb : DSs G X W body g) (hs : ∀ x, foldedSetIterable iter X.env x = pure x := by intro _; rfl) : DS G X W (.For tg iter body [] pos) (sFor f b g) := by
  obtain ⟨wi, pI, qi⟩ := hi
  obtain ⟨tgd, pg, qg⟩ := hg
  obtain ⟨tb, pb, qb⟩ := hb
  refine ⟨_, ps_for hp hc pI pg pb hs, fun σ H env φ S N s re h => ?_⟩
  refine qi σ H env φ S _ s re (PostI.ofS re h fun ds S1 φ1 H1 J e1 s1 fd h1 => ?_)
  refine ⟨fun i m σ2 H2 => m = ds.length - i ∧ i ≤ ds.length ∧ ∃ env2 φ2 S2, Ext φ1 H1 φ2 H2 ∧ SOk G φ2 S2 H2 ∧ RepE G φ2 H2 σ2 env2 ∧ PostS G W φ2 H2 (forD b g (ds.drop i) env2 S2) N,
    ⟨ds.length, by simp, Nat.zero_le _, env, φ1, S1, .refl, s1, re.ext e1, h1⟩, ?_⟩
  rintro i m σ2 H2 ⟨rfl, hi, env2, φ2, S2, e2, s2, r2, h2⟩
  by_cases hl : i < ds.length
  · right
    have hd : ds[i]? = some ds[i] := List.getElem?_eq_getElem hl
    obtain ⟨go, gy⟩ := fd.go φ2 S2 H2 i ds[i] e2.kept s2 hd
    rw [List.drop_eq_getElem_cons hl] at h2
    refine ⟨go, fun σ' H' => i + 1 ≤ ds.length ∧ ∃ env3 φ3 S3, Ext φ1 H1 φ3 H' ∧ SOk G φ3 S3 H' ∧ RepE G φ3 H' σ' env3 ∧ PostS G W φ3 H' (forD b g (ds.drop (i + 1)) env3 S3) N, fun σ' H' w => ⟨ds.length - (i + 1), by omega, rfl, w⟩, fun x H' hy => ?_⟩
    obtain ⟨e3, s3, k3⟩ := gy x H' hy
    unfold forD at h2
    cases hb1 : b ds[i] env2 with
    | none => rw [hb1] at h2; exact False.elim h2
    | some env3 =>
      rw [hb1] at h2
      refine qg x ds[i] σ2 H' env2 env3 φ2 _ k3 (r2.ext e3) hb1 fun σ3 r3 _ => ?_
      refine qb σ3 H' env3 φ2 S2 _ s3 r3 ?_
      dsimp only at h2
      cases hg1 : g env3 S2 with
      | nx e S =>
        rw [hg1] at h2
        exact fun φ4 H4 σ4 e4 s4 r4 => ⟨by omega, _, φ4, _, (e2.trans e3).trans e4, s4, r4, PostS.ext (e3.trans e4) h2⟩
      | ct e S =>
        rw [hg1] at h2
        exact fun φ4 H4 σ4 e4 s4 r4 => ⟨by omega, _, φ4, _, (e2.trans e3).trans e4, s4, r4, PostS.ext (e3.trans e4) h2⟩
      | bk e S =>
        rw [hg1] at h2
        exact fun φ4 H4 σ4 e4 s4 r4 => h2 φ4 H4 σ4 (e3.trans e4) s4 r4
      | rt d S =>
        rw [hg1] at h2
        exact fun φ4 H4 v e4 s4 r4 => h2 φ4 H4 v (e3.trans e4) s4 r4
      | ex x e S =>
        rw [hg1] at h2
        exact fun φ4 H4 σ4 c dx e4 s4 r4 ix => h2 φ4 H4 σ4 c dx (e3.trans e4) s4 r4 ix
      | bad => rw [hg1] at h2; exact False.elim h2
  · left
    have e : i = ds.length := by omega
    subst e
    rw [List.drop_length] at h2
    exact ⟨fd.stop φ2 S2 H2 e2.kept s2, h2 φ2 H2 σ2 .refl s2 r2⟩

/-- the most turns of a while -/
def bigN : Nat := 2 ^ 64
def whileD (c : EM) (body : SM) : Nat → SM
  | 0, _, _ => .bad
  | n + 1, e, S => match c e S with
    | .ok (.bl true) S1 => match body e S1 with
      | .nx e2 S2 => whileD c body n e2 S2
      | .ct e2 S2 => whileD c body n e2 S2
      | .bk e2 S2 => .nx e2 S2
      | .rt d S2 => .rt d S2
      | .ex x e2 S2 => .ex x e2 S2
      | .bad => .bad
    | .ok (.bl false) S1 => .nx e S1
    | .ex x S1 => .ex x e S1
    | _ => .bad
def sWhile (c : EM) (body : SM) : SM := whileD c body bigN
/-! ### list comprehensions -/
def DTs (G : Glb) (X : Cx) (W : WX) (ifs : List Expr) (f : EM) : Prop :=
  ∃ t, PTs X ifs t ∧ ∀ σ H env φ S Q, SOk G φ S H → RepE G φ H σ env → PostT G W φ H σ (f env S) Q → t σ H Q
def eYes : EM := fun _ S => .ok (.bl true) S
theorem dts_nil : DTs G X W [] eYes := ⟨_, pts_nil, fun σ H env φ S Q s re h => h.now s⟩
theorem dts_one {c : Expr} {f : EM} (h : DT G X W c f) : DTs G X W [c] f := let ⟨_, p, q⟩ := h; ⟨_, pts_one p, q⟩
noncomputable def lcD (b : D → EnvD → Option EnvD) (tt elt : EM) (env : EnvD) : List D → List D → Store → LR
  | acc, [], S => .ok acc S
  | acc, d :: ds, S => match b d env with
    | none => .bad
    | some e1 => match tt e1 S with
      | .ok (.bl true) S1 => match elt e1 S1 with
        | .ok y S2 => if sz (acc.length + 1) then lcD b tt elt env (acc ++ [y]) ds S2 else .bad
        | _ => .bad
      | .ok (.bl false) S1 => lcD b tt elt env acc ds S1
      | _ => .bad
noncomputable def eLc (f : LM) (b : D → EnvD → Option EnvD) (tt elt : EM) (vs : List Nat) : EM := fun env S => (f env S).bindE fun ds S => (lcD b tt elt (wipeD env vs) [] ds S).bindE fun ys S => .ok (.lst ys) S
/-- kept as a cell -/
noncomputable def eLcM (f : LM) (b : D → EnvD → Option EnvD) (tt elt : EM) (vs : List Nat) : EM := fun env S => (f env S).bindE fun ds S => (lcD b tt elt (wipeD env vs) [] ds S).bindE fun ys S => .ok (.loc S.length) (S ++ [.lst ys])
theorem wipe_at {σ : St} {j : Nat} : ∀ {vs : List Nat}, j ∈ vs → j < σ.length → (wipe σ vs)[j]? = some none
  | v :: vs, h, hl => by
    unfold L2.wipe
    by_cases q : v = j
    · subst q
      rw [List.getElem?_set_self (by rw [wipe_length]; exact hl)]
    · rw [List.getElem?_set_ne q]
      exact wipe_at ((List.mem_cons.mp h).resolve_left fun z => q z.symm) hl
theorem wipe_off {σ σ2 : St} {vs ws : List Nat} (hs : ∀ j ∈ vs, j ∈ ws) (o : Off vs (wipe σ ws) σ2) : wipe σ2 ws = wipe σ ws := by
  apply List.ext_getElem?
  intro j
  by_cases hj : j ∈ ws
  · by_cases hl : j < σ.length
    · rw [wipe_at hj hl, wipe_at hj (by rw [o.1, wipe_length]; exact hl)]
    · rw [List.getElem?_eq_none (by rw [wipe_length, o.1, wipe_length]; omega), List.getElem?_eq_none (by rw [wipe_length]; omega)]
  · rw [wipe_out hj, o.2 j fun z => hj (hs j z)]
theorem lcD_noex {b : D → EnvD → Option EnvD} {tt elt : EM} {env : EnvD} {x : Exc} {S2 : Store} : ∀ {ds acc : List D} {S : Store}, lcD b tt elt env acc ds S = .ex x S2 → False
  | [], _, _, h => by cases h
  | d :: ds, acc, S, h => by
    unfold lcD at h
    split at h
    · cases h
    · split at h
      · split at h
        · split at h
          · exact lcD_noex h
          · cases h
        · cases h
      · exact lcD_noex h
      · cases h
/-- a state of a comprehension that fills D0, from the state ahead of it -/
structure Lk (φ1 : Fi) (H1 : Hp) (D0 : Addr) (φ2 : Fi) (H2 : Hp) : Prop where
  ext : Ext φ1 H1 ⟨φ2.c, φ1.h⟩ H2
  hid : φ2.h = D0 :: φ1.h
theorem Lk.ext' {φ1 φ2 φ3 : Fi} {H1 H2 H3 : Hp} {D0 : Addr} (l : Lk φ1 H1 D0 φ2 H2) (e : Ext φ2 H2 φ3 H3) : Lk φ1 H1 D0 φ3 H3 :=
  ⟨l.ext.trans ⟨e.pre, rfl, fun a o n h => (e.keep a o n h).imp id fun ⟨od, nh, z⟩ => ⟨od, fun q => nh (by rw [l.hid]; exact List.mem_cons_of_mem _ q), z⟩⟩, e.hid.trans l.hid⟩
theorem Lk.put {φ1 φ2 : Fi} {H1 H2 : Hp} {D0 : Addr} {o : HO} (l : Lk φ1 H1 D0 φ2 H2) (hD : H1 D0 = none) : Lk φ1 H1 D0 φ2 (upd H2 D0 o) :=
  ⟨⟨l.ext.pre, rfl, fun a u n q => by rw [upd_ne (ne_of_none q hD)]; exact l.ext.keep a u n q⟩, l.hid⟩
theorem Lk.start {φ1 : Fi} {H1 : Hp} {D0 : Addr} {o : HO} (hD : H1 D0 = none) : Lk φ1 H1 D0 (φ1.hide D0) (upd H1 D0 o) := ⟨.laid hD, rfl⟩
theorem Lk.mem {φ1 φ2 : Fi} {H1 H2 : Hp} {D0 : Addr} (l : Lk φ1 H1 D0 φ2 H2) : D0 ∈ φ2.h := by rw [l.hid]; exact List.mem_cons_self
def PostLc (G : Glb) (φ1 : Fi) (H1 : Hp) (D0 : Addr) (r : LR) (Q : Hp → Prop) : Prop := match r with
  | .ok ds S => ∀ φ' H' xs, Lk φ1 H1 D0 φ' H' → SOk G φ' S H' → H' D0 = some (.lst xs) → IsL G φ' H' ds xs → Q H'
  | _ => False
theorem lc_loop {J : It} {g : TG} {tt : TT} {te : TE} {b : D → EnvD → Option EnvD} {ft fe : EM} {vs ws : List Nat} {σ : St} {env : EnvD} {φ1 : Fi} {H1 : Hp} {S1 : Store} {ds : List D} {D0 : Addr} {Qd : Hp → Prop} {WB WB' : WX}
    (qg : ∀ v d σ H env env' φ Q, Is G φ H d v → RepE G φ H σ env → b d env = some env' → (∀ σ', RepE G φ H σ' env' → Off vs σ σ' → Q σ' H) → g v σ H Q)
    (qt : ∀ σ H env φ S Q, SOk G φ S H → RepE G φ H σ env → PostT G WB φ H σ (ft env S) Q → tt σ H Q)
    (qe : ∀ σ H env φ S Q, SOk G φ S H → RepE G φ H σ env → PostE G WB' φ H σ (fe env S) Q → te σ H Q)
    (hs : ∀ j ∈ vs, j ∈ ws) (s1 : SOk G φ1 S1 H1) (re : RepE G φ1 H1 σ env) (fd : Feeds G φ1 H1 J ds) (hD : H1 D0 = none)
    (h : PostLc G φ1 H1 D0 (lcD b ft fe (wipeD env ws) [] ds S1) Qd) :
    ∃ Wt : Nat → Nat → Hp → Prop, (∃ m, Wt 0 m (upd H1 D0 (.lst []))) ∧ ∀ i m H, Wt i m H →
      (J.stop i H ∧ Qd H) ∨ (J.go i H ∧ ∃ Nx : Hp → Prop, (∀ H', Nx H' → ∃ m', m' < m ∧ Wt (i + 1) m' H') ∧ ∀ x H', J.yld i H x H' → g x (wipe σ ws) H' fun σ2 H2 => wipe σ2 ws = wipe σ ws ∧ tt σ2 H2 fun b H3 =>
        if b = true then te σ2 H3 fun y H4 => ∃ acc, H4 D0 = some (.lst acc) ∧ acc.length < sizeLine ∧ Nx (upd H4 D0 (.lst (acc ++ [y]))) else Nx H3) := by
  let Go : Nat → Hp → Prop := fun i H2 => i ≤ ds.length ∧ ∃ φ2 S2 accD acc, Kept φ1 H1 φ2 H2 ∧ Lk φ1 H1 D0 φ2 H2 ∧ SOk G φ2 S2 H2 ∧ H2 D0 = some (.lst acc) ∧ IsL G φ2 H2 accD acc ∧ PostLc G φ1 H1 D0 (lcD b ft fe (wipeD env ws) accD (ds.drop i) S2) Qd
  refine ⟨fun i m H2 => m = ds.length - i ∧ Go i H2, ⟨ds.length, by simp, Nat.zero_le _, φ1.hide D0, S1, [], [], Kept.hide hD, .start hD, s1.hide hD, upd_same, rfl, h⟩, ?_⟩
  rintro i m H2 ⟨rfl, hi, φ2, S2, accD, acc, k2, l2, s2, hacc, il, h2⟩
  by_cases hl : i < ds.length
  · right
    have hd : ds[i]? = some ds[i] := List.getElem?_eq_getElem hl
    obtain ⟨go, gy⟩ := fd.go φ2 S2 H2 i ds[i] k2 s2 hd
    rw [List.drop_eq_getElem_cons hl] at h2
    refine ⟨go, Go (i + 1), fun H' w => ⟨ds.length - (i + 1), by omega, rfl, w⟩, fun x H' hy => ?_⟩
    obtain ⟨e3, s3, k3⟩ := gy x H' hy
    have nc : D0 ∉ φ2.c := (s2.hid D0 l2.mem).1
    have r3 : RepE G φ2 H' (wipe σ ws) (wipeD env ws) := ((re.wipe ws).kept k2).ext e3
    unfold lcD at h2
    cases hb1 : b ds[i] (wipeD env ws) with
    | none => rw [hb1] at h2; exact False.elim h2
    | some env3 =>
      rw [hb1] at h2
      dsimp only at h2
      refine qg x ds[i] _ H' _ env3 φ2 _ k3 r3 hb1 fun σ3 r4 o3 => ⟨wipe_off hs o3, ?_⟩
      refine qt σ3 H' env3 φ2 S2 _ s3 r4 ?_
      cases ht : ft env3 S2 with
      | bad => rw [ht] at h2; exact False.elim h2
      | ex x S3 => rw [ht] at h2; exact False.elim h2
      | ok d S3 =>
        rw [ht] at h2
        cases d with
        | bl k =>
          intro φ4 H4 v e4 s4 i4 b' eb
          cases (show v = .bl k from i4)
          cases eb
          have e24 := e3.trans e4
          cases k with
          | false =>
            exact iteF ⟨by omega, φ4, S3, accD, acc, k2.trans e24.kept, l2.ext' e24, s4, e24.keepE nc hacc, il.ext e24, h2⟩
          | true =>
            refine iteT (qe σ3 H4 env3 φ4 S3 _ s4 (r4.ext e4) ?_)
            dsimp only at h2
            cases he : fe env3 S3 with
            | bad => rw [he] at h2; exact False.elim h2
            | ex x S5 => rw [he] at h2; exact False.elim h2
            | ok y S5 =>
              rw [he] at h2
              dsimp only at h2
              by_cases hz : sz (accD.length + 1)
              · rw [if_pos hz] at h2
                intro φ5 H5 v5 e5 s5 i5
                have e25 := e24.trans e5
                have l5 := l2.ext' e25
                have kh : Kept φ5 H5 φ5 (upd H5 D0 (.lst (acc ++ [v5]))) := .hidden l5.mem
                exact ⟨acc, e25.keepE nc hacc, by rw [← il.length, sizeLine_eq]; exact hz, by omega, φ5, S5, accD ++ [y], acc ++ [v5], (k2.trans e25.kept).trans kh, l5.put hD, s5.hidden l5.mem, upd_same, ((il.ext e25).append (.one i5)).kept kh, h2⟩
              · rw [if_neg hz] at h2; exact False.elim h2
        | _ => exact False.elim h2
  · left
    have e : i = ds.length := by omega
    subst e
    rw [List.drop_length] at h2
    exact ⟨fd.stop φ2 S2 H2 k2 s2, h2 φ2 H2 acc l2 s2 hacc il⟩
theorem PostI.ofE {φ : Fi} {H : Hp} {σ : St} {r : LR} {g : List D → Store → ER} {Q : VK} {R : It → Hp → Prop} (h : PostE G W φ H σ (r.bindE g) Q)
    (k : ∀ ds S φ' H' J, Ext φ H φ' H' → SOk G φ' S H' → Feeds G φ' H' J ds → PostE G W φ' H' σ (g ds S) Q → R J H') : PostI G W φ H σ r R := by
  cases r with
  | ok d S => exact fun φ2 H2 J e s i => k d S φ2 H2 J e s i (PostE.ext (r := g d S) e h)
  | ex x S => exact h
  | bad => exact h
/-- the finished list is no more hidden -/
theorem Lk.done {φ1 φ2 : Fi} {H1 H2 : Hp} {D0 : Addr} {S S0 : Store} {ds : List D} {xs : List V} (l : Lk φ1 H1 D0 φ2 H2) (s1 : SOk G φ1 S0 H1) (hD : H1 D0 = none) (s : SOk G φ2 S H2) (hx : H2 D0 = some (.lst xs)) (il : IsL G φ2 H2 ds xs) :
    SOk G ⟨φ2.c, φ1.h⟩ S H2 ∧ Is G ⟨φ2.c, φ1.h⟩ H2 (.lst ds) (.ref D0) := by
  have e : φ2 = (Fi.mk φ2.c φ1.h).hide D0 := by
    obtain ⟨c, h⟩ := φ2
    have := l.hid
    simp only at this
    subst this
    rfl
  have nc : D0 ∉ φ2.c := (s.hid D0 l.mem).1
  rw [e] at s il
  exact ⟨s.show_, D0, xs, rfl, .inl ⟨⟨nc, s1.freshh hD⟩, .inl hx⟩, il.kept Kept.show_⟩
/-! canonical readings: they hang on no context -/
def tOf (G : Glb) (W : WX) (f : EM) : TE := fun σ H Q => ∃ env φ S, SOk G φ S H ∧ RepE G φ H σ env ∧ PostE G W φ H σ (f env S) Q
def tOfT (G : Glb) (W : WX) (f : EM) : TT := fun σ H Q => ∃ env φ S, SOk G φ S H ∧ RepE G φ H σ env ∧ PostT G W φ H σ (f env S) Q
def gOf (G : Glb) (b : D → EnvD → Option EnvD) (vs : List Nat) : TG := fun v σ H Q => ∃ d env env' φ, Is G φ H d v ∧ RepE G φ H σ env ∧ b d env = some env' ∧ ∀ σ', RepE G φ H σ' env' → Off vs σ σ' → Q σ' H
theorem DE.can {e : Expr} {f : EM} (h : DE G X W e f) : PE X e (tOf G W f) := by
  obtain ⟨t, p, q⟩ := h
  exact ⟨fun pins s σ H Q I ⟨env, φ, S, so, r, z⟩ => p.run pins s σ H Q I (q σ H env φ S Q so r z)⟩
theorem DTs.can {e : List Expr} {f : EM} (h : DTs G X W e f) : PTs X e (tOfT G W f) := by
  obtain ⟨t, p, q⟩ := h
  exact ⟨fun pins s σ H Q I ⟨env, φ, S, so, r, z⟩ => p.run pins s σ H Q I (q σ H env φ S Q so r z)⟩
theorem DG.can {e : Expr} {b : D → EnvD → Option EnvD} {vs : List Nat} (h : DG G X e b vs) : PG X e (gOf G b vs) := by
  obtain ⟨g, p, q⟩ := h
  exact ⟨fun pins s σ H v u Q I r ⟨d, env, env', φ, i, re, z, k⟩ => p.run pins s σ H v u Q I r (q v d σ H env env' φ Q i re z k)⟩
/-- nothing leaves a comprehension -/
abbrev W0 : WX := fun _ _ _ _ => False
section
variable {elt tg iter : Expr} {ifs : List Expr} {scope : Scope} {own : List (Str × Nat)} {pos : Pos} {f : LM} {b : D → EnvD → Option EnvD} {ft fe : EM} {vs : List Nat}
theorem lc_read {wi : TI} (qi : ∀ σ H env φ S R, SOk G φ S H → RepE G φ H σ env → PostI G W φ H σ (f env S) R → wi σ H R) (hvs : ∀ j ∈ vs, j ∈ own.map (·.2)) {Q : VK} {R : ER → Prop}
    {σ : St} {H : Hp} {env : EnvD} {φ : Fi} {S : Store} (s : SOk G φ S H) (re : RepE G φ H σ env) (h : PostE G W φ H σ (eLc f b ft fe (own.map (·.2)) env S) Q) :
    tLc wi (gOf G b vs) (tOfT G W0 ft) (tOf G W0 fe) (own.map (·.2)) σ H Q := by
  refine qi σ H env φ S _ s re (PostI.ofE h fun ds S1 φ1 H1 J e1 s1 fd h1 D0 hD => ?_)
  refine lc_loop (env := env) (fun v d σ H env env' φ Q i r z k => ⟨d, env, env', φ, i, r, z, k⟩) (fun σ H env φ S Q s r z => ⟨env, φ, S, s, r, z⟩) (fun σ H env φ S Q s r z => ⟨env, φ, S, s, r, z⟩) hvs s1 (re.ext e1) fd hD ?_
  cases hr : lcD b ft fe (wipeD env (own.map (·.2))) [] ds S1 with
  | ok ys S2 =>
    rw [hr] at h1
    intro φ2 H2 xs l2 s2 hx il
    obtain ⟨s3, i3⟩ := l2.done s1 hD s2 hx il
    exact h1 _ H2 _ l2.ext s3 i3
  | ex x S2 => exact absurd hr (fun z => lcD_noex z)
  | bad => rw [hr] at h1; exact h1
theorem de_lc (hc : X.calm = true) (hN : X.N.Nodup) (hi : DI G X W tg iter f) (ok : BlkOk X.N X.env.scope scope own)
    (hg : ∀ (s : Shared) (H : Hp) (C : Addr) (cl : List (Str × Addr)) (fp : List Addr), DG G (X.blk s H scope (compEnvC scope cl C X.env) fp) tg b vs)
    (ht : ∀ (s : Shared) (H : Hp) (C : Addr) (cl : List (Str × Addr)) (fp : List Addr), DTs G (X.blk s H scope (compEnvC scope cl C X.env) fp) W0 ifs ft)
    (he : ∀ (s : Shared) (H : Hp) (C : Addr) (cl : List (Str × Addr)) (fp : List Addr), DE G (X.blk s H scope (compEnvC scope cl C X.env) fp) W0 elt fe)
    (hvs : ∀ j ∈ vs, j ∈ own.map (·.2)) (hs : ∀ x, foldedSetIterable iter X.env x = pure x := by intro _; rfl) : DE G X W (.ListComp elt [⟨tg, iter, ifs, 0⟩] scope pos) (eLc f b ft fe (own.map (·.2))) := by
  obtain ⟨wi, pI, qi⟩ := hi
  exact ⟨_, pe_lc hc hN pI ok (fun s H C cl fp => (hg s H C cl fp).can) (fun s H C cl fp => (ht s H C cl fp).can) (fun s H C cl fp => (he s H C cl fp).can) hs, fun σ H env φ S Q s re h => lc_read (R := fun _ => True) qi hvs s re h⟩
theorem ds_setLc {i : Nat} {y : Str} {py spos : Pos} (hc : X.calm = true) (hN : X.N.Nodup) (hi : DI G X W tg iter f) (ok : BlkOk X.N X.env.scope scope own)
    (hg : ∀ (s : Shared) (H : Hp) (C : Addr) (cl : List (Str × Addr)) (fp : List Addr), DG G (X.blk s H scope (compEnvC scope cl C X.env) fp) tg b vs)
    (ht : ∀ (s : Shared) (H : Hp) (C : Addr) (cl : List (Str × Addr)) (fp : List Addr), DTs G (X.blk s H scope (compEnvC scope cl C X.env) fp) W0 ifs ft)
    (he : ∀ (s : Shared) (H : Hp) (C : Addr) (cl : List (Str × Addr)) (fp : List Addr), DE G (X.blk s H scope (compEnvC scope cl C X.env) fp) W0 elt fe)
    (hvs : ∀ j ∈ vs, j ∈ own.map (·.2)) (hy : X.N[i]? = some y) (hyl : X.env.scope.names.lookup y = some .local)
    (hsw : swapsWith (.ListComp elt [⟨tg, iter, ifs, 0⟩] scope pos) (some (.Name y py)) spos.line X.env = pure true) (hs : ∀ x, foldedSetIterable iter X.env x = pure x := by intro _; rfl) :
    DS G X W (.Assign [.Name y py] (.ListComp elt [⟨tg, iter, ifs, 0⟩] scope pos) spos) (sAsg (eLc f b ft fe (own.map (·.2))) (bName i)) := by
  obtain ⟨wi, pI, qi⟩ := hi
  refine ⟨_, ps_setLc hc hN hy hyl hsw pI ok (fun s H C cl fp => (hg s H C cl fp).can) (fun s H C cl fp => (ht s H C cl fp).can) (fun s H C cl fp => (he s H C cl fp).can) hs, fun σ H env φ S N s re h => ?_⟩
  exact lc_read (R := fun _ => True) qi hvs s re (PostE.bindS re h fun d S1 φ1 H1 v e1 s1 i1 h1 => h1 φ1 H1 _ .refl s1 ((re.ext e1).set i1 i))
end
end
end DL
end
section
/-! D-layer, part 4: defs, their calls, what leaves a def; cells that are written; the law's end. -/
namespace DL
open PySem L2 PySem.Spec PyProof.Rows

/-! ### what leaves a def: new cells become plain data -/
mutual
def frzD (ρ : Nat → Option D) : D → Option D
  | .non => some .non
  | .bl b => some (.bl b)
  | .int i => some (.int i)
  | .str x => some (.str x)
  | .tup ds => (frzDs ρ ds).map .tup
  | .lst ds => (frzDs ρ ds).map .lst
  | .dic ks ds => (frzDs ρ ds).map (.dic ks)
  | .obj c ks ds => (frzDs ρ ds).map (.obj c ks)
  | .loc l => ρ l
  | .dct ks ds => (frzDs ρ ds).map (.dct ks)
  | .exn c ks ds => (frzDs ρ ds).map (.exn c ks)
  | .tpl ds => (frzDs ρ ds).map .tpl
def frzDs (ρ : Nat → Option D) : List D → Option (List D)
  | [] => some []
  | d :: ds => (frzD ρ d).bind fun a => (frzDs ρ ds).map (a :: ·)
end
def resD (n : Nat) (S : Store) : Nat → Nat → Option D
  | 0, _ => none
  | k + 1, l => if l < n then some (.loc l) else match S[l]? with
    | some (.lst ds) => (frzDs (resD n S k) ds).map .lst
    | some (.dic kvs) => (frzDs (resD n S k) (kvs.map (·.2))).map (.dic (kvs.map (·.1)))
    | some (.ins c fs) => (frzDs (resD n S k) (fs.map (·.2))).map (.obj c (fs.map (·.1)))
    | some (.dct kvs) => (frzDs (resD n S k) (kvs.map (·.2))).map (.dct (kvs.map (·.1)))
    | none => none
mutual
def belD (n : Nat) : D → Bool
  | .tup ds => belDs n ds
  | .lst ds => belDs n ds
  | .dic _ ds => belDs n ds
  | .obj _ _ ds => belDs n ds
  | .dct _ ds => belDs n ds
  | .exn _ _ ds => belDs n ds
  | .tpl ds => belDs n ds
  | .loc l => decide (l < n)
  | _ => true
def belDs (n : Nat) : List D → Bool
  | [] => true
  | d :: ds => belD n d && belDs n ds
end
def Cell.bel (n : Nat) : Cell → Bool
  | .lst ds => belDs n ds
  | .dic kvs => belDs n (kvs.map (·.2))
  | .ins _ fs => belDs n (fs.map (·.2))
  | .dct kvs => belDs n (kvs.map (·.2))
inductive Mode where
  | keep
  | pure
  | upto (k : Nat)
open Classical in
/-- the end of a def that began at S0 -/
noncomputable def exitD (m : Mode) (S0 : Store) (d : D) (S : Store) : ER := match m with
  | .keep => .ok d S
  | .pure => match frzD (resD S0.length S 12) d with
    | some d' => if S.take S0.length = S0 ∨ (S.take S0.length).all (Cell.bel S0.length) = true then .ok d' (S.take S0.length) else .bad
    | none => .bad
  | .upto k => match frzD (resD (S0.length + k) S 12) d with
    | some d' => if (S.take (S0.length + k)).all (Cell.bel (S0.length + k)) = true then .ok d' (S.take (S0.length + k)) else .bad
    | none => .bad
section
variable {G : Glb} {φ : Fi} {H : Hp} {S : Store}
def Fi.cut (φ : Fi) (n : Nat) : Fi := ⟨φ.c.take n, φ.h⟩
theorem cut_out {φ : Fi} {n : Nat} {a : Addr} (h : φ.out a) : (φ.cut n).out a := ⟨fun z => h.1 (List.mem_of_mem_take z), h.2⟩
theorem RdL.cut {n : Nat} {a : Addr} {xs : List V} (h : RdL G φ H a xs) : RdL G (φ.cut n) H a xs := h.elim (fun z => .inl ⟨cut_out z.1, z.2⟩) .inr
theorem RdT.cut {n : Nat} {a : Addr} {xs : List V} (h : RdT G φ H a xs) : RdT G (φ.cut n) H a xs := h.elim (fun z => .inl ⟨cut_out z.1, z.2⟩) .inr
mutual
theorem frz_is {n : Nat} {ρ : Nat → Option D} (hρ : ∀ l d' a, ρ l = some d' → φ.c[l]? = some a → Is G (φ.cut n) H d' (.ref a)) : ∀ {d d' : D} {v : V}, Is G φ H d v → frzD ρ d = some d' → Is G (φ.cut n) H d' v
  | .non, _, v, i, e => by cases e; exact i
  | .bl _, _, v, i, e => by cases e; exact i
  | .int _, _, v, i, e => by cases e; exact i
  | .str _, _, v, i, e => by cases e; exact i
  | .tup ds, _, v, i, e => by
    obtain ⟨a, xs, e1, r, q⟩ := i
    obtain ⟨es, e2, e3⟩ := Option.map_eq_some_iff.mp (show (frzDs ρ ds).map D.tup = some _ from e)
    subst e3
    exact ⟨a, xs, e1, r.cut, frz_isL hρ q e2⟩
  | .lst ds, _, v, i, e => by
    obtain ⟨a, xs, e1, r, q⟩ := i
    obtain ⟨es, e2, e3⟩ := Option.map_eq_some_iff.mp (show (frzDs ρ ds).map D.lst = some _ from e)
    subst e3
    exact ⟨a, xs, e1, r.cut, frz_isL hρ q e2⟩
  | .dic ks ds, _, v, i, e => by
    obtain ⟨a, kvs, e1, ⟨n1, r⟩, z, q⟩ := i
    obtain ⟨es, e2, e3⟩ := Option.map_eq_some_iff.mp (show (frzDs ρ ds).map (D.dic ks) = some _ from e)
    subst e3
    exact ⟨a, kvs, e1, ⟨cut_out n1, r⟩, z, frz_isL hρ q e2⟩
  | .obj c ks ds, _, v, i, e => by
    obtain ⟨a, C, dx, fs, e1, ⟨n1, r⟩, hc, z, q⟩ := i
    obtain ⟨es, e2, e3⟩ := Option.map_eq_some_iff.mp (show (frzDs ρ ds).map (D.obj c ks) = some _ from e)
    subst e3
    exact ⟨a, C, dx, fs, e1, ⟨cut_out n1, r⟩, hc, z, frz_isL hρ q e2⟩
  | .loc l, d', v, i, e => by
    obtain ⟨a, ha, e1⟩ := i
    subst e1
    exact hρ l d' a e ha
  | .dct ks ds, _, v, i, e => by
    obtain ⟨a, kvs, e1, ⟨n1, r⟩, z, q⟩ := i
    obtain ⟨es, e2, e3⟩ := Option.map_eq_some_iff.mp (show (frzDs ρ ds).map (D.dct ks) = some _ from e)
    subst e3
    exact ⟨a, kvs, e1, ⟨cut_out n1, r⟩, z, frz_isL hρ q e2⟩
  | .exn c ks ds, _, v, i, e => by
    obtain ⟨a, C, d, e1, ⟨n1, r⟩, hc, z⟩ := i
    obtain ⟨es, e2, e3⟩ := Option.map_eq_some_iff.mp (show (frzDs ρ ds).map (D.exn c ks) = some _ from e)
    subst e3
    refine ⟨a, C, d, e1, ⟨cut_out n1, r⟩, hc, ?_⟩
    rcases z with ⟨z0, z1, z2⟩ | ⟨b, fs, e4, ⟨n2, r2⟩, e5, q⟩
    · subst z2; cases e2; exact .inl ⟨z0, z1, rfl⟩
    · exact .inr ⟨b, fs, e4, ⟨cut_out n2, r2⟩, e5, frz_isL hρ q e2⟩
  | .tpl ds, _, v, i, e => by
    obtain ⟨a, xs, o, e1, ⟨n1, r⟩, q⟩ := i
    obtain ⟨es, e2, e3⟩ := Option.map_eq_some_iff.mp (show (frzDs ρ ds).map D.tpl = some _ from e)
    subst e3
    exact ⟨a, xs, o, e1, ⟨cut_out n1, r⟩, frz_isL hρ q e2⟩
theorem frz_isL {n : Nat} {ρ : Nat → Option D} (hρ : ∀ l d' a, ρ l = some d' → φ.c[l]? = some a → Is G (φ.cut n) H d' (.ref a)) : ∀ {ds ds' : List D} {vs : List V}, IsL G φ H ds vs → frzDs ρ ds = some ds' → IsL G (φ.cut n) H ds' vs
  | [], _, v, i, e => by cases e; exact i
  | d :: ds, _, v, i, e => by
    obtain ⟨x, r, e1, p, q⟩ := i
    obtain ⟨a, e2, e3⟩ := Option.bind_eq_some_iff.mp (show ((frzD ρ d).bind fun a => (frzDs ρ ds).map (a :: ·)) = some _ from e)
    obtain ⟨b, e4, e5⟩ := Option.map_eq_some_iff.mp e3
    subst e5
    exact ⟨x, r, e1, frz_is hρ p e2, frz_isL hρ q e4⟩
end
theorem res_is (s : SOk G φ S H) (n : Nat) : ∀ (k l : Nat) (d' : D) (a : Addr), resD n S k l = some d' → φ.c[l]? = some a → Is G (φ.cut n) H d' (.ref a)
  | 0, _, _, _, e, _ => by cases e
  | k + 1, l, d', a, e, ha => by
    unfold resD at e
    have ih := res_is s n k
    by_cases hl : l < n
    · rw [if_pos hl] at e
      cases e
      exact ⟨a, by show (φ.c.take n)[l]? = _; rw [List.getElem?_take]; rw [if_pos hl]; exact ha, rfl⟩
    · rw [if_neg hl] at e
      have nc : a ∉ (φ.cut n).c := fun z => by
        obtain ⟨j, hj, e2⟩ := List.getElem_of_mem z
        have h1 : (φ.c.take n)[j]? = some a := by rw [← e2]; exact List.getElem?_eq_getElem hj
        rw [List.getElem?_take] at h1
        split at h1
        · exact hl (by rw [nd_ix s.nd ha h1]; assumption)
        · cases h1
      have nh : a ∉ φ.h := fun z => (s.hid a z).1 (List.mem_of_getElem? ha)
      split at e
      · rename_i ds hc
        obtain ⟨xs, hx, q⟩ := s.at_ hc ha
        obtain ⟨es, e2, e3⟩ := Option.map_eq_some_iff.mp e
        subst e3
        exact ⟨a, xs, rfl, .inl ⟨⟨nc, nh⟩, .inl hx⟩, frz_isL ih q e2⟩
      · rename_i kvs hc
        obtain ⟨ws, hx, z, q⟩ := s.at_ hc ha
        obtain ⟨es, e2, e3⟩ := Option.map_eq_some_iff.mp e
        subst e3
        exact ⟨a, ws, rfl, ⟨⟨nc, nh⟩, .inl hx⟩, z, frz_isL ih q e2⟩
      · rename_i c fs hc
        obtain ⟨C, dx, ws, hC, hx, z, q⟩ := s.at_ hc ha
        obtain ⟨es, e2, e3⟩ := Option.map_eq_some_iff.mp e
        subst e3
        exact ⟨a, C, dx, ws, rfl, ⟨⟨nc, nh⟩, hx⟩, hC, z, frz_isL ih q e2⟩
      · rename_i kvs hc
        obtain ⟨ws, hx, z, q⟩ := s.at_ hc ha
        obtain ⟨es, e2, e3⟩ := Option.map_eq_some_iff.mp e
        subst e3
        exact ⟨a, ws, rfl, ⟨⟨nc, nh⟩, .inl hx⟩, z, frz_isL ih q e2⟩
      · cases e
mutual
theorem bel_of {n : Nat} (hn : φ.c.length ≤ n) : ∀ {d : D} {v : V}, Is G φ H d v → belD n d = true
  | .non, _, _ => rfl
  | .bl _, _, _ => rfl
  | .int _, _, _ => rfl
  | .str _, _, _ => rfl
  | .tup ds, _, i => by obtain ⟨a, xs, e1, r, q⟩ := i; exact bel_ofL hn q
  | .lst ds, _, i => by obtain ⟨a, xs, e1, r, q⟩ := i; exact bel_ofL hn q
  | .dic _ ds, _, i => by obtain ⟨a, xs, e1, r, z, q⟩ := i; exact bel_ofL hn q
  | .obj _ _ ds, _, i => by obtain ⟨a, C, dx, xs, e1, r, c, z, q⟩ := i; exact bel_ofL hn q
  | .dct _ ds, _, i => by obtain ⟨a, xs, e1, r, z, q⟩ := i; exact bel_ofL hn q
  | .exn _ _ ds, _, i => by
    obtain ⟨a, C, d, e1, r, c, z⟩ := i
    rcases z with ⟨_, _, z⟩ | ⟨b, fs, _, _, _, q⟩
    · subst z; rfl
    · exact bel_ofL hn q
  | .tpl ds, _, i => by obtain ⟨a, xs, o, e1, r, q⟩ := i; exact bel_ofL hn q
  | .loc l, _, i => by
    obtain ⟨a, ha, _⟩ := i
    have := (List.getElem?_eq_some_iff.mp ha).1
    show decide (l < n) = true
    exact decide_eq_true (by omega)
theorem bel_ofL {n : Nat} (hn : φ.c.length ≤ n) : ∀ {ds : List D} {vs : List V}, IsL G φ H ds vs → belDs n ds = true
  | [], _, _ => rfl
  | d :: ds, _, i => by
    obtain ⟨x, r, e1, p, q⟩ := i
    show (belD n d && belDs n ds) = true
    rw [bel_of hn p, bel_ofL hn q]; rfl
end
mutual
theorem bel_is {n : Nat} : ∀ {d : D} {v : V}, belD n d = true → Is G φ H d v → Is G (φ.cut n) H d v
  | .non, _, _, i => i
  | .bl _, _, _, i => i
  | .int _, _, _, i => i
  | .str _, _, _, i => i
  | .tup ds, _, h, i => by obtain ⟨a, xs, e1, r, q⟩ := i; exact ⟨a, xs, e1, r.cut, bel_isL h q⟩
  | .lst ds, _, h, i => by obtain ⟨a, xs, e1, r, q⟩ := i; exact ⟨a, xs, e1, r.cut, bel_isL h q⟩
  | .dic _ ds, _, h, i => by obtain ⟨a, xs, e1, ⟨n1, r⟩, z, q⟩ := i; exact ⟨a, xs, e1, ⟨cut_out n1, r⟩, z, bel_isL h q⟩
  | .obj _ _ ds, _, h, i => by obtain ⟨a, C, dx, xs, e1, ⟨n1, r⟩, c, z, q⟩ := i; exact ⟨a, C, dx, xs, e1, ⟨cut_out n1, r⟩, c, z, bel_isL h q⟩
  | .dct _ ds, _, h, i => by obtain ⟨a, xs, e1, ⟨n1, r⟩, z, q⟩ := i; exact ⟨a, xs, e1, ⟨cut_out n1, r⟩, z, bel_isL h q⟩
  | .exn _ _ ds, _, h, i => by
    obtain ⟨a, C, d, e1, ⟨n1, r⟩, c, z⟩ := i
    refine ⟨a, C, d, e1, ⟨cut_out n1, r⟩, c, ?_⟩
    rcases z with z | ⟨b, fs, e4, ⟨n2, r2⟩, e5, q⟩
    · exact .inl z
    · exact .inr ⟨b, fs, e4, ⟨cut_out n2, r2⟩, e5, bel_isL h q⟩
  | .tpl _, _, h, i => by obtain ⟨a, xs, o, e1, ⟨n1, r⟩, q⟩ := i; exact ⟨a, xs, o, e1, ⟨cut_out n1, r⟩, bel_isL h q⟩
  | .loc l, _, h, i => by
    obtain ⟨a, ha, e⟩ := i
    have hl : l < n := of_decide_eq_true h
    exact ⟨a, by show (φ.c.take n)[l]? = _; rw [List.getElem?_take, if_pos hl]; exact ha, e⟩
theorem bel_isL {n : Nat} : ∀ {ds : List D} {vs : List V}, belDs n ds = true → IsL G φ H ds vs → IsL G (φ.cut n) H ds vs
  | [], _, _, i => i
  | d :: ds, _, h, i => by
    obtain ⟨x, r, e1, p, q⟩ := i
    have h' : (belD n d && belDs n ds) = true := h
    simp only [Bool.and_eq_true] at h'
    exact ⟨x, r, e1, bel_is h'.1 p, bel_isL h'.2 q⟩
end
theorem CellOk.bel {a : Addr} {c : Cell} {n : Nat} (hn : φ.c.length ≤ n) (h : CellOk G φ H a c) : c.bel n = true := by
  cases c with
  | lst ds => obtain ⟨xs, _, q⟩ := h; exact bel_ofL hn q
  | dic kvs => obtain ⟨xs, _, _, q⟩ := h; exact bel_ofL hn q
  | ins c fs => obtain ⟨C, dx, xs, _, _, _, q⟩ := h; exact bel_ofL hn q
  | dct kvs => obtain ⟨xs, _, _, q⟩ := h; exact bel_ofL hn q
theorem CellOk.cut {a : Addr} {c : Cell} {n : Nat} (hb : c.bel n = true) (h : CellOk G φ H a c) : CellOk G (φ.cut n) H a c := by
  cases c with
  | lst ds => obtain ⟨xs, k, q⟩ := h; exact ⟨xs, k, bel_isL hb q⟩
  | dic kvs => obtain ⟨xs, k, z, q⟩ := h; exact ⟨xs, k, z, bel_isL hb q⟩
  | ins c fs => obtain ⟨C, dx, xs, k, y, z, q⟩ := h; exact ⟨C, dx, xs, k, y, z, bel_isL hb q⟩
  | dct kvs => obtain ⟨xs, k, z, q⟩ := h; exact ⟨xs, k, z, bel_isL hb q⟩
theorem SOk.cut (s : SOk G φ S H) {n : Nat} (hb : ∀ c ∈ S.take n, c.bel n = true) : SOk G (φ.cut n) (S.take n) H := by
  refine ⟨by simp [Fi.cut, s.len], s.nd.sublist (List.take_sublist _ _), fun a ha => ?_, fun l c hc => ?_⟩
  · obtain ⟨n1, q⟩ := s.hid a ha
    exact ⟨fun z => n1 (List.mem_of_mem_take z), q⟩
  · have hm := hb c (List.mem_of_getElem? hc)
    rw [List.getElem?_take] at hc
    split at hc
    · rename_i hl
      obtain ⟨a, ha, k⟩ := s.cell l c hc
      exact ⟨a, by show (φ.c.take n)[l]? = _; rw [List.getElem?_take, if_pos hl]; exact ha, k.cut hm⟩
    · cases hc
/-- the way out -/
theorem exit_ok {m : Mode} {φ0 : Fi} {H0 : Hp} {S0 : Store} {d : D} {v : V} {W : WX} {σ : L2.St} {Q : VK} (s0 : SOk G φ0 S0 H0) (e : Ext φ0 H0 φ H) (s : SOk G φ S H) (i : Is G φ H d v) (h : PostE G W φ0 H0 σ (exitD m S0 d S) Q) : Q v H := by
  cases m with
  | keep => exact h φ H v e s i
  | pure =>
    unfold exitD at h
    dsimp only at h
    cases hd : frzD (resD S0.length S 12) d with
    | none => rw [hd] at h; exact False.elim h
    | some d' =>
      rw [hd] at h
      dsimp only at h
      split at h
      · rename_i hc
        have eφ : φ.cut S0.length = φ0 := by
          obtain ⟨ψ, e1, _⟩ := e.pre
          obtain ⟨c0, h0⟩ := φ0
          obtain ⟨c1, h1⟩ := φ
          have eh := e.hid
          simp only at e1 eh
          subst e1 eh
          have hl : c0.length = S0.length := s0.len
          show Fi.mk ((c0 ++ ψ).take S0.length) h1 = Fi.mk c0 h1
          rw [← hl, List.take_left]
        have hb : ∀ c ∈ S.take S0.length, c.bel S0.length = true := by
          rcases hc with hc | hc
          · intro c hm
            rw [hc] at hm
            obtain ⟨l, hl, e1⟩ := List.getElem_of_mem hm
            obtain ⟨a, ha, k⟩ := s0.cell l c (by rw [← e1]; exact List.getElem?_eq_getElem hl)
            exact k.bel (by rw [s0.len]; exact Nat.le_refl _)
          · exact fun c hm => List.all_eq_true.mp hc c hm
        have s2 := s.cut hb
        rw [eφ] at s2
        refine h φ0 H v ⟨⟨[], by simp, fun _ z => by simp at z⟩, rfl, e.keep⟩ s2 ?_
        have i2 := frz_is (n := S0.length) (res_is s S0.length 12) i hd
        rw [eφ] at i2
        exact i2
      · exact False.elim h
  | upto k =>
    unfold exitD at h
    dsimp only at h
    cases hd : frzD (resD (S0.length + k) S 12) d with
    | none => rw [hd] at h; exact False.elim h
    | some d' =>
      rw [hd] at h
      dsimp only at h
      split at h
      · rename_i hc
        have s2 := s.cut (n := S0.length + k) fun c hm => List.all_eq_true.mp hc c hm
        refine h (φ.cut (S0.length + k)) H v ⟨?_, e.hid, e.keep⟩ s2 (frz_is (n := S0.length + k) (res_is s (S0.length + k) 12) i hd)
        obtain ⟨ψ, e1, p⟩ := e.pre
        refine ⟨ψ.take k, ?_, fun a ha => p a (List.mem_of_mem_take ha)⟩
        show φ.c.take (S0.length + k) = φ0.c ++ ψ.take k
        rw [e1, ← s0.len, List.take_append, List.take_of_length_le (by omega)]
        congr 1
        congr 1
        omega
      · exact False.elim h
end

/-! ### a def's promise -/
def spD (G : Glb) (n : Nat) (F : FD) : Sp := fun vs H Q E => vs.length = n ∧ ∃ φ S ds, SOk G φ S H ∧ IsL G φ H ds vs ∧ PostE G (fun cls dx _ H => E cls dx H) φ H [] (F ds S) Q
def startD (n : Nat) (ds : List D) : EnvD := ds.map some ++ List.replicate (n - ds.length) none
noncomputable def fnF (m : Mode) (n : Nat) (g : SM) : FD := fun ds S => match g (startD n ds) S with
  | .nx _ S1 => exitD m S .non S1
  | .rt d S1 => exitD m S d S1
  | .ex x _ S1 => .ex x S1
  | _ => .bad
theorem rep_start {G : Glb} {φ : Fi} {H : Hp} {ds : List D} {vs : List V} (N : List Str) (i : IsL G φ H ds vs) : RepE G φ H (L2.start N vs) (startD N.length ds) := by
  refine ⟨by simp [L2.start, startD, i.length], fun j d e => ?_⟩
  unfold startD at e
  by_cases hj : j < ds.length
  · rw [List.getElem?_append_left (by simpa using hj), List.getElem?_map] at e
    obtain ⟨d1, e1, e2⟩ := Option.map_eq_some_iff.mp e
    cases e2
    obtain ⟨v, hv, k⟩ := i.get e1
    refine ⟨v, ?_, k⟩
    unfold L2.start
    rw [List.getElem?_append_left (by simpa [← i.length] using hj), List.getElem?_map, hv]
    rfl
  · rw [List.getElem?_append_right (by simpa using hj), List.getElem?_replicate] at e
    split at e <;> cases e
/-- a def of the module, called by its name -/
structure Def (G : Glb) (P : Program) (w : World) (mg : Str → Option Value) (base : Heap) (k : Nat) (x : Str) (n : Nat) (F : FD) : Prop where
  ex : ∃ f fd ps, FnOk P w G.K mg base (L2.CX P w) k f fd ps (spD G n F) ∧ mg x = some (.ref f) ∧ PySem.W.keepIn G.K (.ref f) = true ∧ Binds G.K fd ps []
section
variable {G : Glb} {X : Cx} {W : WX} {k n : Nat} {x : Str} {F : FD} {p pos : Pos} {e : Expr} {es : List Expr} {fa : LM}
def eCall (F : FD) (f : LM) : EM := fun env S => (f env S).bindE F
/-- how many arguments -/
theorem la_nil : ∀ env S ds S', lNil env S = .ok ds S' → ds.length = 0 := fun env S ds S' h => by cases h; rfl
theorem la_cons {f : EM} {g : LM} {m : Nat} (h : ∀ env S ds S', g env S = .ok ds S' → ds.length = m) : ∀ env S ds S', lCons f g env S = .ok ds S' → ds.length = m + 1 := fun env S ds S' q => by
  unfold lCons at q
  cases hf : f env S with
  | ok d S1 =>
    rw [hf] at q
    have q' : ((g env S1).bind fun ds S => .ok (d :: ds) S) = .ok ds S' := q
    cases hg : g env S1 with
    | ok es S2 =>
      rw [hg] at q'
      cases q'
      simp [h _ _ _ _ hg]
    | ex x S2 => rw [hg] at q'; cases q'
    | bad => rw [hg] at q'; cases q'
  | ex x S1 => rw [hf] at q; cases q
  | bad => rw [hf] at q; cases q

/-! ### cells that are written -/
/-- xs[i] = e of a list's cell -/
def putIx (i : Int) (ds : List D) (d : D) : Option (List D) := (ixN ds.length i).map fun j => ds.set j d
def setD (o i d : D) (S : Store) : Option Store := match o, i with
  | .loc l, .int i => match S[l]? with
    | some (.lst ds) => (putIx i ds d).map fun es => S.set l (.lst es)
    | _ => none
  | _, _ => none
/-- o[i] = e: e first, then o, i -/
def sPutL (o i f : EM) : SM := fun env S => (f env S).bindS env fun d S => (o env S).bindS env fun a S => (i env S).bindS env fun b S => match setD a b d S with
  | some S' => .nx env S'
  | none => .bad
theorem set_is {φ : Fi} {S S' : Store} {H : Hp} {o i d : D} {vo vi v : V} (s : SOk G φ S H) (io : Is G φ H o vo) (ii : Is G φ H i vi) (id : Is G φ H d v) (h : setD o i d S = some S') {Q : Hp → Prop} (k : ∀ H', Ext φ H φ H' → SOk G φ S' H' → Q H') : rSetL vo vi v H Q := by
  cases o with
  | loc l =>
    cases i with
    | int i =>
      obtain ⟨a, ha, rfl⟩ := io
      cases (show vi = _ from ii)
      simp only [setD] at h
      cases hc : S[l]? with
      | none => rw [hc] at h; cases h
      | some c =>
        rw [hc] at h
        cases c with
        | lst ds =>
          obtain ⟨es, e1, e2⟩ := Option.map_eq_some_iff.mp (show (putIx i ds d).map (fun es => S.set l (.lst es)) = some S' from h)
          obtain ⟨j, e3, e4⟩ := Option.map_eq_some_iff.mp (show (ixN ds.length i).map (fun j => ds.set j d) = some es from e1)
          subst e2 e4
          obtain ⟨xs, hx, q⟩ := s.at_ hc ha
          refine ⟨a, xs, i, j, rfl, rfl, hx, by rw [← q.length]; exact e3, k _ (.put (List.mem_of_getElem? ha)) (s.put ha ⟨_, upd_same, ?_⟩)⟩
          exact (q.set j id).ext (.put (List.mem_of_getElem? ha))
        | _ => cases h
    | _ => cases h
  | _ => cases h
/-- a built-in type's method by values -/
def DMeth (G : Glb) (X : Cx) (id : String) (g : D → List D → Store → ER) : Prop :=
  ∃ r, MtR X id r ∧ ∀ W φ S H σ dx ds x xs Q, SOk G φ S H → Is G φ H dx x → IsL G φ H ds xs → PostE G W φ H σ (g dx ds S) Q → r x xs H Q
/-- the types of which methods are asked -/
def tyD (T : String) (S : Store) : D → Bool
  | .str _ => T == "str"
  | d => T == "list" && (listD S d).isSome
theorem tyD_is {φ : Fi} {S : Store} {H : Hp} {T : String} {d : D} {v : V} (hK : X.K = G.K) (s : SOk G φ S H) (i : Is G φ H d v) (h : tyD T S d = true) : tyV X.K T v H := by
  have other : (T == "list" && (listD S d).isSome) = true → tyV X.K T v H := fun h => by
    simp only [Bool.and_eq_true, beq_iff_eq] at h
    obtain ⟨ds, e⟩ := Option.isSome_iff_exists.mp h.2
    obtain ⟨a, xs, rfl, r, _⟩ := listD_sq s i e
    exact .inl ⟨h.1, xs, by rw [hK]; exact r⟩
  cases d with
  | str x =>
    cases (show v = _ from i)
    exact beq_iff_eq.mp h
  | _ => exact other h
def eMeth (T : String) (g : D → List D → Store → ER) (o : EM) (f : LM) : EM := fun env S => (o env S).bind fun a S => if tyD T S a then (f env S).bindE fun ds S => g a ds S else .bad
theorem de_meth {T id : String} {name : Str} {g : D → List D → Store → ER} {o : Expr} {fo : EM} {apos cpos : Pos} (pa : PlainAttrs T) (slot : Slot T name id) (hty : typeOf (.builtin id) = pure (.type "method_descriptor")) (hm : DMeth G X id g) (hK : X.K = G.K) (ho : DE G X W o fo) (ha : DA G X W (e :: es) fa)
    (hbase : attributeBase o name X.env (eval o X.env) = eval o X.env := by rfl)
    (hfew : ((backTo cpos (starEach (e :: es) X.env)).all (fun x => !x.1) && (backToKw cpos (keywordEach [] X.env)).all (fun x => x.1.isSome) && decide ((e :: es).length + ([] : List Keyword).length + (if ([] : List Keyword).isEmpty then 0 else 1) < 30)) = true := by rfl)
    (hline : (apos.endLine == cpos.line) = true := by rfl) (hs : starEach (e :: es) X.env = (false, eval e X.env) :: starEach es X.env := by rfl) (hplain : (backTo cpos (starEach es X.env)).any (·.1) = false := by rfl) :
    DE G X W (.Call (.Attribute o name apos) (e :: es) [] cpos) (eMeth T g fo fa) := by
  obtain ⟨r, hr, q⟩ := hm
  obtain ⟨to, po, qo⟩ := ho
  obtain ⟨t, pt, qt⟩ := ha
  refine ⟨_, pe_bm pa slot hty hr po pt hbase hfew hline hs hplain, fun σ H env φ S Q s re h => ?_⟩
  refine qo σ H env φ S _ s re (PostE.bind h fun a S1 φ1 H1 v e1 s1 i1 h1 => ?_)
  split at h1
  · rename_i ht
    refine ⟨tyD_is hK s1 i1 ht, qt σ H1 env φ1 S1 _ s1 (re.ext e1) (PostL.bindE h1 fun ds S2 φ2 H2 vs e2 s2 i2 h2 => ?_)⟩
    exact q W φ2 S2 H2 σ a ds v vs Q s2 (i1.ext e2) i2 h2
  · exact False.elim h1
/-- a list's cell changes -/
def cellL (S : Store) (d : D) (g : Nat → List D → ER) : ER := match d with
  | .loc l => match S[l]? with
    | some (.lst ds) => g l ds
    | _ => .bad
  | _ => .bad
theorem cellL_is {φ : Fi} {S : Store} {H : Hp} {σ : L2.St} {d : D} {v : V} {g : Nat → List D → ER} {Q : VK} {P : Prop} (s : SOk G φ S H) (i : Is G φ H d v) (h : PostE G W φ H σ (cellL S d g) Q)
    (k : ∀ l ds a xs, d = .loc l → S[l]? = some (.lst ds) → v = .ref a → φ.c[l]? = some a → H a = some (.lst xs) → IsL G φ H ds xs → PostE G W φ H σ (g l ds) Q → P) : P := by
  cases d with
  | loc l =>
    obtain ⟨a, ha, rfl⟩ := i
    simp only [cellL] at h
    cases hc : S[l]? with
    | none => rw [hc] at h; exact False.elim h
    | some c =>
      rw [hc] at h
      cases c with
      | lst ds =>
        obtain ⟨xs, hx, q⟩ := s.at_ hc ha
        exact k l ds a xs rfl hc rfl ha hx q h
      | _ => exact False.elim h
  | _ => exact False.elim h
theorem cell_put {φ : Fi} {S : Store} {H : Hp} {σ : L2.St} {l : Nat} {a : Addr} {ds : List D} {xs : List V} {d : D} {v : V} {Q : VK} (s : SOk G φ S H) (ha : φ.c[l]? = some a) (q : IsL G φ H ds xs) (i : Is G φ H d v) (h : PostE G W φ H σ (.ok d (S.set l (.lst ds))) Q) : Q v (upd H a (.lst xs)) :=
  have e : Ext φ H φ (upd H a (.lst xs)) := .put (List.mem_of_getElem? ha)
  h φ _ v e (s.put ha ⟨xs, upd_same, q.ext e⟩) (i.ext e)
noncomputable def mAppend (o : D) (ds : List D) (S : Store) : ER := cellL S o fun l xs => match ds with
  | [d] => if sz (xs.length + 1) then .ok .non (S.set l (.lst (xs ++ [d]))) else .bad
  | _ => .bad
theorem dm_append : DMeth G X "list.append" mAppend := by
  refine ⟨_, mt_append, fun W φ S H σ dx ds x xs Q s ix ids h => ?_⟩
  refine cellL_is s ix h fun l es a ys e1 e2 e3 ha hx q h1 => ?_
  subst e1 e3
  match ds, ids, h1 with
  | [d], ids, h1 =>
    obtain ⟨y, rfl, k⟩ := IsL.inv1 ids
    dsimp only at h1
    split at h1
    · rename_i hz
      exact ⟨a, ys, y, rfl, rfl, hx, by rw [← q.length, sizeLine_eq]; exact hz, cell_put s ha (q.append (.one k)) (show Is G φ H .non .non from rfl) h1⟩
    · exact False.elim h1
  | [], _, h1 => exact False.elim h1
  | _ :: _ :: _, _, h1 => exact False.elim h1
def mPop (o : D) (ds : List D) (S : Store) : ER := cellL S o fun l xs => match ds with
  | [] => match xs[xs.length - 1]? with
    | some d => .ok d (S.set l (.lst xs.dropLast))
    | none => .bad
  | _ => .bad
theorem IsL.dropLast {φ : Fi} {H : Hp} : ∀ {ds : List D} {xs : List V}, IsL G φ H ds xs → IsL G φ H ds.dropLast xs.dropLast := fun {ds xs} h => by
  rw [List.dropLast_eq_take, List.dropLast_eq_take, h.length]
  exact h.take _
end
/-! ### the law's end -/
theorem law_sp {G : Glb} {F : FD} {H : Hp} {a : Addr} {ns : List Int} (hO : Only H) (hS : SqL G.K H a (ns.map V.int)) (h : ∃ S, F [.lst (ns.map .int)] [] = .ok (.bl true) S) :
    spD G 1 F [.ref a] H (fun v _ => v = .bl true) (fun _ _ _ => False) := by
  obtain ⟨S, e⟩ := h
  refine ⟨rfl, ⟨[], []⟩, [], [.lst (ns.map .int)], ⟨rfl, List.nodup_nil, fun _ z => by simp at z, fun _ _ z => by simp at z⟩, ?_, ?_⟩
  · refine .one ⟨a, _, rfl, ?_, IsL.of_ints⟩
    rcases hS with z | z
    · exact .inl ⟨⟨by simp, by simp⟩, z⟩
    · exact .inr z
  · rw [e]
    exact fun φ' H' v _ _ i => i
theorem no_CX {P : Program} {w : World} {H : Hp} {s s' : Shared} {e : Value} (h : L2.CX P w [] H s (fun _ _ _ => False) e s') : False := by
  obtain ⟨_, _, _, _, _, _, _, _, _, _, _, _, z⟩ := h
  exact z
end DL
end
section
/-! D-layer, part 5: isinstance, chains of comparisons, constants of the module. -/
namespace DL
open PySem L2 PySem.Spec PyProof.Rows
section
variable {G : Glb} {X : Cx} {W : WX}
/-! ### isinstance of built-in types -/
inductive Ty where
  | int | bool | str | tuple | list | dict | none
  deriving DecidableEq
def Ty.nm : Ty → String
  | .int => "int" | .bool => "bool" | .str => "str" | .tuple => "tuple" | .list => "list" | .dict => "dict" | .none => "NoneType"
def Ty.isa (a b : Ty) : Bool := decide (a = b) || (decide (a = .bool) && decide (b = .int))
theorem ty_kit (a b : Ty) (h : b ≠ .none) : kitB a.nm b.nm = some (a.isa b) := by
  cases a <;> cases b <;> first | exact absurd rfl h | decide +kernel
def tyOf (S : Store) : D → Option Ty
  | .non => some .none
  | .bl _ => some .bool
  | .int _ => some .int
  | .str _ => some .str
  | .tup _ => some .tuple
  | .lst _ => some .list
  | .dic _ _ => some .dict
  | .obj _ _ _ => none
  | .dct _ _ => none
  | .exn _ _ _ => none
  | .tpl _ => some .tuple
  | .loc l => match S[l]? with
    | some (.lst _) => some .list
    | some (.dic _) => some .dict
    | some (.dct _) => some .dict
    | _ => none
theorem tyOf_is {φ : Fi} {S : Store} {H : Hp} {d : D} {v : V} {t : Ty} (s : SOk G φ S H) (i : Is G φ H d v) (e : tyOf S d = some t) : TyX G.K H v (.type t.nm) := by
  have lst : ∀ {a : Addr} {xs : List V}, SqL G.K H a xs → TyX G.K H (.ref a) (.type "list") := fun {a xs} r => by
    rcases r with (r | ⟨o, r⟩) | ⟨o, its, n, h1, h2, _⟩
    · exact .base (.lst r)
    · exact .base (.frz r)
    · exact .kList h1 h2
  cases d with
  | non => cases e; cases (show v = _ from i); exact .base .non
  | bl b => cases e; cases (show v = _ from i); exact .base (.bl b)
  | int b => cases e; cases (show v = _ from i); exact .base (.int b)
  | str b => cases e; cases (show v = _ from i); exact .base (.str b)
  | tup ds =>
    cases e
    obtain ⟨a, xs, rfl, r, _⟩ := i
    rcases r with ⟨_, r | ⟨o, r⟩⟩ | ⟨o, its, n, h1, h2, _⟩
    · exact .base (.tup r)
    · exact .fTuple r
    · exact .kTuple h1 h2
  | lst ds =>
    cases e
    obtain ⟨a, xs, rfl, r, _⟩ := i
    exact lst r.seq
  | dic ks ds =>
    cases e
    obtain ⟨a, xs, rfl, ⟨_, r | ⟨o, r⟩⟩, _⟩ := i
    · exact .base (.dK r)
    · exact .fDict r
  | obj c ks ds => cases e
  | exn c ks ds => cases e
  | tpl ds =>
    cases e
    obtain ⟨a, xs, o, rfl, ⟨_, r, _⟩, _⟩ := i
    exact .fTuple r
  | dct ks ds => cases e
  | loc l =>
    obtain ⟨a, ha, rfl⟩ := i
    simp only [tyOf] at e
    split at e
    · rename_i ds hc
      cases e
      obtain ⟨xs, hx, _⟩ := s.at_ hc ha
      exact .base (.lst hx)
    · rename_i ds hc
      cases e
      obtain ⟨xs, hx, _⟩ := s.at_ hc ha
      exact .base (.dK hx)
    · rename_i ds hc
      cases e
      obtain ⟨xs, hx, _⟩ := s.at_ hc ha
      exact .base (.dT hx)
    · cases e
def eIsi (b : Ty) (f : EM) : EM := fun env S => (f env S).bind fun d S => match tyOf S d with
  | some a => .ok (.bl (a.isa b)) S
  | none => .bad
/-- isinstance(e, (T1, T2)) -/
def eIsi2 (b c : Ty) (f : EM) : EM := fun env S => (f env S).bind fun d S => match tyOf S d with
  | some a => .ok (.bl (a.isa b || a.isa c)) S
  | none => .bad
/-! ### a < b < c -/
theorem chain_of {r r' : R2} {g g' : D → D → Store → ER} {ta tb tc : TE} {fa fb fc : EM}
    (hr : ∀ W φ S H σ dx dy x y Q, SOk G φ S H → Is G φ H dx x → Is G φ H dy y → PostE G W φ H σ (g dx dy S) Q → r x y H Q)
    (hr' : ∀ W φ S H σ dx dy x y Q, SOk G φ S H → Is G φ H dx x → Is G φ H dy y → PostE G W φ H σ (g' dx dy S) Q → r' x y H Q)
    (ha : ∀ σ H env φ S Q, SOk G φ S H → RepE G φ H σ env → PostE G W φ H σ (fa env S) Q → ta σ H Q)
    (hb : ∀ σ H env φ S Q, SOk G φ S H → RepE G φ H σ env → PostE G W φ H σ (fb env S) Q → tb σ H Q)
    (hc : ∀ σ H env φ S Q, SOk G φ S H → RepE G φ H σ env → PostE G W φ H σ (fc env S) Q → tc σ H Q) :
    ∀ σ H env φ S Q, SOk G φ S H → RepE G φ H σ env → PostE G W φ H σ (eChain g g' fa fb fc env S) Q → tChain r r' ta tb tc σ H Q := fun σ H env φ S Q s re h => by
  refine ha σ H env φ S _ s re (PostE.bind h fun d S1 φ1 H1 v e1 s1 i1 h1 => ?_)
  refine hb σ H1 env φ1 S1 _ s1 (re.ext e1) (PostE.bind h1 fun d2 S2 φ2 H2 v2 e2 s2 i2 h2 => ?_)
  refine hr W φ2 S2 H2 σ d d2 v v2 _ s2 (i1.ext e2) i2 (PostE.bind h2 fun z S3 φ3 H3 vz e3 s3 i3 h3 => ?_)
  cases z with
  | bl k =>
    refine ⟨k, i3, ?_⟩
    cases k with
    | true =>
      refine iteT (hc σ H3 env φ3 S3 _ s3 ((re.ext e1).ext (e2.trans e3)) (PostE.bind h3 fun d4 S4 φ4 H4 v4 e4 s4 i4 h4 => ?_))
      exact hr' W φ4 S4 H4 σ d2 d4 v2 v4 Q s4 (i2.ext (e3.trans e4)) i4 h4
    | false => exact iteF (h3.now s3 rfl)
  | _ => exact False.elim h3
theorem de_chain {op op' : CmpOp} {a b c : Expr} {pos : Pos} {g g' : D → D → Store → ER} {fa fb fc : EM} (ho : DOp G X (compareOp op) g) (ho' : DOp G X (compareOp op') g') (ha : DE G X W a fa) (hb : DE G X W b fb) (hc : DE G X W c fc)
    (h1 : lastMarks [op, op'] [b, c] = false := by rfl) : DE G X W (.Compare a [op, op'] [b, c] pos) (eChain g g' fa fb fc) := by
  obtain ⟨r, hr, q⟩ := ho
  obtain ⟨r', hr', q'⟩ := ho'
  obtain ⟨ta, pa, qa⟩ := ha
  obtain ⟨tb, pb, qb⟩ := hb
  obtain ⟨tc, pc, qc⟩ := hc
  exact ⟨_, pe_chain hr hr' pa pb pc h1, chain_of q q' qa qb qc⟩
theorem dt_chain {op op' : CmpOp} {a b c : Expr} {pos : Pos} {g g' : D → D → Store → ER} {fa fb fc : EM} (ho : DOp G X (compareOp op) g) (ho' : DOp G X (compareOp op') g') (ha : DE G X W a fa) (hb : DE G X W b fb) (hc : DE G X W c fc)
    (h1 : lastMarks [op, op'] [b, c] = false := by rfl) : DT G X W (.Compare a [op, op'] [b, c] pos) (eChain g g' fa fb fc) := by
  obtain ⟨r, hr, q⟩ := ho
  obtain ⟨r', hr', q'⟩ := ho'
  obtain ⟨ta, pa, qa⟩ := ha
  obtain ⟨tb, pb, qb⟩ := hb
  obtain ⟨tc, pc, qc⟩ := hc
  refine ⟨_, pt_chain hr hr' pa pb pc h1, fun σ H env φ S Q s re h => ?_⟩
  exact chain_of q q' qa qb qc σ H env φ S _ s re h.of

/-! ### what is never reached; constants of the module -/
theorem de_gInt {x : Str} {i : Int} {pos : Pos} (h : ∃ t, X.mg x = some (.int i t)) (hg : Gl X x) (hd : (x == ("__debug__" : Str)) = false := by decide) : DE G X W (.Name x pos) (eC (.int i)) :=
  let ⟨t, e⟩ := h; de_glob hg e (v := .int i) ⟨t, rfl⟩ (fun _ _ => rfl) hd
theorem de_gStr {x z : Str} {pos : Pos} (h : ∃ t, X.mg x = some (.str z t)) (hg : Gl X x) (hd : (x == ("__debug__" : Str)) = false := by decide) : DE G X W (.Name x pos) (eC (.str z)) :=
  let ⟨t, e⟩ := h; de_glob hg e (v := .str z) ⟨t, rfl⟩ (fun _ _ => rfl) hd
end

/-! ### slices -/
section
variable {G : Glb} {X : Cx} {W : WX}
inductive OR where
  | ok (o : Option Int) (S : Store)
  | ex (x : Exc) (S : Store)
  | bad
abbrev OM := EnvD → Store → OR
def OR.bindE (r : OR) (g : Option Int → Store → ER) : ER := match r with
  | .ok d S => g d S
  | .ex x S => .ex x S
  | .bad => .bad
def PostO (G : Glb) (W : WX) (φ : Fi) (H : Hp) (σ : L2.St) (r : OR) (Q : Option Int → Hp → Prop) : Prop := match r with
  | .ok d S => ∀ φ' H', Ext φ H φ' H' → SOk G φ' S H' → Q d H'
  | .ex x S => ∀ φ' H' cls dx, Ext φ H φ' H' → SOk G φ' S H' → IsX G φ' H' x cls dx → W cls dx σ H'
  | .bad => False
def DO (G : Glb) (X : Cx) (W : WX) (e : Option Expr) (f : OM) : Prop :=
  ∃ t, PO X e t ∧ ∀ σ H env φ S Q, SOk G φ S H → RepE G φ H σ env → PostO G W φ H σ (f env S) Q → t σ H Q
def oNone : OM := fun _ S => .ok none S
def oSome (f : EM) : OM := fun env S => match f env S with
  | .ok (.int i) S => .ok (some i) S
  | .ex x S => .ex x S
  | _ => .bad
theorem do_none : DO G X W none oNone := ⟨_, po_none, fun σ H env φ S Q s re h => h φ H .refl s⟩
theorem do_some {e : Expr} {f : EM} (h : DE G X W e f) : DO G X W (some e) (oSome f) := by
  obtain ⟨t, p, q⟩ := h
  refine ⟨_, po_some p, fun σ H env φ S Q s re h => ?_⟩
  refine q σ H env φ S _ s re ?_
  unfold oSome at h
  cases hr : f env S with
  | ok d S1 =>
    rw [hr] at h
    cases d with
    | int i => exact fun φ1 H1 v e1 s1 i1 => ⟨i, i1, h φ1 H1 e1 s1⟩
    | _ => exact False.elim h
  | ex x S1 => rw [hr] at h; exact h
  | bad => rw [hr] at h; exact False.elim h
theorem PostO.bindE {φ : Fi} {H : Hp} {σ : L2.St} {r : OR} {g : Option Int → Store → ER} {Q : VK} {Q' : Option Int → Hp → Prop} (h : PostE G W φ H σ (r.bindE g) Q)
    (k : ∀ d S φ' H', Ext φ H φ' H' → SOk G φ' S H' → PostE G W φ' H' σ (g d S) Q → Q' d H') : PostO G W φ H σ r Q' := by
  cases r with
  | ok d S => exact fun φ2 H2 e s => k d S φ2 H2 e s (PostE.ext (r := g d S) e h)
  | ex x S => exact h
  | bad => exact h
def cutD {α : Type} (xs : List α) (lo hi : Option Int) : List α := (xs.drop (HT.sIx xs.length 0 lo)).take (HT.sIx xs.length xs.length hi - HT.sIx xs.length 0 lo)
theorem IsL.cut {φ : Fi} {H : Hp} {ds : List D} {xs : List V} (h : IsL G φ H ds xs) (lo hi : Option Int) : IsL G φ H (cutD ds lo hi) (cutV xs lo hi) := by
  unfold cutD cutV
  rw [h.length]
  exact (h.drop _).take _
def slD (x : D) (lo hi : Option Int) (S : Store) : ER := match x with
  | .tup ds => .ok (.tup (cutD ds lo hi)) S
  | x => match listD S x with
    | some ds => .ok (.lst (cutD ds lo hi)) S
    | none => .bad
def eSlice (f : EM) (lo hi : OM) : EM := fun env S => (f env S).bind fun x S => (lo env S).bindE fun l S => (hi env S).bindE fun u S => slD x l u S
theorem cut_whole {α : Type} {xs : List α} {lo hi : Option Int} (h : HT.sIx xs.length 0 lo = 0 ∧ HT.sIx xs.length xs.length hi = xs.length) : cutD xs lo hi = xs := by
  unfold cutD
  rw [h.1, h.2]; simp
theorem de_slice {e : Expr} {lo hi : Option Expr} {p2 pos : Pos} {f : EM} {fl fh : OM} (hK : X.K = G.K) (he : DE G X W e f) (hl : DO G X W lo fl) (hh : DO G X W hi fh) : DE G X W (.Subscript e (.Slice lo hi none p2) pos) (eSlice f fl fh) := by
  obtain ⟨t, p, q⟩ := he
  obtain ⟨tl, pl, ql⟩ := hl
  obtain ⟨th, ph, qh⟩ := hh
  refine ⟨_, pe_slice (sl_list.or sl_tupA) p pl ph, fun σ H env φ S Q s re h => ?_⟩
  refine q σ H env φ S _ s re (PostE.bind h fun x S1 φ1 H1 v e1 s1 i1 h1 => ?_)
  refine ql σ H1 env φ1 S1 _ s1 (re.ext e1) (PostO.bindE h1 fun l S2 φ2 H2 e2 s2 h2 => ?_)
  refine qh σ H2 env φ2 S2 _ s2 ((re.ext e1).ext e2) (PostO.bindE h2 fun u S3 φ3 H3 e3 s3 h3 => ?_)
  have i3 := (i1.ext e2).ext e3
  unfold slD at h3
  split at h3
  · rename_i ds
    obtain ⟨a, xs, rfl, r, il⟩ := i3
    refine .inr ⟨a, xs, rfl, by rw [hK]; exact r.seq, fun hw => ?_, fun _ p hp => tup_new s3 (il.cut l u) h3 hp⟩
    rw [← il.length] at hw
    rw [cut_whole hw] at h3
    exact h3.now s3 ⟨a, xs, rfl, r, il⟩
  · split at h3
    · rename_i ds e
      obtain ⟨a, xs, rfl, r, il⟩ := listD_sq s3 i3 e
      exact .inl ⟨a, xs, rfl, by rw [hK]; exact r, fun p hp => lst_new s3 (il.cut l u) h3 hp⟩
    · exact False.elim h3
end
end DL
end
section
/-! D-layer, part 6: how the values are reckoned (by simp). -/
namespace DL
open PySem L2
section
variable {d : D} {S : Store} {x : Exc} {e env : EnvD} {i j : Int}
@[simp] theorem ER.bind_ok {g : D → Store → ER} : (ER.ok d S).bind g = g d S := rfl
@[simp] theorem ER.bind_ex {g : D → Store → ER} : (ER.ex x S).bind g = .ex x S := rfl
@[simp] theorem ER.bind_bad {g : D → Store → ER} : ER.bad.bind g = .bad := rfl
@[simp] theorem ER.bindL_ok {g : D → Store → LR} : (ER.ok d S).bindL g = g d S := rfl
@[simp] theorem ER.bindL_ex {g : D → Store → LR} : (ER.ex x S).bindL g = .ex x S := rfl
@[simp] theorem ER.bindL_bad {g : D → Store → LR} : ER.bad.bindL g = .bad := rfl
@[simp] theorem LR.bind_ok {ds : List D} {g : List D → Store → LR} : (LR.ok ds S).bind g = g ds S := rfl
@[simp] theorem LR.bind_ex {g : List D → Store → LR} : (LR.ex x S).bind g = .ex x S := rfl
@[simp] theorem LR.bind_bad {g : List D → Store → LR} : LR.bad.bind g = .bad := rfl
@[simp] theorem LR.bindE_ok {ds : List D} {g : List D → Store → ER} : (LR.ok ds S).bindE g = g ds S := rfl
@[simp] theorem LR.bindE_ex {g : List D → Store → ER} : (LR.ex x S).bindE g = .ex x S := rfl
@[simp] theorem LR.bindE_bad {g : List D → Store → ER} : LR.bad.bindE g = .bad := rfl
@[simp] theorem ER.bindS_ok {g : D → Store → SR} : (ER.ok d S).bindS e g = g d S := rfl
@[simp] theorem ER.bindS_ex {g : D → Store → SR} : (ER.ex x S).bindS e g = .ex x e S := rfl
@[simp] theorem ER.bindS_bad {g : D → Store → SR} : ER.bad.bindS e g = .bad := rfl
@[simp] theorem LR.bindS_ok {ds : List D} {g : List D → Store → SR} : (LR.ok ds S).bindS e g = g ds S := rfl
@[simp] theorem LR.bindS_ex {g : List D → Store → SR} : (LR.ex x S).bindS e g = .ex x e S := rfl
@[simp] theorem LR.bindS_bad {g : List D → Store → SR} : LR.bad.bindS e g = .bad := rfl
@[simp] theorem OR.bindE_ok {o : Option Int} {g : Option Int → Store → ER} : (OR.ok o S).bindE g = g o S := rfl
@[simp] theorem SR.seq_nx {g : EnvD → Store → SR} : (SR.nx e S).seq g = g e S := rfl
@[simp] theorem SR.seq_rt {g : EnvD → Store → SR} : (SR.rt d S).seq g = .rt d S := rfl
@[simp] theorem SR.seq_bk {g : EnvD → Store → SR} : (SR.bk e S).seq g = .bk e S := rfl
@[simp] theorem SR.seq_ct {g : EnvD → Store → SR} : (SR.ct e S).seq g = .ct e S := rfl
@[simp] theorem SR.seq_ex {g : EnvD → Store → SR} : (SR.ex x e S).seq g = .ex x e S := rfl
@[simp] theorem SR.seq_bad {g : EnvD → Store → SR} : SR.bad.seq g = .bad := rfl
@[simp] theorem eVar_at {i : Nat} (h : env[i]? = some (some d)) : eVar i env S = .ok d S := by unfold eVar; rw [h]
@[simp] theorem eC_is : eC d env S = .ok d S := rfl
@[simp] theorem lNil_is : lNil env S = .ok [] S := rfl
@[simp] theorem lCons_is {f : EM} {g : LM} : lCons f g env S = (f env S).bindL fun d S => (g env S).bind fun ds S => .ok (d :: ds) S := rfl
@[simp] theorem eOp_is {g : D → D → Store → ER} {a b : EM} : eOp g a b env S = (a env S).bind fun x S => (b env S).bind fun y S => g x y S := rfl
@[simp] theorem eCall_is {F : FD} {f : LM} : eCall F f env S = (f env S).bindE F := rfl
@[simp] theorem eCallB_is {g : List D → Store → ER} {f : LM} : eCallB g f env S = (f env S).bindE g := rfl
@[simp] theorem eTup_is {f : LM} : eTup f env S = (f env S).bindE fun ds S => if sz ds.length then .ok (.tup ds) S else .bad := rfl
@[simp] theorem eLst_is {f : LM} : eLst f env S = (f env S).bindE fun ds S => if sz ds.length then .ok (.lst ds) S else .bad := rfl
@[simp] theorem eLstM_is {f : LM} : eLstM f env S = (f env S).bindE fun ds S => if sz ds.length then .ok (.loc S.length) (S ++ [.lst ds]) else .bad := rfl
@[simp] theorem eAnd_is {a b : EM} : eAnd a b env S = (a env S).bind fun d S => match d with | .bl true => b env S | .bl false => .ok (.bl false) S | _ => .bad := rfl
@[simp] theorem eOr_is {a b : EM} : eOr a b env S = (a env S).bind fun d S => match d with | .bl true => .ok (.bl true) S | .bl false => b env S | _ => .bad := rfl
@[simp] theorem eNot_is {a : EM} : eNot a env S = (a env S).bind fun d S => match d with | .bl b => .ok (.bl (!b)) S | _ => .bad := rfl
@[simp] theorem eIf_is {c a b : EM} : eIf c a b env S = (c env S).bind fun d S => match d with | .bl true => a env S | .bl false => b env S | _ => .bad := rfl
@[simp] theorem eNeg_is {a : EM} : eNeg a env S = (a env S).bind fun d S => match d with | .int i => .ok (.int (-i)) S | _ => .bad := rfl
@[simp] theorem eChain_is {g g' : D → D → Store → ER} {a b c : EM} : eChain g g' a b c env S = (a env S).bind fun x S => (b env S).bind fun y S => (g x y S).bind fun z S => match z with
  | .bl true => (c env S).bind fun w S => g' y w S
  | .bl false => .ok (.bl false) S
  | _ => .bad := rfl
@[simp] theorem sSkip_is : sSkip e S = .nx e S := rfl
@[simp] theorem sBk_is : sBk e S = .bk e S := rfl
@[simp] theorem sCt_is : sCt e S = .ct e S := rfl
@[simp] theorem sSeq_is {a b : SM} : sSeq a b e S = (a e S).seq b := rfl
@[simp] theorem sRet_is {f : EM} : sRet f e S = (f e S).bindS e fun d S => .rt d S := rfl
@[simp] theorem sRetN_is : sRetN e S = .rt .non S := rfl
@[simp] theorem sDrop_is {f : EM} : sDrop f e S = (f e S).bindS e fun _ S => .nx e S := rfl
@[simp] theorem sIf_is {c : EM} {a b : SM} : sIf c a b e S = (c e S).bindS e fun d S => match d with | .bl true => a e S | .bl false => b e S | _ => .bad := rfl
@[simp] theorem sAsg_is {f : EM} {b : D → EnvD → Option EnvD} : sAsg f b e S = (f e S).bindS e fun d S => match b d e with | some e' => .nx e' S | none => .bad := rfl
@[simp] theorem sPar_is {i j : Nat} {f : LM} : sPar i j f e S = (f e S).bindS e fun ds S => match ds with | [a, b] => .nx ((e.set i (some a)).set j (some b)) S | _ => .bad := rfl
@[simp] theorem sPar3_is {i j l : Nat} {f : LM} : sPar3 i j l f e S = (f e S).bindS e fun ds S => match ds with | [a, b, c] => .nx (((e.set i (some a)).set j (some b)).set l (some c)) S | _ => .bad := rfl
@[simp] theorem sAug_is {i : Nat} {g : D → D → Store → ER} {f : EM} : sAug i g f e S = (eOp g (eVar i) f e S).bindS e fun d S => .nx (e.set i (some d)) S := rfl
@[simp] theorem sFor_is {f : LM} {b : D → EnvD → Option EnvD} {body : SM} : sFor f b body e S = (f e S).bindS e fun ds S => forD b body ds e S := rfl
@[simp] theorem sPutL_is {o i f : EM} : sPutL o i f env S = (f env S).bindS env fun d S => (o env S).bindS env fun a S => (i env S).bindS env fun b S => match setD a b d S with
  | some S' => .nx env S'
  | none => .bad := rfl
@[simp] theorem bName_is {i : Nat} : bName i d env = some (env.set i (some d)) := rfl
@[simp] theorem bTup_is {b : List D → EnvD → Option EnvD} {ds : List D} : bTup b (.tup ds) env = b ds env := rfl
@[simp] theorem bNil_is : bNil [] env = some env := rfl
@[simp] theorem bCons_is {b : D → EnvD → Option EnvD} {c : List D → EnvD → Option EnvD} {ds : List D} : bCons b c (d :: ds) env = (b d env).bind (c ds) := rfl
@[simp] theorem forD_nil {b : D → EnvD → Option EnvD} {body : SM} : forD b body [] e S = .nx e S := rfl
@[simp] theorem iSeq_is {f : EM} : iSeq f env S = (f env S).bindL fun d S => match d with
  | .lst ds => .ok ds S
  | .tup ds => .ok ds S
  | .str x => .ok (signsD x) S
  | _ => .bad := rfl
@[simp] theorem iRange1_is {f : LM} : iRange1 f env S = (f env S).bind fun ds S => match ds with
  | [.int j] => if rOk j then .ok (rangeD 0 j.toNat) S else .bad
  | _ => .bad := rfl
@[simp] theorem iRange2_is {f : LM} : iRange2 f env S = (f env S).bind fun ds S => match ds with
  | [.int i, .int j] => if rOk i ∧ rOk j then .ok (rangeD i (j - i).toNat) S else .bad
  | _ => .bad := rfl
theorem rOk_n {n : Nat} (h : n ≤ 1000000000) : rOk (n : Int) := ⟨by omega, by omega⟩
theorem rOk_i {n : Int} (h0 : -1000000000 ≤ n) (h : n ≤ 1000000000) : rOk n := ⟨by omega, by omega⟩
@[simp] theorem iEnumD_is {f : LM} : iEnumD f env S = (f env S).bind fun ds S => match ds with
  | [.lst ds] => .ok (enumD 0 ds) S
  | _ => .bad := rfl
@[simp] theorem iZipD_is {f : LM} : iZipD f env S = (f env S).bind fun ds S => match ds with
  | [.lst ds, .lst es] => .ok (zipD ds es) S
  | _ => .bad := rfl
@[simp] theorem eLc_is {f : LM} {b : D → EnvD → Option EnvD} {tt elt : EM} {vs : List Nat} : eLc f b tt elt vs env S = (f env S).bindE fun ds S => (lcD b tt elt (wipeD env vs) [] ds S).bindE fun ys S => .ok (.lst ys) S := rfl
@[simp] theorem eLcM_is {f : LM} {b : D → EnvD → Option EnvD} {tt elt : EM} {vs : List Nat} : eLcM f b tt elt vs env S = (f env S).bindE fun ds S => (lcD b tt elt (wipeD env vs) [] ds S).bindE fun ys S => .ok (.loc S.length) (S ++ [.lst ys]) := rfl
@[simp] theorem eYes_is : eYes env S = .ok (.bl true) S := rfl
@[simp] theorem wipeD_nil : wipeD env [] = env := rfl
@[simp] theorem wipeD_cons {v : Nat} {vs : List Nat} : wipeD env (v :: vs) = (wipeD env vs).set v none := rfl
@[simp] theorem lcD_nil {b : D → EnvD → Option EnvD} {tt elt : EM} {acc : List D} : lcD b tt elt env acc [] S = .ok acc S := rfl
/-! operators on known values -/
@[simp] theorem opAdd_ii : opAdd (.int i) (.int j) S = .ok (.int (i + j)) S := rfl
@[simp] theorem opAdd_tt {a b : List D} : opAdd (.tup a) (.tup b) S = if sz (a.length + b.length) then .ok (.tup (a ++ b)) S else .bad := rfl
@[simp] theorem opAdd_ll {a b : List D} : opAdd (.lst a) (.lst b) S = if sz (a.length + b.length) then .ok (.lst (a ++ b)) S else .bad := rfl
@[simp] theorem opAdd_ss {a b : Str} : opAdd (.str a) (.str b) S = if sz (a.length + b.length) then .ok (.str (a ++ b)) S else .bad := rfl
@[simp] theorem opSub_ii : opSub (.int i) (.int j) S = .ok (.int (i - j)) S := rfl
@[simp] theorem opMul_ii : opMul (.int i) (.int j) S = if mulOk i j then .ok (.int (i * j)) S else .bad := rfl
@[simp] theorem sz_is {n : Nat} (h : n ≤ 16777216) : sz n := h
@[simp] theorem mulOk_l (h : i.natAbs < 18446744073709551616) : mulOk i j := .inl h
@[simp] theorem mulOk_r (h : j.natAbs < 18446744073709551616) : mulOk i j := .inr (.inl h)
@[simp] theorem divOk_s (h0 : 0 < j) (h : j < 1073741824) : divOk j := ⟨h0, .inl h⟩
@[simp] theorem powOk_is (h0 : 0 ≤ j) (h : j ≤ 1000000) (h2 : i.natAbs < 18446744073709551616) : powOk i j := ⟨h0, h, h2⟩
@[simp] theorem mulSOk_l (h : i.natAbs < 18446744073709551616) : mulSOk i j := .inl h
@[simp] theorem mulSOk_r (h : j.natAbs < 18446744073709551616) : mulSOk i j := .inr h
@[simp] theorem opMod_ii : opMod (.int i) (.int j) S = if 0 < j then .ok (.int (i % j)) S else .bad := rfl
@[simp] theorem opFdiv_ii : opFdiv (.int i) (.int j) S = if divOk j then .ok (.int (i / j)) S else .bad := rfl
@[simp] theorem opPow_ii : opPow (.int i) (.int j) S = if powOk i j then .ok (.int (i ^ j.toNat)) S else .bad := rfl
@[simp] theorem opMulS_ii : opMulS (.int i) (.int j) S = if mulSOk i j then .ok (.int (i * j)) S else .bad := rfl
@[simp] theorem opAddI_ii : opAddI (.int i) (.int j) S = .ok (.int (i + j)) S := rfl
@[simp] theorem opLt_ii : opLt (.int i) (.int j) S = .ok (.bl (decide (i < j))) S := rfl
@[simp] theorem opLe_ii : opLe (.int i) (.int j) S = .ok (.bl (decide (i ≤ j))) S := rfl
@[simp] theorem opGt_ii : opGt (.int i) (.int j) S = .ok (.bl (decide (j < i))) S := rfl
@[simp] theorem opGe_ii : opGe (.int i) (.int j) S = .ok (.bl (decide (j ≤ i))) S := rfl
theorem shaped_int (i : Int) : SeqAt.shaped (.int i) = true := rfl
@[simp] theorem opEq_ii : opEq (.int i) (.int j) S = .ok (.bl (decide (i = j))) S := by
  unfold opEq opEqB
  simp only [D.pyO, D.py, shaped_int, Bool.and_self, if_true]
  show ER.ok (.bl (i == j)) S = _
  rw [Bool.beq_eq_decide_eq]
@[simp] theorem opNe_ii : opNe (.int i) (.int j) S = .ok (.bl (!decide (i = j))) S := by
  unfold opNe opEqB
  simp only [D.pyO, D.py, shaped_int, Bool.and_self, if_true]
  show ER.ok (.bl (!(i == j))) S = _
  rw [Bool.beq_eq_decide_eq]
@[simp] theorem opEq_ss {a b : Str} : opEq (.str a) (.str b) S = .ok (.bl (decide (a = b))) S := rfl
@[simp] theorem opNe_ss {a b : Str} : opNe (.str a) (.str b) S = .ok (.bl (!decide (a = b))) S := rfl
@[simp] theorem opEq_bb {a b : Bool} : opEq (.bl a) (.bl b) S = .ok (.bl (a == b)) S := rfl
@[simp] theorem opNe_bb {a b : Bool} : opNe (.bl a) (.bl b) S = .ok (.bl (!(a == b))) S := rfl
@[simp] theorem opIsN_non : opIsN d .non S = .ok (.bl d.isN) S := rfl
@[simp] theorem opNotN_non : opNotN d .non S = .ok (.bl (!d.isN)) S := rfl
@[simp] theorem isN_non : D.isN .non = true := rfl
@[simp] theorem isN_int : D.isN (.int i) = false := rfl
@[simp] theorem isN_str {z : Str} : D.isN (.str z) = false := rfl
@[simp] theorem isN_bl {b : Bool} : D.isN (.bl b) = false := rfl
@[simp] theorem isN_tup {ds : List D} : D.isN (.tup ds) = false := rfl
@[simp] theorem isN_lst {ds : List D} : D.isN (.lst ds) = false := rfl
@[simp] theorem isN_loc {l : Nat} : D.isN (.loc l) = false := rfl
@[simp] theorem isN_dic {ks ds} : D.isN (.dic ks ds) = false := rfl
@[simp] theorem isN_obj {c ks ds} : D.isN (.obj c ks ds) = false := rfl
@[simp] theorem atI_0 {α : Type} {a : α} {r : List α} : atI (a :: r) 0 = some a := by simp [atI, ixN]
@[simp] theorem atI_1 {α : Type} {a b : α} {r : List α} : atI (a :: b :: r) 1 = some b := by
  have : (1 : Int) < (r.length : Int) + 1 + 1 := by omega
  simp [atI, ixN, this]
@[simp] theorem atI_2 {α : Type} {a b c : α} {r : List α} : atI (a :: b :: c :: r) 2 = some c := by
  have : (2 : Int) < (r.length : Int) + 1 + 1 + 1 := by omega
  simp [atI, ixN, this]
@[simp] theorem opIx_ti {ds : List D} : opIx (.tup ds) (.int i) S = match atI ds i with | some d => .ok d S | none => .bad := rfl
@[simp] theorem opIx_li {ds : List D} : opIx (.lst ds) (.int i) S = match atI ds i with | some d => .ok d S | none => .bad := rfl
/-- a cell, by a name of its own -/
def cel (S : Store) (l : Nat) : Option Cell := S[l]?
theorem cel_lt {l : Nat} {c : Cell} (h : cel S l = some c) : l < S.length := (List.getElem?_eq_some_iff.mp h).1
@[simp] theorem cel_set_same {l : Nat} {c : Cell} (h : (cel S l).isSome = true) : cel (S.set l c) l = some c := by
  obtain ⟨c0, e⟩ := Option.isSome_iff_exists.mp h
  exact List.getElem?_set_self (cel_lt e)
@[simp] theorem cel_set_ne {l m : Nat} {c : Cell} (h : l ≠ m) : cel (S.set l c) m = cel S m := List.getElem?_set_ne h
@[simp] theorem cel_last {c : Cell} : cel (S ++ [c]) S.length = some c := by simp [cel]
@[simp] theorem opIx_c {l : Nat} : opIx (.loc l) (.int i) S = match cel S l with
  | some (.lst ds) => (match atI ds i with | some d => .ok d S | none => .bad)
  | _ => .bad := by
  simp only [opIx, listD, cel]
  cases S[l]? with
  | none => rfl
  | some c => cases c <;> first | rfl | (rename_i ds; cases atI ds i <;> rfl)
@[simp] theorem bLen_t {ds : List D} : bLen [.tup ds] S = .ok (.int ds.length) S := rfl
@[simp] theorem bLen_l {ds : List D} : bLen [.lst ds] S = .ok (.int ds.length) S := rfl
@[simp] theorem bLen_c {l : Nat} : bLen [.loc l] S = match cel S l with | some (.lst ds) => .ok (.int ds.length) S | _ => .bad := by
  simp only [bLen, seqD, listD, cel]
  cases S[l]? with
  | none => rfl
  | some c => cases c <;> rfl
@[simp] theorem bLen_s {z : Str} : bLen [.str z] S = if sz z.length then .ok (.int z.length) S else .bad := rfl
@[simp] theorem bII_is {g : Int → Int → Int} : bII g [.int i, .int j] S = .ok (.int (g i j)) S := rfl
@[simp] theorem bAbs_is : bAbs [.int i] S = .ok (.int (if i < 0 then -i else i)) S := rfl
@[simp] theorem bInt_i : bInt [.int i] S = .ok (.int i) S := rfl
@[simp] theorem bInt_b {b : Bool} : bInt [.bl b] S = .ok (.int (if b then 1 else 0)) S := rfl
@[simp] theorem bList_l {ds : List D} : bList [.lst ds] S = .ok (.lst ds) S := rfl
@[simp] theorem bList_t {ds : List D} : bList [.tup ds] S = .ok (.lst ds) S := rfl
@[simp] theorem bTuple_l {ds : List D} : bTuple [.lst ds] S = .ok (.tup ds) S := rfl
@[simp] theorem bTuple_t {ds : List D} : bTuple [.tup ds] S = .ok (.tup ds) S := rfl
@[simp] theorem bAll_is {bs : List Bool} : bAll [.lst (bs.map .bl)] S = .ok (.bl (bs.all id)) S := by simp [bAll, listD, blsD_map]
@[simp] theorem bAny_is {bs : List Bool} : bAny [.lst (bs.map .bl)] S = .ok (.bl (bs.any id)) S := by simp [bAny, listD, blsD_map]
@[simp] theorem bSum_is {ns : List Int} : bSum [.lst (ns.map .int)] S = .ok (.int ns.sum) S := by simp [bSum, listD, intsD_map]
@[simp] theorem oNone_is : oNone env S = .ok none S := rfl
@[simp] theorem oSome_is {f : EM} (h : f env S = .ok (.int i) S) : oSome f env S = .ok (some i) S := by unfold oSome; rw [h]
@[simp] theorem eSlice_is {f : EM} {lo hi : OM} : eSlice f lo hi env S = (f env S).bind fun x S => (lo env S).bindE fun l S => (hi env S).bindE fun u S => slD x l u S := rfl
@[simp] theorem slD_l {ds : List D} {a b : Option Int} : slD (.lst ds) a b S = .ok (.lst (cutD ds a b)) S := rfl
@[simp] theorem slD_t {ds : List D} {a b : Option Int} : slD (.tup ds) a b S = .ok (.tup (cutD ds a b)) S := rfl
@[simp] theorem eIsi_is {b : Ty} {f : EM} : eIsi b f env S = (f env S).bind fun d S => match tyOf S d with | some a => .ok (.bl (a.isa b)) S | none => .bad := rfl
@[simp] theorem eIsi2_is {b c : Ty} {f : EM} : eIsi2 b c f env S = (f env S).bind fun d S => match tyOf S d with | some a => .ok (.bl (a.isa b || a.isa c)) S | none => .bad := rfl
@[simp] theorem tyOf_int : tyOf S (.int i) = some .int := rfl
@[simp] theorem tyOf_bl {b : Bool} : tyOf S (.bl b) = some .bool := rfl
@[simp] theorem tyOf_str {z : Str} : tyOf S (.str z) = some .str := rfl
@[simp] theorem tyOf_non : tyOf S .non = some .none := rfl
@[simp] theorem tyOf_tup {ds : List D} : tyOf S (.tup ds) = some .tuple := rfl
@[simp] theorem tyOf_lst {ds : List D} : tyOf S (.lst ds) = some .list := rfl
@[simp] theorem tyOf_dic {ks ds} : tyOf S (.dic ks ds) = some .dict := rfl
@[simp] theorem setD_is {l : Nat} : setD (.loc l) (.int i) d S = match cel S l with | some (.lst ds) => (putIx i ds d).map fun es => S.set l (.lst es) | _ => none := rfl
@[simp] theorem putIx_0 {a : D} {r : List D} : putIx 0 (a :: r) d = some (d :: r) := by simp [putIx, ixN]
@[simp] theorem putIx_1 {a b : D} {r : List D} : putIx 1 (a :: b :: r) d = some (a :: d :: r) := by
  have : (1 : Int) < (r.length : Int) + 1 + 1 := by omega
  simp [putIx, ixN, this]
@[simp] theorem putIx_2 {a b c : D} {r : List D} : putIx 2 (a :: b :: c :: r) d = some (a :: b :: d :: r) := by
  have : (2 : Int) < (r.length : Int) + 1 + 1 + 1 := by omega
  simp [putIx, ixN, this]
@[simp] theorem fnF_is {m : Mode} {n : Nat} {g : SM} {ds : List D} : fnF m n g ds S = match g (startD n ds) S with
  | .nx _ S1 => exitD m S .non S1
  | .rt d S1 => exitD m S d S1
  | .ex x _ S1 => .ex x S1
  | _ => .bad := rfl
@[simp] theorem exitD_keep {S0 : Store} : exitD .keep S0 d S = .ok d S := rfl
theorem exit_of {S0 : Store} {d' : D} (h : frzD (resD S0.length S 12) d = some d') (h2 : S.take S0.length = S0) : exitD .pure S0 d S = .ok d' S0 := by
  unfold exitD
  simp only [h]
  rw [if_pos (.inl h2), h2]
theorem exit_same {S0 : Store} {d' : D} (h : frzD (resD S0.length S0 12) d = some d') : exitD .pure S0 d S0 = .ok d' S0 := exit_of h (by simp)
@[simp] theorem exit_int {S0 : Store} : exitD .pure S0 (.int i) S0 = .ok (.int i) S0 := exit_same rfl
@[simp] theorem exit_bl {S0 : Store} {b : Bool} : exitD .pure S0 (.bl b) S0 = .ok (.bl b) S0 := exit_same rfl
@[simp] theorem exit_str {S0 : Store} {z : Str} : exitD .pure S0 (.str z) S0 = .ok (.str z) S0 := exit_same rfl
@[simp] theorem exit_non {S0 : Store} : exitD .pure S0 .non S0 = .ok .non S0 := exit_same rfl
@[simp] theorem exit_int2 {S0 : Store} {j : Int} : exitD .pure S0 (.tup [.int i, .int j]) S0 = .ok (.tup [.int i, .int j]) S0 := exit_same rfl
@[simp] theorem startD1 {a : D} {n : Nat} : startD (n + 1) [a] = some a :: List.replicate n none := by simp [startD]
@[simp] theorem startD2 {a b : D} {n : Nat} : startD (n + 2) [a, b] = some a :: some b :: List.replicate n none := by simp [startD]
@[simp] theorem startD3 {a b c : D} {n : Nat} : startD (n + 3) [a, b, c] = some a :: some b :: some c :: List.replicate n none := by simp [startD]
end
end DL
end
section
/-! D-layer, part 7: more of sequences; dicts. -/
namespace L2
open PySem PySem.Spec PyProof.Rows
section
variable {X : Cx}
def rInTu (K : PySem.W.Frag) (neg : Bool) : R2 := fun x y H Q => ∃ d ds, Dp K H x d ∧ Dp K H y (.tuple ds) ∧ SeqAt.shaped d = true ∧ SeqAt.shaped (.tuple ds) = true ∧ Q (.bl (if neg then !(ds.any fun z => PyData.eqv z d) else ds.any fun z => PyData.eqv z d)) H
theorem op_inTu (hu : X.A.units + 65 < cLine) : OpR X (compareOp .In) (rInTu X.K false) := by
  intro pins s σ H x y v u Q I rx ry h
  obtain ⟨d, ds, hd, he, sd, se, q⟩ := h
  obtain ⟨as, r1⟩ := Dp.reads I d x v hd rx
  obtain ⟨bs, r2⟩ := Dp.reads I (.tuple ds) y u he ry
  exact SeqAt.in_tuple_reads r2 r1 (SeqAt.canLay_of_shaped se) (SeqAt.canLay_of_shaped sd) (room_in_shaped sd hu) ⟨.bl _, H, I, rfl, q⟩
end
end L2
namespace DL
open PySem L2 PySem.Spec PyProof.Rows

/-! ### a list's cell changes -/
def w63 (i : Int) : Prop := -(2 ^ 63) ≤ i ∧ i < 2 ^ 63
noncomputable instance {i : Int} : Decidable (w63 i) := Classical.propDecidable _
section
variable {G : Glb} {X : Cx} {W : WX}
theorem IsL.eraseIdx {φ : Fi} {H : Hp} : ∀ {ds : List D} {xs : List V} (n : Nat), IsL G φ H ds xs → IsL G φ H (ds.eraseIdx n) (xs.eraseIdx n)
  | [], xs, n, h => by cases (show xs = [] from h); exact rfl
  | _ :: _, xs, 0, h => by
    obtain ⟨x, r, rfl, p, q⟩ := h
    exact q
  | _ :: _, xs, n + 1, h => by
    obtain ⟨x, r, rfl, p, q⟩ := h
    exact ⟨x, _, rfl, p, IsL.eraseIdx n q⟩
noncomputable def mPopAt (o : D) (ds : List D) (S : Store) : ER := cellL S o fun l xs => match ds with
  | [.int i] => if w63 i then (match seqIndex? i xs.length with
    | some k => (match xs[k]? with
      | some d => .ok d (S.set l (.lst (xs.eraseIdx k)))
      | none => .bad)
    | none => .bad) else .bad
  | _ => .bad
theorem dm_popAt : DMeth G X "list.pop" mPopAt := by
  refine ⟨_, mt_popAt, fun W φ S H σ dx ds x xs Q s ix ids h => ?_⟩
  refine cellL_is s ix h fun l es a ys e1 e2 e3 ha hx q h1 => ?_
  subst e1 e3
  split at h1
  · obtain ⟨y, rfl, k⟩ := IsL.inv1 ids
    cases (show y = _ from k)
    split at h1
    · rename_i hw
      split at h1
      · rename_i j hj
        split at h1
        · rename_i d hd
          obtain ⟨z, hz, iz⟩ := q.get hd
          exact ⟨a, ys, _, j, z, rfl, rfl, hx, hw.1, hw.2, by rw [← q.length]; exact hj, hz, cell_put s ha (q.eraseIdx j) iz h1⟩
        · exact False.elim h1
      · exact False.elim h1
    · exact False.elim h1
  · exact False.elim h1
noncomputable def mInsert (o : D) (ds : List D) (S : Store) : ER := cellL S o fun l xs => match ds with
  | [.int i, d] => if sz (xs.length + 1) ∧ 0 ≤ i ∧ w63 i then .ok .non (S.set l (.lst (xs.take i.toNat ++ [d] ++ xs.drop i.toNat))) else .bad
  | _ => .bad
def mClear (o : D) (ds : List D) (S : Store) : ER := cellL S o fun l xs => match ds with
  | [] => .ok .non (S.set l (.lst []))
  | _ => .bad
def mRemove (o : D) (ds : List D) (S : Store) : ER := cellL S o fun l xs => match ds with
  | [.int k] => match intsD xs with
    | some ns => if k ∈ ns then .ok .non (S.set l (.lst ((ns.erase k).map .int))) else .bad
    | none => .bad
  | _ => .bad
/-! ### sorted -/
/-- whole numbers in order -/
def sortI (ns : List Int) : List Int := ns.mergeSort fun a b => decide (a ≤ b)
theorem sortI_perm (ns : List Int) : (sortI ns).Perm ns := List.mergeSort_perm ns _
theorem sortI_pw (ns : List Int) : (sortI ns).Pairwise (· ≤ ·) := by
  have := List.pairwise_mergeSort (le := fun a b : Int => decide (a ≤ b)) (fun a b c => by simp; omega) (fun a b => by simp; omega) ns
  exact this.imp fun h => by simpa using h
theorem sorted_uniq : ∀ {l m : List Int}, l.Perm m → l.Pairwise (· ≤ ·) → m.Pairwise (· ≤ ·) → l = m := fun p h1 h2 =>
  List.Perm.eq_of_pairwise (fun a b _ _ h h' => Int.le_antisymm h h') h1 h2 p
def bSorted (ds : List D) (S : Store) : ER := match ds with
  | [d] => match (listD S d).bind intsD with
    | some ns => .ok (.lst ((sortI ns).map .int)) S
    | none => .bad
  | _ => .bad
theorem dc_sorted (hK : X.K = G.K) : DCall G X (.builtin "sorted") bSorted := by
  refine ⟨_, cr_sortedI, fun W φ S H σ ds xs Q s i h => ?_⟩
  unfold bSorted at h
  split at h
  · obtain ⟨x, rfl, k⟩ := IsL.inv1 i
    split at h
    · rename_i ns e
      obtain ⟨es, e1, e2⟩ := Option.bind_eq_some_iff.mp e
      obtain ⟨a, ys, rfl, r, q⟩ := listD_sq s k e1
      rw [intsD_is e2] at q
      refine ⟨a, ns, rfl, by rw [hK, ← q.ints]; exact r, fun ns' p hp hw hn => ?_⟩
      rw [sorted_uniq (hp.trans (sortI_perm ns).symm) hw (sortI_pw ns)]
      exact lst_new s IsL.of_ints h hn
    · exact bad_no h
  · exact bad_no h
/-! ### list(range(..)) -/
/-- a range by its bounds -/
def DR (G : Glb) (X : Cx) (W : WX) (e : Expr) (f : LM) : Prop :=
  ∃ t, PRg X e t ∧ ∀ σ H env φ S (Q : Int → Int → Hp → Prop), SOk G φ S H → RepE G φ H σ env → PostL G W φ H σ (f env S) (fun vs H' => ∀ i j, vs = [.int i, .int j] → Q i j H') → t σ H Q
noncomputable def rg1 (f : EM) : LM := fun env S => (f env S).bindL fun d S => match d with
  | .int n => if rOk n ∧ sz n.toNat then .ok [.int 0, .int n] S else .bad
  | _ => .bad
noncomputable def rg2D (d d2 : D) (S : Store) : LR := match d, d2 with
  | .int i, .int j => if rOk i ∧ rOk j ∧ sz (j - i).toNat then .ok [.int i, .int j] S else .bad
  | _, _ => .bad
noncomputable def rg2 (f g : EM) : LM := fun env S => (f env S).bindL fun d S => (g env S).bindL fun d2 S => rg2D d d2 S
def eLRg (f : LM) : EM := fun env S => (f env S).bindE fun ds S => match ds with
  | [.int i, .int j] => .ok (.lst (rangeD i (j - i).toNat)) S
  | _ => .bad
def eLRgM (f : LM) : EM := fun env S => (f env S).bindE fun ds S => match ds with
  | [.int i, .int j] => .ok (.loc S.length) (S ++ [.lst (rangeD i (j - i).toNat)])
  | _ => .bad
def eTRg (f : LM) : EM := fun env S => (f env S).bindE fun ds S => match ds with
  | [.int i, .int j] => .ok (.tup (rangeD i (j - i).toNat)) S
  | _ => .bad
/-! ### bits, xs * n -/
def opAnd (x y : D) (S : Store) : ER := opI (fun i j => .ok (.int (Builtin.bitAnd i j)) S) x y
def opOr (x y : D) (S : Store) : ER := opI (fun i j => .ok (.int (Builtin.bitOr i j)) S) x y
def opXor (x y : D) (S : Store) : ER := opI (fun i j => .ok (.int (Builtin.bitXor i j)) S) x y
def opShr (x y : D) (S : Store) : ER := opI (fun i j => if 0 ≤ j then .ok (.int (i / 2 ^ j.toNat)) S else .bad) x y
noncomputable def opShl (x y : D) (S : Store) : ER := opI (fun i j => if powOk i j then .ok (.int (i * 2 ^ j.toNat)) S else .bad) x y
/-- xs * n (a cell's list), tuple * n -/
noncomputable def opMulX (x y : D) (S : Store) : ER := match x, y with
  | .loc l, .int k => match S[l]? with
    | some (.lst ds) => if w63 k ∧ sz (ds.length * k.toNat) then .ok (.lst (List.replicate k.toNat ds).flatten) S else .bad
    | _ => .bad
  | x, y => opMul x y S
/-! ### dicts as data -/
def keyD : D → Option Key
  | .int i => some (.inl i)
  | .str x => some (.inr x)
  | _ => none
def dKey : Key → D
  | .inl i => .int i
  | .inr x => .str x
def dicD (S : Store) : D → Option (List (Key × D))
  | .dic ks ds => some (ks.zip ds)
  | .loc l => match S[l]? with
    | some (.dic kvs) => some kvs
    | _ => none
  | _ => none
theorem keyD_is {φ : Fi} {H : Hp} {d : D} {v : V} {k : Key} (i : Is G φ H d v) (e : keyD d = some k) : v = kV k := by
  cases d with
  | int n => cases e; exact i
  | str x => cases e; exact i
  | _ => cases e
theorem is_dKey {φ : Fi} {H : Hp} (k : Key) : Is G φ H (dKey k) (kV k) := by cases k <;> rfl
/-- keys alike, values as data say -/
def KvIs (G : Glb) (φ : Fi) (H : Hp) (kds : List (Key × D)) (kvs : List (Key × V)) : Prop := kvs.map (·.1) = kds.map (·.1) ∧ IsL G φ H (kds.map (·.2)) (kvs.map (·.2))
theorem zip_fst {α β : Type} : ∀ {ks : List α} {ds : List β}, ks.length = ds.length → (ks.zip ds).map (·.1) = ks
  | [], _, _ => by simp
  | _ :: _, [], h => by simp at h
  | k :: ks, d :: ds, h => by simp [zip_fst (ks := ks) (ds := ds) (by simpa using h)]
theorem zip_snd {α β : Type} : ∀ {ks : List α} {ds : List β}, ks.length = ds.length → (ks.zip ds).map (·.2) = ds
  | [], [], _ => by simp
  | [], _ :: _, h => by simp at h
  | _ :: _, [], h => by simp at h
  | k :: ks, d :: ds, h => by simp [zip_snd (ks := ks) (ds := ds) (by simpa using h)]
theorem dicD_is {φ : Fi} {S : Store} {H : Hp} {d : D} {v : V} {kds : List (Key × D)} (s : SOk G φ S H) (i : Is G φ H d v) (e : dicD S d = some kds) : ∃ a kvs, v = .ref a ∧ Rd H a (.dK kvs) ∧ KvIs G φ H kds kvs := by
  cases d with
  | dic ks ds =>
    cases e
    obtain ⟨a, kvs, rfl, ⟨_, r⟩, z, q⟩ := i
    have hl : ks.length = ds.length := by rw [q.length, ← z]; simp
    exact ⟨a, kvs, rfl, r, by rw [zip_fst hl]; exact z, by rw [zip_snd hl]; exact q⟩
  | loc l =>
    obtain ⟨a, ha, rfl⟩ := i
    simp only [dicD] at e
    split at e
    · rename_i kvs hc
      cases e
      obtain ⟨ws, hw, z, q⟩ := s.at_ hc ha
      exact ⟨a, ws, rfl, .inl hw, z, q⟩
    · cases e
  | _ => cases e
/-- the value of a key -/
def valD (kds : List (Key × D)) (k : Key) : Option D := (kds.find? fun kv => decide (kv.1 = k)).map (·.2)
theorem val_is {φ : Fi} {H : Hp} : ∀ {kds : List (Key × D)} {kvs : List (Key × V)} (k : Key), KvIs G φ H kds kvs → (∀ d, valD kds k = some d → ∃ v, valV kvs k = some v ∧ Is G φ H d v) ∧ (valD kds k = none → valV kvs k = none)
  | [], kvs, k, h => by
    have : kvs = [] := by simpa using h.1
    subst this
    exact ⟨fun d e => (nomatch e), fun _ => rfl⟩
  | (k0, d0) :: kds, kvs, k, h => by
    obtain ⟨h1, h2⟩ := h
    cases kvs with
    | nil => simp at h1
    | cons p r =>
      obtain ⟨kp, vp⟩ := p
      simp only [List.map_cons, List.cons.injEq] at h1
      obtain ⟨e1, e2⟩ := h1
      subst e1
      obtain ⟨x, xs, e3, i1, i2⟩ := h2
      simp only [List.map_cons, List.cons.injEq] at e3
      obtain ⟨rfl, rfl⟩ := e3
      have ih := val_is k (show KvIs G φ H kds r from ⟨e2, i2⟩)
      by_cases hk : kp = k
      · subst hk
        refine ⟨fun d e => ⟨vp, valV_pos rfl, ?_⟩, fun e => ?_⟩
        · simp [valD] at e; subst e; exact i1
        · simp [valD] at e
      · have ed : valD ((kp, d0) :: kds) k = valD kds k := by simp [valD, hk]
        rw [ed, valV_neg (p := (kp, vp)) hk]
        exact ih
/-- y in d, d[y] as operators -/
def rInDc (neg : Bool) : R2 := fun y x H Q => ∃ a o, x = .ref a ∧ DGet H a y o ∧ Q (.bl (if neg then !o.isSome else o.isSome)) H
theorem op_inDc (hu : X.A.units + 1 < cLine) : OpR X (compareOp .In) (rInDc false) := by
  intro pins s σ H y x u v Q I ry rx h
  obtain ⟨a, o, rfl, g, q⟩ := h
  cases rx
  exact d_in hu I g ry fun s3 I3 => ⟨.bl o.isSome, H, I3, rfl, q⟩
def flatD : D → Bool
  | .non => true
  | .bl _ => true
  | .int _ => true
  | .str _ => true
  | _ => false
def eqF : D → D → Bool
  | .non, .non => true
  | .bl a, .bl b => a == b
  | .bl a, .int b => (if a then 1 else 0) == b
  | .int a, .bl b => a == (if b then 1 else 0)
  | .int a, .int b => a == b
  | .str a, .str b => a == b
  | _, _ => false
theorem flat_is {φ : Fi} {H : Hp} {d : D} {v : V} (i : Is G φ H d v) (h : flatD d = true) : flatV v = true := by
  cases d <;> first | (cases h; done) | (cases (show v = _ from i); rfl)
theorem eqF_is {φ : Fi} {H : Hp} {d e : D} {v u : V} (i : Is G φ H d v) (j : Is G φ H e u) (h : flatD d = true) (h2 : flatD e = true) : eqV v u = eqF d e := by
  cases d <;> first | (cases h; done) | (cases (show v = _ from i); cases e <;> first | (cases h2; done) | (cases (show u = _ from j); rfl))
theorem flats_is {φ : Fi} {H : Hp} : ∀ {ds : List D} {vs : List V}, IsL G φ H ds vs → ds.all flatD = true → vs.all flatV = true
  | [], vs, i, _ => by cases (show vs = [] from i); rfl
  | d :: ds, vs, i, h => by
    obtain ⟨x, r, rfl, p, q⟩ := i
    simp only [List.all_cons, Bool.and_eq_true] at h ⊢
    exact ⟨flat_is p h.1, flats_is q h.2⟩
theorem inF_is {φ : Fi} {H : Hp} {x : D} {v : V} (j : Is G φ H x v) (hx : flatD x = true) : ∀ {ds : List D} {vs : List V}, IsL G φ H ds vs → ds.all flatD = true → inV v vs = ds.any fun y => eqF y x
  | [], vs, i, _ => by cases (show vs = [] from i); rfl
  | d :: ds, vs, i, h => by
    obtain ⟨u, r, rfl, p, q⟩ := i
    simp only [List.all_cons, Bool.and_eq_true] at h
    have ih := inF_is j hx q h.2
    unfold inV at ih ⊢
    rw [List.any_cons, List.any_cons, ih, eqF_is p j h.1 hx]
/-- x in y: a sign in a text, a flat item in a list or tuple, an item in a list, a key in a dict -/
def opInB (neg : Bool) (x y : D) (S : Store) : ER := match y with
  | .str z => match x with
    | .str w => match w.cps.toList with
      | [c] => .ok (.bl (if neg then !decide (c ∈ z.cps.toList) else decide (c ∈ z.cps.toList))) S
      | _ => .bad
    | _ => .bad
  | y => match dicD S y with
    | some kds => match keyD x with
      | some k => .ok (.bl (if neg then !(valD kds k).isSome else (valD kds k).isSome)) S
      | none => .bad
    | none => match seqD S y with
      | some ds => if flatD x && ds.all flatD then .ok (.bl (if neg then !(ds.any fun y => eqF y x) else ds.any fun y => eqF y x)) S
        else match x.pyO S, y.pyO S with
          | some p, some (.list ps) => if SeqAt.shaped p && SeqAt.shaped (.list ps) then .ok (.bl (if neg then !(ps.any fun z => PyData.eqv z p) else ps.any fun z => PyData.eqv z p)) S else .bad
          | some p, some (.tuple ps) => if SeqAt.shaped p && SeqAt.shaped (.tuple ps) then .ok (.bl (if neg then !(ps.any fun z => PyData.eqv z p) else ps.any fun z => PyData.eqv z p)) S else .bad
          | _, _ => .bad
      | none => .bad
def opIn := opInB false
def opNotIn := opInB true
theorem str1 {w : Str} {c : Nat} (h : w.cps.toList = [c]) : w = ⟨#[c]⟩ := by
  obtain ⟨a⟩ := w
  have : a = #[c] := by apply Array.ext'; simpa using h
  rw [this]
theorem in_is {neg : Bool} {φ : Fi} {S : Store} {H : Hp} {σ : L2.St} {dx dy : D} {x y : V} {Q : VK} (hK : X.K = G.K) (s : SOk G φ S H) (ix : Is G φ H dx x) (iy : Is G φ H dy y) (h : PostE G W φ H σ (opInB neg dx dy S) Q) :
    (∃ (c : Nat) (z : Str), x = .str ⟨#[c]⟩ ∧ y = .str z ∧ Q (.bl (if neg then !decide (c ∈ z.cps.toList) else decide (c ∈ z.cps.toList))) H) ∨ rInDc neg x y H Q ∨ rIn X.K neg x y H Q ∨
    (∃ d ds, Dp X.K H x d ∧ Dp X.K H y (.list ds) ∧ SeqAt.shaped d = true ∧ SeqAt.shaped (.list ds) = true ∧ Q (.bl (if neg then !(ds.any fun z => PyData.eqv z d) else ds.any fun z => PyData.eqv z d)) H) ∨ rInTu X.K neg x y H Q := by
  unfold opInB at h
  split at h
  · cases (show y = _ from iy)
    split at h
    · cases (show x = _ from ix)
      split at h
      · rename_i c hc
        rw [str1 hc]
        exact .inl ⟨_, _, rfl, rfl, h.now s rfl⟩
      · exact bad_no h
    · exact bad_no h
  · split at h
    · rename_i kds e
      split at h
      · rename_i k ek
        obtain ⟨a, kvs, rfl, r, q⟩ := dicD_is s iy e
        refine .inr (.inl ⟨a, _, rfl, .inl ⟨kvs, k, r, keyD_is ix ek, rfl⟩, ?_⟩)
        have e2 : (valV kvs k).isSome = (valD kds k).isSome := by
          have := val_is k q
          cases hd : valD kds k with
          | none => rw [this.2 hd]; rfl
          | some d => obtain ⟨v, hv, _⟩ := this.1 d hd; rw [hv]; rfl
        rw [e2]
        exact h.now s rfl
      · exact bad_no h
    · split at h
      · rename_i ds e
        obtain ⟨a, xs, rfl, r, q⟩ := seqD_sq s iy e
        split at h
        · rename_i hf
          simp only [Bool.and_eq_true] at hf
          refine .inr (.inr (.inl ⟨a, xs, rfl, by rw [hK]; exact r, flat_is ix hf.1, flats_is q hf.2, ?_⟩))
          rw [inF_is ix hf.1 q hf.2]
          exact h.now s rfl
        · split at h
          · rename_i p ps e1 e2
            split at h
            · rename_i hs
              simp only [Bool.and_eq_true] at hs
              exact .inr (.inr (.inr (.inl ⟨p, ps, by rw [hK]; exact D.pyO_dp s ix e1, by rw [hK]; exact D.pyO_dp s iy e2, hs.1, hs.2, h.now s rfl⟩)))
            · exact bad_no h
          · rename_i p ps e1 e2
            split at h
            · rename_i hs
              simp only [Bool.and_eq_true] at hs
              exact .inr (.inr (.inr (.inr ⟨p, ps, by rw [hK]; exact D.pyO_dp s ix e1, by rw [hK]; exact D.pyO_dp s iy e2, hs.1, hs.2, h.now s rfl⟩)))
            · exact bad_no h
          · exact bad_no h
      · exact bad_no h
theorem do_in (hK : X.K = G.K) (hu : X.A.units + 65 < cLine) : DOp G X (compareOp .In) opIn := by
  refine ⟨_, op_in_sign.or ((op_inDc (by omega)).or (op_in_seq.or ((op_inD hu).or (op_inTu hu)))), fun W φ S H σ dx dy x y Q s ix iy h => ?_⟩
  have := in_is hK s ix iy h
  simp only [Bool.false_eq_true, if_false] at this
  exact this
end
end DL
end
section
/-! sets of keys: how many unlike items a list or tuple has -/
namespace DL
open PySem L2 PySem.Spec PyProof.Rows
open Classical in
/-- how many unlike ones -/
noncomputable def dcntR : List Key → Nat
  | [] => 0
  | k :: r => if k ∈ r then dcntR r else dcntR r + 1
noncomputable def dcnt (ks : List Key) : Nat := dcntR ks.reverse
open Classical in
theorem dcntR_le : ∀ (l : List Key), dcntR l ≤ l.length
  | [] => Nat.le_refl _
  | k :: r => by
    have := dcntR_le r
    unfold dcntR
    simp only [List.length_cons]
    split <;> omega
theorem dcntR_eq : ∀ (l : List Key), dcntR l = l.length ↔ l.Nodup
  | [] => by simp [dcntR]
  | k :: r => by
    have h1 := dcntR_le r
    have ih := dcntR_eq r
    unfold dcntR
    rw [List.nodup_cons]
    simp only [List.length_cons]
    split
    · rename_i h
      exact ⟨fun e => by omega, fun e => absurd h e.1⟩
    · rename_i h
      exact ⟨fun e => ⟨h, ih.mp (by omega)⟩, fun e => by rw [ih.mpr e.2]⟩
theorem dcnt_eq (l : List Key) : dcnt l = l.length ↔ l.Nodup := by
  have := dcntR_eq l.reverse
  rw [List.length_reverse, (List.reverse_perm l).nodup_iff] at this
  exact this
section
variable {prog : Program} {w : World} {A : Around} {R : Result → Shared → Prop} {I : Addr} {fp wr : List Addr} {G : Array GenState → Array GenState → Prop} {n : Nat} {P : Nat → Value → Prop} {St : Nat → Shared → Prop}
end
section
variable {prog : Program} {w : World} {A : Around} {E : Value → Shared → Prop} {s : Shared}
/-- the new, empty set -/
abbrev set0 (led : Bool) : Obj := { cls := .type "set", dict := none, data := .set #[] 0 (.fresh 0 0 led) }
end
end DL
end
section
/-! set comprehensions of keys -/
namespace DL
open PySem L2 PySem.Spec PyProof.Rows PpSet
section
variable {X : Cx}
end
end DL
end
section
/-! xs[::-1] of a list or a tuple -/
namespace DL
open PySem L2 PySem.Spec PyProof.Rows HT
section
variable {prog : Program} {w : World} {A : Around} {E : Value → Shared → Prop} {s : Shared}
end
section
variable {G : Glb} {X : Cx} {W : WX}
theorem PE.or {e : Expr} {t t' : TE} (h : PE X e t) (h' : PE X e t') : PE X e (fun σ H Q => t σ H Q ∨ t' σ H Q) := ⟨fun pins s σ H Q I q => q.elim (h.run pins s σ H Q I) (h'.run pins s σ H Q I)⟩
/-- backwards -/
def revD (S : Store) (d : D) : ER := match d with
  | .tup ds => .ok (.tup ds.reverse) S
  | d => match listD S d with
    | some ds => .ok (.lst ds.reverse) S
    | none => .bad
def eRev (f : EM) : EM := fun env S => (f env S).bind revD'
  where revD' (d : D) (S : Store) : ER := revD S d
end
end DL
end
section
/-! D-layer, part 8: how many unlike ones; dicts. -/
namespace DL
open PySem L2 PySem.Spec PyProof.Rows
section
variable {G : Glb} {X : Cx} {W : WX}
def keysD : List D → Option (List Key)
  | [] => some []
  | d :: ds => (keyD d).bind fun k => (keysD ds).map (k :: ·)
/-- few keys: a set of them is scanned -/
def few (n : Nat) : Prop := n + 1 < scanBound
noncomputable instance {n : Nat} : Decidable (few n) := Classical.propDecidable _
/-! ### len(set(xs)) -/
noncomputable def eLenSet (f : EM) : EM := fun env S => (f env S).bind fun d S => match (seqD S d).bind keysD with
  | some ks => if few ks.length then .ok (.int (dcnt ks : Nat)) S else .bad
  | none => .bad
/-! ### len({e for ..}) -/
noncomputable def scD (b : D → EnvD → Option EnvD) (tt elt : EM) (env : EnvD) : List Key → List D → Store → Option (List Key × Store)
  | acc, [], S => some (acc, S)
  | acc, d :: ds, S => match b d env with
    | none => none
    | some e1 => match tt e1 S with
      | .ok (.bl true) S1 => match elt e1 S1 with
        | .ok y S2 => match keyD y with
          | some k => if few (acc.length + 1) then scD b tt elt env (acc ++ [k]) ds S2 else none
          | none => none
        | _ => none
      | .ok (.bl false) S1 => scD b tt elt env acc ds S1
      | _ => none
noncomputable def eLenSc (f : LM) (b : D → EnvD → Option EnvD) (tt elt : EM) (vs : List Nat) : EM := fun env S => (f env S).bindE fun ds S => match scD b tt elt (wipeD env vs) [] ds S with
  | some (ks, S') => .ok (.int (dcnt ks : Nat)) S'
  | none => .bad
section
variable {elt tg iter : Expr} {ifs : List Expr} {scope : Scope} {own : List (Str × Nat)} {pos : Pos} {f : LM} {b : D → EnvD → Option EnvD} {ft fe : EM} {vs : List Nat}
end
end
end DL
end
section
/-! D-layer, part 9: what is never met; dicts that are read and written. -/
namespace DL
open PySem L2 PySem.Spec PyProof.Rows
theorem units65 {k : Nat} {A : Around} (r : Room k A) : A.units + 65 < cLine := by have := r.un; omega
theorem units1 {k : Nat} {A : Around} (r : Room k A) : A.units + 1 < cLine := by have := r.un; omega
section
variable {G : Glb} {X : Cx} {W : WX}
def eNev : EM := fun _ _ => .bad
def sNev : SM := fun _ _ => .bad
theorem dss_nev {st : List Stmt} : DSs G X W st sNev := ⟨fun _ _ _ => False, ⟨fun _ _ _ _ _ _ h => False.elim h⟩, fun _ _ _ _ _ _ _ _ h => False.elim h⟩
/-! ### x[i], x a list, a tuple, a text, a dict -/
def rIxDc : R2 := fun x y H Q => ∃ a v, x = .ref a ∧ DGet H a y (some v) ∧ Q v H
theorem ix_dic (hu : X.A.units + 1 < cLine) : IxR X rIxDc := by
  intro value slice pins s σ H x y v u Q I rx ry h hs
  obtain ⟨a, d, rfl, g, q⟩ := h
  cases rx
  exact tail_any (dict_typeIs I g) PySem.F.slot_dict_getitem.lookup (d_getItem hu I g ry fun w' s3 I3 rw' => ⟨d, H, I3, rw', q⟩) hs
noncomputable def opIxX (x y : D) (S : Store) : ER := match dicD S x with
  | some kds => match keyD y with
    | some k => match valD kds k with
      | some d => .ok d S
      | none => .bad
    | none => .bad
  | none => opIx x y S
theorem ix_is {φ : Fi} {S : Store} {H : Hp} {σ : L2.St} {dx dy : D} {x y : V} {Q : VK} (hK : X.K = G.K) (s : SOk G φ S H) (ix : Is G φ H dx x) (iy : Is G φ H dy y) (h : PostE G W φ H σ (opIx dx dy S) Q) : rIx X.K x y H Q := by
  unfold opIx at h
  split at h
  · cases (show x = _ from ix); cases (show y = _ from iy)
    split at h
    · rename_i hz
      split at h
      · rename_i d hd
        obtain ⟨c, e1, e2⟩ := Option.map_eq_some_iff.mp hd
        subst e2
        exact .inr (.inr ⟨_, _, c, rfl, rfl, sizeLine_is hz, e1, h.now s rfl⟩)
      · exact bad_no h
    · exact bad_no h
  · cases (show y = _ from iy)
    split at h
    · rename_i d hd
      obtain ⟨p, xs, rfl, r, q⟩ := tupD_sq ix rfl
      obtain ⟨v, e1, k⟩ := atI_is q hd
      exact .inr (.inl ⟨p, xs, _, v, rfl, rfl, by rw [hK]; exact r, e1, h.now s k⟩)
    · exact bad_no h
  · cases (show y = _ from iy)
    split at h
    · rename_i ds e
      obtain ⟨p, xs, rfl, r, q⟩ := listD_sq s ix e
      split at h
      · rename_i d hd
        obtain ⟨v, e1, k⟩ := atI_is q hd
        exact .inl ⟨p, xs, _, v, rfl, rfl, by rw [hK]; exact r, e1, h.now s k⟩
      · exact bad_no h
    · exact bad_no h
  · exact bad_no h
theorem de_ixX {a b : Expr} {pos : Pos} {fa fb : EM} (hK : X.K = G.K) (hu : X.A.units + 1 < cLine) (ha : DE G X W a fa) (hb : DE G X W b fb) (hs : PlainIx b := by intro _ _; rfl) : DE G X W (.Subscript a b pos) (eOp opIxX fa fb) := by
  obtain ⟨ta, pa, qa⟩ := ha
  obtain ⟨tb, pb, qb⟩ := hb
  refine ⟨_, pe_ix (ix_seq.or (ix_dic hu)) pa pb hs, op_of (t := ta) qa qb fun W φ S H σ dx dy x y Q s ix iy h => ?_⟩
  unfold opIxX at h
  split at h
  · rename_i kds e
    split at h
    · rename_i k ek
      split at h
      · rename_i d hd
        obtain ⟨a, kvs, rfl, r, q⟩ := dicD_is s ix e
        obtain ⟨v, e2, i2⟩ := (val_is k q).1 d hd
        exact .inr ⟨a, v, rfl, .inl ⟨kvs, k, r, keyD_is iy ek, e2.symm⟩, h.now s i2⟩
      · exact bad_no h
    · exact bad_no h
  · exact .inl (ix_is hK s ix iy h)
/-! ### o[i] = e of a list's or dict's cell -/
theorem PSet.or {t t' : TSet} (h : PSet X t) (h' : PSet X t') : PSet X (fun o i v H Q => t o i v H Q ∨ t' o i v H Q) := fun pins s σ H o i v ov iv u Q I ro ri rv q =>
  q.elim (h pins s σ H o i v ov iv u Q I ro ri rv) (h' pins s σ H o i v ov iv u Q I ro ri rv)
def putD (kds : List (Key × D)) (k : Key) (d : D) : List (Key × D) := if kds.any (fun kv => decide (kv.1 = k)) then kds.map (fun kv => if kv.1 = k then (kv.1, d) else kv) else kds ++ [(k, d)]
noncomputable def setX (o i d : D) (S : Store) : Option Store := match o with
  | .loc l => match S[l]? with
    | some (.dic kds) => match keyD i with
      | some k => if sz (kds.length + 1) then some (S.set l (.dic (putD kds k d))) else none
      | none => none
    | _ => setD o i d S
  | _ => none
theorem KvIs.length {φ : Fi} {H : Hp} {kds : List (Key × D)} {kvs : List (Key × V)} (q : KvIs G φ H kds kvs) : kds.length = kvs.length := by
  have := congrArg List.length q.1
  simpa using this.symm
theorem map_upd {α β : Type} (ks : List (Key × α)) (k : Key) (d : α) : (ks.map fun kv => if kv.1 = k then (kv.1, d) else kv).map (·.1) = ks.map (·.1) := by
  rw [List.map_map]
  apply List.map_congr_left
  intro kv _
  simp only [Function.comp]
  split <;> rfl
theorem any_keys {α β : Type} : ∀ {ks : List (Key × α)} {js : List (Key × β)} (k : Key), ks.map (·.1) = js.map (·.1) → (ks.any fun kv => decide (kv.1 = k)) = js.any fun kv => decide (kv.1 = k)
  | [], [], _, _ => rfl
  | [], _ :: _, _, h => by simp at h
  | _ :: _, [], _, h => by simp at h
  | a :: ks, b :: js, k, h => by
    simp only [List.map_cons, List.cons.injEq] at h
    rw [List.any_cons, List.any_cons, h.1, any_keys k h.2]
theorem isL_upd {φ : Fi} {H : Hp} {d : D} {v : V} (i : Is G φ H d v) (k : Key) : ∀ {kds : List (Key × D)} {kvs : List (Key × V)}, KvIs G φ H kds kvs →
    IsL G φ H ((kds.map fun kv => if kv.1 = k then (kv.1, d) else kv).map (·.2)) ((kvs.map fun kv => if kv.1 = k then (kv.1, v) else kv).map (·.2))
  | [], kvs, h => by
    have : kvs = [] := by simpa using h.1
    subst this
    exact rfl
  | (k0, d0) :: kds, kvs, h => by
    obtain ⟨h1, h2⟩ := h
    cases kvs with
    | nil => simp at h1
    | cons p r =>
      obtain ⟨kp, vp⟩ := p
      simp only [List.map_cons, List.cons.injEq] at h1
      obtain ⟨e1, e2⟩ := h1
      subst e1
      obtain ⟨x, xs, e3, i1, i2⟩ := h2
      simp only [List.map_cons, List.cons.injEq] at e3
      obtain ⟨rfl, rfl⟩ := e3
      have ih := isL_upd i k (show KvIs G φ H kds r from ⟨e2, i2⟩)
      simp only [List.map_cons]
      by_cases hk : kp = k
      · rw [if_pos hk, if_pos hk]; exact ⟨_, _, rfl, i, ih⟩
      · rw [if_neg hk, if_neg hk]; exact ⟨_, _, rfl, i1, ih⟩
theorem put_is {φ : Fi} {H : Hp} {kds : List (Key × D)} {kvs : List (Key × V)} {d : D} {v : V} (q : KvIs G φ H kds kvs) (i : Is G φ H d v) (k : Key) : KvIs G φ H (putD kds k d) (putK kvs k v) := by
  have ea := any_keys (α := D) (β := V) k q.1.symm
  unfold putD putK
  rw [ea]
  split
  · exact ⟨by rw [map_upd (β := V), map_upd (β := V)]; exact q.1, isL_upd i k q⟩
  · refine ⟨by simp [q.1], ?_⟩
    rw [List.map_append, List.map_append]
    exact q.2.append (.one i)
theorem KvIs.ext {φ φ' : Fi} {H H' : Hp} {kds : List (Key × D)} {kvs : List (Key × V)} (e : Ext φ H φ' H') (q : KvIs G φ H kds kvs) : KvIs G φ' H' kds kvs := ⟨q.1, q.2.ext e⟩
noncomputable def sPutX (o i f : EM) : SM := fun env S => (f env S).bindS env fun d S => (o env S).bindS env fun a S => (i env S).bindS env fun b S => match setX a b d S with
  | some S' => .nx env S'
  | none => .bad
theorem setX_is {φ : Fi} {S S' : Store} {H : Hp} {o i d : D} {vo vi v : V} (s : SOk G φ S H) (io : Is G φ H o vo) (ii : Is G φ H i vi) (id : Is G φ H d v) (h : setX o i d S = some S') {Q : Hp → Prop} (k : ∀ H', Ext φ H φ H' → SOk G φ S' H' → Q H') : rSetL vo vi v H Q ∨ rSetD vo vi v H Q := by
  unfold setX at h
  split at h
  · rename_i l
    split at h
    · rename_i kds hc
      split at h
      · rename_i key ek
        split at h
        · rename_i hz
          cases h
          obtain ⟨a, ha, rfl⟩ := io
          obtain ⟨ws, hx, z, q⟩ := s.at_ hc ha
          have kv : KvIs G φ H kds ws := ⟨z, q⟩
          have e := Ext.put (φ := φ) (H := H) (o := .dK (putK ws key v)) (List.mem_of_getElem? ha)
          refine .inr ⟨a, _, rfl, .inl ⟨ws, key, hx, keyD_is ii ek, ?_, rfl⟩, k _ e (s.put ha ?_)⟩
          · have hl := kv.length
            have hz' : kds.length + 1 ≤ 16777216 := hz
            rw [sizeLine_eq]; omega
          · obtain ⟨p1, p2⟩ := (put_is kv id key).ext e
            exact ⟨_, upd_same, p1, p2⟩
        · cases h
      · cases h
    · exact .inl (set_is s io ii id h k)
  · cases h
theorem ds_putX {o i e : Expr} {pos pos' : Pos} {fo fi fe : EM} (hu : X.A.units + 1 < cLine) (he : DE G X W e fe) (ho : DE G X W o fo) (hi : DE G X W i fi) (hs : swapsWithSole [.Subscript o i pos'] e pos.line X.env = pure false := by rfl) (hw : swappedStores [.Subscript o i pos'] e X.env = pure none := by rfl)
    (h1 : List.map (fun x => x.snd) (assignEach [.Subscript o i pos'] X.env) = [assign (.Subscript o i pos') X.env] := by rfl)
    (h2 : ∀ v, assign (.Subscript o i pos') X.env v = (do let ov ← holding [v] (eval o X.env); let iv ← holding [v, ov] (eval i X.env); standAt pos'; holding [v, ov, iv] (setItem ov iv v); release [v, ov, iv] []) := by intro _; rfl) : DS G X W (.Assign [.Subscript o i pos'] e pos) (sPutX fo fi fe) := by
  obtain ⟨to, po, qo⟩ := ho
  obtain ⟨ti, pi, qi⟩ := hi
  obtain ⟨te, pe, qe⟩ := he
  refine ⟨_, ps_asg pe (pg_sub po pi (PSet.or set_list (set_dict hu)) h2) hs hw h1, fun σ H env φ S N s re h => ?_⟩
  refine qe σ H env φ S _ s re (PostE.bindS re h fun d S1 φ1 H1 v e1 s1 i1 h1 => ?_)
  have r1 := re.ext e1
  refine qo σ H1 env φ1 S1 _ s1 r1 (PostE.bindS r1 h1 fun a S2 φ2 H2 va e2 s2 i2 h2 => ?_)
  have r2 := r1.ext e2
  refine qi σ H2 env φ2 S2 _ s2 r2 (PostE.bindS r2 h2 fun b S3 φ3 H3 vb e3 s3 i3 h3 => ?_)
  cases hS : setX a b d S3 with
  | none => rw [hS] at h3; exact False.elim h3
  | some S4 =>
    rw [hS] at h3
    exact setX_is s3 (i2.ext e3) i3 ((i1.ext e2).ext e3) hS fun H' e4 s4 => h3 φ3 H' σ e4 s4 ((r2.ext e3).ext e4)
/-! ### d[k] += n -/
/-! ### a new dict -/
def eDic0 : EM := fun _ S => .ok (.dic [] []) S
def eDic0M : EM := fun _ S => .ok (.loc S.length) (S ++ [.dic []])
theorem de_dic0M {pos : Pos} : DE G X W (.Dict [] [] pos) eDic0M := ⟨_, pe_dnewK, fun σ H env φ S Q s re h p hp =>
  h (φ.add p) _ _ (.newCell s hp) (s.newCell hp ⟨[], upd_same, rfl, rfl⟩) ⟨p, by rw [← s.len]; simp [Fi.add], rfl⟩⟩
theorem dic_new {φ : Fi} {H : Hp} {S : Store} {σ : L2.St} {kds : List (Key × D)} {kvs : List (Key × V)} {Q : VK} (s : SOk G φ S H) (q : KvIs G φ H kds kvs) (h : PostE G W φ H σ (.ok (.dic (kds.map (·.1)) (kds.map (·.2))) S) Q) {p : Addr} (hp : H p = none) : Q (.ref p) (upd H p (.dK kvs)) :=
  h φ _ _ (.laid hp) (s.laid hp) ⟨p, kvs, rfl, ⟨s.fresh hp, .inl upd_same⟩, q.1, q.2.ext (.laid hp)⟩
/-! ### len, list, dict of a dict too -/
theorem call_lenDc : CallR X (.builtin "len") (fun xs H Q => ∃ a kvs, xs = [V.ref a] ∧ Rd H a (.dK kvs) ∧ Q (.int kvs.length) H) := by
  intro pins s σ H xs us Q I r h
  obtain ⟨a, kvs, rfl, ha, q⟩ := h
  obtain ⟨u, rfl, ru⟩ := vals1 r
  cases ru
  exact d_len I ha fun t s' I' => ⟨.int kvs.length, H, I', ⟨t, rfl⟩, q⟩
noncomputable def bLenX (ds : List D) (S : Store) : ER := match ds with
  | [d] => match dicD S d with
    | some kds => .ok (.int kds.length) S
    | none => bLen ds S
  | _ => .bad
theorem dc_lenX (hK : X.K = G.K) : DCall G X (.builtin "len") bLenX := by
  obtain ⟨r, hr, q⟩ := dc_len (G := G) (X := X) hK
  refine ⟨_, hr.or call_lenDc, fun W φ S H σ ds xs Q s i h => ?_⟩
  unfold bLenX at h
  split at h
  · split at h
    · rename_i kds e
      obtain ⟨x, rfl, k⟩ := IsL.inv1 i
      obtain ⟨a, kvs, rfl, r, kv⟩ := dicD_is s k e
      exact .inr ⟨a, kvs, rfl, r, by rw [← kv.length]; exact h.now s rfl⟩
    · exact .inl (q W φ S H σ _ xs Q s i h)
  · exact bad_no h
theorem isL_keys {φ : Fi} {H : Hp} {kds : List (Key × D)} {kvs : List (Key × V)} (q : KvIs G φ H kds kvs) : IsL G φ H (kds.map fun kv => dKey kv.1) (kvs.map fun kv => kV kv.1) := by
  have e1 : kds.map (fun kv => dKey kv.1) = (kds.map (·.1)).map dKey := by rw [List.map_map]; rfl
  have e2 : kvs.map (fun kv => kV kv.1) = (kvs.map (·.1)).map kV := by rw [List.map_map]; rfl
  rw [e1, e2, q.1]
  generalize kds.map (·.1) = ks
  induction ks with
  | nil => exact rfl
  | cons k ks ih => exact ⟨_, _, rfl, is_dKey k, ih⟩
def bListX (ds : List D) (S : Store) : ER := match ds with
  | [d] => match dicD S d with
    | some kds => .ok (.lst (kds.map fun kv => dKey kv.1)) S
    | none => bList ds S
  | _ => .bad
def bListXM (ds : List D) (S : Store) : ER := match ds with
  | [d] => match dicD S d with
    | some kds => .ok (.loc S.length) (S ++ [.lst (kds.map fun kv => dKey kv.1)])
    | none => bListM ds S
  | _ => .bad
theorem dc_listXM (hc : X.calm = true) (hK : X.K = G.K) : DCall G X (.type "list") bListXM := by
  obtain ⟨r, hr, q⟩ := dc_listM (G := G) (X := X) hK
  refine ⟨_, hr.or (call_listD hc), fun W φ S H σ ds xs Q s i h => ?_⟩
  unfold bListXM at h
  split at h
  · split at h
    · rename_i kds e
      obtain ⟨x, rfl, k⟩ := IsL.inv1 i
      obtain ⟨a, kvs, rfl, r, kv⟩ := dicD_is s k e
      exact .inr ⟨a, kvs, rfl, r, fun p hp => lst_newM s (isL_keys kv) h hp⟩
    · exact .inl (q W φ S H σ _ xs Q s i h)
  · exact bad_no h
def bDict (ds : List D) (S : Store) : ER := match ds with
  | [d] => match dicD S d with
    | some kds => .ok (.dic (kds.map (·.1)) (kds.map (·.2))) S
    | none => .bad
  | _ => .bad
theorem dc_dict : DCall G X (.type "dict") bDict := by
  refine ⟨_, call_dictD, fun W φ S H σ ds xs Q s i h => ?_⟩
  unfold bDict at h
  split at h
  · split at h
    · rename_i kds e
      obtain ⟨x, rfl, k⟩ := IsL.inv1 i
      obtain ⟨a, kvs, rfl, r, kv⟩ := dicD_is s k e
      exact ⟨a, kvs, rfl, r, fun p hp => dic_new s kv h hp⟩
    · exact bad_no h
  · exact bad_no h
/-! ### d.get(k), d.get(k, x) -/
def getD (o b : D) (z : D) (S : Store) : ER := match dicD S o, keyD b with
  | some kds, some k => .ok ((valD kds k).getD z) S
  | _, _ => .bad
end
end DL
end
section
/-! D-layer, part 10: how the values of parts 7 to 9 are reckoned (by simp). -/
namespace DL
open PySem L2
section
variable {d : D} {S : Store} {x : Exc} {e env : EnvD} {i j : Int}
@[simp] theorem opIxX_t {ds : List D} : opIxX (.tup ds) (.int i) S = match atI ds i with | some d => .ok d S | none => .bad := rfl
@[simp] theorem opIxX_l {ds : List D} : opIxX (.lst ds) (.int i) S = match atI ds i with | some d => .ok d S | none => .bad := rfl
@[simp] theorem opIxX_s {z : Str} : opIxX (.str z) (.int i) S = if sz z.length then (match strAt z i with | some d => .ok d S | none => .bad) else .bad := rfl
@[simp] theorem opIxX_di {ks ds} : opIxX (.dic ks ds) (.int i) S = match valD (ks.zip ds) (.inl i) with | some d => .ok d S | none => .bad := rfl
@[simp] theorem opIxX_ds {ks ds} {z : Str} : opIxX (.dic ks ds) (.str z) S = match valD (ks.zip ds) (.inr z) with | some d => .ok d S | none => .bad := rfl
@[simp] theorem opIxX_ci {l : Nat} : opIxX (.loc l) (.int i) S = match cel S l with
  | some (.lst ds) => (match atI ds i with | some d => .ok d S | none => .bad)
  | some (.dic kds) => (match valD kds (.inl i) with | some d => .ok d S | none => .bad)
  | _ => .bad := by
  simp only [opIxX, dicD, keyD, opIx, listD, cel]
  cases S[l]? with
  | none => rfl
  | some c => cases c <;> rfl
@[simp] theorem opIxX_cs {l : Nat} {z : Str} : opIxX (.loc l) (.str z) S = match cel S l with
  | some (.dic kds) => (match valD kds (.inr z) with | some d => .ok d S | none => .bad)
  | _ => .bad := by
  simp only [opIxX, dicD, keyD, opIx, listD, cel]
  cases S[l]? with
  | none => rfl
  | some c => cases c <;> rfl
@[simp] theorem bLenX_t {ds : List D} : bLenX [.tup ds] S = .ok (.int ds.length) S := rfl
@[simp] theorem bLenX_l {ds : List D} : bLenX [.lst ds] S = .ok (.int ds.length) S := rfl
@[simp] theorem bLenX_s {z : Str} : bLenX [.str z] S = if sz z.length then .ok (.int z.length) S else .bad := rfl
@[simp] theorem bLenX_d {ks ds} : bLenX [.dic ks ds] S = .ok (.int (ks.zip ds).length) S := rfl
@[simp] theorem bLenX_c {l : Nat} : bLenX [.loc l] S = match cel S l with | some (.lst ds) => .ok (.int ds.length) S | some (.dic kds) => .ok (.int kds.length) S | _ => .bad := by
  simp only [bLenX, dicD, bLen, seqD, listD, cel]
  cases S[l]? with
  | none => rfl
  | some c => cases c <;> rfl
@[simp] theorem bListX_t {ds : List D} : bListX [.tup ds] S = .ok (.lst ds) S := rfl
@[simp] theorem bListX_l {ds : List D} : bListX [.lst ds] S = .ok (.lst ds) S := rfl
@[simp] theorem bListX_d {ks ds} : bListX [.dic ks ds] S = .ok (.lst ((ks.zip ds).map fun kv => dKey kv.1)) S := rfl
@[simp] theorem bListX_c {l : Nat} : bListX [.loc l] S = match cel S l with | some (.lst ds) => .ok (.lst ds) S | some (.dic kds) => .ok (.lst (kds.map fun kv => dKey kv.1)) S | _ => .bad := by
  simp only [bListX, dicD, bList, seqD, listD, cel]
  cases S[l]? with
  | none => rfl
  | some c => cases c <;> rfl
@[simp] theorem bListXM_t {ds : List D} : bListXM [.tup ds] S = .ok (.loc S.length) (S ++ [.lst ds]) := rfl
@[simp] theorem bListXM_l {ds : List D} : bListXM [.lst ds] S = .ok (.loc S.length) (S ++ [.lst ds]) := rfl
@[simp] theorem bTuple_c {l : Nat} : bTuple [.loc l] S = match cel S l with | some (.lst ds) => .ok (.tup ds) S | _ => .bad := by
  simp only [bTuple, seqD, listD, cel]
  cases S[l]? with
  | none => rfl
  | some c => cases c <;> rfl
@[simp] theorem bSorted_l {ns : List Int} : bSorted [.lst (ns.map .int)] S = .ok (.lst ((sortI ns).map .int)) S := by simp [bSorted, listD, intsD_map]
@[simp] theorem eLenSet_is {f : EM} : eLenSet f env S = (f env S).bind fun d S => match (seqD S d).bind keysD with | some ks => if few ks.length then .ok (.int (dcnt ks : Nat)) S else .bad | none => .bad := rfl
@[simp] theorem eLenSc_is {f : LM} {b : D → EnvD → Option EnvD} {tt elt : EM} {vs : List Nat} : eLenSc f b tt elt vs env S = (f env S).bindE fun ds S => match scD b tt elt (wipeD env vs) [] ds S with | some (ks, S') => .ok (.int (dcnt ks : Nat)) S' | none => .bad := rfl
@[simp] theorem seqD_l {ds : List D} : seqD S (.lst ds) = some ds := rfl
@[simp] theorem seqD_t {ds : List D} : seqD S (.tup ds) = some ds := rfl
@[simp] theorem rg1_is {f : EM} : rg1 f env S = (f env S).bindL fun d S => match d with | .int n => if rOk n ∧ sz n.toNat then .ok [.int 0, .int n] S else .bad | _ => .bad := rfl
@[simp] theorem rg2_is {f g : EM} : rg2 f g env S = (f env S).bindL fun d S => (g env S).bindL fun d2 S => rg2D d d2 S := rfl
@[simp] theorem rg2D_is : rg2D (.int i) (.int j) S = if rOk i ∧ rOk j ∧ sz (j - i).toNat then .ok [.int i, .int j] S else .bad := rfl
@[simp] theorem eLRg_is {f : LM} : eLRg f env S = (f env S).bindE fun ds S => match ds with | [.int i, .int j] => .ok (.lst (rangeD i (j - i).toNat)) S | _ => .bad := rfl
@[simp] theorem eLRgM_is {f : LM} : eLRgM f env S = (f env S).bindE fun ds S => match ds with | [.int i, .int j] => .ok (.loc S.length) (S ++ [.lst (rangeD i (j - i).toNat)]) | _ => .bad := rfl
@[simp] theorem eTRg_is {f : LM} : eTRg f env S = (f env S).bindE fun ds S => match ds with | [.int i, .int j] => .ok (.tup (rangeD i (j - i).toNat)) S | _ => .bad := rfl
@[simp] theorem eRev_is {f : EM} : eRev f env S = (f env S).bind fun d S => revD S d := rfl
@[simp] theorem revD_t {ds : List D} : revD S (.tup ds) = .ok (.tup ds.reverse) S := rfl
@[simp] theorem revD_l {ds : List D} : revD S (.lst ds) = .ok (.lst ds.reverse) S := rfl
@[simp] theorem opAnd_ii : opAnd (.int i) (.int j) S = .ok (.int (Builtin.bitAnd i j)) S := rfl
@[simp] theorem opOr_ii : opOr (.int i) (.int j) S = .ok (.int (Builtin.bitOr i j)) S := rfl
@[simp] theorem opXor_ii : opXor (.int i) (.int j) S = .ok (.int (Builtin.bitXor i j)) S := rfl
@[simp] theorem opShr_ii : opShr (.int i) (.int j) S = if 0 ≤ j then .ok (.int (i / 2 ^ j.toNat)) S else .bad := rfl
@[simp] theorem opShl_ii : opShl (.int i) (.int j) S = if powOk i j then .ok (.int (i * 2 ^ j.toNat)) S else .bad := rfl
@[simp] theorem opMulX_ii : opMulX (.int i) (.int j) S = if mulOk i j then .ok (.int (i * j)) S else .bad := rfl
@[simp] theorem opMulX_c {l : Nat} : opMulX (.loc l) (.int i) S = match cel S l with | some (.lst ds) => if w63 i ∧ sz (ds.length * i.toNat) then .ok (.lst (List.replicate i.toNat ds).flatten) S else .bad | _ => .bad := rfl
@[simp] theorem w63_is (h : -9223372036854775808 ≤ i) (h2 : i < 9223372036854775808) : w63 i := ⟨by omega, by omega⟩
@[simp] theorem eMeth_is {T : String} {g : D → List D → Store → ER} {o : EM} {f : LM} : eMeth T g o f env S = (o env S).bind fun a S => if tyD T S a then (f env S).bindE fun ds S => g a ds S else .bad := rfl
@[simp] theorem tyD_c {l : Nat} : tyD "list" S (.loc l) = match cel S l with | some (.lst _) => true | _ => false := by
  simp only [tyD, listD, cel]
  cases S[l]? with
  | none => rfl
  | some c => cases c <;> rfl
@[simp] theorem tyD_l {ds : List D} : tyD "list" S (.lst ds) = true := rfl
@[simp] theorem cellL_c {l : Nat} {g : Nat → List D → ER} : cellL S (.loc l) g = match cel S l with | some (.lst ds) => g l ds | _ => .bad := rfl
@[simp] theorem mPopAt_is {o : D} : mPopAt o [.int i] S = cellL S o fun l xs => if w63 i then (match seqIndex? i xs.length with
    | some k => (match xs[k]? with | some d => .ok d (S.set l (.lst (xs.eraseIdx k))) | none => .bad)
    | none => .bad) else .bad := rfl
@[simp] theorem mPop_is {o : D} : mPop o [] S = cellL S o fun l xs => match xs[xs.length - 1]? with | some d => .ok d (S.set l (.lst xs.dropLast)) | none => .bad := rfl
@[simp] theorem mAppend_is {o : D} : mAppend o [d] S = cellL S o fun l xs => if sz (xs.length + 1) then .ok .non (S.set l (.lst (xs ++ [d]))) else .bad := rfl
@[simp] theorem mInsert_is {o : D} : mInsert o [.int i, d] S = cellL S o fun l xs => if sz (xs.length + 1) ∧ 0 ≤ i ∧ w63 i then .ok .non (S.set l (.lst (xs.take i.toNat ++ [d] ++ xs.drop i.toNat))) else .bad := rfl
@[simp] theorem mClear_is {o : D} : mClear o [] S = cellL S o fun l xs => .ok .non (S.set l (.lst [])) := rfl
@[simp] theorem opIn_ll {ds : List D} : opIn d (.lst ds) S = if flatD d && ds.all flatD then .ok (.bl (ds.any fun y => eqF y d)) S else match d.pyO S, (D.lst ds).pyO S with
    | some p, some (.list ps) => if SeqAt.shaped p && SeqAt.shaped (.list ps) then .ok (.bl (ps.any fun z => PyData.eqv z p)) S else .bad
    | some p, some (.tuple ps) => if SeqAt.shaped p && SeqAt.shaped (.tuple ps) then .ok (.bl (ps.any fun z => PyData.eqv z p)) S else .bad
    | _, _ => .bad := rfl
@[simp] theorem opIn_tt {ds : List D} : opIn d (.tup ds) S = if flatD d && ds.all flatD then .ok (.bl (ds.any fun y => eqF y d)) S else match d.pyO S, (D.tup ds).pyO S with
    | some p, some (.list ps) => if SeqAt.shaped p && SeqAt.shaped (.list ps) then .ok (.bl (ps.any fun z => PyData.eqv z p)) S else .bad
    | some p, some (.tuple ps) => if SeqAt.shaped p && SeqAt.shaped (.tuple ps) then .ok (.bl (ps.any fun z => PyData.eqv z p)) S else .bad
    | _, _ => .bad := rfl
@[simp] theorem opNotIn_ll {ds : List D} : opNotIn d (.lst ds) S = if flatD d && ds.all flatD then .ok (.bl (!(ds.any fun y => eqF y d))) S else match d.pyO S, (D.lst ds).pyO S with
    | some p, some (.list ps) => if SeqAt.shaped p && SeqAt.shaped (.list ps) then .ok (.bl (!(ps.any fun z => PyData.eqv z p))) S else .bad
    | some p, some (.tuple ps) => if SeqAt.shaped p && SeqAt.shaped (.tuple ps) then .ok (.bl (!(ps.any fun z => PyData.eqv z p))) S else .bad
    | _, _ => .bad := rfl
@[simp] theorem opNotIn_tt {ds : List D} : opNotIn d (.tup ds) S = if flatD d && ds.all flatD then .ok (.bl (!(ds.any fun y => eqF y d))) S else match d.pyO S, (D.tup ds).pyO S with
    | some p, some (.list ps) => if SeqAt.shaped p && SeqAt.shaped (.list ps) then .ok (.bl (!(ps.any fun z => PyData.eqv z p))) S else .bad
    | some p, some (.tuple ps) => if SeqAt.shaped p && SeqAt.shaped (.tuple ps) then .ok (.bl (!(ps.any fun z => PyData.eqv z p))) S else .bad
    | _, _ => .bad := rfl
@[simp] theorem flatD_int : flatD (.int i) = true := rfl
@[simp] theorem flatD_str {z : Str} : flatD (.str z) = true := rfl
@[simp] theorem flatD_bl {b : Bool} : flatD (.bl b) = true := rfl
@[simp] theorem flatD_non : flatD .non = true := rfl
@[simp] theorem flatD_tup {ds : List D} : flatD (.tup ds) = false := rfl
@[simp] theorem flatD_lst {ds : List D} : flatD (.lst ds) = false := rfl
@[simp] theorem flat_ints (ns : List Int) : (ns.map D.int).all flatD = true := by simp
@[simp] theorem eqF_ii : eqF (.int i) (.int j) = decide (i = j) := by show (i == j) = _; rw [Bool.beq_eq_decide_eq]
@[simp] theorem eqF_ss {a b : Str} : eqF (.str a) (.str b) = decide (a = b) := by show (a == b) = _; rw [Bool.beq_eq_decide_eq]
@[simp] theorem eDic0_is : eDic0 env S = .ok (.dic [] []) S := rfl
@[simp] theorem eDic0M_is : eDic0M env S = .ok (.loc S.length) (S ++ [.dic []]) := rfl
@[simp] theorem sPutX_is {o i f : EM} : sPutX o i f env S = (f env S).bindS env fun d S => (o env S).bindS env fun a S => (i env S).bindS env fun b S => match setX a b d S with | some S' => .nx env S' | none => .bad := rfl
@[simp] theorem setX_ci {l : Nat} : setX (.loc l) (.int i) d S = match cel S l with
  | some (.lst ds) => (putIx i ds d).map fun es => S.set l (.lst es)
  | some (.dic kds) => if sz (kds.length + 1) then some (S.set l (.dic (putD kds (.inl i) d))) else none
  | _ => none := by
  simp only [setX, setD, keyD, cel]
  cases S[l]? with
  | none => rfl
  | some c => cases c <;> rfl
@[simp] theorem setX_cs {l : Nat} {z : Str} : setX (.loc l) (.str z) d S = match cel S l with
  | some (.dic kds) => if sz (kds.length + 1) then some (S.set l (.dic (putD kds (.inr z) d))) else none
  | _ => none := by
  unfold cel
  show (match S[l]? with
    | some (.dic kds) => match keyD (.str z) with
      | some k => if sz (kds.length + 1) then some (S.set l (.dic (putD kds k d))) else none
      | none => none
    | _ => setD (.loc l) (.str z) d S) = _
  generalize S[l]? = o
  rcases o with _ | c
  · rfl
  · cases c <;> rfl
@[simp] theorem tyOf_obj {c ks ds} : tyOf S (.obj c ks ds) = none := rfl
@[simp] theorem tyOf_c {l : Nat} : tyOf S (.loc l) = match cel S l with | some (.lst _) => some .list | some (.dic _) => some .dict | some (.dct _) => some .dict | _ => none := rfl
/-- the way out where only the first cell (the draws) stays -/
theorem exit_draw {c c' : Cell} {T : Store} {d' : D} (h : frzD (resD 1 (c' :: T) 12) d = some d') (hb : c'.bel 1 = true) : exitD .pure [c] d (c' :: T) = .ok d' [c'] := by
  unfold exitD
  have e : frzD (resD [c].length (c' :: T) 12) d = some d' := h
  simp only [e]
  rw [if_pos (.inr (by simp [hb]))]
  rfl
end
end DL
end
section
/-! D-layer, part 11: dicts walked; enumerate and zip of lists and tuples in any mixture. -/
namespace DL
open PySem L2
variable {G : Glb} {X : Cx} {W : WX}

/-! ### a dict is locked for good as soon as it is walked -/
def tLockR (t : TE) : TE := fun σ H Q => t σ H fun x H1 => ∃ d kvs, x = .ref d ∧ ((∃ od, H1 d = some (.frz od (.dK kvs)) ∧ Q x H1) ∨ (H1 d = some (.dK kvs) ∧ ∀ od, Q x (upd H1 d (.frz od (.dK kvs)))))
theorem pe_lockR {e : Expr} {t : TE} (h : PE X e t) : PE X e (tLockR t) := by
  refine ⟨fun pins s σ H Q I hw => ?_⟩
  refine thn (h.run pins s σ H _ I hw) fun v s1 ⟨x, H1, I1, r, d, kvs, ex, q⟩ => ?_
  rcases q with ⟨od, hd, q⟩ | ⟨hd, q⟩
  · exact ⟨x, H1, I1, r, q⟩
  · obtain ⟨od, I2⟩ := I1.lock hd trivial
    exact ⟨x, _, I2, r, q od⟩
theorem Ext.lock {φ : Fi} {H : Hp} {d : Addr} {od : Obj} {kvs : List (Key × V)} (n : φ.out d) (h : H d = some (.dK kvs)) : Ext φ H φ (upd H d (.frz od (.dK kvs))) :=
  ⟨⟨[], by simp, fun _ q => by simp at q⟩, rfl, fun b u _ e => by
    by_cases hb : b = d
    · subst hb; rw [h] at e; cases e; exact .inr ⟨od, n.2, .inl ⟨_, rfl⟩, upd_same⟩
    · exact .inl (by rw [upd_ne hb]; exact e)⟩
theorem SOk.lock {φ : Fi} {S : Store} {H : Hp} {d : Addr} {od : Obj} {kvs : List (Key × V)} (s : SOk G φ S H) (n : φ.out d) (h : H d = some (.dK kvs)) : SOk G φ S (upd H d (.frz od (.dK kvs))) :=
  s.step (.lock n h) fun a ha => upd_ne fun z => by subst z; exact n.1 ha
def iKeysD (f : EM) : LM := fun env S => (f env S).bindL fun d S => match d with
  | .dic ks _ => .ok (ks.map dKey) S
  | _ => .bad
def iValsD (f : EM) : LM := fun env S => (f env S).bindL fun d S => match d with
  | .dic _ ds => .ok ds S
  | _ => .bad
def itemsD (ks : List Key) (ds : List D) : List D := (ks.zip ds).map fun p => .tup [dKey p.1, p.2]
def iItemsD (f : EM) : LM := fun env S => (f env S).bindL fun d S => match d with
  | .dic ks ds => .ok (itemsD ks ds) S
  | _ => .bad
theorem feeds_keys {φ : Fi} {H : Hp} {a : Addr} {od : Obj} {ks : List Key} {kvs : List (Key × V)} (n : φ.out a) (h : H a = some (.frz od (.dK kvs))) (e : kvs.map (·.1) = ks) : Feeds G φ H (Itk a od kvs) (ks.map dKey) := by
  have hl : ks.length = kvs.length := by rw [← e]; simp
  refine ⟨fun φ2 S2 H2 i d k s hd => ?_, fun φ2 S2 H2 k s => ⟨(k.frz _ _ _ n h).2, by simp [hl]⟩⟩
  obtain ⟨h1, h2⟩ := List.getElem?_eq_some_iff.mp hd
  simp at h1 h2
  refine ⟨⟨(k.frz _ _ _ n h).2, by omega⟩, fun x H3 ⟨e3, k', v', hk, ex⟩ => ?_⟩
  subst e3 ex
  have hk' : ks[i]? = some k' := by rw [← e]; simp [hk]
  have : ks[i] = k' := by rw [List.getElem?_eq_getElem h1] at hk'; exact Option.some.inj hk'
  subst h2
  rw [this]
  exact ⟨.refl, s, is_dKey k'⟩
section
variable {tg e : Expr} {f : EM} {apos cpos : Pos}
theorem lock_to {te : TE} {σ : L2.St} {H : Hp} {env : EnvD} {φ : Fi} {S : Store} {g : D → Store → LR} {R : It → Hp → Prop} {Q : VK}
    (q : ∀ σ H env φ S Q, SOk G φ S H → RepE G φ H σ env → PostE G W φ H σ (f env S) Q → te σ H Q) (s : SOk G φ S H) (re : RepE G φ H σ env) (h : PostI G W φ H σ ((f env S).bindL g) R) (hb : ∀ d S, (∀ ks ds, d ≠ .dic ks ds) → g d S = .bad)
    (k : ∀ ks ds S1 φ1 H1 a od kvs, Ext φ H φ1 H1 → SOk G φ1 S1 H1 → φ1.out a → H1 a = some (.frz od (.dK kvs)) → kvs.map (·.1) = ks → IsL G φ1 H1 ds (kvs.map (·.2)) → PostI G W φ1 H1 σ (g (.dic ks ds) S1) R → Q (.ref a) H1) : tLockR te σ H Q := by
  refine q σ H env φ S _ s re ?_
  cases hr : f env S with
  | bad => rw [hr] at h; exact False.elim h
  | ex x S1 => rw [hr] at h; exact h
  | ok d S1 =>
    rw [hr] at h
    intro φ1 H1 v e1 s1 i1
    have h' : PostI G W φ H σ (g d S1) R := h
    have hx : PostI G W φ1 H1 σ (g d S1) R := by
      cases hg : g d S1 with
      | bad => rw [hg] at h'; exact h'
      | ok ds S2 => rw [hg] at h'; exact fun φ2 H2 J e2 s2 fd => h' φ2 H2 J (e1.trans e2) s2 fd
      | ex x S2 => rw [hg] at h'; exact fun φ2 H2 c dx e2 s2 fd => h' φ2 H2 c dx (e1.trans e2) s2 fd
    by_cases hd : ∃ ks ds, d = .dic ks ds
    · obtain ⟨ks, ds, rfl⟩ := hd
      obtain ⟨a, kvs, rfl, ⟨n, r⟩, ek, il⟩ := i1
      refine ⟨a, kvs, rfl, ?_⟩
      rcases r with r | ⟨od, r⟩
      · refine .inr ⟨r, fun od => ?_⟩
        have el : Ext φ1 H1 φ1 (upd H1 a (.frz od (.dK kvs))) := .lock n r
        refine k ks ds S1 φ1 _ a od kvs (e1.trans el) (s1.lock n r) n upd_same ek (il.ext el) ?_
        cases hg : g (.dic ks ds) S1 with
        | bad => rw [hg] at hx; exact hx
        | ok ds S2 => rw [hg] at hx; exact fun φ2 H2 J e2 s2 fd => hx φ2 H2 J (el.trans e2) s2 fd
        | ex x S2 => rw [hg] at hx; exact fun φ2 H2 c dx e2 s2 fd => hx φ2 H2 c dx (el.trans e2) s2 fd
      · exact .inl ⟨od, r, k ks ds S1 φ1 H1 a od kvs e1 s1 n r ek il hx⟩
    · rw [hb d S1 fun ks ds z => hd ⟨ks, ds, z⟩] at hx
      exact False.elim hx
theorem di_keys (he : DE G X W e f) : DI G X W tg e (iKeysD f) := by
  obtain ⟨t, p, q⟩ := he
  refine ⟨_, pi_keys (pe_lockR p), fun σ H env φ S R s re h => ?_⟩
  refine lock_to q s re h (fun d S hd => ?_) fun ks ds S1 φ1 H1 a od kvs e1 s1 n r ek il hx => ⟨a, od, rfl, .inl ⟨kvs, r, hx φ1 H1 _ .refl s1 (feeds_keys n r ek)⟩⟩
  cases d with
  | dic ks ds => exact absurd rfl (hd ks ds)
  | _ => rfl
/-- a list, a tuple, or a dict by its keys -/
def iAny (f : EM) : LM := fun env S => (f env S).bindL fun d S => match d with
  | .lst ds => .ok ds S
  | .tup ds => .ok ds S
  | .str x => .ok (signsD x) S
  | .dic ks _ => .ok (ks.map dKey) S
  | _ => .bad
theorem di_any (hK : X.K = G.K) (he : DE G X W e f) : DI G X W tg e (iAny f) := by
  obtain ⟨w1, p1, q1⟩ := di_seq (W := W) (tg := tg) hK he
  obtain ⟨w2, p2, q2⟩ := di_keys (W := W) (tg := tg) he
  refine ⟨_, PI.or p1 p2, fun σ H env φ S R s re h => ?_⟩
  unfold iAny at h
  cases hr : f env S with
  | bad => rw [hr] at h; exact False.elim h
  | ex x S1 =>
    rw [hr] at h
    exact .inl (q1 σ H env φ S _ s re (by unfold iSeq; rw [hr]; exact h))
  | ok d S1 =>
    rw [hr] at h
    cases d with
    | lst ds => exact .inl (q1 σ H env φ S _ s re (by unfold iSeq; rw [hr]; exact h))
    | tup ds => exact .inl (q1 σ H env φ S _ s re (by unfold iSeq; rw [hr]; exact h))
    | str x => exact .inl (q1 σ H env φ S _ s re (by unfold iSeq; rw [hr]; exact h))
    | dic ks ds => exact .inr (q2 σ H env φ S _ s re (by unfold iKeysD; rw [hr]; exact h))
    | _ => exact False.elim h
end
end DL
end
section
/-! D-layer, part 12: enumerate and zip over lists and tuples in any mixture. -/
namespace DL
open PySem PySem.Spec PyProof.Rows L2
variable {G : Glb} {X : Cx} {W : WX}
def SqG (K : PySem.W.Frag) : Bool → Hp → Addr → List V → Prop
  | false => SqL K
  | true => SqT K
def HasG : Bool → Heap → Addr → Array Value → Prop
  | false => fun h a its => h.IsList a its
  | true => fun h a its => h.IsTuple a its
def IterG : Bool → Heap → Addr → Addr → Nat → Prop
  | false => fun h it a i => h.IsListIter it a i
  | true => fun h it a i => h.IsTupleIter it a i
def begO : Bool → Addr → Obj
  | false => fun a => { cls := .type "list_iterator", data := .fields #[.ref a, .int 0 0] }
  | true => fun a => { cls := .type "tuple_iterator", data := .fields #[.ref a, .int 0 0] }
theorem begO_at : ∀ (t : Bool) {h : Heap} {it a : Addr}, h.get? it = some (begO t a) → IterG t h it a 0
  | false, _, _, _, e => ⟨_, e, rfl, rfl⟩
  | true, _, _, _, e => ⟨_, e, rfl, rfl⟩
theorem beginsG : ∀ (t : Bool) (a : Addr) (its : Array Value), Begins (.ref a) (begO t a) fun h => HasG t h a its
  | false, a, its => begins_list a its
  | true, a, its => begins_tuple a its
theorem drawsG {prog : Program} {w : World} {A : Around} (hh : A.handled = none) : ∀ (t : Bool) (it a : Addr) (hne : a ≠ it) (its : Array Value), Draws prog w A it [it, a] its.size (fun i v => its[i]? = some v) (fun i h => IterG t h it a i ∧ HasG t h a its)
  | false, it, a, hne, its => Draws.list hh it a hne its
  | true, it, a, hne, its => Draws.tuple hh it a hne its
theorem IterG.at : ∀ {t : Bool} {h h' : Heap} {it a : Addr} {i : Nat}, IterG t h it a i → (∀ o, h.get? it = some o → h'.get? it = some o) → IterG t h' it a i
  | false, _, _, _, _, _, st, k => Heap.IsListIter.at st k
  | true, _, _, _, _, _, st, k => let ⟨o, e, r⟩ := st; ⟨o, k o e, r⟩
theorem IterG.obj : ∀ {t : Bool} {h : Heap} {it a : Addr} {i : Nat}, IterG t h it a i → ∃ o, h.get? it = some o ∧ ∀ v, o.data ≠ .cell v
  | false, _, _, _, _, ⟨o, e, _, d⟩ => ⟨o, e, fun v q => by rw [d] at q; cases q⟩
  | true, _, _, _, _, ⟨o, e, _, d⟩ => ⟨o, e, fun v q => by rw [d] at q; cases q⟩
theorem HasG.cls : ∀ {t : Bool} {h : Heap} {a : Addr} {its : Array Value}, HasG t h a its → ∃ o, h.get? a = some o ∧ o.cls = .type (if t then "tuple" else "list")
  | false, _, _, _, p => let ⟨o, e, c, _⟩ := p; ⟨o, e, c⟩
  | true, _, _, _, p => let ⟨o, e, c, _⟩ := p; ⟨o, e, c⟩
theorem IterG.cls : ∀ {t : Bool} {h : Heap} {it a : Addr} {i : Nat}, IterG t h it a i → ∃ o, h.get? it = some o ∧ o.cls = .type (if t then "tuple_iterator" else "list_iterator")
  | false, _, _, _, _, p => let ⟨o, e, c, _⟩ := p; ⟨o, e, c⟩
  | true, _, _, _, _, p => let ⟨o, e, c, _⟩ := p; ⟨o, e, c⟩
theorem HasG.ne_cls {t : Bool} {h : Heap} {a b : Addr} {its : Array Value} (p : HasG t h a its) {o : Obj} {n : String} (e : h.get? b = some o) (c : o.cls = .type n) (h1 : n ≠ "tuple") (h2 : n ≠ "list") : a ≠ b := fun z => by
  subst z
  obtain ⟨o', e', c'⟩ := p.cls
  rw [e] at e'; cases e'
  rw [c] at c'
  have q := Value.type.inj c'
  cases t
  · exact h2 q
  · exact h1 q
theorem HasG.ne_it {t t' : Bool} {h : Heap} {a it a' : Addr} {i : Nat} {its : Array Value} (p : HasG t h a its) (q : IterG t' h it a' i) : a ≠ it := by
  obtain ⟨o, e, c⟩ := q.cls
  cases t'
  · exact p.ne_cls e c (by decide) (by decide)
  · exact p.ne_cls e c (by decide) (by decide)
theorem HasG.apart {t : Bool} {h : Heap} {a e it : Addr} {i : Nat} {j : Int} {old : Value} {its : Array Value} (p : HasG t h a its) (he : IsEnum h e it j old) (q : IterG t h it a i) : a ≠ e ∧ a ≠ it :=
  ⟨p.ne_cls he rfl (by decide) (by decide), p.ne_it q⟩
section
variable {pins : List (Addr × Obj)} {σ : L2.St} {H : Hp} {s : Shared} {a : Addr} {xs : List V}
theorem seqG (I : Inv X pins σ H s) : ∀ {t : Bool}, SqG X.K t H a xs → ∃ its : List Value, Vals xs its ∧ HasG t s.heap a its.toArray ∧ a < s.heap.objs.size
  | false, h => let ⟨its, r, p, _⟩ := I.list h; ⟨its, r, p.isList, p.lt⟩
  | true, h => let ⟨its, r, p, _⟩ := I.tuple h; ⟨its, r, p, by obtain ⟨_, q, _⟩ := p; exact Heap.lt_size q⟩
theorem seqG_inj (I : Inv X pins σ H s) {ys : List V} : ∀ {t : Bool}, SqG X.K t H a xs → SqG X.K t H a ys → xs = ys
  | false, h, h' => I.list_inj h h'
  | true, h, h' => I.tuple_inj h h'
end
/-! ### enumerate -/
def IteG (K : PySem.W.Frag) (t : Bool) (a : Addr) : It :=
  ⟨fun i H => ∃ (xs : List V) (x : V), SqG K t H a xs ∧ xs[i]? = some x, fun i H v H' => ∃ T x, v = .ref T ∧ H T = none ∧ H' = upd H T (.tup [.int (i : Nat), x]) ∧ ∀ xs, SqG K t H a xs → xs[i]? = some x, fun i H => ∃ xs : List V, SqG K t H a xs ∧ xs.length = i⟩
theorem turn_enumG {P : Program} {w : World} {K : PySem.W.Frag} {elts : List Expr} {kk : Nat} {tpos : Pos} (t : Bool) (a e it : Addr) :
    Turn P w K (.Tuple elts kk tpos) (IteG K t a) [e, it] e (fun i h => (∃ old, IsEnum h e it ((i : Nat) : Int) old) ∧ IterG t h it a i ∧ e ≠ it) where
  mem := by simp
  obj := fun i h st b hb => by
    obtain ⟨⟨old, he⟩, hi, _⟩ := st
    have e' : b = e ∨ b = it := by simpa using hb
    rcases e' with z | z
    · rw [z]; exact ⟨_, he, fun v q => nomatch q⟩
    · rw [z]; exact hi.obj
  keep := fun i h h' st k => let ⟨⟨old, he⟩, hi, hne⟩ := st; ⟨⟨old, k e (by simp) _ he⟩, hi.at fun o q => k it (by simp) o q, hne⟩
  item := by
    intro X hP hw hK hc i pins s σ H E I hf st hg
    subst hP hw hK
    obtain ⟨⟨old, he⟩, hit, hne⟩ := st
    obtain ⟨xs, x, hq, hx⟩ := hg
    obtain ⟨its, rv, p, hl⟩ := seqG I hq
    obtain ⟨u, hu, ru⟩ := rv.get hx
    have hel : e < s.heap.objs.size := Heap.lt_size he
    have hil : it < s.heap.objs.size := by obtain ⟨_, q, _⟩ := hit.obj; exact Heap.lt_size q
    have hab : a ≠ e ∧ a ≠ it := p.apart he hit
    have hi : i < its.toArray.size := by
      have := (List.getElem?_eq_some_iff.mp hu).1
      simpa using this
    have D := drawsG (prog := X.prog) (w := X.w) (A := X.A.in1) (I.ok.hd hc) t it a hab.2 its.toArray
    refine wpAny_pyNext_enum_itemD D he ⟨hit, p⟩ hi hne (fun z => by
      have z' : e = it ∨ e = a := by simpa using z
      exact z'.elim hne fun z => hab.1 z.symm) fun x' h' tk hPx ho hst' hT hsz hk => ?_
    have ex : x' = u := by
      have q : its.toArray[i]? = some u := by simpa using hu
      rw [q] at hPx; exact (Option.some.inj hPx).symm
    subst ex
    refine ⟨_, rfl, wpAny_letOwnedTupleGo_enum (s := { s with heap := h', toks := tk + 1 }) ho fun h'' he' sb => ?_⟩
    have hT2 : h''.get? s.heap.objs.size = some { cls := .type "tuple", data := .seq #[.int i tk, x'] } := (sb.2 _ (Nat.ne_of_gt hel)).trans hT
    have new : ObjOk X.prog X.w (upd H s.heap.objs.size (.tup [.int (i : Nat), x])) h'' s.heap.objs.size (.tup [.int (i : Nat), x]) :=
      ⟨by show 2 ≤ sizeLine; decide, [.int i tk, x'], .cons ⟨_, rfl⟩ (.cons ru .nil), ⟨_, hT2, rfl, _, rfl⟩⟩
    have I1 : Inv X pins σ (upd H s.heap.objs.size (.tup [.int (i : Nat), x])) { s with heap := h'', toks := tk + 1 } :=
      I.turnedNew (ch := [e, it]) (fun b ob hb q => (sb.2 b (fun z => hb (by simp [z]))).trans (hk b ob (fun z => hb (by simp [z])) (fun z => hb (by simp [z])) q)) hf (Nat.le_refl _) new
    refine ⟨.ref s.heap.objs.size, _, I1, rfl, ⟨_, x, rfl, I.hok.fresh (Nat.le_refl _), rfl, fun ys hy => by rw [seqG_inj I hy hq]; exact hx⟩, ⟨⟨x', ?_⟩, hst'.1.at fun o q => (sb.2 it (Ne.symm hne)).trans q, hne⟩, fun b hb => ?_⟩
    · have e1 : ((i + 1 : Nat) : Int) = (i : Int) + 1 := by omega
      rw [e1]; exact he'
    · have hb' : b < s.heap.objs.size := by
        have e' : b = e ∨ b = it := by simpa using hb
        rcases e' with z | z
        · rw [z]; exact hel
        · rw [z]; exact hil
      rw [upd_ne (Nat.ne_of_lt hb')]
      exact (hf b hb).1
  done := by
    intro X hP hw hK hc i pins s σ H E I hf st hg
    subst hP hw hK
    obtain ⟨⟨old, he⟩, hit, hne⟩ := st
    obtain ⟨xs, hq, hx⟩ := hg
    obtain ⟨its, rv, p, hl⟩ := seqG I hq
    obtain ⟨f0, f1, f2, f3, f4, f5⟩ := hf it (by simp)
    have hl := rv.length
    have hab : a ≠ e ∧ a ≠ it := p.apart he hit
    have D := drawsG (prog := X.prog) (w := X.w) (A := X.A.in1) (I.ok.hd hc) t it a hab.2 its.toArray
    have ei : i = its.toArray.size := by simp; omega
    subst ei
    exact wpAny_pyNext_enum_endD D he ⟨hit, p⟩ fun h' eb => ⟨rfl, I.turned (t' := s.toks) (fun b o hb q => eb b o hb q) f0 f1 f3 f4 f5⟩
  self := fun A i s Q E st h => let ⟨⟨_, he⟩, _⟩ := st; wpAny_pyIter_enum he h
/-! ### the call of enumerate -/
theorem meets_enumerate_new1 {v : Value} {o : Obj} {H : Heap → Prop} (B : Begins v o H) :
    Meets (Builtin.«enumerate.__new__» ⟨[.type "enumerate", v], []⟩) (fun _ R s => H s.heap ∧
      R (.ok (.ret (.ref (s.heap.push o).objs.size))) { s with heap := (s.heap.push o).push { cls := .type "enumerate", data := .fields #[.none, .bool false, .ref s.heap.objs.size, rawInt 0, .none, .none] } }) :=
  .of_wp fun prog w A R s h => by
    obtain ⟨hp, g, d, tk, os⟩ := s; obtain ⟨h1, h⟩ := h
    have hsub := sub_enumerate
    have q1 : ∀ {A' : Around} {E : Value → Shared → Prop} {Q : Value → Shared → Prop}, Q (.ref hp.objs.size) ⟨hp.push o, g, d, tk, os⟩ → wpAny (model prog w) A' (pyIter v) Q E ⟨hp, g, d, tk, os⟩ :=
      fun q => B.iter prog w _ _ ⟨hp, g, d, tk, os⟩ _ h1 q
    wp_walk using q1
    refine wpAny_stack_any fun st => wpAny_pure ?_
    split
    · rename_i c _ _ _ _ _
      cases (c == Value.type "enumerate")
      · wp_walk using q1
        exact ⟨_, rfl, h⟩
      · wp_walk using q1
        exact ⟨_, rfl, h⟩
    · wp_walk using q1
      exact ⟨_, rfl, h⟩
theorem enum_begins1 {prog : Program} {w : World} {A : Around} {E : Value → Shared → Prop} {s : Shared} {v : Value} {o : Obj} {H : Heap → Prop} {Q : Value → Shared → Prop} (B : Begins v o H) (h1 : H s.heap)
    (h : ∀ h', IsEnum h' (s.heap.objs.size + 1) s.heap.objs.size 0 .none → h'.get? s.heap.objs.size = some o → h'.objs.size = s.heap.objs.size + 2 →
      (∀ b o, s.heap.get? b = some o → h'.get? b = some o) → Q (.ref (s.heap.objs.size + 1)) { s with heap := h' }) :
    wpAny (model prog w) A (call (.type "enumerate") [v]) Q E s := by
  refine callType_new F.called_enumerate (by decide) (F.typeCall_enumerate_1 _) (F.newCall_enumerate_1 _) (fun obj => F.args_object_init_2 obj _) F.entry_enumerate_new
    (meets_enumerate_new1 B) ⟨h1, ?_⟩
  have hz : (s.heap.push o).objs.size = s.heap.objs.size + 1 := Heap.size_push ..
  show _ ∧ _
  rw [hz]
  have he : IsEnum ((s.heap.push o).push { cls := .type "enumerate", data := .fields #[.none, .bool false, .ref s.heap.objs.size, rawInt 0, .none, .none] }) (s.heap.objs.size + 1) s.heap.objs.size 0 .none := by
    have := Heap.get?_push_size (s.heap.push o) (o := { cls := .type "enumerate", data := .fields #[.none, .bool false, .ref s.heap.objs.size, rawInt 0, .none, .none] }) rfl
    rw [hz] at this; exact this
  refine ⟨⟨_, he, rfl⟩, h _ he (Heap.get?_push_of_some _ (Heap.get?_push_size _ B.free)) (by rw [Heap.size_push, hz]) fun b o x => Heap.get?_push_of_some _ (Heap.get?_push_of_some _ x)⟩
def iEnumG (K : PySem.W.Frag) (ta : TA) : TI := fun σ H R => ta σ H fun vs H1 => ∃ t a xs, vs = [.ref a] ∧ SqG K t H1 a xs ∧ R (IteG K t a) H1
theorem pi_enumG {e : Expr} {ta : TA} {p pos tpos : Pos} {elts : List Expr} {kk : Nat} (hg : Gl X "enumerate") (hm : X.mg "enumerate" = none) (ha : PA X [e] ta) (hs : starEach [e] X.env = [(false, eval e X.env)] := by rfl) :
    PI X (.Tuple elts kk tpos) (.Call (.Name "enumerate" p) [e] [] pos) (iEnumG X.K ta) := by
  refine ⟨fun pins s σ H R I h => ?_⟩
  refine Call_ (ld_blt I hg hm boot_enumerate (PyProof.Rows.callWith_type1 (thn (ha.run pos pins s σ H _ I h) fun us s1 ⟨vs, H1, I1, r1, q1⟩ => ?_) hs rfl))
  obtain ⟨t, a, xs, ex, hq, q⟩ := q1
  subst ex
  cases r1 with
  | cons r rr =>
    cases rr
    cases r
    obtain ⟨its, rv, p', hz⟩ := seqG I1 hq
    refine enum_begins1 (beginsG t a its.toArray) p' fun h' he hit hsz hk => wpAny_pyIter_enum he ?_
    have I2 : Inv X pins σ H1 { s1 with heap := h' } := I1.kept (t' := s1.toks) hk
    refine ⟨s1.heap.objs.size + 1, [s1.heap.objs.size + 1, s1.heap.objs.size], _, _, H1, rfl, I2, turn_enumG t a (s1.heap.objs.size + 1) s1.heap.objs.size, ⟨⟨.none, he⟩, begO_at t hit, Nat.succ_ne_self _⟩, fun b hb => ?_, q⟩
    have e' : b = s1.heap.objs.size + 1 ∨ b = s1.heap.objs.size := by simpa using hb
    have hle : s1.heap.objs.size ≤ b := by
      rcases e' with z | z
      · rw [z]; exact Nat.le_add_right _ _
      · rw [z]; exact Nat.le_refl _
    exact I1.fpOk hle (I1.hok.fresh hle)
/-! ### zip of 2 -/
/-! ### zip of 3 -/
/-! ### as data -/
def RdG (G : Glb) (φ : Fi) (H : Hp) : Bool → Addr → List V → Prop
  | false => RdL G φ H
  | true => RdT G φ H
theorem RdG.kept {φ φ' : Fi} {H H' : Hp} (k : Kept φ H φ' H') : ∀ {t : Bool} {a : Addr} {xs : List V}, RdG G φ H t a xs → RdG G φ' H' t a xs
  | false, _, _, h => RdL.kept k h
  | true, _, _, h => RdT.kept k h
theorem RdG.seq {φ : Fi} {H : Hp} : ∀ {t : Bool} {a : Addr} {xs : List V}, RdG G φ H t a xs → SqG G.K t H a xs
  | false, _, _, h => RdL.seq h
  | true, _, _, h => RdT.seq h
/-- the items of a list or a tuple -/
def seqO (d : D) : Option (List D) := match d with
  | .lst ds => some ds
  | .tup ds => some ds
  | _ => none
@[simp] theorem seqO_lst {ds : List D} : seqO (.lst ds) = some ds := rfl
@[simp] theorem seqO_tup {ds : List D} : seqO (.tup ds) = some ds := rfl
theorem seqO_is {φ : Fi} {H : Hp} {d : D} {ds : List D} {v : V} (i : Is G φ H d v) (h : seqO d = some ds) : ∃ t a xs, v = .ref a ∧ RdG G φ H t a xs ∧ IsL G φ H ds xs := by
  cases d with
  | lst es => cases h; obtain ⟨a, xs, e, r, q⟩ := i; exact ⟨false, a, xs, e, r, q⟩
  | tup es => cases h; obtain ⟨a, xs, e, r, q⟩ := i; exact ⟨true, a, xs, e, r, q⟩
  | _ => cases h
theorem feeds_enumG {φ : Fi} {H : Hp} {t : Bool} {a : Addr} {xs : List V} {ds : List D} (r : RdG G φ H t a xs) (q : IsL G φ H ds xs) : Feeds G φ H (IteG G.K t a) (enumD 0 ds) := by
  refine ⟨fun φ2 S2 H2 i d e s hd => ?_, fun φ2 S2 H2 e s => ⟨xs, (r.kept e).seq, by rw [enumD_length, q.length]⟩⟩
  obtain ⟨d1, hd1, rfl⟩ := enumD_get 0 ds i d hd
  obtain ⟨x, hx, k⟩ := q.get hd1
  refine ⟨⟨xs, x, (r.kept e).seq, hx⟩, fun y H3 ⟨T, x', e3, hT, e4, hy⟩ => ?_⟩
  subst e3 e4
  have z := hy xs (r.kept e).seq
  rw [hx] at z; cases z
  refine ⟨.laid hT, s.laid hT, T, _, rfl, .inl ⟨s.fresh hT, .inl upd_same⟩, ?_⟩
  refine .cons ?_ (.one ((k.kept e).ext (.laid hT)))
  show V.int _ = V.int _
  rw [Nat.zero_add]
def iEnumX (f : LM) : LM := fun env S => (f env S).bind fun ds S => match ds with
  | [d] => match seqO d with
    | some ds => .ok (enumD 0 ds) S
    | none => .bad
  | _ => .bad
theorem di_enumX {e : Expr} {p pos tpos : Pos} {elts : List Expr} {kk : Nat} {f : LM} (hK : X.K = G.K) (hg : Gl X "enumerate") (hm : X.mg "enumerate" = none) (ha : DA G X W [e] f) (hs : starEach [e] X.env = [(false, eval e X.env)] := by rfl) : DI G X W (.Tuple elts kk tpos) (.Call (.Name "enumerate" p) [e] [] pos) (iEnumX f) := by
  obtain ⟨t, pt, q⟩ := ha
  refine ⟨_, pi_enumG hg hm pt hs, fun σ H env φ S R s re h => ?_⟩
  refine q σ H env φ S _ s re (PostL.toI h fun ds S1 φ1 H1 vs e1 s1 i1 h1 => ?_)
  split at h1
  · split at h1
    · rename_i d _ ds g1
      obtain ⟨x, rfl, k⟩ := IsL.inv1 i1
      obtain ⟨t, a, xs, rfl, rd, il⟩ := seqO_is k g1
      refine ⟨t, a, xs, rfl, by rw [hK]; exact rd.seq, ?_⟩
      rw [hK]
      exact h1 φ1 H1 _ .refl s1 (feeds_enumG rd il)
    · exact False.elim h1
  · exact False.elim h1
def iZip2X (f : LM) : LM := fun env S => (f env S).bind fun ds S => match ds with
  | [d1, d2] => match seqO d1, seqO d2 with
    | some ds1, some ds2 => .ok (zipD ds1 ds2) S
    | _, _ => .bad
  | _ => .bad
def zipD3X : List D → List D → List D → List D
  | d1 :: ds1, d2 :: ds2, d3 :: ds3 => .tup [d1, d2, d3] :: zipD3X ds1 ds2 ds3
  | _, _, _ => []
def iZip3X (f : LM) : LM := fun env S => (f env S).bind fun ds S => match ds with
  | [d1, d2, d3] => match seqO d1, seqO d2, seqO d3 with
    | some ds1, some ds2, some ds3 => .ok (zipD3X ds1 ds2 ds3) S
    | _, _, _ => .bad
  | _ => .bad
section
variable {env : EnvD} {S : Store}
@[simp] theorem iEnumX_is {f : LM} : iEnumX f env S = (f env S).bind fun ds S => match ds with
  | [d] => match seqO d with
    | some ds => .ok (enumD 0 ds) S
    | none => .bad
  | _ => .bad := rfl
@[simp] theorem iZip2X_is {f : LM} : iZip2X f env S = (f env S).bind fun ds S => match ds with
  | [d1, d2] => match seqO d1, seqO d2 with
    | some ds1, some ds2 => .ok (zipD ds1 ds2) S
    | _, _ => .bad
  | _ => .bad := rfl
@[simp] theorem iZip3X_is {f : LM} : iZip3X f env S = (f env S).bind fun ds S => match ds with
  | [d1, d2, d3] => match seqO d1, seqO d2, seqO d3 with
    | some ds1, some ds2, some ds3 => .ok (zipD3X ds1 ds2 ds3) S
    | _, _, _ => .bad
  | _ => .bad := rfl
@[simp] theorem iAny_is {f : EM} : iAny f env S = (f env S).bindL fun d S => match d with
  | .lst ds => .ok ds S
  | .tup ds => .ok ds S
  | .str x => .ok (signsD x) S
  | .dic ks _ => .ok (ks.map dKey) S
  | _ => .bad := rfl
@[simp] theorem iValsD_is {f : EM} : iValsD f env S = (f env S).bindL fun d S => match d with
  | .dic _ ds => .ok ds S
  | _ => .bad := rfl
@[simp] theorem iItemsD_is {f : EM} : iItemsD f env S = (f env S).bindL fun d S => match d with
  | .dic ks ds => .ok (itemsD ks ds) S
  | _ => .bad := rfl
end
end DL
end
section
/-! D-layer, part 13: dict comprehensions. -/
namespace DL
open PySem L2
variable {G : Glb} {X : Cx} {W : WX}
abbrev Kds := List (Key × D)
noncomputable def dcD (b : D → EnvD → Option EnvD) (tt ek ev : EM) (env : EnvD) : Kds → List D → Store → Option (Kds × Store)
  | acc, [], S => some (acc, S)
  | acc, d :: ds, S => match b d env with
    | none => none
    | some e1 => match tt e1 S with
      | .ok (.bl true) S1 => match ek e1 S1 with
        | .ok kd S2 => match ev e1 S2 with
          | .ok y S3 => match keyD kd with
            | some k => if sz (acc.length + 1) then dcD b tt ek ev env (putD acc k y) ds S3 else none
            | none => none
          | _ => none
        | _ => none
      | .ok (.bl false) S1 => dcD b tt ek ev env acc ds S1
      | _ => none
noncomputable def eDc (f : LM) (b : D → EnvD → Option EnvD) (tt ek ev : EM) (vs : List Nat) : EM := fun env S => (f env S).bindE fun ds S => match dcD b tt ek ev (wipeD env vs) [] ds S with
  | some (acc, S) => .ok (.dic (acc.map (·.1)) (acc.map (·.2))) S
  | none => .bad
noncomputable def eDcM (f : LM) (b : D → EnvD → Option EnvD) (tt ek ev : EM) (vs : List Nat) : EM := fun env S => (f env S).bindE fun ds S => match dcD b tt ek ev (wipeD env vs) [] ds S with
  | some (acc, S) => .ok (.loc S.length) (S ++ [.dic acc])
  | none => .bad
theorem KvIs.kept {φ φ' : Fi} {H H' : Hp} {kds : List (Key × D)} {kvs : List (Key × V)} (k : Kept φ H φ' H') (q : KvIs G φ H kds kvs) : KvIs G φ' H' kds kvs := ⟨q.1, q.2.kept k⟩
def PostDc (G : Glb) (φ1 : Fi) (H1 : Hp) (D0 : Addr) (r : Option (Kds × Store)) (Q : Hp → Prop) : Prop := match r with
  | some (kds, S) => ∀ φ' H' kvs, Lk φ1 H1 D0 φ' H' → SOk G φ' S H' → H' D0 = some (.dK kvs) → KvIs G φ' H' kds kvs → Q H'
  | none => False
theorem dc_loop {J : It} {g : TG} {tt : TT} {tk tv : TE} {b : D → EnvD → Option EnvD} {ft fk fe : EM} {vs ws : List Nat} {σ : L2.St} {env : EnvD} {φ1 : Fi} {H1 : Hp} {S1 : Store} {ds : List D} {D0 : Addr} {Qd : Hp → Prop} {WB WB' WB2 : WX}
    (qg : ∀ v d σ H env env' φ Q, Is G φ H d v → RepE G φ H σ env → b d env = some env' → (∀ σ', RepE G φ H σ' env' → Off vs σ σ' → Q σ' H) → g v σ H Q)
    (qt : ∀ σ H env φ S Q, SOk G φ S H → RepE G φ H σ env → PostT G WB φ H σ (ft env S) Q → tt σ H Q)
    (qk : ∀ σ H env φ S Q, SOk G φ S H → RepE G φ H σ env → PostE G WB2 φ H σ (fk env S) Q → tk σ H Q)
    (qe : ∀ σ H env φ S Q, SOk G φ S H → RepE G φ H σ env → PostE G WB' φ H σ (fe env S) Q → tv σ H Q)
    (hs : ∀ j ∈ vs, j ∈ ws) (s1 : SOk G φ1 S1 H1) (re : RepE G φ1 H1 σ env) (fd : Feeds G φ1 H1 J ds) (hD : H1 D0 = none)
    (h : PostDc G φ1 H1 D0 (dcD b ft fk fe (wipeD env ws) [] ds S1) Qd) :
    ∃ Wt : Nat → Nat → Hp → Prop, (∃ m, Wt 0 m (upd H1 D0 (.dK []))) ∧ ∀ i m H, Wt i m H →
      (J.stop i H ∧ Qd H) ∨ (J.go i H ∧ ∃ Nx : Hp → Prop, (∀ H', Nx H' → ∃ m', m' < m ∧ Wt (i + 1) m' H') ∧ ∀ x H', J.yld i H x H' → g x (wipe σ ws) H' fun σ2 H2 => wipe σ2 ws = wipe σ ws ∧ tt σ2 H2 fun b H3 =>
        if b = true then tk σ2 H3 fun y H4 => tv σ2 H4 fun z H5 => ∃ kvs k, y = kV k ∧ H5 D0 = some (.dK kvs) ∧ kvs.length < sizeLine ∧ Nx (upd H5 D0 (.dK (putK kvs k z))) else Nx H3) := by
  let Go : Nat → Hp → Prop := fun i H2 => i ≤ ds.length ∧ ∃ φ2 S2 kds kvs, Kept φ1 H1 φ2 H2 ∧ Lk φ1 H1 D0 φ2 H2 ∧ SOk G φ2 S2 H2 ∧ H2 D0 = some (.dK kvs) ∧ KvIs G φ2 H2 kds kvs ∧ PostDc G φ1 H1 D0 (dcD b ft fk fe (wipeD env ws) kds (ds.drop i) S2) Qd
  refine ⟨fun i m H2 => m = ds.length - i ∧ Go i H2, ⟨ds.length, by simp, Nat.zero_le _, φ1.hide D0, S1, [], [], Kept.hide hD, .start hD, s1.hide hD, upd_same, ⟨rfl, rfl⟩, h⟩, ?_⟩
  rintro i m H2 ⟨rfl, hi, φ2, S2, kds, kvs, k2, l2, s2, hacc, il, h2⟩
  by_cases hl : i < ds.length
  · right
    have hd : ds[i]? = some ds[i] := List.getElem?_eq_getElem hl
    obtain ⟨go, gy⟩ := fd.go φ2 S2 H2 i ds[i] k2 s2 hd
    rw [List.drop_eq_getElem_cons hl] at h2
    refine ⟨go, Go (i + 1), fun H' w => ⟨ds.length - (i + 1), by omega, rfl, w⟩, fun x H' hy => ?_⟩
    obtain ⟨e3, s3, k3⟩ := gy x H' hy
    have nc : D0 ∉ φ2.c := (s2.hid D0 l2.mem).1
    have r3 : RepE G φ2 H' (wipe σ ws) (wipeD env ws) := ((re.wipe ws).kept k2).ext e3
    unfold dcD at h2
    cases hb1 : b ds[i] (wipeD env ws) with
    | none => rw [hb1] at h2; exact False.elim h2
    | some env3 =>
      rw [hb1] at h2
      dsimp only at h2
      refine qg x ds[i] _ H' _ env3 φ2 _ k3 r3 hb1 fun σ3 r4 o3 => ⟨wipe_off hs o3, ?_⟩
      refine qt σ3 H' env3 φ2 S2 _ s3 r4 ?_
      cases ht : ft env3 S2 with
      | bad => rw [ht] at h2; exact False.elim h2
      | ex x S3 => rw [ht] at h2; exact False.elim h2
      | ok d S3 =>
        rw [ht] at h2
        cases d with
        | bl k =>
          intro φ4 H4 v e4 s4 i4 b' eb
          cases (show v = .bl k from i4)
          cases eb
          have e24 := e3.trans e4
          cases k with
          | false =>
            exact iteF ⟨by omega, φ4, S3, kds, kvs, k2.trans e24.kept, l2.ext' e24, s4, e24.keepH nc hacc l2.mem, il.ext e24, h2⟩
          | true =>
            refine iteT (qk σ3 H4 env3 φ4 S3 _ s4 (r4.ext e4) ?_)
            dsimp only at h2
            cases hk : fk env3 S3 with
            | bad => rw [hk] at h2; exact False.elim h2
            | ex x S5 => rw [hk] at h2; exact False.elim h2
            | ok kd S5 =>
              rw [hk] at h2
              dsimp only at h2
              intro φ5 H5 v5 e5 s5 i5
              refine qe σ3 H5 env3 φ5 S5 _ s5 ((r4.ext e4).ext e5) ?_
              cases he : fe env3 S5 with
              | bad => rw [he] at h2; exact False.elim h2
              | ex x S6 => rw [he] at h2; exact False.elim h2
              | ok y S6 =>
                rw [he] at h2
                dsimp only at h2
                cases hkd : keyD kd with
                | none => rw [hkd] at h2; exact False.elim h2
                | some k =>
                  rw [hkd] at h2
                  dsimp only at h2
                  by_cases hz : sz (kds.length + 1)
                  · rw [if_pos hz] at h2
                    intro φ6 H6 v6 e6 s6 i6
                    have e26 := (e24.trans e5).trans e6
                    have l6 := l2.ext' e26
                    have q6 := il.ext e26
                    have kh : Kept φ6 H6 φ6 (upd H6 D0 (.dK (putK kvs k v6))) := .hidden l6.mem
                    exact ⟨kvs, k, keyD_is i5 hkd, e26.keepH nc hacc l2.mem, by rw [← KvIs.length il, sizeLine_eq]; exact hz, by omega, φ6, S6, putD kds k y, putK kvs k v6, (k2.trans e26.kept).trans kh, l6.put hD, s6.hidden l6.mem, upd_same, (put_is q6 i6 k).kept kh, h2⟩
                  · rw [if_neg hz] at h2; exact False.elim h2
        | _ => exact False.elim h2
  · left
    have e : i = ds.length := by omega
    subst e
    rw [List.drop_length] at h2
    exact ⟨fd.stop φ2 S2 H2 k2 s2, h2 φ2 H2 kvs l2 s2 hacc il⟩
/-- the finished dict is no more hidden -/
theorem Lk.doneD {φ1 φ2 : Fi} {H1 H2 : Hp} {D0 : Addr} {S S0 : Store} {kds : List (Key × D)} {kvs : List (Key × V)} (l : Lk φ1 H1 D0 φ2 H2) (s1 : SOk G φ1 S0 H1) (hD : H1 D0 = none) (s : SOk G φ2 S H2) (hx : H2 D0 = some (.dK kvs)) (il : KvIs G φ2 H2 kds kvs) :
    SOk G ⟨φ2.c, φ1.h⟩ S H2 ∧ Is G ⟨φ2.c, φ1.h⟩ H2 (.dic (kds.map (·.1)) (kds.map (·.2))) (.ref D0) := by
  have e : φ2 = (Fi.mk φ2.c φ1.h).hide D0 := by
    obtain ⟨c, h⟩ := φ2
    have := l.hid
    simp only at this
    subst this
    rfl
  have nc : D0 ∉ φ2.c := (s.hid D0 l.mem).1
  rw [e] at s il
  exact ⟨s.show_, D0, kvs, rfl, ⟨⟨nc, s1.freshh hD⟩, .inl hx⟩, il.1, il.2.kept Kept.show_⟩
section
variable {kx vx tg iter : Expr} {ifs : List Expr} {scope : Scope} {own : List (PySem.Str × Nat)} {pos : Pos} {f : LM} {b : D → EnvD → Option EnvD} {ft fk fe : EM} {vs : List Nat}
theorem de_dc (hc : X.calm = true) (hN : X.N.Nodup) (hi : DI G X W tg iter f) (ok : BlkOk X.N X.env.scope scope own)
    (hg : ∀ (s : Shared) (H : Hp) (C : Addr) (cl : List (PySem.Str × Addr)) (fp : List Addr), DG G (X.blk s H scope (compEnvC scope cl C X.env) fp) tg b vs)
    (ht : ∀ (s : Shared) (H : Hp) (C : Addr) (cl : List (PySem.Str × Addr)) (fp : List Addr), DTs G (X.blk s H scope (compEnvC scope cl C X.env) fp) W0 ifs ft)
    (hk : ∀ (s : Shared) (H : Hp) (C : Addr) (cl : List (PySem.Str × Addr)) (fp : List Addr), DE G (X.blk s H scope (compEnvC scope cl C X.env) fp) W0 kx fk)
    (he : ∀ (s : Shared) (H : Hp) (C : Addr) (cl : List (PySem.Str × Addr)) (fp : List Addr), DE G (X.blk s H scope (compEnvC scope cl C X.env) fp) W0 vx fe)
    (hvs : ∀ j ∈ vs, j ∈ own.map (·.2)) (hs : ∀ x, foldedSetIterable iter X.env x = pure x := by intro _; rfl) : DE G X W (.DictComp kx vx [⟨tg, iter, ifs, 0⟩] scope pos) (eDc f b ft fk fe (own.map (·.2))) := by
  obtain ⟨wi, pI, qi⟩ := hi
  refine ⟨_, pe_dc hc hN pI ok (fun s H C cl fp => (hg s H C cl fp).can) (fun s H C cl fp => (ht s H C cl fp).can) (fun s H C cl fp => (hk s H C cl fp).can) (fun s H C cl fp => (he s H C cl fp).can) hs, fun σ H env φ S Q s re h => ?_⟩
  refine qi σ H env φ S _ s re (PostI.ofE h fun ds S1 φ1 H1 J e1 s1 fd h1 D0 hD => ?_)
  refine dc_loop (env := env) (fun v d σ H env env' φ Q i r z k => ⟨d, env, env', φ, i, r, z, k⟩) (fun σ H env φ S Q s r z => ⟨env, φ, S, s, r, z⟩) (fun σ H env φ S Q s r z => ⟨env, φ, S, s, r, z⟩) (fun σ H env φ S Q s r z => ⟨env, φ, S, s, r, z⟩) hvs s1 (re.ext e1) fd hD ?_
  cases hr : dcD b ft fk fe (wipeD env (own.map (·.2))) [] ds S1 with
  | some p =>
    obtain ⟨kds, S2⟩ := p
    rw [hr] at h1
    intro φ2 H2 xs l2 s2 hx il
    obtain ⟨s3, i3⟩ := l2.doneD s1 hD s2 hx il
    exact h1 _ H2 _ l2.ext s3 i3
  | none => rw [hr] at h1; exact h1
end

/-! ### a dict comprehension bound to a local name -/
theorem sw_trueD {kx vx : Expr} {gs : List Comprehension} {scope : Scope} {pos py : Pos} {y : PySem.Str} {l : Nat} {env : Env} (hk : env.scope.kind = .function) (hy : env.scope.names.lookup y = some .local) (hl : (py.line == pos.line) = true)
    (ha : (scope.names.any fun (n, k) => n == y && (k == .local || k == .cell)) = false) : swapsWith (.DictComp kx vx gs scope pos) (some (.Name y py)) l env = pure true := by
  have ky : env.kindOf y = some .local := hy
  have hb : env.blockKind = .function := by unfold Env.blockKind; rw [hk]; rfl
  unfold swapsWith
  simp only [hb, ky, ha, Expr.pos, hl]
  rfl
theorem ps_setDc {i : Nat} {y : PySem.Str} {py : Pos} {kx vx tg iter : Expr} {ifs : List Expr} {scope : Scope} {own : List (PySem.Str × Nat)} {pos spos : Pos} {wi : TI} {g : TG} {tt : TT} {tk tv : TE} (hc : X.calm = true) (hN : X.N.Nodup) (hy : X.N[i]? = some y) (hyl : X.env.scope.names.lookup y = some .local)
    (hsw : swapsWith (.DictComp kx vx [⟨tg, iter, ifs, 0⟩] scope pos) (some (.Name y py)) spos.line X.env = pure true) (hi : PI X tg iter wi) (ok : BlkOk X.N X.env.scope scope own)
    (hg : ∀ (s : Shared) (H : Hp) (C : Addr) (cl : List (PySem.Str × Addr)) (fp : List Addr), PG (X.blk s H scope (compEnvC scope cl C X.env) fp) tg g) (ht : ∀ (s : Shared) (H : Hp) (C : Addr) (cl : List (PySem.Str × Addr)) (fp : List Addr), PTs (X.blk s H scope (compEnvC scope cl C X.env) fp) ifs tt)
    (hk : ∀ (s : Shared) (H : Hp) (C : Addr) (cl : List (PySem.Str × Addr)) (fp : List Addr), PE (X.blk s H scope (compEnvC scope cl C X.env) fp) kx tk)
    (he : ∀ (s : Shared) (H : Hp) (C : Addr) (cl : List (PySem.Str × Addr)) (fp : List Addr), PE (X.blk s H scope (compEnvC scope cl C X.env) fp) vx tv) (hs : ∀ x, foldedSetIterable iter X.env x = pure x := by intro _; rfl) :
    PS X (.Assign [.Name y py] (.DictComp kx vx [⟨tg, iter, ifs, 0⟩] scope pos) spos) (tAsg (tDc wi g tt tk tv (own.map (·.2))) (gName i)) := by
  refine ⟨fun pins s σ H D I h => ?_⟩
  rw [exec_Assign_Name_used _ _ _ _ hsw]
  refine wpAny_bind (wpAny_standAt (wpAny_bind ?_))
  show wpAny _ X.A (do let _ ← comprehension (.DictComp kx vx [⟨tg, iter, ifs, 0⟩] scope pos) scope X.env (firstIterPos [⟨tg, iter, ifs, 0⟩] pos) newDict false (eval iter X.env) (some (assign (.Name y py) X.env))) _ _ s
  have h : tDc wi g tt tk tv (own.map (·.2)) σ H (fun x H1 => gName i x σ H1 D.nx) := h
  refine wpAny_bind (thn (dc_core (Qf := fun _ s' => SP X pins D .next s') hc hN I hi ok hg ht hk he hs h fun L C s' m H' I' q hn f => ?_) fun _ s' hq => wpAny_pure (wpAny_pure hq))
  show wpAny _ _ (assign (.Name y py) X.env (.ref L)) _ _ _
  refine wpAny_assign_Name (store_ok2 (v := V.ref L) I' hN hy (.inl hyl) rfl (fun s2 I2 ⟨a, sb, ha⟩ => ?_) (.inr hyl))
  obtain ⟨f0, f1, f2, f3, f4, f5⟩ := f
  have haC : C ≠ a := by
    rcases ha with z | z
    · rw [z]; exact f1
    · exact fun e => f4 y a z e.symm
  refine ⟨m, hn.sameBut sb haC, fun h3 sb3 => ?_⟩
  exact ⟨_, H', I2.turned (t' := s2.toks) (fun b o hb e => (sb3.2 b hb).trans e) f0 f1 f3 f4 f5, q⟩
section
variable {kx vx tg iter : Expr} {ifs : List Expr} {scope : Scope} {own : List (PySem.Str × Nat)} {pos : Pos} {f : LM} {b : D → EnvD → Option EnvD} {ft fk fe : EM} {vs : List Nat}
theorem dc_read {wi : TI} (qi : ∀ σ H env φ S R, SOk G φ S H → RepE G φ H σ env → PostI G W φ H σ (f env S) R → wi σ H R) (hvs : ∀ j ∈ vs, j ∈ own.map (·.2)) {Q : VK}
    {σ : L2.St} {H : Hp} {env : EnvD} {φ : Fi} {S : Store} (s : SOk G φ S H) (re : RepE G φ H σ env) (h : PostE G W φ H σ (eDc f b ft fk fe (own.map (·.2)) env S) Q) :
    tDc wi (gOf G b vs) (tOfT G W0 ft) (tOf G W0 fk) (tOf G W0 fe) (own.map (·.2)) σ H Q := by
  refine qi σ H env φ S _ s re (PostI.ofE h fun ds S1 φ1 H1 J e1 s1 fd h1 D0 hD => ?_)
  refine dc_loop (env := env) (fun v d σ H env env' φ Q i r z k => ⟨d, env, env', φ, i, r, z, k⟩) (fun σ H env φ S Q s r z => ⟨env, φ, S, s, r, z⟩) (fun σ H env φ S Q s r z => ⟨env, φ, S, s, r, z⟩) (fun σ H env φ S Q s r z => ⟨env, φ, S, s, r, z⟩) hvs s1 (re.ext e1) fd hD ?_
  cases hr : dcD b ft fk fe (wipeD env (own.map (·.2))) [] ds S1 with
  | some p =>
    obtain ⟨kds, S2⟩ := p
    rw [hr] at h1
    intro φ2 H2 xs l2 s2 hx il
    obtain ⟨s3, i3⟩ := l2.doneD s1 hD s2 hx il
    exact h1 _ H2 _ l2.ext s3 i3
  | none => rw [hr] at h1; exact h1
theorem ds_setDc {i : Nat} {y : PySem.Str} {py spos : Pos} (hc : X.calm = true) (hN : X.N.Nodup) (hi : DI G X W tg iter f) (ok : BlkOk X.N X.env.scope scope own)
    (hg : ∀ (s : Shared) (H : Hp) (C : Addr) (cl : List (PySem.Str × Addr)) (fp : List Addr), DG G (X.blk s H scope (compEnvC scope cl C X.env) fp) tg b vs)
    (ht : ∀ (s : Shared) (H : Hp) (C : Addr) (cl : List (PySem.Str × Addr)) (fp : List Addr), DTs G (X.blk s H scope (compEnvC scope cl C X.env) fp) W0 ifs ft)
    (hk : ∀ (s : Shared) (H : Hp) (C : Addr) (cl : List (PySem.Str × Addr)) (fp : List Addr), DE G (X.blk s H scope (compEnvC scope cl C X.env) fp) W0 kx fk)
    (he : ∀ (s : Shared) (H : Hp) (C : Addr) (cl : List (PySem.Str × Addr)) (fp : List Addr), DE G (X.blk s H scope (compEnvC scope cl C X.env) fp) W0 vx fe)
    (hvs : ∀ j ∈ vs, j ∈ own.map (·.2)) (hy : X.N[i]? = some y) (hyl : X.env.scope.names.lookup y = some .local)
    (hsw : swapsWith (.DictComp kx vx [⟨tg, iter, ifs, 0⟩] scope pos) (some (.Name y py)) spos.line X.env = pure true) (hs : ∀ x, foldedSetIterable iter X.env x = pure x := by intro _; rfl) :
    DS G X W (.Assign [.Name y py] (.DictComp kx vx [⟨tg, iter, ifs, 0⟩] scope pos) spos) (sAsg (eDc f b ft fk fe (own.map (·.2))) (bName i)) := by
  obtain ⟨wi, pI, qi⟩ := hi
  refine ⟨_, ps_setDc hc hN hy hyl hsw pI ok (fun s H C cl fp => (hg s H C cl fp).can) (fun s H C cl fp => (ht s H C cl fp).can) (fun s H C cl fp => (hk s H C cl fp).can) (fun s H C cl fp => (he s H C cl fp).can) hs, fun σ H env φ S N s re h => ?_⟩
  exact dc_read qi hvs s re (PostE.bindS re h fun d S1 φ1 H1 v e1 s1 i1 h1 => h1 φ1 H1 _ .refl s1 ((re.ext e1).set i1 i))
end
section
variable {env : EnvD} {S : Store}
@[simp] theorem eDc_is {f : LM} {b : D → EnvD → Option EnvD} {tt ek ev : EM} {vs : List Nat} : eDc f b tt ek ev vs env S = (f env S).bindE fun ds S => match dcD b tt ek ev (wipeD env vs) [] ds S with
  | some (acc, S) => .ok (.dic (acc.map (·.1)) (acc.map (·.2))) S
  | none => .bad := rfl
@[simp] theorem eDcM_is {f : LM} {b : D → EnvD → Option EnvD} {tt ek ev : EM} {vs : List Nat} : eDcM f b tt ek ev vs env S = (f env S).bindE fun ds S => match dcD b tt ek ev (wipeD env vs) [] ds S with
  | some (acc, S) => .ok (.loc S.length) (S ++ [.dic acc])
  | none => .bad := rfl
end

/-! ### two fors in a list comprehension -/
def iOf (G : Glb) (f : LM) : TI := fun σ H R => ∃ env φ S, SOk G φ S H ∧ RepE G φ H σ env ∧ PostI G W0 φ H σ (f env S) R
theorem DI.can {tg e : Expr} {f : LM} (h : DI G X W0 tg e f) : PI X tg e (iOf G f) := by
  obtain ⟨t, p, q⟩ := h
  exact ⟨fun pins s σ H R I ⟨env, φ, S, so, r, z⟩ => p.run pins s σ H R I (q σ H env φ S R so r z)⟩
noncomputable def lc2D (b : D → EnvD → Option EnvD) (tt : EM) (f1 : LM) (b1 : D → EnvD → Option EnvD) (tt1 elt : EM) (vs1 : List Nat) (env : EnvD) : List D → List D → Store → LR
  | acc, [], S => .ok acc S
  | acc, d :: ds, S => match b d env with
    | none => .bad
    | some e1 => match tt e1 S with
      | .ok (.bl true) S1 => match f1 e1 S1 with
        | .ok ds1 S2 => match lcD b1 tt1 elt (wipeD e1 vs1) acc ds1 S2 with
          | .ok acc' S3 => lc2D b tt f1 b1 tt1 elt vs1 env acc' ds S3
          | _ => .bad
        | _ => .bad
      | .ok (.bl false) S1 => lc2D b tt f1 b1 tt1 elt vs1 env acc ds S1
      | _ => .bad
noncomputable def eLc2 (f : LM) (b : D → EnvD → Option EnvD) (tt : EM) (f1 : LM) (b1 : D → EnvD → Option EnvD) (tt1 elt : EM) (vs1 vs : List Nat) : EM := fun env S => (f env S).bindE fun ds S => (lc2D b tt f1 b1 tt1 elt vs1 (wipeD env vs) [] ds S).bindE fun ys S => .ok (.lst ys) S
noncomputable def eLc2M (f : LM) (b : D → EnvD → Option EnvD) (tt : EM) (f1 : LM) (b1 : D → EnvD → Option EnvD) (tt1 elt : EM) (vs1 vs : List Nat) : EM := fun env S => (f env S).bindE fun ds S => (lc2D b tt f1 b1 tt1 elt vs1 (wipeD env vs) [] ds S).bindE fun ys S => .ok (.loc S.length) (S ++ [.lst ys])
section
variable {elt tg iter tg1 iter1 : Expr} {ifs ifs1 : List Expr} {scope : Scope} {own : List (PySem.Str × Nat)} {pos : Pos} {f f1 : LM} {b b1 : D → EnvD → Option EnvD} {ft ft1 fe : EM} {vs vs1 ws1 : List Nat}
end
section
variable {env : EnvD} {S : Store}
@[simp] theorem eLc2_is {f f1 : LM} {b b1 : D → EnvD → Option EnvD} {tt tt1 elt : EM} {vs1 vs : List Nat} : eLc2 f b tt f1 b1 tt1 elt vs1 vs env S = (f env S).bindE fun ds S => (lc2D b tt f1 b1 tt1 elt vs1 (wipeD env vs) [] ds S).bindE fun ys S => .ok (.lst ys) S := rfl
@[simp] theorem eLc2M_is {f f1 : LM} {b b1 : D → EnvD → Option EnvD} {tt tt1 elt : EM} {vs1 vs : List Nat} : eLc2M f b tt f1 b1 tt1 elt vs1 vs env S = (f env S).bindE fun ds S => (lc2D b tt f1 b1 tt1 elt vs1 (wipeD env vs) [] ds S).bindE fun ys S => .ok (.loc S.length) (S ++ [.lst ys]) := rfl
end
end DL
end
section
/-! list(d.values()), sorted(d.values()). -/
namespace L2
open PySem PySem.Spec PyProof.Rows
section
variable {X : Cx} {e : Expr} {te : TE} {p apos cpos pos : Pos}
end
end L2
end
section
/-! D-layer, part 14: dicts as arguments: list(d.values()), sorted(d.values()), sorted(d), dict(pairs). -/
namespace DL
open PySem L2
variable {G : Glb} {X : Cx} {W : WX}
def eListVals (f : EM) : EM := fun env S => (f env S).bind fun d S => match d with
  | .dic _ ds => .ok (.lst ds) S
  | _ => .bad
def eSortVals (f : EM) : EM := fun env S => (f env S).bind fun d S => match d with
  | .dic _ ds => match intsD ds with
    | some ns => if ns.length < 64 then .ok (.lst ((sortI ns).map .int)) S else .bad
    | none => .bad
  | _ => .bad
/-- a dict's keys, whole numbers -/
def intKeys : List (Key × D) → Option (List Int)
  | [] => some []
  | (.inl i, _) :: r => (intKeys r).map (i :: ·)
  | (.inr _, _) :: _ => none
theorem intKeys_is : ∀ {kds : List (Key × D)} {ns : List Int}, intKeys kds = some ns → kds.map (·.1) = ns.map Sum.inl
  | [], ns, h => by cases h; rfl
  | (.inl i, d) :: r, ns, h => by
    obtain ⟨m, h1, h2⟩ := Option.map_eq_some_iff.mp (show (intKeys r).map (i :: ·) = some ns from h)
    subst h2
    simp [intKeys_is h1]
  | (.inr _, _) :: _, _, h => by cases h
def bSortedX (ds : List D) (S : Store) : ER := match ds with
  | [d] => match dicD S d with
    | some kds => match intKeys kds with
      | some ns => if ns.length < 64 then .ok (.lst ((sortI ns).map .int)) S else .bad
      | none => .bad
    | none => bSorted [d] S
  | _ => .bad
theorem dc_sortedX (hc : X.calm = true) (hK : X.K = G.K) : DCall G X (.builtin "sorted") bSortedX := by
  obtain ⟨r, hr, q⟩ := dc_sorted (G := G) (X := X) hK
  refine ⟨_, hr.or (call_sortedDI hc), fun W φ S H σ ds xs Q s i h => ?_⟩
  unfold bSortedX at h
  split at h
  · split at h
    · rename_i d kds e
      obtain ⟨x, rfl, k⟩ := IsL.inv1 i
      obtain ⟨a, kvs, rfl, r, kv⟩ := dicD_is s k e
      split at h
      · rename_i ns en
        split at h
        · rename_i h64
          refine .inr ⟨a, kvs, ns, rfl, r, by rw [kv.1]; exact intKeys_is en, h64, fun ys p hp hw hn => ?_⟩
          rw [sorted_uniq (hp.trans (sortI_perm ns).symm) hw (sortI_pw ns)]
          exact lst_new s IsL.of_ints h hn
        · exact bad_no h
      · exact bad_no h
    · exact .inl (q W φ S H σ _ xs Q s i h)
  · exact bad_no h
/-- pairs, the first a key -/
def pairsD : List D → Option Kds
  | [] => some []
  | .tup [a, b] :: r => (keyD a).bind fun k => (pairsD r).map ((k, b) :: ·)
  | _ :: _ => none
def mergeD (kds more : Kds) : Kds := more.foldl (fun acc kv => putD acc kv.1 kv.2) kds
theorem merge_is {φ : Fi} {H : Hp} : ∀ {more : Kds} {mvs : List (Key × V)} {kds : Kds} {kvs : List (Key × V)}, KvIs G φ H more mvs → KvIs G φ H kds kvs → KvIs G φ H (mergeD kds more) (mergeK kvs mvs)
  | [], mvs, kds, kvs, h, k => by
    have : mvs = [] := by simpa using h.1
    subst this
    exact k
  | (key, d) :: more, mvs, kds, kvs, h, k => by
    cases mvs with
    | nil => simp [KvIs] at h
    | cons p mvs =>
      obtain ⟨h1, h2⟩ := h
      simp only [List.map_cons, List.cons.injEq] at h1
      obtain ⟨x, r, e, p1, q1⟩ := (show IsL G φ H (d :: more.map (·.2)) (p.2 :: mvs.map (·.2)) from h2)
      cases e
      show KvIs G φ H (mergeD (putD kds key d) more) (mergeK (putK kvs p.1 p.2) mvs)
      rw [h1.1]
      exact merge_is ⟨h1.2, q1⟩ (put_is k p1 key)
theorem pairs_is {φ : Fi} {H : Hp} : ∀ {ds : List D} {xs : List V} {kds : Kds}, pairsD ds = some kds → IsL G φ H ds xs → ∃ (ps : List Addr) (kvs : List (Key × V)), xs = ps.map V.ref ∧ Paired (fun p kv => SqT G.K H p [kV kv.1, kv.2]) ps kvs ∧ KvIs G φ H kds kvs
  | [], xs, kds, h, i => by cases h; cases (show xs = [] from i); exact ⟨[], [], rfl, .nil, rfl, rfl⟩
  | .tup [a, b] :: r, xs, kds, h, i => by
    obtain ⟨k, h1, h2⟩ := Option.bind_eq_some_iff.mp (show (keyD a).bind (fun k => (pairsD r).map ((k, b) :: ·)) = some kds from h)
    obtain ⟨m, h3, h4⟩ := Option.map_eq_some_iff.mp h2
    subst h4
    obtain ⟨x, xs', rfl, p, q⟩ := i
    obtain ⟨t, ys, rfl, rt, il⟩ := p
    obtain ⟨y1, r1, rfl, i1, il⟩ := il
    obtain ⟨y2, r2, rfl, i2, il⟩ := il
    cases (show r2 = [] from il)
    obtain ⟨ps, kvs, rfl, hp, hk⟩ := pairs_is h3 q
    refine ⟨t :: ps, (k, y2) :: kvs, rfl, .cons ?_ hp, ?_, ?_⟩
    · have := rt.seq
      rw [keyD_is i1 h1] at this
      exact this
    · simp [hk.1]
    · exact ⟨y2, kvs.map (·.2), rfl, i2, hk.2⟩
  | .tup [] :: _, _, _, h, _ => by cases h
  | .tup [_] :: _, _, _, h, _ => by cases h
  | .tup (_ :: _ :: _ :: _) :: _, _, _, h, _ => by cases h
  | .non :: _, _, _, h, _ => by cases h
  | .bl _ :: _, _, _, h, _ => by cases h
  | .int _ :: _, _, _, h, _ => by cases h
  | .str _ :: _, _, _, h, _ => by cases h
  | .lst _ :: _, _, _, h, _ => by cases h
  | .dic _ _ :: _, _, _, h, _ => by cases h
  | .obj _ _ _ :: _, _, _, h, _ => by cases h
  | .loc _ :: _, _, _, h, _ => by cases h
  | .dct _ _ :: _, _, _, h, _ => by cases h
  | .exn _ _ _ :: _, _, _, h, _ => by cases h
  | .tpl _ :: _, _, _, h, _ => by cases h
def bDictX (ds : List D) (S : Store) : ER := match ds with
  | [.lst es] => match pairsD es with
    | some kds => .ok (.dic ((mergeD [] kds).map (·.1)) ((mergeD [] kds).map (·.2))) S
    | none => .bad
  | ds => bDict ds S
theorem dc_dictX (hc : X.calm = true) (hK : X.K = G.K) : DCall G X (.type "dict") bDictX := by
  obtain ⟨r, hr, q⟩ := dc_dict (G := G) (X := X)
  refine ⟨_, hr.or (call_dictP hc), fun W φ S H σ ds xs Q s i h => ?_⟩
  unfold bDictX at h
  split at h
  · split at h
    · rename_i es kds e
      obtain ⟨x, rfl, k⟩ := IsL.inv1 i
      obtain ⟨a, ys, rfl, r, il⟩ := k
      obtain ⟨ps, kvs, rfl, hp, hk⟩ := pairs_is e il
      refine .inr ⟨a, ps, kvs, rfl, by rw [hK]; exact r.seq, by rw [hK]; exact hp, fun p hn => ?_⟩
      exact dic_new s (merge_is (kds := []) (kvs := []) hk ⟨rfl, rfl⟩) h hn
    · exact bad_no h
  · exact .inl (q W φ S H σ _ xs Q s i h)
section
variable {env : EnvD} {S : Store}
@[simp] theorem eListVals_is {f : EM} : eListVals f env S = (f env S).bind fun d S => match d with
  | .dic _ ds => .ok (.lst ds) S
  | _ => .bad := rfl
@[simp] theorem eSortVals_is {f : EM} : eSortVals f env S = (f env S).bind fun d S => match d with
  | .dic _ ds => match intsD ds with
    | some ns => if ns.length < 64 then .ok (.lst ((sortI ns).map .int)) S else .bad
    | none => .bad
  | _ => .bad := rfl
@[simp] theorem bSortedX_dic {ks : List Key} {ds : List D} : bSortedX [.dic ks ds] S = match intKeys (ks.zip ds) with
      | some ns => if ns.length < 64 then .ok (.lst ((sortI ns).map .int)) S else .bad
      | none => .bad := rfl
@[simp] theorem bSortedX_lst {ds : List D} : bSortedX [.lst ds] S = bSorted [.lst ds] S := rfl
@[simp] theorem bDictX_lst {es : List D} : bDictX [.lst es] S = match pairsD es with
    | some kds => .ok (.dic ((mergeD [] kds).map (·.1)) ((mergeD [] kds).map (·.2))) S
    | none => .bad := rfl
@[simp] theorem bDictX_dic {ks : List Key} {ds : List D} : bDictX [.dic ks ds] S = bDict [.dic ks ds] S := rfl
@[simp] theorem bDictX_loc {l : Nat} : bDictX [.loc l] S = bDict [.loc l] S := rfl
end
end DL
end
section
/-! D-layer, part 15: loops and comprehensions over a list that is a cell (it stays as it is while it is walked). -/
namespace DL
open PySem L2
variable {G : Glb} {X : Cx} {W : WX}
/-- the items of a list, a tuple, a list's cell; the cell that must stay -/
def itemsS (d : D) (S : Store) : Option (Option Nat × List D) := match d with
  | .lst ds => some (none, ds)
  | .tup ds => some (none, ds)
  | .loc l => match S[l]? with
    | some (.lst ds) => some (some l, ds)
    | _ => none
  | _ => none
def okW (w : Option Nat) (ds : List D) (S : Store) : Prop := match w with
  | none => True
  | some l => S[l]? = some (.lst ds)
structure FeedsX (G : Glb) (φ0 : Fi) (H0 : Hp) (J : It) (w : Option Nat) (ds : List D) : Prop where
  go : ∀ φ S H (i : Nat) d, Kept φ0 H0 φ H → SOk G φ S H → okW w ds S → ds[i]? = some d → J.go i H ∧ ∀ x H', J.yld i H x H' → Ext φ H φ H' ∧ SOk G φ S H' ∧ Is G φ H' d x
  stop : ∀ φ S H, Kept φ0 H0 φ H → SOk G φ S H → okW w ds S → J.stop ds.length H
open Classical in
noncomputable def forDX (w : Option Nat) (ds0 : List D) (b : D → EnvD → Option EnvD) (body : SM) : List D → SM
  | [], e, S => if okW w ds0 S then .nx e S else .bad
  | d :: ds, e, S => if okW w ds0 S then (match b d e with
    | none => .bad
    | some e1 => match body e1 S with
      | .nx e2 S2 => forDX w ds0 b body ds e2 S2
      | .ct e2 S2 => forDX w ds0 b body ds e2 S2
      | .bk e2 S2 => .nx e2 S2
      | .rt d S2 => .rt d S2
      | .ex x e2 S2 => .ex x e2 S2
      | .bad => .bad) else .bad
theorem forDX_none {ds0 : List D} {b : D → EnvD → Option EnvD} {body : SM} : ∀ {ds : List D} {e : EnvD} {S : Store}, forDX none ds0 b body ds e S = forD b body ds e S
  | [], e, S => by unfold forDX forD; rw [if_pos (show okW none ds0 S from trivial)]
  | d :: ds, e, S => by
    unfold forDX forD
    rw [if_pos (show okW none ds0 S from trivial)]
    cases b d e with
    | none => rfl
    | some e1 =>
      dsimp only
      cases body e1 S <;> first | rfl | exact forDX_none
noncomputable def sForX (f : EM) (b : D → EnvD → Option EnvD) (body : SM) : SM := fun e S => (f e S).bindS e fun d S => match itemsS d S with
  | some (w, ds) => forDX w ds b body ds e S
  | none => .bad
/-! ### comprehensions -/
open Classical in
noncomputable def lcDX (w : Option Nat) (ds0 : List D) (b : D → EnvD → Option EnvD) (tt elt : EM) (env : EnvD) : List D → List D → Store → LR
  | acc, [], S => if okW w ds0 S then .ok acc S else .bad
  | acc, d :: ds, S => if okW w ds0 S then (match b d env with
    | none => .bad
    | some e1 => match tt e1 S with
      | .ok (.bl true) S1 => match elt e1 S1 with
        | .ok y S2 => if sz (acc.length + 1) then lcDX w ds0 b tt elt env (acc ++ [y]) ds S2 else .bad
        | _ => .bad
      | .ok (.bl false) S1 => lcDX w ds0 b tt elt env acc ds S1
      | _ => .bad) else .bad
theorem lcDX_none {ds0 : List D} {b : D → EnvD → Option EnvD} {tt elt : EM} {env : EnvD} : ∀ {ds acc : List D} {S : Store}, lcDX none ds0 b tt elt env acc ds S = lcD b tt elt env acc ds S
  | [], acc, S => by unfold lcDX lcD; rw [if_pos (show okW none ds0 S from trivial)]
  | d :: ds, acc, S => by
    unfold lcDX lcD
    rw [if_pos (show okW none ds0 S from trivial)]
    cases b d env with
    | none => rfl
    | some e1 =>
      dsimp only
      cases tt e1 S with
      | ok k S1 =>
        cases k with
        | bl k =>
          cases k with
          | false => exact lcDX_none
          | true =>
            dsimp only
            cases elt e1 S1 with
            | ok y S2 =>
              dsimp only
              by_cases hz : sz (acc.length + 1)
              · rw [if_pos hz, if_pos hz]; exact lcDX_none
              · rw [if_neg hz, if_neg hz]
            | _ => rfl
        | _ => rfl
      | _ => rfl
noncomputable def eLcX (f : EM) (b : D → EnvD → Option EnvD) (tt elt : EM) (vs : List Nat) : EM := fun env S => (f env S).bind fun d S => match itemsS d S with
  | some (w, ds) => (lcDX w ds b tt elt (wipeD env vs) [] ds S).bindE fun ys S => .ok (.lst ys) S
  | none => .bad
noncomputable def eLcXM (f : EM) (b : D → EnvD → Option EnvD) (tt elt : EM) (vs : List Nat) : EM := fun env S => (f env S).bind fun d S => match itemsS d S with
  | some (w, ds) => (lcDX w ds b tt elt (wipeD env vs) [] ds S).bindE fun ys S => .ok (.loc S.length) (S ++ [.lst ys])
  | none => .bad
section
variable {elt tg iter : Expr} {ifs : List Expr} {scope : Scope} {own : List (PySem.Str × Nat)} {pos : Pos} {f : EM} {b : D → EnvD → Option EnvD} {ft fe : EM} {vs : List Nat}
end
section
variable {env : EnvD} {S : Store}
@[simp] theorem sForX_is {f : EM} {b : D → EnvD → Option EnvD} {body : SM} : sForX f b body env S = (f env S).bindS env fun d S => match itemsS d S with
  | some (w, ds) => forDX w ds b body ds env S
  | none => .bad := rfl
@[simp] theorem eLcX_is {f : EM} {b : D → EnvD → Option EnvD} {tt elt : EM} {vs : List Nat} : eLcX f b tt elt vs env S = (f env S).bind fun d S => match itemsS d S with
  | some (w, ds) => (lcDX w ds b tt elt (wipeD env vs) [] ds S).bindE fun ys S => .ok (.lst ys) S
  | none => .bad := rfl
@[simp] theorem eLcXM_is {f : EM} {b : D → EnvD → Option EnvD} {tt elt : EM} {vs : List Nat} : eLcXM f b tt elt vs env S = (f env S).bind fun d S => match itemsS d S with
  | some (w, ds) => (lcDX w ds b tt elt (wipeD env vs) [] ds S).bindE fun ys S => .ok (.loc S.length) (S ++ [.lst ys])
  | none => .bad := rfl
@[simp] theorem itemsS_lst {ds : List D} : itemsS (.lst ds) S = some (none, ds) := rfl
@[simp] theorem itemsS_tup {ds : List D} : itemsS (.tup ds) S = some (none, ds) := rfl
@[simp] theorem itemsS_loc {l : Nat} : itemsS (.loc l) S = match cel S l with
    | some (.lst ds) => some (some l, ds)
    | _ => none := rfl
@[simp] theorem forDX_none' {ds0 ds : List D} {b : D → EnvD → Option EnvD} {body : SM} {e : EnvD} : forDX none ds0 b body ds e S = forD b body ds e S := forDX_none
@[simp] theorem lcDX_none' {ds0 ds acc : List D} {b : D → EnvD → Option EnvD} {tt elt : EM} : lcDX none ds0 b tt elt env acc ds S = lcD b tt elt env acc ds S := lcDX_none
end
end DL
end
section
/-! D-layer, part 16: *a, b = list; d[i], d[j] = x, y. -/
namespace L2
open PySem PySem.Spec PySem.Calls PyProof.Rows PySem.W
section
variable {prog : Program} {w : World} {A : Around} {E : Value → Shared → Prop} {s : Shared}
end
section
variable {X : Cx} {pos : Pos}
end
end L2
namespace DL
open PySem L2
variable {G : Glb} {X : Cx} {W : WX}
/-- *a, b = a list -/
def sStar (i j : Nat) (f : EM) : SM := fun e S => (f e S).bindS e fun d S => match listD S d with
  | some ds => match ds.getLast? with
    | some x => .nx ((e.set i (some (.lst ds.dropLast))).set j (some x)) S
    | none => .bad
  | none => .bad
/-- d[i], c[j] = x, y -/
noncomputable def sPut2X (o i o2 i2 f : EM) : SM := fun env S => (f env S).bindS env fun d S => match d with
  | .tup [x, y] => (o env S).bindS env fun a S => (i env S).bindS env fun b S => match setX a b x S with
    | some S => (o2 env S).bindS env fun a S => (i2 env S).bindS env fun b S => match setX a b y S with
      | some S' => .nx env S'
      | none => .bad
    | none => .bad
  | _ => .bad
/-! ### is True, is not True -/
def opIsB (x y : D) (S : Store) : ER := match x, y with | .bl a, .bl b => .ok (.bl (decide (a = b))) S | _, _ => .bad
def opNotB (x y : D) (S : Store) : ER := match x, y with | .bl a, .bl b => .ok (.bl (!decide (a = b))) S | _, _ => .bad
@[simp] theorem opIsB_bb {S : Store} {a b : Bool} : opIsB (.bl a) (.bl b) S = .ok (.bl (decide (a = b))) S := rfl
@[simp] theorem opNotB_bb {S : Store} {a b : Bool} : opNotB (.bl a) (.bl b) S = .ok (.bl (!decide (a = b))) S := rfl
/-! ### dict(..) that is changed later -/
def bDictM (ds : List D) (S : Store) : ER := match ds with
  | [d] => match dicD S d with
    | some kds => .ok (.loc S.length) (S ++ [.dic kds])
    | none => .bad
  | _ => .bad
section
variable {S : Store} {e env : EnvD}
@[simp] theorem sStar_is {i j : Nat} {f : EM} : sStar i j f e S = (f e S).bindS e fun d S => match listD S d with
  | some ds => match ds.getLast? with
    | some x => .nx ((e.set i (some (.lst ds.dropLast))).set j (some x)) S
    | none => .bad
  | none => .bad := rfl
@[simp] theorem sPut2X_is {o i o2 i2 f : EM} : sPut2X o i o2 i2 f env S = (f env S).bindS env fun d S => match d with
  | .tup [x, y] => (o env S).bindS env fun a S => (i env S).bindS env fun b S => match setX a b x S with
    | some S => (o2 env S).bindS env fun a S => (i2 env S).bindS env fun b S => match setX a b y S with
      | some S' => .nx env S'
      | none => .bad
    | none => .bad
  | _ => .bad := rfl
@[simp] theorem bDictM_dic {ks : List Key} {ds : List D} : bDictM [.dic ks ds] S = .ok (.loc S.length) (S ++ [.dic (ks.zip ds)]) := rfl
end
end DL
end
section
/-! Defs called where no repr is under way (guards = some []): so repr of lists and tuples can be had. -/
namespace L2
open PySem PySem.Spec PyProof.Rows
/-- as FnOk, where no guard stands below -/
structure FnG (P : Program) (w : World) (K : PySem.W.Frag) (mg : Str → Option Value) (base : Heap) (CX : CXT) (k : Nat) (f : Addr) (fd : FuncData) (ps : List Str) (sp : Sp) : Prop where
  len : ∀ vs H Q E, sp vs H Q E → vs.length = ps.length
  run : ∀ (A : Around) (outer : List Env) (s : Shared) (H : Hp) (args : Args) (us : List Value) (vs : List V) (Q : VK) (E : XK), A.guards = some [] → Room k A → Env0 P w K mg base A outer s H → BindsTo s fd args (ps.zip us) → Vals vs us → sp vs H Q E →
    codeAny (model P w) A (.call (.ref f) args) (CR CX outer P w H s Q E) s
theorem FnG.of {P : Program} {w : World} {K : PySem.W.Frag} {mg : Str → Option Value} {base : Heap} {CX : CXT} {k : Nat} {f : Addr} {fd : FuncData} {ps : List Str} {sp : Sp} (F : FnOk P w K mg base CX k f fd ps sp) : FnG P w K mg base CX k f fd ps sp :=
  ⟨F.len, fun A outer s H args us vs Q E _ => F.run A outer s H args us vs Q E⟩
theorem FnG.mono {P : Program} {w : World} {K : PySem.W.Frag} {mg : Str → Option Value} {base : Heap} {CX : CXT} {j k : Nat} {f : Addr} {fd : FuncData} {ps : List Str} {sp : Sp} (F : FnG P w K mg base CX j f fd ps sp) (h : j ≤ k) : FnG P w K mg base CX k f fd ps sp :=
  ⟨F.len, fun A outer s H args us vs Q E hg hr => F.run A outer s H args us vs Q E hg (hr.mono h)⟩
section
variable {P : Program} {w : World} {K : PySem.W.Frag} {mg : Str → Option Value} {base : Heap}
theorem Fun.okG {x qual : Str} {st : Stmt} {f : Addr} {fd : FuncData} {N ps : List Str} {k : Nat} {sp : Sp} (F : Fun K x qual st f fd) (S : FnScope N ps (defScope st)) (len : ∀ vs H Q E, sp vs H Q E → vs.length = ps.length)
    (hbody : ∀ (cdv : Value) (A : Around) (outer : List Env) (s : Shared) (H : Hp) (vs : List V) (Q : VK) (E : XK), A.guards = some [] → Room k (A.deeper (envOfC qual (defScope st) s.heap.objs.size f cdv)) → sp vs H Q E →
      ∃ t, PSs (cxOf (L2.CX P w) P w K mg base N qual (defScope st) f cdv A outer s H E) (defBody st) t ∧ t { nx := fun _ H' => Q .non H', rt := Q } (start N vs) H) : FnG P w K mg base (L2.CX P w) (k + 1) f fd ps sp := by
  refine ⟨len, fun A outer s H args us vs Q E gd hr e0 hb r hsp => ?_⟩
  obtain ⟨oc, od, kV, doc, pm, an, cdv, ct, osl, rfl, lk, hcd⟩ := F.ex
  have hl := len _ _ _ _ hsp
  have KX : K.In s.heap := e0.mod.kin.keeps fun b o e => (e0.bs b o e).1
  have lim : s.heap.NoLimit := e0.mod.nolimit.keeps fun b o e => (e0.bs b o e).1
  have hkind : ∀ y ∈ ps.zip us, (defScope st).names.lookup y.1 = some .local ∨ ((defScope st).names.lookup y.1 = some .cell ∧ ((cellsFrom (s.heap.objs.size + 1) (defScope st).names []).lookup y.1).isSome = true) := fun ⟨n, v⟩ hy =>
    (S.par n (List.of_mem_zip hy).1).imp id fun q => ⟨q, PySem.W.cellsFrom_some _ _ _ (.inl q)⟩
  refine codeAny_call_function hr.depth (KX _ _ lk) rfl S.co S.gen rfl (PySem.W.codeRec_of KX hcd) (hb _ _ _ _ ?_)
  refine wpAny_newFunctionEnv_cells S.kind hkind fun env he s1 x => ?_
  subst he
  refine ⟨lim.keeps x.toInCall.keep, codeAny_func ?_⟩
  obtain ⟨t, ht, hq⟩ := hbody cdv A outer s H vs Q E gd (hr.deeper _) hsp
  have I : Inv (cxOf (L2.CX P w) P w K mg base N qual (defScope st) f cdv A outer s H E) [] (start N vs) H s1 := inv_start S hr.hd e0 hl r x
  refine wpAny_mono (ht.run [] s1 (start N vs) H _ I hq) (fun fl s' hs => ?_) fun e s' hs => hs
  cases fl with
  | ret u =>
    obtain ⟨v, σ', H', J, rv, q⟩ := hs
    exact ⟨v, H', J.os, J.bare, J.base, J.hok, rv, q⟩
  | next =>
    obtain ⟨σ', H', J, q⟩ := hs
    exact ⟨V.non, H', J.os, J.bare, J.base, J.hok, rfl, q⟩
  | brk => obtain ⟨_, _, _, q⟩ := hs; exact False.elim q
  | cont => obtain ⟨_, _, _, q⟩ := hs; exact False.elim q
end
section
variable {X : Cx} {CX : CXT} {k : Nat} {f C : Addr} {fd : FuncData} {ps : List Str} {sp : Sp} {E : St → XK} {x m : Str} {p pos apos : Pos} {e o : Expr} {es : List Expr} {ta : TE} {t : TA}
theorem run_fnG {pins : List (Addr × Obj)} {σ : St} {H : Hp} {s : Shared} {Q : VK} {us : List Value} {vs : List V} (F : FnG X.prog X.w X.K X.mg X.base CX k f fd ps sp) (gd : X.A.guards = some []) (hr : Room k X.A) (hb : Binds X.K fd ps []) (hx : PassesAt CX X σ (E σ))
    (I : Inv X pins σ H s) (r : Vals vs us) (h : sp vs H Q (E σ)) : wpAny (model X.prog X.w) X.A (call (.ref f) us) (EP X pins σ Q) X.xe s := by
  have hl : us.length = ps.length := by rw [← r.length]; exact F.len _ _ _ _ h
  have b := hb s us I.kIn (by rw [List.append_nil]; exact hl)
  rw [List.append_nil] at b
  refine wpAny_call (codeAny_mono (F.run X.A X.stack s H ⟨us, []⟩ us vs Q (E σ) gd hr I.env0 b r h) fun r s' hq => ?_)
  cases r with
  | error e => exact hx pins H s e s' I hq
  | ok fl =>
    cases fl with
    | ret u => exact I.after hq
    | next => exact False.elim hq
    | brk => exact False.elim hq
    | cont => exact False.elim hq
theorem pe_callG (F : FnG X.prog X.w X.K X.mg X.base CX k f fd ps sp) (gd : X.A.guards = some []) (hr : Room k X.A) (hg : Gl X x) (hm : X.mg x = some (.ref f)) (hk : PySem.W.keepIn X.K (.ref f) = true) (hb : Binds X.K fd ps []) (hx : ∀ σ, PassesAt CX X σ (E σ))
    (ha : PA X (e :: es) t) (hdb : (x == ("__debug__" : Str)) = false := by decide) (he : starEach (e :: es) X.env = (false, eval e X.env) :: starEach es X.env := by rfl) (hpl : (backTo pos (starEach es X.env)).any (·.1) = false := by rfl) :
    PE X (.Call (.Name x p) (e :: es) [] pos) (tCallS sp E t) := by
  refine ⟨fun pins s σ H Q I h => ?_⟩
  refine wpAny_Call_Name_kw (ld_glob I hg hm ?_ hdb)
  refine PySem.W.callWith_K (h₀ := X.base) I.ok.mod.kin hk (thn (ha.run pos pins s σ H _ I h) fun us s1 ⟨vs, H1, I1, r, q⟩ => ⟨I1.kIn, ?_⟩) he hpl
  exact run_fnG F gd hr hb (hx σ) I1 r q
end
/-- the head, for a def that wants no guard below -/
theorem law_callG {P : Program} {w : World} {K : PySem.W.Frag} {mg mb : Str → Option Value} {CX : CXT} {k : Nat} {fa a : Addr} {fd : FuncData} {x : Str} {sp : Sp} {s₁ : Shared} {vs : List Value} {ns : List Int}
    (KX : K.In s₁.heap) (hns : s₁.heap.Ns mainGlobals mg) (hb : s₁.heap.Ns builtinsNs mb) (hbb : ∀ x : Str, x ≠ "__name__" → mb x = bootBuiltins x) (hlim : s₁.heap.NoLimit) (hg : s₁.gens = #[])
    (ha : s₁.heap.get? a = some { cls := .type "list", data := .seq vs.toArray }) (hi : IntsAre vs ns) (hl : ns.length ≤ sizeLine) (hr : Room k callerA)
    (F : ∀ base : Heap, K.In base → base.Ns mainGlobals mg → FnG P w K mg base CX k fa fd [x] sp) (hbind : ∀ (s : Shared) (u : Value), BindsTo s fd ⟨[u], []⟩ [(x, u)])
    (hsp : ∀ H : Hp, Only H → SqL K H a (ns.map V.int) → sp [.ref a] H (fun v _ => v = .bl true) fun _ _ _ => False)
    (hCX : ∀ H e s', CX [] H s₁ (fun _ _ _ => False) e s' → False) :
    codeAny (model P w) callerA (.call (.ref fa) ⟨[.ref a], []⟩) (fun r s' => r = .ok (.ret (.bool true)) ∧ OldK s₁.heap s'.heap ∧ s'.os = s₁.os ∧ AllBare s'.gens) s₁ := by
  have rv := vals_ints hi
  have lenV := hi.length
  have core : ∀ H : Hp, Only H → SqL K H a (ns.map V.int) → HOk P w H s₁.heap → (∀ b, H b ≠ none → b = a) → (H a ≠ none → K.lookup a = none) →
      codeAny (model P w) callerA (.call (.ref fa) ⟨[.ref a], []⟩) (fun r s' => r = .ok (.ret (.bool true)) ∧ OldK s₁.heap s'.heap ∧ s'.os = s₁.os ∧ AllBare s'.gens) s₁ := by
    intro H hO hS hok hA hK
    have at_a : ∀ {b : Addr} {o : Obj}, s₁.heap.get? b = some o → H b ≠ none → b = a ∧ o = { cls := .type "list", data := .seq vs.toArray } := fun {b o} e z => by
      have e' := hA b z
      subst e'
      rw [ha] at e; cases e; exact ⟨rfl, rfl⟩
    have base_of : ∀ {b : Addr} {o : Obj}, s₁.heap.get? b = some o → H b = none → (hidT s₁.heap H).get? b = some o := fun e n => hidT_get e n
    have noA : ∀ {b : Addr} {o : Obj} {es : Array DictEntry} {ep : Nat}, s₁.heap.get? b = some o → o.data = .dict es ep → H b = none := fun {b o es ep} e d => by
      by_cases z : H b = none
      · exact z
      · obtain ⟨_, rfl⟩ := at_a e z
        cases d
    have nsK : ∀ {b : Addr} {m : Str → Option Value}, s₁.heap.Ns b m → (hidT s₁.heap H).Ns b m := fun {b m} ⟨o, es, ep, e, d, r⟩ => ⟨o, es, ep, base_of e (noA e d), d, r⟩
    have hKb : K.In (hidT s₁.heap H) := fun b o e => base_of (KX b o e) (by
      by_cases z : H b = none
      · exact z
      · obtain ⟨rfl, _⟩ := at_a (KX b o e) z
        rw [hK z] at e; cases e)
    have hM : Mod K mg (hidT s₁.heap H) := ⟨hKb, nsK hns, ⟨mb, nsK hb, hbb⟩, let ⟨mc, h1, h2⟩ := hlim; ⟨mc, nsK h1, h2⟩⟩
    have e0 : Env0 P w K mg (hidT s₁.heap H) callerA [] s₁ H := ⟨rfl, hM, fun b o e => of_hidT e, Nat.le_of_eq (hidT_size _ _), trivial, fun b hb => absurd (show b ∈ ([] : List Addr) from hb) (by simp), hok, .of_eq hg⟩
    refine codeAny_mono ((F _ hKb (nsK hns)).run callerA [] s₁ H ⟨[.ref a], []⟩ [.ref a] [.ref a] _ _ rfl hr e0 (hbind s₁ (.ref a)) (.cons rfl .nil) (hsp H hO hS)) fun r s' h => ?_
    match r, h with
    | .error e, h => exact (hCX H e s' h).elim
    | .ok .next, h => exact False.elim h
    | .ok .brk, h => exact False.elim h
    | .ok .cont, h => exact False.elim h
    | .ok (.ret u), h =>
      obtain ⟨v, H', os, bare, un, hok', r', q⟩ := h
      have q' : v = .bl true := q
      subst q'
      obtain rfl : u = Value.bool true := r'
      refine ⟨rfl, OldK.of_keep fun b o e => ?_, os, bare⟩
      cases q : H b with
      | none => exact un.keep b o e q (by intro z; exact absurd (show b ∈ ([] : List Addr) from z) (by simp)) (by simp)
      | some u =>
        rcases hO b with z | ⟨ob, xs, z⟩
        · rw [q] at z; cases z
        · obtain ⟨e1, _⟩ := hok b _ z
          obtain ⟨e2, _⟩ := hok' b _ (un.frzs b ob _ z)
          rw [e] at e1; cases e1
          exact e2
  cases hk : K.lookup a with
  | some o =>
    have e := KX a o hk
    rw [ha] at e
    cases e
    refine core (fun _ => none) (fun _ => .inl rfl) (.inr ⟨_, vs.toArray, _, hk, rfl, rfl, rfl, by rw [List.size_toArray, lenV]; exact hl, by simpa using rv⟩) (fun b u z => by have z' : (none : Option HO) = some u := z; cases z') (fun b z => absurd rfl z) fun z => absurd rfl z
  | none =>
    refine core (fun b => if b = a then some (.frz { cls := .type "list", data := .seq vs.toArray } (.lst (ns.map V.int))) else none) (fun b => ?_) (.inl (.inr ⟨{ cls := .type "list", data := .seq vs.toArray }, if_pos rfl⟩)) (fun b u z => ?_) (fun b z => ?_) fun _ => hk
    · by_cases hb : b = a
      · exact .inr ⟨_, _, if_pos hb⟩
      · exact .inl (if_neg hb)
    · by_cases hb : b = a
      · have z' := (if_pos hb).symm.trans z
        cases z'
        subst hb
        exact ⟨ha, by rw [List.length_map]; exact hl, vs, _, rv, ha⟩
      · have z' := (if_neg hb).symm.trans z
        cases z'
    · by_cases hb : b = a
      · exact hb
      · exact absurd (if_neg hb) z
theorem walk_ofG {l : PySem.W.OpenLaw} {n k : Nat} {q : Program} {loose : List Str} {XP : (Str → Option Value) → Heap → Prop} {YP : World → Heap → Prop} {d : DefRec} {K : Params → PySem.W.Frag} {CX : World → CXT} {sp : World → Sp} {x : Str}
    (hn : l.most = some n) (hn2 : n ≤ sizeLine) (hdf : d.params.defaults = []) (hr : Room k callerA)
    (hY : ∀ (w : World) (h : Heap), YP w h → (K w.params).In h)
    (F : ∀ (w : World) (mg : Str → Option Value) (fa : Addr) (h : Heap), (K w.params).In h → h.Ns mainGlobals mg → mg d.name = some (.ref fa) →
      ∃ fd : FuncData, (∀ (s : Shared) (u : Value), BindsTo s fd ⟨[u], []⟩ [(x, u)]) ∧ ∀ base : Heap, (K w.params).In base → base.Ns mainGlobals mg → FnG l.prog w (K w.params) mg base (CX w) k fa fd [x] (sp w))
    (hsp : ∀ (w : World) (H : Hp) (a : Addr) (ns : List Int), ns.length ≤ n → Only H → SqL (K w.params) H a (ns.map V.int) → sp w [.ref a] H (fun v _ => v = .bl true) fun _ _ _ => False)
    (hCX : ∀ (w : World) (H : Hp) (s : Shared) (e : Value) (s' : Shared), CX w [] H s (fun _ _ _ => False) e s' → False) :
    PySem.W.WalkO q loose XP YP l.row.toRowW d [] (fun f vs => PySem.call f vs) := by
  refine Att.attach_call hn hdf fun w s₀ s₁ mg mb fa o pm cd doc a vs ns G Y ho hd hcd hmg hobj hints hlen hg => ?_
  have KX := hY w _ Y
  obtain ⟨fd, hb, hF⟩ := F w mg fa _ KX G.T.g hmg
  exact law_callG KX G.T.g G.T.b G.T.builtins G.T.nolimit hg hobj hints (Nat.le_trans hlen hn2) hr hF hb (fun H hO hS => hsp w H a ns hlen hO hS) fun H e s' => hCX w H s₁ e s'
end L2
end
section
/-! D-layer: defs called with no guard below; repr. -/
namespace DL
open PySem L2 PyProof.Rows
theorem fnG {G : Glb} {P : Program} {w : World} {mg : Str → Option Value} {base : Heap} {x qual : Str} {st : Stmt} {f : Addr} {fd : FuncData} {N ps : List Str} {k : Nat} {g : SM} (m : Mode) (F : Fun G.K x qual st f fd) (S : FnScope N ps (defScope st))
    (body : ∀ (cdv : Value) (A : Around) (outer : List Env) (s : Shared) (H : Hp) (E : XK), Room k (A.deeper (envOfC qual (defScope st) s.heap.objs.size f cdv)) →
      Takes (cxOf (L2.CX P w) P w G.K mg base N qual (defScope st) f cdv A outer s H E) (fun cls d _ H => E cls d H) →
      PassesOwn (model P w) (A.deeper (envOfC qual (defScope st) s.heap.objs.size f cdv)) (envOfC qual (defScope st) s.heap.objs.size f cdv) (cxOf (L2.CX P w) P w G.K mg base N qual (defScope st) f cdv A outer s H E).xe →
      (cxOf (L2.CX P w) P w G.K mg base N qual (defScope st) f cdv A outer s H E).A.guards = some [] →
      DSs G (cxOf (L2.CX P w) P w G.K mg base N qual (defScope st) f cdv A outer s H E) (fun cls d _ H => E cls d H) (defBody st) g) :
    FnG P w G.K mg base (L2.CX P w) (k + 1) f fd ps (spD G ps.length (fnF m N.length g)) := by
  refine F.okG S (fun vs H Q E h => h.1) (fun cdv A outer s H vs Q E gd hr h => ?_)
  obtain ⟨_, φ, S0, ds, so, il, hp⟩ := h
  obtain ⟨t, pt, qt⟩ := body cdv A outer s H E hr (takes_of rfl rfl rfl rfl) (passes_of rfl) gd
  refine ⟨t, pt, qt (L2.start N vs) H (startD N.length ds) φ S0 _ so (rep_start N il) ?_⟩
  unfold fnF at hp
  cases hg : g (startD N.length ds) S0 with
  | nx e S1 => rw [hg] at hp; exact fun φ1 H1 σ1 e1 s1 r1 => exit_ok so e1 s1 (show Is G φ1 H1 .non .non from rfl) hp
  | rt d S1 => rw [hg] at hp; exact fun φ1 H1 v e1 s1 i1 => exit_ok so e1 s1 i1 hp
  | ex x e S1 => rw [hg] at hp; exact fun φ1 H1 σ1 cls dx e1 s1 r1 ix => hp φ1 H1 cls dx e1 s1 ix
  | bk e S1 => rw [hg] at hp; exact False.elim hp
  | ct e S1 => rw [hg] at hp; exact False.elim hp
  | bad => rw [hg] at hp; exact False.elim hp
structure DefG (G : Glb) (P : Program) (w : World) (mg : Str → Option Value) (base : Heap) (k : Nat) (x : Str) (n : Nat) (F : FD) : Prop where
  ex : ∃ f fd ps, FnG P w G.K mg base (L2.CX P w) k f fd ps (spD G n F) ∧ mg x = some (.ref f) ∧ PySem.W.keepIn G.K (.ref f) = true ∧ Binds G.K fd ps []
section
variable {G : Glb} {X : Cx} {W : WX} {k n : Nat} {x : Str} {F : FD} {p pos : Pos} {e : Expr} {es : List Expr} {fa : LM}
theorem de_callG (d : DefG G X.prog X.w X.mg X.base k x n F) (gd : X.A.guards = some []) (hK : X.K = G.K) (hr : Room k X.A) (hg : Gl X x) (tk : Takes X W) (ha : DA G X W (e :: es) fa) (hn : (e :: es).length = n) (hla : ∀ env S ds S', fa env S = .ok ds S' → ds.length = n)
    (hdb : (x == ("__debug__" : Str)) = false := by decide) (he : starEach (e :: es) X.env = (false, eval e X.env) :: starEach es X.env := by rfl) (hpl : (backTo pos (starEach es X.env)).any (·.1) = false := by rfl) :
    DE G X W (.Call (.Name x p) (e :: es) [] pos) (eCall F fa) := by
  obtain ⟨f, fd, ps, FO, hm, hk, hb⟩ := d.ex
  rw [← hK] at FO hk hb
  obtain ⟨t, pt, qt⟩ := ha
  refine ⟨_, pe_callG FO gd hr hg hm hk hb (fun σ => passAt tk σ) pt hdb he hpl, fun σ H env φ S Q s re h => ?_⟩
  refine qt σ H env φ S _ s re ?_
  unfold eCall at h
  cases hf : fa env S with
  | ok ds S1 =>
    rw [hf] at h
    intro φ1 H1 vs e1 s1 i1
    refine ⟨by rw [← i1.length]; exact hla _ _ _ _ hf, φ1, S1, ds, s1, i1, ?_⟩
    have h' : PostE G W φ1 H1 σ (F ds S1) Q := PostE.ext e1 h
    cases hF : F ds S1 with
    | ok d S2 => rw [hF] at h'; exact h'
    | ex x S2 => rw [hF] at h'; exact h'
    | bad => rw [hF] at h'; exact h'
  | ex x S1 => rw [hf] at h; exact h
  | bad => rw [hf] at h; exact h
/-! ### repr -/
end
def optL {α β : Type} (f : α → Option β) : List α → Option (List β)
  | [] => some []
  | a :: l => (f a).bind fun b => (optL f l).map (b :: ·)
section
variable {G : Glb} {X : Cx} {W : WX} {φ : Fi} {S : Store} {H : Hp}
end
/-! ### small data -/
structure Small (k w : Nat) (p : PyData) : Prop where
  sh : p.showable = true
  hd : p.hasDict = false
  cl : p.canLay0 = true
  dp : p.depth ≤ k
  si : p.intsShort 13 = true
  wt : p.weight ≤ w
theorem Small.mono {k w k' w' : Nat} {p : PyData} (h : Small k w p) (hk : k ≤ k') (hw : w ≤ w') : Small k' w' p := ⟨h.sh, h.hd, h.cl, Nat.le_trans h.dp hk, h.si, Nat.le_trans h.wt hw⟩
end DL
end
section
/-! sorted of a tuple of whole numbers. -/
namespace L2
open PySem PySem.Spec PyProof.Rows
section
variable {P : Program} {w : World} {A : Around} {E : Value → Shared → Prop} {s : Shared}
end
section
variable {X : Cx}
end
end L2
namespace DL
open PySem L2
variable {G : Glb} {X : Cx} {W : WX}
/-- sorted, of a tuple of whole numbers too -/
def bSortedY (ds : List D) (S : Store) : ER := match ds with
  | [.tup es] => match intsD es with
    | some ns => if ns.length < 64 then .ok (.lst ((sortI ns).map .int)) S else .bad
    | none => .bad
  | ds => bSortedX ds S
@[simp] theorem bSortedY_t {ns : List Int} {S : Store} : bSortedY [.tup (ns.map .int)] S = if ns.length < 64 then .ok (.lst ((sortI ns).map .int)) S else .bad := by
  unfold bSortedY
  dsimp only
  rw [intsD_map]
@[simp] theorem bSortedY_l {ns : List Int} {S : Store} : bSortedY [.lst (ns.map .int)] S = .ok (.lst ((sortI ns).map .int)) S := by
  show bSortedX [.lst (ns.map .int)] S = _
  exact bSortedX_lst.trans bSorted_l
end DL
end
section
/-! D-layer, part 17: attributes of instances. -/
namespace DL
open PySem L2
variable {G : Glb} {X : Cx} {W : WX}
/-- the law's classes: plain ones, none of whose names is fs -/
structure Kls (K : PySem.W.Frag) (ca : Str → Option Addr) (fs : List Str) : Prop where
  ok : ∀ c C, ca c = some C → Cls K C ∧ ∀ f ∈ fs, NoAttr K C f
theorem lookup_is {φ : Fi} {H : Hp} {f : Str} : ∀ {ks : List Str} {ds : List D} {fs : List (Str × V)} {d : D}, fs.map (·.1) = ks → IsL G φ H ds (fs.map (·.2)) → (ks.zip ds).lookup f = some d → ∃ v, fs.lookup f = some v ∧ Is G φ H d v
  | [], ds, fs, d, h, q, e => by simp at e
  | k :: ks, [], fs, d, h, q, e => by simp at e
  | k :: ks, d0 :: ds, [], d, h, q, e => by cases h
  | k :: ks, d0 :: ds, (g, v) :: fs, d, h, q, e => by
    have h1 : g = k := (List.cons.inj h).1
    have h2 : fs.map (·.1) = ks := (List.cons.inj h).2
    obtain ⟨x, r, e1, q1, q2⟩ := q
    have ex : v = x := (List.cons.inj e1).1
    have er : fs.map (·.2) = r := (List.cons.inj e1).2
    subst h1 ex
    rw [← er] at q2
    rw [List.zip_cons_cons, List.lookup_cons] at e
    rw [List.lookup_cons]
    cases hb : f == g with
    | true => rw [hb] at e; cases e; exact ⟨v, rfl, q1⟩
    | false => rw [hb] at e; exact lookup_is h2 q2 e
def fldD (S : Store) (d : D) (f : Str) : Option D := match d with
  | .obj _ ks ds => (ks.zip ds).lookup f
  | .loc l => match S[l]? with
    | some (.ins _ fs) => fs.lookup f
    | _ => none
  | _ => none
theorem zip_unzip {α β : Type} : ∀ l : List (α × β), (l.map (·.1)).zip (l.map (·.2)) = l
  | [] => rfl
  | a :: l => by simp [zip_unzip l]
/-- e.f -/
def eFld (f : Str) (e : EM) : EM := fun env S => (e env S).bind fun d S => match fldD S d f with
  | some x => .ok x S
  | none => .bad
/-! ### o.f = e -/
def putFD (f : Str) (d : D) : List (Str × D) → List (Str × D)
  | [] => [(f, d)]
  | (g, x) :: r => if g = f then (g, d) :: r else (g, x) :: putFD f d r
theorem putF_is {φ : Fi} {H : Hp} {f : Str} {d : D} {v : V} (i : Is G φ H d v) : ∀ {fs : List (Str × D)} {ws : List (Str × V)}, ws.map (·.1) = fs.map (·.1) → IsL G φ H (fs.map (·.2)) (ws.map (·.2)) →
    (putF f v ws).map (·.1) = (putFD f d fs).map (·.1) ∧ IsL G φ H ((putFD f d fs).map (·.2)) ((putF f v ws).map (·.2))
  | [], [], _, _ => ⟨rfl, v, [], rfl, i, rfl⟩
  | [], (g, x) :: ws, h, _ => by cases h
  | (g, x) :: fs, [], h, _ => by cases h
  | (g, x) :: fs, (g', y) :: ws, h, q => by
    have h1 : g' = g := (List.cons.inj h).1
    have h2 : ws.map (·.1) = fs.map (·.1) := (List.cons.inj h).2
    obtain ⟨x', r, e1, q1, q2⟩ := q
    have ex : y = x' := (List.cons.inj e1).1
    have er : ws.map (·.2) = r := (List.cons.inj e1).2
    subst h1 ex
    rw [← er] at q2
    unfold putF putFD
    by_cases hg : g' = f
    · rw [if_pos hg, if_pos hg]
      exact ⟨by simp [h2], v, _, rfl, i, q2⟩
    · rw [if_neg hg, if_neg hg]
      obtain ⟨p1, p2⟩ := putF_is i h2 q2
      exact ⟨by simp [p1], y, _, rfl, q1, p2⟩
def sFldS (f : Str) (o e : EM) : SM := fun env S => (e env S).bindS env fun d S => (o env S).bindS env fun a S => match a with
  | .loc l => match S[l]? with
    | some (.ins c fs) => if fs.length < 1000 then .nx env (S.set l (.ins c (putFD f d fs))) else .bad
    | _ => .bad
  | _ => .bad
section
variable {S : Store} {env : EnvD}
@[simp] theorem eFld_is {f : Str} {e : EM} : eFld f e env S = (e env S).bind fun d S => match fldD S d f with
  | some x => .ok x S
  | none => .bad := rfl
@[simp] theorem sFldS_is {f : Str} {o e : EM} : sFldS f o e env S = (e env S).bindS env fun d S => (o env S).bindS env fun a S => match a with
  | .loc l => match S[l]? with
    | some (.ins c fs) => if fs.length < 1000 then .nx env (S.set l (.ins c (putFD f d fs))) else .bad
    | _ => .bad
  | _ => .bad := rfl
end
end DL
end
section
/-! Instances made where no guard stands below. -/
namespace L2
open PySem PySem.Spec PyProof.Rows
def tMakeS (C : Addr) (sp : Sp) (E : St → XK) (t : TA) : TE := fun σ H Q => t σ H fun vs H1 => ∀ x dx, H1 x = none → H1 dx = none → dx ≠ x →
  sp (.ref x :: vs) (upd (upd H1 dx (.own x)) x (.ins C dx [])) (fun v H2 => v = .non ∧ Q (.ref x) H2) (E σ)
section
variable {X : Cx} {k : Nat} {f C : Addr} {fd : FuncData} {ps : List Str} {sp : Sp} {E : St → XK} {x : Str} {p pos : Pos} {e : Expr} {es : List Expr} {t : TA} {CX : CXT}
theorem make_guards {A : Around} {us : List Value} {kw : List (Str × Value)} (gd : A.guards = some []) : (A.under (.builtin "type.__call__" ⟨.ref C :: us, kw⟩)).guards = some [] := by
  first
    | exact gd
    | (simpa [Around.under, Code.guards, Code.isGuard, pushGuards, guardIds] using gd)
/-- what a call of the class may let out, at the slots σ, behind the new instance -/
theorem run_makeG {pins : List (Addr × Obj)} {σ : St} {H : Hp} {s : Shared} {Q : VK} {us : List Value} {vs : List V} (M : Mk X.K C f) (F : FnG X.prog X.w X.K X.mg X.base CX k f fd ps sp) (gd : X.A.guards = some []) (hr : Room (k + 1) X.A) (hb : Binds X.K fd ps [])
    (hx : ∀ σ, PassesAt CX X σ (E σ)) (I : Inv X pins σ H s) (r : Vals vs us)
    (h : ∀ x dx, H x = none → H dx = none → dx ≠ x → sp (.ref x :: vs) (upd (upd H dx (.own x)) x (.ins C dx [])) (fun v H2 => v = .non ∧ Q (.ref x) H2) (E σ)) :
    wpAny (model X.prog X.w) X.A (call (.ref C) us) (EP X pins σ Q) X.xe s := by
  have hq := h (s.heap.objs.size + 1) s.heap.objs.size (I.hok.fresh (Nat.le_succ _)) (I.hok.fresh (Nat.le_refl _)) (Nat.ne_of_lt (Nat.lt_succ_self _))
  have I2 := Inv.made (C := C) I
  have r2 : Vals (V.ref (s.heap.objs.size + 1) :: vs) (Value.ref (s.heap.objs.size + 1) :: us) := .cons rfl r
  have hl : (Value.ref (s.heap.objs.size + 1) :: us).length = ps.length := by
    have e := r2.length
    rw [F.len _ _ _ _ hq] at e
    exact e.symm
  have b := hb _ (Value.ref (s.heap.objs.size + 1) :: us) I2.kIn (by rw [List.append_nil]; exact hl)
  rw [List.append_nil] at b
  refine wpAny_call (make_map (f := f) I.kIn M.makes M.init (beq_iff_eq.mp M.fn) (codeAny_mono (F.run _ X.stack _ _ ⟨Value.ref (s.heap.objs.size + 1) :: us, []⟩ (Value.ref (s.heap.objs.size + 1) :: us) _ _ (E σ) (make_guards gd) (hr.make C us [])
    (I2.env0.make C us []) b r2 hq) fun r s' hq' => ?_))
  cases r with
  | error e => exact hx σ pins _ _ e s' I2 hq'
  | ok fl =>
    cases fl with
    | ret u =>
      obtain ⟨v, H', I3, rv, ev, q3⟩ := I2.after hq'
      subst ev
      exact ⟨rv, ⟨V.ref (s.heap.objs.size + 1), H', I3, rfl, q3⟩⟩
    | next => exact False.elim hq'
    | brk => exact False.elim hq'
    | cont => exact False.elim hq'
theorem pe_makeG (M : Mk X.K C f) (F : FnG X.prog X.w X.K X.mg X.base CX k f fd ps sp) (gd : X.A.guards = some []) (hr : Room (k + 1) X.A) (hg : Gl X x) (hm : X.mg x = some (.ref C)) (hb : Binds X.K fd ps []) (hx : ∀ σ, PassesAt CX X σ (E σ))
    (ha : PA X (e :: es) t) (hdb : (x == ("__debug__" : Str)) = false := by decide) (he : starEach (e :: es) X.env = (false, eval e X.env) :: starEach es X.env := by rfl) (hpl : (backTo pos (starEach es X.env)).any (·.1) = false := by rfl) :
    PE X (.Call (.Name x p) (e :: es) [] pos) (tMakeS C sp E t) := by
  refine ⟨fun pins s σ H Q I h => ?_⟩
  refine wpAny_Call_Name_kw (ld_glob I hg hm ?_ hdb)
  refine PySem.W.callWith_K (h₀ := X.base) I.ok.mod.kin M.kp (thn (ha.run pos pins s σ H _ I h) fun us s1 ⟨vs, H1, I1, r, q⟩ => ⟨I1.kIn, ?_⟩) he hpl
  exact run_makeG M F gd hr hb hx I1 r q
end
end L2
namespace DL
open PySem L2
variable {G : Glb} {X : Cx} {W : WX}
/-- a class of the module; its __init__ has the value F -/
structure ClsG (G : Glb) (P : Program) (w : World) (mg : Str → Option Value) (base : Heap) (k : Nat) (x : Str) (n : Nat) (F : FD) : Prop where
  ex : ∃ C f fd ps, Mk G.K C f ∧ FnG P w G.K mg base (L2.CX P w) k f fd ps (spD G (n + 1) F) ∧ mg x = some (.ref C) ∧ G.ca x = some C ∧ Binds G.K fd ps []
def eMake (c : Str) (F : FD) (f : LM) : EM := fun env S => (f env S).bindE fun ds S1 => match F (.loc S1.length :: ds) (S1 ++ [.ins c []]) with
  | .ok .non S2 => .ok (.loc S1.length) S2
  | .ex x S2 => .ex x S2
  | _ => .bad
theorem de_make {x : Str} {k n : Nat} {F : FD} {p pos : Pos} {e : Expr} {es : List Expr} {fa : LM} (d : ClsG G X.prog X.w X.mg X.base k x n F) (gd : X.A.guards = some []) (hK : X.K = G.K) (hr : Room (k + 1) X.A) (hg : Gl X x) (tk : Takes X W) (ha : DA G X W (e :: es) fa) (hn : (e :: es).length = n)
    (hla : ∀ env S ds S', fa env S = .ok ds S' → ds.length = n)
    (hdb : (x == ("__debug__" : Str)) = false := by decide) (he : starEach (e :: es) X.env = (false, eval e X.env) :: starEach es X.env := by rfl) (hpl : (backTo pos (starEach es X.env)).any (·.1) = false := by rfl) :
    DE G X W (.Call (.Name x p) (e :: es) [] pos) (eMake x F fa) := by
  obtain ⟨C, f, fd, ps, M, FO, hm, hc, hb⟩ := d.ex
  rw [← hK] at FO M hb
  obtain ⟨t, pt, qt⟩ := ha
  refine ⟨_, pe_makeG M FO gd hr hg hm hb (fun σ => passAt tk σ) pt hdb he hpl, fun σ H env φ S Q s re h => ?_⟩
  refine qt σ H env φ S _ s re ?_
  unfold eMake at h
  cases hf : fa env S with
  | ok ds S1 =>
    rw [hf] at h
    intro φ1 H1 vs e1 s1 i1
    intro a dx ha hdx hne
    have e2 : Ext φ1 H1 φ1 (upd H1 dx (.own a)) := .laid hdx
    have s2 := s1.laid (o := .own a) hdx
    have ha2 : upd H1 dx (.own a) a = none := by rw [upd_ne (Ne.symm hne)]; exact ha
    have e3 := Ext.newCell (o := .ins C dx []) s2 ha2
    have s3 := s2.newCell (c := .ins x []) ha2 ⟨C, dx, [], hc, upd_same, rfl, rfl⟩
    have le : S1.length = φ1.c.length := s1.len.symm
    have get : (φ1.add a).c[S1.length]? = some a := by rw [le]; simp [Fi.add]
    have i3 : IsL G (φ1.add a) (upd (upd H1 dx (.own a)) a (.ins C dx [])) (.loc S1.length :: ds) (.ref a :: vs) := ⟨.ref a, vs, rfl, ⟨a, get, rfl⟩, (i1.ext e2).ext e3⟩
    refine ⟨by rw [List.length_cons, ← i1.length, hla _ _ _ _ hf], φ1.add a, _, _, s3, i3, ?_⟩
    have ee := (e1.trans e2).trans e3
    have h' : ER := F (.loc S1.length :: ds) (S1 ++ [.ins x []])
    change PostE G W φ H σ (match F (.loc S1.length :: ds) (S1 ++ [.ins x []]) with | .ok .non S2 => .ok (.loc S1.length) S2 | .ex x S2 => .ex x S2 | _ => .bad) Q at h
    cases hF : F (.loc S1.length :: ds) (S1 ++ [.ins x []]) with
    | ok d2 S2 =>
      rw [hF] at h
      cases d2 with
      | non =>
        intro φ4 H4 v e4 s4 i4
        refine ⟨i4, ?_⟩
        exact h φ4 H4 (.ref a) (ee.trans e4) s4 ⟨a, e4.get get, rfl⟩
      | _ => exact h.elim
    | ex x2 S2 =>
      rw [hF] at h
      exact PostE.ext (r := .ex x2 S2) ee h
    | bad => rw [hF] at h; exact h.elim
  | ex x2 S1 => rw [hf] at h; exact h
  | bad => rw [hf] at h; exact h
end DL
end
section
/-! Instances made with keywords; defs with defaults. -/
namespace L2
open PySem PySem.Spec PyProof.Rows
section
variable {P : Program} {w : World} {K : PySem.W.Frag} {mg : Str → Option Value} {base : Heap}
end
section
variable {X : Cx} {CX : CXT} {k n : Nat} {f C : Addr} {fd : FuncData} {ps ks : List Str} {sp : Sp} {E : St → XK} {x : Str} {p pos : Pos} {e : Expr} {es : List Expr} {kws : List Keyword} {t tk : TA} {g : List Value → List Value → List Value} {gV : List V → List V → List V}
end
end L2
namespace DL
open PySem L2
variable {G : Glb} {X : Cx} {W : WX}
/-- a class whose __init__ takes n values and keywords ks behind -/
structure ClsK (G : Glb) (P : Program) (w : World) (mg : Str → Option Value) (base : Heap) (k : Nat) (x : Str) (n : Nat) (ks : List Str) (F : FD) : Prop where
  ex : ∃ C f fd ps g, Mk G.K C f ∧ FnG P w G.K mg base (L2.CX P w) k f fd ps (spD G (n + 1 + ks.length) F) ∧ mg x = some (.ref C) ∧ G.ca x = some C ∧ KBn G.K fd ps (n + 1) ks g (fun vs zs => vs ++ zs)
end DL
end
section
/-! D-layer: a def with defaults (an __init__ with keywords), told by its value. -/
namespace DL
open PySem L2 PyProof.Rows
end DL
end
section
/-! Defs called with keywords. -/
namespace L2
open PySem PySem.Spec PyProof.Rows
section
variable {X : Cx} {CX : CXT} {k n : Nat} {f : Addr} {fd : FuncData} {ps ks : List Str} {sp : Sp} {E : St → XK} {x : Str} {p pos : Pos} {e : Expr} {es : List Expr} {kws : List Keyword} {t tk : TA} {g : List Value → List Value → List Value} {gV : List V → List V → List V}
end
end L2
namespace DL
open PySem L2
variable {G : Glb} {X : Cx} {W : WX}
/-- a def called with n values and keywords ks behind, in the parameters' order -/
structure DefK (G : Glb) (P : Program) (w : World) (mg : Str → Option Value) (base : Heap) (k : Nat) (x : Str) (n : Nat) (ks : List Str) (F : FD) : Prop where
  ex : ∃ f fd ps g, FnG P w G.K mg base (L2.CX P w) k f fd ps (spD G (n + ks.length) F) ∧ mg x = some (.ref f) ∧ PySem.W.keepIn G.K (.ref f) = true ∧ KBn G.K fd ps n ks g (fun vs zs => vs ++ zs)
end DL
end
section
/-! Defs called with keywords, some of them left out: the values in the parameters' order. -/
namespace DL
open PySem L2
variable {G : Glb} {X : Cx} {W : WX}
/-- a def called with n values and keywords ks: m parameters, their values gD -/
structure DefKN (G : Glb) (P : Program) (w : World) (mg : Str → Option Value) (base : Heap) (k : Nat) (x : Str) (n : Nat) (ks : List Str) (m : Nat) (gD : List D → List D → List D) (F : FD) : Prop where
  ex : ∃ f fd ps g gV, FnG P w G.K mg base (L2.CX P w) k f fd ps (spD G m F) ∧ mg x = some (.ref f) ∧ PySem.W.keepIn G.K (.ref f) = true ∧ KBn G.K fd ps n ks g gV ∧
    ∀ {φ : Fi} {H : Hp} {ds es : List D} {vs zs : List V}, ds.length = n → es.length = ks.length → IsL G φ H ds vs → IsL G φ H es zs → IsL G φ H (gD ds es) (gV vs zs) ∧ (gD ds es).length = m
end DL
end
section
/-! A def with keyword-only defaults, told of K; its calls by keywords. -/
namespace DL
open PySem L2 PyProof.Rows
section
variable {K : PySem.W.Frag}
end
/-- data as values: what defaults are -/
def dV : D → V
  | .non => .non
  | .bl b => .bl b
  | .int i => .int i
  | .str x => .str x
  | _ => .non
end DL
end
section
/-! A def with keyword-only defaults: what a call by keywords asks (DefKN). -/
namespace DL
open PySem L2 PyProof.Rows
/-- values in the parameters' order: inl i: the i-th default that is used, inr i: the i-th keyword's value -/
def pk {α : Type} : List (Nat ⊕ Nat) → List α → List α → List α
  | [], _, _ => []
  | .inl i :: s, b, c => (match b[i]? with
    | some x => x :: pk s b c
    | none => pk s b c)
  | .inr i :: s, b, c => (match c[i]? with
    | some x => x :: pk s b c
    | none => pk s b c)
end DL
end
section
/-! D-layer, part 18: text.split(text). -/
namespace DL
open PySem L2
variable {G : Glb} {X : Cx} {W : WX}
def mSplit (o : D) (ds : List D) (S : Store) : ER := match o, ds with
  | .str a, [.str b] => if (b.length == 0) = false ∧ a.length ≤ 10000000 then .ok (.lst ((Txt.split a b).map .str)) S else .bad
  | _, _ => .bad
end DL
end
section
/-! D-layer, part 19: list(d.items()), d a dict that may be locked. -/
namespace DL
open PySem PySem.Spec PyProof.Rows L2
section
variable {X : Cx} {e : Expr} {te : TE} {p apos cpos pos : Pos}
def rItR (x : V) (H : Hp) (Q : VK) : Prop := ∃ (d : Addr) (kvs : List (Key × V)), x = .ref d ∧ Rd H d (.dK kvs) ∧
  ∀ (H' : Hp) (p : Addr) (ts : List Addr), (∀ b o, H b = some o → H' b = some o) → H p = none → (∀ t ∈ ts, H t = none) → p ∉ ts → H' p = some (.lst (ts.map V.ref)) → Paired (fun (t : Addr) (q : Key × V) => H' t = some (.tup [kV q.1, q.2])) ts kvs → Q (.ref p) H'
theorem pe_listIt (hc : X.calm = true) (he : PE X e te) (hg : Gl X "list") (hm : X.mg "list" = none) (hv : bootBuiltins "list" = some (.type "list")) (hbase : attributeBase e "items" X.env (eval e X.env) = eval e X.env := by rfl) (hline : (apos.endLine == cpos.line) = true := by rfl)
    (hs : starEach [.Call (.Attribute e "items" apos) [] [] cpos] X.env = (false, eval (.Call (.Attribute e "items" apos) [] [] cpos) X.env) :: starEach [] X.env := by rfl) :
    PE X (.Call (.Name "list" p) [.Call (.Attribute e "items" apos) [] [] cpos] [] pos) (fun σ H Q => te σ H fun x H1 => rItR x H1 Q) := by
  refine ⟨fun pins s σ H Q I hq => wpAny_Call_Name_kw (ld_blt I hg hm hv (PyProof.Rows.callWith_type1 ?_ hs rfl))⟩
  rw [hs]
  refine Calls.spliced_cons (wpAny_Call_method (T := "dict") (id := "dict.items") hbase rfl hline F.plainAttrs_dict F.slot_dict_items F.type_dict_items (thn (he.run pins s σ H _ I hq) ?_))
  rintro u s1 ⟨x, H1, I1, rx, d, kvs, rfl, hd, q⟩
  obtain rfl : u = Value.ref d := rx
  obtain ⟨hz, h0, vs, kv, hdo⟩ := (show ObjOk X.prog X.w H1 s1.heap d (.dK kvs) from hd.ok I1.hok)
  obtain ⟨ep, hat⟩ := hdo.dictAt
  have lk : kvs.length = vs.length := Paired.length kv
  have I2 : Inv X pins σ H1 { s1 with heap := s1.heap.push { cls := .type "dict_items", data := .fields #[.ref d] } } := I1.kept (t' := s1.toks) fun b ob z => Heap.get?_push_of_some _ z
  refine ⟨hdo.typeIs, hdo.mapOf.noDict, method_meetsIn F.slot_dict_items F.entry_dict_items rfl (PySem.evalArgs_none ⟨rfl, hdo.typeIs, F.args_dict_items_1 _, _, meets_dict_items (mixKind X.prog X.w) d h0, ⟨vs, hdo⟩, Calls.spliced_nil ?_⟩)⟩
  refine PySem.W.kdx_call (knd := mixKind X.prog X.w) (kvs := vs) (ep := ep) (I1.ok.hd hc) ⟨_, Heap.get?_push_size _ rfl, rfl, rfl⟩ (hat.push _) (by omega) fun h' tk acc c as hk hS hl hG hacc => ?_
  obtain ⟨H', k1, k2, k3, k4, k5, k6, J⟩ := LiI.items_laid (tk := tk) I2 hz kv hk hS hl hG hacc
  exact ⟨.ref _, H', J, rfl, q H' _ as k1 k2 k3 k4 k5 k6⟩
end
variable {G : Glb} {X : Cx} {W : WX}
/-- a dict's items: a dict as data, or a cell -/
def itemsK (kds : List (Key × D)) : List D := kds.map fun p => .tup [dKey p.1, p.2]
def eListItems (f : EM) : EM := fun env S => (f env S).bind fun d S => match dicD S d with
  | some kds => .ok (.lst (itemsK kds)) S
  | none => .bad
theorem Ext.grown {φ : Fi} {H H' : Hp} (h : ∀ b o, H b = some o → H' b = some o) : Ext φ H φ H' :=
  ⟨⟨[], by simp, fun _ q => by simp at q⟩, rfl, fun b o _ e => .inl (h b o e)⟩
theorem its_is {φ : Fi} {H H' : Hp} {S : Store} (s : SOk G φ S H) : ∀ {ts : List Addr} {kvs : List (Key × V)} {kds : List (Key × D)}, (∀ t ∈ ts, H t = none) → Paired (fun (t : Addr) (q : Key × V) => H' t = some (.tup [kV q.1, q.2])) ts kvs → KvIs G φ H' kds kvs → IsL G φ H' (itemsK kds) (ts.map V.ref)
  | _, _, [], _, .nil, _ => rfl
  | _, _, _ :: _, _, .nil, ⟨e, _⟩ => by cases e
  | _ :: _, _ :: _, [], _, .cons _ _, ⟨e, _⟩ => by cases e
  | _ :: _, kv :: _, kd :: kds, hn, .cons h t, ⟨e, il⟩ => by
    obtain ⟨x, r, h2, ix, ir⟩ := il
    rw [List.map_cons] at h2
    obtain ⟨rfl, rfl⟩ := List.cons.inj h2
    rw [List.map_cons, List.map_cons] at e
    obtain ⟨e1, e2⟩ := List.cons.inj e
    rw [e1] at h
    exact ⟨_, _, rfl, ⟨_, _, rfl, .inl ⟨s.fresh (hn _ List.mem_cons_self), .inl h⟩, .cons (is_dKey _) (.one ix)⟩, its_is s (fun t ht => hn t (List.mem_cons_of_mem _ ht)) t ⟨e2, ir⟩⟩
theorem de_listItems {e : Expr} {p apos cpos pos : Pos} {f : EM} (hc : X.calm = true) (hg : Gl X "list") (hm : X.mg "list" = none) (hv : bootBuiltins "list" = some (.type "list")) (he : DE G X W e f) (hbase : attributeBase e "items" X.env (eval e X.env) = eval e X.env := by rfl) (hline : (apos.endLine == cpos.line) = true := by rfl)
    (hs : starEach [.Call (.Attribute e "items" apos) [] [] cpos] X.env = (false, eval (.Call (.Attribute e "items" apos) [] [] cpos) X.env) :: starEach [] X.env := by rfl) :
    DE G X W (.Call (.Name "list" p) [.Call (.Attribute e "items" apos) [] [] cpos] [] pos) (eListItems f) := by
  obtain ⟨t, pt, q⟩ := he
  refine ⟨_, pe_listIt hc pt hg hm hv hbase hline hs, fun σ H env φ S Q s re h => ?_⟩
  refine q σ H env φ S _ s re (PostE.bind h fun d S1 φ1 H1 v e1 s1 i1 h1 => ?_)
  split at h1
  · rename_i kds hd
    obtain ⟨a, kvs, rfl, r, ek, il⟩ := dicD_is s1 i1 hd
    refine ⟨a, kvs, rfl, r, fun H' p ts hk hp ht _ hl hP => ?_⟩
    have ex : Ext φ1 H1 φ1 H' := .grown hk
    have s2 : SOk G φ1 S1 H' := s1.step ex fun b hb => let ⟨o, ho⟩ := s1.there hb; (hk b o ho).trans ho.symm
    exact h1 φ1 _ _ ex s2 ⟨p, _, rfl, .inl ⟨s1.fresh hp, .inl hl⟩, its_is s1 ht hP ⟨ek, il.ext ex⟩⟩
  · exact False.elim h1
end DL
end
section
/-! Own classes: isinstance with both answers, methods. -/
namespace L2
open PySem PySem.Spec PyProof.Rows
/-- types, wider still -/
inductive TyZ (K : PySem.W.Frag) (H : Hp) : V → Value → Prop where
  | x {v : V} {t : Value} (h : TyX K H v t) : TyZ K H v t
  | fT {a : Addr} {o : Obj} {kvs : List (List Key × V)} (e : H a = some (.frz o (.dT kvs))) : TyZ K H (.ref a) (.type "dict")
theorem kit_ofZ {X : Cx} {pins : List (Addr × Obj)} {σ : St} {H : Hp} {s : Shared} {v : V} {u t : Value} (I : Inv X pins σ H s) (rx : RelV v u) (ty : TyZ X.K H v t) : ∃ P : Heap → Prop, PySem.W.KitX X.K u t P ∧ P s.heap ∧ u ≠ .builtin "__main__.__loader__#opaque" := by
  cases ty with
  | x h => exact kit_of I rx h
  | @fT a ob kvs ea =>
    cases (show u = Value.ref a from rx)
    obtain ⟨_, q⟩ := I.hok a _ ea
    obtain ⟨_, _, xs, _, o, es, ep, h1, h2, _⟩ := (show ObjOk X.prog X.w H s.heap a (.dT kvs) from q)
    exact ⟨_, PySem.W.kitx_dict, ⟨o, h1, h2.1⟩, fun z => nomatch z⟩
def rIsZ (K : PySem.W.Frag) : List V → Hp → VK → Prop := fun xs H Q => ∃ (x c : V) (t u : Value) (b : Bool), xs = [x, c] ∧ ClsV c u ∧ TyZ K H x t ∧ PySem.W.kitOne K t u = some b ∧ Q (.bl b) H
def rIsZT (K : PySem.W.Frag) : List V → Hp → VK → Prop := fun xs H Q => ∃ (x : V) (tp : Addr) (cs : List V) (t : Value) (us : List Value) (b : Bool), xs = [x, .ref tp] ∧ H tp = some (.tup cs) ∧ Paired ClsV cs us ∧ TyZ K H x t ∧ PySem.W.kitAny K t us = some b ∧ Q (.bl b) H
section
variable {X : Cx}
theorem call_isZ : CallR X (.builtin "isinstance") (rIsZ X.K) := by
  intro pins s σ H xs us Q I r h
  obtain ⟨x, c, t, u, b, rfl, k, ty, e, q⟩ := h
  obtain ⟨w1, w2, rfl, p1, p2⟩ := vals2 r
  cases k.eq p2
  obtain ⟨P, Z, p, hx⟩ := kit_ofZ I p1 ty
  exact PySem.W.kia_one Z I.kIn p e hx fun tk => ⟨.bl b, H, I.tok tk, rfl, q⟩
theorem call_isZT : CallR X (.builtin "isinstance") (rIsZT X.K) := by
  intro pins s σ H xs us Q I r h
  obtain ⟨x, tp, cs, t, ws, b, rfl, hT, k, ty, e, q⟩ := h
  obtain ⟨w1, w2, rfl, p1, p2⟩ := vals2 r
  cases (show w2 = Value.ref tp from p2)
  obtain ⟨P, Z, p, hx⟩ := kit_ofZ I p1 ty
  obtain ⟨_, its, rv, o, h1, h2, n, h3⟩ := (show ObjOk X.prog X.w H s.heap tp (.tup cs) from I.hok tp _ hT)
  cases ClsV.all k rv
  obtain ⟨oc, od, dt, sl⟩ := o
  dsimp only at h2 h3
  subst h2 h3
  exact PySem.W.kia_tup Z I.kIn p h1 e hx fun tk => ⟨.bl b, H, I.tok tk, rfl, q⟩
end
/-! ### methods, where no guard stands below -/
section
variable {X : Cx} {CX : CXT} {k : Nat} {m : Str} {E : St → XK} {pos apos : Pos} {e o : Expr} {es : List Expr} {ta : TE} {t : TA} {Ok : Addr → Addr → Sp → Prop}
end
end L2
namespace DL
open PySem L2
variable {G : Glb} {X : Cx} {W : WX}
/-! ### isinstance -/
/-- built-in types, own classes, own exceptions, built-in exceptions -/
inductive TyD where
  | b (t : Ty) | o (c : Str) | x (c : Str)
def ClD (G : Glb) : TyD → Value → Prop
  | .b t, v => v = .type t.nm
  | .o c, v => ∃ C, G.ca c = some C ∧ v = .ref C
  | .x _, _ => False
/-- what isinstance asks of an own class -/
structure OwnC (K : PySem.W.Frag) (C : Addr) : Prop where
  cl : Cls K C
  ha : PySem.W.findIn K (.ref C) "__class__" = some (some (.builtin "object.__class__"))
  hn : PySem.W.specialIn K (.builtin "object.__class__") "__get__" = some (some (.builtin "getset_descriptor.__get__"))
  ht : PySem.W.takesIn K (.builtin "object.__class__") = some true
  hm : PySem.W.mroIn K C (.type "object") = some true
def tyO (S : Store) : D → Option TyD
  | .obj c _ _ => some (.o c)
  | .dct _ _ => some (.b .dict)
  | .loc l => match S[l]? with
    | some (.ins c _) => some (.o c)
    | some (.lst _) => some (.b .list)
    | some (.dic _) => some (.b .dict)
    | some (.dct _) => some (.b .dict)
    | none => none
  | d => (tyOf S d).map .b
theorem tyO_is (hc : ∀ c C, G.ca c = some C → OwnC G.K C) {φ : Fi} {S : Store} {H : Hp} {d : D} {v : V} {t : TyD} (s : SOk G φ S H) (i : Is G φ H d v) (e : tyO S d = some t) : ∃ tv, ClD G t tv ∧ TyZ G.K H v tv := by
  have old : ∀ {d : D} {v : V}, Is G φ H d v → (tyOf S d).map TyD.b = some t → ∃ tv, ClD G t tv ∧ TyZ G.K H v tv := fun i e => by
    obtain ⟨a, e1, e2⟩ := Option.map_eq_some_iff.mp e
    subst e2
    exact ⟨_, rfl, .x (tyOf_is s i e1)⟩
  have own : ∀ {c : Str} {C a dx : Addr} {fs : List (Str × V)}, G.ca c = some C → H a = some (.ins C dx fs) → ∃ tv, ClD G (.o c) tv ∧ TyZ G.K H (.ref a) tv := fun {c C a dx fs} h1 h2 => by
    have q := hc c C h1
    exact ⟨_, ⟨C, h1, rfl⟩, .x (.base (.ins h2 q.cl q.ha q.hn q.ht q.hm))⟩
  cases d with
  | obj c ks ds =>
    cases e
    obtain ⟨a, C, dx, fs, rfl, ⟨_, h⟩, h1, _⟩ := i
    exact own h1 h
  | dct ks ds =>
    cases e
    obtain ⟨a, xs, rfl, ⟨_, r | ⟨o, r⟩⟩, _⟩ := i
    · exact ⟨_, rfl, .x (.base (.dT r))⟩
    · exact ⟨_, rfl, .fT r⟩
  | loc l =>
    simp only [tyO] at e
    split at e
    · rename_i c fs hl
      cases e
      obtain ⟨a, ha, rfl⟩ := i
      obtain ⟨C, dx, ws, h1, h2, _⟩ := s.at_ hl ha
      exact own h1 h2
    all_goals first | (cases e; done) | (rename_i hl; exact old (d := .loc l) i (by simp only [tyOf]; rw [hl]; exact e))
  | exn c ks ds => cases e
  | tpl ds => exact old i e
  | non => exact old i e
  | bl b => exact old i e
  | int b => exact old i e
  | str b => exact old i e
  | tup b => exact old i e
  | lst b => exact old i e
  | dic ks b => exact old i e
/-- what a class says of things -/
structure IsT (G : Glb) (u : Value) (tab : TyD → Option Bool) : Prop where
  ok : ∀ t tv r, ClD G t tv → tab t = some r → PySem.W.kitOne G.K tv u = some r
def tabB (b : Ty) : TyD → Option Bool
  | .b t => some (t.isa b)
  | _ => some false
def tabO (c0 : Str) : TyD → Option Bool
  | .o c => some (decide (c = c0))
  | _ => some false
theorem kit_ref {K : PySem.W.Frag} {C : Addr} {t : Value} {b : Bool} (h1 : PySem.W.isClsIn K C = true) (h2 : PySem.W.typeIn K (.ref C) = some (.type "type")) (h3 : PySem.W.subIn K t (.ref C) = some b) (h4 : t = .ref C → b = true) : PySem.W.kitOne K t (.ref C) = some b := by
  unfold PySem.W.kitOne
  split
  · rename_i z
    rw [h4 (beq_iff_eq.mp z)]
  · unfold PySem.W.kitCls
    dsimp only
    rw [if_pos]
    · exact h3
    · rw [Bool.and_eq_true]
      exact ⟨h1, beq_iff_eq.mpr h2⟩
theorem kit_type {K : PySem.W.Frag} {C : Addr} {T : String} {b : Bool} (hT : PySem.W.kitMeta T = true) (h3 : PySem.W.mroIn K C (.type T) = some b) : PySem.W.kitOne K (.ref C) (.type T) = some b := by
  unfold PySem.W.kitOne
  rw [if_neg (by intro z; exact nomatch beq_iff_eq.mp z)]
  unfold PySem.W.kitCls
  dsimp only
  rw [if_pos hT]
  exact h3
theorem isT_b (b : Ty) (hb : b ≠ .none) (ho : ∀ c C, G.ca c = some C → PySem.W.mroIn G.K C (.type b.nm) = some false) : IsT G (.type b.nm) (tabB b) := by
  have hM : PySem.W.kitMeta b.nm = true := by cases b <;> first | exact absurd rfl hb | decide +kernel
  refine ⟨fun t tv r h1 h2 => ?_⟩
  cases t with
  | b t => cases (show tv = _ from h1); cases h2; exact kit_ty (ty_kit t b hb)
  | o c => obtain ⟨C, e1, rfl⟩ := h1; cases h2; exact kit_type hM (ho c C e1)
  | x c => exact False.elim h1
theorem isT_o {c0 : Str} {C0 : Addr} (h0 : G.ca c0 = some C0) (h1 : PySem.W.isClsIn G.K C0 = true) (h2 : PySem.W.typeIn G.K (.ref C0) = some (.type "type")) (ho : ∀ c C, G.ca c = some C → PySem.W.mroIn G.K C (.ref C0) = some (decide (c = c0))) :
    IsT G (.ref C0) (tabO c0) := by
  have self : PySem.W.mroIn G.K C0 (.ref C0) = some true := by rw [ho c0 C0 h0, decide_eq_true rfl]
  refine ⟨fun t tv r q1 q2 => ?_⟩
  cases t with
  | b t =>
    cases (show tv = _ from q1); cases q2
    refine kit_ref h1 h2 ?_ (fun z => nomatch z)
    cases t <;> rfl
  | o c =>
    obtain ⟨C, e1, rfl⟩ := q1; cases q2
    refine kit_ref h1 h2 (ho c C e1) fun z => ?_
    have e := Value.ref.inj z
    subst e
    have a := ho c C e1
    rw [self] at a
    exact (Option.some.inj a).symm
  | x c => exact False.elim q1
theorem ca_all {l : List (Str × Addr)} {P : Str → Addr → Prop} (h : ∀ p ∈ l, P p.1 p.2) : ∀ c C, l.lookup c = some C → P c C := by
  intro c C e
  induction l with
  | nil => cases e
  | cons p r ih =>
    obtain ⟨c1, C1⟩ := p
    rw [List.lookup_cons] at e
    cases hb : c == c1 with
    | true =>
      rw [hb] at e; cases e
      have : c = c1 := beq_iff_eq.mp hb
      subst this
      exact h _ List.mem_cons_self
    | false => rw [hb] at e; exact ih (fun p hp => h p (List.mem_cons_of_mem _ hp)) e
def eIsC (tab : TyD → Option Bool) (f : EM) : EM := fun env S => (f env S).bind fun d S => match (tyO S d).bind tab with
  | some b => .ok (.bl b) S
  | none => .bad
/-- a class, written by its name -/
structure CName (X : Cx) (x : Str) (v : V) (u : Value) : Prop where
  pe : ∀ pos : Pos, PE X (.Name x pos) (tC v)
  cv : ClsV v u
theorem cn_ty {x : Str} {T : String} (hg : Gl X x) (hm : X.mg x = none) (hv : bootBuiltins x = some (.type T)) (hn : x ≠ "__name__" := by decide) (hdb : (x == ("__debug__" : Str)) = false := by decide) : CName X x (.ty T) (.type T) :=
  ⟨fun _ => pe_bltn hg hm hv rfl hn hdb, .ty T⟩
theorem de_isC {x : Str} {v : V} {u : Value} {tab : TyD → Option Bool} {e : Expr} {p p2 pos : Pos} {f : EM} (hK : X.K = G.K) (hc : ∀ c C, G.ca c = some C → OwnC G.K C) (ist : IsT G u tab) (cn : CName X x v u) (hg : Gl X "isinstance") (hm : X.mg "isinstance" = none) (he : DE G X W e f)
    (hst : starEach [e, .Name x p2] X.env = (false, eval e X.env) :: starEach [.Name x p2] X.env := by rfl) (hst2 : starEach [.Name x p2] X.env = (false, eval (.Name x p2) X.env) :: starEach [] X.env := by rfl) (hpl : (backTo pos (starEach [.Name x p2] X.env)).any (·.1) = false := by rfl) :
    DE G X W (.Call (.Name "isinstance" p) [e, .Name x p2] [] pos) (eIsC tab f) := by
  obtain ⟨t, pt, qt⟩ := he
  refine ⟨_, pe_callB call_isZ hg hm (by decide +kernel) (pa_cons pt (pa_cons (cn.pe p2) pa_nil hst2) hst) (by decide) (by decide) hst hpl, fun σ H env φ S Q s re h => ?_⟩
  refine qt σ H env φ S _ s re (PostE.bind h fun d S1 φ1 H1 y e1 s1 i1 h1 => ?_)
  split at h1
  · rename_i b hb
    obtain ⟨t, ht, hb⟩ := Option.bind_eq_some_iff.mp hb
    obtain ⟨tv, c1, c2⟩ := tyO_is hc s1 i1 ht
    exact ⟨y, v, tv, u, b, rfl, cn.cv, by rw [hK]; exact c2, by rw [hK]; exact ist.ok t tv b c1 hb, h1.now s1 rfl⟩
  · exact False.elim h1
def tabF : TyD → Option Bool := fun _ => some false
def tabOr (a b : TyD → Option Bool) : TyD → Option Bool := fun t => match a t with
  | some true => some true
  | some false => b t
  | none => none
@[simp] theorem tabF_is {t : TyD} : tabF t = some false := rfl
@[simp] theorem tabOr_is {a b : TyD → Option Bool} {t : TyD} : tabOr a b t = match a t with
  | some true => some true
  | some false => b t
  | none => none := rfl
/-- isinstance(e, (A, B, ..)) -/
inductive CNames (G : Glb) (X : Cx) : List Expr → List V → List Value → (TyD → Option Bool) → Prop where
  | nil : CNames G X [] [] [] tabF
  | cons {x : Str} {pos : Pos} {v : V} {u : Value} {tab tab2 : TyD → Option Bool} {es : List Expr} {vs : List V} {us : List Value} (cn : CName X x v u) (ist : IsT G u tab) (r : CNames G X es vs us tab2)
      (hs : starEach (.Name x pos :: es) X.env = (false, eval (.Name x pos) X.env) :: starEach es X.env := by rfl) : CNames G X (.Name x pos :: es) (v :: vs) (u :: us) (tabOr tab tab2)
theorem CNames.pa {es : List Expr} {vs : List V} {us : List Value} {tab : TyD → Option Bool} (c : CNames G X es vs us tab) : ∃ t, PA X es t ∧ ∀ σ H Q, Q vs H → t σ H Q := by
  induction c with
  | nil => exact ⟨_, pa_nil, fun _ _ _ h => h⟩
  | cons cn ist r hs ih =>
    obtain ⟨t, h1, h2⟩ := ih
    exact ⟨_, pa_cons (cn.pe _) h1 hs, fun σ H Q h => h2 σ H _ h⟩
theorem CNames.vs {es : List Expr} {vs : List V} {us : List Value} {tab : TyD → Option Bool} (c : CNames G X es vs us tab) : Paired ClsV vs us := by
  induction c with
  | nil => exact .nil
  | cons cn ist r hs ih => exact .cons cn.cv ih
theorem CNames.len {es : List Expr} {vs : List V} {us : List Value} {tab : TyD → Option Bool} (c : CNames G X es vs us tab) : vs.length = es.length := by
  induction c with
  | nil => rfl
  | cons cn ist r hs ih => simp [ih]
theorem CNames.any {es : List Expr} {vs : List V} {us : List Value} {tab : TyD → Option Bool} (c : CNames G X es vs us tab) : ∀ {t : TyD} {tv : Value} {b : Bool}, ClD G t tv → tab t = some b → PySem.W.kitAny G.K tv us = some b := by
  induction c with
  | nil => intro t tv b _ h; cases h; rfl
  | @cons x pos v u tab tab2 es vs us cn ist r hs ih =>
    intro t tv b h1 h2
    unfold PySem.W.kitAny
    unfold tabOr at h2
    cases h3 : tab t with
    | none => rw [h3] at h2; cases h2
    | some b1 =>
      rw [h3] at h2
      rw [ist.ok t tv b1 h1 h3]
      cases b1 with
      | true => exact h2
      | false => exact ih h1 h2
theorem de_isCs {es : List Expr} {vs : List V} {us : List Value} {tab : TyD → Option Bool} {e : Expr} {kt} {p p4 pos : Pos} {f : EM} (hK : X.K = G.K) (hc : ∀ c C, G.ca c = some C → OwnC G.K C) (cn : CNames G X es vs us tab) (hl : es.length ≤ 16777216) (hg : Gl X "isinstance") (hm : X.mg "isinstance" = none) (he : DE G X W e f)
    (hst : starEach [e, .Tuple es kt p4] X.env = (false, eval e X.env) :: starEach [.Tuple es kt p4] X.env := by rfl)
    (hst2 : starEach [.Tuple es kt p4] X.env = (false, eval (.Tuple es kt p4) X.env) :: starEach [] X.env := by rfl) (hpl : (backTo pos (starEach [.Tuple es kt p4] X.env)).any (·.1) = false := by rfl) :
    DE G X W (.Call (.Name "isinstance" p) [e, .Tuple es kt p4] [] pos) (eIsC tab f) := by
  obtain ⟨t, pt, qt⟩ := he
  obtain ⟨tt, ptt, qtt⟩ := cn.pa
  refine ⟨_, pe_callB call_isZT hg hm (by decide +kernel) (pa_cons pt (pa_cons (pe_tup ptt) pa_nil hst2) hst) (by decide) (by decide) hst hpl, fun σ H env φ S Q s re h => ?_⟩
  refine qt σ H env φ S _ s re (PostE.bind h fun d S1 φ1 H1 y e1 s1 i1 h1 => ?_)
  split at h1
  · rename_i b hb
    obtain ⟨t, ht, hb⟩ := Option.bind_eq_some_iff.mp hb
    refine qtt _ _ _ ⟨by rw [cn.len]; exact sizeLine_is hl, fun p hp => ?_⟩
    have e2 : Ext φ1 H1 φ1 (upd H1 p (.tup vs)) := .laid hp
    have s2 := s1.laid (o := .tup vs) hp
    obtain ⟨tv, c1, c2⟩ := tyO_is hc s2 (i1.ext e2) ht
    exact ⟨y, p, vs, tv, us, b, rfl, upd_same, cn.vs, by rw [hK]; exact c2, by rw [hK]; exact cn.any c1 hb, PostE.now (PostE.ext (r := .ok (.bl b) S1) e2 h1) s2 rfl⟩
  · exact False.elim h1
section
variable {S : Store} {env : EnvD}
@[simp] theorem eIsC_is {tab : TyD → Option Bool} {f : EM} : eIsC tab f env S = (f env S).bind fun d S => match (tyO S d).bind tab with
  | some b => .ok (.bl b) S
  | none => .bad := rfl
@[simp] theorem tyO_obj {c ks ds} : tyO S (.obj c ks ds) = some (.o c) := rfl
@[simp] theorem tyO_non : tyO S .non = some (.b .none) := rfl
@[simp] theorem tyO_bl {b} : tyO S (.bl b) = some (.b .bool) := rfl
@[simp] theorem tyO_int {b} : tyO S (.int b) = some (.b .int) := rfl
@[simp] theorem tyO_str {b} : tyO S (.str b) = some (.b .str) := rfl
@[simp] theorem tyO_tup {b} : tyO S (.tup b) = some (.b .tuple) := rfl
@[simp] theorem tyO_lst {b} : tyO S (.lst b) = some (.b .list) := rfl
@[simp] theorem tyO_dic {k b} : tyO S (.dic k b) = some (.b .dict) := rfl
@[simp] theorem tyO_dct {k b} : tyO S (.dct k b) = some (.b .dict) := rfl
@[simp] theorem tyO_loc {l : Nat} : tyO S (.loc l) = match cel S l with
    | some (.ins c _) => some (.o c)
    | some (.lst _) => some (.b .list)
    | some (.dic _) => some (.b .dict)
    | some (.dct _) => some (.b .dict)
    | none => none := rfl
@[simp] theorem tabB_b {a b : Ty} : tabB b (.b a) = some (a.isa b) := rfl
@[simp] theorem tabB_o {c} {b : Ty} : tabB b (.o c) = some false := rfl
@[simp] theorem tabB_x {c} {b : Ty} : tabB b (.x c) = some false := rfl
@[simp] theorem tabO_b {a : Ty} {c} : tabO c (.b a) = some false := rfl
@[simp] theorem tabO_o {c c'} : tabO c (.o c') = some (decide (c' = c)) := rfl
@[simp] theorem tabO_x {c c'} : tabO c (.x c') = some false := rfl
end
end DL
end
section
/-! Methods of own classes and new instances, over data. -/
namespace L2
open PySem PySem.Spec PyProof.Rows
section
variable {X : Cx} {k : Nat} {f C : Addr} {fd : FuncData} {ps : List Str} {sp : Sp} {E : St → XK} {x : Str} {p pos : Pos} {CX : CXT}
end
end L2
namespace DL
open PySem L2
variable {G : Glb} {X : Cx} {W : WX}
/-! ### o.f, o.f = e where the classes are told -/
structure FldOk (G : Glb) (f : Str) (cs : List Str) : Prop where
  ok : ∀ c ∈ cs, ∀ C, G.ca c = some C → Cls G.K C ∧ NoAttr G.K C f
def fldC (S : Store) (d : D) (f : Str) : Option (Str × D) := match d with
  | .obj c ks ds => ((ks.zip ds).lookup f).map fun x => (c, x)
  | .loc l => match S[l]? with
    | some (.ins c fs) => (fs.lookup f).map fun x => (c, x)
    | _ => none
  | _ => none
theorem fldC_is {φ : Fi} {S : Store} {H : Hp} (s : SOk G φ S H) {d : D} {v : V} {f c : Str} {x : D} (i : Is G φ H d v) (h : fldC S d f = some (c, x)) : ∃ a C dx fs y, v = .ref a ∧ H a = some (.ins C dx fs) ∧ G.ca c = some C ∧ fs.lookup f = some y ∧ Is G φ H x y := by
  unfold fldC at h
  split at h
  · obtain ⟨a, C, dx, fs, rfl, ⟨_, hh⟩, hc, hk, q⟩ := i
    obtain ⟨z, e1, e2⟩ := Option.map_eq_some_iff.mp h
    cases e2
    obtain ⟨y, h1, h2⟩ := lookup_is hk q e1
    exact ⟨a, C, dx, fs, y, rfl, hh, hc, h1, h2⟩
  · split at h
    · rename_i e
      obtain ⟨a, ha, rfl⟩ := i
      obtain ⟨C, dx, ws, hc, hh, hk, q⟩ := s.at_ e ha
      obtain ⟨z, e1, e2⟩ := Option.map_eq_some_iff.mp h
      cases e2
      obtain ⟨y, h1, h2⟩ := lookup_is hk q (by rw [zip_unzip]; exact e1)
      exact ⟨a, C, dx, ws, y, rfl, hh, hc, h1, h2⟩
    · cases h
  · cases h
def eFldC (cs : List Str) (f : Str) (e : EM) : EM := fun env S => (e env S).bind fun d S => match fldC S d f with
  | some (c, x) => if c ∈ cs then .ok x S else .bad
  | none => .bad
theorem de_fldC {e : Expr} {f : Str} {pos : Pos} {fe : EM} {cs : List Str} (hK : X.K = G.K) (k : FldOk G f cs) (he : DE G X W e fe) (hb : attributeBase e f X.env (eval e X.env) = eval e X.env := by rfl) : DE G X W (.Attribute e f pos) (eFldC cs f fe) := by
  obtain ⟨t, p, q⟩ := he
  refine ⟨_, pe_fld p hb, fun σ H env φ S Q s re h => ?_⟩
  refine q σ H env φ S _ s re (PostE.bind h fun d S1 φ1 H1 v e1 s1 i1 h1 => ?_)
  split at h1
  · rename_i c x hx
    split at h1
    · rename_i hc
      obtain ⟨a, C, dx, fl, y, rfl, hh, hC, hl, iy⟩ := fldC_is s1 i1 hx
      obtain ⟨k1, k2⟩ := k.ok c hc C hC
      rw [← hK] at k1 k2
      exact ⟨a, C, dx, fl, y, rfl, hh, k1, k2, hl, h1 φ1 H1 y .refl s1 iy⟩
    · exact h1.elim
  · exact h1.elim
def sFldC (cs : List Str) (f : Str) (o e : EM) : SM := fun env S => (e env S).bindS env fun d S => (o env S).bindS env fun a S => match a with
  | .loc l => match S[l]? with
    | some (.ins c fs) => if c ∈ cs ∧ fs.length < 1000 then .nx env (S.set l (.ins c (putFD f d fs))) else .bad
    | _ => .bad
  | _ => .bad
theorem put_fld {φ : Fi} {H : Hp} {S : Store} {l : Nat} {c f : Str} {fs : List (Str × D)} {d : D} {v va : V} {cs : List Str} (k : FldOk G f cs) (s : SOk G φ S H) (hc : S[l]? = some (.ins c fs)) (hm : c ∈ cs) (hl : fs.length < 1000) (i : Is G φ H d v) (ia : Is G φ H (.loc l) va) :
    ∃ a C dx ws, va = .ref a ∧ H a = some (.ins C dx ws) ∧ Cls G.K C ∧ NoAttr G.K C f ∧ ws.length < 1000 ∧ Ext φ H φ (upd H a (.ins C dx (putF f v ws))) ∧ SOk G φ (S.set l (.ins c (putFD f d fs))) (upd H a (.ins C dx (putF f v ws))) := by
  obtain ⟨ad, ha, rfl⟩ := ia
  obtain ⟨C, dx, ws, hcl, hh, hk, q⟩ := s.at_ hc ha
  obtain ⟨k1, k2⟩ := k.ok c hm C hcl
  have wl : ws.length = fs.length := by have := congrArg List.length hk; simpa using this
  have e3 := Ext.put (φ := φ) (H := H) (o := .ins C dx (putF f v ws)) (List.mem_of_getElem? ha)
  obtain ⟨p1, p2⟩ := putF_is (f := f) i hk q
  exact ⟨ad, C, dx, ws, rfl, hh, k1, k2, by omega, e3, s.put ha ⟨C, dx, _, hcl, upd_same, p1, p2.ext e3⟩⟩
theorem ds_fldC {o e : Expr} {f : Str} {pos pos' : Pos} {fo fe : EM} {cs : List Str} (hK : X.K = G.K) (k : FldOk G f cs) (he : DE G X W e fe) (ho : DE G X W o fo) (hs : swapsWith e (some (.Attribute o f pos')) pos.line X.env = pure false := by rfl) :
    DS G X W (.Assign [.Attribute o f pos'] e pos) (sFldC cs f fo fe) := by
  obtain ⟨to, po, qo⟩ := ho
  obtain ⟨te, pe, qe⟩ := he
  refine ⟨_, ps_fld po pe hs, fun σ H env φ S N s re h => ?_⟩
  refine qe σ H env φ S _ s re (PostE.bindS re h fun d S1 φ1 H1 v e1 s1 i1 h1 => ?_)
  have r1 := re.ext e1
  refine qo σ H1 env φ1 S1 _ s1 r1 (PostE.bindS r1 h1 fun a S2 φ2 H2 va e2 s2 i2 h2 => ?_)
  have r2 := r1.ext e2
  split at h2
  · rename_i l
    split at h2
    · rename_i c fs hc
      split at h2
      · rename_i hl
        obtain ⟨a, C, dx, ws, rfl, hh, k1, k2, wl, e3, s3⟩ := put_fld k s2 hc hl.1 hl.2 (i1.ext e2) i2
        rw [← hK] at k1 k2
        exact ⟨a, C, dx, ws, rfl, hh, k1, k2, wl, h2 φ2 _ σ e3 s3 (r2.ext e3)⟩
      · exact h2.elim
    · exact h2.elim
  · exact h2.elim
/-! ### o.m(..) -/
structure MethG (G : Glb) (P : Program) (w : World) (mg : Str → Option Value) (base : Heap) (k : Nat) (c m : Str) (n : Nat) (F : FD) : Prop where
  ex : ∃ C f fd ps, G.ca c = some C ∧ Cls G.K C ∧ Meth G.K C m f ∧ FnG P w G.K mg base (L2.CX P w) k f fd ps (spD G (n + 1) F) ∧ Binds G.K fd ps []
/-- the class of an instance, its attributes' names -/
def insD (S : Store) (d : D) : Option (Str × List Str) := match d with
  | .obj c ks ds => if ks.length = ds.length then some (c, ks) else none
  | .loc l => match S[l]? with
    | some (.ins c fs) => some (c, fs.map (·.1))
    | _ => none
  | _ => none
def eMethO (c m : Str) (F : FD) (o : EM) (f : LM) : EM := fun env S => (o env S).bind fun x S => match insD S x with
  | some (c', ks) => if c' = c ∧ m ∉ ks then (f env S).bindE fun ds S => F (x :: ds) S else .bad
  | none => .bad
/-! ### C() and C(.., k = v) with keywords left out -/
/-- m: how many values __init__ takes beside self; gD: these from what is written -/
structure ClsKN (G : Glb) (P : Program) (w : World) (mg : Str → Option Value) (base : Heap) (k : Nat) (x : Str) (n : Nat) (ks : List Str) (m : Nat) (gD : List D → List D → List D) (F : FD) : Prop where
  ex : ∃ C f fd ps g gV, Mk G.K C f ∧ FnG P w G.K mg base (L2.CX P w) k f fd ps (spD G m F) ∧ mg x = some (.ref C) ∧ G.ca x = some C ∧ KBn G.K fd ps (n + 1) ks g gV ∧
    ∀ {φ : Fi} {H : Hp} {ds es : List D} {vs zs : List V}, ds.length = n + 1 → es.length = ks.length → IsL G φ H ds vs → IsL G φ H es zs → IsL G φ H (gD ds es) (gV vs zs) ∧ (gD ds es).length = m
def eMakeKN (c : Str) (gD : List D → List D → List D) (F : FD) (f fk : LM) : EM := fun env S => (f env S).bindE fun ds S0 => (fk env S0).bindE fun es S1 => match F (gD (.loc S1.length :: ds) es) (S1 ++ [.ins c []]) with
  | .ok .non S2 => .ok (.loc S1.length) S2
  | .ex x S2 => .ex x S2
  | _ => .bad
section
variable {S : Store} {env : EnvD}
@[simp] theorem eFldC_is {cs : List Str} {f : Str} {e : EM} : eFldC cs f e env S = (e env S).bind fun d S => match fldC S d f with
  | some (c, x) => if c ∈ cs then .ok x S else .bad
  | none => .bad := rfl
@[simp] theorem sFldC_is {cs : List Str} {f : Str} {o e : EM} : sFldC cs f o e env S = (e env S).bindS env fun d S => (o env S).bindS env fun a S => match a with
  | .loc l => match S[l]? with
    | some (.ins c fs) => if c ∈ cs ∧ fs.length < 1000 then .nx env (S.set l (.ins c (putFD f d fs))) else .bad
    | _ => .bad
  | _ => .bad := rfl
@[simp] theorem eMethO_is {c m : Str} {F : FD} {o : EM} {f : LM} : eMethO c m F o f env S = (o env S).bind fun x S => match insD S x with
  | some (c', ks) => if c' = c ∧ m ∉ ks then (f env S).bindE fun ds S => F (x :: ds) S else .bad
  | none => .bad := rfl
@[simp] theorem eMake_is {c : Str} {F : FD} {f : LM} : eMake c F f env S = (f env S).bindE fun ds S1 => match F (.loc S1.length :: ds) (S1 ++ [.ins c []]) with
  | .ok .non S2 => .ok (.loc S1.length) S2
  | .ex x S2 => .ex x S2
  | _ => .bad := rfl
@[simp] theorem eMakeKN_is {c : Str} {gD : List D → List D → List D} {F : FD} {f fk : LM} : eMakeKN c gD F f fk env S = (f env S).bindE fun ds S0 => (fk env S0).bindE fun es S1 => match F (gD (.loc S1.length :: ds) es) (S1 ++ [.ins c []]) with
  | .ok .non S2 => .ok (.loc S1.length) S2
  | .ex x S2 => .ex x S2
  | _ => .bad := rfl
end
end DL
end
section
/-! sorted of lists of tuples of ints and texts of one form, any number of them. -/
namespace L2
open PySem PySem.Spec PyProof.Rows
/-! the order of keys and of tuples of keys -/
def ltK1 : Key → Key → Bool
  | .inl a, .inl b => decide (a < b)
  | .inr a, .inr b => decide (a.cps.toList < b.cps.toList)
  | .inl _, .inr _ => true
  | .inr _, .inl _ => false
def ltKs : List Key → List Key → Bool
  | _, [] => false
  | [], _ :: _ => true
  | a :: as, b :: bs => if a = b then ltKs as bs else ltK1 a b
/-- a strict order of all things -/
structure Lin {α : Type} (lt : α → α → Bool) : Prop where
  irr : ∀ a, lt a a = false
  tr : ∀ a b c, lt a b = true → lt b c = true → lt a c = true
  tri : ∀ a b, lt a b = false → lt b a = false → a = b
theorem Lin.asym {α : Type} {lt : α → α → Bool} (L : Lin lt) {a b : α} (h : lt a b = true) : lt b a = false := by
  cases e : lt b a with
  | false => rfl
  | true => have := L.tr a b a h e; rw [L.irr] at this; cases this
theorem Lin.swo {α : Type} {lt : α → α → Bool} (L : Lin lt) : SrtO.Swo lt := by
  refine ⟨fun x y h => L.asym h, fun x y z h1 h2 => ?_⟩
  cases e : lt z x with
  | false => rfl
  | true =>
    cases e2 : lt x y with
    | true => rw [L.tr z x y e e2] at h2; cases h2
    | false => cases L.tri x y e2 h1; rw [e] at h2; cases h2
theorem Lin.map {α β : Type} {lt : β → β → Bool} (L : Lin lt) (f : α → β) : SrtO.Swo fun x y => lt (f x) (f y) := ⟨fun x y h => L.swo.asym _ _ h, fun x y z h1 h2 => L.swo.tr _ _ _ h1 h2⟩
theorem str_ext {a b : PySem.Str} (h : a.cps.toList = b.cps.toList) : a = b := by
  obtain ⟨x⟩ := a
  obtain ⟨y⟩ := b
  have : x = y := Array.toList_inj.mp h
  rw [this]
theorem lin_K1 : Lin ltK1 := by
  refine ⟨fun a => ?_, fun a b c h1 h2 => ?_, fun a b h1 h2 => ?_⟩
  · rcases a with a | a
    · exact decide_eq_false (Int.lt_irrefl a)
    · exact decide_eq_false (List.lt_irrefl _)
  · rcases a with a | a <;> rcases b with b | b <;> rcases c with c | c <;> first
      | rfl
      | (cases h1; done)
      | (cases h2; done)
      | exact decide_eq_true (Int.lt_trans (of_decide_eq_true h1) (of_decide_eq_true h2))
      | exact decide_eq_true (List.lt_trans (of_decide_eq_true h1) (of_decide_eq_true h2))
  · rcases a with a | a <;> rcases b with b | b
    · have x1 := of_decide_eq_false h1
      have x2 := of_decide_eq_false h2
      exact congrArg _ (by omega)
    · cases h1
    · cases h2
    · have x1 := of_decide_eq_false h1
      have x2 := of_decide_eq_false h2
      exact congrArg _ (str_ext (List.le_antisymm (List.not_lt.mp x2) (List.not_lt.mp x1)))
/-- the kind of a key -/
def isS : Key → Bool
  | .inl _ => false
  | .inr _ => true
section
variable {prog : Program} {w : World} {A : Around} {E : Value → Shared → Prop} {s : Shared}
def IsKT (h : Heap) (v : Value) (ks : List Key) : Prop := ∃ a o its n, v = .ref a ∧ h.get? a = some o ∧ o.cls = .type "tuple" ∧ o.data = .seq its n ∧ Vals (ks.map kV) its.toList
theorem IsKT.keeps {h h' : Heap} {v : Value} {ks : List Key} (p : IsKT h v ks) (k : ∀ b o, h.get? b = some o → o.cls = .type "tuple" → h'.get? b = some o) : IsKT h' v ks := by
  obtain ⟨a, o, its, n, e, ho, hc, hd⟩ := p
  exact ⟨a, o, its, n, e, k _ _ ho hc, hc, hd⟩
end
end L2
namespace DL
open PySem L2
variable {G : Glb} {X : Cx} {W : WX}
def kysD : List D → Option (List Key)
  | [] => some []
  | d :: ds => (keyD d).bind fun k => (kysD ds).map (k :: ·)
def tupK : D → Option (List Key)
  | .tup ds => kysD ds
  | _ => none
def tK (ks : List Key) : D := .tup (ks.map dKey)
theorem keyD_d (k : Key) : keyD (dKey k) = some k := by cases k <;> rfl
theorem kysD_d : ∀ ks : List Key, kysD (ks.map dKey) = some ks
  | [] => rfl
  | k :: ks => by
    show (keyD (dKey k)).bind (fun k' => (kysD (ks.map dKey)).map (k' :: ·)) = _
    rw [keyD_d, kysD_d ks]; rfl
theorem tupK_t (ks : List Key) : tupK (tK ks) = some ks := kysD_d ks
theorem optL_map {α β : Type} {f : α → Option β} {g : β → α} (hf : ∀ b, f (g b) = some b) : ∀ m : List β, optL f (m.map g) = some m
  | [] => rfl
  | b :: m => by
    show ((f (g b)).bind fun b => (optL f (m.map g)).map (b :: ·)) = _
    rw [hf, optL_map hf m]; rfl
def leKs (a b : List Key) : Bool := !ltKs b a
def sortKs (l : List (List Key)) : List (List Key) := l.mergeSort leKs
/-- of one form, not the empty one -/
def oneForm : List (List Key) → Bool
  | [] => true
  | k :: ks => !k.isEmpty && ks.all fun l => l.map isS == k.map isS
/-- lists of tuples of keys, beside what was sorted so far -/
def bSortedZ (ds : List D) (S : Store) : ER := match ds with
  | [d] => match (listD S d).bind (optL tupK) with
    | some (k :: kss) => if oneForm (k :: kss) then .ok (.lst ((sortKs (k :: kss)).map tK)) S else .bad
    | _ => bSortedY [d] S
  | ds => bSortedY ds S
section
variable {S : Store}
@[simp] theorem bSortedZ_l {kss : List (List Key)} (h : oneForm kss = true) (h0 : kss ≠ []) : bSortedZ [.lst (kss.map tK)] S = .ok (.lst ((sortKs kss).map tK)) S := by
  unfold bSortedZ
  dsimp only
  rw [show (listD S (.lst (kss.map tK))).bind (optL tupK) = some kss from optL_map tupK_t kss]
  cases kss with
  | nil => exact absurd rfl h0
  | cons k kss => dsimp only; rw [if_pos h]
end
end DL
end
section
/-! x or y, x and y by truth; the module's own tuples and dicts. -/
namespace DL
open PySem L2 PyProof.Rows
variable {G : Glb} {X : Cx} {W : WX}
/-! ### x or y -/
/-- the truth of a thing -/
def truX (S : Store) : D → Option Bool
  | .non => some false
  | .bl b => some b
  | .int i => some (i != 0)
  | .tup ds => some (!ds.isEmpty)
  | .lst ds => some (!ds.isEmpty)
  | .loc l => match S[l]? with
    | some (.lst ds) => some (!ds.isEmpty)
    | some (.dic kvs) => some (!kvs.isEmpty)
    | _ => none
  | _ => none
def eOrT (f g : EM) : EM := fun env S => (f env S).bind fun d S => match truX S d with
  | some true => .ok d S
  | some false => g env S
  | none => .bad
def eAndT (f g : EM) : EM := fun env S => (f env S).bind fun d S => match truX S d with
  | some true => g env S
  | some false => .ok d S
  | none => .bad
/-! ### tuples of the module -/
structure KTup (K : PySem.W.Frag) (a : Addr) (xs : List V) : Prop where
  ex : ∃ (o : Obj) (its : Array Value) (n : Nat), K.lookup a = some o ∧ o.cls = .type "tuple" ∧ o.data = .seq its n ∧ its.size ≤ sizeLine ∧ Vals xs its.toList
/-! ### dicts of the module, by texts -/
structure KTab (K : PySem.W.Frag) (w : World) (a : Addr) (tab : List (Str × D)) : Prop where
  ex : ∃ es n, KDict K w a es n
  get : ∀ z : Str, ∃ r : Option Value, PySem.W.nsIn K a z = some r ∧ match tab.lookup z with
    | some d => ∃ u, r = some u ∧ RelV (dV d) u ∧ flatD d = true
    | none => r = none
def eGIx (tab : List (Str × D)) (f : EM) : EM := fun env S => (f env S).bind fun d S => match d with
  | .str z => match tab.lookup z with
    | some x => .ok x S
    | none => .bad
  | _ => .bad
def eGIn (neg : Bool) (tab : List (Str × D)) (f : EM) : EM := fun env S => (f env S).bind fun d S => match d with
  | .str z => .ok (.bl (if neg then !(tab.lookup z).isSome else (tab.lookup z).isSome)) S
  | _ => .bad
section
variable {S : Store} {env : EnvD}
@[simp] theorem eOrT_is {f g : EM} : eOrT f g env S = (f env S).bind fun d S => match truX S d with
  | some true => .ok d S
  | some false => g env S
  | none => .bad := rfl
@[simp] theorem eAndT_is {f g : EM} : eAndT f g env S = (f env S).bind fun d S => match truX S d with
  | some true => g env S
  | some false => .ok d S
  | none => .bad := rfl
@[simp] theorem eGIx_is {tab : List (Str × D)} {f : EM} : eGIx tab f env S = (f env S).bind fun d S => match d with
  | .str z => match tab.lookup z with
    | some x => .ok x S
    | none => .bad
  | _ => .bad := rfl
@[simp] theorem eGIn_is {neg : Bool} {tab : List (Str × D)} {f : EM} : eGIn neg tab f env S = (f env S).bind fun d S => match d with
  | .str z => .ok (.bl (if neg then !(tab.lookup z).isSome else (tab.lookup z).isSome)) S
  | _ => .bad := rfl
@[simp] theorem truX_t {ds} : truX S (.tup ds) = some (!ds.isEmpty) := rfl
@[simp] theorem truX_l {ds} : truX S (.lst ds) = some (!ds.isEmpty) := rfl
@[simp] theorem truX_c {l : Nat} : truX S (.loc l) = match cel S l with
    | some (.lst ds) => some (!ds.isEmpty)
    | some (.dic kvs) => some (!kvs.isEmpty)
    | _ => none := rfl
end
end DL
namespace DL
open PySem L2
/-- a promise for whatever classes there are -/
def spA (K : PySem.W.Frag) (n : Nat) (F : FD) : Sp := fun vs H Q E => ∀ ca ce, spD ⟨K, ca, ce⟩ n F vs H Q E
theorem fnG_all {P : Program} {w : World} {K : PySem.W.Frag} {ca ce : Str → Option Addr} {mg : Str → Option Value} {base : Heap} {CX : CXT} {k n : Nat} {f : Addr} {fd : FuncData} {ps : List Str} {F : FD} (h : FnG P w K mg base CX k f fd ps (spD ⟨K, ca, ce⟩ n F)) : FnG P w K mg base CX k f fd ps (spA K n F) :=
  ⟨fun vs H Q E s => h.len vs H Q E (s ca ce), fun A outer s H args us vs Q E gd hr e0 b r sp => h.run A outer s H args us vs Q E gd hr e0 b r (sp ca ce)⟩
/-- an own class, as k_is finds it -/
theorem own_mk {K : PySem.W.Frag} {C : Addr} (pg : PySem.W.plainGet K C Str.empty = true) (hd : PySem.W.hasDictIn K C = true) (po : PySem.W.plainOver K C = true) (sa : PySem.W.findIn K (.ref C) "__setattr__" = some (some (.builtin "object.__setattr__")))
    (ha : PySem.W.findIn K (.ref C) "__class__" = some (some (.builtin "object.__class__"))) (hn : PySem.W.specialIn K (.builtin "object.__class__") "__get__" = some (some (.builtin "getset_descriptor.__get__"))) (ht : PySem.W.takesIn K (.builtin "object.__class__") = some true)
    (hm : PySem.W.mroIn K C (.type "object") = some true) : OwnC K C := ⟨⟨pg, hd, po, sa⟩, ha, hn, ht, hm⟩
theorem mem_nil {α : Type} {P : α → Prop} : ∀ p ∈ ([] : List α), P p := fun _ h => by cases h
theorem mem_con {α : Type} {P : α → Prop} {a : α} {l : List α} (h : P a) (r : ∀ p ∈ l, P p) : ∀ p ∈ a :: l, P p := fun p hp => by
  rcases List.mem_cons.mp hp with rfl | hp
  · exact h
  · exact r p hp
theorem fld_mk {K : PySem.W.Frag} {l : List (Str × Addr)} {ce : Str → Option Addr} {f : Str} {cs : List Str} (h : ∀ p ∈ l, p.1 ∈ cs → Cls K p.2 ∧ NoAttr K p.2 f) : FldOk ⟨K, fun c => l.lookup c, ce⟩ f cs :=
  ⟨fun c hc C e => ca_all (P := fun c C => c ∈ cs → Cls K C ∧ NoAttr K C f) h c C e hc⟩
end DL
end
section
/-! list.extend, max and min of a list of whole numbers. -/
namespace DL
open PySem L2
variable {G : Glb} {X : Cx} {W : WX}
end DL
end
section
/-! An expression that walks a dict of its own: the last cell, read as data. -/
namespace DL
open PySem L2
variable {G : Glb} {X : Cx} {W : WX}
mutual
/-- no dict stands within -/
def noD : D → Bool
  | .tup ds => noDs ds
  | .lst ds => noDs ds
  | .obj _ _ ds => noDs ds
  | .dct _ ds => noDs ds
  | .exn _ _ ds => noDs ds
  | .tpl ds => noDs ds
  | .dic _ _ => false
  | _ => true
def noDs : List D → Bool
  | [] => true
  | d :: ds => noD d && noDs ds
end
def Cell.noD : Cell → Bool
  | .lst ds => noDs ds
  | .dic kvs => noDs (kvs.map (·.2))
  | .ins _ fs => noDs (fs.map (·.2))
  | .dct kvs => noDs (kvs.map (·.2))
/-- how readings without dicts are kept -/
structure KeptN (φ : Fi) (H : Hp) (φ' : Fi) (H' : Hp) : Prop where
  get : ∀ (l : Nat) a, φ.c[l]? = some a → φ'.c[l]? = some a
  rd : ∀ a u, (∀ kvs, u ≠ .dK kvs) → (∀ o w, u ≠ .frz o w) → φ.out a → Rd H a u → φ'.out a ∧ Rd H' a u
  ins : ∀ a C dx fs, φ.out a → H a = some (.ins C dx fs) → φ'.out a ∧ H' a = some (.ins C dx fs)
  ext : ∀ a p, φ.out a → H a = some (.ext p) → φ'.out a ∧ H' a = some (.ext p)
  xd : ∀ a fs, φ.out a → H a = some (.xd fs) → φ'.out a ∧ H' a = some (.xd fs)
  frt : ∀ a o xs, φ.out a → H a = some (.frz o (.tup xs)) → φ'.out a ∧ H' a = some (.frz o (.tup xs))
section
variable {φ φ' : Fi} {H H' : Hp}
theorem RdL.keptN (k : KeptN φ H φ' H') {a : Addr} {xs : List V} (h : RdL G φ H a xs) : RdL G φ' H' a xs := by
  rcases h with ⟨n, h⟩ | h
  · exact .inl (k.rd _ _ (fun _ z => by cases z) (fun _ _ z => by cases z) n h)
  · exact .inr h
theorem RdT.keptN (k : KeptN φ H φ' H') {a : Addr} {xs : List V} (h : RdT G φ H a xs) : RdT G φ' H' a xs := by
  rcases h with ⟨n, h⟩ | h
  · exact .inl (k.rd _ _ (fun _ z => by cases z) (fun _ _ z => by cases z) n h)
  · exact .inr h
mutual
theorem Is.keptN (k : KeptN φ H φ' H') : ∀ {d : D} {v : V}, noD d = true → Is G φ H d v → Is G φ' H' d v
  | .non, v, _, h => h
  | .bl b, v, _, h => h
  | .int i, v, _, h => h
  | .str x, v, _, h => h
  | .tup ds, v, b, h => by
    obtain ⟨a, xs, e, r, q⟩ := h
    exact ⟨a, xs, e, r.keptN k, IsL.keptN k b q⟩
  | .lst ds, v, b, h => by
    obtain ⟨a, xs, e, r, q⟩ := h
    exact ⟨a, xs, e, r.keptN k, IsL.keptN k b q⟩
  | .dic ks ds, v, b, h => by cases b
  | .obj c ks ds, v, b, h => by
    obtain ⟨a, C, dx, fs, e, ⟨n, r⟩, c, z, q⟩ := h
    exact ⟨a, C, dx, fs, e, k.ins _ _ _ _ n r, c, z, IsL.keptN k b q⟩
  | .loc l, v, _, h => by
    obtain ⟨a, p, e⟩ := h
    exact ⟨a, k.get _ _ p, e⟩
  | .dct ks ds, v, b, h => by
    obtain ⟨a, kvs, e, ⟨n, r⟩, z, q⟩ := h
    exact ⟨a, kvs, e, k.rd _ _ (fun _ z => by cases z) (fun _ _ z => by cases z) n r, z, IsL.keptN k b q⟩
  | .exn c ks ds, v, b, h => by
    obtain ⟨a, C, d, e, ⟨n, r⟩, c, z⟩ := h
    refine ⟨a, C, d, e, k.ext _ _ n r, c, ?_⟩
    rcases z with z | ⟨b', fs, e1, ⟨n1, r1⟩, e2, q⟩
    · exact .inl z
    · exact .inr ⟨b', fs, e1, k.xd _ _ n1 r1, e2, IsL.keptN k b q⟩
  | .tpl ds, v, b, h => by
    obtain ⟨a, xs, o, e, ⟨n, r, r2⟩, q⟩ := h
    have z := k.frt _ _ _ n r
    exact ⟨a, xs, o, e, ⟨z.1, z.2, r2⟩, IsL.keptN k b q⟩
theorem IsL.keptN (k : KeptN φ H φ' H') : ∀ {ds : List D} {xs : List V}, noDs ds = true → IsL G φ H ds xs → IsL G φ' H' ds xs
  | [], xs, _, h => h
  | d :: ds, xs, b, h => by
    obtain ⟨x, r, e, p, q⟩ := h
    have b : (noD d && noDs ds) = true := b
    simp only [Bool.and_eq_true] at b
    exact ⟨x, r, e, Is.keptN k b.1 p, IsL.keptN k b.2 q⟩
end
theorem CellOk.keptN {a : Addr} {c : Cell} (k : KeptN φ H φ' H') (e : H' a = H a) (b : c.noD = true) (h : CellOk G φ H a c) : CellOk G φ' H' a c := by
  cases c with
  | lst ds => obtain ⟨xs, h, q⟩ := h; exact ⟨xs, by rw [e]; exact h, q.keptN k b⟩
  | dic kvs => obtain ⟨xs, h, z, q⟩ := h; exact ⟨xs, by rw [e]; exact h, z, q.keptN k b⟩
  | ins c fs => obtain ⟨C, dx, ws, z, h, y, q⟩ := h; exact ⟨C, dx, ws, z, by rw [e]; exact h, y, q.keptN k b⟩
  | dct kvs => obtain ⟨xs, h, z, q⟩ := h; exact ⟨xs, by rw [e]; exact h, z, q.keptN k b⟩
end
/-! ### dict(pairs) that is changed later -/
def bDictN (ds : List D) (S : Store) : ER := match ds with
  | [.lst es] => match pairsD es with
    | some kds => .ok (.loc S.length) (S ++ [.dic (mergeD [] kds)])
    | none => .bad
  | ds => bDictM ds S
section
variable {S : Store} {env : EnvD}
@[simp] theorem bDictN_lst {es : List D} : bDictN [.lst es] S = match pairsD es with
    | some kds => .ok (.loc S.length) (S ++ [.dic (mergeD [] kds)])
    | none => .bad := rfl
@[simp] theorem bDictN_dic {ks : List Key} {ds : List D} : bDictN [.dic ks ds] S = .ok (.loc S.length) (S ++ [.dic (ks.zip ds)]) := rfl
end
end DL
end
section
/-! list.remove of texts. -/
namespace L2
open PySem PySem.Spec PyProof.Rows
section
variable {X : Cx}
end
end L2
namespace DL
open PySem L2
variable {G : Glb} {X : Cx} {W : WX}
def strsD : List D → Option (List Str)
  | [] => some []
  | .str x :: ds => (strsD ds).map (x :: ·)
  | _ :: _ => none
theorem strsD_is : ∀ {ds : List D} {xs : List Str}, strsD ds = some xs → ds = xs.map .str
  | [], _, h => by cases h; rfl
  | d :: ds, xs, h => by
    cases d with
    | str x =>
      obtain ⟨ys, e1, e2⟩ := Option.map_eq_some_iff.mp (show (strsD ds).map (x :: ·) = some xs from h)
      subst e2
      rw [strsD_is e1]; rfl
    | _ => cases h
theorem strsD_map : ∀ xs : List Str, strsD (xs.map .str) = some xs
  | [] => rfl
  | x :: xs => by
    show (strsD (xs.map .str)).map (x :: ·) = _
    rw [strsD_map xs]; rfl
def mRemoveS (o : D) (ds : List D) (S : Store) : ER := cellL S o fun l xs => match ds with
  | [.str k] => match strsD xs with
    | some ns => if k ∈ ns then .ok .non (S.set l (.lst ((ns.erase k).map .str))) else .bad
    | none => .bad
  | _ => .bad
section
variable {S : Store}
@[simp] theorem mRemoveS_is {o : D} {k : Str} : mRemoveS o [.str k] S = cellL S o fun l xs => match strsD xs with
    | some ns => if k ∈ ns then .ok .non (S.set l (.lst ((ns.erase k).map .str))) else .bad
    | none => .bad := rfl
end
theorem MtM.or {X : Cx} {id : String} {r1 r2 : V → List V → Hp → VK → Prop} (h1 : MtM X id r1) (h2 : MtM X id r2) : MtM X id fun x xs H Q => r1 x xs H Q ∨ r2 x xs H Q :=
  fun pins s σ H x xs v us Q I rx rxs h => h.elim (h1 pins s σ H x xs v us Q I rx rxs) (h2 pins s σ H x xs v us Q I rx rxs)
/-- o.remove(x): a text or a whole number -/
def mRemoveX (o : D) (ds : List D) (S : Store) : ER := match ds with
  | [.str k] => mRemoveS o [.str k] S
  | ds => mRemove o ds S
@[simp] theorem mRemoveX_s {S : Store} {o : D} {k : Str} : mRemoveX o [.str k] S = cellL S o fun l xs => match strsD xs with
    | some ns => if k ∈ ns then .ok .non (S.set l (.lst ((ns.erase k).map .str))) else .bad
    | none => .bad := rfl
@[simp] theorem mRemoveX_i {S : Store} {o : D} {k : Int} : mRemoveX o [.int k] S = mRemove o [.int k] S := rfl
end DL
end
section
/-! repr of nested data, dicts among them. -/
namespace L2
open PySem PySem.Spec PyProof.Rows
section
variable {X : Cx}
end
end L2
namespace DL
open PySem L2
variable {G : Glb} {X : Cx} {W : WX}
section
variable {φ : Fi} {S : Store} {H : Hp}
end
end DL
end
section
/-! x in, x not in a dict of the module, as a test; an expression that walks a dict, data or a cell. -/
namespace DL
open PySem L2
variable {G : Glb} {X : Cx} {W : WX}
end DL
end
section
/-! Tuples of which the very object is known (.tpl): tuple(a list), t.index(x); read as other tuples are. -/
namespace L2
open PySem PySem.Spec PyProof.Rows
section
variable {X : Cx}
variable {o e : Expr} {es : List Expr} {to : TE} {t : TA} {name : Str} {apos cpos : Pos} {id : String} {r : V → List V → Hp → VK → Prop}
end
end L2
namespace DL
open PySem L2 PySem.Spec PyProof.Rows
variable {G : Glb} {X : Cx} {W : WX}
mutual
/-- known tuples read as tuples -/
def unD : D → D
  | .tup ds => .tup (unDs ds)
  | .tpl ds => .tup (unDs ds)
  | d => d
def unDs : List D → List D
  | [] => []
  | d :: ds => unD d :: unDs ds
end
mutual
theorem unD_is {φ : Fi} {H : Hp} : ∀ {d : D} {v : V}, Is G φ H d v → Is G φ H (unD d) v
  | .tup ds, v, h => by
    obtain ⟨a, xs, e, r, q⟩ := h
    exact ⟨a, xs, e, r, unDs_is q⟩
  | .tpl ds, v, h => by
    obtain ⟨a, xs, o, e, ⟨n, r, _⟩, q⟩ := h
    exact ⟨a, xs, e, .inl ⟨n, .inr ⟨o, r⟩⟩, unDs_is q⟩
  | .non, v, h => h
  | .bl b, v, h => h
  | .int i, v, h => h
  | .str x, v, h => h
  | .lst ds, v, h => h
  | .dic ks ds, v, h => h
  | .obj c ks ds, v, h => h
  | .loc l, v, h => h
  | .dct ks ds, v, h => h
  | .exn c ks ds, v, h => h
theorem unDs_is {φ : Fi} {H : Hp} : ∀ {ds : List D} {xs : List V}, IsL G φ H ds xs → IsL G φ H (unDs ds) xs
  | [], xs, h => h
  | d :: ds, xs, h => by
    obtain ⟨x, r, e, p, q⟩ := h
    exact ⟨x, r, e, unD_is p, unDs_is q⟩
end
end DL
end
section
/-! Exceptions over data: raise, try .. except C as e (the exception kept as data), isinstance of them. -/
namespace L2
open PySem PySem.Spec PyProof.Rows
section
variable {X : Cx} {a : Addr} {pins : List (Addr × Obj)} {σ : St} {H : Hp} {s sI : Shared} {h1 : Heap} {cls : Value} {d : Option Addr}
end
section
variable {X : Cx} {x n : Str} {c : Value} {i : Nat} {body suite : List Stmt} {b₀ : Stmt} {np pos pos' : Pos} {tb : WX → TS} {ts : TS} {Wout : WX}
end
end L2
end
section
/-! Exceptions over data, part 2: the D-layer's rules. -/
namespace L2
open PySem PySem.Spec PyProof.Rows
/-- what the class of a kept exception must say -/
structure ExcD (K : PySem.W.Frag) (D : Addr) : Prop where
  hg : PySem.W.findIn K (.ref D) "__getattribute__" = some (some (.builtin "BaseException.__getattribute__"))
  hk : PySem.W.findIn K (.ref D) "__getattr__" = some none
  hs : PySem.W.subIn K (.ref D) (.type "BaseException") = some true
  hd : PySem.W.hasDictIn K D = true
  ha : PySem.W.findIn K (.ref D) "__class__" = some (some (.builtin "object.__class__"))
  hn : PySem.W.specialIn K (.builtin "object.__class__") "__get__" = some (some (.builtin "getset_descriptor.__get__"))
  ht : PySem.W.takesIn K (.builtin "object.__class__") = some true
  hm : PySem.W.mroIn K D (.type "object") = some true
/-- types, exceptions too -/
inductive TyE (K : PySem.W.Frag) (H : Hp) : V → Value → Prop where
  | z {v : V} {t : Value} (h : TyZ K H v t) : TyE K H v t
  | x {a D : Addr} {d : Option Addr} (e : H a = some (DL.ExH (.ref D) d a)) (hd : ∀ b, d = some b → ∃ o, H b = some o) (c : ExcD K D) : TyE K H (.ref a) (.ref D)
section
variable {X : Cx}
end
end L2
namespace DL
open PySem L2
variable {G : Glb} {X : Cx} {W : WX}
/-! ### isinstance, exceptions too -/
/-- classes, exceptions too -/
def ClE (G : Glb) : TyD → Value → Prop
  | .x c, v => ∃ C, G.ce c = some C ∧ v = .ref C
  | t, v => ClD G t v
def tyE (S : Store) : D → Option TyD
  | .exn c _ _ => some (.x c)
  | d => tyO S d
/-- a class of exceptions: which of the raised ones are of it -/
def tabX (sub : Str → Bool) : TyD → Option Bool
  | .x c => some (sub c)
  | _ => some false
/-- what a class says of things, exceptions too -/
structure IsTE (G : Glb) (u : Value) (tab : TyD → Option Bool) : Prop where
  ok : ∀ t tv r, ClE G t tv → tab t = some r → PySem.W.kitOne G.K tv u = some r
/-- isinstance(e, (A, B, ..)) -/
inductive CNamesE (G : Glb) (X : Cx) : List Expr → List V → List Value → (TyD → Option Bool) → Prop where
  | nil : CNamesE G X [] [] [] tabF
  | cons {x : Str} {pos : Pos} {v : V} {u : Value} {tab tab2 : TyD → Option Bool} {es : List Expr} {vs : List V} {us : List Value} (cn : CName X x v u) (ist : IsTE G u tab) (r : CNamesE G X es vs us tab2)
      (hs : starEach (.Name x pos :: es) X.env = (false, eval (.Name x pos) X.env) :: starEach es X.env := by rfl) : CNamesE G X (.Name x pos :: es) (v :: vs) (u :: us) (tabOr tab tab2)
theorem CNamesE.pa {es : List Expr} {vs : List V} {us : List Value} {tab : TyD → Option Bool} (c : CNamesE G X es vs us tab) : ∃ t, PA X es t ∧ ∀ σ H Q, Q vs H → t σ H Q := by
  induction c with
  | nil => exact ⟨_, pa_nil, fun _ _ _ h => h⟩
  | cons cn ist r hs ih =>
    obtain ⟨t, h1, h2⟩ := ih
    exact ⟨_, pa_cons (cn.pe _) h1 hs, fun σ H Q h => h2 σ H _ h⟩
theorem CNamesE.vs {es : List Expr} {vs : List V} {us : List Value} {tab : TyD → Option Bool} (c : CNamesE G X es vs us tab) : Paired ClsV vs us := by
  induction c with
  | nil => exact .nil
  | cons cn ist r hs ih => exact .cons cn.cv ih
theorem CNamesE.len {es : List Expr} {vs : List V} {us : List Value} {tab : TyD → Option Bool} (c : CNamesE G X es vs us tab) : vs.length = es.length := by
  induction c with
  | nil => rfl
  | cons cn ist r hs ih => simp [ih]
theorem CNamesE.any {es : List Expr} {vs : List V} {us : List Value} {tab : TyD → Option Bool} (c : CNamesE G X es vs us tab) : ∀ {t : TyD} {tv : Value} {b : Bool}, ClE G t tv → tab t = some b → PySem.W.kitAny G.K tv us = some b := by
  induction c with
  | nil => intro t tv b _ h; cases h; rfl
  | @cons x pos v u tab tab2 es vs us cn ist r hs ih =>
    intro t tv b h1 h2
    unfold PySem.W.kitAny
    unfold tabOr at h2
    cases h3 : tab t with
    | none => rw [h3] at h2; cases h2
    | some b1 =>
      rw [h3] at h2
      rw [ist.ok t tv b1 h1 h3]
      cases b1 with
      | true => exact h2
      | false => exact ih h1 h2
def eIsE (tab : TyD → Option Bool) (f : EM) : EM := fun env S => (f env S).bind fun d S => match (tyE S d).bind tab with
  | some b => .ok (.bl b) S
  | none => .bad
/-! ### raise -/
def sRaise (c : Str) : SM := fun e S => .ex ⟨c, none⟩ e S
/-- what raising an own class with a text asks of it -/
structure ExcR (G : Glb) (mg : Str → Option Value) (c : Str) : Prop where
  ex : ∃ C, mg c = some (.ref C) ∧ G.ce c = some C ∧ PySem.W.excIn G.K C [.type "ValueError", .type "Exception", .type "BaseException", .type "object"] "ValueError.__new__" = true ∧ PySem.W.keepIn G.K (.ref C) = true ∧
    PySem.W.subIn G.K (.ref C) (.type "BaseException") = some true ∧ PySem.W.typeIn G.K (.ref C) = some (.type "type")
theorem ds_raise {c m : Str} {j : Nat} {p p2 pos pos' : Pos} (hK : X.K = G.K) (hc : X.calm = true) (tk : Takes X W) (xr : ExcR G X.mg c) (hg : Gl X c) (hdb : (c == ("__debug__" : Str)) = false := by decide) :
    DS G X W (.Raise (some (.Call (.Name c p) [.Constant (.str m) j p2] [] pos)) none pos') (sRaise c) := by
  obtain ⟨C, h1, h2, h3, h4, h5, h6⟩ := xr.ex
  rw [← hK] at h3 h4 h5 h6
  exact ⟨_, ps_raise hc tk (pmk_own PySem.F.excBase_ValueError h3 h1 h4 (raises_own h5 h6) hg hdb), fun σ H env φ S N s re h => h φ H σ (.ref C) none .refl s re ⟨C, h2, rfl, rfl⟩⟩

/-! ### try .. except C as e: the exception is data in its suite -/
def exnD (x : Exc) : D := match x.fld with
  | none => .exn x.cls [] []
  | some (f, d) => .exn x.cls [f] [d]
def SR.off (i : Nat) : SR → SR
  | .nx e S => .nx (e.set i none) S
  | .bk e S => .bk (e.set i none) S
  | .ct e S => .ct (e.set i none) S
  | .rt d S => .rt d S
  | _ => .bad
theorem RepE.drop {φ : Fi} {H : Hp} {σ : St} {env : EnvD} (i : Nat) (h : RepE G φ H σ env) : RepE G φ H (σ.set i none) (env.set i none) := by
  have q := h.wipe [i]
  exact q
def tOfS (G : Glb) (W : WX) (f : SM) : TS := fun N σ H => ∃ env φ S, SOk G φ S H ∧ RepE G φ H σ env ∧ PostS G W φ H (f env S) N
theorem DSs.can {b : List Stmt} {f : SM} (h : DSs G X W b f) : PSs X b (tOfS G W f) := by
  obtain ⟨t, p, q⟩ := h
  exact ⟨fun pins s σ H D I ⟨env, φ, S, so, r, z⟩ => p.run pins s σ H D I (q σ H env φ S D so r z)⟩
section
variable {S : Store} {env : EnvD}
@[simp] theorem eIsE_is {tab : TyD → Option Bool} {f : EM} : eIsE tab f env S = (f env S).bind fun d S => match (tyE S d).bind tab with
  | some b => .ok (.bl b) S
  | none => .bad := rfl
@[simp] theorem tyE_exn {c ks ds} : tyE S (.exn c ks ds) = some (.x c) := rfl
@[simp] theorem tyE_non : tyE S .non = some (.b .none) := rfl
@[simp] theorem tabX_b {a : Ty} {sub} : tabX sub (.b a) = some false := rfl
@[simp] theorem tabX_o {c sub} : tabX sub (.o c) = some false := rfl
@[simp] theorem tabX_x {c sub} : tabX sub (.x c) = some (sub c) := rfl
@[simp] theorem sRaise_is {c : Str} : sRaise c env S = .ex ⟨c, none⟩ env S := rfl
@[simp] theorem exnD_n {c : Str} : exnD ⟨c, none⟩ = .exn c [] [] := rfl
@[simp] theorem exnD_s {c f : Str} {d : D} : exnD ⟨c, some (f, d)⟩ = .exn c [f] [d] := rfl
@[simp] theorem off_nx {i : Nat} {e : EnvD} : SR.off i (.nx e S) = .nx (e.set i none) S := rfl
@[simp] theorem off_rt {i : Nat} {d : D} : SR.off i (.rt d S) = .rt d S := rfl
end
end DL
end
section

end
section
/-! sorted, of a list of texts. -/
namespace DL
open PySem L2
variable {G : Glb} {X : Cx} {W : WX}
def leS (a b : Str) : Bool := !ltK1 (.inr b) (.inr a)
def sortS (l : List Str) : List Str := l.mergeSort leS
theorem leS_tr (a b c : Str) (h1 : leS a b = true) (h2 : leS b c = true) : leS a c = true := by
  unfold leS at *
  simp only [Bool.not_eq_true'] at *
  exact lin_K1.swo.tr _ _ _ h1 h2
theorem leS_tot (a b : Str) : (leS a b || leS b a) = true := by
  unfold leS
  cases e : ltK1 (.inr b) (.inr a) with
  | false => rfl
  | true => rw [lin_K1.asym e]; rfl
theorem leS_anti {a b : Str} (h1 : leS a b = true) (h2 : leS b a = true) : a = b := by
  unfold leS at *
  simp only [Bool.not_eq_true'] at *
  exact Sum.inr.inj (lin_K1.tri _ _ h2 h1)
theorem sortS_perm (l : List Str) : (sortS l).Perm l := List.mergeSort_perm _ _
theorem sortS_pw (l : List Str) : (sortS l).Pairwise (fun a b => leS a b = true) := List.pairwise_mergeSort leS_tr leS_tot l
theorem ltCps_is : ∀ a b : List Nat, Spec.ltCps a b = decide (a < b)
  | [], [] => rfl
  | [], _ :: _ => rfl
  | _ :: _, [] => rfl
  | a :: r, b :: t => by
    unfold Spec.ltCps
    rw [ltCps_is r t]
    by_cases h : a < b
    · simp [h, List.cons_lt_cons_iff]
    · by_cases e : a = b
      · subst e; simp [List.cons_lt_cons_iff]
      · simp [h, e, List.cons_lt_cons_iff]
theorem risingS_pw : ∀ (l : List Str) (x : Str), PyProof.Rows.risingS x l = true → (x :: l).Pairwise (fun a b => leS a b = true)
  | [], x, _ => by simp
  | y :: l, x, h => by
    unfold PyProof.Rows.risingS at h
    rw [Bool.and_eq_true] at h
    have ih := risingS_pw l y h.2
    have h1 : leS x y = true := by
      have := h.1
      rw [ltCps_is] at this
      exact this
    refine List.pairwise_cons.mpr ⟨fun z hz => ?_, ih⟩
    rcases List.mem_cons.mp hz with rfl | hz
    · exact h1
    · exact leS_tr x y z h1 ((List.pairwise_cons.mp ih).1 z hz)
theorem sortedS_pw {l : List Str} (h : PyProof.Rows.sortedS l = true) : l.Pairwise (fun a b => leS a b = true) := by
  cases l with
  | nil => exact .nil
  | cons x l => exact risingS_pw l x h
/-- sorted, of a list of texts alone -/
def bSortedS (ds : List D) (S : Store) : ER := match ds with
  | [d] => match (listD S d).bind strsD with
    | some ns => if ns.length < 64 then .ok (.lst ((sortS ns).map .str)) S else .bad
    | none => .bad
  | _ => .bad
theorem dc_sortedS (hK : X.K = G.K) : DCall G X (.builtin "sorted") bSortedS := by
  refine ⟨_, cr_sortedS, fun W φ S H σ ds xs Q s i h => ?_⟩
  unfold bSortedS at h
  split at h
  · obtain ⟨x, rfl, k⟩ := IsL.inv1 i
    split at h
    · rename_i ns e
      obtain ⟨es, e1, e2⟩ := Option.bind_eq_some_iff.mp e
      obtain ⟨a, ys, rfl, r, q⟩ := listD_sq s k e1
      rw [strsD_is e2] at q
      split at h
      · rename_i hl
        refine ⟨a, ns, rfl, ?_, hl, fun ys' p h1 h2 hp => ?_⟩
        · rw [hK, ← q.strs]; exact r
        · have e' : ys' = sortS ns := List.Perm.eq_of_pairwise (fun a b _ _ h h' => leS_anti h h') (sortedS_pw h2) (sortS_pw ns) (h1.trans (sortS_perm ns).symm)
          subst e'
          have il : ∀ (φ : Fi) (H : Hp) (l : List Str), IsL G φ H (l.map .str) (l.map .str) := fun φ H l => by
            induction l with
            | nil => rfl
            | cons a l ih => exact ⟨_, _, rfl, rfl, ih⟩
          exact lst_new s (il _ _ _) h hp
      · exact bad_no h
    · exact bad_no h
  · exact bad_no h
@[simp] theorem bSortedS_l {ns : List Str} {S : Store} : bSortedS [.lst (ns.map .str)] S = if ns.length < 64 then .ok (.lst ((sortS ns).map .str)) S else .bad := by
  unfold bSortedS
  dsimp only
  rw [show listD S (.lst (ns.map .str)) = some (ns.map .str) from rfl, Option.bind_some, strsD_map]
end DL
end
section
/-! xs.count(y), of nested data. -/
namespace L2
open PySem PySem.Spec PyProof.Rows
end L2
namespace DL
open PySem L2
variable {G : Glb} {X : Cx} {W : WX}
end DL
end
section
namespace DL
open PySem L2
variable {G : Glb} {X : Cx} {W : WX}
/-- list + list, kept as a cell -/
noncomputable def opAddM (x y : D) (S : Store) : ER := match listD S x, listD S y with
  | some a, some b => if sz (a.length + b.length) then .ok (.loc S.length) (S ++ [.lst (a ++ b)]) else .bad
  | _, _ => .bad
@[simp] theorem opAddM_ll {a b : List D} {S : Store} : opAddM (.lst a) (.lst b) S = if sz (a.length + b.length) then .ok (.loc S.length) (S ++ [.lst (a ++ b)]) else .bad := rfl
end DL
end
section
namespace L2
open PySem PySem.Spec PyProof.Rows
end L2
namespace DL
open PySem L2
variable {G : Glb} {X : Cx} {W : WX}
/-- xs.extend(ys): ys any list -/
noncomputable def mExtendX (o : D) (ds : List D) (S : Store) : ER := cellL S o fun l xs => match ds with
  | [d] => match listD S d with
    | some ys => if sz (xs.length + ys.length) then .ok .non (S.set l (.lst (xs ++ ys))) else .bad
    | _ => .bad
  | _ => .bad
@[simp] theorem mExtendX_l {l : Nat} {ys : List D} {S : Store} : mExtendX (.loc l) [.lst ys] S = match cel S l with | some (.lst xs) => if sz (xs.length + ys.length) then .ok .non (S.set l (.lst (xs ++ ys))) else .bad | _ => .bad := by
  unfold mExtendX
  rw [cellL_c]
  rfl
end DL
end
section
/-! range(i, j, -1) -/
namespace DL
open PySem L2
variable {G : Glb} {X : Cx} {W : WX}
def downD (lo : Int) (n : Nat) : List D := (List.range n).map fun k => .int (lo + (k : Nat) * -1)
noncomputable def iRangeDn (f : LM) : LM := fun env S => (f env S).bind fun ds S => match ds with
  | [.int i, .int j, .int c] => if rOk i ∧ rOk j ∧ c = -1 then .ok (downD i (i - j).toNat) S else .bad
  | _ => .bad
@[simp] theorem iRangeDn_is {f : LM} : iRangeDn f env S = (f env S).bind fun ds S => match ds with
  | [.int i, .int j, .int c] => if rOk i ∧ rOk j ∧ c = -1 then .ok (downD i (i - j).toNat) S else .bad
  | _ => .bad := rfl
end DL
end
section
/-! isinstance(e, ValueError); e.f of an exception that is data; raise C(x), where C's own __init__ keeps x. -/
namespace L2
open PySem PySem.Spec PyProof.Rows
/-- an __init__ that keeps its one argument -/
def spI (C : Addr) (f : Str) : Sp := fun vs H Q E => ∃ a y, vs = [.ref a, y] ∧ H a = some (exo a C none) ∧ ∀ dx, H dx = none → dx ≠ a → Q .non (upd (upd H dx (exd dx [(f, y)])) a (exo a C (some dx)))
end L2
namespace DL
open PySem L2
variable {G : Glb} {X : Cx} {W : WX}
/-! ### isinstance(e, ValueError) -/
/-! ### e.f -/
def xFld (d : D) (f : Str) : Option D := match d with
  | .exn _ [g] [x] => if g = f then some x else none
  | _ => none
def eXFld (f : Str) (g : EM) : EM := fun env S => (g env S).bind fun d S => match xFld d f with
  | some x => .ok x S
  | none => .bad
@[simp] theorem eXFld_is {f : Str} {g : EM} {env : EnvD} {S : Store} : eXFld f g env S = (g env S).bind fun d S => match xFld d f with
  | some x => .ok x S
  | none => .bad := rfl
/-! ### raise C(x), where C's own __init__ keeps x -/
structure ExcF (G : Glb) (P : Program) (w : World) (mg : Str → Option Value) (base : Heap) (k : Nat) (c f : Str) : Prop where
  ex : ∃ C fI fd ps, mg c = some (.ref C) ∧ G.ce c = some C ∧ OexC G.K C ∧ PySem.W.findIn G.K (.ref C) "__init__" = some (some (.ref fI)) ∧ PySem.W.typeIn G.K (.ref fI) = some (.type "function") ∧ FnOk P w G.K mg base (L2.CX P w) k fI fd ps (spI C f) ∧ Binds G.K fd ps []
def sRaiseF (c f : Str) (g : EM) : SM := fun e S => (g e S).bindS e fun d S => .ex ⟨c, some (f, d)⟩ e S
@[simp] theorem sRaiseF_is {c f : Str} {g : EM} {e : EnvD} {S : Store} : sRaiseF c f g e S = (g e S).bindS e fun d S => .ex ⟨c, some (f, d)⟩ e S := rfl
end DL
end
section
namespace DL
open PySem L2
noncomputable section
def g_is_whole : SM :=
(sRet (eAnd (eIsC (tabB .int) (eVar 0)) (eNot (eIsC (tabB .bool) (eVar 0)))))
def d_is_whole : FD := fnF .pure 1 g_is_whole
def g_is_between : SM :=
(sRet (eAnd (eCall d_is_whole (lCons (eVar 0) lNil)) (eChain opLe opLe (eVar 1) (eVar 0) (eVar 2))))
def d_is_between : FD := fnF .pure 3 g_is_between
def g_is_one_of : SM :=
(sRet (eAnd (eIsC (tabB .str) (eVar 0)) (eOp opIn (eVar 0) (eVar 1))))
def d_is_one_of : FD := fnF .pure 2 g_is_one_of
def g_boxes_k1 : EM :=
(eFldC ["Place", "Race"] "name" (eVar 6))
def g_boxes_e1 : EM :=
(eFldC ["Place"] "district" (eVar 6))
def g_boxes_b1 : SM :=
(sIf (eOp opEq (eOp opIxX (eVar 2) (eOp opIxX (eVar 5) (eC (.int 0)))) (eC (.str "counts")))
(sDrop (eMeth "list" mAppend eNev (lCons (eOp opIxX (eVar 5) (eC (.int 0))) lNil)))
sSkip)
def g_boxes_e2 : EM :=
(eCallB bSortedX (lCons (eOp opIxX (eVar 4) (eVar 7)) lNil))
def g_boxes : SM :=
(sSeq (sAsg (eDc (iSeq (eVar 0)) (bName 6) eYes g_boxes_k1 g_boxes_e1 [6]) (bName 3))
(sSeq (sAsg eDic0 (bName 4))
(sSeq (sFor (iSeq (eVar 1)) (bName 5) g_boxes_b1)
(sRet (eDc (iSeq (eCallB bSortedX (lCons (eVar 4) lNil))) (bName 7) eYes (eVar 7) g_boxes_e2 [7])))))
def d_boxes : FD := fnF .pure 8 g_boxes
def g_is_name_e1 : EM :=
(eOp opIn (eVar 1) (eC (.str "abcdefghijklmnopqrstuvwxyz")))
def g_is_name : SM :=
(sSeq (sIf (eOr (eNot (eIsC (tabB .str) (eVar 0))) (eNot (eChain opLe opLe (eC (.int 1)) (eCallB bLenX (lCons (eVar 0) lNil)) (eC (.int 8)))))
(sRet (eC (.bl false)))
sSkip)
(sRet (eCallB bAll (lCons (eLc (iSeq (eVar 0)) (bName 1) eYes g_is_name_e1 [1]) lNil))))
def d_is_name : FD := fnF .pure 2 g_is_name
def g_Place_init : SM :=
(sSeq (sIf (eOr (eNot (eCall d_is_name (lCons (eVar 1) lNil))) (eOr (eNot (eCall d_is_name (lCons (eVar 2) lNil))) (eNot (eCall d_is_between (lCons (eVar 4) (lCons (eC (.int 0)) (lCons (eC (.int 9999)) lNil)))))))
(sRaise "NoPlace")
sSkip)
(sSeq (sIf (eNot (eCall d_is_between (lCons (eVar 3) (lCons (eC (.int 0)) (lCons (eVar 4) lNil)))))
(sRaise "NoPlace")
sSkip)
(sSeq (sFldC ["Place", "Race"] "name" (eVar 0) (eVar 1))
(sSeq (sFldC ["Place"] "district" (eVar 0) (eVar 2))
(sSeq (sFldC ["Place"] "first" (eVar 0) (eVar 3))
(sSeq (sFldC ["Place"] "last" (eVar 0) (eVar 4))
(sSeq (sFldC ["Place"] "sent" (eVar 0) (eLstM lNil))
(sSeq (sFldC ["Place"] "is_over" (eVar 0) (eC (.bl false)))
(sFldC ["Place"] "ended" (eVar 0) (eC .non))))))))))
def d_Place_init : FD := fnF .pure 5 g_Place_init
def g_are_unlike_names_e1 : EM :=
(eCall d_is_name (lCons (eVar 3) lNil))
def g_are_unlike_names : SM :=
(sSeq (sIf (eOr (eNot (eIsC (tabB .tuple) (eVar 0))) (eOr (eNot (eChain opLe opLe (eVar 1) (eCallB bLenX (lCons (eVar 0) lNil)) (eVar 2))) (eNot (eCallB bAll (lCons (eLc (iSeq (eVar 0)) (bName 3) eYes g_are_unlike_names_e1 [3]) lNil)))))
(sRet (eC (.bl false)))
sSkip)
(sRet (eOp opEq (eLenSet (eVar 0)) (eCallB bLenX (lCons (eVar 0) lNil)))))
def d_are_unlike_names : FD := fnF .pure 4 g_are_unlike_names
def g_Race_init : SM :=
(sSeq (sIf (eOr (eNot (eCall d_are_unlike_names (lCons (eTup (lCons (eVar 1) lNil)) (lCons (eC (.int 1)) (lCons (eC (.int 1)) lNil))))) (eNot (eCall d_is_one_of (lCons (eVar 2) (lCons (eC (.tup [.str "one", .str "any", .str "rank"])) lNil)))))
(sRaise "NoRace")
sSkip)
(sSeq (sIf (eOr (eNot (eCall d_are_unlike_names (lCons (eVar 3) (lCons (eC (.int 2)) (lCons (eC (.int 5)) lNil))))) (eNot (eCall d_are_unlike_names (lCons (eVar 4) (lCons (eC (.int 1)) (lCons (eC (.int 6)) lNil))))))
(sRaise "NoRace")
sSkip)
(sSeq (sIf (eOr (eNot (eCall d_is_between (lCons (eVar 5) (lCons (eC (.int 1)) (lCons (eCallB bLenX (lCons (eVar 3) lNil)) lNil))))) (eNot eNev))
(sRaise "NoRace")
sSkip)
(sSeq (sFldC ["Place", "Race"] "name" (eVar 0) (eVar 1))
(sSeq (sFldC ["Race"] "kind" (eVar 0) (eVar 2))
(sSeq (sFldC ["Race"] "choices" (eVar 0) (eVar 3))
(sSeq (sFldC ["Race"] "districts" (eVar 0) (eVar 4))
(sSeq (sFldC ["Race"] "seats" (eVar 0) (eVar 5))
(sFldC ["Race"] "by" (eVar 0) (eVar 6))))))))))
def d_Race_init : FD := fnF .pure 7 g_Race_init
def g__law_whole : SM :=
(sRet (eAnd (eIsC (tabB .int) (eVar 0)) (eNot (eIsC (tabB .bool) (eVar 0)))))
def d__law_whole : FD := fnF .pure 1 g__law_whole
def g__law_alike_t1 (r__law_alike : FD) : EM :=
(eNot (eCall r__law_alike (lCons (eOp opIxX (eVar 0) (eVar 2)) (lCons (eOp opIxX (eVar 1) (eVar 2)) lNil))))
def g__law_alike (r__law_alike : FD) : SM :=
(sSeq (sIf (eIsC (tabOr (tabB .list) (tabOr (tabB .tuple) tabF)) (eVar 1))
(sSeq (sIf (eOr (eOp opNe (eIsC (tabB .list) (eVar 0)) (eIsC (tabB .list) (eVar 1))) (eOp opNe (eIsC (tabB .tuple) (eVar 0)) (eIsC (tabB .tuple) (eVar 1))))
(sRet (eC (.bl false)))
sSkip)
(sSeq (sIf (eOp opNe (eCallB bLenX (lCons (eVar 0) lNil)) (eCallB bLenX (lCons (eVar 1) lNil)))
(sRet (eC (.bl false)))
sSkip)
(sRet (eOp opEq (eLc (iRange1 (lCons (eCallB bLenX (lCons (eVar 1) lNil)) lNil)) (bName 2) (g__law_alike_t1 r__law_alike) (eVar 2) [2]) (eLst lNil)))))
sSkip)
(sSeq (sIf (eIsC (tabB .dict) (eVar 1))
(sRet (eAnd (eIsC (tabB .dict) (eVar 0)) (eCall r__law_alike (lCons (eListItems (eVar 0)) (lCons (eListItems (eVar 1)) lNil)))))
sSkip)
(sSeq (sIf (eOp opIsN (eVar 1) (eC .non))
(sRet (eOp opIsN (eVar 0) (eC .non)))
sSkip)
(sSeq (sIf (eIsC (tabB .bool) (eVar 1))
(sRet (eAnd (eIsC (tabB .bool) (eVar 0)) (eOp opEq (eVar 0) (eVar 1))))
sSkip)
(sSeq (sIf (eIsC (tabB .int) (eVar 1))
(sRet (eAnd (eCall d__law_whole (lCons (eVar 0) lNil)) (eOp opEq (eVar 0) (eVar 1))))
sSkip)
(sRet (eAnd (eIsC (tabB .str) (eVar 0)) (eOp opEq (eVar 0) (eVar 1)))))))))
def d__law_alike_n : Nat → FD
  | 0 => fnF .pure 3 sNev
  | n + 1 => fnF .pure 3 (g__law_alike (d__law_alike_n n))
def d__law_alike : FD := d__law_alike_n 12
def g__law_next : SM :=
(sSeq (sIf (eOp opGt (eOp opIxX (eVar 0) (eC (.int 0))) (eC (.int 0)))
(sSeq (sAsg (eOp opMod (eOp opIxX (eVar 0) (eC (.int 0))) (eVar 1)) (bName 2))
(sSeq (sPutX (eVar 0) (eC (.int 0)) (eOp opFdiv (eOp opIxX (eVar 0) (eC (.int 0))) (eVar 1)))
(sRet (eVar 2))))
sSkip)
(sSeq (sPutX (eVar 0) (eC (.int 2)) (eOp opAdd (eOp opIxX (eVar 0) (eC (.int 2))) (eC (.int 1))))
(sSeq (sAsg (eOp opMod (eOp opPow (eOp opAdd (eOp opAdd (eOp opMul (eOp opIxX (eVar 0) (eC (.int 1))) (eOp opAdd (eOp opMul (eC (.int 2)) (eOp opIxX (eVar 0) (eC (.int 2)))) (eC (.int 1)))) (eOp opMul (eOp opMul (eC (.int 7919)) (eOp opIxX (eVar 0) (eC (.int 2)))) (eOp opIxX (eVar 0) (eC (.int 2))))) (eC (.int 11))) (eC (.int 5))) (eC (.int 2147483647))) (bName 3))
(sRet (eOp opMod (eOp opFdiv (eVar 3) (eC (.int 11))) (eVar 1))))))
def d__law_next : FD := fnF .keep 4 g__law_next
def g__law_pick : SM :=
(sRet (eOp opIxX (eVar 1) (eCall d__law_next (lCons (eVar 0) (lCons (eCallB bLenX (lCons (eVar 1) lNil)) lNil)))))
def d__law_pick : FD := fnF .keep 2 g__law_pick
def g__law_stirred_e1 : EM :=
(eMeth "list" mPopAt (eVar 2) (lCons (eCall d__law_next (lCons (eVar 0) (lCons (eCallB bLenX (lCons (eVar 2) lNil)) lNil))) lNil))
def g__law_stirred : SM :=
(sSeq (sAsg (eCallB bListXM (lCons (eVar 1) lNil)) (bName 2))
(sRet (eLc (iRange1 (lCons (eCallB bLenX (lCons (eVar 2) lNil)) lNil)) (bName 3) eYes g__law_stirred_e1 [3])))
def d__law_stirred : FD := fnF .pure 4 g__law_stirred
def g__law_begun : SM :=
(sSeq (sAsg (eOp opAdd (eC (.int 1)) (eOp opMod (eOp opPow (eOp opAdd (eOp opAdd (eOp opMul (eOp opMod (eVar 0) (eC (.int 2147483647))) (eC (.int 48271))) (eOp opMul (eC (.int 104729)) (eVar 1))) (eC (.int 7))) (eC (.int 3))) (eC (.int 2147483629)))) (bName 2))
(sSeq (sIf (eOp opGe (eVar 0) (eOp opPow (eC (.int 10)) (eC (.int 18))))
(sRet (eLstM (lCons (eOp opSub (eVar 0) (eOp opPow (eC (.int 10)) (eC (.int 18)))) (lCons (eVar 2) (lCons (eC (.int 0)) lNil)))))
sSkip)
(sRet (eLstM (lCons (eC (.int 0)) (lCons (eVar 2) (lCons (eC (.int 0)) lNil)))))))
def d__law_begun : FD := fnF .keep 3 g__law_begun
def g__law_grounds_b1 : SM :=
(sSeq (sAsg (eOp opAdd (eVar 3) (eCall d__law_next (lCons (eVar 0) (lCons (eC (.int 3)) lNil)))) (bName 3))
(sSeq (sAsg (eOp opAdd (eVar 3) (eCall d__law_pick (lCons (eVar 0) (lCons (eLst (lCons (eC (.int 0)) (lCons (eC (.int 2)) (lCons (eC (.int 5)) (lCons (eC (.int 9)) lNil))))) lNil)))) (bName 5))
(sSeq (sDrop (eMeth "list" mAppend (eVar 2) (lCons (eTup (lCons (eOp opIxX (eVar 1) (eVar 4)) (lCons (eOp opIxX (eVar 1) (eOp opAdd (eC (.int 4)) (eCall d__law_next (lCons (eVar 0) (lCons (eC (.int 3)) lNil))))) (lCons (eVar 3) (lCons (eVar 5) lNil))))) lNil)))
(sAsg (eOp opAdd (eVar 5) (eC (.int 1))) (bName 3)))))
def g__law_grounds : SM :=
(sSeq (sPar 2 3 (lCons (eLstM lNil) (lCons (eCall d__law_pick (lCons (eVar 0) (lCons (eLst (lCons (eC (.int 0)) (lCons (eC (.int 0)) (lCons (eC (.int 17)) (lCons (eC (.int 9900)) (lCons (eC (.int 9950)) lNil)))))) lNil))) lNil)))
(sSeq (sFor (iRange1 (lCons (eOp opAdd (eC (.int 1)) (eCall d__law_next (lCons (eVar 0) (lCons (eC (.int 4)) lNil)))) lNil)) (bName 4) g__law_grounds_b1)
(sRet (eCall d__law_stirred (lCons (eVar 0) (lCons (eVar 2) lNil))))))
def d__law_grounds : FD := fnF .pure 6 g__law_grounds
def g__law_made_e1 : EM :=
(eMake "Place" d_Place_init (lCons (eVar 1) (lCons (eVar 2) (lCons (eVar 3) (lCons (eVar 4) lNil)))))
def g__law_made : SM :=
(sRet (eLc (iSeq (eVar 0)) (bTup (bCons (bName 1) (bCons (bName 2) (bCons (bName 3) (bCons (bName 4) bNil))))) eYes g__law_made_e1 [1, 2, 3, 4]))
def d__law_made : FD := fnF .pure 5 g__law_made
def g__law_names_e1 : EM :=
(eOp opAdd (eOp opIxX (eVar 2) (eOp opMod (eOp opAdd (eVar 3) (eOp opMul (eC (.int 5)) (eVar 5))) (eC (.int 26)))) (eOp opIxX (eVar 4) (eOp opMod (eOp opAdd (eVar 3) (eOp opMul (eVar 5) (eVar 5))) (eC (.int 6)))))
def g__law_names : SM :=
(sSeq (sAsg (eLst (lCons (eC (.str "place")) (lCons (eC (.str "letter")) (lCons (eC (.str "doubt")) (lCons (eC (.str "use")) (lCons (eC (.str "close")) (lCons (eC (.str "admit")) (lCons (eC (.str "refuse")) (lCons (eC (.str "counts")) (lCons (eC (.str "doubled")) (lCons (eC (.str "out")) (lCons (eC (.str "enter")) (lCons (eC (.str "move")) lNil))))))))))))) (bName 1))
(sSeq (sAsg (eOp opAdd (eVar 1) (eLst (lCons (eC (.str "strike")) (lCons (eC (.str "restore")) (lCons (eC (.str "one")) (lCons (eC (.str "any")) (lCons (eC (.str "rank")) (lCons (eC (.str "vote")) (lCons (eC (.str "roll")) (lCons (eC (.str "uses")) (lCons (eC (.str "settled")) (lCons (eC (.str "mixed")) (lCons (eC (.str "late")) (lCons (eC (.str "blank")) lNil)))))))))))))) (bName 1))
(sSeq (sAsg (eOp opAdd (eVar 1) (eLst (lCons (eC (.str "spoilt")) (lCons (eC (.str "stands")) lNil)))) (bName 1))
(sSeq (sAsg (eTup (lCons (eC (.str "abcdefghijklmnopqrstuvwxyz")) (lCons (eCall d__law_next (lCons (eVar 0) (lCons (eC (.int 26)) lNil))) lNil))) (bTup (bCons (bName 2) (bCons (bName 3) bNil))))
(sSeq (sIf (eOp opEq (eCall d__law_next (lCons (eVar 0) (lCons (eC (.int 4)) lNil))) (eC (.int 0)))
(sRet (eOp opAdd (eSlice (eVar 1) (oSome (eVar 3)) oNone) (eSlice (eVar 1) oNone (oSome (eVar 3)))))
sSkip)
(sSeq (sAsg (eLst (lCons (eC (.str "x")) (lCons (eC (.str "")) (lCons (eC (.str "qx")) (lCons (eC (.str "xxxqx")) (lCons (eC (.str "zq")) (lCons (eC (.str "qqqqqqq")) lNil))))))) (bName 4))
(sRet (eLc (iRange1 (lCons (eC (.int 26)) lNil)) (bName 5) eYes g__law_names_e1 [5]))))))))
def d__law_names : FD := fnF .keep 6 g__law_names
def g__law_token : SM :=
(sRet (eCall d__law_pick (lCons (eVar 0) (lCons (eLst (lCons (eC (.int 1)) (lCons (eOp opPow (eC (.int 10)) (eC (.int 9))) (lCons (eOp opAdd (eC (.int 1)) (eCall d__law_next (lCons (eVar 0) (lCons (eC (.int 50)) lNil)))) (lCons (eOp opAdd (eC (.int 1)) (eCall d__law_next (lCons (eVar 0) (lCons (eOp opPow (eC (.int 10)) (eC (.int 9))) lNil)))) lNil))))) lNil))))
def d__law_token : FD := fnF .keep 1 g__law_token
def g__law_some_uses_b1 : SM :=
(sIf (eOp opGt (eCall d__law_next (lCons (eVar 0) (lCons (eC (.int 3)) lNil))) (eC (.int 0)))
(sSeq (sAsg (eCall d__law_pick (lCons (eVar 0) (lCons (eLst (lCons (eC (.str "place")) (lCons (eC (.str "letter")) (lCons (eC (.str "doubt")) (lCons (eC (.str "letter")) lNil))))) lNil))) (bName 9))
(sSeq (sAsg (eCall d__law_pick (lCons (eVar 0) (lCons (eLst (lCons (eC (.int 0)) (lCons (eC (.int 1)) (lCons (eC (.int 2)) (lCons (eC (.int 3)) (lCons (eC (.int 2)) (lCons (eC (.int 9)) (lCons (eC (.int 10)) (lCons (eC (.int 100)) lNil))))))))) lNil))) (bName 10))
(sSeq (sAsg (eTup (lCons (eVar 8) (lCons (eOp opIxX (eVar 2) (eOp opAdd (eC (.int 8)) (eCall d__law_next (lCons (eVar 0) (lCons (eC (.int 6)) lNil))))) (lCons (eVar 9) (lCons (eVar 4) (lCons (eVar 10) (lCons (eCall d__law_token (lCons (eVar 0) lNil)) lNil))))))) (bName 11))
(sDrop (eMeth "list" mAppend (eVar 3) (lCons (eVar 11) lNil))))))
sSkip)
def g__law_some_uses_b2 : SM :=
(sFor (iRange2 (lCons (eVar 6) (lCons (eOp opAdd (eVar 7) (eC (.int 1))) lNil))) (bName 8) g__law_some_uses_b1)
def g__law_some_uses : SM :=
(sSeq (sAsg (eLstM lNil) (bName 3))
(sSeq (sFor (iSeq (eVar 1)) (bTup (bCons (bName 4) (bCons (bName 5) (bCons (bName 6) (bCons (bName 7) bNil))))) g__law_some_uses_b2)
(sRet (eCall d__law_stirred (lCons (eVar 0) (lCons (eVar 3) lNil))))))
def d__law_some_uses : FD := fnF .pure 12 g__law_some_uses
def g_is_way : SM :=
(sSeq (sIf (eOp opNe (eVar 0) (eC (.str "rank")))
(sRet (eAnd (eIsC (tabB .str) (eVar 1)) (eOp opEq (eVar 1) (eC (.str "")))))
sSkip)
(sRet (eAnd (eCall d_is_one_of (lCons (eVar 1) (lCons (eC (.tup [.str "runoff", .str "pairs", .str "share"])) lNil))) (eOr (eOp opEq (eVar 1) (eC (.str "share"))) (eOp opEq (eVar 2) (eC (.int 1)))))))
def d_is_way : FD := fnF .pure 3 g_is_way
end
end DL
end
section
/-! list(zip(a, b)), lists and tuples in any mixture: each pair that was drawn stays in the list. -/
namespace PySem
end PySem
namespace DL
open PySem PySem.Spec PyProof.Rows L2
section
variable {prog : Program} {w : World} {A : Around} {E : Value → Shared → Prop} {s : Shared} {z TI TO i1 i2 : Addr} {fp1 fp2 : List Addr} {n1 n2 i : Nat} {P1 P2 : Nat → Value → Prop} {St1 St2 : Nat → Heap → Prop} {T : Addr} {f : Bool} {oT : Obj}
end
section
variable {prog : Program} {w : World} {A : Around} {E : Value → Shared → Prop} {s : Shared} {z TI TO i1 i2 L : Addr} {fp1 fp2 : List Addr} {n1 n2 : Nat} {P1 P2 : Nat → Value → Prop} {St1 St2 : Nat → Heap → Prop}
/-- a zip that drew i times -/
structure ZAt (z TI TO i1 i2 L : Addr) (St1 St2 : Nat → Heap → Prop) (i : Nat) (h : Heap) : Prop where
  ti : IsTupOf2 h TI (.ref i1) (.ref i2)
  a : St1 i h
  b : St2 i h
  at_ : (IsZip h z TI TO .none ∧ ∃ x y, IsTupOf2 h TO x y) ∨ ∃ T f oT, IsZipHeld h z TI TO T f ∧ h.get? T = some oT ∧ L < T
/-- where it lies -/
structure ZLow (z TI TO i1 i2 L : Addr) (fp1 fp2 : List Addr) : Prop where
  z : z < L
  ti : TI < L
  to : TO < L
  f1 : ∀ b ∈ fp1, b < L
  f2 : ∀ b ∈ fp2, b < L
/-- the pairs as they lie -/
structure Prs (P1 P2 : Nat → Value → Prop) (L : Addr) (h : Heap) (as : List Addr) : Prop where
  rise : as.Pairwise (· < ·)
  above : ∀ a ∈ as, L < a
  at_ : ∀ j b, as[j]? = some b → ∃ x1 x2, P1 j x1 ∧ P2 j x2 ∧ IsTupOf2 h b x1 x2
theorem Prs.there {h : Heap} {as : List Addr} (p : Prs P1 P2 L h as) {a : Addr} (ha : a ∈ as) : a < h.objs.size := by
  obtain ⟨j, hj⟩ := List.getElem?_of_mem ha
  obtain ⟨_, _, _, _, e⟩ := p.at_ j a hj
  exact Heap.lt_size e
theorem ZAt.keep {i : Nat} {h h' : Heap} (D1 : ∀ i h h', St1 i h → (∀ b ∈ fp1, ∀ o, h.get? b = some o → h'.get? b = some o) → St1 i h') (D2 : ∀ i h h', St2 i h → (∀ b ∈ fp2, ∀ o, h.get? b = some o → h'.get? b = some o) → St2 i h') (lo : ZLow z TI TO i1 i2 L fp1 fp2)
    (q : ZAt z TI TO i1 i2 L St1 St2 i h) (k : ∀ b o, b ≠ L → h.get? b = some o → h'.get? b = some o) : ZAt z TI TO i1 i2 L St1 St2 i h' := by
  refine ⟨k _ _ (Nat.ne_of_lt lo.ti) q.ti, D1 _ _ _ q.a fun b hb o => k b o (Nat.ne_of_lt (lo.f1 b hb)), D2 _ _ _ q.b fun b hb o => k b o (Nat.ne_of_lt (lo.f2 b hb)), ?_⟩
  rcases q.at_ with ⟨e1, x, y, e2⟩ | ⟨T, f, oT, e1, e2, e3⟩
  · exact .inl ⟨k _ _ (Nat.ne_of_lt lo.z) e1, x, y, k _ _ (Nat.ne_of_lt lo.to) e2⟩
  · exact .inr ⟨T, f, oT, k _ _ (Nat.ne_of_lt lo.z) e1, k _ _ (Nat.ne_of_gt e3) e2, e3⟩
end
theorem HasG.kept {t : Bool} {h h' : Heap} {a : Addr} {its : Array Value} (p : HasG t h a its) (k : ∀ b o, h.get? b = some o → h'.get? b = some o) : HasG t h' a its := by
  cases t with
  | false => obtain ⟨o, e, r⟩ := p; exact ⟨o, k a o e, r⟩
  | true => obtain ⟨o, e, r⟩ := p; exact ⟨o, k a o e, r⟩
/-! ### what is tracked -/
section
variable {X : Cx} {pins : List (Addr × Obj)} {σ : L2.St} {H : Hp} {s : Shared}
end
variable {G : Glb} {X : Cx} {W : WX}
end DL
end
section
/-! a tuple == () -/
namespace PySem.SeqAt
open AutoSeq1 (wpAny_loadPart')
section
variable {prog : Program} {w : World}
end
end PySem.SeqAt
namespace L2
open PySem PySem.Spec PyProof.Rows
end L2
namespace DL
open PySem L2
variable {G : Glb} {X : Cx} {W : WX}
/-- a tuple of anything == () -/
def opEq0 (x y : D) (S : Store) : ER := match x, y with
  | .tup ds, .tup [] => .ok (.bl (decide (ds.length = 0))) S
  | _, _ => .bad
def opNe0 (x y : D) (S : Store) : ER := match x, y with
  | .tup ds, .tup [] => .ok (.bl (!decide (ds.length = 0))) S
  | _, _ => .bad
@[simp] theorem opEq0_is {ds : List D} {S : Store} : opEq0 (.tup ds) (.tup []) S = .ok (.bl (decide (ds.length = 0))) S := rfl
@[simp] theorem opNe0_is {ds : List D} {S : Store} : opNe0 (.tup ds) (.tup []) S = .ok (.bl (!decide (ds.length = 0))) S := rfl
end DL
end
section
/-! repr of texts, None, tuples, dicts. -/
namespace L2
open PySem PySem.Spec PyProof.Rows
section
variable {X : Cx}
end
end L2
namespace DL
open PySem L2
variable {G : Glb} {X : Cx} {W : WX}
end DL
end
section
/-! == of dicts of whole numbers that hold the same, keys in any order. -/
namespace L2
open PySem PySem.Spec PyProof.Rows
section
variable {X : Cx} {pins : List (Addr × Obj)} {σ : St} {H : Hp} {s : Shared}
end
end L2
namespace DL
open PySem L2
variable {G : Glb} {X : Cx} {W : WX}
end DL
end
section
/-! == of two tuples that hold the same, dicts of whole numbers among them, keys in any order. -/
namespace PySem.SeqAt
open AutoSeq1 (wpAny_loadPart')
section
variable {prog : Program} {w : World}
end
end PySem.SeqAt
namespace L2
open PySem PySem.Spec PyProof.Rows
section
variable {X : Cx} {pins : List (Addr × Obj)} {σ : St} {H : Hp} {s : Shared}
end
end L2
namespace DL
open PySem L2
variable {G : Glb} {X : Cx} {W : WX}
end DL
end
section
/-! sorted of a dict of texts; methods called with keywords. -/
namespace L2
open PySem PySem.Spec PyProof.Rows
section
variable {X : Cx} {CX : CXT} {k n : Nat} {m : Str} {ks : List Str} {E : St → XK} {pos apos : Pos} {e o : Expr} {es : List Expr} {kws : List Keyword} {ta : TE} {t tk : TA} {Ok : Addr → Addr → Sp → Prop} {g : List Value → List Value → List Value} {gV : List V → List V → List V}
end
end L2
namespace DL
open PySem L2
variable {G : Glb} {X : Cx} {W : WX}
def txtKeys : List (Key × D) → Option (List Str)
  | [] => some []
  | (.inr x, _) :: r => (txtKeys r).map (x :: ·)
  | (.inl _, _) :: _ => none
theorem txtKeys_is : ∀ {kds : List (Key × D)} {ns : List Str}, txtKeys kds = some ns → kds.map (·.1) = ns.map Sum.inr
  | [], ns, h => by cases h; rfl
  | (.inr x, d) :: r, ns, h => by
    obtain ⟨m, h1, h2⟩ := Option.map_eq_some_iff.mp (show (txtKeys r).map (x :: ·) = some ns from h)
    subst h2
    simp [txtKeys_is h1]
  | (.inl _, _) :: _, _, h => by cases h
/-- sorted: texts, a dict whose keys are texts -/
def bSortedD (ds : List D) (S : Store) : ER := match ds with
  | [d] => match dicD S d with
    | some kds => match txtKeys kds with
      | some ns => if ns.length < 64 then .ok (.lst ((sortS ns).map .str)) S else .bad
      | none => .bad
    | none => bSortedS [d] S
  | _ => .bad
theorem isLS {φ : Fi} {H : Hp} : ∀ l : List Str, IsL G φ H (l.map .str) (l.map .str)
  | [] => rfl
  | _ :: l => ⟨_, _, rfl, rfl, isLS l⟩
theorem dc_sortedD (hc : X.calm = true) (hK : X.K = G.K) : DCall G X (.builtin "sorted") bSortedD := by
  obtain ⟨r, hr, q⟩ := dc_sortedS (G := G) (X := X) hK
  refine ⟨_, hr.or (call_sortedD hc), fun W φ S H σ ds xs Q s i h => ?_⟩
  unfold bSortedD at h
  split at h
  · split at h
    · rename_i d kds e
      obtain ⟨x, rfl, k⟩ := IsL.inv1 i
      obtain ⟨a, kvs, rfl, rd, kv⟩ := dicD_is s k e
      split at h
      · rename_i ns hn
        split at h
        · rename_i h64
          refine .inr ⟨a, kvs, ns, rfl, rd, by rw [kv.1]; exact txtKeys_is hn, h64, fun ys p hp hs hw => ?_⟩
          have e' : ys = sortS ns := List.Perm.eq_of_pairwise (fun a b _ _ h h' => leS_anti h h') (sortedS_pw hs) (sortS_pw ns) (hp.trans (sortS_perm ns).symm)
          subst e'
          exact lst_new s (isLS _) h hw
        · exact bad_no h
      · exact bad_no h
    · exact .inl (q W φ S H σ _ xs Q s i h)
  · exact bad_no h
/-- a method called with n values (self counted) and keywords ks: l parameters -/
structure MethKN (G : Glb) (P : Program) (w : World) (mg : Str → Option Value) (base : Heap) (k : Nat) (c m : Str) (n : Nat) (ks : List Str) (l : Nat) (gD : List D → List D → List D) (F : FD) : Prop where
  ex : ∃ C f fd ps g gV, G.ca c = some C ∧ Cls G.K C ∧ Meth G.K C m f ∧ FnG P w G.K mg base (L2.CX P w) k f fd ps (spD G l F) ∧ KBn G.K fd ps n ks g gV ∧
    ∀ {φ : Fi} {H : Hp} {ds es : List D} {vs zs : List V}, ds.length = n → es.length = ks.length → IsL G φ H ds vs → IsL G φ H es zs → IsL G φ H (gD ds es) (gV vs zs) ∧ (gD ds es).length = l
end DL
namespace DL
open PySem L2 PyProof.Rows
end DL
end
section
/-! min of a list of two things by a key that a def of ours tells. -/
namespace MinK
open PySem PySem.Spec PyProof.Rows
section
variable {prog : Program} {w : World} {A : Around} {s : Shared} {I l q S : Addr} {R : Result → Shared → Prop}
/-- the list in which min keeps the best one, with its key -/
abbrev kept (xs : Array Value) (c : Nat) : Obj := { cls := .type "list", dict := none, data := .seq xs c, slots := #[] }
end
end MinK
set_option maxHeartbeats 200000
namespace L2
open PySem PySem.Spec PyProof.Rows MinK
section
variable {X : Cx} {pins : List (Addr × Obj)} {σ : L2.St} {H : Hp} {s : Shared} {f a b : Addr} {fd : FuncData} {ps : List Str} {sp : Sp} {k : Nat} {Q : VK}
end
end L2
set_option maxHeartbeats 400000
namespace DL
open PySem L2 PyProof.Rows
def pyNone : PyData → Bool
  | .none => true
  | _ => false
/-- min([a, b], key=F) -/
def minK (F : FD) (d0 d1 : D) (S : Store) : ER := match F [d0] S with
  | .ok k0 S2 => match F [d1] S2 with
    | .ok k1 S3 => match k1.pyO S3, k0.pyO S3 with
      | some p1, some p0 => if PySem.W.alike p1 p0 && !(pyNone p1) && decide (p1.depth ≤ 64) then .ok (if PySem.W.dataLt p1 p0 then d1 else d0) S3 else .bad
      | _, _ => .bad
    | _ => .bad
  | _ => .bad
def eMinK (F : FD) (g : EM) : EM := fun env S => (g env S).bind fun d S1 => match d with
  | .lst [d0, d1] => minK F d0 d1 S1
  | _ => .bad
@[simp] theorem eMinK_is {F : FD} {g : EM} {env : EnvD} {S : Store} : eMinK F g env S = (g env S).bind fun d S1 => match d with
  | .lst [d0, d1] => minK F d0 d1 S1
  | _ => .bad := rfl
section
variable {G : Glb} {X : Cx} {W : WX} {k : Nat} {y : Str} {F : FD} {p p2 pos kp : Pos} {e : Expr} {g : EM}
end
end DL
end
section
set_option maxHeartbeats 400000
/-! d.update(e): a dict's cell, a dict as data. -/
namespace L2
open PySem PySem.Spec PyProof.Rows
section
variable {X : Cx}
end
end L2
namespace DL
open PySem L2
section
variable {G : Glb} {X : Cx} {W : WX}
end
end DL
end
section
set_option maxHeartbeats 400000
/-! T.index(x), T a tuple of texts of the module. -/
namespace DL
open PySem L2
section
variable {G : Glb} {X : Cx} {W : WX}
def eCIndex (ys : List Str) (f : EM) : EM := fun env S => (f env S).bind fun d S => match d with
  | .str z => if z ∈ ys then .ok (.int (ys.idxOf z : Nat)) S else .bad
  | _ => .bad
@[simp] theorem eCIndex_is {ys : List Str} {f : EM} {env : EnvD} {S : Store} : eCIndex ys f env S = (f env S).bind fun d S => match d with
  | .str z => if z ∈ ys then .ok (.int (ys.idxOf z : Nat)) S else .bad
  | _ => .bad := rfl
end
end DL
end
section
set_option maxHeartbeats 400000
/-! d.update({.. for x in e.values()}), both live dicts: e is read as data meanwhile, what was laid later is hidden. -/
namespace DL
open PySem L2
def Fi.fold (φ : Fi) (l : Nat) : Fi := ⟨φ.c.take l, φ.h ++ φ.c.drop (l + 1)⟩
section
variable {G : Glb} {φ : Fi} {H : Hp} {S : Store}
theorem fold_out {l : Nat} {a : Addr} (h : φ.out a) : (φ.fold l).out a := ⟨fun z => h.1 (List.mem_of_mem_take z), fun z => by
  rcases List.mem_append.mp z with z | z
  · exact h.2 z
  · exact h.1 (List.mem_of_mem_drop z)⟩
theorem RdL.fold {n : Nat} {a : Addr} {xs : List V} (h : RdL G φ H a xs) : RdL G (φ.fold n) H a xs := h.elim (fun z => .inl ⟨fold_out z.1, z.2⟩) .inr
theorem RdT.fold {n : Nat} {a : Addr} {xs : List V} (h : RdT G φ H a xs) : RdT G (φ.fold n) H a xs := h.elim (fun z => .inl ⟨fold_out z.1, z.2⟩) .inr
mutual
theorem fold_is {n : Nat} : ∀ {d : D} {v : V}, belD n d = true → Is G φ H d v → Is G (φ.fold n) H d v
  | .non, _, _, i => i
  | .bl _, _, _, i => i
  | .int _, _, _, i => i
  | .str _, _, _, i => i
  | .tup ds, _, h, i => by obtain ⟨a, xs, e1, r, q⟩ := i; exact ⟨a, xs, e1, r.fold, fold_isL h q⟩
  | .lst ds, _, h, i => by obtain ⟨a, xs, e1, r, q⟩ := i; exact ⟨a, xs, e1, r.fold, fold_isL h q⟩
  | .dic _ ds, _, h, i => by obtain ⟨a, xs, e1, ⟨n1, r⟩, z, q⟩ := i; exact ⟨a, xs, e1, ⟨fold_out n1, r⟩, z, fold_isL h q⟩
  | .obj _ _ ds, _, h, i => by obtain ⟨a, C, dx, xs, e1, ⟨n1, r⟩, c, z, q⟩ := i; exact ⟨a, C, dx, xs, e1, ⟨fold_out n1, r⟩, c, z, fold_isL h q⟩
  | .dct _ ds, _, h, i => by obtain ⟨a, xs, e1, ⟨n1, r⟩, z, q⟩ := i; exact ⟨a, xs, e1, ⟨fold_out n1, r⟩, z, fold_isL h q⟩
  | .exn _ _ ds, _, h, i => by
    obtain ⟨a, C, d, e1, ⟨n1, r⟩, c, z⟩ := i
    refine ⟨a, C, d, e1, ⟨fold_out n1, r⟩, c, ?_⟩
    rcases z with z | ⟨b, fs, e4, ⟨n2, r2⟩, e5, q⟩
    · exact .inl z
    · exact .inr ⟨b, fs, e4, ⟨fold_out n2, r2⟩, e5, fold_isL h q⟩
  | .tpl _, _, h, i => by obtain ⟨a, xs, o, e1, ⟨n1, r⟩, q⟩ := i; exact ⟨a, xs, o, e1, ⟨fold_out n1, r⟩, fold_isL h q⟩
  | .loc l, _, h, i => by
    obtain ⟨a, ha, e⟩ := i
    have hl : l < n := of_decide_eq_true h
    exact ⟨a, by show (φ.c.take n)[l]? = _; rw [List.getElem?_take, if_pos hl]; exact ha, e⟩
theorem fold_isL {n : Nat} : ∀ {ds : List D} {vs : List V}, belDs n ds = true → IsL G φ H ds vs → IsL G (φ.fold n) H ds vs
  | [], _, _, i => i
  | d :: ds, _, h, i => by
    obtain ⟨x, r, e1, p, q⟩ := i
    have h' : (belD n d && belDs n ds) = true := h
    simp only [Bool.and_eq_true] at h'
    exact ⟨x, r, e1, fold_is h'.1 p, fold_isL h'.2 q⟩
end
theorem CellOk.fold {a : Addr} {c : Cell} {n : Nat} (hb : c.bel n = true) (h : CellOk G φ H a c) : CellOk G (φ.fold n) H a c := by
  cases c with
  | lst ds => obtain ⟨xs, k, q⟩ := h; exact ⟨xs, k, fold_isL hb q⟩
  | dic kvs => obtain ⟨xs, k, z, q⟩ := h; exact ⟨xs, k, z, fold_isL hb q⟩
  | ins c fs => obtain ⟨C, dx, xs, k, y, z, q⟩ := h; exact ⟨C, dx, xs, k, y, z, fold_isL hb q⟩
  | dct kvs => obtain ⟨xs, k, z, q⟩ := h; exact ⟨xs, k, z, fold_isL hb q⟩
theorem CellOk.notup {a : Addr} {c : Cell} (h : CellOk G φ H a c) : ∃ o, H a = Option.some o ∧ NoTup o := by
  cases c with
  | lst ds => obtain ⟨xs, k, _⟩ := h; exact ⟨_, k, trivial⟩
  | dic kvs => obtain ⟨xs, k, _⟩ := h; exact ⟨_, k, trivial⟩
  | ins c fs => obtain ⟨C, dx, xs, _, k, _⟩ := h; exact ⟨_, k, trivial⟩
  | dct kvs => obtain ⟨xs, k, _⟩ := h; exact ⟨_, k, trivial⟩
theorem SOk.fold (s : SOk G φ S H) {n : Nat} (hb : ∀ c ∈ S.take n, c.bel n = true) : SOk G (φ.fold n) (S.take n) H := by
  refine ⟨by simp [Fi.fold, s.len], s.nd.sublist (List.take_sublist _ _), fun a ha => ?_, fun l c hc => ?_⟩
  · rcases List.mem_append.mp ha with z | z
    · obtain ⟨n1, q⟩ := s.hid a z
      exact ⟨fun z => n1 (List.mem_of_mem_take z), q⟩
    · obtain ⟨i, hi, e⟩ := List.getElem_of_mem z
      have hi2 : n + 1 + i < φ.c.length := by rw [List.length_drop] at hi; omega
      have e2 : φ.c[n + 1 + i]? = some a := by rw [List.getElem?_eq_getElem hi2, ← e, List.getElem_drop]
      have hi3 : n + 1 + i < S.length := by rw [← s.len]; exact hi2
      obtain ⟨a', ha', k⟩ := s.cell (n + 1 + i) _ (List.getElem?_eq_getElem hi3)
      rw [e2] at ha'
      cases ha'
      refine ⟨fun y => ?_, k.notup⟩
      obtain ⟨j, hj, e3⟩ := List.getElem_of_mem (show a ∈ φ.c.take n from y)
      rw [List.length_take] at hj
      have hj2 : j < φ.c.length := by omega
      have e4 : φ.c[j] = φ.c[n + 1 + i] := by
        rw [List.getElem_take] at e3
        rw [e3]
        have := List.getElem?_eq_getElem hi2
        rw [e2] at this
        exact Option.some.inj this
      have := (List.getElem_inj s.nd).mp e4
      omega
  · have hm := hb c (List.mem_of_getElem? hc)
    rw [List.getElem?_take] at hc
    split at hc
    · rename_i hl
      obtain ⟨a, ha, k⟩ := s.cell l c hc
      exact ⟨a, by show (φ.c.take n)[l]? = _; rw [List.getElem?_take, if_pos hl]; exact ha, k.fold hm⟩
    · cases hc
end
section
variable {G : Glb} {X : Cx} {W : WX}
end
end DL
end
section
namespace DS
open PySem L2 DL
noncomputable section
def g_Place_init : SM :=
(sSeq (sIf (eOr (eNot (eCall d_is_name (lCons (eVar 1) lNil))) (eOr (eNot (eCall d_is_name (lCons (eVar 2) lNil))) (eNot (eCall d_is_between (lCons (eVar 4) (lCons (eC (.int 0)) (lCons (eC (.int 9999)) lNil)))))))
(sRaise "NoPlace")
sSkip)
(sSeq (sIf (eNot (eCall d_is_between (lCons (eVar 3) (lCons (eC (.int 0)) (lCons (eVar 4) lNil)))))
(sRaise "NoPlace")
sSkip)
(sSeq (sFldC ["Place", "Race"] "name" (eVar 0) (eVar 1))
(sSeq (sFldC ["Place"] "district" (eVar 0) (eVar 2))
(sSeq (sFldC ["Place"] "first" (eVar 0) (eVar 3))
(sSeq (sFldC ["Place"] "last" (eVar 0) (eVar 4))
(sSeq (sFldC ["Place"] "sent" (eVar 0) (eLst lNil))
(sSeq (sFldC ["Place"] "is_over" (eVar 0) (eC (.bl false)))
(sFldC ["Place"] "ended" (eVar 0) (eC .non))))))))))
def d_Place_init : FD := fnF .pure 5 g_Place_init
def g_is_way : SM :=
(sRet (eAnd (eIsC (tabB .str) (eVar 0)) (eOp opIn (eVar 0) (eC (.tup [.str "place", .str "letter", .str "doubt"])))))
def d_is_way : FD := fnF .pure 1 g_is_way
def g__law_made_e1 : EM :=
(eMake "Place" d_Place_init (lCons (eVar 1) (lCons (eVar 2) (lCons (eVar 3) (lCons (eVar 4) lNil)))))
def g__law_made : SM :=
(sRet (eLc (iSeq (eVar 0)) (bTup (bCons (bName 1) (bCons (bName 2) (bCons (bName 3) (bCons (bName 4) bNil))))) eYes g__law_made_e1 [1, 2, 3, 4]))
def d__law_made : FD := fnF .pure 5 g__law_made
end
end DS
end
section
/-! An expression of its own: what it makes is left behind, its value read as data. -/
namespace DL
open PySem L2
variable {G : Glb} {X : Cx} {W : WX}
end DL
end
section
/-! Statements as a scope: the cells they make are left behind; what stands in the slots is read as data. -/
namespace DL
open PySem L2
variable {G : Glb} {X : Cx} {W : WX}
open Classical in
noncomputable def sScope (g : SM) : SM := fun env S => match g env S with
  | .nx e S1 => if S1.take S.length = S ∨ (S1.take S.length).all (Cell.bel S.length) = true then .nx (e.map fun o => o.bind (frzD (resD S.length S1 12))) (S1.take S.length) else .bad
  | .rt d S1 => (match exitD .pure S d S1 with
    | .ok d' S2 => .rt d' S2
    | _ => .bad)
  | .ex x e S1 => .ex x e S1
  | _ => .bad
theorem sScope_nx {g : SM} {env e : EnvD} {S S1 : Store} (h : g env S = .nx e S1) (hs : S1.take S.length = S) : sScope g env S = .nx (e.map fun o => o.bind (frzD (resD S.length S1 12))) S := by
  unfold sScope
  rw [h]
  dsimp only
  rw [if_pos (.inl hs), hs]
theorem cut_env {φ0 φ : Fi} {H0 H : Hp} {S0 S : Store} {σ : L2.St} {e : EnvD} (s0 : SOk G φ0 S0 H0) (ex : Ext φ0 H0 φ H) (s : SOk G φ S H) (re : RepE G φ H σ e) (hc : S.take S0.length = S0 ∨ (S.take S0.length).all (Cell.bel S0.length) = true) :
    Ext φ0 H0 φ0 H ∧ SOk G φ0 (S.take S0.length) H ∧ RepE G φ0 H σ (e.map fun o => o.bind (frzD (resD S0.length S 12))) := by
  have eφ : φ.cut S0.length = φ0 := by
    obtain ⟨ψ, e1, _⟩ := ex.pre
    obtain ⟨c0, h0⟩ := φ0
    obtain ⟨c1, h1⟩ := φ
    have eh := ex.hid
    simp only at e1 eh
    subst e1 eh
    have hl : c0.length = S0.length := s0.len
    show Fi.mk ((c0 ++ ψ).take S0.length) h1 = Fi.mk c0 h1
    rw [← hl, List.take_left]
  have hb : ∀ c ∈ S.take S0.length, c.bel S0.length = true := by
    rcases hc with hc | hc
    · intro c hm
      rw [hc] at hm
      obtain ⟨l, hl, e1⟩ := List.getElem_of_mem hm
      obtain ⟨a, ha, k⟩ := s0.cell l c (by rw [← e1]; exact List.getElem?_eq_getElem hl)
      exact k.bel (by rw [s0.len]; exact Nat.le_refl _)
    · exact fun c hm => List.all_eq_true.mp hc c hm
  have s2 := s.cut hb
  rw [eφ] at s2
  refine ⟨⟨⟨[], by simp, fun _ z => by simp at z⟩, rfl, ex.keep⟩, s2, ?_⟩
  refine ⟨by rw [List.length_map]; exact re.1, fun i d hd => ?_⟩
  rw [List.getElem?_map] at hd
  obtain ⟨o, ho, h2⟩ := Option.map_eq_some_iff.mp hd
  cases o with
  | none => cases h2
  | some d0 =>
    obtain ⟨v, hv, iv⟩ := re.2 i d0 ho
    have i2 := frz_is (n := S0.length) (res_is s S0.length 12) iv (show frzD (resD S0.length S 12) d0 = some d from h2)
    rw [eφ] at i2
    exact ⟨v, hv, i2⟩
theorem dss_scope {sts : List Stmt} {g : SM} (h : DSs G X W sts g) : DSs G X W sts (sScope g) := by
  obtain ⟨t, p, q⟩ := h
  refine ⟨t, p, fun σ H env φ S N s re h => q σ H env φ S N s re ?_⟩
  unfold sScope at h
  cases hr : g env S with
  | nx e S1 =>
    rw [hr] at h
    dsimp only at h
    split at h
    · rename_i hc
      intro φ' H' σ' e1 s1 r1
      obtain ⟨a1, a2, a3⟩ := cut_env s e1 s1 r1 hc
      exact h φ H' σ' a1 a2 a3
    · exact h.elim
  | rt d S1 =>
    rw [hr] at h
    dsimp only at h
    intro φ' H' v e1 s1 i1
    cases hx : exitD .pure S d S1 with
    | ok d' S2 =>
      rw [hx] at h
      dsimp only at h
      exact exit_ok (W := W) (σ := σ) (m := .pure) s e1 s1 i1 (by rw [hx]; exact h)
    | ex x S2 => rw [hx] at h; exact h.elim
    | bad => rw [hx] at h; exact h.elim
  | bk e S1 => rw [hr] at h; exact h.elim
  | ct e S1 => rw [hr] at h; exact h.elim
  | ex x e S1 => rw [hr] at h; exact h
  | bad => rw [hr] at h; exact h.elim
end DL
end
section
/-! d.setdefault(k, x) of a dict that is a cell. -/
namespace DL
open PySem L2
variable {G : Glb} {X : Cx} {W : WX}
open Classical in
noncomputable def eSetd (f g h : EM) : EM := fun env S => (f env S).bind fun d S1 => match d with
  | .loc l => (match S1[l]? with
    | some (.dic _) => (g env S1).bind fun k S2 => (h env S2).bind fun x S3 => (match S3[l]?, keyD k with
      | some (.dic kds), some kk => if sz (kds.length + 1) then (match valD kds kk with
        | some v => .ok v S3
        | none => .ok x (S3.set l (.dic (putD kds kk x)))) else .bad
      | _, _ => .bad)
    | _ => .bad)
  | _ => .bad
theorem de_setd {o e e2 : Expr} {fo fe fg : EM} {apos cpos : Pos} (ho : DE G X W o fo) (he : DE G X W e fe) (hg : DE G X W e2 fg) (m : M2 X o "setdefault" apos e e2 cpos := by exact ⟨by rfl, by rfl, by rfl, by rfl⟩) : DE G X W (.Call (.Attribute o "setdefault" apos) [e, e2] [] cpos) (eSetd fo fe fg) := by
  obtain ⟨to, po, qo⟩ := ho
  obtain ⟨te, pe, qe⟩ := he
  obtain ⟨tg, pg, qg⟩ := hg
  refine ⟨_, pe_dsetd po pe pg m, fun σ H env φ S Q s re h => ?_⟩
  refine qo σ H env φ S _ s re (PostE.bind h fun d S1 φ1 H1 v e1 s1 i1 h1 => ?_)
  have re1 := re.ext e1
  cases d with
  | loc l =>
    dsimp only at h1
    split at h1
    · rename_i kds0 hc
      obtain ⟨a, ha, hv⟩ := i1
      obtain ⟨b, hb, ws, hw, hk, il⟩ := s1.cell _ _ hc
      have ab : a = b := by rw [ha] at hb; exact Option.some.inj hb
      subst ab
      refine ⟨a, hv, ?_, ?_⟩
      · exact .inl ⟨ws, .inl hw⟩
      · refine qe σ H1 env φ1 S1 _ s1 re1 (PostE.bind h1 fun k S2 φ2 H2 y e2 s2 i2 h2 => ?_)
        have re2 := re1.ext e2
        refine qg σ H2 env φ2 S2 _ s2 re2 (PostE.bind h2 fun x S3 φ3 H3 z e3 s3 i3 h3 => ?_)
        split at h3
        · rename_i kds kk hc3 hkk
          split at h3
          · rename_i hz
            have ia3 : Is G φ3 H3 (.loc l) (.ref a) := ((show Is G φ1 H1 (.loc l) (.ref a) from ⟨a, ha, rfl⟩).ext e2).ext e3
            obtain ⟨b, hb3, w3, hw3, hk3, il3⟩ := s3.cell _ _ hc3
            obtain ⟨b', hb', hbe⟩ := ia3
            cases hbe
            have ab : a = b := by rw [hb'] at hb3; exact Option.some.inj hb3
            subst ab
            have kq : KvIs G φ3 H3 kds w3 := ⟨hk3, il3⟩
            have vi := val_is kk kq
            have ly : w3.length < PySem.sizeLine := by
              have := kq.length
              rw [sizeLine_eq]
              have hz' : kds.length + 1 ≤ 16777216 := hz
              omega
            refine ⟨w3, kk, hw3, keyD_is (i2.ext e3) hkk, ly, fun v hv => ?_, fun hn => ?_⟩
            · cases hd : valD kds kk with
              | none => have := vi.2 hd; rw [this] at hv; cases hv
              | some d =>
                rw [hd] at h3
                obtain ⟨v', e4, i4⟩ := vi.1 d hd
                rw [e4] at hv
                cases hv
                exact h3.now s3 i4
            · cases hd : valD kds kk with
              | some d =>
                obtain ⟨v', e4, i4⟩ := vi.1 d hd
                rw [e4] at hn; cases hn
              | none =>
                rw [hd] at h3
                have mq := put_is kq i3 kk
                have e4 := Ext.put (φ := φ3) (H := H3) (o := HO.dK (putK w3 kk z)) (List.mem_of_getElem? hb')
                exact h3 φ3 _ _ e4 (s3.put hb' ⟨_, upd_same, mq.1, mq.2.ext e4⟩) (i3.ext e4)
          · exact h3.elim
        · exact h3.elim
    · exact h1.elim
  | _ => exact h1.elim
end DL
end
section
/-! sorted(set(xs)), xs a list of texts. -/
namespace L2
open PySem PySem.Spec PyProof.Rows
theorem is_strS {P : Program} {w : World} (k : Str) (tk : Tok) : (PySem.strKind P w).is k (.str k tk) = true := by
  show Value.isStrOf k (.str k tk) = true
  unfold Value.isStrOf
  simp
/-! ### what a set of ints is -/
def keyOfS (e : Int × Value) : Str := match e.2 with | .str k _ => k | _ => Str.empty
def GoodS (w : World) (e : Int × Value) : Prop := ∃ k tk, e.2 = Value.str k tk ∧ e.1 = hashStr w k

/-- the set of ints at a: S its members, n their number; its table rises and can be walked -/
def SetRS (w : World) (h : Heap) (a : Addr) (S : Str → Bool) (n : Nat) : Prop :=
  ∃ o es ep t, h.get? a = some o ∧ o.ExactSet ∧ o.data = .set es ep t ∧ (∀ e ∈ es.toList, GoodS w e) ∧ (es.toList.map keyOfS).Nodup ∧ (∀ k, S k = true ↔ k ∈ es.toList.map keyOfS) ∧
    es.size < scanBound ∧ t.fits es.size = true ∧ es.size = n ∧ Ris t.place.toList ∧ (w.params.followText "set-order" = true ∨ t.led = true)

section
variable {P : Program} {w : World} {h h' : Heap} {a : Addr} {S : Str → Bool} {n : Nat}

theorem SetRS.at (R : SetRS w h a S n) (k : ∀ o, h.get? a = some o → h'.get? a = some o) : SetRS w h' a S n := by
  obtain ⟨o, es, ep, t, ho, r⟩ := R
  exact ⟨o, es, ep, t, k o ho, r⟩
theorem SetRS.lt (R : SetRS w h a S n) : a < h.objs.size := by
  obtain ⟨o, es, ep, t, ho, r⟩ := R
  exact Heap.lt_size ho
theorem SetRS.congr {S' : Str → Bool} (R : SetRS w h a S n) (e : ∀ k, S' k = S k) : SetRS w h a S' n := by
  have q : S' = S := funext e
  rw [q]; exact R
theorem good_elemsS {l : List (Int × Value)} (g : ∀ e ∈ l, GoodS w e) : ElemsOf (PySem.strKind P w) l := fun e he => by
  obtain ⟨k, tk, h1, h2⟩ := g e he
  exact ⟨⟨k, by rw [h1]; exact is_strS k tk, h2⟩, by rw [h1] <;> rfl⟩
theorem good_isS {e : Int × Value} (g : GoodS w e) (k : Str) : (PySem.strKind P w).is k e.2 = true ↔ keyOfS e = k := by
  obtain ⟨k0, tk, h1, _⟩ := g
  unfold keyOfS
  rw [h1]
  show ((k0 == k) = true) ↔ k0 = k
  exact beq_iff_eq
theorem good_memS {l : List (Int × Value)} (g : ∀ e ∈ l, GoodS w e) (k : Str) : k ∈ l.map keyOfS ↔ ∃ e ∈ l, (PySem.strKind P w).is k e.2 = true := by
  rw [List.mem_map]
  constructor
  · rintro ⟨e, he, q⟩
    exact ⟨e, he, (good_isS (g e he) k).2 q⟩
  · rintro ⟨e, he, q⟩
    exact ⟨e, he, (good_isS (g e he) k).1 q⟩
end

section
variable {P : Program} {w : World} {A : Around} {E : Value → Shared → Prop} {s : Shared} {a : Addr} {S : Str → Bool} {n : Nat}

/-! ### add -/
theorem store_atS {h : Heap} {a : Addr} {o : Obj} {es es' : Array (Int × Value)} {ep : Nat} {t t' : SetTable} (ho : h.get? a = some o) (hd : o.data = .set es ep t) :
    (h.update a (Obj.putSet es' t')).get? a = some { o with data := .set es' (ep + 1) t' } := by
  have q := Heap.get?_update_self (Obj.putSet es' t') ho (by rw [putSet_of es' t' hd]; rfl)
  rw [putSet_of es' t' hd] at q
  exact q

theorem setR_add_tailS {g : Bool → Sem Unit} (hg : ∀ (b : Bool) (s₁ : Shared) (Q' : Unit → Shared → Prop), Q' () s₁ → wpAny (model P w) A (g b) Q' E s₁)
    {o : Obj} {es : Array (Int × Value)} {ep : Nat} {t : SetTable} (ho : s.heap.get? a = some o) (hex : o.ExactSet) (hd : o.data = .set es ep t)
    {es1 : Array (Int × Value)} {t2 : SetTable} {S' : Str → Bool} (g1 : ∀ e ∈ es1.toList, GoodS w e) (nd1 : (es1.toList.map keyOfS).Nodup) (m1 : ∀ k, S' k = true ↔ k ∈ es1.toList.map keyOfS)
    (hb1 : es1.size < scanBound) (hf2 : t2.fits es1.size = true) (hr : Ris t2.place.toList) (hl : w.params.followText "set-order" = true ∨ t2.led = true) {wasDummy : Bool} {R : Option Bool → Shared → Prop}
    (hR : ∀ h', Heap.SameBut a s.heap h' → SetRS w h' a S' es1.size → R (some true) { s with heap := h' }) :
    wpAny (model P w) A (do
        storeSet a es1 t2
        if (!wasDummy && t2.tooFull) = true then do
            g (relayAll t2 es1 (SetTable.grown es1.size)).2.2
            storeSet a (relayAll t2 es1 (SetTable.grown es1.size)).1 (relayAll t2 es1 (SetTable.grown es1.size)).2.1
            pure (some true)
          else pure (some true)) R E s := by
  refine wpAny_bind (wpAny_storeSet_of ho hd ?_ (fits_of_scanBound hb1))
  have ho1 := store_atS (es' := es1) (t' := t2) ho hd
  have sb1 := Heap.SameBut.update s.heap a (Obj.putSet es1 t2)
  split
  · have pm := relayAll_perm t2 es1 (SetTable.grown es1.size)
    have hf3 := relayAll_fits t2 es1 (SetTable.grown es1.size)
    have hr3 := relayAll_ris t2 es1 (SetTable.grown es1.size)
    have hl3 := relayAll_led t2 es1 (SetTable.grown es1.size)
    generalize relayAll t2 es1 (SetTable.grown es1.size) = Z at pm hf3 hr3 hl3 ⊢
    obtain ⟨es2, t3, gave⟩ := Z
    dsimp only at pm hf3 hr3 hl3 ⊢
    have hsz : es2.size = es1.size := by rw [← Array.length_toList, pm.length_eq, Array.length_toList]
    have hb2 : es2.size < scanBound := by rw [hsz]; exact hb1
    refine wpAny_bind (hg _ _ _ ?_)
    refine wpAny_bind (wpAny_storeSet_of ho1 rfl ?_ (fits_of_scanBound hb2))
    have ho2 := store_atS (es' := es2) (t' := t3) ho1 rfl
    refine wpAny_pure (hR _ (sb1.trans (Heap.SameBut.update _ a _)) ?_)
    exact ⟨_, es2, _, t3, ho2, hex, rfl, fun e he => g1 e (pm.mem_iff.mp he), (pm.map keyOfS).nodup_iff.mpr nd1, fun k => (m1 k).trans (pm.map keyOfS).mem_iff.symm, hb2, hf3, hsz, hr3,
      hl.imp id fun z => by rw [hl3]; exact z⟩
  · exact wpAny_pure (hR _ sb1 ⟨_, es1, _, t2, ho1, hex, rfl, g1, nd1, m1, hb1, hf2, rfl, hr, hl⟩)

theorem setR_add_hashedS {k : Str} {tk : Tok} {Q : Bool → Shared → Prop} (R : SetRS w s.heap a S n) (room : n + 1 < scanBound)
    (hQ : ∀ h', Heap.SameBut a s.heap h' → SetRS w h' a (fun j => S j || decide (j = k)) (if S k = true then n else n + 1) → Q (!S k) { s with heap := h' }) :
    wpAny (model P w) A (setAddHashed a (.str k tk) ((PySem.strKind P w).hash k)) Q E s := by
  obtain ⟨o, es, ep, t, ho, hex, hd, g, nd, hm, hb, hf, hn, hr, hl⟩ := R
  have hkey : (PySem.strKind P w).is k (.str k tk) = true := is_strS k tk
  have hsc : (Value.str k tk).scannable = true := rfl
  have hel : ElemsOf (PySem.strKind P w) es.toList := good_elemsS g
  unfold setAddHashed setAddHashedIn
  refine wpAny_holding (wpAny_bind (wpAny_setState_of ho hd hf ?_))
  dsimp only
  rw [byScan_of hsc hb hel]
  simp only [↓reduceIte]
  unfold setAddByScan
  refine wpAny_bind ?_
  refine wpAny_bind (wpAny_rule ?_)
  refine wpAny_bind (wpAny_setScan_of hkey ho hd hf hel ?_)
  cases hfi : List.findIdx? (fun e => (PySem.strKind P w).is k e.2) es.toList with
  | some j =>
    dsimp only
    obtain ⟨hj, pj, _⟩ := List.findIdx?_eq_some_iff_getElem.mp hfi
    have hSk : S k = true := (hm k).2 ((good_memS (P := P) (w := w) g k).2 ⟨es.toList[j], List.getElem_mem hj, pj⟩)
    refine wpAny_pure (wpAny_pure ?_)
    have q := hQ s.heap (Heap.SameBut.refl a s.heap) ⟨o, es, ep, t, ho, hex, hd, g, nd, fun i => by
      rw [Bool.or_eq_true, decide_eq_true_eq, ← hm i]
      exact ⟨fun z => z.elim id (fun e => e ▸ hSk), .inl⟩, hb, hf, by rw [if_pos hSk]; exact hn, hr, hl⟩
    rw [hSk] at q
    exact q
  | none =>
    dsimp only
    have hnk : k ∉ es.toList.map keyOfS := fun z => by
      obtain ⟨e, he, q⟩ := (good_memS (P := P) (w := w) g k).1 z
      have c := List.findIdx?_eq_none_iff.mp hfi e he
      rw [q] at c
      cases c
    have hSk : S k = false := by
      cases q : S k with
      | false => rfl
      | true => exact absurd ((hm k).1 q) hnk
    have hgw : ∀ (b : Bool) {s₁ : Shared} {Q' : Unit → Shared → Prop}, Q' () s₁ → wpAny (model P w) A (match b with | true => rule "set.scan.the-table-gave-way" | false => pure ()) Q' E s₁ :=
      fun b s₁ Q' q => by cases b <;> first | exact wpAny_pure q | exact wpAny_rule q
    have pm := layNew_perm t es ((PySem.strKind P w).hash k) (.str k tk)
    have hf1 := layNew_fits t es ((PySem.strKind P w).hash k) (.str k tk)
    have hr1 := layNew_ris t es ((PySem.strKind P w).hash k) (.str k tk) hr
    have hl1 := layNew_led t es ((PySem.strKind P w).hash k) (.str k tk)
    generalize layNew t es ((PySem.strKind P w).hash k) (.str k tk) = Z at pm hf1 hr1 hl1 ⊢
    obtain ⟨es1, t1, wasDummy, gave⟩ := Z
    dsimp only at pm hf1 hr1 hl1 ⊢
    rw [Array.toList_push] at pm
    have pc : es1.toList.Perm (((PySem.strKind P w).hash k, Value.str k tk) :: es.toList) := pm.trans (List.perm_append_singleton _ _)
    have pk : (es1.toList.map keyOfS).Perm (k :: es.toList.map keyOfS) := pc.map keyOfS
    have g1 : ∀ e ∈ es1.toList, GoodS w e := fun e he => by
      rcases List.mem_cons.mp (pc.mem_iff.mp he) with z | z
      · rw [z]; exact ⟨k, tk, rfl, rfl⟩
      · exact g e z
    have nd1 : (es1.toList.map keyOfS).Nodup := pk.nodup_iff.mpr (List.nodup_cons.mpr ⟨hnk, nd⟩)
    have m1 : ∀ i, (S i || decide (i = k)) = true ↔ i ∈ es1.toList.map keyOfS := fun i => by
      rw [Bool.or_eq_true, decide_eq_true_eq, hm i, pk.mem_iff, List.mem_cons]
      exact Or.comm
    have hsz : es1.size = n + 1 := by rw [← Array.length_toList, pc.length_eq, List.length_cons, Array.length_toList, hn]
    have hb1 : es1.size < scanBound := by rw [hsz]; exact room
    have hled : w.params.followText "set-order" = true ∨ t1.led = true := hl.imp id fun z => by rw [hl1]; exact z
    have fin : ∀ h', Heap.SameBut a s.heap h' → SetRS w h' a (fun j => S j || decide (j = k)) es1.size → Q true { s with heap := h' } := fun h' sb r => by
      have q := hQ h' sb
      rw [hSk] at q
      rw [hsz] at r
      exact q r
    refine wpAny_bind (hgw _ ?_)
    split
    · refine wpAny_bind ?_
      rw [hashByValue_scannable 8 hsc]
      refine wpAny_pure ?_
      refine setR_add_tailS ?_ ho hex hd g1 nd1 m1 hb1 ?_ ?_ ?_ ?_
      · intro b s₁ Q' q; cases b <;> first | exact wpAny_pure q | exact wpAny_rule q
      · first | (split <;> first | exact hf1 | exact SetTable.fits_plain_off hf1) | exact hf1
      · first | (split <;> exact hr1) | exact hr1
      · first | (split <;> exact hled) | exact hled
      · intro h' sb r; dsimp only; exact wpAny_pure (fin h' sb r)
    · refine wpAny_bind (wpAny_pure ?_)
      simp only [↓reduceIte]
      refine setR_add_tailS ?_ ho hex hd g1 nd1 m1 hb1 hf1 hr1 hled ?_
      · intro b s₁ Q' q; cases b <;> first | exact wpAny_pure q | exact wpAny_rule q
      · intro h' sb r; dsimp only; exact wpAny_pure (fin h' sb r)

end

theorem strs_atS : ∀ {us : List Value} {ks : List Str}, StrsAre us ks → ∀ {i : Nat} {v : Value}, us[i]? = some v → ∃ k, ks[i]? = some k ∧ ∃ tk, v = .str k tk
  | _, _, .nil, i, v, h => by simp at h
  | _, _, .cons k tk t, i, v, h => by
    cases i with
    | zero => simp at h; subst h; exact ⟨k, rfl, tk, rfl⟩
    | succ i => simp at h; simpa using strs_atS t h
def memS (l : List Str) (k : Str) : Bool := decide (k ∈ l)
section
variable {prog : Program} {w : World} {A : Around} {R : Result → Shared → Prop} {I : Addr} {fp wr : List Addr} {G : Array GenState → Array GenState → Prop} {n : Nat} {P : Nat → Value → Prop} {St : Nat → Shared → Prop}
theorem set_turnsS (W : WalksS prog w A.in1 I fp wr G n P St) (S : Addr) (off : S ∉ fp) (ks : List Str) (hk : ks.length = n) (small : n + 1 < scanBound)
    (each : ∀ i v, P i v → ∃ k, ks[i]? = some k ∧ ∃ tk, v = .str k tk) :
    ∀ (m i : Nat) (s : Shared), n - i = m → i ≤ n → St i s → (∃ c, c ≤ i ∧ SetRS w s.heap S (memS (ks.take i)) c) →
      (∀ s', Moved (S :: wr) G s s' → (∃ c, c ≤ n ∧ SetRS w s'.heap S (memS ks) c) → R (.ok (.ret .none)) s') →
      codeAny (model prog w) A (.builtin "set.update.loop" ⟨[.ref S, .ref I], []⟩) R s := by
  have away : S ∉ wr := fun z => off (W.sub _ z)
  have more : ∀ b ∈ wr, b ∈ S :: wr := fun b z => List.mem_cons_of_mem _ z
  intro m
  induction m with
  | zero =>
    intro i s hm hi hst hS fin
    obtain rfl : i = n := by omega
    refine codeAny_builtin PyProof.Rows.F.entry_set_update_loop ?_
    rw [Around.under_plainId PyProof.Rows.F.plain_set_update_loop _]
    show wpAny _ A.in1 (pyNext (.ref I) >>= _) _ _ s
    refine wpAny_bind (W.done s _ _ hst fun s' mv => ?_)
    show wpAny _ A.in1 (ret Value.none) _ _ s'
    refine wpAny_pure (fin s' (mv.mono more) ?_)
    obtain ⟨c, hc, hS⟩ := hS
    have R0 : SetRS w s'.heap S (memS (ks.take i)) c := hS.at fun o ho => mv.heap S _ away ho
    rw [List.take_of_length_le (by omega)] at R0
    exact ⟨c, by omega, R0⟩
  | succ m ih =>
    intro i s hm hi hst hS fin
    have lt : i < n := by omega
    refine codeAny_builtin PyProof.Rows.F.entry_set_update_loop ?_
    rw [Around.under_plainId PyProof.Rows.F.plain_set_update_loop _]
    show wpAny _ A.in1 (pyNext (.ref I) >>= _) _ _ s
    refine wpAny_bind (W.item i s _ _ lt hst fun v s' hP hst' mv => ?_)
    obtain ⟨k, e1, tk0, rfl⟩ := each i v hP
    obtain ⟨c, hc, hS⟩ := hS
    have hS' : SetRS w s'.heap S (memS (ks.take i)) c := hS.at fun o ho => mv.heap S _ away ho
    show wpAny _ A.in1 (holding [.str k tk0] (setAdd S (.str k tk0)) >>= _) _ _ s'
    refine wpAny_bind (wpAny_holding ?_)
    unfold setAdd
    refine wpAny_holding ?_
    refine wpAny_bind ((PySem.strKind prog w).pyHash (k := k) (is_strS k tk0) ?_)
    have room : c + 1 < scanBound := by omega
    refine setR_add_hashedS (P := prog) (s := { s' with toks := s'.toks + 1 }) hS' room fun h' sb new => ?_
    have tk : ks.take (i + 1) = ks.take i ++ [k] := by rw [List.take_add_one, e1]; rfl
    have next : ∃ c, c ≤ i + 1 ∧ SetRS w h' S (memS (ks.take (i + 1))) c := by
      refine ⟨_, ?_, new.congr fun j => ?_⟩
      · split <;> omega
      · rw [tk]; unfold memS; rw [Bool.eq_iff_iff]; simp
    refine wpAny_pure ⟨plainId_quiet PyProof.Rows.F.plain_set_update_loop _, ih (i + 1) _ (by omega) lt (W.frame _ s' _ _ hst' (Nat.le_succ _) fun b hb o e => ?_) next fun s2 mv2 last => ?_⟩
    · rw [sb.2 b (fun z : b = S => off (by rw [← z]; exact hb))]; exact e
    · refine fin s2 (Moved.trans W.gtrans ((mv.mono more).then_heap (Nat.le_succ _) fun b o hb e => ?_) mv2) last
      rw [sb.2 b (fun z : b = S => hb (by rw [z]; exact List.mem_cons_self))]; exact e
end
section
variable {prog : Program} {w : World} {A : Around} {E : Value → Shared → Prop} {s : Shared}
theorem code_set_ledS (a : Value) {Q₁ : Value → Shared → Prop}
    (h : Q₁ (.ref s.heap.objs.size) { s with heap := s.heap.push { cls := .type "set", dict := none, data := .set #[] 0 (.fresh 0 0 (!w.params.followText "set-order")) } }) :
    codeAny (model prog w) A (.call (.builtin "set.__new__") ⟨[.type "set", a], []⟩) (wants Q₁ E) s := by
  refine codeAny_of_tree ?_
  show wpAny _ A.in1 (do checkBuiltinCall "set.__new__" ⟨[.type "set", a], []⟩; again (.builtin "set.__new__" ⟨[.type "set", a], []⟩)) _ _ s
  refine wpAny_bind (wpAny_of_eq (F.newCall_set_1 a) (wpAny_pure ⟨plainId_quiet F.plain_set_new _, codeAny_builtin F.entry_set_new ?_⟩))
  rw [Around.under_plainId F.plain_set_new _]
  unfold Builtin.«set.__new__» Builtin.Frozenset.newClass
  have hsub := sub_set_self
  obtain ⟨hp, g, d, tk, os⟩ := s
  dsimp only
  wp_walk
  refine wpAny_askSetting (wpAny_pure ?_)
  dsimp only
  simp only [newObj]
  refine wpAny_bind (wpAny_alloc (wpAny_pure ?_))
  exact wpAny_pure h
abbrev set0 (led : Bool) : Obj := { cls := .type "set", dict := none, data := .set #[] 0 (.fresh 0 0 led) }
def SetMadeS (w : World) (s : Shared) (ks : List Str) (h' : Heap) : Prop := (∃ c, c ≤ ks.length ∧ SetRS w h' s.heap.objs.size (memS ks) c) ∧ ∀ b o, b < s.heap.objs.size → s.heap.get? b = some o → h'.get? b = some o
theorem set_of_listS {l : Addr} {xs : Array Value} {ks : List Str} {Q : Value → Shared → Prop} (free : A.handled = none) (hl : s.heap.IsList l xs) (each : StrsAre xs.toList ks) (small : ks.length + 1 < scanBound)
    (fin : ∀ (h' : Heap) (tk : Nat), SetMadeS w s ks h' → Q (.ref s.heap.objs.size) { s with heap := h', toks := tk }) : wpAny (model prog w) A (call (.type "set") [.ref l]) Q E s := by
  obtain ⟨cl, more, order⟩ := PySem.F.called_set.mro
  have z1 := PySem.F.called_set.made
  have z2 := PySem.F.called_set.sub
  have z3 := PySem.F.called_set.notType
  have z4 := PySem.F.called_set.canCreate
  have z5 := PySem.F.typeCall_set_1 (.ref l)
  refine wpAny_call (codeAny_of_tree ?_)
  show wpAny _ _ (callAny (.type "set") _) _ _ _
  refine wpAny_pure ⟨Code.quiet_builtin _ (by decide +kernel), codeAny_builtin PySem.F.entry_type_call ?_⟩
  rw [Around.under_plain (weight_type_call_type "set" [.ref l] []) rfl]
  repeat (any_goals (first | assumption | wp_step))
  refine codeAny_mono (code_set_ledS (.ref l) (E := E) (Q₁ := fun a s1 => ∃ led : Bool, led = (!w.params.followText "set-order") ∧ a = .ref s.heap.objs.size ∧ s1 = { s with heap := s.heap.push (set0 led) }) ⟨_, rfl, rfl, rfl⟩) fun r s1 hr => ?_
  cases r with
  | error e => exact hr
  | ok fl =>
    cases fl with
    | ret a =>
      obtain ⟨led, hled, rfl, rfl⟩ := hr
      have at0 : (s.heap.push (set0 led)).get? s.heap.objs.size = some (set0 led) := Heap.get?_push_size _ rfl
      have ty0 : Shared.TypeIs { s with heap := s.heap.push (set0 led) } (.ref s.heap.objs.size) "set" := ⟨_, at0, rfl⟩
      have z6 := PySem.F.called_set.init.lookup
      have z7 := PySem.F.called_set.init.bind (.ref s.heap.objs.size)
      repeat (any_goals (first | assumption | wp_step))
      refine codeAny_mono (codeAny_call_builtin (R := wants (fun r s2 => r = .none ∧ ∃ h' tk, s2 = { s with heap := h', toks := tk } ∧ SetMadeS w s ks h') E) PySem.F.called_set.init.plain PySem.F.entry_set_init (check_set_init_1 ty0 ?_)) fun r2 s2 hr2 => ?_
      · obtain ⟨⟨k1, k2, k3, k4⟩, hol, k5, nl, k6⟩ := hl
        simp only at k5 k6
        subst k5; subst k6
        have at1 : (s.heap.push (set0 led)).get? l = some { cls := .type "list", dict := k2, data := .seq xs nl, slots := k4 } := Heap.get?_push_of_some _ hol
        have z8 := PySem.F.sub_list_set
        have z9 := PySem.F.sub_list_frozenset
        have z10 : (Value.type "list" == Value.type "dict") = false := by decide
        have is1 : (s.heap.push (set0 led)).IsList l xs := ⟨_, at1, rfl, nl, rfl⟩
        unfold Builtin.«set.__init__» noKeywords Builtin.Frozenset.updateFrom
        generalize hPI : pyIter = PI
        wp_walk
        subst hPI
        refine wpAny_pyIter_list is1 ?_
        refine wpAny_bind (wpAny_runValue ?_)
        have under : l < s.heap.objs.size := Heap.lt_size hol
        have free3 : A.in1.in1.in1.handled = none := by simp [free]
        have apart : l ≠ (s.heap.push (set0 led)).objs.size := by rw [Heap.size_push]; exact Nat.ne_of_lt (Nat.lt_succ_of_lt under)
        have off : s.heap.objs.size ∉ [(s.heap.push (set0 led)).objs.size, l] := by
          rw [Heap.size_push]
          simp only [List.mem_cons, List.mem_singleton, List.not_mem_nil, or_false, not_or]
          exact ⟨Nat.ne_of_lt (Nat.lt_succ_self _), Nat.ne_of_gt under⟩
        have len : ks.length = xs.size := by rw [← each.length, Array.length_toList]
        refine set_turnsS ((Walks.list free3 _ l apart xs).toS) s.heap.objs.size off ks len (by rw [← len]; exact small)
          (fun i v hv => strs_atS each (by rw [Array.getElem?_toList]; exact hv)) (xs.size - 0) 0 _ (by omega) (Nat.zero_le _) ⟨⟨_, Heap.get?_push_size _ rfl, rfl, rfl⟩, (is1.push _)⟩ ?begin ?last
        case begin =>
          have at2 : ((s.heap.push (set0 led)).push { cls := .type "list_iterator", data := .fields #[.ref l, .int 0 0] }).get? s.heap.objs.size = some (set0 led) := Heap.get?_push_of_some _ at0
          have empty : SetRS w ((s.heap.push (set0 led)).push { cls := .type "list_iterator", data := .fields #[.ref l, .int 0 0] }) s.heap.objs.size (fun _ => false) 0 :=
            ⟨_, #[], 0, _, at2, ⟨rfl, rfl, rfl⟩, rfl, (fun e z => by simp at z), (by simp), (fun k => by simp), (by decide), rfl, rfl, List.Pairwise.nil, by
              show _ ∨ led = true
              rw [hled]
              cases w.params.followText "set-order"
              · exact .inr rfl
              · exact .inl rfl⟩
          exact ⟨0, Nat.le_refl _, empty.congr fun k => by unfold memS; simp⟩
        case last =>
          intro s2 mv made
          obtain ⟨h2, g2, d2, tk2, os2⟩ := s2
          have e1 : g2 = s.gens := mv.gens
          have e2 : d2 = s.drawn := mv.drawn
          have e3 : os2 = s.os := mv.os
          subst e1; subst e2; subst e3
          show wpAny _ _ _ _ _ _
          refine wpAny_pure ?_
          show wpAny _ _ (ret Value.none) _ _ _
          refine wpAny_pure ⟨rfl, h2, tk2, rfl, (by obtain ⟨c, h1, h3⟩ := made; exact ⟨c, by omega, h3⟩), fun b o hb e => ?_⟩
          refine mv.heap b o ?_ (Heap.get?_push_of_some _ (Heap.get?_push_of_some _ e))
          rw [Heap.size_push]
          simp only [List.mem_cons, List.mem_singleton, List.not_mem_nil, or_false, not_or]
          exact ⟨Nat.ne_of_lt hb, Nat.ne_of_lt (Nat.lt_succ_of_lt hb)⟩
      · cases r2 with
        | error e => exact hr2
        | ok fl2 =>
          cases fl2 with
          | ret r =>
            obtain ⟨rfl, h', tk, rfl, made⟩ := hr2
            repeat (any_goals (first | assumption | wp_step))
            exact fin _ _ made
          | _ => exact hr2.elim
    | _ => exact hr.elim
/-! ### sorted -/
def sOf (v : Value) : Str := match v with | .str k _ => k | _ => Str.empty
theorem strs_of : ∀ (l : List Value), (∀ v ∈ l, ∃ k tk, v = Value.str k tk) → StrsAre l (l.map sOf)
  | [], _ => .nil
  | v :: l, h => by
    obtain ⟨k, tk, rfl⟩ := h v List.mem_cons_self
    exact .cons k tk (strs_of l fun u hu => h u (List.mem_cons_of_mem _ hu))
theorem sorted_setS {a : Addr} {S : Str → Bool} {n : Nat} {Q : Value → Shared → Prop} (R : SetRS w s.heap a S n) (hh : A.handled = none) (h64 : n < 64)
    (hQ : ∀ s' p (out : Array Value) (c : Nat) (ns : List Str), (∀ b o, s.heap.get? b = some o → s'.heap.get? b = some o) → s'.gens = s.gens → s'.os = s.os → s.heap.objs.size ≤ p →
      s'.heap.get? p = some (seqObj "list" out c) → StrsAre out.toList ns → sortedS ns = true → ns.Nodup → (∀ k, k ∈ ns ↔ S k = true) → ns.length = n → Q (.ref p) s') :
    wpAny (model prog w) A (call (.builtin "sorted") [.ref a]) Q E s := by
  obtain ⟨o, es, ep, t, ho, hex, hd, g, nd, hm, hb, hf, hn, hr, hl⟩ := R
  refine Calls.call_function_entry kind_sorted plain_sorted entry_sorted (args_sorted1 _) ?_
  unfold Builtin.«sorted»
  refine wpAny_bind (m := checkCount "sorted" 1 1 _) (wpAny_pure ?_)
  refine wpAny_bind (collect_set (A := A.in1) hh ⟨o, ho, hex.1, hd⟩ hf hb hr hl fun s1 vs k1 hz g1 o1 pm => ?_)
  have hvl : vs.length = n := by rw [pm.length_eq, List.length_map, Array.length_toList]; exact hn
  have hI : StrsAre vs (vs.map sOf) := strs_of vs fun v hv => by
    obtain ⟨e, he, q⟩ := List.mem_map.mp (pm.mem_iff.mp hv)
    obtain ⟨k, tk, h1, _⟩ := g e he
    exact ⟨k, tk, by rw [← q]; exact h1⟩
  have pk : (vs.map sOf).Perm (es.toList.map keyOfS) := by
    have q := pm.map sOf
    rw [List.map_map] at q
    exact q
  refine wpAny_bind (wpAny_newList ?_ (by rw [hvl, sizeLine_eq]; omega))
  have hoL : (s1.heap.push (seqObj "list" vs.toArray 0)).get? s1.heap.objs.size = some (seqObj "list" vs.toArray 0) := Heap.get?_push_size _ rfl
  refine wpAny_bind (wpAny_holding (wpAny_call_entry slot_list_sort ⟨_, hoL, rfl⟩ entry_list_sort (list_sort_treeK PyProof.Rows.strKind_oneLt hoL hI.keysOf (fun v₁ v₂ rest e => keyKind_strs (by rw [← e]; exact hI)) (by rw [hvl]; exact h64) fun st' hp hs => ⟨_, rfl, ?_⟩) (args_list_sort _)))
  obtain ⟨ns', a1, a2, a3⟩ := sorted_out_str hI hp hs
  generalize ((arrOf st').map (·.2)) = out at a1 ⊢
  obtain ⟨c, hc⟩ := sortedHeap_at (vs := vs) (out := out) hoL
  have pn : ns'.Perm (es.toList.map keyOfS) := a2.trans pk
  refine wpAny_pure ⟨_, rfl, hQ _ s1.heap.objs.size out c ns' (fun b u e => ?_) g1 o1 hz hc a1 a3 (pn.nodup_iff.mpr nd) (fun k => by rw [pn.mem_iff, ← hm k]) ?_⟩
  · have q := k1 b u e
    have hlt := Heap.lt_size q
    show (sortedHeap (s1.heap.push (seqObj "list" vs.toArray 0)) s1.heap.objs.size vs out).get? b = some u
    rw [sortedHeap_old (Nat.ne_of_lt hlt) (by rw [size_push']; exact Nat.lt_succ_of_lt hlt)]
    exact Heap.get?_push_of_some _ q
  · rw [pn.length_eq, List.length_map, Array.length_toList]; exact hn
end
theorem vals_strsS : ∀ {ks : List Str} {us : List Value}, Vals (ks.map V.str) us → StrsAre us ks
  | [], _, h => by cases h; exact .nil
  | k :: ks, _, h => by
    cases h with
    | cons r t =>
      obtain ⟨tk, rfl⟩ := r
      exact .cons k tk (vals_strsS t)
def tSortSet (K : PySem.W.Frag) (ta : TE) : TE := fun σ H Q => ta σ H fun x H1 => ∃ (l : Addr) (ks : List Str), x = .ref l ∧ SqL K H1 l (ks.map V.str) ∧ ks.length < 64 ∧ ∀ (ys : List Str) (p : Addr), sortedS ys = true → ys.Nodup → (∀ k, k ∈ ys ↔ k ∈ ks) → H1 p = none → Q (.ref p) (upd H1 p (.lst (ys.map V.str)))
theorem pe_sortSet {X : Cx} {a : Expr} {ta : TE} {p p2 q pos : Pos} (hc : X.calm = true) (hg : Gl X "sorted") (hm : X.mg "sorted" = none) (hg2 : Gl X "set") (hm2 : X.mg "set" = none) (ha : PE X a ta)
    (na : starEach [a] X.env = (false, eval a X.env) :: starEach [] X.env := by rfl) : PE X (.Call (.Name "sorted" p) [.Call (.Name "set" p2) [a] [] q] [] pos) (tSortSet X.K ta) := by
  refine ⟨fun pins s σ H Q I h => Call_ (ld_blt I hg hm boot_sorted (PyProof.Rows.callWith_builtin1 (PyProof.Rows.args_cons (Call_ (ld_blt I hg2 hm2 boot_set (PyProof.Rows.callWith_type1 (PyProof.Rows.args_cons (thn (ha.run pins s σ H _ I h) fun v s1 ⟨x, H1, I1, r1, q1⟩ => PyProof.Rows.args_nil ?_) na) na rfl))) rfl) rfl rfl))⟩
  obtain ⟨l, ks, rfl, hq, h64, q1⟩ := q1
  cases r1
  obtain ⟨its, r, pl, hz⟩ := I1.list hq
  refine set_of_listS (ks := ks) (I1.ok.hd hc) pl.isList (by simpa using vals_strsS r) (by unfold scanBound; omega) fun h' tk hmade => PyProof.Rows.args_nil ?_
  obtain ⟨⟨c, hcl, made⟩, old⟩ := hmade
  have I2 : Inv X pins σ H1 { s1 with heap := h', toks := tk } := I1.kept fun b o e => old b o (Heap.lt_size e) e
  refine sorted_setS (s := { s1 with heap := h', toks := tk }) made (I2.ok.hd hc) (by omega) fun s' p out c2 ns k g o hp hg' hi hs hnd hmm hl => ?_
  have hlen : (ns.map V.str).length ≤ sizeLine := by rw [List.length_map, hl, sizeLine_eq]; omega
  have hn : H1 p = none := I2.hok.fresh hp
  have J : Inv X pins σ (upd H1 p (.lst (ns.map V.str))) { { s1 with heap := h', toks := tk } with heap := s'.heap, gens := s'.gens, drawn := s'.drawn, toks := s'.toks } :=
    I2.call (ch := []) (Un.laid k hp hn) (I2.hok.laid k hp ⟨hlen, out.toList, c2, vals_of_strs hi, hg'⟩) (by rw [g]; exact I2.bare) (fun _ z => nomatch z)
  have e : s' = { { s1 with heap := h', toks := tk } with heap := s'.heap, gens := s'.gens, drawn := s'.drawn, toks := s'.toks } := by
    cases s'
    cases s1
    cases o
    rfl
  rw [e]
  exact ⟨.ref p, _, J, rfl, q1 ns p hs hnd (fun k => by rw [hmm k]; unfold memS; simp) hn⟩
end L2
namespace DL
open PySem L2
variable {G : Glb} {X : Cx} {W : WX}
/-- each once -/
def ddS : List Str → List Str
  | [] => []
  | a :: l => if a ∈ l then ddS l else a :: ddS l
theorem mem_ddS {x : Str} : ∀ {l : List Str}, x ∈ ddS l ↔ x ∈ l
  | [] => Iff.rfl
  | a :: l => by
    unfold ddS
    split
    · rename_i h
      rw [mem_ddS, List.mem_cons]
      exact ⟨.inr, fun z => z.elim (fun e => e ▸ h) id⟩
    · rw [List.mem_cons, List.mem_cons, mem_ddS]
theorem nd_ddS : ∀ l : List Str, (ddS l).Nodup
  | [] => List.nodup_nil
  | a :: l => by
    unfold ddS
    split
    · exact nd_ddS l
    · rename_i h
      exact List.nodup_cons.mpr ⟨fun z => h (mem_ddS.mp z), nd_ddS l⟩
/-- sorted(set(xs)): texts, each once -/
def eSortSet (f : EM) : EM := fun env S => (f env S).bind fun d S => match (listD S d).bind strsD with
  | some ns => if ns.length < 64 then .ok (.lst ((sortS (ddS ns)).map .str)) S else .bad
  | none => .bad
theorem de_sortSet {a : Expr} {f : EM} {p p2 q pos : Pos} (hc : X.calm = true) (hK : X.K = G.K) (hg : Gl X "sorted") (hm : X.mg "sorted" = none) (hg2 : Gl X "set") (hm2 : X.mg "set" = none) (ha : DE G X W a f)
    (na : starEach [a] X.env = (false, eval a X.env) :: starEach [] X.env := by rfl) : DE G X W (.Call (.Name "sorted" p) [.Call (.Name "set" p2) [a] [] q] [] pos) (eSortSet f) := by
  obtain ⟨t, pt, qt⟩ := ha
  refine ⟨_, pe_sortSet hc hg hm hg2 hm2 pt na, fun σ H env φ S Q s re h => ?_⟩
  refine qt σ H env φ S _ s re (PostE.bind h fun d S1 φ1 H1 v e1 s1 i1 h1 => ?_)
  split at h1
  · rename_i ns e
    obtain ⟨es, e2, e3⟩ := Option.bind_eq_some_iff.mp e
    obtain ⟨l, xs, rfl, r, il⟩ := listD_sq s1 i1 e2
    rw [strsD_is e3] at il
    split at h1
    · rename_i hl
      refine ⟨l, ns, rfl, by rw [hK, ← il.strs]; exact r, hl, fun ys p hs hnd hmem hp => ?_⟩
      have e' : ys = sortS (ddS ns) := List.Perm.eq_of_pairwise (fun a b _ _ h h' => leS_anti h h') (sortedS_pw hs) (sortS_pw _) (((List.perm_ext_iff_of_nodup hnd (nd_ddS ns)).mpr fun k => by rw [hmem k, mem_ddS]).trans (sortS_perm _).symm)
      subst e'
      have il2 : ∀ (φ : Fi) (H : Hp) (l : List Str), IsL G φ H (l.map .str) (l.map .str) := fun φ H l => by
        induction l with
        | nil => rfl
        | cons a l ih => exact ⟨_, _, rfl, rfl, ih⟩
      exact lst_new s1 (il2 _ _ _) h1 hp
    · exact False.elim h1
  · exact False.elim h1
@[simp] theorem eSortSet_is {f : EM} {env : EnvD} {S : Store} : eSortSet f env S = (f env S).bind fun d S => match (listD S d).bind strsD with
  | some ns => if ns.length < 64 then .ok (.lst ((sortS (ddS ns)).map .str)) S else .bad
  | none => .bad := rfl
end DL
end
section
/-! Some statements of a suite, as a scope. -/
namespace L2
open PySem PySem.Spec PyProof.Rows
theorem wp_execs_append {M : Model} {Γ : PySem.Ctx} {A : Around} {env : Env} {ys : List Stmt} {Q : Flow → Shared → Prop} {E : Value → Shared → Prop} (hΓ : Γ.In A) : ∀ (xs : List Stmt) (p : Pos) (s : Shared),
    Sem.wp M Γ (execs xs env) (fun f _ s' => match f with | .next => wpAny M A (execs ys env) Q E s' | f => Q f s') (fun e _ s' => E e s') p s →
    Sem.wp M Γ (execs (xs ++ ys) env) (fun f _ s' => Q f s') (fun e _ s' => E e s') p s
  | [], p, s, h => h Γ p hΓ
  | x :: xs, p, s, h => by
    rw [List.cons_append, execs_cons, Sem.wp_bind']
    rw [execs_cons, Sem.wp_bind'] at h
    refine Sem.wp_mono M Γ _ (fun f p' s' h' => ?_) (fun _ _ _ h' => h') _ _ h
    cases f with
    | next => exact wp_execs_append hΓ xs p' s' h'
    | _ => exact h'
theorem pss_app {X : Cx} {as rest : List Stmt} {t u : TS} (h1 : PSs X as t) (h2 : PSs X rest u) : PSs X (as ++ rest) (tSeq t u) := by
  refine ⟨fun pins s σ H D I h => fun Γ p hΓ => wp_execs_append hΓ as p s ?_⟩
  refine Sem.wp_mono _ Γ _ (fun f p' s1 q => ?_) (fun _ _ _ h' => h') _ _ (h1.run pins s σ H { D with nx := u D } I h Γ p hΓ)
  cases f with
  | next =>
    obtain ⟨σ', H', I', q⟩ := q
    exact h2.run pins s1 σ' H' D I' q
  | ret v => exact q
  | brk => exact q
  | cont => exact q
end L2
namespace DL
open PySem L2
variable {G : Glb} {X : Cx} {W : WX}
theorem dss_app {as rest : List Stmt} {f g : SM} (ha : DSs G X W as f) (hb : DSs G X W rest g) : DSs G X W (as ++ rest) (sSeq f g) := by
  obtain ⟨t, p, q⟩ := ha
  obtain ⟨u, p', q'⟩ := hb
  refine ⟨_, pss_app p p', fun σ H env φ S N s re h => ?_⟩
  refine q σ H env φ S _ s re ?_
  unfold sSeq at h
  cases hr : f env S with
  | nx e S1 =>
    rw [hr] at h
    exact fun φ1 H1 σ1 e1 s1 r1 => q' σ1 H1 e φ1 S1 _ s1 r1 (PostS.ext e1 h)
  | rt d S1 => rw [hr] at h; exact h
  | bk d S1 => rw [hr] at h; exact h
  | ct d S1 => rw [hr] at h; exact h
  | ex x d S1 => rw [hr] at h; exact h
  | bad => rw [hr] at h; exact h
theorem dss_pre3 {a b c : Stmt} {rest : List Stmt} {f g : SM} (ha : DSs G X W [a, b, c] f) (hb : DSs G X W rest g) : DSs G X W (a :: b :: c :: rest) (sSeq (sScope f) g) := dss_app (dss_scope ha) hb
theorem dss_pre4 {a b c d : Stmt} {rest : List Stmt} {f g : SM} (ha : DSs G X W [a, b, c, d] f) (hb : DSs G X W rest g) : DSs G X W (a :: b :: c :: d :: rest) (sSeq (sScope f) g) := dss_app (dss_scope ha) hb
end DL
end
section
/-! sorted, of a list of whole numbers, as a cell. -/
namespace DL
open PySem L2
variable {G : Glb} {X : Cx} {W : WX}
def bSortedM (ds : List D) (S : Store) : ER := match ds with
  | [d] => match (listD S d).bind intsD with
    | some ns => .ok (.loc S.length) (S ++ [.lst ((sortI ns).map .int)])
    | none => .bad
  | _ => .bad
theorem dc_sortedM (hK : X.K = G.K) : DCall G X (.builtin "sorted") bSortedM := by
  refine ⟨_, cr_sortedI, fun W φ S H σ ds xs Q s i h => ?_⟩
  unfold bSortedM at h
  split at h
  · obtain ⟨x, rfl, k⟩ := IsL.inv1 i
    split at h
    · rename_i ns e
      obtain ⟨es, e1, e2⟩ := Option.bind_eq_some_iff.mp e
      obtain ⟨a, ys, rfl, r, q⟩ := listD_sq s k e1
      rw [intsD_is e2] at q
      refine ⟨a, ns, rfl, by rw [hK, ← q.ints]; exact r, fun ns' p hp hw hn => ?_⟩
      rw [sorted_uniq (hp.trans (sortI_perm ns).symm) hw (sortI_pw ns)]
      exact lst_newM s IsL.of_ints h hn
    · exact bad_no h
  · exact bad_no h
theorem bSortedM_c {l : Nat} {ns : List Int} {S : Store} (h : S[l]? = some (.lst (ns.map .int))) : bSortedM [.loc l] S = .ok (.loc S.length) (S ++ [.lst ((sortI ns).map .int)]) := by
  unfold bSortedM
  dsimp only
  have e : listD S (.loc l) = some (ns.map .int) := by unfold listD; dsimp only; rw [h]
  rw [e, Option.bind_some, intsD_map]
end DL
end
section
namespace DS.K20
open PySem L2  
open DL
noncomputable section
def g_boxes_k1 : EM :=
(eFldC ["Place", "Race"] "name" (eVar 6))
def g_boxes_e1 : EM :=
(eFldC ["Place"] "district" (eVar 6))
def g_boxes_b1 : SM :=
(sIf (eOp opEq (eOp opIxX (eVar 2) (eOp opIxX (eVar 5) (eC (.int 0)))) (eC (.str "counts")))
(sDrop (eMeth "list" mAppend (eSetd (eVar 4) (eOp opIxX (eVar 3) (eOp opIxX (eVar 5) (eC (.int 3)))) (eLstM lNil)) (lCons (eOp opIxX (eVar 5) (eC (.int 0))) lNil)))
sSkip)
def g_boxes_e2 : EM :=
(eCallB bSortedM (lCons (eOp opIxX (eVar 4) (eVar 7)) lNil))
def g_boxes : SM :=
(sSeq (sAsg (eDc (iSeq (eVar 0)) (bName 6) eYes g_boxes_k1 g_boxes_e1 [6]) (bName 3))
(sSeq (sAsg eDic0M (bName 4))
(sSeq (sFor (iSeq (eVar 1)) (bName 5) g_boxes_b1)
(sRet (eDc (iSeq (eCallB bSortedD (lCons (eVar 4) lNil))) (bName 7) eYes (eVar 7) g_boxes_e2 [7])))))
def d_boxes : FD := fnF .keep 8 g_boxes
def g_law_b1 : SM :=
(sPutX (eVar 9) (eOp opIxX (eVar 10) (eC (.int 0))) (eCall d__law_pick (lCons (eVar 3) (lCons (eVar 8) lNil))))
def g_law_e1 : EM :=
(eOp opIxX (eVar 16) (eC (.int 1)))
def g_law_t1 : EM :=
(eOp opEq (eOp opIxX (eVar 16) (eC (.int 1))) (eVar 11))
def g_law_e2 : EM :=
(eOp opIxX (eVar 16) (eC (.int 0)))
def g_law_t2 : EM :=
(eOp opIn (eOp opIxX (eVar 10) (eC (.int 3))) (eVar 12))
def g_law_e3 : EM :=
(eOp opIxX (eVar 10) (eC (.int 0)))
def g_law_t3 : EM :=
(eOp opEq (eOp opIxX (eVar 9) (eVar 17)) (eC (.str "counts")))
def g_law_b2 : SM :=
(sSeq (sAsg (eLc (iSeq (eVar 5)) (bName 16) g_law_t1 g_law_e2 [16]) (bName 12))
(sSeq (sAsg (eCallB bSortedX (lCons (eLc (iSeq (eVar 6)) (bName 10) g_law_t2 g_law_e3 [10]) lNil)) (bName 13))
(sSeq (sAsg (eLc (iSeq (eVar 13)) (bName 17) g_law_t3 (eVar 17) [17]) (bName 13))
(sIf (eOp opNe (eVar 13) (eLst lNil))
(sPutX (eVar 7) (eVar 11) (eVar 13))
sSkip))))
def g_law_b3 : SM :=
(sDrop (eMeth "list" mAppend (eOp opIxX (eVar 15) (eVar 11)) (lCons (eNeg (eC (.int 1))) lNil)))
def g_law_b4 : SM :=
(sScope
(sSeq (sAsg (eCall d__law_begun (lCons (eVar 2) (lCons (eVar 1) lNil))) (bName 3))
(sSeq (sAsg (eCall d__law_names (lCons (eVar 3) lNil)) (bName 4))
(sSeq (sAsg (eCall d__law_grounds (lCons (eVar 3) (lCons (eVar 4) lNil))) (bName 5))
(sSeq (sScope (sSeq (sPar 6 7 (lCons (eCall d__law_some_uses (lCons (eVar 3) (lCons (eVar 5) (lCons (eVar 4) lNil)))) (lCons eDic0M lNil)))
(sSeq (sAsg (eTup (lCons (eCall d__law_pick (lCons (eVar 3) (lCons (eLst (lCons (eLst (lCons (eC (.str "counts")) (lCons (eC (.str "out")) (lCons (eC (.str "doubled")) lNil)))) (lCons (eLst (lCons (eC (.str "counts")) lNil)) (lCons (eLst (lCons (eC (.str "out")) (lCons (eC (.str "doubled")) lNil))) lNil)))) lNil))) (lCons eDic0M lNil))) (bTup (bCons (bName 8) (bCons (bName 9) bNil))))
(sSeq (sFor (iSeq (eVar 6)) (bName 10) g_law_b1)
(sFor (iSeq (eSortSet (eLc (iSeq (eVar 5)) (bName 16) eYes g_law_e1 [16]))) (bName 11) g_law_b2)))))
(sSeq (sScope (sSeq (sPar 14 15 (lCons (eCallB bDictX (lCons (eVar 9) lNil)) (lCons (eCall d_boxes (lCons (eCall d__law_made (lCons (eVar 5) lNil)) (lCons (eVar 6) (lCons (eVar 9) lNil)))) lNil)))
(sSeq (sIf (eOr (eNot (eCall d__law_alike (lCons (eVar 15) (lCons (eVar 7) lNil)))) (eOp opNe (eVar 9) (eVar 14)))
(sRet (eC (.bl false)))
sSkip)
(sFor (iAny (eVar 15)) (bName 11) g_law_b3))))
(sIf (eNot (eCall d__law_alike (lCons (eCall d_boxes (lCons (eCallB bTuple (lCons (eCall d__law_made (lCons (eVar 5) lNil)) lNil)) (lCons (eCallB bTuple (lCons (eVar 6) lNil)) (lCons (eVar 9) lNil)))) (lCons (eVar 7) lNil))))
(sRet (eC (.bl false)))
sSkip)))))))
def g_law : SM :=
(sSeq (sFor (iEnumX (lCons (eSlice (eOp opAdd (eVar 0) (eLst (lCons (eC (.int 3)) lNil))) oNone (oSome (eCallB (bII maxII) (lCons (eC (.int 1)) (lCons (eCallB (bII minII) (lCons (eC (.int 10)) (lCons (eCallB bLenX (lCons (eVar 0) lNil)) lNil))) lNil))))) lNil)) (bTup (bCons (bName 1) (bCons (bName 2) bNil))) g_law_b4)
(sRet (eC (.bl true))))
def d_law : FD := fnF .pure 18 g_law
end
end DS.K20
end
section
set_option maxHeartbeats 1000000
/-! Uses, their ranks; the best one of each voter: by the program's way and by the law's. -/
namespace DS
open PySem L2 DL
structure Us where
  sb : Nat
  vt : Str
  wy : Str
  pl : Str
  hr : Nat
  tk : Int
deriving DecidableEq
namespace Us
def D (u : Us) : DL.D := .tup [.int (u.sb : Nat), .str u.vt, .str u.wy, .str u.pl, .int (u.hr : Nat), .int u.tk]
end Us
def wix (w : Str) : Nat := if w = "place" then 0 else if w = "letter" then 1 else 2
/-- the program's rank -/
def kp (u : Us) : List Key := [.inl (wix u.wy : Nat), .inl (u.hr : Nat), .inr u.pl, .inl (u.sb : Nat)]
/-- b is the best one of its voter's among some -/
def Top (P : List Us) (b : Us) : Prop := b ∈ P ∧ ∀ c ∈ P, c.vt = b.vt → c = b ∨ ltKs (kp b) (kp c) = true
end DS
end
section
namespace DR
open PySem L2 DL
noncomputable section
def g_Race_init : SM :=
(sSeq (sIf (eOr (eNot (eCall d_are_unlike_names (lCons (eTup (lCons (eVar 1) lNil)) (lCons (eC (.int 1)) (lCons (eC (.int 1)) lNil))))) (eNot (eCall d_is_one_of (lCons (eVar 2) (lCons (eC (.tup [.str "one", .str "any", .str "rank"])) lNil)))))
(sRaise "NoRace")
sSkip)
(sSeq (sIf (eOr (eNot (eCall d_are_unlike_names (lCons (eVar 3) (lCons (eC (.int 2)) (lCons (eC (.int 5)) lNil))))) (eNot (eCall d_are_unlike_names (lCons (eVar 4) (lCons (eC (.int 1)) (lCons (eC (.int 6)) lNil))))))
(sRaise "NoRace")
sSkip)
(sSeq (sIf (eOr (eNot (eCall d_is_between (lCons (eVar 5) (lCons (eC (.int 1)) (lCons (eCallB bLenX (lCons (eVar 3) lNil)) lNil))))) (eNot (eCall d_is_way (lCons (eVar 2) (lCons (eVar 6) (lCons (eVar 5) lNil))))))
(sRaise "NoRace")
sSkip)
(sSeq (sFldC ["Place", "Race"] "name" (eVar 0) (eVar 1))
(sSeq (sFldC ["Race"] "kind" (eVar 0) (eVar 2))
(sSeq (sFldC ["Race"] "choices" (eVar 0) (eVar 3))
(sSeq (sFldC ["Race"] "districts" (eVar 0) (eVar 4))
(sSeq (sFldC ["Race"] "seats" (eVar 0) (eVar 5))
(sFldC ["Race"] "by" (eVar 0) (eVar 6))))))))))
def d_Race_init : FD := fnF .pure 7 g_Race_init
def g__law_names_b1 : SM :=
(sDrop (eMeth "list" mAppend (eVar 7) (lCons (eOp opAdd (eOp opIxX (eVar 3) (eOp opMod (eOp opAdd (eVar 4) (eOp opMul (eC (.int 5)) (eVar 8))) (eC (.int 26)))) (eOp opIxX (eVar 6) (eOp opMod (eOp opAdd (eVar 5) (eOp opMul (eVar 8) (eVar 8))) (eC (.int 6))))) lNil)))
def g__law_names_e1 : EM :=
(eOp opAdd (eVar 9) (eC (.str "yyy")))
def g__law_names : SM :=
(sSeq (sAsg (eMeth "str" mSplit (eC (.str "one any rank runoff pairs in out place letter doubt counts doubled admit")) (lCons (eC (.str " ")) lNil)) (bName 2))
(sSeq (sAsg (eOp opAdd (eVar 2) (eMeth "str" mSplit (eC (.str "refuse again stands counted vote roll uses mixed late result use close")) (lCons (eC (.str " ")) lNil))) (bName 2))
(sSeq (sAsg (eOp opAdd (eVar 2) (eLst (lCons (eC (.str "each")) (lCons (eC (.str "odd")) (lCons (eC (.str "spoilt")) (lCons (eC (.str "good")) (lCons (eC (.str "blank")) lNil))))))) (bName 2))
(sSeq (sAsg (eC (.str "abcdefghijklmnopqrstuvwxyz")) (bName 3))
(sSeq (sPar 4 5 (lCons (eCall d__law_next (lCons (eVar 0) (lCons (eC (.int 26)) lNil))) (lCons (eCall d__law_next (lCons (eVar 0) (lCons (eC (.int 6)) lNil))) lNil)))
(sSeq (sIf (eOp opEq (eCall d__law_next (lCons (eVar 0) (lCons (eC (.int 4)) lNil))) (eC (.int 0)))
(sRet (eSlice (eOp opAdd (eSlice (eVar 2) (oSome (eVar 4)) oNone) (eSlice (eVar 2) oNone (oSome (eVar 4)))) oNone (oSome (eVar 1))))
sSkip)
(sSeq (sAsg (eLst (lCons (eC (.str "x")) (lCons (eC (.str "")) (lCons (eC (.str "qxqxqxq")) (lCons (eC (.str "xx")) (lCons (eC (.str "qxqxq")) (lCons (eC (.str "zq")) lNil))))))) (bName 6))
(sSeq (sAsg (eLstM lNil) (bName 7))
(sSeq (sFor (iRange1 (lCons (eC (.int 26)) lNil)) (bName 8) g__law_names_b1)
(sRet (eSlice (eOp opAdd (eVar 7) (eLc (iSeq (eVar 3)) (bName 9) eYes g__law_names_e1 [9])) oNone (oSome (eVar 1)))))))))))))
def d__law_names : FD := fnF .pure 10 g__law_names
end
end DR
end
section
/-! o.f += n, o.f -= n of an instance's cell. -/
namespace DL
open PySem L2
variable {G : Glb} {X : Cx} {W : WX}
end DL
end
section
/-! for .. in enumerate(a), zip(a, b), where a, b may be lists' cells that stay as they are meanwhile. -/
namespace DL
open PySem L2
variable {G : Glb} {X : Cx} {W : WX}
inductive CR where
  | ok (chk : Store → Prop) (ds : List D) (S : Store)
  | ex (x : Exc) (S : Store)
  | bad
structure FeedsC (G : Glb) (φ0 : Fi) (H0 : Hp) (J : It) (chk : Store → Prop) (ds : List D) : Prop where
  go : ∀ φ S H (i : Nat) d, Ext φ0 H0 φ H → SOk G φ S H → chk S → ds[i]? = some d → J.go i H ∧ ∀ x H', J.yld i H x H' → Ext φ H φ H' ∧ SOk G φ S H' ∧ Is G φ H' d x
  stop : ∀ φ S H, Ext φ0 H0 φ H → SOk G φ S H → chk S → J.stop ds.length H
/-! what may be walked -/
/-! how they are reckoned -/
section
variable {S S' S1 : Store} {env e : EnvD} {r : SR} {d x : D}
end
end DL
end
section
/-! Dict comprehensions over a list that may be a cell (it stays as it is while it is walked). -/
namespace DL
open PySem L2
variable {G : Glb} {X : Cx} {W : WX}
open Classical in
noncomputable def dcDX (w : Option Nat) (ds0 : List D) (b : D → EnvD → Option EnvD) (tt ek ev : EM) (env : EnvD) : Kds → List D → Store → Option (Kds × Store)
  | acc, [], S => if okW w ds0 S then some (acc, S) else none
  | acc, d :: ds, S => if okW w ds0 S then (match b d env with
    | none => none
    | some e1 => match tt e1 S with
      | .ok (.bl true) S1 => match ek e1 S1 with
        | .ok kd S2 => match ev e1 S2 with
          | .ok y S3 => match keyD kd with
            | some k => if sz (acc.length + 1) then dcDX w ds0 b tt ek ev env (putD acc k y) ds S3 else none
            | none => none
          | _ => none
        | _ => none
      | .ok (.bl false) S1 => dcDX w ds0 b tt ek ev env acc ds S1
      | _ => none) else none
noncomputable def eDcX (f : EM) (b : D → EnvD → Option EnvD) (tt ek ev : EM) (vs : List Nat) : EM := fun env S => (f env S).bind fun d S => match itemsS d S with
  | some (w, ds) => match dcDX w ds b tt ek ev (wipeD env vs) [] ds S with
    | some (acc, S) => .ok (.dic (acc.map (·.1)) (acc.map (·.2))) S
    | none => .bad
  | none => .bad
noncomputable def eDcXM (f : EM) (b : D → EnvD → Option EnvD) (tt ek ev : EM) (vs : List Nat) : EM := fun env S => (f env S).bind fun d S => match itemsS d S with
  | some (w, ds) => match dcDX w ds b tt ek ev (wipeD env vs) [] ds S with
    | some (acc, S) => .ok (.loc S.length) (S ++ [.dic acc])
    | none => .bad
  | none => .bad
section
variable {kx vx tg iter : Expr} {ifs : List Expr} {scope : Scope} {own : List (PySem.Str × Nat)} {pos : Pos} {f : EM} {b : D → EnvD → Option EnvD} {ft fk fe : EM} {vs : List Nat}
end
section
variable {env : EnvD} {S : Store}
@[simp] theorem eDcX_is {f : EM} {b : D → EnvD → Option EnvD} {tt ek ev : EM} {vs : List Nat} : eDcX f b tt ek ev vs env S = (f env S).bind fun d S => match itemsS d S with
  | some (w, ds) => match dcDX w ds b tt ek ev (wipeD env vs) [] ds S with
    | some (acc, S) => .ok (.dic (acc.map (·.1)) (acc.map (·.2))) S
    | none => .bad
  | none => .bad := rfl
@[simp] theorem eDcXM_is {f : EM} {b : D → EnvD → Option EnvD} {tt ek ev : EM} {vs : List Nat} : eDcXM f b tt ek ev vs env S = (f env S).bind fun d S => match itemsS d S with
  | some (w, ds) => match dcDX w ds b tt ek ev (wipeD env vs) [] ds S with
    | some (acc, S) => .ok (.loc S.length) (S ++ [.dic acc])
    | none => .bad
  | none => .bad := rfl
end
end DL
end
section
namespace DR
open PySem L2 DL
noncomputable section
end
end DR
end
section
/-! Loops, comprehensions and equality of plain lists. -/
namespace DL
open PySem L2
theorem forD_cons {b : D → EnvD → Option EnvD} {body : SM} {d : D} {ds : List D} {e : EnvD} {S : Store} : forD b body (d :: ds) e S = match b d e with
    | none => .bad
    | some e1 => match body e1 S with
      | .nx e2 S2 => forD b body ds e2 S2
      | .ct e2 S2 => forD b body ds e2 S2
      | .bk e2 S2 => .nx e2 S2
      | .rt d S2 => .rt d S2
      | .ex x e2 S2 => .ex x e2 S2
      | .bad => .bad := rfl
/-- a loop that is never left, by what holds of the turn, the slots and the store -/
theorem forD_inv {b : D → EnvD → Option EnvD} {body : SM} (P : Nat → EnvD → Store → Prop) : ∀ (ds : List D) (n : Nat) {e : EnvD} {S : Store}, P n e S →
    (∀ i d e S, ds[i]? = some d → P (n + i) e S → ∃ e1, b d e = some e1 ∧ ∃ e2 S2, (body e1 S = .nx e2 S2 ∨ body e1 S = .ct e2 S2) ∧ P (n + i + 1) e2 S2) → ∃ e' S', forD b body ds e S = .nx e' S' ∧ P (n + ds.length) e' S'
  | [], n, e, S, h0, _ => ⟨e, S, rfl, h0⟩
  | d :: ds, n, e, S, h0, st => by
    obtain ⟨e1, hb, e2, S2, hg, h1⟩ := st 0 d e S rfl h0
    obtain ⟨e', S', hf, h2⟩ := forD_inv P ds (n + 1) (e := e2) (S := S2) h1 fun i d' e S hd hp => by
      have := st (i + 1) d' e S (by simpa using hd) (by rw [show n + (i + 1) = n + 1 + i by omega]; exact hp)
      rw [show n + (i + 1) + 1 = n + 1 + i + 1 by omega] at this
      exact this
    refine ⟨e', S', ?_, by rw [show n + (d :: ds).length = n + 1 + ds.length by simp; omega]; exact h2⟩
    rw [forD_cons, hb]
    dsimp only
    rcases hg with hg | hg <;> rw [hg] <;> exact hf
theorem range_get {lo : Int} {n i : Nat} {d : D} (h : (rangeD lo n)[i]? = some d) : i < n ∧ d = .int (lo + (i : Nat)) := by
  unfold rangeD at h
  rw [List.getElem?_map] at h
  obtain ⟨j, e1, e2⟩ := Option.map_eq_some_iff.mp h
  obtain ⟨hl, e3⟩ := List.getElem?_eq_some_iff.mp e1
  simp at hl e3
  subst e3 e2
  exact ⟨hl, rfl⟩
@[simp] theorem range_len {lo : Int} {n : Nat} : (rangeD lo n).length = n := by simp [rangeD]
/-- for k in range(n) -/
theorem forD_range {b : D → EnvD → Option EnvD} {body : SM} (P : Nat → EnvD → Store → Prop) {lo : Int} {n : Nat} {e : EnvD} {S : Store} (h0 : P 0 e S)
    (st : ∀ i e S, i < n → P i e S → ∃ e1, b (.int (lo + (i : Nat))) e = some e1 ∧ ∃ e2 S2, (body e1 S = .nx e2 S2 ∨ body e1 S = .ct e2 S2) ∧ P (i + 1) e2 S2) : ∃ e' S', forD b body (rangeD lo n) e S = .nx e' S' ∧ P n e' S' := by
  obtain ⟨e', S', h1, h2⟩ := forD_inv (b := b) (body := body) P (rangeD lo n) 0 h0 fun i d e S hd hp => by
    obtain ⟨hl, rfl⟩ := range_get hd
    have := st i e S hl (by simpa using hp)
    simpa using this
  exact ⟨e', S', h1, by simpa using h2⟩
/-- a comprehension whose parts leave the store: filter, then map -/
theorem lcD_fm {b : D → EnvD → Option EnvD} {tt elt : EM} {env : EnvD} {S : Store} (p : D → Bool) (f : D → D) : ∀ (ds acc : List D),
    (∀ d ∈ ds, ∃ e1, b d env = some e1 ∧ tt e1 S = .ok (.bl (p d)) S ∧ (p d = true → elt e1 S = .ok (f d) S)) → acc.length + ds.length ≤ 16777216 → lcD b tt elt env acc ds S = .ok (acc ++ (ds.filter p).map f) S
  | [], acc, _, _ => by simp
  | d :: ds, acc, h, hl => by
    obtain ⟨e1, hb, ht, he⟩ := h d List.mem_cons_self
    have hl' : acc.length + (ds.length + 1) ≤ 16777216 := hl
    unfold lcD
    rw [hb]
    dsimp only
    rw [ht]
    cases hp : p d with
    | true =>
      dsimp only
      rw [he hp]
      dsimp only
      rw [if_pos (show sz (acc.length + 1) by unfold sz; omega), lcD_fm p f ds _ (fun d' hd => h d' (List.mem_cons_of_mem _ hd)) (by simp; omega)]
      simp [List.filter_cons, hp]
    | false =>
      dsimp only
      rw [lcD_fm p f ds acc (fun d' hd => h d' (List.mem_cons_of_mem _ hd)) (by omega)]
      simp [List.filter_cons, hp]
theorem lcD_map {b : D → EnvD → Option EnvD} {elt : EM} {env : EnvD} {S : Store} (f : D → D) (ds : List D)
    (h : ∀ d ∈ ds, ∃ e1, b d env = some e1 ∧ elt e1 S = .ok (f d) S) (hl : ds.length ≤ 16777216) : lcD b eYes elt env [] ds S = .ok (ds.map f) S := by
  rw [lcD_fm (tt := eYes) (fun _ => true) f ds [] (fun d hd => let ⟨e1, a, c⟩ := h d hd; ⟨e1, a, rfl, fun _ => c⟩) (by simpa using hl), List.nil_append, List.filter_eq_self.mpr (fun _ _ => rfl)]
/-! equality of lists and tuples of whole numbers -/
theorem pys_ints {S : Store} : ∀ ns : List Int, D.pys S (ns.map .int) = some (ns.map .int)
  | [] => rfl
  | n :: ns => by simp [D.pys, D.py, pys_ints ns]
theorem eqv_ints : ∀ as bs : List Int, PyData.eqvAll (as.map .int) (bs.map .int) = decide (as = bs)
  | [], [] => rfl
  | [], _ :: _ => rfl
  | _ :: _, [] => rfl
  | a :: as, b :: bs => by
    show (PyData.eqv (.int a) (.int b) && PyData.eqvAll (as.map .int) (bs.map .int)) = _
    rw [eqv_ints as bs]
    show ((a == b) && decide (as = bs)) = _
    by_cases h : a = b
    · subst h; simp
    · simp [h]
/-- data whose texts may be laid, not deeper than k -/
def Shp (k : Nat) (p : PyData) : Prop := p.canLay0 = true ∧ p.depth ≤ k
theorem Shp.shaped {k : Nat} {p : PyData} (h : Shp k p) (hk : k ≤ 64) : SeqAt.shaped p = true := by
  unfold SeqAt.shaped
  rw [h.1, decide_eq_true (by have := h.2; omega : p.depth ≤ 64)]; rfl
theorem Shp.mono {k m : Nat} {p : PyData} (h : Shp k p) (hk : k ≤ m) : Shp m p := ⟨h.1, Nat.le_trans h.2 hk⟩
theorem Shp.int {k : Nat} (i : Int) : Shp k (.int i) := ⟨rfl, Nat.zero_le _⟩
theorem Shp.bool {k : Nat} (i : Bool) : Shp k (.bool i) := ⟨rfl, Nat.zero_le _⟩
theorem Shp.none {k : Nat} : Shp k .none := ⟨rfl, Nat.zero_le _⟩
theorem Shp.str {k : Nat} {x : Str} (h : PyData.strOk x = true) : Shp k (.str x) := ⟨h, Nat.zero_le _⟩
theorem Shp.all {k : Nat} : ∀ {ps : List PyData}, (∀ p ∈ ps, Shp k p) → PyData.canLayAll0 ps = true ∧ PyData.depthAll ps ≤ k
  | [], _ => ⟨rfl, Nat.zero_le _⟩
  | p :: ps, h => by
    obtain ⟨h1, h2⟩ := h p List.mem_cons_self
    obtain ⟨h3, h4⟩ := Shp.all fun q hq => h q (List.mem_cons_of_mem _ hq)
    refine ⟨?_, Nat.max_le.mpr ⟨h2, h4⟩⟩
    show (p.canLay0 && PyData.canLayAll0 ps) = true
    rw [h1, h3]; rfl
theorem Shp.list {k : Nat} {ps : List PyData} (h : ∀ p ∈ ps, Shp k p) : Shp (k + 1) (.list ps) := ⟨(Shp.all h).1, Nat.succ_le_succ (Shp.all h).2⟩
theorem Shp.tuple {k : Nat} {ps : List PyData} (h : ∀ p ∈ ps, Shp k p) : Shp (k + 1) (.tuple ps) := ⟨(Shp.all h).1, Nat.succ_le_succ (Shp.all h).2⟩
theorem Shp.ints {k : Nat} {ns : List Int} : ∀ p ∈ ns.map PyData.int, Shp k p := fun p hp => by
  obtain ⟨i, _, rfl⟩ := List.mem_map.mp hp
  exact .int i
theorem opEqB_of {neg : Bool} {x y : D} {S : Store} {p q : PyData} (hx : x.pyO S = some p) (hy : y.pyO S = some q) (h1 : SeqAt.shaped p = true) (h2 : SeqAt.shaped q = true) (ns : ∀ a b, x = .str a → y = .str b → False) :
    opEqB neg x y S = .ok (.bl (if neg then !PyData.eqv p q else PyData.eqv p q)) S := by
  unfold opEqB
  split
  · exact (ns _ _ rfl rfl).elim
  · rw [hx, hy]
    simp only [h1, h2, Bool.and_self, if_true]
@[simp] theorem opEq_tints {as bs : List Int} {S : Store} : opEq (.tup (as.map .int)) (.tup (bs.map .int)) S = .ok (.bl (decide (as = bs))) S := by
  rw [opEq, opEqB_of (p := .tuple (as.map .int)) (q := .tuple (bs.map .int)) (by simp [D.pyO, D.py, pys_ints]) (by simp [D.pyO, D.py, pys_ints]) ((Shp.tuple (k := 0) Shp.ints).shaped (by decide)) ((Shp.tuple (k := 0) Shp.ints).shaped (by decide)) (fun _ _ h => by cases h), PyData.eqv, eqv_ints]
  rfl
@[simp] theorem opNe_tints {as bs : List Int} {S : Store} : opNe (.tup (as.map .int)) (.tup (bs.map .int)) S = .ok (.bl (!decide (as = bs))) S := by
  rw [opNe, opEqB_of (p := .tuple (as.map .int)) (q := .tuple (bs.map .int)) (by simp [D.pyO, D.py, pys_ints]) (by simp [D.pyO, D.py, pys_ints]) ((Shp.tuple (k := 0) Shp.ints).shaped (by decide)) ((Shp.tuple (k := 0) Shp.ints).shaped (by decide)) (fun _ _ h => by cases h), PyData.eqv, eqv_ints]
  rfl
@[simp] theorem opEq_lints {as bs : List Int} {S : Store} : opEq (.lst (as.map .int)) (.lst (bs.map .int)) S = .ok (.bl (decide (as = bs))) S := by
  rw [opEq, opEqB_of (p := .list (as.map .int)) (q := .list (bs.map .int)) (by simp [D.pyO, D.py, pys_ints]) (by simp [D.pyO, D.py, pys_ints]) ((Shp.list (k := 0) Shp.ints).shaped (by decide)) ((Shp.list (k := 0) Shp.ints).shaped (by decide)) (fun _ _ h => by cases h), PyData.eqv, eqv_ints]
  rfl
@[simp] theorem opNe_lints {as bs : List Int} {S : Store} : opNe (.lst (as.map .int)) (.lst (bs.map .int)) S = .ok (.bl (!decide (as = bs))) S := by
  rw [opNe, opEqB_of (p := .list (as.map .int)) (q := .list (bs.map .int)) (by simp [D.pyO, D.py, pys_ints]) (by simp [D.pyO, D.py, pys_ints]) ((Shp.list (k := 0) Shp.ints).shaped (by decide)) ((Shp.list (k := 0) Shp.ints).shaped (by decide)) (fun _ _ h => by cases h), PyData.eqv, eqv_ints]
  rfl
@[simp] theorem exit_bl0 {b : Bool} {S : Store} : exitD .pure [] (.bl b) S = .ok (.bl b) [] := exit_of (d' := .bl b) rfl (by simp)
theorem cut_map {α β : Type} (f : α → β) (xs : List α) (lo hi : Option Int) : cutD (xs.map f) lo hi = (cutD xs lo hi).map f := by
  simp [cutD]
theorem cut_len {α : Type} (xs : List α) (lo hi : Option Int) : (cutD xs lo hi).length ≤ xs.length := by
  unfold cutD
  rw [List.length_take, List.length_drop]; omega
/-- the law's own loop: every cell of the script, with its number -/
theorem law_loop {b : D → EnvD → Option EnvD} {body : SM} {e : EnvD} {S : Store} (P : EnvD → Prop) (ms : List Int) (h0 : P e)
    (st : ∀ (i : Nat) (c : Int) (e : EnvD), i < ms.length → P e → ∃ e1 e2, b (.tup [.int (i : Nat), .int c]) e = some e1 ∧ body e1 S = .nx e2 S ∧ P e2) : ∃ e', forD b body (enumD 0 (ms.map .int)) e S = .nx e' S := by
  obtain ⟨e', S', h, _, rfl⟩ := forD_inv (b := b) (body := body) (fun _ e S' => P e ∧ S' = S) (enumD 0 (ms.map .int)) 0 (e := e) (S := S) ⟨h0, rfl⟩ (by
    rintro i d e S' hd ⟨hp, rfl⟩
    obtain ⟨x, hx, rfl⟩ := enumD_get 0 _ i d hd
    rw [List.getElem?_map] at hx
    obtain ⟨c, hc, rfl⟩ := Option.map_eq_some_iff.mp hx
    have hi : i < ms.length := (List.getElem?_eq_some_iff.mp hc).1
    obtain ⟨e1, e2, h1, h2, h3⟩ := st i c e hi hp
    rw [Nat.zero_add]
    exact ⟨e1, h1, e2, S', .inl h2, h3, rfl⟩)
  exact ⟨e', h⟩
end DL
end
section
/-! The laws' draws. -/
namespace DL
open PySem L2
/-- a row of draws of which at most m were drawn -/
structure Drw (c : Cell) (m : Nat) : Prop where
  ex : ∃ a s k : Int, c = .lst [.int a, .int s, .int k] ∧ 0 ≤ a ∧ 0 ≤ s ∧ s < 2147483648 ∧ 0 ≤ k ∧ k ≤ m
theorem Drw.mono {c : Cell} {m n : Nat} (d : Drw c m) (h : m ≤ n) : Drw c n := by
  obtain ⟨a, s, k, e, h1, h2, h3, h4, h5⟩ := d.ex
  exact ⟨a, s, k, e, h1, h2, h3, h4, by omega⟩
theorem next_ok {S : Store} {l : Nat} {c : Cell} {m : Nat} {n : Int} (hc : cel S l = some c) (d : Drw c m) (hm : m ≤ 100000) (hn : 0 < n) (hn2 : n < 1073741824) :
    ∃ x c', d__law_next [.loc l, .int n] S = .ok (.int x) (S.set l c') ∧ 0 ≤ x ∧ x < n ∧ Drw c' (m + 1) := by
  obtain ⟨a, s, k, rfl, ha, hs, hs2, hk, hk2⟩ := d.ex
  by_cases h0 : 0 < a
  · refine ⟨a % n, .lst [.int (a / n), .int s, .int k], ?_, Int.emod_nonneg _ (by omega), Int.emod_lt_of_pos _ hn, ⟨_, _, _, rfl, Int.ediv_nonneg ha (by omega), hs, hs2, hk, by omega⟩⟩
    simp [d__law_next, g__law_next, hc, h0, hn, hn2]
  · have e1 : (s * (2 * (k + 1) + 1) + 7919 * (k + 1) * (k + 1) + 11).natAbs < 2 ^ 64 := by
      have h1 : s * (2 * (k + 1) + 1) ≤ 2147483648 * (2 * (k + 1) + 1) := Int.mul_le_mul_of_nonneg_right (by omega) (by omega)
      have h2 : 0 ≤ s * (2 * (k + 1) + 1) := Int.mul_nonneg hs (by omega)
      have h3 : 7919 * (k + 1) * (k + 1) ≤ 7919 * 100001 * (k + 1) := Int.mul_le_mul_of_nonneg_right (by omega) (by omega)
      have h4 : 0 ≤ 7919 * (k + 1) * (k + 1) := Int.mul_nonneg (by omega) (by omega)
      omega
    refine ⟨((s * (2 * (k + 1) + 1) + 7919 * (k + 1) * (k + 1) + 11) ^ 5 % 2147483647) / 11 % n, .lst [.int a, .int s, .int (k + 1)], ?_, Int.emod_nonneg _ (by omega), Int.emod_lt_of_pos _ hn, ⟨_, _, _, rfl, ha, hs, hs2, by omega, by omega⟩⟩
    have m1 : s.natAbs < 18446744073709551616 := by omega
    have m2 : (k + 1).natAbs < 18446744073709551616 := by omega
    simp [d__law_next, g__law_next, hc, h0, hn, hn2, m1, m2, e1]
theorem begun_ok {S : Store} {a k : Int} (hk : 0 ≤ k) (hk2 : k ≤ 100000) : ∃ c, d__law_begun [.int a, .int k] S = .ok (.loc S.length) (S ++ [c]) ∧ Drw c 0 := by
  have h1 : 0 ≤ a % 2147483647 := Int.emod_nonneg _ (by omega)
  have h2 : a % 2147483647 < 2147483647 := Int.emod_lt_of_pos _ (by omega)
  have e1 : (a % 2147483647 * 48271 + 104729 * k + 7).natAbs < 2 ^ 64 := by omega
  have m1 : (a % 2147483647).natAbs < 18446744073709551616 := by omega
  have h3 : 0 ≤ (a % 2147483647 * 48271 + 104729 * k + 7) ^ 3 % 2147483629 := Int.emod_nonneg _ (by omega)
  have h4 : (a % 2147483647 * 48271 + 104729 * k + 7) ^ 3 % 2147483629 < 2147483629 := Int.emod_lt_of_pos _ (by omega)
  by_cases h : 1000000000000000000 ≤ a
  · refine ⟨.lst [.int (a - 1000000000000000000), .int (1 + (a % 2147483647 * 48271 + 104729 * k + 7) ^ 3 % 2147483629), .int 0], ?_, ⟨_, _, _, rfl, by omega, by omega, by omega, by omega, by omega⟩⟩
    simp [d__law_begun, g__law_begun, h, e1]
  · refine ⟨.lst [.int 0, .int (1 + (a % 2147483647 * 48271 + 104729 * k + 7) ^ 3 % 2147483629), .int 0], ?_, ⟨_, _, _, rfl, by omega, by omega, by omega, by omega, by omega⟩⟩
    simp [d__law_begun, g__law_begun, h, e1]
theorem atI_mem {α : Type} {ds : List α} {i : Int} (h0 : 0 ≤ i) (h1 : i < ds.length) : ∃ d ∈ ds, atI ds i = some d := by
  obtain ⟨j, rfl⟩ := Int.eq_ofNat_of_zero_le h0
  have hj : j < ds.length := by omega
  exact ⟨ds[j], List.getElem_mem hj, atI_nat (List.getElem?_eq_getElem hj)⟩
theorem pick_ok {S : Store} {l : Nat} {c : Cell} {m : Nat} {ds : List D} (hc : cel S l = some c) (d : Drw c m) (hm : m ≤ 100000) (hn : ds ≠ []) (hn2 : ds.length < 1073741824) :
    ∃ x ∈ ds, ∃ c', d__law_pick [.loc l, .lst ds] S = .ok x (S.set l c') ∧ Drw c' (m + 1) := by
  have hp : 0 < ds.length := List.length_pos_iff.mpr hn
  obtain ⟨i, c', e, h0, h1, d'⟩ := next_ok (n := ds.length) hc d hm (by omega) (by omega)
  obtain ⟨x, hx, e2⟩ := atI_mem h0 h1
  refine ⟨x, hx, c', ?_, d'⟩
  simp [d__law_pick, g__law_pick, e, e2]
end DL
namespace DL
open PySem L2
/-! the same where the draws' cell stands alone -/
theorem next1 {c : Cell} {m : Nat} (n : Int) (d : Drw c m) (hm : m ≤ 100000) (hn : 0 < n) (hn2 : n < 1073741824) :
    ∃ x c', d__law_next [.loc 0, .int n] [c] = .ok (.int x) [c'] ∧ 0 ≤ x ∧ x < n ∧ Drw c' (m + 1) := next_ok (S := [c]) (l := 0) rfl d hm hn hn2
theorem begun1 (a : Int) {k : Int} (hk : 0 ≤ k) (hk2 : k ≤ 100000) : ∃ c, d__law_begun [.int a, .int k] [] = .ok (.loc 0) [c] ∧ Drw c 0 := begun_ok (S := []) hk hk2
end DL
end
section
/-! Shares in lowest terms: the program's own lowest and the laws'. -/
namespace DL
open PySem L2
@[simp] theorem sWhile_is {c : EM} {b : SM} {e : EnvD} {S : Store} : sWhile c b e S = whileD c b bigN e S := rfl
/-- the share x / y in lowest terms -/
def lowD (x y : Nat) : D := .tup [.int ((x / Nat.gcd x y : Nat) : Int), .int ((y / Nat.gcd x y : Nat) : Int)]
/-- n / d is x / y in lowest terms -/
structure IsLow (n d x y : Nat) : Prop where
  eq : n * y = x * d
  cop : Nat.gcd n d = 1
  pos : 0 < d
theorem isLow_of {x y : Nat} (hy : 0 < y) : IsLow (x / Nat.gcd x y) (y / Nat.gcd x y) x y := by
  have g0 : 0 < Nat.gcd x y := Nat.gcd_pos_of_pos_right _ hy
  refine ⟨?_, Nat.gcd_div_gcd_div_gcd_of_pos_right hy, Nat.div_pos (Nat.gcd_le_right _ hy) g0⟩
  have h1 := Nat.div_mul_cancel (Nat.gcd_dvd_left x y)
  have h2 := Nat.div_mul_cancel (Nat.gcd_dvd_right x y)
  generalize Nat.gcd x y = g at *
  generalize x / g = a at *
  generalize y / g = b at *
  rw [← h1, ← h2, Nat.mul_assoc, Nat.mul_comm b g]
theorem IsLow.unique {n d n' d' x y : Nat} (h : IsLow n d x y) (h' : IsLow n' d' x y) (hy : 0 < y) : n = n' ∧ d = d' := by
  have e : n * d' = n' * d := by
    have h1 := h.eq
    have h2 := h'.eq
    have : (n * d') * y = (n' * d) * y := by
      calc (n * d') * y = (n * y) * d' := by rw [Nat.mul_assoc, Nat.mul_comm d' y, ← Nat.mul_assoc]
        _ = (x * d) * d' := by rw [h1]
        _ = (x * d') * d := by rw [Nat.mul_assoc, Nat.mul_comm d d', ← Nat.mul_assoc]
        _ = (n' * y) * d := by rw [h2]
        _ = (n' * d) * y := by rw [Nat.mul_assoc, Nat.mul_comm y d, ← Nat.mul_assoc]
    exact Nat.eq_of_mul_eq_mul_right hy this
  have d1 : d ∣ d' := by
    have : d ∣ n * d' := by rw [e]; exact Nat.dvd_mul_left _ _
    exact Nat.Coprime.dvd_of_dvd_mul_left (show Nat.Coprime d n by rw [Nat.Coprime, Nat.gcd_comm]; exact h.cop) this
  have d2 : d' ∣ d := by
    have : d' ∣ n' * d := by rw [← e]; exact Nat.dvd_mul_left _ _
    exact Nat.Coprime.dvd_of_dvd_mul_left (show Nat.Coprime d' n' by rw [Nat.Coprime, Nat.gcd_comm]; exact h'.cop) this
  have ed := Nat.dvd_antisymm d1 d2
  subst ed
  exact ⟨Nat.eq_of_mul_eq_mul_right h.pos e, rfl⟩
theorem IsLow.low {n d x y : Nat} (h : IsLow n d x y) (hy : 0 < y) : lowD x y = .tup [.int n, .int d] := by
  obtain ⟨e1, e2⟩ := (isLow_of (x := x) hy).unique h hy
  unfold lowD
  rw [e1, e2]
theorem IsLow.le {n d x y : Nat} (h : IsLow n d x y) (hy : 0 < y) : d ≤ y := by
  have : d ∣ n * y := by rw [h.eq]; exact Nat.dvd_mul_left _ _
  exact Nat.le_of_dvd hy (Nat.Coprime.dvd_of_dvd_mul_left (show Nat.Coprime d n by rw [Nat.Coprime, Nat.gcd_comm]; exact h.cop) this)
end DL
end
section
/-! numbers modulo 2147483647; polynomials through points -/
namespace Mp
abbrev p : Int := 2147483647
/-- alike modulo p -/
def E (a b : Int) : Prop := a % 2147483647 = b % 2147483647
theorem E.refl (a : Int) : E a a := rfl
theorem E.symm {a b : Int} (h : E a b) : E b a := Eq.symm h
theorem E.trans {a b c : Int} (h : E a b) (k : E b c) : E a c := Eq.trans h k
theorem E.of {a b : Int} (h : a = b) : E a b := by rw [h]; exact E.refl b
theorem E.mod (a : Int) : E (a % 2147483647) a := by unfold E; omega
theorem E.add {a b c d : Int} (h : E a b) (k : E c d) : E (a + c) (b + d) := by unfold E at *; omega
theorem E.sub {a b c d : Int} (h : E a b) (k : E c d) : E (a - c) (b - d) := by unfold E at *; omega
theorem E.neg {a b : Int} (h : E a b) : E (-a) (-b) := by unfold E at *; omega
theorem E.mul {a b c d : Int} (h : E a b) (k : E c d) : E (a * c) (b * d) := by
  unfold E at *
  rw [Int.mul_emod, h, k, ← Int.mul_emod]
theorem E.pow {a b : Int} (h : E a b) : ∀ n : Nat, E (a ^ n) (b ^ n)
  | 0 => by rw [Int.pow_zero, Int.pow_zero]; exact E.refl 1
  | n + 1 => by rw [Int.pow_succ, Int.pow_succ]; exact (E.pow h n).mul h
theorem E.eq {a b : Int} (h : E a b) (h0 : 0 ≤ a) (h1 : a < 2147483647) (h2 : 0 ≤ b) (h3 : b < 2147483647) : a = b := by unfold E at h; omega
theorem mod_lt (a : Int) : 0 ≤ a % 2147483647 ∧ a % 2147483647 < 2147483647 := by omega
/-- a number with an inverse -/
def Inv (a : Int) : Prop := ∃ b, E (a * b) 1
theorem Inv.mul {a b : Int} (h : Inv a) (k : Inv b) : Inv (a * b) := by
  obtain ⟨c, hc⟩ := h
  obtain ⟨d, hd⟩ := k
  refine ⟨c * d, (E.of (by grind : a * b * (c * d) = (a * c) * (b * d))).trans ?_⟩
  exact (hc.mul hd).trans (E.of (by decide))
theorem Inv.cancel {a b : Int} (h : Inv a) (z : E (a * b) 0) : E b 0 := by
  obtain ⟨c, hc⟩ := h
  have h1 : E (c * (a * b)) (c * 0) := (E.refl c).mul z
  have h2 : E (c * (a * b)) (1 * b) := (E.of (by grind : c * (a * b) = (a * c) * b)).trans (hc.mul (E.refl b))
  have h3 := h2.symm.trans h1
  rw [Int.one_mul, Int.mul_zero] at h3
  exact h3
/-! ### powers -/
/-- powers with a remainder taken at each step; a proof by reckoning -/
def pw (a : Nat) : List Bool → Nat → Nat
  | [], acc => acc
  | b :: bs, acc => pw a bs ((if b then acc * acc % 2147483647 * a else acc * acc) % 2147483647)
/-- the exponent p - 1, bit by bit -/
def eb : List Bool := [true, true, true, true, true, true, true, true, true, true, true, true, true, true, true, true, true, true, true, true, true, true, true, true, true, true, true, true, true, true, false]
end Mp
end
section
namespace Mp
/-! ### polynomials: lists of coefficients, the least power first -/
def ev : List Int → Int → Int
  | [], _ => 0
  | a :: c, x => a + x * ev c x
/-- one step of a product with X - x, b ahead -/
def less (x : Int) : Int → List Int → List Int
  | b, [] => [b % 2147483647]
  | b, a :: c => (b - x * a) % 2147483647 :: less x a c
/-! ### as many roots as coefficients: all are 0 -/
def zeros (c : List Int) : Prop := ∀ a ∈ c, E a 0
/-- division by X - x -/
def quo (x : Int) : List Int → List Int
  | [] => []
  | [_] => []
  | _ :: b :: c => ev (b :: c) x :: quo x (b :: c)
theorem quo_len (x : Int) : ∀ c : List Int, (quo x c).length = c.length - 1
  | [] => rfl
  | [_] => rfl
  | _ :: b :: c => by simp [quo, quo_len x (b :: c)]
theorem quo_ev (x t : Int) : ∀ c : List Int, ev c t = ev c x + (t - x) * ev (quo x c) t
  | [] => by show (0 : Int) = 0 + (t - x) * 0; grind
  | [a] => by show a + t * 0 = a + x * 0 + (t - x) * 0; grind
  | a :: b :: c => by
    have ih := quo_ev x t (b :: c)
    show a + t * ev (b :: c) t = a + x * ev (b :: c) x + (t - x) * (ev (b :: c) x + t * ev (quo x (b :: c)) t)
    rw [ih]
    grind
theorem quo_zeros (x : Int) : ∀ c : List Int, zeros (quo x c) → E (ev c x) 0 → zeros c
  | [], _, _ => fun a h => by simp at h
  | [a], _, h => fun b hb => by
    simp at hb; subst hb
    have : ev [b] x = b := by show b + x * 0 = b; grind
    rw [this] at h; exact h
  | a :: b :: c, hz, h => by
    have h1 : E (ev (b :: c) x) 0 := hz _ (by simp [quo])
    have h2 := quo_zeros x (b :: c) (fun z hz' => hz z (by simp [quo, hz'])) h1
    intro z hm
    rcases List.mem_cons.mp hm with e | hm
    · subst e
      have h3 : E (z + x * ev (b :: c) x) 0 := h
      have h4 : E (x * ev (b :: c) x) (x * 0) := (E.refl x).mul h1
      have h5 := h3.sub h4
      have e1 : z + x * ev (b :: c) x - x * ev (b :: c) x = z := by grind
      have e2 : (0 : Int) - x * 0 = 0 := by grind
      rw [e1, e2] at h5
      exact h5
    · exact h2 z hm
/-- numbers that differ by what has an inverse -/
def Apart : List Int → Prop
  | [] => True
  | x :: xs => (∀ y ∈ xs, Inv (y - x)) ∧ Apart xs
theorem roots : ∀ (xs c : List Int), Apart xs → c.length ≤ xs.length → (∀ x ∈ xs, E (ev c x) 0) → zeros c
  | [], c, _, hl, _ => by
    have : c = [] := List.length_eq_zero_iff.mp (by simpa using hl)
    subst this
    intro a h; simp at h
  | x :: xs, c, ha, hl, hr => by
    have h0 := hr x (by simp)
    refine quo_zeros x c (roots xs (quo x c) ha.2 (by rw [quo_len]; simp at hl; omega) fun y hy => ?_) h0
    have h1 := hr y (by simp [hy])
    rw [quo_ev x y c] at h1
    have h2 := h1.sub h0
    have e1 : ev c x + (y - x) * ev (quo x c) y - ev c x = (y - x) * ev (quo x c) y := by grind
    have e2 : (0 : Int) - 0 = 0 := by decide
    rw [e1, e2] at h2
    exact (ha.1 y hy).cancel h2
/-- the differences of coefficients, and of worths -/
def dif : List Int → List Int → List Int
  | a :: c, b :: d => (a - b) :: dif c d
  | c, [] => c
  | [], d => d.map (fun b => -b)
theorem ev_neg (t : Int) : ∀ d : List Int, ev (d.map fun b => -b) t = -ev d t
  | [] => by show (0 : Int) = -0; decide
  | b :: d => by
    show -b + t * ev (d.map fun b => -b) t = -(b + t * ev d t)
    rw [ev_neg t d]; grind
theorem dif_ev (t : Int) : ∀ c d : List Int, ev (dif c d) t = ev c t - ev d t
  | [], [] => by show (0 : Int) = 0 - 0; decide
  | a :: c, [] => by show a + t * ev c t = a + t * ev c t - 0; grind
  | [], b :: d => by
    show ev ((b :: d).map fun b => -b) t = 0 - ev (b :: d) t
    rw [ev_neg]; grind
  | a :: c, b :: d => by
    show a - b + t * ev (dif c d) t = a + t * ev c t - (b + t * ev d t)
    rw [dif_ev t c d]; grind
theorem dif_len : ∀ c d : List Int, (dif c d).length = max c.length d.length
  | [], [] => rfl
  | _ :: _, [] => by simp [dif]
  | [], _ :: _ => by simp [dif]
  | a :: c, b :: d => by simp [dif, dif_len c d]
/-- two polynomials of few coefficients, alike at as many places: alike at every place, and in their first coefficients -/
theorem same {xs c d : List Int} (ha : Apart xs) (hc : c.length ≤ xs.length) (hd : d.length ≤ xs.length) (h : ∀ x ∈ xs, E (ev c x) (ev d x)) (t : Int) : E (ev c t) (ev d t) := by
  have hz := roots xs (dif c d) ha (by rw [dif_len]; omega) fun x hx => by
    rw [dif_ev]
    have := (h x hx).sub (E.refl (ev d x))
    have e : ev d x - ev d x = 0 := by omega
    rw [e] at this
    exact this
  have : ∀ l : List Int, zeros l → E (ev l t) 0 := fun l => by
    induction l with
    | nil => intro _; exact E.refl 0
    | cons a l ih =>
      intro hl
      have h1 := hl a (by simp)
      have h2 := ih fun b hb => hl b (by simp [hb])
      have h3 := h1.add ((E.refl t).mul h2)
      have e : (0 : Int) + t * 0 = 0 := by grind
      rw [e] at h3
      exact h3
  have h1 := this _ hz
  rw [dif_ev] at h1
  have h2 := h1.add (E.refl (ev d t))
  have e1 : ev c t - ev d t + ev d t = ev c t := by omega
  have e2 : (0 : Int) + ev d t = ev d t := by omega
  rw [e1, e2] at h2
  exact h2
end Mp
end
section
namespace Mp
/-! ### the polynomial through points -/
abbrev Pts := List (Int × Int)
def ownStep (x : Int) (o : List Int × Int) (q : Int × Int) : List Int × Int := if q.1 ≠ x then (less q.1 0 o.1, o.2 * (x - q.1) % 2147483647) else o
def own (pts : Pts) (x : Int) : List Int × Int := pts.foldl (ownStep x) ([1], 1)
/-- a number times its back is 1 -/
def Good (s : Int) : Prop := E (s * s ^ 2147483645) 1
theorem Good.one : Good 1 := by unfold Good; rw [Int.one_pow]; exact E.of (by decide)
theorem Good.mul {a b : Int} (h : Good a) (k : Good b) : Good (a * b) := by
  unfold Good at *
  rw [Int.mul_pow]
  exact (E.of (by grind : a * b * (a ^ 2147483645 * b ^ 2147483645) = a * a ^ 2147483645 * (b * b ^ 2147483645))).trans ((h.mul k).trans (E.of (by decide)))
theorem Good.mod {a : Int} (h : Good a) : Good (a % 2147483647) := by
  unfold Good at *
  exact ((E.mod a).mul ((E.mod a).pow _)).trans h
theorem Good.inv {a : Int} (h : Good a) : Inv a := ⟨_, h⟩
/-- points of unlike keepers, whose differences are good -/
structure Fine (pts : Pts) : Prop where
  nd : (pts.map (·.1)).Nodup
  good : ∀ q ∈ pts, ∀ r ∈ pts, r.1 ≠ q.1 → Good (q.1 - r.1)
theorem Fine.apart : ∀ {pts : Pts}, Fine pts → Apart (pts.map (·.1))
  | [], _ => trivial
  | q :: pts, f => by
    have nd := f.nd
    rw [List.map_cons, List.nodup_cons] at nd
    refine ⟨fun y hy => ?_, Fine.apart ⟨nd.2, fun a ha b hb => f.good a (by simp [ha]) b (by simp [hb])⟩⟩
    obtain ⟨r, hr, rfl⟩ := List.mem_map.mp hy
    exact (f.good r (by simp [hr]) q (by simp) fun e => nd.1 (by rw [e]; exact List.mem_map.mpr ⟨r, hr, rfl⟩)).inv
end Mp
end
section
/-! Keepers' numbers: what the program's defs reckon. -/
namespace DL
open PySem L2 Mp
variable {S : Store}
theorem whole_ok (i : Int) : d_is_whole [.int i] S = .ok (.bl true) S := by simp [d_is_whole, g_is_whole, Ty.isa]
theorem between_ok (i a b : Int) : d_is_between [.int i, .int a, .int b] S = .ok (.bl (decide (a ≤ i ∧ i ≤ b))) S := by
  by_cases h1 : a ≤ i <;> by_cases h2 : i ≤ b <;> simp [d_is_between, g_is_between, whole_ok, h1, h2]
end DL
end
section
namespace DL
open PySem L2 Mp
variable {S : Store}
/-- pairs of whole numbers -/
def prD (q : Int × Int) : D := .tup [.int q.1, .int q.2]
/-- points, a list or a tuple -/
def PtsD (pts : Pts) (pd : D) : Prop := pd = .lst (pts.map prD) ∨ pd = .tup (pts.map prD)
theorem PtsD.seq {pts : Pts} {pd : D} (h : PtsD pts pd) {env : EnvD} {f : EM} (hf : f env S = .ok pd S) : iSeq f env S = .ok (pts.map prD) S := by
  rcases h with rfl | rfl <;> simp [hf]
theorem PtsD.len {pts : Pts} {pd : D} (h : PtsD pts pd) : bLenX [pd] S = .ok (.int pts.length) S := by
  rcases h with rfl | rfl <;> simp
/-- points that may be told -/
structure Sane (pts : Pts) : Prop where
  x : ∀ q ∈ pts, 1 ≤ q.1 ∧ q.1 ≤ 9
  v : ∀ q ∈ pts, 0 ≤ q.2 ∧ q.2 < 2147483647
  len : pts.length ≤ 100
end DL
end
section
namespace DL
open PySem L2 Mp
variable {S : Store}
end DL
end
section
/-! The laws' helpers: like, shuffled, low. -/
namespace DL
open PySem L2 Mp
variable {S : Store}
theorem opEq_nil : opEq (.lst []) (.lst []) S = .ok (.bl true) S := by
  have := opEq_lints (as := []) (bs := []) (S := S)
  simpa using this
theorem filter_no (l : List D) : (l.filter fun _ => false) = [] := List.filter_eq_nil_iff.mpr (by simp)
theorem atI_ofNat {α : Type} {l : List α} {i : Nat} (h : i < l.length) : atI l (i : Int) = some l[i] := by
  have : (i : Int) < l.length := by omega
  simp [atI, ixN, this, h]
theorem Drw.bel {c : Cell} {m n : Nat} (d : Drw c m) : c.bel n = true := by
  obtain ⟨a, s, k, rfl, _⟩ := d.ex
  rfl
theorem frzDs_map {α : Type} {ρ : Nat → Option D} {f : α → D} (hf : ∀ a, frzD ρ (f a) = some (f a)) : ∀ l : List α, frzDs ρ (l.map f) = some (l.map f)
  | [] => rfl
  | a :: l => by simp [frzDs, hf a, frzDs_map hf l]
theorem seqIndex_nat {i n : Nat} (h : i < n) : seqIndex? (i : Int) n = some i := by
  unfold seqIndex?
  have h0 : ¬ ((i : Int) < 0) := by omega
  simp [h0, h]
theorem eraseIdx_mapD {α : Type} (f : α → D) : ∀ (l : List α) (j : Nat), (l.map f).eraseIdx j = (l.eraseIdx j).map f
  | [], _ => rfl
  | _ :: _, 0 => rfl
  | a :: l, j + 1 => by
    show f a :: (l.map f).eraseIdx j = f a :: (l.eraseIdx j).map f
    rw [eraseIdx_mapD f l j]
theorem perm_out {α : Type} : ∀ (l : List α) (j : Nat) (h : j < l.length), (l[j] :: l.eraseIdx j).Perm l
  | _ :: _, 0, _ => .refl _
  | a :: l, j + 1, h => (List.Perm.swap _ _ _).trans ((perm_out l j (by simpa using h)).cons a)
end DL
end
section
/-! Names, as the laws with races draw them; what the program's forms say of them. -/
namespace DR
open PySem L2 DL
variable {S : Store}
def abc : Str := "abcdefghijklmnopqrstuvwxyz"
theorem opIn_sg {c : Nat} {z : Str} : opIn (.str ⟨#[c]⟩) (.str z) S = .ok (.bl (decide (c ∈ z.cps.toList))) S := rfl
/-- a good name -/
def goodN (s : Str) : Bool := (decide (1 ≤ s.length) && (decide (s ≠ "zz") && decide (s ≠ "zzzzzzzz"))) && decide (s.length ≤ 8) && s.cps.toList.all fun c => decide (c ∈ abc.cps.toList)
theorem mapTrue (ds : List D) : ds.map (fun _ => D.bl true) = (ds.map fun _ => true).map D.bl := by simp
theorem allTr {α : Type} (l : List α) : (l.all fun _ => true) = true := by simp
theorem isName_ok {s : Str} (h : goodN s = true) : d_is_name [.str s] S = .ok (.bl true) S := by
  unfold goodN at h
  simp only [Bool.and_eq_true, decide_eq_true_eq, List.all_eq_true] at h
  obtain ⟨⟨h1, h2⟩, h3⟩ := h
  have sl : (signsD s).length = s.length := by simp [signsD, Str.length]
  have e := lcD_map (S := S) (b := bName 1) (elt := g_is_name_e1) (env := [some (.str s), none]) (fun _ => .bl true) (signsD s) (fun d hd => by
    unfold signsD at hd
    obtain ⟨c, hc, rfl⟩ := List.mem_map.mp hd
    have q : (c ∈ (Str.ofString "abcdefghijklmnopqrstuvwxyz").cps.toList) := h3 c hc
    refine ⟨_, rfl, ?_⟩
    simp only [g_is_name_e1, eOp_is, eC_is]
    rw [eVar_at (d := .str ⟨#[c]⟩) (by rfl)]
    simp only [ER.bind_ok, opIn_sg, q, decide_true]) (by omega)
  rw [mapTrue] at e
  have z : sz s.length := sz_is (by omega)
  have i1 : (1 : Int) ≤ s.length := by have := h1.1; omega
  have i2 : (s.length : Int) ≤ 8 := by omega
  simp [d_is_name, g_is_name, Ty.isa, z, i1, i2, e, allTr, -List.map_map, -List.map_const]
theorem keysD_strs : ∀ ns : List Str, keysD (ns.map .str) = some (ns.map Sum.inr)
  | [] => rfl
  | n :: ns => by
    show ((keyD (.str n)).bind fun k => (keysD (ns.map .str)).map (k :: ·)) = _
    rw [keysD_strs ns]; rfl
theorem dcnt_strs {ns : List Str} (nd : ns.Nodup) : dcnt (ns.map fun i => (.inr i : Key)) = ns.length := by
  have e : (ns.map fun i => (.inr i : Key)).length = ns.length := by simp
  rw [← e]
  exact (dcnt_eq _).mpr (nd.map _ (fun a b h z => h (Sum.inr.inj z)))
theorem few_s {n : Nat} (h : n ≤ 1000) : few n := by
  unfold few
  have : 1002 < scanBound := by decide
  omega
theorem unlike_ok {ns : List Str} {a b : Int} (hg : ∀ n ∈ ns, goodN n = true) (nd : ns.Nodup) (h1 : a ≤ ns.length) (h2 : (ns.length : Int) ≤ b) (hl : ns.length ≤ 1000) :
    d_are_unlike_names [.tup (ns.map .str), .int a, .int b] S = .ok (.bl true) S := by
  have e := lcD_map (S := S) (b := bName 3) (elt := g_are_unlike_names_e1) (env := [some (.tup (ns.map .str)), some (.int a), some (.int b), none]) (fun _ => .bl true) (ns.map .str) (fun d hd => by
    obtain ⟨n, hn, rfl⟩ := List.mem_map.mp hd
    exact ⟨_, rfl, by simp [g_are_unlike_names_e1, isName_ok (hg n hn)]⟩) (by simp; omega)
  rw [mapTrue] at e
  have f := few_s (n := ns.length) hl
  simp [d_are_unlike_names, g_are_unlike_names, Ty.isa, h1, h2, e, keysD_strs, dcnt_strs nd, f, allTr, -List.map_map, -List.map_const]
theorem flat_strs (ns : List Str) : (ns.map D.str).all flatD = true := by simp
theorem any_strs (s : Str) (ns : List Str) : ((ns.map D.str).any fun y => eqF y (.str s)) = decide (s ∈ ns) := by
  rw [Bool.eq_iff_iff]
  simp
theorem in_strs {s : Str} {ns : List Str} : opIn (.str s) (.tup (ns.map .str)) S = .ok (.bl (decide (s ∈ ns))) S := by
  rw [opIn_tt, flat_strs, any_strs]; simp
theorem in_strsL {s : Str} {ns : List Str} : opIn (.str s) (.lst (ns.map .str)) S = .ok (.bl (decide (s ∈ ns))) S := by
  rw [opIn_ll, flat_strs, any_strs]; simp
theorem oneOf_s {s : Str} {ns : List Str} : d_is_one_of [.str s, .tup (ns.map .str)] S = .ok (.bl (decide (s ∈ ns))) S := by
  simp only [d_is_one_of, g_is_one_of]
  by_cases h : s ∈ ns <;> simp [Ty.isa, in_strs, h, -opIn_tt]
/-! what is drawn -/
def sgs : List Str := ["a", "b", "c", "d", "e", "f", "g", "h", "i", "j", "k", "l", "m", "n", "o", "p", "q", "r", "s", "t", "u", "v", "w", "x", "y", "z"]
def tls : List Str := ["x", "", "qxqxqxq", "xx", "qxqxq", "zq"]
def own1 : List Str := ["one", "any", "rank", "runoff", "pairs", "in", "out", "place", "letter", "doubt", "counts", "doubled", "admit"]
def own2 : List Str := ["refuse", "again", "stands", "counted", "vote", "roll", "uses", "mixed", "late", "result", "use", "close"]
def own3 : List Str := ["each", "odd", "spoilt", "good", "blank"]
def own : List Str := own1 ++ own2 ++ own3
theorem split1 : Txt.split "one any rank runoff pairs in out place letter doubt counts doubled admit" " " = own1 := by decide +kernel
theorem split2 : Txt.split "refuse again stands counted vote roll uses mixed late result use close" " " = own2 := by decide +kernel
theorem signs_abc : signsD abc = sgs.map .str := by
  have : abc.cps.toList.map (fun c => (⟨#[c]⟩ : Str)) = sgs := by decide +kernel
  rw [← this]; simp [signsD]
def nmB (i t k : Nat) : Str := sgs.getD ((i + 5 * k) % 26) "" ++ tls.getD ((t + k * k) % 6) ""
def namesA (i : Nat) : List Str := (own.drop i ++ own.take i).take 8
def namesB (i t : Nat) : List Str := (List.range 8).map (nmB i t)
/-- eight unlike good names -/
structure Names (ns : List Str) : Prop where
  len : ns.length = 8
  good : ∀ n ∈ ns, goodN n = true
  nd : ns.Nodup
def okNames (ns : List Str) : Bool := decide (ns.length = 8) && ns.all goodN && decide ns.Nodup
theorem okNames_is {ns : List Str} (h : okNames ns = true) : Names ns := by
  unfold okNames at h
  simp only [Bool.and_eq_true, decide_eq_true_eq, List.all_eq_true] at h
  exact ⟨h.1.1, h.1.2, h.2⟩
theorem okA : ∀ i, i < 26 → okNames (namesA i) = true := by decide +kernel
theorem okB : ∀ i, i < 26 → ∀ t, t < 6 → okNames (namesB i t) = true := by decide +kernel
end DR
end
section
/-! The names drawn. -/
namespace DR
open PySem L2 DL
variable {S : Store}
theorem opAdd_locL {l : Nat} {a b : List D} (h : cel S l = some (.lst a)) : opAdd (.loc l) (.lst b) S = if sz (a.length + b.length) then .ok (.lst (a ++ b)) S else .bad := by
  unfold cel at h
  show (match listD S (.loc l), listD S (.lst b) with
    | some a, some b => if sz (a.length + b.length) then ER.ok (.lst (a ++ b)) S else .bad
    | _, _ => .bad) = _
  have e : listD S (.loc l) = some a := by
    unfold listD
    dsimp only
    rw [h]
  rw [e]; rfl
theorem sIx_n (n L d : Nat) : HT.sIx L d (some (n : Int)) = min n L := HT.sIx_nat L d n
theorem cut_hi {α : Type} (xs : List α) (n : Nat) : cutD xs none (some (n : Int)) = xs.take n := by
  unfold cutD
  rw [sIx_n]
  show (xs.drop 0).take (min n xs.length - 0) = _
  rw [List.drop_zero, Nat.sub_zero]
  by_cases h : n ≤ xs.length
  · rw [Nat.min_eq_left h]
  · rw [Nat.min_eq_right (by omega), List.take_length, List.take_of_length_le (by omega)]
theorem cut_lo {α : Type} (xs : List α) (n : Nat) : cutD xs (some (n : Int)) none = xs.drop n := by
  unfold cutD
  rw [sIx_n]
  show (xs.drop (min n xs.length)).take (xs.length - min n xs.length) = _
  by_cases h : n ≤ xs.length
  · rw [Nat.min_eq_left h, List.take_of_length_le (by simp)]
  · rw [Nat.min_eq_right (by omega), List.drop_length, List.drop_of_length_le (by omega)]; simp
theorem sg_at {j : Nat} (h : j < 26) : strAt abc (j : Int) = some (.str (sgs.getD j "")) := by
  have hl : abc.cps.toList.length = 26 := by decide +kernel
  have e : ∀ j, j < 26 → (⟨#[abc.cps.toList.getD j 0]⟩ : Str) = sgs.getD j "" := by decide +kernel
  unfold strAt
  rw [atI_ofNat (by omega), ← e j h]
  simp [List.getD, List.getElem?_eq_getElem (by omega : j < abc.cps.toList.length)]
theorem tl_at {j : Nat} (h : j < 6) : atI ([.str "x", .str "", .str "qxqxqxq", .str "xx", .str "qxqxq", .str "zq"] : List D) (j : Int) = some (.str (tls.getD j "")) := by
  have : ([.str "x", .str "", .str "qxqxqxq", .str "xx", .str "qxqxq", .str "zq"] : List D) = tls.map .str := rfl
  rw [this, atI_ofNat (by simp [tls]; omega)]
  simp [List.getD, List.getElem?_eq_getElem (by simp [tls]; omega : j < tls.length)]
theorem nmB_sz {i t k : Nat} : (sgs.getD ((i + 5 * k) % 26) "").length + (tls.getD ((t + k * k) % 6) "").length ≤ 8 := by
  have h1 : ∀ j, j < 26 → (sgs.getD j "").length = 1 := by decide +kernel
  have h2 : ∀ j, j < 6 → (tls.getD j "").length ≤ 7 := by decide +kernel
  have := h1 ((i + 5 * k) % 26) (Nat.mod_lt _ (by decide))
  have := h2 ((t + k * k) % 6) (Nat.mod_lt _ (by decide))
  omega
theorem loop_b0 {c : Cell} {i t k : Nat} {a b s w : Option D} {A T : D} {x y : Str} {acc : List D} (hk : k < 26) (hA : ∀ S, opIxX A (.int (((i + 5 * k) % 26 : Nat) : Int)) S = .ok (.str x) S) (hT : ∀ S, opIxX T (.int (((t + k * k) % 6 : Nat) : Int)) S = .ok (.str y) S) (hz : x.length + y.length ≤ 8) (hl : acc.length ≤ 1000) :
    g__law_names_b1 [a, b, s, some A, some (.int (i : Nat)), some (.int (t : Nat)), some T, some (.loc 1), some (.int (k : Nat)), w] [c, .lst acc] =
      .nx [a, b, s, some A, some (.int (i : Nat)), some (.int (t : Nat)), some T, some (.loc 1), some (.int (k : Nat)), w] [c, .lst (acc ++ [.str (x ++ y)])] := by
  have c1 : cel [c, .lst acc] 1 = some (.lst acc) := rfl
  have m1 : mulOk (5 : Int) (k : Int) := mulOk_l (by decide)
  have m2 : mulOk (k : Int) (k : Int) := mulOk_l (by omega)
  have e1 : ((i : Int) + 5 * (k : Int)) % 26 = (((i + 5 * k) % 26 : Nat) : Int) := by omega
  have e2 : ((t : Int) + (k : Int) * (k : Int)) % 6 = (((t + k * k) % 6 : Nat) : Int) := by
    rw [← Int.natCast_mul]; omega
  have z1 := sz_is (n := x.length + y.length) (by omega)
  have z2 : sz (acc.length + 1) := sz_is (by omega)
  simp [g__law_names_b1, c1, m1, m2, e1, e2, hA, hT, z1, z2, -Int.natCast_emod, -Int.natCast_add, -Int.natCast_mul]
theorem loop_b1 {c : Cell} {i t k : Nat} {a b s w : Option D} (hk : k < 26) :
    g__law_names_b1 [a, b, s, some (.str abc), some (.int (i : Nat)), some (.int (t : Nat)), some (.lst [.str "x", .str "", .str "qxqxqxq", .str "xx", .str "qxqxq", .str "zq"]), some (.loc 1), some (.int (k : Nat)), w] [c, .lst (((List.range k).map (nmB i t)).map .str)] =
      .nx [a, b, s, some (.str abc), some (.int (i : Nat)), some (.int (t : Nat)), some (.lst [.str "x", .str "", .str "qxqxqxq", .str "xx", .str "qxqxq", .str "zq"]), some (.loc 1), some (.int (k : Nat)), w] [c, .lst (((List.range (k + 1)).map (nmB i t)).map .str)] := by
  have z0 : sz abc.length := sz_is (by decide +kernel)
  have s1 := sg_at (j := (i + 5 * k) % 26) (Nat.mod_lt _ (by decide))
  have s2 := tl_at (j := (t + k * k) % 6) (Nat.mod_lt _ (by decide))
  have e := loop_b0 (c := c) (i := i) (t := t) (a := a) (b := b) (s := s) (w := w) (A := .str abc) (T := .lst [.str "x", .str "", .str "qxqxqxq", .str "xx", .str "qxqxq", .str "zq"]) (acc := ((List.range k).map (nmB i t)).map .str) hk
    (x := sgs.getD ((i + 5 * k) % 26) "") (y := tls.getD ((t + k * k) % 6) "") (fun S => by rw [opIxX_s, if_pos z0, s1]) (fun S => by rw [opIxX_l, s2]) nmB_sz (by simp; omega)
  rw [e, List.range_succ, List.map_append, List.map_append]
  rfl
end DR
end
section
namespace DR
open PySem L2 DL
variable {S : Store}
theorem frz_strs {ρ : Nat → Option D} (l : List Str) : frzDs ρ (l.map .str) = some (l.map .str) := frzDs_map (fun _ => rfl) l
theorem sp1 {c : Cell} : mSplit (.str "one any rank runoff pairs in out place letter doubt counts doubled admit") [.str " "] [c] = .ok (.lst (own1.map .str)) [c] := by
    show (if ((" " : Str).length == 0) = false ∧ ("one any rank runoff pairs in out place letter doubt counts doubled admit" : Str).length ≤ 10000000 then ER.ok (D.lst ((Txt.split "one any rank runoff pairs in out place letter doubt counts doubled admit" " ").map D.str)) [c] else ER.bad) = _
    rw [split1]
    exact if_pos ⟨by decide +kernel, by decide +kernel⟩
theorem sp2 {c : Cell} : mSplit (.str "refuse again stands counted vote roll uses mixed late result use close") [.str " "] [c] = .ok (.lst (own2.map .str)) [c] := by
    show (if ((" " : Str).length == 0) = false ∧ ("refuse again stands counted vote roll uses mixed late result use close" : Str).length ≤ 10000000 then ER.ok (D.lst ((Txt.split "refuse again stands counted vote roll uses mixed late result use close" " ").map D.str)) [c] else ER.bad) = _
    rw [split2]
    exact if_pos ⟨by decide +kernel, by decide +kernel⟩
theorem ad1 {c : Cell} : opAdd (.lst (own1.map .str)) (.lst (own2.map .str)) [c] = .ok (.lst ((own1 ++ own2).map .str)) [c] := by
    have l1 : own1.length = 13 := rfl
    have l2 : own2.length = 12 := rfl
    rw [opAdd_ll, if_pos (sz_is (by rw [List.length_map, List.length_map, l1, l2]; decide)), List.map_append]
theorem ad2 {c : Cell} : opAdd (.lst ((own1 ++ own2).map .str)) (.lst (own3.map .str)) [c] = .ok (.lst (own.map .str)) [c] := by
    have l1 : own1.length = 13 := rfl
    have l2 : own2.length = 12 := rfl
    have l3 : own3.length = 5 := rfl
    rw [opAdd_ll, if_pos (sz_is (by rw [List.length_map, List.length_map, List.length_append, l1, l2, l3]; decide)), ← List.map_append]; rfl

theorem namesA_run {c c1 c2 c3 : Cell} {i t n : Nat} (hn : n ≤ 8) (hi : i < 26) (n1 : d__law_next [.loc 0, .int 26] [c] = .ok (.int (i : Nat)) [c1]) (n2 : d__law_next [.loc 0, .int 6] [c1] = .ok (.int (t : Nat)) [c2]) (n3 : d__law_next [.loc 0, .int 4] [c2] = .ok (.int 0) [c3]) :
    g__law_names [some (.loc 0), some (.int (n : Nat)), none, none, none, none, none, none, none, none] [c] = .rt (.lst (((namesA i).take n).map .str)) [c3] := by
  have ty : ∀ s, tyD "str" [c] (.str s) = true := fun _ => rfl
  have ad1 := ad1 (c := c)
  have ad2 := ad2 (c := c)
  have sp1 := sp1 (c := c)
  have sp2 := sp2 (c := c)
  have ad3 : opAdd (.lst ((own.drop i).map .str)) (.lst ((own.take i).map .str)) [c3] = .ok (.lst ((own.drop i ++ own.take i).map .str)) [c3] := by
      have : own.length = 30 := rfl
      rw [opAdd_ll, if_pos (sz_is (by simp; omega)), List.map_append]
  have k1 : cutD (own.map D.str) (some (i : Int)) none = (own.drop i).map .str := by rw [cut_lo, List.map_drop]
  have k2 : cutD (own.map D.str) none (some (i : Int)) = (own.take i).map .str := by rw [cut_hi, List.map_take]
  have k3 : cutD ((own.drop i ++ own.take i).map D.str) none (some (n : Int)) = ((namesA i).take n).map .str := by
      rw [cut_hi, namesA, List.take_take, Nat.min_eq_left hn, List.map_take]
  have e3 : eLst (lCons (eC (.str "each")) (lCons (eC (.str "odd")) (lCons (eC (.str "spoilt")) (lCons (eC (.str "good")) (lCons (eC (.str "blank")) lNil))))) = fun env S => .ok (.lst (own3.map .str)) S := by
    funext env S
    simp [own3]
  unfold g__law_names
  rw [e3]
  generalize hL1 : own1.map D.str = L1 at *
  generalize hL2 : own2.map D.str = L2 at *
  generalize hL3 : own3.map D.str = L3 at *
  generalize hL12 : (own1 ++ own2).map D.str = L12 at *
  generalize hO : own.map D.str = O at *
  generalize hd : (own.drop i).map D.str = O1 at *
  generalize ht : (own.take i).map D.str = O2 at *
  generalize hdt : (own.drop i ++ own.take i).map D.str = O3 at *
  generalize hna : ((namesA i).take n).map D.str = NA at *
  simp [oSome, oNone, ty, sp1, sp2, ad1, ad2, n1, n2, n3, k1, k2, ad3, k3, -opAdd_ll]

def yyy (s : Str) : D := .str (s ++ "yyy")
abbrev tl6 : D := .lst [.str "x", .str "", .str "qxqxqxq", .str "xx", .str "qxqxq", .str "zq"]
theorem namesB_loop {c : Cell} {i t n : Nat} {O : D} : ∃ k, forD (bName 8) g__law_names_b1 (rangeD 0 26) [some (.loc 0), some (.int (n : Nat)), some O, some (.str abc), some (.int (i : Nat)), some (.int (t : Nat)), some tl6, some (.loc 1), none, none] [c, .lst []] =
    .nx [some (.loc 0), some (.int (n : Nat)), some O, some (.str abc), some (.int (i : Nat)), some (.int (t : Nat)), some tl6, some (.loc 1), k, none] [c, .lst (((List.range 26).map (nmB i t)).map .str)] := by
  obtain ⟨e', S', hf, k, rfl, rfl⟩ := forD_range (b := bName 8) (body := g__law_names_b1)
      (fun q e S => ∃ k, e = [some (.loc 0), some (.int (n : Nat)), some O, some (.str abc), some (.int (i : Nat)), some (.int (t : Nat)), some tl6, some (.loc 1), k, none] ∧ S = [c, .lst (((List.range q).map (nmB i t)).map .str)])
      (lo := 0) (n := 26) (e := [some (.loc 0), some (.int (n : Nat)), some O, some (.str abc), some (.int (i : Nat)), some (.int (t : Nat)), some tl6, some (.loc 1), none, none]) (S := [c, .lst []]) ⟨none, rfl, rfl⟩ (by
        rintro q e S hn ⟨k, rfl, rfl⟩
        have e := loop_b1 (c := c) (i := i) (t := t) (k := q) (a := some (.loc 0)) (b := some (.int (n : Nat))) (s := some O) (w := none) hn
        rw [Int.zero_add]
        exact ⟨_, rfl, _, _, .inl e, _, rfl, rfl⟩)
  exact ⟨k, hf⟩
theorem namesB_lc {S : Store} {env : EnvD} (he : env.length = 10) : lcD (bName 9) eYes g__law_names_e1 env [] (sgs.map .str) S = .ok (sgs.map yyy) S :=
  by
    have h := lcD_map (S := S) (b := bName 9) (elt := g__law_names_e1) (env := env) (fun d => match d with | .str s => yyy s | d => d) (sgs.map .str) (fun d hd => by
        obtain ⟨s, hs, rfl⟩ := List.mem_map.mp hd
        have l1 : s.length = 1 := by
          have h : ∀ s ∈ sgs, s.length = 1 := by decide +kernel
          exact h s hs
        have l2 : ("yyy" : Str).length = 3 := by decide +kernel
        have zz : sz (s.length + ("yyy" : Str).length) := sz_is (by omega)
        refine ⟨_, rfl, ?_⟩
        have ev : eVar 9 (env.set 9 (some (.str s))) S = .ok (.str s) S := eVar_at (List.getElem?_set_self (by omega))
        show (eOp opAdd (eVar 9) (eC (.str "yyy"))) (env.set 9 (some (.str s))) S = _
        rw [eOp_is, ev]
        simp only [ER.bind_ok, eC_is, opAdd_ss]
        rw [if_pos zz]; rfl) (by decide)
    rw [List.map_map] at h
    exact h
theorem namesB_run {c c1 c2 c3 : Cell} {i t n : Nat} {z : Int} (hn : n ≤ 8) (hz : z ≠ 0) (n1 : d__law_next [.loc 0, .int 26] [c] = .ok (.int (i : Nat)) [c1]) (n2 : d__law_next [.loc 0, .int 6] [c1] = .ok (.int (t : Nat)) [c2]) (n3 : d__law_next [.loc 0, .int 4] [c2] = .ok (.int z) [c3]) :
    g__law_names [some (.loc 0), some (.int (n : Nat)), none, none, none, none, none, none, none, none] [c] = .rt (.lst (((namesB i t).take n).map .str)) [c3, .lst (((List.range 26).map (nmB i t)).map .str)] := by
  have ty : ∀ s, tyD "str" [c] (.str s) = true := fun _ => rfl
  have ad1 := ad1 (c := c)
  have ad2 := ad2 (c := c)
  have sp1 := sp1 (c := c)
  have sp2 := sp2 (c := c)
  have e3 : eLst (lCons (eC (.str "each")) (lCons (eC (.str "odd")) (lCons (eC (.str "spoilt")) (lCons (eC (.str "good")) (lCons (eC (.str "blank")) lNil))))) = fun env S => .ok (.lst (own3.map .str)) S := by
    funext env S
    simp [own3]
  have e6 : eLst (lCons (eC (.str "x")) (lCons (eC (.str "")) (lCons (eC (.str "qxqxqxq")) (lCons (eC (.str "xx")) (lCons (eC (.str "qxqxq")) (lCons (eC (.str "zq")) lNil)))))) = fun env S => .ok tl6 S := by
    funext env S
    simp
  have ea : eC (.str "abcdefghijklmnopqrstuvwxyz") = eC (.str abc) := rfl
  obtain ⟨k, hf⟩ := namesB_loop (c := c3) (i := i) (t := t) (n := n) (O := .lst (own.map .str))
  have lc := namesB_lc (S := [c3, .lst (((List.range 26).map (nmB i t)).map .str)]) (env := [some (.loc 0), some (.int (n : Nat)), some (.lst (own.map .str)), some (.str abc), some (.int (i : Nat)), some (.int (t : Nat)), some tl6, some (.loc 1), k, none]) rfl
  have ad4 := opAdd_locL (S := [c3, .lst (((List.range 26).map (nmB i t)).map D.str)]) (l := 1) (a := ((List.range 26).map (nmB i t)).map .str) (b := sgs.map yyy) rfl
  rw [if_pos (sz_is (by simp [sgs]))] at ad4
  have k3 : cutD (((List.range 26).map (nmB i t)).map D.str ++ sgs.map yyy) none (some (n : Int)) = ((namesB i t).take n).map .str := by
      rw [cut_hi, List.take_append_of_le_length (by simp; omega), namesB, ← List.map_take, ← List.map_take, ← List.map_take, List.take_range, List.take_range, Nat.min_eq_left (by omega), Nat.min_eq_left (by omega)]
  have sa := signs_abc
  unfold g__law_names
  rw [e3, e6, ea]
  generalize hL1 : own1.map D.str = L1 at *
  generalize hL2 : own2.map D.str = L2 at *
  generalize hL3 : own3.map D.str = L3 at *
  generalize hL12 : (own1 ++ own2).map D.str = L12 at *
  generalize hO : own.map D.str = O at *
  generalize hna : ((namesB i t).take n).map D.str = NA at *
  generalize hfo : ((List.range 26).map (nmB i t)).map D.str = FO at *
  generalize hy : sgs.map yyy = Y at *
  generalize hs : sgs.map D.str = SG at *
  generalize tl6 = T at *
  have r26 : rOk (26 : Int) := ⟨by decide, by decide⟩
  simp [oSome, oNone, ty, sp1, sp2, ad1, ad2, n1, n2, n3, hz, r26, -opAdd_ll]
  rw [hf]
  simp [oSome, oNone, sa, lc, ad4, k3, -opAdd_ll]
theorem names_okN {c : Cell} {m n : Nat} (hn : n ≤ 8) (d : Drw c m) (hm : m ≤ 90000) : ∃ ns c', d__law_names [.loc 0, .int (n : Nat)] [c] = .ok (.lst ((ns.take n).map .str)) [c'] ∧ Names ns ∧ Drw c' (m + 3) := by
  obtain ⟨x, c1, n1, x0, x1, d1⟩ := next1 26 d (by omega) (by decide) (by decide)
  obtain ⟨y, c2, n2, y0, y1, d2⟩ := next1 6 d1 (by omega) (by decide) (by decide)
  obtain ⟨z, c3, n3, z0, z1, d3⟩ := next1 4 d2 (by omega) (by decide) (by decide)
  obtain ⟨i, rfl⟩ := Int.eq_ofNat_of_zero_le x0
  obtain ⟨t, rfl⟩ := Int.eq_ofNat_of_zero_le y0
  have hi : i < 26 := by omega
  have ht : t < 6 := by omega
  by_cases hz : z = 0
  · subst hz
    refine ⟨namesA i, c3, ?_, okNames_is (okA i hi), d3⟩
    have ex := exit_draw (c := c) (c' := c3) (T := []) (d := .lst (((namesA i).take n).map .str)) (d' := .lst (((namesA i).take n).map .str)) (by simp [frzD, frz_strs, -List.map_take]) d3.bel
    have r := namesA_run hn hi n1 n2 n3
    show (match g__law_names [some (.loc 0), some (.int (n : Nat)), none, none, none, none, none, none, none, none] [c] with
      | .nx _ S1 => exitD .pure [c] .non S1
      | .rt d S1 => exitD .pure [c] d S1
      | .ex x _ S1 => .ex x S1
      | _ => .bad) = _
    rw [r]
    exact ex
  · refine ⟨namesB i t, c3, ?_, okNames_is (okB i hi t ht), d3⟩
    have ex := exit_draw (c := c) (c' := c3) (T := [.lst (((List.range 26).map (nmB i t)).map .str)]) (d := .lst (((namesB i t).take n).map .str)) (d' := .lst (((namesB i t).take n).map .str)) (by simp [frzD, frz_strs, -List.map_take]) d3.bel
    have r := namesB_run hn hz n1 n2 n3
    show (match g__law_names [some (.loc 0), some (.int (n : Nat)), none, none, none, none, none, none, none, none] [c] with
      | .nx _ S1 => exitD .pure [c] .non S1
      | .rt d S1 => exitD .pure [c] d S1
      | .ex x _ S1 => .ex x S1
      | _ => .bad) = _
    rw [r]
    exact ex
theorem names_ok {c : Cell} {m : Nat} (d : Drw c m) (hm : m ≤ 90000) : ∃ ns c', d__law_names [.loc 0, .int 8] [c] = .ok (.lst (ns.map .str)) [c'] ∧ Names ns ∧ Drw c' (m + 3) := by
  obtain ⟨ns, c', h1, h2, h3⟩ := names_okN (n := 8) (Nat.le_refl _) d hm
  exact ⟨ns, c', by rw [List.take_of_length_le (Nat.le_of_eq h2.len)] at h1; exact h1, h2, h3⟩
end DR
end
section
/-! Races told and made; marks; what the program says of marks. -/
namespace DR
open PySem L2 DL
variable {S : Store}
abbrev tupS (l : List Str) : D := .tup (l.map .str)
abbrev raceD (nm kd : Str) (cs : List Str) (seats : Int) (way : Str) : D := .obj "Race" ["name", "kind", "choices", "districts", "seats", "by"] [.str nm, .str kd, tupS cs, .tup [.str "here"], .int seats, .str way]
/-- what a race may be made of -/
structure Told (nm kd : Str) (cs : List Str) (seats : Int) (way : Str) : Prop where
  nm : goodN nm = true
  good : ∀ n ∈ cs, goodN n = true
  nd : cs.Nodup
  l2 : 2 ≤ cs.length
  l5 : cs.length ≤ 5
  kdOk : kd = "one" ∨ kd = "any" ∨ kd = "rank"
  s1 : 1 ≤ seats
  s2 : seats ≤ cs.length
  w : (kd ≠ "rank" ∧ way = "") ∨ (kd = "rank" ∧ (way = "runoff" ∨ way = "pairs" ∨ way = "share") ∧ (way = "share" ∨ seats = 1))
theorem Told.as {nm kd : Str} {cs : List Str} {seats seats' : Int} {way way' : Str} (t : Told nm kd cs seats way) (s1 : 1 ≤ seats') (s2 : seats' ≤ cs.length) (w : (kd ≠ "rank" ∧ way' = "") ∨ (kd = "rank" ∧ (way' = "runoff" ∨ way' = "pairs" ∨ way' = "share") ∧ (way' = "share" ∨ seats' = 1))) : Told nm kd cs seats' way' :=
  ⟨t.nm, t.good, t.nd, t.l2, t.l5, t.kdOk, s1, s2, w⟩
theorem here_good : goodN "here" = true := by decide +kernel
theorem kinds_in {kd : Str} (h : kd = "one" ∨ kd = "any" ∨ kd = "rank") : kd ∈ (["one", "any", "rank"] : List Str) := by
  rcases h with h | h | h <;> simp [h]
theorem way_ok {kd way : Str} {seats : Int} (w : (kd ≠ "rank" ∧ way = "") ∨ (kd = "rank" ∧ (way = "runoff" ∨ way = "pairs" ∨ way = "share") ∧ (way = "share" ∨ seats = 1))) : d_is_way [.str kd, .str way, .int seats] S = .ok (.bl true) S := by
  have e : ∀ s : Str, d_is_one_of [.str s, .tup [.str "runoff", .str "pairs", .str "share"]] S = .ok (.bl (decide (s ∈ (["runoff", "pairs", "share"] : List Str)))) S := fun s => oneOf_s (ns := ["runoff", "pairs", "share"])
  rcases w with ⟨h1, h2⟩ | ⟨h1, h2, h3⟩
  · subst h2
    simp [d_is_way, g_is_way, h1, Ty.isa]
  · subst h1
    have q : way ∈ (["runoff", "pairs", "share"] : List Str) := by rcases h2 with h | h | h <;> simp [h]
    have e2 := e way
    rw [decide_eq_true q] at e2
    by_cases h4 : way = "share"
    · subst h4
      simp only [d_is_way, g_is_way, fnF]
      simp [e2]
    · have h5 : seats = 1 := h3.resolve_left h4
      simp only [d_is_way, g_is_way, fnF]
      simp [e2, h4, h5]
theorem unlike1 {nm : Str} (h : goodN nm = true) : d_are_unlike_names [.tup [.str nm], .int 1, .int 1] S = .ok (.bl true) S :=
  unlike_ok (ns := [nm]) (fun n hn => by simp at hn; subst hn; exact h) (by simp) (by simp) (by simp) (by simp)
theorem unlikeHere : d_are_unlike_names [.tup [.str "here"], .int 1, .int 6] S = .ok (.bl true) S :=
  unlike_ok (ns := ["here"]) (fun n hn => by simp at hn; subst hn; exact here_good) (by simp) (by simp) (by simp) (by simp)
theorem ne_name_kind : ((Str.ofString "name" : Str) = Str.ofString "kind") = False := by simp only [eq_iff_iff, iff_false]; decide +kernel
theorem ne_name_choices : ((Str.ofString "name" : Str) = Str.ofString "choices") = False := by simp only [eq_iff_iff, iff_false]; decide +kernel
theorem ne_name_districts : ((Str.ofString "name" : Str) = Str.ofString "districts") = False := by simp only [eq_iff_iff, iff_false]; decide +kernel
theorem ne_name_seats : ((Str.ofString "name" : Str) = Str.ofString "seats") = False := by simp only [eq_iff_iff, iff_false]; decide +kernel
theorem ne_name_by : ((Str.ofString "name" : Str) = Str.ofString "by") = False := by simp only [eq_iff_iff, iff_false]; decide +kernel
theorem ne_kind_choices : ((Str.ofString "kind" : Str) = Str.ofString "choices") = False := by simp only [eq_iff_iff, iff_false]; decide +kernel
theorem ne_kind_districts : ((Str.ofString "kind" : Str) = Str.ofString "districts") = False := by simp only [eq_iff_iff, iff_false]; decide +kernel
theorem ne_kind_seats : ((Str.ofString "kind" : Str) = Str.ofString "seats") = False := by simp only [eq_iff_iff, iff_false]; decide +kernel
theorem ne_kind_by : ((Str.ofString "kind" : Str) = Str.ofString "by") = False := by simp only [eq_iff_iff, iff_false]; decide +kernel
theorem ne_choices_districts : ((Str.ofString "choices" : Str) = Str.ofString "districts") = False := by simp only [eq_iff_iff, iff_false]; decide +kernel
theorem ne_choices_seats : ((Str.ofString "choices" : Str) = Str.ofString "seats") = False := by simp only [eq_iff_iff, iff_false]; decide +kernel
theorem ne_choices_by : ((Str.ofString "choices" : Str) = Str.ofString "by") = False := by simp only [eq_iff_iff, iff_false]; decide +kernel
theorem ne_districts_seats : ((Str.ofString "districts" : Str) = Str.ofString "seats") = False := by simp only [eq_iff_iff, iff_false]; decide +kernel
theorem ne_districts_by : ((Str.ofString "districts" : Str) = Str.ofString "by") = False := by simp only [eq_iff_iff, iff_false]; decide +kernel
theorem ne_seats_by : ((Str.ofString "seats" : Str) = Str.ofString "by") = False := by simp only [eq_iff_iff, iff_false]; decide +kernel
theorem init_ok {nm kd : Str} {cs : List Str} {seats : Int} {way : Str} {c : Cell} (t : Told nm kd cs seats way) (hb : c.bel 2 = true) :
    d_Race_init [.loc 1, .str nm, .str kd, tupS cs, .tup [.str "here"], .int seats, .str way] [c, .ins "Race" []] = .ok .non [c, .ins "Race" [("name", .str nm), ("kind", .str kd), ("choices", tupS cs), ("districts", .tup [.str "here"]), ("seats", .int seats), ("by", .str way)]] := by
  have e1 := unlike1 (S := [c, .ins "Race" []]) t.nm
  have e2 : d_is_one_of [.str kd, .tup [.str "one", .str "any", .str "rank"]] [c, .ins "Race" []] = .ok (.bl true) [c, .ins "Race" []] := by
    have := oneOf_s (S := [c, .ins "Race" []]) (s := kd) (ns := ["one", "any", "rank"])
    rw [decide_eq_true (kinds_in t.kdOk)] at this
    exact this
  have e3 := unlike_ok (S := [c, .ins "Race" []]) (a := 2) (b := 5) t.good t.nd (by have := t.l2; omega) (by have := t.l5; omega) (by have := t.l5; omega)
  have e4 := unlikeHere (S := [c, .ins "Race" []])
  have e5 := between_ok (S := [c, .ins "Race" []]) seats 1 cs.length
  rw [decide_eq_true ⟨t.s1, t.s2⟩] at e5
  have e6 := way_ok (S := [c, .ins "Race" []]) t.w
  have nn : (cs.map D.str).length = cs.length := List.length_map _
  have ex : exitD .pure [c, .ins "Race" []] .non [c, .ins "Race" [("name", .str nm), ("kind", .str kd), ("choices", tupS cs), ("districts", .tup [.str "here"]), ("seats", .int seats), ("by", .str way)]] = .ok .non [c, .ins "Race" [("name", .str nm), ("kind", .str kd), ("choices", tupS cs), ("districts", .tup [.str "here"]), ("seats", .int seats), ("by", .str way)]] := by
    have b : ∀ l : List Str, belDs 2 (l.map .str) = true := fun l => by
      induction l with
      | nil => rfl
      | cons a l ih => show (true && belDs 2 (l.map .str)) = true; rw [ih]; rfl
    have rb : Cell.bel 2 (.ins "Race" [("name", .str nm), ("kind", .str kd), ("choices", tupS cs), ("districts", .tup [.str "here"]), ("seats", .int seats), ("by", .str way)]) = true := by
      simp [Cell.bel, belDs, belD, b]
    unfold exitD
    simp only [frzD]
    rw [if_pos (.inr (by
      show (Cell.bel 2 c && (Cell.bel 2 _ && true)) = true
      rw [hb, rb]; rfl))]
    rfl
  simp only [d_Race_init, g_Race_init, fnF]
  simp [e1, e2, e3, e4, e5, e6, putFD, startD, ex, ne_name_kind, ne_name_choices, ne_name_districts, ne_name_seats, ne_name_by, ne_kind_choices, ne_kind_districts, ne_kind_seats, ne_kind_by, ne_choices_districts, ne_choices_seats, ne_choices_by, ne_districts_seats, ne_districts_by, ne_seats_by]
end DR
end
section
/-! A race told, drawn. -/
namespace DR
open PySem L2 DL
end DR
end
section
/-! Dicts by names: what stands in them. -/
namespace DR
open PySem L2 DL
variable {S : Store}
theorem putD_len' (kds : Kds) (k : Key) (d : D) : (putD kds k d).length ≤ kds.length + 1 := by
  unfold putD
  split
  · simp
  · simp
/-- all new keys -/
theorem fold_put {α : Type} (k : α → Key) (v : α → D) : ∀ (l : List α) (acc : Kds), (l.map k).Nodup → (∀ a ∈ l, ∀ kv ∈ acc, kv.1 ≠ k a) → l.foldl (fun acc a => putD acc (k a) (v a)) acc = acc ++ l.map fun a => (k a, v a)
  | [], acc, _, _ => by simp
  | a :: l, acc, nd, h => by
    rw [List.map_cons, List.nodup_cons] at nd
    have e : putD acc (k a) (v a) = acc ++ [(k a, v a)] := by
      unfold putD
      rw [if_neg]
      intro z
      obtain ⟨kv, h1, h2⟩ := List.any_eq_true.mp z
      exact h a List.mem_cons_self kv h1 (of_decide_eq_true h2)
    rw [List.foldl_cons, e, fold_put k v l _ nd.2 (fun b hb kv hkv => by
      rcases List.mem_append.mp hkv with q | q
      · exact h b (List.mem_cons_of_mem _ hb) kv q
      · simp at q
        subst q
        intro z
        exact nd.1 (List.mem_map.mpr ⟨b, hb, z.symm⟩))]
    simp
theorem dcD_fold {α : Type} {b : D → EnvD → Option EnvD} {ek ev : EM} {env : EnvD} (h : α → D) (kd : α → D) (k : α → Key) (v : α → D) : ∀ (l : List α) (acc : Kds), (∀ a ∈ l, ∃ e1, b (h a) env = some e1 ∧ ek e1 S = .ok (kd a) S ∧ keyD (kd a) = some (k a) ∧ ev e1 S = .ok (v a) S) → acc.length + l.length ≤ 1000000 →
    dcD b eYes ek ev env acc (l.map h) S = some (l.foldl (fun acc a => putD acc (k a) (v a)) acc, S)
  | [], acc, _, _ => rfl
  | a :: l, acc, st, hl => by
    obtain ⟨e1, h1, h2, h3, h4⟩ := st a (by simp)
    have hl' : acc.length + (l.length + 1) ≤ 1000000 := hl
    have pl := putD_len' acc (k a) (v a)
    rw [List.map_cons]
    unfold dcD
    rw [h1]
    dsimp only [eYes]
    rw [h2]
    dsimp only
    rw [h4]
    dsimp only
    rw [h3]
    dsimp only
    rw [if_pos (show sz (acc.length + 1) from sz_is (by omega)), dcD_fold h kd k v l _ (fun c hc => st c (by simp [hc])) (by omega)]
    rfl
/-- a dict comprehension of unlike keys -/
theorem dcD_new {α : Type} {b : D → EnvD → Option EnvD} {ek ev : EM} {env : EnvD} (h : α → D) (kd : α → D) (k : α → Key) (v : α → D) (l : List α) (st : ∀ a ∈ l, ∃ e1, b (h a) env = some e1 ∧ ek e1 S = .ok (kd a) S ∧ keyD (kd a) = some (k a) ∧ ev e1 S = .ok (v a) S) (nd : (l.map k).Nodup) (hl : l.length ≤ 1000) :
    dcD b eYes ek ev env [] (l.map h) S = some (l.map fun a => (k a, v a), S) := by
  rw [dcD_fold h kd k v l [] st (by simp; omega), fold_put k v l [] nd (fun _ _ _ h => by simp at h)]
  simp
theorem nd_inr {cs : List Str} (nd : cs.Nodup) : (cs.map fun c => (.inr c : Key)).Nodup := nd.map _ (fun a b h z => h (Sum.inr.inj z))
end DR
end
section
/-! Marks drawn; good ones. -/
namespace DR
open PySem L2 DL
variable {S : Store}
/-- what stands on a paper: nothing, the sign of spoilt ones, or choices -/
inductive Mk where
  | no | odd | good (l : List Str)
def Mk.D (one : Bool) : Mk → PySem.Str → D
  | .no, _ => .non
  | .odd, _ => .str "?"
  | .good l, _ => if one then .str (l.headD "") else .tup (l.map .str)
structure MkOk (one : Bool) (cs : List Str) (mk : Mk) : Prop where
  ok : ∀ l, mk = .good l → l ≠ [] ∧ l.Nodup ∧ (∀ c ∈ l, c ∈ cs) ∧ (one = true → l.length = 1)
end DR
end
section
/-! What the program and the laws say of marks. -/
namespace DR
open PySem L2 DL
variable {S : Store}
/-! the program's words -/
@[simp] theorem fld_kind {nm kd : Str} {cs : List Str} {seats : Int} {way : Str} : fldC S (raceD nm kd cs seats way) "kind" = some (("Race" : Str), D.str kd) := rfl
@[simp] theorem fld_choices {nm kd : Str} {cs : List Str} {seats : Int} {way : Str} : fldC S (raceD nm kd cs seats way) "choices" = some (("Race" : Str), tupS cs) := rfl
@[simp] theorem fld_seats {nm kd : Str} {cs : List Str} {seats : Int} {way : Str} : fldC S (raceD nm kd cs seats way) "seats" = some (("Race" : Str), D.int seats) := rfl
theorem sub_len {α : Type} [DecidableEq α] : ∀ {l m : List α}, l.Nodup → (∀ a ∈ l, a ∈ m) → l.length ≤ m.length
  | [], _, _, _ => Nat.zero_le _
  | a :: l, m, nd, h => by
    rw [List.nodup_cons] at nd
    have ha := h a List.mem_cons_self
    have := sub_len (l := l) (m := m.erase a) nd.2 fun b hb => (List.mem_erase_of_ne (fun z => nd.1 (by rw [← z]; exact hb))).mpr (h b (List.mem_cons_of_mem _ hb))
    rw [List.length_erase_of_mem ha] at this
    have : 0 < m.length := List.length_pos_of_mem ha
    show l.length + 1 ≤ m.length
    omega
theorem goodN_ok {s : Str} (h : goodN s = true) : PyData.strOk s = true := by
  unfold goodN at h
  simp only [Bool.and_eq_true, decide_eq_true_eq, List.all_eq_true] at h
  obtain ⟨_, h3⟩ := h
  have q : ∀ c ∈ abc.cps.toList, c < 0x110000 := by decide +kernel
  unfold PyData.strOk
  rw [Array.all_eq_true']
  intro c hc
  exact decide_eq_true (q c (h3 c (by simpa using hc)))
theorem pys_strs : ∀ l : List Str, D.pys S (l.map .str) = some (l.map .str)
  | [] => rfl
  | n :: ns => by simp [D.pys, D.py, pys_strs ns]
theorem shp_strs {l : List Str} {k : Nat} (h : ∀ n ∈ l, PyData.strOk n = true) : ∀ p ∈ l.map PyData.str, Shp k p := fun p hp => by
  obtain ⟨s, hs, rfl⟩ := List.mem_map.mp hp
  exact .str (h s hs)
end DR
end
section
/-! Good marks; counting loops. -/
namespace DR
open PySem L2 DL
variable {S : Store}
theorem lcD_fa {α : Type} {b : D → EnvD → Option EnvD} {tt elt : EM} {env : EnvD} (h : α → D) (p : α → Bool) (f : α → D) : ∀ (l : List α) (acc : List D),
    (∀ a ∈ l, ∃ e1, b (h a) env = some e1 ∧ tt e1 S = .ok (.bl (p a)) S ∧ (p a = true → elt e1 S = .ok (f a) S)) → acc.length + l.length ≤ 16777216 → lcD b tt elt env acc (l.map h) S = .ok (acc ++ (l.filter p).map f) S
  | [], acc, _, _ => by simp
  | a :: l, acc, st, hl => by
    obtain ⟨e1, hb, ht, he⟩ := st a List.mem_cons_self
    have hl' : acc.length + (l.length + 1) ≤ 16777216 := hl
    rw [List.map_cons]
    unfold lcD
    rw [hb]
    dsimp only
    rw [ht]
    cases hp : p a with
    | true =>
      dsimp only
      rw [he hp]
      dsimp only
      rw [if_pos (show sz (acc.length + 1) by unfold sz; omega), lcD_fa h p f l _ (fun d' hd => st d' (List.mem_cons_of_mem _ hd)) (by simp; omega)]
      simp [List.filter_cons, hp]
    | false =>
      dsimp only
      rw [lcD_fa h p f l acc (fun d' hd => st d' (List.mem_cons_of_mem _ hd)) (by omega)]
      simp [List.filter_cons, hp]
theorem lcD_ma {α : Type} {b : D → EnvD → Option EnvD} {elt : EM} {env : EnvD} (h : α → D) (f : α → D) (l : List α) (st : ∀ a ∈ l, ∃ e1, b (h a) env = some e1 ∧ elt e1 S = .ok (f a) S) (hl : l.length ≤ 16777216) : lcD b eYes elt env [] (l.map h) S = .ok (l.map f) S := by
  rw [lcD_fa (tt := eYes) h (fun _ => true) f l [] (fun a ha => let ⟨e1, x, y⟩ := st a ha; ⟨e1, x, rfl, fun _ => y⟩) (by simpa using hl), List.nil_append, List.filter_eq_self.mpr (fun _ _ => rfl)]
/-- a loop that folds, the store too -/
theorem forD_foldS {α β : Type} {b : D → EnvD → Option EnvD} {body : SM} (f : α → D) (g : β → α → β) (R : β → EnvD → Store → Prop) : ∀ (l : List α) (s0 : β) (e0 : EnvD) (S0 : Store), R s0 e0 S0 →
    (∀ a ∈ l, ∀ s e S, R s e S → ∃ e1 e2 S2, b (f a) e = some e1 ∧ body e1 S = .nx e2 S2 ∧ R (g s a) e2 S2) → ∃ e' S', forD b body (l.map f) e0 S0 = .nx e' S' ∧ R (l.foldl g s0) e' S'
  | [], s0, e0, S0, h0, _ => ⟨e0, S0, rfl, h0⟩
  | a :: l, s0, e0, S0, h0, st => by
    obtain ⟨e1, e2, S2, h1, h2, h3⟩ := st a (by simp) s0 e0 S0 h0
    obtain ⟨e', S', h4, h5⟩ := forD_foldS f g R l (g s0 a) e2 S2 h3 fun c hc => st c (by simp [hc])
    refine ⟨e', S', ?_, h5⟩
    rw [List.map_cons, forD_cons, h1]
    dsimp only
    rw [h2]
    exact h4
section
variable {nm kd : Str} {cs : List Str} {seats : Int} {way : Str}
end
end DR
end
section
/-! The first of the greatest, one after the other: the sorted row. No program. -/
namespace DR
variable {α : Type} [DecidableEq α]
/-- one thing ahead of another: more, or as much and ahead in the lot -/
def Ahead (f : α → Int) (lot : List α) (a b : α) : Prop := f b ≤ f a ∧ (f a = f b → lot.idxOf a ≤ lot.idxOf b)
end DR
end
section
/-! The order of names: more first, as much by the lot. -/
namespace DR
open PySem L2 DL
variable {S : Store}
end DR
end
section
/-! Counting names; things that are like themselves. -/
namespace DR
open PySem L2 DL
variable {S : Store}
structure Sm (k : Nat) (p : PyData) : Prop where
  shp : Shp k p
  refl : PyData.eqv p p = true
theorem Sm.int {k : Nat} (i : Int) : Sm k (.int i) := ⟨.int i, by show (i == i) = true; simp⟩
theorem Sm.none {k : Nat} : Sm k .none := ⟨.none, rfl⟩
theorem Sm.str {k : Nat} {x : Str} (h : PyData.strOk x = true) : Sm k (.str x) := ⟨.str h, by show (x == x) = true; simp⟩
theorem Sm.all {k : Nat} : ∀ {ps : List PyData}, (∀ p ∈ ps, Sm k p) → PyData.eqvAll ps ps = true
  | [], _ => rfl
  | p :: ps, h => by
    show (PyData.eqv p p && PyData.eqvAll ps ps) = true
    rw [(h p List.mem_cons_self).refl, Sm.all fun q hq => h q (List.mem_cons_of_mem _ hq)]; rfl
theorem Sm.list {k : Nat} {ps : List PyData} (h : ∀ p ∈ ps, Sm k p) : Sm (k + 1) (.list ps) := ⟨.list fun p hp => (h p hp).shp, Sm.all h⟩
theorem Sm.tuple {k : Nat} {ps : List PyData} (h : ∀ p ∈ ps, Sm k p) : Sm (k + 1) (.tuple ps) := ⟨.tuple fun p hp => (h p hp).shp, Sm.all h⟩
/-! counting -/
end DR
end
section
/-! Shares: the plain law. -/
namespace DR.K36
open PySem L2 DL DR
abbrev Q := Nat × Nat
def low (x y : Nat) : Q := (x / Nat.gcd x y, y / Nat.gcd x y)
/-- a share of at most m, whose denominator goes into E, in lowest terms -/
structure QOk (E m : Nat) (q : Q) : Prop where
  pos : 0 < q.2
  cop : Nat.gcd q.1 q.2 = 1
  dvd : q.2 ∣ E
  le : q.1 ≤ m * q.2
theorem QOk.mono {E m m' E' : Nat} {q : Q} (h : QOk E m q) (hm : m ≤ m') (hd : E ∣ E') : QOk E' m' q := ⟨h.pos, h.cop, Nat.dvd_trans h.dvd hd, Nat.le_trans h.le (Nat.mul_le_mul_right _ hm)⟩
def plus (a b : Q) : Q := low (a.1 * b.2 + b.1 * a.2) (a.2 * b.2)
def times (a b : Q) : Q := low (a.1 * b.1) (a.2 * b.2)
/-- the first of a mark that stands -/
def firstIn (left l : List Str) : Option Str := l.find? fun c => decide (c ∈ left)
def addO (F : Str → Q) (w : Q) : Option Str → Str → Q
  | none => F
  | some c => fun a => if a = c then plus (F a) w else F a
abbrev Bd := List (List Str × Q)
def cntQ (B : Bd) (left : List Str) : Str → Q := B.foldl (fun F p => addO F p.2 (firstIn left p.1)) fun _ => (0, 1)
/-! the greatest, the least -/
def ltQ (a b : Q) : Bool := decide (a.1 * b.2 < b.1 * a.2)
def red {α : Type} (op : α → α → α) : List α → Option α
  | [] => none
  | a :: l => some (l.foldl op a)
def opB (F : Str → Q) (x y : Str) : Str := if ltQ (F x) (F y) then y else x
def opL (F : Str → Q) (x y : Str) : Str := if ltQ (F x) (F y) then x else y
/-- the lot of those that stand -/
def lf (lot left : List Str) : List Str := lot.filter fun c => decide (c ∈ left)
def isIn (F : Str → Q) (left : List Str) (free q : Nat) (best : Str) : Bool := decide (left.length ≤ free) || decide (q * (F best).2 ≤ (F best).1)
def fac (F : Str → Q) (left : List Str) (free q : Nat) (best : Str) : Q := if left.length ≤ free then (0, 1) else low ((F best).1 - q * (F best).2) (F best).1
def lead (B : Bd) (left : List Str) (c : Str) (f : Q) : Bd := B.map fun p => if firstIn left p.1 = some c then (p.1, times p.2 f) else p
structure Rd where
  left : List Str
  F : Str → Q
  word : Str
  gone : Str
inductive Rds (lot : List Str) (q : Nat) : Bd → List Str → Nat → List Rd → Prop
  | stop {B : Bd} {left : List Str} : Rds lot q B left 0 []
  | goIn {B : Bd} {left : List Str} {free : Nat} {best : Str} {r : List Rd} : red (opB (cntQ B left)) (lf lot left) = some best → isIn (cntQ B left) left (free + 1) q best = true →
      Rds lot q (lead B left best (fac (cntQ B left) left (free + 1) q best)) (left.erase best) free r → Rds lot q B left (free + 1) (⟨left, cntQ B left, "in", best⟩ :: r)
  | goOut {B : Bd} {left : List Str} {free : Nat} {best c : Str} {r : List Rd} : red (opB (cntQ B left)) (lf lot left) = some best → isIn (cntQ B left) left (free + 1) q best = false → red (opL (cntQ B left)) (lf lot left) = some c →
      Rds lot q B (left.erase c) (free + 1) r → Rds lot q B left (free + 1) (⟨left, cntQ B left, "out", c⟩ :: r)
/-! bounds -/
end DR.K36
end
section
/-! Shares: the small defs. -/
namespace DR.K36
open PySem L2 DL DR
variable {S : Store}
/-- the dict of anything over some names -/
def kdv (cs : List Str) (f : Str → D) : Kds := cs.map fun c => ((.inr c : Key), f c)
abbrev dicV (cs : List Str) (f : Str → D) : D := .dic (cs.map fun c => (.inr c : Key)) (cs.map f)
theorem zip_kdv (cs : List Str) (f : Str → D) : (cs.map fun c => (.inr c : Key)).zip (cs.map f) = kdv cs f := by
  induction cs with
  | nil => rfl
  | cons c cs ih => simp [kdv] at ih ⊢; exact ih
theorem unzip_kdv1 (cs : List Str) (f : Str → D) : (kdv cs f).map (·.1) = cs.map fun c => (.inr c : Key) := by simp [kdv]
theorem unzip_kdv2 (cs : List Str) (f : Str → D) : (kdv cs f).map (·.2) = cs.map f := by simp [kdv]
theorem val_kdv {cs : List Str} {f : Str → D} {c : Str} : valD (kdv cs f) (.inr c) = if c ∈ cs then some (f c) else none := by
  induction cs with
  | nil => rfl
  | cons a cs ih =>
    unfold valD kdv
    rw [List.map_cons, List.find?_cons]
    by_cases e : a = c
    · subst e; simp
    · have : decide ((Sum.inr a : Key) = Sum.inr c) = false := decide_eq_false fun z => e (Sum.inr.inj z)
      rw [this]
      refine ih.trans ?_
      have h2 : c ∈ a :: cs ↔ c ∈ cs := by rw [List.mem_cons]; exact or_iff_right fun z => e z.symm
      simp only [h2]
theorem any_kdv (cs : List Str) (f : Str → D) (c : Str) : ((kdv cs f).any fun kv => decide (kv.1 = (.inr c : Key))) = decide (c ∈ cs) := by
  rw [Bool.eq_iff_iff]
  simp only [List.any_eq_true, decide_eq_true_eq]
  constructor
  · rintro ⟨⟨k, d⟩, h1, h2⟩
    obtain ⟨a, ha, e⟩ := List.mem_map.mp h1
    cases e
    cases h2
    exact ha
  · intro h
    exact ⟨(.inr c, f c), List.mem_map.mpr ⟨c, h, rfl⟩, rfl⟩
theorem put_kdv {cs : List Str} {f : Str → D} {c : Str} {x : D} (h : c ∈ cs) : putD (kdv cs f) (.inr c) x = kdv cs (fun a => if a = c then x else f a) := by
  unfold putD
  rw [any_kdv, decide_eq_true h, if_pos rfl]
  unfold kdv
  rw [List.map_map]
  refine List.map_congr_left fun a _ => ?_
  dsimp only [Function.comp]
  by_cases e : a = c
  · subst e; simp
  · rw [if_neg (fun z => e (Sum.inr.inj z)), if_neg e]
theorem in_dicV {cs : List Str} {f : Str → D} {c : Str} : opIn (.str c) (dicV cs f) S = .ok (.bl (decide (c ∈ cs))) S := by
  have h : opIn (.str c) (dicV cs f) S = .ok (.bl (valD ((cs.map fun c => (.inr c : Key)).zip (cs.map f)) (.inr c)).isSome) S := rfl
  rw [h, zip_kdv, val_kdv]
  by_cases k : c ∈ cs <;> simp [k]
theorem ix_dicV {cs : List Str} {f : Str → D} {c : Str} (h : c ∈ cs) : opIxX (dicV cs f) (.str c) S = .ok (f c) S := by
  rw [opIxX_ds, zip_kdv, val_kdv, if_pos h]
/-- small shares -/
structure Sm3 (q : Q) : Prop where
  pos : 0 < q.2
  l1 : q.1 < 2 ^ 300
  l2 : q.2 < 2 ^ 300
/-! the greatest and the least, by the lot -/
variable {left lot : List Str} {F : Str → Q}
end DR.K36
end
section
set_option maxHeartbeats 1000000
/-! Rulings, whether a use may count, its rank: what the program says of them. -/
namespace DS
open PySem L2 DL
open DR.K36 (kdv dicV zip_kdv val_kdv in_dicV ix_dicV)
variable {S : Store}
def ruD (r : Str × Nat) : D := .tup [.str r.1, .int (r.2 : Nat)]
def RuOk (ns : List Nat) (r : Str × Nat) : Prop := (r.1 = "admit" ∨ r.1 = "refuse") ∧ r.2 ∈ ns
def WyOk (u : Us) : Prop := u.wy = "place" ∨ u.wy = "letter" ∨ u.wy = "doubt"
end DS
end
section
/-! Steps: a def is walked statement by statement, what stands behind each is reckoned by simp only. -/
namespace DL
open PySem L2
variable {S S' S1 : Store} {env e : EnvD} {r : SR} {d x : D}
theorem stN {a b : SM} (h : a env S = .nx e S') (k : b e S' = r) : sSeq a b env S = r := by rw [sSeq_is, h]; exact k
theorem fnRt {m : Mode} {n : Nat} {g : SM} {ds : List D} {R : ER} (h : g (startD n ds) S = .rt d S') (k : exitD m S d S' = R) : fnF m n g ds S = R := by rw [fnF_is, h]; exact k
theorem ifTB {c : EM} {a b : SM} (h : c env S = .ok (.bl true) S') (k : a env S' = r) : sIf c a b env S = r := by rw [sIf_is, h]; exact k
theorem ifFB {c : EM} {a b : SM} (h : c env S = .ok (.bl false) S') (k : b env S' = r) : sIf c a b env S = r := by rw [sIf_is, h]; exact k
/-- a for, one turn; what ends it -/
theorem forC {b : D → EnvD → Option EnvD} {body : SM} {ds : List D} {e1 e2 : EnvD} (h1 : b d env = some e1) (h2 : body e1 S = .nx e2 S') (k : forD b body ds e2 S' = r) : forD b body (d :: ds) env S = r := by
  conv => lhs; unfold forD
  rw [h1]; dsimp only; rw [h2]; exact k
end DL
end
section
set_option maxHeartbeats 1000000
/-! settled: dicts by stubs, the walk. -/
namespace DS
open PySem L2 DL
open DR.K36 (kdv dicV zip_kdv val_kdv in_dicV ix_dicV any_kdv put_kdv)
variable {S : Store}
/-- a dict by whole numbers -/
def kdz (ks : List Int) (f : Int → D) : Kds := ks.map fun k => ((.inl k : Key), f k)
abbrev dicZ (ks : List Int) (f : Int → D) : D := .dic (ks.map fun k => (.inl k : Key)) (ks.map f)
theorem kdz_len (ks : List Int) (f : Int → D) : (kdz ks f).length = ks.length := by simp [kdz]
theorem zip_kdz (ks : List Int) (f : Int → D) : (ks.map fun k => (.inl k : Key)).zip (ks.map f) = kdz ks f := by
  induction ks with
  | nil => rfl
  | cons c cs ih => simp [kdz] at ih ⊢; exact ih
theorem unzip_kdz1 (ks : List Int) (f : Int → D) : (kdz ks f).map (·.1) = ks.map fun k => (.inl k : Key) := by simp [kdz]
theorem unzip_kdz2 (ks : List Int) (f : Int → D) : (kdz ks f).map (·.2) = ks.map f := by simp [kdz]
theorem val_kdz {ks : List Int} {f : Int → D} {c : Int} : valD (kdz ks f) (.inl c) = if c ∈ ks then some (f c) else none := by
  induction ks with
  | nil => rfl
  | cons a cs ih =>
    unfold valD kdz
    rw [List.map_cons, List.find?_cons]
    by_cases e : a = c
    · subst e; simp
    · have : decide ((Sum.inl a : Key) = Sum.inl c) = false := decide_eq_false fun z => e (Sum.inl.inj z)
      rw [this]
      refine ih.trans ?_
      have h2 : c ∈ a :: cs ↔ c ∈ cs := by rw [List.mem_cons]; exact or_iff_right fun z => e z.symm
      simp only [h2]
theorem any_kdz (ks : List Int) (f : Int → D) (c : Int) : ((kdz ks f).any fun kv => decide (kv.1 = (.inl c : Key))) = decide (c ∈ ks) := by
  rw [Bool.eq_iff_iff]
  simp only [List.any_eq_true, decide_eq_true_eq]
  constructor
  · rintro ⟨⟨k, d⟩, h1, h2⟩
    obtain ⟨a, ha, e⟩ := List.mem_map.mp h1
    cases e
    cases h2
    exact ha
  · intro h
    exact ⟨(.inl c, f c), List.mem_map.mpr ⟨c, h, rfl⟩, rfl⟩
/-! ### what the rulings say -/
def rdK (rs : List (Str × Nat)) : Kds := rs.foldl (fun acc r => putD acc (.inl (r.2 : Nat)) (.str r.1)) []
/-! ### grounds -/
structure Gd where
  nm : Str
  dt : Str
  lo : Nat
  hi : Nat
def Gd.D (g : Gd) : DL.D := .tup [.str g.nm, .str g.dt, .int (g.lo : Nat), .int (g.hi : Nat)]
def plO (g : Gd) : D := .obj "Place" ["name", "district", "first", "last", "sent", "is_over", "ended"] [.str g.nm, .str g.dt, .int (g.lo : Nat), .int (g.hi : Nat), .lst [], .bl false, .non]
def dtOf (gs : List Gd) (p : Str) : Str := ((gs.find? fun g => decide (g.nm = p)).map (·.dt)).getD ""
theorem dtOf_at {gs : List Gd} (nd : (gs.map (·.nm)).Nodup) : ∀ g ∈ gs, dtOf gs g.nm = g.dt := by
  induction gs with
  | nil => intro g h; simp at h
  | cons a gs ih =>
    rw [List.map_cons, List.nodup_cons] at nd
    intro g hg
    unfold dtOf
    rw [List.find?_cons]
    rcases List.mem_cons.mp hg with rfl | h
    · simp
    · have : decide (a.nm = g.nm) = false := decide_eq_false fun z => nd.1 (by rw [z]; exact List.mem_map.mpr ⟨g, h, rfl⟩)
      rw [this]
      exact ih nd.2 g h
end DS
end
section
set_option maxHeartbeats 1000000
/-! settled, statement by statement. -/
namespace DS
open PySem L2 DL
open DR (lcD_fa dcD_fold dcD_new forD_foldS)
open DR.K36 (kdv dicV zip_kdv val_kdv in_dicV ix_dicV any_kdv put_kdv)
variable {S : Store}
def SeqOf (d : D) (X : List D) : Prop := d = .lst X ∨ d = .tup X
theorem iSeq_of {d : D} {X : List D} {i : Nat} {env : EnvD} (h : SeqOf d X) (hv : eVar i env S = .ok d S) : iSeq (eVar i) env S = .ok X S := by
  rw [iSeq_is, hv]
  rcases h with rfl | rfl <;> rfl
theorem seqE {a b : SM} {e e' : EnvD} {S S' : Store} (h : a e S = .nx e' S') : sSeq a b e S = b e' S' := by rw [sSeq_is, h]; rfl
/-- what settled is asked with -/
structure Ctx (l : List Us) (rs : List (Str × Nat)) (gs : List Gd) : Prop where
  wy : ∀ u ∈ l, WyOk u
  pl : ∀ u ∈ l, u.pl ∈ gs.map (·.nm)
  ndg : (gs.map (·.nm)).Nodup
  gd : ∀ g ∈ gs, PyData.strOk g.dt = true
  ndl : (l.map (·.sb)).Nodup
  ll : l.length ≤ 60
  ru : ∀ r ∈ rs, RuOk (l.map (·.sb)) r
  rl : rs.length ≤ 100
  gl : gs.length ≤ 10
section
variable {l : List Us} {rs : List (Str × Nat)} {gs : List Gd} {vs : List Str} {R : Str → Str} {pd ud rd : D}
abbrev ruledD (rs : List (Str × Nat)) : D := .dic ((rdK rs).map (·.1)) ((rdK rs).map (·.2))
abbrev distD (gs : List Gd) : D := dicV (gs.map (·.nm)) fun p => .str (dtOf gs p)
abbrev usesD (l : List Us) : List D := l.map Us.D
/-- the stubs of some uses -/
abbrev sbs (l : List Us) : List Int := l.map fun u => ((u.sb : Nat) : Int)
end
end DS
end
section
set_option maxHeartbeats 1000000
/-! settled: the best of each voter. -/
namespace DS
open PySem L2 DL
open DR (lcD_fa dcD_fold dcD_new forD_foldS)
open DR.K36 (kdv dicV zip_kdv val_kdv in_dicV ix_dicV any_kdv put_kdv)
variable {S : Store}
section
variable {l : List Us} {rs : List (Str × Nat)} {gs : List Gd} {vs : List Str} {R : Str → Str} {pd ud rd : D} {x4 x5 x6 x9 : Option D}
/-- the cell of the best ones -/
def BOk (F : List Us) (ks : List Str) (f : Str → Option Us) : Prop := ks.Nodup ∧ (∀ v, v ∈ ks ↔ (f v).isSome = true) ∧ ∀ v b, f v = some b → WyOk b ∧ b ∈ F ∧ b.vt = v
theorem BOk.len {F : List Us} {ks : List Str} {f : Str → Option Us} (h : BOk F ks f) : ks.length ≤ F.length := by
  have := DR.sub_len (m := F.map (·.vt)) h.1 fun v hv => by
    obtain ⟨b, hb⟩ := Option.isSome_iff_exists.mp ((h.2.1 v).mp hv)
    obtain ⟨_, h2, h3⟩ := h.2.2 v b hb
    exact List.mem_map.mpr ⟨b, h2, h3⟩
  simpa using this
end
end DS
end
section
set_option maxHeartbeats 1000000
/-! settled: the words. -/
namespace DS
open PySem L2 DL
open DR (lcD_fa dcD_fold dcD_new forD_foldS)
open DR.K36 (kdv dicV zip_kdv val_kdv in_dicV ix_dicV any_kdv put_kdv)
variable {S : Store}
/-- the word of a stub -/
noncomputable def WW (F : List Us) (i : Int) : Str := by
  classical exact if ∃ u ∈ F, ((u.sb : Nat) : Int) = i ∧ Top F u then "counts" else if ∃ u ∈ F, ((u.sb : Nat) : Int) = i then "doubled" else "out"
noncomputable abbrev setD (l F : List Us) : D := dicZ (sortI (sbs l)) fun i => .str (WW F i)
section
variable {l : List Us} {rs : List (Str × Nat)} {gs : List Gd} {vs : List Str} {R : Str → Str} {pd ud rd : D} {x4 x5 x6 x7 x8 x9 : Option D}
end
end DS
end
section
set_option maxHeartbeats 1000000
/-! settled, whole. -/
namespace DS
open PySem L2 DL
open DR (lcD_fa dcD_fold dcD_new forD_foldS)
open DR.K36 (kdv dicV zip_kdv val_kdv in_dicV ix_dicV any_kdv put_kdv)
variable {S : Store}
section
variable {l : List Us} {rs : List (Str × Nat)} {gs : List Gd} {vs : List Str} {R : Str → Str} {pd ud rd : D}
end
end DS
end
section
set_option maxHeartbeats 1000000
/-! settled: what it tells. -/
namespace DS
open PySem L2 DL
open DR (lcD_fa dcD_fold dcD_new forD_foldS)
open DR.K36 (kdv dicV zip_kdv val_kdv in_dicV ix_dicV any_kdv put_kdv)
variable {S : Store}
section
variable {l F : List Us} {rs : List (Str × Nat)} {gs : List Gd} {vs : List Str} {R : Str → Str} {pd ud rd : D}
theorem frz_words (ρ : Nat → Option D) (ks : List Int) (f : Int → Str) : frzD ρ (dicZ ks fun i => .str (f i)) = some (dicZ ks fun i => .str (f i)) := by
  show (frzDs ρ (ks.map fun i => D.str (f i))).map (D.dic _) = _
  rw [frzDs_map (fun i => rfl)]; rfl
end
end DS
end
section
set_option maxHeartbeats 1000000
/-! The law's words: its statements. -/
namespace DS
open PySem L2 DL
open DR (lcD_fa dcD_fold dcD_new forD_foldS)
open DR.K36 (kdv dicV zip_kdv val_kdv in_dicV ix_dicV any_kdv put_kdv)
variable {S : Store}
section
variable {l F : List Us} {rs : List (Str × Nat)} {gs : List Gd} {vs : List Str} {R : Str → Str}
def gdD (g : Gd) : D := .tup [.str g.nm, .str g.dt, .int (g.lo : Nat), .int (g.hi : Nat)]
abbrev wE (vs : List Str) (R : Str → Str) (gs : List Gd) (l : List Us) (rs : List (Str × Nat)) (x4 x5 x6 x7 x8 x9 x10 x11 x12 x13 x14 x15 x16 : Option D) : EnvD :=
  [some (dicV vs fun v => .str (R v)), some (.lst (gs.map gdD)), some (.lst (usesD l)), some (.lst (rs.map ruD)), x4, x5, x6, x7, x8, x9, x10, x11, x12, x13, x14, x15, x16, none, none]
end
end DS
end
section
set_option maxHeartbeats 1000000
/-! The law's words: the walk over uses. -/
namespace DS
open PySem L2 DL
open DR (lcD_fa dcD_fold dcD_new forD_foldS pys_strs shp_strs)
open DR.K36 (kdv dicV zip_kdv val_kdv in_dicV ix_dicV any_kdv put_kdv)
variable {S : Store}
section
variable {l F : List Us} {rs : List (Str × Nat)} {gs : List Gd} {vs : List Str} {R : Str → Str}
abbrev bE (vs : List Str) (R : Str → Str) (gs : List Gd) (l : List Us) (rs : List (Str × Nat)) (n : Nat) (u : Us) (x15 x16 : Option D) : EnvD :=
  wE vs R gs l rs (some (ruledD rs)) (some (distD gs)) (some (.loc n)) (some (.loc (n + 1))) (some (.loc (n + 2))) (some (.int (u.sb : Nat))) (some (.str u.vt)) (some (.str u.wy)) (some (.str u.pl)) (some (.int (u.hr : Nat))) (some (.int u.tk)) x15 x16
end
end DS
end
section
set_option maxHeartbeats 1000000
/-! The law's words: in the ranks' order. -/
namespace DS
open PySem L2 DL
open DR (lcD_fa dcD_fold dcD_new forD_foldS pys_strs shp_strs)
open DR.K36 (kdv dicV zip_kdv val_kdv in_dicV ix_dicV any_kdv put_kdv)
variable {S : Store}
end DS
end
section
set_option maxHeartbeats 1000000
/-! The law's words, whole. -/
namespace DS
open PySem L2 DL
open DR (lcD_fa dcD_fold dcD_new forD_foldS pys_strs shp_strs)
open DR.K36 (kdv dicV zip_kdv val_kdv in_dicV ix_dicV any_kdv put_kdv)
variable {S : Store}
section
variable {l F : List Us} {rs : List (Str × Nat)} {gs : List Gd} {vs : List Str} {R : Str → Str}
end
end DS
end
section
set_option maxHeartbeats 1000000
/-! The law's words: what they are. -/
namespace DS
open PySem L2 DL
open DR (lcD_fa dcD_fold dcD_new forD_foldS pys_strs shp_strs)
open DR.K36 (kdv dicV zip_kdv val_kdv in_dicV ix_dicV any_kdv put_kdv)
variable {S : Store}
section
variable {l F : List Us} {rs : List (Str × Nat)} {gs : List Gd} {vs : List Str} {R : Str → Str}
end
end DS
end
section
namespace DW
open PySem L2 DL
noncomputable section
def g_Race_init : SM :=
(sSeq (sIf (eOr (eNot (eCall d_are_unlike_names (lCons (eTup (lCons (eVar 1) lNil)) (lCons (eC (.int 1)) (lCons (eC (.int 1)) lNil))))) (eNot (eCall d_is_one_of (lCons (eVar 2) (lCons (eC (.tup [.str "one", .str "any", .str "rank"])) lNil)))))
(sRaise "NoRace")
sSkip)
(sSeq (sIf (eOr (eNot (eCall d_are_unlike_names (lCons (eVar 3) (lCons (eC (.int 2)) (lCons (eC (.int 5)) lNil))))) (eNot (eCall d_are_unlike_names (lCons (eVar 4) (lCons (eC (.int 1)) (lCons (eC (.int 6)) lNil))))))
(sRaise "NoRace")
sSkip)
(sSeq (sIf (eOr (eNot (eCall d_is_between (lCons (eVar 5) (lCons (eC (.int 1)) (lCons (eCallB bLenX (lCons (eVar 3) lNil)) lNil))))) (eNot (eCall d_is_way (lCons (eVar 2) (lCons (eVar 6) (lCons (eVar 5) lNil))))))
(sRaise "NoRace")
sSkip)
(sSeq (sFldC ["Place", "Race"] "name" (eVar 0) (eVar 1))
(sSeq (sFldC ["Race"] "kind" (eVar 0) (eVar 2))
(sSeq (sFldC ["Race"] "choices" (eVar 0) (eVar 3))
(sSeq (sFldC ["Race"] "districts" (eVar 0) (eVar 4))
(sSeq (sFldC ["Race"] "seats" (eVar 0) (eVar 5))
(sFldC ["Race"] "by" (eVar 0) (eVar 6))))))))))
def d_Race_init : FD := fnF .pure 7 g_Race_init
def g__law_names_e1 : EM :=
(eOp opAdd (eOp opIxX (eVar 3) (eOp opMod (eOp opAdd (eVar 4) (eOp opMul (eC (.int 5)) (eVar 7))) (eC (.int 26)))) (eOp opIxX (eVar 6) (eOp opMod (eOp opAdd (eVar 5) (eOp opMul (eVar 7) (eVar 7))) (eC (.int 6)))))
def g__law_names : SM :=
(sSeq (sAsg (eC (.str "place letter doubt one any rank runoff pairs share each odd admit refuse counts doubled out enter move")) (bName 2))
(sSeq (sAsg (eMeth "str" mSplit (eOp opAdd (eVar 2) (eC (.str " strike restore vote roll uses none spoilt blank"))) (lCons (eC (.str " ")) lNil)) (bName 2))
(sSeq (sAsg (eC (.str "abcdefghijklmnopqrstuvwxyz")) (bName 3))
(sSeq (sAsg (eTup (lCons (eCall d__law_next (lCons (eVar 0) (lCons (eC (.int 26)) lNil))) (lCons (eCall d__law_next (lCons (eVar 0) (lCons (eC (.int 6)) lNil))) lNil))) (bTup (bCons (bName 4) (bCons (bName 5) bNil))))
(sSeq (sIf (eOp opEq (eCall d__law_next (lCons (eVar 0) (lCons (eC (.int 4)) lNil))) (eC (.int 0)))
(sRet (eSlice (eOp opAdd (eSlice (eVar 2) (oSome (eVar 4)) oNone) (eSlice (eVar 2) oNone (oSome (eVar 4)))) oNone (oSome (eVar 1))))
sSkip)
(sSeq (sAsg (eLst (lCons (eC (.str "")) (lCons (eC (.str "x")) (lCons (eC (.str "qx")) (lCons (eC (.str "qxqqx")) (lCons (eC (.str "qxqxqxq")) (lCons (eC (.str "xxqxqxq")) lNil))))))) (bName 6))
(sRet (eLc (iRange1 (lCons (eVar 1) lNil)) (bName 7) eYes g__law_names_e1 [7]))))))))
def d__law_names : FD := fnF .keep 8 g__law_names
end
end DW
end
section
/-! Marks of one and any: names in the order of choices; all parts of a row of names. -/
namespace DR
open PySem L2 DL
variable {S : Store}
/-! all parts -/
def subStep (acc : List (List Str)) (c : Str) : List (List Str) := acc ++ acc.map (· ++ [c])
def subsL (cs : List Str) : List (List Str) := cs.foldl subStep [[]]
structure SubsOk (cs : List Str) : Prop where
  hd : ∃ T, subsL cs = [] :: T ∧ ∀ l ∈ T, l ≠ []
  len : (subsL cs).length = 2 ^ cs.length
  mem : ∀ l, l ∈ subsL cs ↔ l.Sublist cs
/-! marks beside one another -/
instance : DecidableEq Mk := fun a b => match a, b with
  | .no, .no => isTrue rfl
  | .odd, .odd => isTrue rfl
  | .good l, .good m => if h : l = m then isTrue (by rw [h]) else isFalse fun z => h (by cases z; rfl)
  | .no, .odd => isFalse fun z => by cases z
  | .no, .good _ => isFalse fun z => by cases z
  | .odd, .no => isFalse fun z => by cases z
  | .odd, .good _ => isFalse fun z => by cases z
  | .good _, .no => isFalse fun z => by cases z
  | .good _, .odd => isFalse fun z => by cases z
end DR
end
section
/-! Names, drawn (parts, codes). -/
namespace DW
open PySem L2 DL DR
variable {S : Store}
def ownW : List Str := ["place", "letter", "doubt", "one", "any", "rank", "runoff", "pairs", "share", "each", "odd", "admit", "refuse", "counts", "doubled", "out", "enter", "move", "strike", "restore", "vote", "roll", "uses", "none", "spoilt", "blank"]
def tlW : List Str := ["", "x", "qx", "qxqqx", "qxqxqxq", "xxqxqxq"]
def txW : Str := "place letter doubt one any rank runoff pairs share each odd admit refuse counts doubled out enter move" ++ " strike restore vote roll uses none spoilt blank"
theorem splitW : Txt.split txW " " = ownW := by decide +kernel
theorem spW {c : Cell} : mSplit (.str txW) [.str " "] [c] = .ok (.lst (ownW.map .str)) [c] := by
  show (if ((" " : Str).length == 0) = false ∧ txW.length ≤ 10000000 then ER.ok (D.lst ((Txt.split txW " ").map D.str)) [c] else ER.bad) = _
  rw [splitW]
  exact if_pos ⟨by decide +kernel, by decide +kernel⟩
theorem adW : opAdd (.str "place letter doubt one any rank runoff pairs share each odd admit refuse counts doubled out enter move") (.str " strike restore vote roll uses none spoilt blank") S = .ok (.str txW) S := by
  rw [opAdd_ss, if_pos (sz_is (by decide +kernel))]; rfl
def nmW (i t k : Nat) : Str := sgs.getD ((i + 5 * k) % 26) "" ++ tlW.getD ((t + k * k) % 6) ""
def namesA (i n : Nat) : List Str := (ownW.drop i ++ ownW.take i).take n
def namesB (i t n : Nat) : List Str := (List.range n).map (nmW i t)
/-- unlike good names -/
structure NamesN (n : Nat) (ns : List Str) : Prop where
  len : ns.length = n
  good : ∀ n ∈ ns, goodN n = true
  nd : ns.Nodup
theorem NamesN.take {n m : Nat} {ns : List Str} (h : NamesN n ns) (hm : m ≤ n) : NamesN m (ns.take m) :=
  ⟨by rw [List.length_take, h.len]; omega, fun x hx => h.good x (List.mem_of_mem_take hx), h.nd.sublist (List.take_sublist _ _)⟩
def okN (ns : List Str) : Bool := decide (ns.length = 26) && ns.all goodN && decide ns.Nodup
theorem okN_is {ns : List Str} (h : okN ns = true) : NamesN 26 ns := by
  unfold okN at h
  simp only [Bool.and_eq_true, decide_eq_true_eq, List.all_eq_true] at h
  exact ⟨h.1.1, h.1.2, h.2⟩
theorem okN_of {ns : List Str} (h : NamesN 26 ns) : okN ns = true := by
  unfold okN
  rw [decide_eq_true h.len, decide_eq_true h.nd, Bool.true_and, Bool.and_true, List.all_eq_true]
  exact h.good
theorem ownW_ok : NamesN 26 ownW := ⟨by decide, by
  have : ownW.all goodN = true := by decide +kernel
  exact List.all_eq_true.mp this, by decide +kernel⟩
theorem okA : ∀ i, i < 26 → okN (namesA i 26) = true := fun i hi => by
  have p : (ownW.drop i ++ ownW.take i).Perm ownW := by
    have := List.perm_append_comm (l₁ := ownW.drop i) (l₂ := ownW.take i)
    rw [List.take_append_drop] at this
    exact this
  have e : namesA i 26 = ownW.drop i ++ ownW.take i := by
    unfold namesA
    exact List.take_of_length_le (by rw [p.length_eq, ownW_ok.len]; exact Nat.le_refl _)
  rw [e]
  exact okN_of ⟨by rw [p.length_eq, ownW_ok.len], fun x hx => ownW_ok.good x (p.subset hx), p.nodup_iff.mpr ownW_ok.nd⟩
theorem nm_good : ∀ j, j < 26 → ∀ u, u < 6 → goodN (sgs.getD j "" ++ tlW.getD u "") = true := by decide +kernel
theorem nm_head : ∀ j, j < 26 → ∀ u, u < 6 → (sgs.getD j "" ++ tlW.getD u "").cps[0]? = some (97 + j) := by decide +kernel
theorem okB : ∀ i, i < 26 → ∀ t, t < 6 → okN (namesB i t 26) = true := fun i hi t ht => by
  refine okN_of ⟨by unfold namesB; rw [List.length_map, List.length_range], fun x hx => ?_, ?_⟩
  · obtain ⟨k, _, rfl⟩ := List.mem_map.mp hx
    exact nm_good _ (Nat.mod_lt _ (by decide)) _ (Nat.mod_lt _ (by decide))
  · unfold namesB
    refine List.pairwise_map.mpr ((List.nodup_range (n := 26)).imp_of_mem fun {a b} ha hb hab e => hab ?_)
    have ha := List.mem_range.mp ha
    have hb := List.mem_range.mp hb
    have h1 := nm_head ((i + 5 * a) % 26) (Nat.mod_lt _ (by decide)) ((t + a * a) % 6) (Nat.mod_lt _ (by decide))
    have h2 := nm_head ((i + 5 * b) % 26) (Nat.mod_lt _ (by decide)) ((t + b * b) % 6) (Nat.mod_lt _ (by decide))
    unfold nmW at e
    rw [e, h2] at h1
    have h3 := Option.some.inj h1
    omega
theorem takeA {i n : Nat} (h : n ≤ 26) : namesA i n = (namesA i 26).take n := by
  unfold namesA; rw [List.take_take, Nat.min_eq_left h]
theorem takeB {i t n : Nat} (h : n ≤ 26) : namesB i t n = (namesB i t 26).take n := by
  unfold namesB; rw [← List.map_take, List.take_range, Nat.min_eq_left h]
theorem tl_atW {j : Nat} (h : j < 6) : atI ([.str "", .str "x", .str "qx", .str "qxqqx", .str "qxqxqxq", .str "xxqxqxq"] : List D) (j : Int) = some (.str (tlW.getD j "")) := by
  have : ([.str "", .str "x", .str "qx", .str "qxqqx", .str "qxqxqxq", .str "xxqxqxq"] : List D) = tlW.map .str := rfl
  rw [this, atI_ofNat (by simp [tlW]; omega)]
  simp [List.getD, List.getElem?_eq_getElem (by simp [tlW]; omega : j < tlW.length)]
theorem nmW_sz {i t k : Nat} : (sgs.getD ((i + 5 * k) % 26) "").length + (tlW.getD ((t + k * k) % 6) "").length ≤ 8 := by
  have h1 : ∀ j, j < 26 → (sgs.getD j "").length = 1 := by decide +kernel
  have h2 : ∀ j, j < 6 → (tlW.getD j "").length ≤ 7 := by decide +kernel
  have := h1 ((i + 5 * k) % 26) (Nat.mod_lt _ (by decide))
  have := h2 ((t + k * k) % 6) (Nat.mod_lt _ (by decide))
  omega
theorem lc_names {i t n : Nat} {a b s w : Option D} (hn : n ≤ 26) : lcD (bName 7) eYes g__law_names_e1 [a, b, s, some (.str abc), some (.int (i : Nat)), some (.int (t : Nat)), some (.lst [.str "", .str "x", .str "qx", .str "qxqqx", .str "qxqxqxq", .str "xxqxqxq"]), none] [] (rangeD 0 n) S = .ok ((namesB i t n).map .str) S := by
  have e := lcD_ma (S := S) (b := bName 7) (elt := g__law_names_e1) (env := [a, b, s, some (.str abc), some (.int (i : Nat)), some (.int (t : Nat)), some (.lst [.str "", .str "x", .str "qx", .str "qxqqx", .str "qxqxqxq", .str "xxqxqxq"]), none]) (fun k : Nat => D.int (0 + (k : Int))) (fun k => .str (nmW i t k)) (List.range n) (fun k hk => by
    have hk' : k < n := List.mem_range.mp hk
    refine ⟨_, rfl, ?_⟩
    have z0 : sz abc.length := sz_is (by decide +kernel)
    have s1 := sg_at (j := (i + 5 * k) % 26) (Nat.mod_lt _ (by decide))
    have s2 := tl_atW (j := (t + k * k) % 6) (Nat.mod_lt _ (by decide))
    have m1 : mulOk (5 : Int) (k : Int) := mulOk_l (by decide)
    have m2 : mulOk (k : Int) (k : Int) := mulOk_l (by omega)
    have e1 : ((i : Int) + 5 * (k : Int)) % 26 = (((i + 5 * k) % 26 : Nat) : Int) := by omega
    have e2 : ((t : Int) + (k : Int) * (k : Int)) % 6 = (((t + k * k) % 6 : Nat) : Int) := by
      rw [← Int.natCast_mul]; omega
    have z1 := sz_is (n := (sgs.getD ((i + 5 * k) % 26) "").length + (tlW.getD ((t + k * k) % 6) "").length) (by have := nmW_sz (i := i) (t := t) (k := k); omega)
    have hs : ∀ S, opIxX (.str abc) (.int (((i + 5 * k) % 26 : Nat) : Int)) S = .ok (.str (sgs.getD ((i + 5 * k) % 26) "")) S := fun S => by rw [opIxX_s, if_pos z0, s1]
    have ht : ∀ S, opIxX (.lst [.str "", .str "x", .str "qx", .str "qxqqx", .str "qxqxqxq", .str "xxqxqxq"]) (.int (((t + k * k) % 6 : Nat) : Int)) S = .ok (.str (tlW.getD ((t + k * k) % 6) "")) S := fun S => by rw [opIxX_l, s2]
    have k0 : (0 : Int) + (k : Int) = (k : Int) := Int.zero_add _
    have res : D.str (nmW i t k) = .str (sgs.getD ((i + 5 * k) % 26) "" ++ tlW.getD ((t + k * k) % 6) "") := rfl
    rw [res]
    generalize sgs.getD ((i + 5 * k) % 26) "" = x at *
    generalize tlW.getD ((t + k * k) % 6) "" = y at *
    generalize (D.lst [.str "", .str "x", .str "qx", .str "qxqqx", .str "qxqxqxq", .str "xxqxqxq"]) = T at *
    generalize (D.str abc) = A at *
    simp [g__law_names_e1, m1, m2, e1, e2, hs, ht, z1, k0, -Int.natCast_emod, -Int.natCast_add, -Int.natCast_mul]) (by simp; omega)
  have r1 : (List.range n).map (fun k : Nat => D.int (0 + (k : Int))) = rangeD 0 n := rfl
  have r2 : (List.range n).map (fun k => D.str (nmW i t k)) = (namesB i t n).map .str := by unfold namesB; rw [List.map_map]; rfl
  rw [r1, r2] at e
  exact e
theorem names_ok {c : Cell} {m n : Nat} (hn : n ≤ 26) (d : Drw c m) (hm : m ≤ 90000) : ∃ ns c', d__law_names [.loc 0, .int (n : Nat)] [c] = .ok (.lst (ns.map .str)) [c'] ∧ NamesN n ns ∧ Drw c' (m + 3) := by
  obtain ⟨x, c1, n1, x0, x1, d1⟩ := next1 26 d (by omega) (by decide) (by decide)
  obtain ⟨y, c2, n2, y0, y1, d2⟩ := next1 6 d1 (by omega) (by decide) (by decide)
  obtain ⟨z, c3, n3, z0, z1, d3⟩ := next1 4 d2 (by omega) (by decide) (by decide)
  obtain ⟨i, rfl⟩ := Int.eq_ofNat_of_zero_le x0
  obtain ⟨t, rfl⟩ := Int.eq_ofNat_of_zero_le y0
  have hi : i < 26 := by omega
  have ht : t < 6 := by omega
  have ty : ∀ s, tyD "str" [c] (.str s) = true := fun _ => rfl
  have ad := adW (S := [c])
  have sp := spW (c := c)
  have st : ∀ a b : D, startD 8 [a, b] = [some a, some b, none, none, none, none, none, none] := fun _ _ => rfl
  have ol : ownW.length = 26 := rfl
  have ty' : tyD "str" [c] (.str txW) = true := rfl
  by_cases hz : z = 0
  · subst hz
    refine ⟨namesA i n, c3, ?_, by rw [takeA hn]; exact (okN_is (okA i hi)).take hn, d3⟩
    have ad3 : opAdd (.lst ((ownW.drop i).map .str)) (.lst ((ownW.take i).map .str)) [c3] = .ok (.lst ((ownW.drop i ++ ownW.take i).map .str)) [c3] := by
      rw [opAdd_ll, if_pos (sz_is (by simp; omega)), List.map_append]
    have k1 : cutD (ownW.map D.str) (some (i : Int)) none = (ownW.drop i).map .str := by rw [cut_lo, List.map_drop]
    have k2 : cutD (ownW.map D.str) none (some (i : Int)) = (ownW.take i).map .str := by rw [cut_hi, List.map_take]
    have k3 : cutD ((ownW.drop i ++ ownW.take i).map D.str) none (some (n : Int)) = (namesA i n).map .str := by rw [cut_hi, namesA, List.map_take]
    have ex : exitD .keep [c] (.lst ((namesA i n).map .str)) [c3] = .ok (.lst ((namesA i n).map .str)) [c3] := rfl
    generalize (ownW.drop i ++ ownW.take i).map D.str = O3 at *
    generalize (ownW.drop i).map D.str = O1 at *
    generalize (ownW.take i).map D.str = O2 at *
    generalize ownW.map D.str = O at *
    generalize (namesA i n).map D.str = NA at *
    generalize (D.str txW) = TX at *
    simp [d__law_names, g__law_names, st, oSome, oNone, ty, ty', sp, ad, n1, n2, n3, k1, k2, ad3, k3, ex, -opAdd_ll, -opAdd_ss]
  · refine ⟨namesB i t n, c3, ?_, by rw [takeB hn]; exact (okN_is (okB i hi t ht)).take hn, d3⟩
    have lc := lc_names (S := [c3]) (i := i) (t := t) (n := n) (a := some (.loc 0)) (b := some (.int (n : Nat))) (s := some (.lst (ownW.map .str))) (w := none) hn
    have ex : exitD .keep [c] (.lst ((namesB i t n).map .str)) [c3] = .ok (.lst ((namesB i t n).map .str)) [c3] := rfl
    have rk : rOk (n : Int) := rOk_n (by omega)
    have ea : (Str.ofString "abcdefghijklmnopqrstuvwxyz") = abc := rfl
    have z6 : sz 6 := sz_is (by decide)
    generalize ownW.map D.str = O at *
    generalize (namesB i t n).map D.str = NA at *
    simp [d__law_names, g__law_names, st, oSome, oNone, ty, ty', sp, ad, n1, n2, n3, hz, rk, z6, ea, lc, ex, -opAdd_ll, -opAdd_ss]
end DW
end
section
/-! Names, drawn. -/
namespace DS
open PySem L2 DL
open DR hiding g__law_names_e1 g__law_names d__law_names
open DW (NamesN okN okN_is okN_of)
variable {S : Store}
def ownZ : List Str := ["place", "letter", "doubt", "use", "close", "admit", "refuse", "counts", "doubled", "out", "enter", "move", "strike", "restore", "one", "any", "rank", "vote", "roll", "uses", "settled", "mixed", "late", "blank", "spoilt", "stands"]
def tlZ : List Str := ["x", "", "qx", "xxxqx", "zq", "qqqqqqq"]
def nmZ (i k : Nat) : Str := sgs.getD ((i + 5 * k) % 26) "" ++ tlZ.getD ((i + k * k) % 6) ""
def namesZA (i : Nat) : List Str := ownZ.drop i ++ ownZ.take i
def namesZB (i : Nat) : List Str := (List.range 26).map (nmZ i)
theorem ownZ_ok : NamesN 26 ownZ := ⟨by decide, by
  have : ownZ.all goodN = true := by decide +kernel
  exact List.all_eq_true.mp this, by decide +kernel⟩
theorem okZA (i : Nat) : NamesN 26 (namesZA i) := by
  have p : (ownZ.drop i ++ ownZ.take i).Perm ownZ := by
    have := List.perm_append_comm (l₁ := ownZ.drop i) (l₂ := ownZ.take i)
    rw [List.take_append_drop] at this
    exact this
  exact ⟨by unfold namesZA; rw [p.length_eq, ownZ_ok.len], fun x hx => ownZ_ok.good x (p.subset hx), p.nodup_iff.mpr ownZ_ok.nd⟩
theorem nmZ_good : ∀ j, j < 26 → ∀ u, u < 6 → goodN (sgs.getD j "" ++ tlZ.getD u "") = true := by decide +kernel
theorem nmZ_head : ∀ j, j < 26 → ∀ u, u < 6 → (sgs.getD j "" ++ tlZ.getD u "").cps[0]? = some (97 + j) := by decide +kernel
theorem okZB (i : Nat) : NamesN 26 (namesZB i) := by
  refine ⟨by unfold namesZB; rw [List.length_map, List.length_range], fun x hx => ?_, ?_⟩
  · obtain ⟨k, _, rfl⟩ := List.mem_map.mp hx
    exact nmZ_good _ (Nat.mod_lt _ (by decide)) _ (Nat.mod_lt _ (by decide))
  · unfold namesZB
    refine List.pairwise_map.mpr ((List.nodup_range (n := 26)).imp_of_mem fun {a b} ha hb hab e => hab ?_)
    have ha := List.mem_range.mp ha
    have hb := List.mem_range.mp hb
    have h1 := nmZ_head ((i + 5 * a) % 26) (Nat.mod_lt _ (by decide)) ((i + a * a) % 6) (Nat.mod_lt _ (by decide))
    have h2 := nmZ_head ((i + 5 * b) % 26) (Nat.mod_lt _ (by decide)) ((i + b * b) % 6) (Nat.mod_lt _ (by decide))
    unfold nmZ at e
    rw [e, h2] at h1
    have h3 := Option.some.inj h1
    omega
theorem tl_atZ {j : Nat} (h : j < 6) : atI (tlZ.map D.str) (j : Int) = some (.str (tlZ.getD j "")) := by
  rw [atI_ofNat (by simp [tlZ]; omega)]
  simp [List.getD, List.getElem?_eq_getElem (by simp [tlZ]; omega : j < tlZ.length)]
theorem nmZ_sz {i k : Nat} : (sgs.getD ((i + 5 * k) % 26) "").length + (tlZ.getD ((i + k * k) % 6) "").length ≤ 8 := by
  have h1 : ∀ j, j < 26 → (sgs.getD j "").length = 1 := by decide +kernel
  have h2 : ∀ j, j < 6 → (tlZ.getD j "").length ≤ 7 := by decide +kernel
  have := h1 ((i + 5 * k) % 26) (Nat.mod_lt _ (by decide))
  have := h2 ((i + k * k) % 6) (Nat.mod_lt _ (by decide))
  omega
theorem lc_namesZ {i : Nat} {a s : Option D} : lcD (bName 5) eYes g__law_names_e1 [a, s, some (.str abc), some (.int (i : Nat)), some (.lst (tlZ.map .str)), none] [] (rangeD 0 26) S = .ok ((namesZB i).map .str) S := by
  have e := lcD_ma (S := S) (b := bName 5) (elt := g__law_names_e1) (env := [a, s, some (.str abc), some (.int (i : Nat)), some (.lst (tlZ.map .str)), none]) (fun k : Nat => D.int (0 + (k : Int))) (fun k => .str (nmZ i k)) (List.range 26) (fun k hk => by
    have hk' : k < 26 := List.mem_range.mp hk
    refine ⟨_, rfl, ?_⟩
    have z0 : sz abc.length := sz_is (by decide +kernel)
    have s1 := sg_at (j := (i + 5 * k) % 26) (Nat.mod_lt _ (by decide))
    have s2 := tl_atZ (j := (i + k * k) % 6) (Nat.mod_lt _ (by decide))
    have m1 : mulOk (5 : Int) (k : Int) := mulOk_l (by decide)
    have m2 : mulOk (k : Int) (k : Int) := mulOk_l (by omega)
    have e1 : ((i : Int) + 5 * (k : Int)) % 26 = (((i + 5 * k) % 26 : Nat) : Int) := by omega
    have e2 : ((i : Int) + (k : Int) * (k : Int)) % 6 = (((i + k * k) % 6 : Nat) : Int) := by
      rw [← Int.natCast_mul]; omega
    have z1 := sz_is (n := (sgs.getD ((i + 5 * k) % 26) "").length + (tlZ.getD ((i + k * k) % 6) "").length) (by have := nmZ_sz (i := i) (k := k); omega)
    have hs : ∀ S, opIxX (.str abc) (.int (((i + 5 * k) % 26 : Nat) : Int)) S = .ok (.str (sgs.getD ((i + 5 * k) % 26) "")) S := fun S => by rw [opIxX_s, if_pos z0, s1]
    have ht : ∀ S, opIxX (.lst (tlZ.map .str)) (.int (((i + k * k) % 6 : Nat) : Int)) S = .ok (.str (tlZ.getD ((i + k * k) % 6) "")) S := fun S => by rw [opIxX_l, s2]
    have k0 : (0 : Int) + (k : Int) = (k : Int) := Int.zero_add _
    have res : D.str (nmZ i k) = .str (sgs.getD ((i + 5 * k) % 26) "" ++ tlZ.getD ((i + k * k) % 6) "") := rfl
    rw [res]
    generalize sgs.getD ((i + 5 * k) % 26) "" = x at *
    generalize tlZ.getD ((i + k * k) % 6) "" = y at *
    generalize (D.lst (tlZ.map .str)) = T at *
    generalize (D.str abc) = A at *
    simp [g__law_names_e1, m1, m2, e1, e2, hs, ht, z1, k0, -Int.natCast_emod, -Int.natCast_add, -Int.natCast_mul]) (by simp)
  have r1 : (List.range 26).map (fun k : Nat => D.int (0 + (k : Int))) = rangeD 0 26 := rfl
  have r2 : (List.range 26).map (fun k => D.str (nmZ i k)) = (namesZB i).map .str := by unfold namesZB; rw [List.map_map]; rfl
  rw [r1, r2] at e
  exact e
theorem names_ok {c : Cell} {m : Nat} (d : Drw c m) (hm : m ≤ 90000) : ∃ ns c', d__law_names [.loc 0] [c] = .ok (.lst (ns.map .str)) [c'] ∧ NamesN 26 ns ∧ Drw c' (m + 2) := by
  obtain ⟨x, c1, n1, x0, x1, d1⟩ := next1 26 d (by omega) (by decide) (by decide)
  obtain ⟨z, c3, n3, z0, z1, d3⟩ := next1 4 d1 (by omega) (by decide) (by decide)
  obtain ⟨i, rfl⟩ := Int.eq_ofNat_of_zero_le x0
  have hi : i < 26 := by omega
  have st : ∀ a : D, startD 6 [a] = [some a, none, none, none, none, none] := fun _ => rfl
  have own : ([.str "place", .str "letter", .str "doubt", .str "use", .str "close", .str "admit", .str "refuse", .str "counts", .str "doubled", .str "out", .str "enter", .str "move", .str "strike", .str "restore", .str "one", .str "any", .str "rank", .str "vote", .str "roll", .str "uses", .str "settled", .str "mixed", .str "late", .str "blank", .str "spoilt", .str "stands"] : List D) = ownZ.map .str := rfl
  have tlE : ([.str "x", .str "", .str "qx", .str "xxxqx", .str "zq", .str "qqqqqqq"] : List D) = tlZ.map .str := rfl
  have z12 : sz 12 := sz_is (by decide)
  have z24 : sz 24 := sz_is (by decide)
  have z26 : sz 26 := sz_is (by decide)
  have z2 : sz 2 := sz_is (by decide)
  have z6 : sz 6 := sz_is (by decide)
  have ol : ownZ.length = 26 := rfl
  have ea : (Str.ofString "abcdefghijklmnopqrstuvwxyz") = abc := rfl
  by_cases hz : z = 0
  · subst hz
    refine ⟨namesZA i, c3, ?_, okZA i, d3⟩
    have ad3 : sz (((ownZ.drop i).map D.str).length + ((ownZ.take i).map D.str).length) := sz_is (by simp; omega)
    have ad4 : (ownZ.drop i).map D.str ++ (ownZ.take i).map D.str = (namesZA i).map .str := by unfold namesZA; rw [List.map_append]
    have k1 : cutD (ownZ.map D.str) (some (i : Int)) none = (ownZ.drop i).map .str := by rw [cut_lo, List.map_drop]
    have k2 : cutD (ownZ.map D.str) none (some (i : Int)) = (ownZ.take i).map .str := by rw [cut_hi, List.map_take]
    have ex : exitD .keep [c] (.lst ((namesZA i).map .str)) [c3] = .ok (.lst ((namesZA i).map .str)) [c3] := rfl
    generalize (ownZ.drop i).map D.str = O1 at *
    generalize (ownZ.take i).map D.str = O2 at *
    generalize ownZ.map D.str = O at *
    generalize (namesZA i).map D.str = NA at *
    simp [d__law_names, g__law_names, st, oSome, oNone, z12, z24, z26, z2, own, n1, n3, k1, k2, ad3, ad4, ex]
  · refine ⟨namesZB i, c3, ?_, okZB i, d3⟩
    have lc := lc_namesZ (S := [c3]) (i := i) (a := some (.loc 0)) (s := some (.lst (ownZ.map .str)))
    have ex : exitD .keep [c] (.lst ((namesZB i).map .str)) [c3] = .ok (.lst ((namesZB i).map .str)) [c3] := rfl
    have z7 : sz (tlZ.map D.str).length := sz_is (by simp [tlZ])
    have rk : rOk (26 : Int) := rOk_n (n := 26) (by omega)
    generalize ownZ.map D.str = O at *
    generalize tlZ.map D.str = TL at *
    generalize (namesZB i).map D.str = NA at *
    simp [d__law_names, g__law_names, st, oSome, oNone, z12, z24, z26, z2, own, tlE, n1, n3, hz, rk, z6, z7, ea, lc, ex]
end DS
end
section
set_option maxHeartbeats 1000000
/-! Places, made. -/
namespace DS
open PySem L2 DL
open DR (lcD_fa dcD_fold dcD_new forD_foldS pys_strs shp_strs goodN isName_ok)
variable {S : Store} {g : Gd}
structure GOk (g : Gd) : Prop where
  nm : goodN g.nm = true
  dt : goodN g.dt = true
  lh : g.lo ≤ g.hi
  h9 : g.hi ≤ 9999
def insP (g : Gd) : List (Str × D) := [("name", .str g.nm), ("district", .str g.dt), ("first", .int (g.lo : Nat)), ("last", .int (g.hi : Nat)), ("sent", .lst []), ("is_over", .bl false), ("ended", .non)]
theorem fl_step {B : Store} {E : EnvD} {cs : List Str} {f : Str} {e : EM} {d : D} {fs : List (Str × D)} (v0 : ∀ S, eVar 0 E S = .ok (.loc B.length) S) (hm : ("Place" : Str) ∈ cs) (hl : fs.length < 1000) (he : e E (B ++ [.ins "Place" fs]) = .ok d (B ++ [.ins "Place" fs])) :
    sFldC cs f (eVar 0) e E (B ++ [.ins "Place" fs]) = .nx E (B ++ [.ins "Place" (putFD f d fs)]) := by
  have g1 : (B ++ [Cell.ins "Place" fs])[B.length]? = some (.ins "Place" fs) := by simp
  have s1 : (B ++ [Cell.ins "Place" fs]).set B.length (.ins "Place" (putFD f d fs)) = B ++ [.ins "Place" (putFD f d fs)] := by simp
  rw [sFldC_is, he, ER.bindS_ok, v0, ER.bindS_ok]
  dsimp only
  rw [g1]
  dsimp only
  rw [if_pos ⟨hm, hl⟩, s1]
def fNs : List Str := ["name", "district", "first", "last", "sent", "is_over", "ended"]
theorem fNs_nd : fNs.Nodup := by decide +kernel
theorem put_seq (g : Gd) : putFD "ended" .non (putFD "is_over" (.bl false) (putFD "sent" (.lst []) (putFD "last" (.int (g.hi : Nat)) (putFD "first" (.int (g.lo : Nat)) (putFD "district" (.str g.dt) (putFD "name" (.str g.nm) [])))))) = insP g := by
  have nd := fNs_nd
  unfold fNs at nd
  simp only [List.nodup_cons, List.mem_cons, not_or, List.not_mem_nil, not_false_eq_true, List.nodup_nil, and_true, or_false] at nd
  obtain ⟨⟨a1, a2, a3, a4, a5, a6⟩, ⟨b1, b2, b3, b4, b5⟩, ⟨c1, c2, c3, c4⟩, ⟨d1, d2, d3⟩, ⟨e1, e2⟩, f1⟩ := nd
  simp [putFD, a1, a2, a3, a4, a5, a6, b1, b2, b3, b4, b5, c1, c2, c3, c4, d1, d2, d3, e1, e2, f1, insP]
theorem init_ok (h : GOk g) {B : Store} (hb : B.all (Cell.bel (B.length + 1)) = true) : d_Place_init [.loc B.length, .str g.nm, .str g.dt, .int (g.lo : Nat), .int (g.hi : Nat)] (B ++ [.ins "Place" []]) = .ok .non (B ++ [.ins "Place" (insP g)]) := by
  obtain ⟨E, hE⟩ : ∃ E : EnvD, E = [some (.loc B.length), some (.str g.nm), some (.str g.dt), some (.int (g.lo : Nat)), some (.int (g.hi : Nat))] := ⟨_, rfl⟩
  have v0 : ∀ S, eVar 0 E S = .ok (.loc B.length) S := fun S => eVar_at (by rw [hE]; rfl)
  have v1 : ∀ S, eVar 1 E S = .ok (.str g.nm) S := fun S => eVar_at (by rw [hE]; rfl)
  have v2 : ∀ S, eVar 2 E S = .ok (.str g.dt) S := fun S => eVar_at (by rw [hE]; rfl)
  have v3 : ∀ S, eVar 3 E S = .ok (.int (g.lo : Nat)) S := fun S => eVar_at (by rw [hE]; rfl)
  have v4 : ∀ S, eVar 4 E S = .ok (.int (g.hi : Nat)) S := fun S => eVar_at (by rw [hE]; rfl)
  have n1 := fun S => isName_ok (S := S) h.nm
  have n2 := fun S => isName_ok (S := S) h.dt
  have b1 : ∀ S, d_is_between [.int (g.hi : Nat), .int 0, .int 9999] S = .ok (.bl true) S := fun S => by
    have := between_ok (S := S) (g.hi : Nat) 0 9999
    rw [decide_eq_true ⟨by omega, by have := h.h9; omega⟩] at this
    exact this
  have b2 : ∀ S, d_is_between [.int (g.lo : Nat), .int 0, .int (g.hi : Nat)] S = .ok (.bl true) S := fun S => by
    have := between_ok (S := S) (g.lo : Nat) 0 (g.hi : Nat)
    rw [decide_eq_true ⟨by omega, by have := h.lh; omega⟩] at this
    exact this
  have g1 : (sIf (eOr (eNot (eCall d_is_name (lCons (eVar 1) lNil))) (eOr (eNot (eCall d_is_name (lCons (eVar 2) lNil))) (eNot (eCall d_is_between (lCons (eVar 4) (lCons (eC (.int 0)) (lCons (eC (.int 9999)) lNil))))))) (sRaise "NoPlace") sSkip) E (B ++ [.ins "Place" []]) = .nx E (B ++ [.ins "Place" []]) := by
    simp [v1, v2, v4, n1, n2, b1]
  have g2 : (sIf (eNot (eCall d_is_between (lCons (eVar 3) (lCons (eC (.int 0)) (lCons (eVar 4) lNil))))) (sRaise "NoPlace") sSkip) E (B ++ [.ins "Place" []]) = .nx E (B ++ [.ins "Place" []]) := by
    simp [v3, v4, b2]
  have lF : ∀ {fs : List (Str × D)} {f : Str} {d : D}, (putFD f d fs).length ≤ fs.length + 1 := fun {fs f d} => by
    induction fs with
    | nil => simp [putFD]
    | cons p fs ih =>
      obtain ⟨k, x⟩ := p
      unfold putFD
      split
      · simp
      · simp; exact ih
  have s1 := fl_step (B := B) (E := E) (cs := ["Place", "Race"]) (f := "name") (e := eVar 1) (d := .str g.nm) (fs := []) v0 (by simp) (by simp) (v1 _)
  obtain ⟨F1, hF1⟩ : ∃ F, putFD "name" (.str g.nm) ([] : List (Str × D)) = F := ⟨_, rfl⟩
  have l1 : F1.length ≤ 1 := by rw [← hF1]; exact lF
  rw [hF1] at s1
  have s2 := fl_step (B := B) (E := E) (cs := ["Place"]) (f := "district") (e := eVar 2) (d := .str g.dt) (fs := F1) v0 (by simp) (by omega) (v2 _)
  obtain ⟨F2, hF2⟩ : ∃ F, putFD "district" (.str g.dt) F1 = F := ⟨_, rfl⟩
  have l2 : F2.length ≤ 2 := by rw [← hF2]; have := lF (fs := F1) (f := "district") (d := .str g.dt); omega
  rw [hF2] at s2
  have s3 := fl_step (B := B) (E := E) (cs := ["Place"]) (f := "first") (e := eVar 3) (d := .int (g.lo : Nat)) (fs := F2) v0 (by simp) (by omega) (v3 _)
  obtain ⟨F3, hF3⟩ : ∃ F, putFD "first" (.int (g.lo : Nat)) F2 = F := ⟨_, rfl⟩
  have l3 : F3.length ≤ 3 := by rw [← hF3]; have := lF (fs := F2) (f := "first") (d := .int (g.lo : Nat)); omega
  rw [hF3] at s3
  have s4 := fl_step (B := B) (E := E) (cs := ["Place"]) (f := "last") (e := eVar 4) (d := .int (g.hi : Nat)) (fs := F3) v0 (by simp) (by omega) (v4 _)
  obtain ⟨F4, hF4⟩ : ∃ F, putFD "last" (.int (g.hi : Nat)) F3 = F := ⟨_, rfl⟩
  have l4 : F4.length ≤ 4 := by rw [← hF4]; have := lF (fs := F3) (f := "last") (d := .int (g.hi : Nat)); omega
  rw [hF4] at s4
  have z0 : sz 0 := sz_is (by decide)
  have s5 := fl_step (B := B) (E := E) (cs := ["Place"]) (f := "sent") (e := eLst lNil) (d := .lst []) (fs := F4) v0 (by simp) (by omega) (by simp [z0])
  obtain ⟨F5, hF5⟩ : ∃ F, putFD "sent" (.lst []) F4 = F := ⟨_, rfl⟩
  have l5 : F5.length ≤ 5 := by rw [← hF5]; have := lF (fs := F4) (f := "sent") (d := .lst []); omega
  rw [hF5] at s5
  have s6 := fl_step (B := B) (E := E) (cs := ["Place"]) (f := "is_over") (e := eC (.bl false)) (d := .bl false) (fs := F5) v0 (by simp) (by omega) rfl
  obtain ⟨F6, hF6⟩ : ∃ F, putFD "is_over" (.bl false) F5 = F := ⟨_, rfl⟩
  have l6 : F6.length ≤ 6 := by rw [← hF6]; have := lF (fs := F5) (f := "is_over") (d := .bl false); omega
  rw [hF6] at s6
  have s7 := fl_step (B := B) (E := E) (cs := ["Place"]) (f := "ended") (e := eC .non) (d := .non) (fs := F6) v0 (by simp) (by omega) rfl
  have fin : putFD "ended" .non F6 = insP g := by rw [← hF6, ← hF5, ← hF4, ← hF3, ← hF2, ← hF1]; exact put_seq g
  rw [fin] at s7
  have st : startD 5 [.loc B.length, .str g.nm, .str g.dt, .int (g.lo : Nat), .int (g.hi : Nat)] = E := by rw [hE]; rfl
  have ex : exitD .pure (B ++ [Cell.ins "Place" []]) .non (B ++ [Cell.ins "Place" (insP g)]) = .ok .non (B ++ [Cell.ins "Place" (insP g)]) := by
    have ln : (B ++ [Cell.ins "Place" []]).length = B.length + 1 := by simp
    have tk : (B ++ [Cell.ins "Place" (insP g)]).take (B.length + 1) = B ++ [Cell.ins "Place" (insP g)] := List.take_of_length_le (by simp)
    unfold exitD
    simp only [frzD]
    rw [ln, tk, if_pos (.inr (by rw [List.all_append, hb]; rfl))]
  have run : g_Place_init E (B ++ [Cell.ins "Place" []]) = .nx E (B ++ [Cell.ins "Place" (insP g)]) := by
    unfold g_Place_init
    rw [seqE g1, seqE g2, seqE s1, seqE s2, seqE s3, seqE s4, seqE s5, seqE s6, s7]
  show (match g_Place_init (startD 5 [.loc B.length, .str g.nm, .str g.dt, .int (g.lo : Nat), .int (g.hi : Nat)]) (B ++ [Cell.ins "Place" []]) with
    | .nx _ S1 => exitD .pure (B ++ [Cell.ins "Place" []]) .non S1
    | .rt d S1 => exitD .pure (B ++ [Cell.ins "Place" []]) d S1
    | .ex x _ S1 => .ex x S1
    | _ => .bad) = _
  rw [st, run]
  exact ex
def pcells (gs : List Gd) : Store := gs.map fun g => .ins "Place" (insP g)
theorem pcells_bel (n : Nat) (gs : List Gd) : (pcells gs).all (Cell.bel n) = true := by
  rw [List.all_eq_true]
  intro c hc
  obtain ⟨g, hg, rfl⟩ := List.mem_map.mp hc
  rfl
theorem made_loop {env : EnvD} (hl : 4 < env.length) (h0 : ∀ n, S.all (Cell.bel (S.length + n)) = true) : ∀ (rest done : List Gd), (∀ g ∈ rest, GOk g) → done.length + rest.length ≤ 100 →
    lcD (bTup (bCons (bName 1) (bCons (bName 2) (bCons (bName 3) (bCons (bName 4) bNil))))) eYes g__law_made_e1 env ((List.range done.length).map fun i => D.loc (S.length + i)) (rest.map gdD) (S ++ pcells done) = .ok ((List.range (done.length + rest.length)).map fun i => D.loc (S.length + i)) (S ++ pcells (done ++ rest))
  | [], done, _, _ => by simp [lcD]
  | g :: rest, done, hg, hlen => by
    have ih := made_loop (env := env) hl h0 rest (done ++ [g]) (fun x hx => hg x (List.mem_cons_of_mem _ hx)) (by simp at hlen ⊢; omega)
    have hlen' : done.length + (rest.length + 1) ≤ 100 := hlen
    have ini := init_ok (B := S ++ pcells done) (hg g List.mem_cons_self) (by
      have := h0 (done.length + 1)
      rw [List.all_append, pcells_bel, List.length_append, show (pcells done).length = done.length by simp [pcells], show S.length + done.length + 1 = S.length + (done.length + 1) by omega, this]; rfl)
    obtain ⟨e1, he1, v1, v2, v3, v4⟩ : ∃ e1, (bTup (bCons (bName 1) (bCons (bName 2) (bCons (bName 3) (bCons (bName 4) bNil))))) (gdD g) env = some e1 ∧ (∀ S, eVar 1 e1 S = .ok (.str g.nm) S) ∧ (∀ S, eVar 2 e1 S = .ok (.str g.dt) S) ∧ (∀ S, eVar 3 e1 S = .ok (.int (g.lo : Nat)) S) ∧ (∀ S, eVar 4 e1 S = .ok (.int (g.hi : Nat)) S) := by
      refine ⟨(((env.set 1 (some (.str g.nm))).set 2 (some (.str g.dt))).set 3 (some (.int (g.lo : Nat)))).set 4 (some (.int (g.hi : Nat))), rfl, fun S => eVar_at ?_, fun S => eVar_at ?_, fun S => eVar_at ?_, fun S => eVar_at ?_⟩
      · simp [List.getElem?_set]; omega
      · simp [List.getElem?_set]; omega
      · simp [List.getElem?_set]; omega
      · simp [List.getElem?_set]; omega
    have pl : (pcells done).length = done.length := by simp [pcells]
    have ev : g__law_made_e1 e1 (S ++ pcells done) = .ok (.loc (S.length + done.length)) (S ++ pcells (done ++ [g])) := by
      have e2 : S ++ pcells (done ++ [g]) = (S ++ pcells done) ++ [.ins "Place" (insP g)] := by simp [pcells]
      rw [e2]
      unfold g__law_made_e1
      rw [eMake_is]
      have ar : (lCons (eVar 1) (lCons (eVar 2) (lCons (eVar 3) (lCons (eVar 4) lNil)))) e1 (S ++ pcells done) = .ok [.str g.nm, .str g.dt, .int (g.lo : Nat), .int (g.hi : Nat)] (S ++ pcells done) := by simp [v1, v2, v3, v4]
      rw [ar]
      dsimp only [LR.bindE_ok]
      rw [ini]
      dsimp only
      rw [List.length_append, pl]
    rw [List.map_cons]
    unfold lcD
    rw [he1]
    dsimp only [eYes]
    rw [ev]
    dsimp only
    rw [if_pos (sz_is (by simp; omega))]
    have er : ((List.range done.length).map fun i => D.loc (S.length + i)) ++ [D.loc (S.length + done.length)] = (List.range (done ++ [g]).length).map fun i => D.loc (S.length + i) := by
      rw [List.length_append, List.length_singleton, List.range_succ, List.map_append]; rfl
    rw [er, ih]
    simp [Nat.add_assoc, Nat.add_comm 1]
theorem frzDs_atS {ρ : Nat → Option D} {n : Nat} {f : Gd → D} : ∀ {gs : List Gd} (k : Nat), (∀ i (h : i < gs.length), ρ (n + (k + i)) = some (f gs[i])) → frzDs ρ ((List.range gs.length).map fun i => D.loc (n + (k + i))) = some (gs.map f)
  | [], k, _ => rfl
  | g :: gs, k, h => by
    have h0 := h 0 (by simp)
    have ih := frzDs_atS (ρ := ρ) (n := n) (f := f) (gs := gs) (k + 1) (fun i hi => by
      have := h (i + 1) (by simp; omega)
      rw [show n + (k + 1 + i) = n + (k + (i + 1)) by omega, this]; rfl)
    rw [List.length_cons, List.range_succ_eq_map, List.map_cons, List.map_map]
    show (frzD ρ (.loc (n + (k + 0)))).bind (fun a => (frzDs ρ _).map (a :: ·)) = _
    have e : ((fun i => D.loc (n + (k + i))) ∘ Nat.succ) = fun i => D.loc (n + (k + 1 + i)) := by
      funext i
      simp only [Function.comp]
      rw [show n + (k + i.succ) = n + (k + 1 + i) by omega]
    rw [e, ih]
    have h0' : frzD ρ (.loc (n + (k + 0))) = some (f g) := h0
    rw [h0']; rfl
theorem res_place {gs : List Gd} {i : Nat} (h : i < gs.length) (k : Nat) : resD S.length (S ++ pcells gs) (k + 2) (S.length + i) = some (plO gs[i]) := by
  have c : (S ++ pcells gs)[S.length + i]? = some (.ins "Place" (insP gs[i])) := by
    rw [List.getElem?_append_right (by omega), Nat.add_sub_cancel_left]
    unfold pcells
    rw [List.getElem?_map, List.getElem?_eq_getElem h]; rfl
  unfold resD
  rw [if_neg (by omega), c]
  rfl
theorem made_ok {gs : List Gd} (h : ∀ g ∈ gs, GOk g) (hl : gs.length ≤ 50) (h0 : ∀ n, S.all (Cell.bel (S.length + n)) = true) : d__law_made [.lst (gs.map gdD)] S = .ok (.lst (gs.map plO)) S := by
  have ml := made_loop (S := S) (env := [some (.lst (gs.map gdD)), none, none, none, none]) (by simp) h0 gs [] h (by simp; omega)
  have e0 : (List.range ([] : List Gd).length).map (fun i => D.loc (S.length + i)) = [] := rfl
  have e1 : S ++ pcells [] = S := by simp [pcells]
  rw [e0, e1, List.nil_append] at ml
  have ev : eLc (iSeq (eVar 0)) (bTup (bCons (bName 1) (bCons (bName 2) (bCons (bName 3) (bCons (bName 4) bNil))))) eYes g__law_made_e1 [1, 2, 3, 4] [some (.lst (gs.map gdD)), none, none, none, none] S = .ok (.lst ((List.range (([] : List Gd).length + gs.length)).map fun i => D.loc (S.length + i))) (S ++ pcells gs) := by
    rw [eLc_is]
    show LR.bindE (lcD _ _ _ [some (.lst (gs.map gdD)), none, none, none, none] [] (gs.map gdD) _) _ = _
    rw [ml]; rfl
  have fz := frzDs_atS (ρ := resD S.length (S ++ pcells gs) 12) (n := S.length) (f := plO) (gs := gs) 0 (fun i hi => by
    rw [Nat.zero_add]
    exact res_place hi 10)
  have ex : exitD .pure S (.lst ((List.range (([] : List Gd).length + gs.length)).map fun i => D.loc (S.length + i))) (S ++ pcells gs) = .ok (.lst (gs.map plO)) S := by
    refine exit_of ?_ (by simp)
    show (frzDs _ _).map D.lst = _
    have e2 : ([] : List Gd).length + gs.length = gs.length := by simp
    simp only [Nat.zero_add] at fz
    rw [e2, fz]; rfl
  refine fnRt (S' := S ++ pcells gs) (d := .lst ((List.range (([] : List Gd).length + gs.length)).map fun i => D.loc (S.length + i))) ?_ ex
  show g__law_made [some (.lst (gs.map gdD)), none, none, none, none] S = _
  unfold g__law_made
  rw [sRet_is, ev]; rfl
end DS
end
section
set_option maxHeartbeats 1000000
/-! Grounds, drawn. -/
namespace DS
open PySem L2 DL
open DR (lcD_fa dcD_fold dcD_new forD_foldS pys_strs shp_strs goodN)
open DW (NamesN)
variable {S : Store}
theorem nextT {c : Cell} {m : Nat} {T : Store} (n : Int) (d : Drw c m) (hm : m ≤ 100000) (hn : 0 < n) (hn2 : n < 1073741824) :
    ∃ x c', d__law_next [.loc 0, .int n] (c :: T) = .ok (.int x) (c' :: T) ∧ 0 ≤ x ∧ x < n ∧ Drw c' (m + 1) := next_ok (S := c :: T) (l := 0) rfl d hm hn hn2
theorem pickT {c : Cell} {m : Nat} {T : Store} (ds : List D) (d : Drw c m) (hm : m ≤ 100000) (hn : ds ≠ []) (hn2 : ds.length < 1073741824) :
    ∃ x ∈ ds, ∃ c', d__law_pick [.loc 0, .lst ds] (c :: T) = .ok x (c' :: T) ∧ Drw c' (m + 1) := pick_ok (S := c :: T) (l := 0) rfl d hm hn hn2
theorem shuffle_loopT {α : Type} (f : α → D) (T : Store) {elt : EM} {env : EnvD} (he : ∀ (k : D) (S : Store), elt (env.set 3 (some k)) S = (eMeth "list" mPopAt (eC (.loc (T.length + 1))) (lCons (eCall d__law_next (lCons (eC (.loc 0)) (lCons (eCallB bLenX (lCons (eC (.loc (T.length + 1))) lNil)) lNil))) lNil)) env S) :
    ∀ (n : Nat) (ds : List D) (l : List α) (acc : List D) (c : Cell) (m : Nat), l.length = n → ds.length = n → acc.length + n ≤ 1000 → Drw c m → m + n ≤ 90000 →
      ∃ (l' : List α) (c' : Cell), lcD (bName 3) eYes elt env acc ds (c :: (T ++ [.lst (l.map f)])) = .ok (acc ++ l'.map f) (c' :: (T ++ [.lst []])) ∧ l'.Perm l ∧ Drw c' (m + n) := by
  intro n
  induction n with
  | zero =>
    intro ds l acc c m hl hd _ d _
    have e1 := List.length_eq_zero_iff.mp hl
    have e2 := List.length_eq_zero_iff.mp hd
    subst e1 e2
    exact ⟨[], c, by simp [lcD], .refl _, d⟩
  | succ n ih =>
    intro ds l acc c m hl hd ha d hm
    cases ds with
    | nil => simp at hd
    | cons k ds =>
      obtain ⟨i, c1, n1, i0, i1, d1⟩ := nextT (T := T ++ [.lst (l.map f)]) (c := c) (l.length : Int) d (by omega) (by omega) (by omega)
      obtain ⟨j, rfl⟩ := Int.eq_ofNat_of_zero_le i0
      have hj : j < l.length := by omega
      obtain ⟨l', c', h1, h2, h3⟩ := ih ds (l.eraseIdx j) (acc ++ [f l[j]]) c1 (m + 1) (by rw [List.length_eraseIdx_of_lt hj]; omega) (by simpa using hd) (by simp; omega) d1 (by omega)
      refine ⟨l[j] :: l', c', ?_, ?_, by rw [show m + (n + 1) = m + 1 + n by omega]; exact h3⟩
      · unfold lcD
        dsimp only [bName, eYes]
        rw [he]
        have w : w63 ((j : Nat) : Int) := w63_is (by omega) (by omega)
        have q := seqIndex_nat (i := j) (n := l.length) hj
        have ee : (eMeth "list" mPopAt (eC (.loc (T.length + 1))) (lCons (eCall d__law_next (lCons (eC (.loc 0)) (lCons (eCallB bLenX (lCons (eC (.loc (T.length + 1))) lNil)) lNil))) lNil)) env (c :: (T ++ [.lst (l.map f)])) = .ok (f l[j]) (c1 :: (T ++ [.lst ((l.eraseIdx j).map f)])) := by
          have c0 : cel (c :: (T ++ [.lst (l.map f)])) (T.length + 1) = some (.lst (l.map f)) := by simp [cel]
          have c2 : cel (c1 :: (T ++ [.lst (l.map f)])) (T.length + 1) = some (.lst (l.map f)) := by simp [cel]
          have em : (l.map f).eraseIdx j = (l.eraseIdx j).map f := eraseIdx_mapD f l j
          simp [c0, c2, n1, w, q, hj, em]
        rw [ee]
        dsimp only
        rw [if_pos (show sz (acc.length + 1) from sz_is (by omega)), h1]
        simp
      · exact (List.Perm.cons _ h2).trans (perm_out l j hj)
/-- stirred, of a live list -/
theorem stirC {α : Type} (f : α → D) (hf : ∀ ρ a, frzD ρ (f a) = some (f a)) (hb : ∀ n a, belD n (f a) = true) (l : List α) {c : Cell} {m : Nat} (d : Drw c m) (hm : m + l.length ≤ 90000) (hl : l.length ≤ 900) :
    ∃ (l' : List α) (c' : Cell), d__law_stirred [.loc 0, .loc 1] [c, .lst (l.map f)] = .ok (.lst (l'.map f)) [c', .lst (l.map f)] ∧ l'.Perm l ∧ Drw c' (m + l.length) := by
  obtain ⟨l', c', h1, h2, h3⟩ := shuffle_loopT f [.lst (l.map f)] (elt := g__law_stirred_e1) (env := [some (.loc 0), some (.loc 1), some (.loc 2), none]) (fun k S => rfl) l.length (rangeD 0 l.length) l [] c m rfl (by simp) (by simp; omega) d hm
  refine ⟨l', c', ?_, h2, h3⟩
  have r : rOk (l.length : Int) := rOk_n (by omega)
  have bl : ∀ n, belDs n (l.map f) = true := fun n => by
    clear h1 h2 h3 hm hl r
    induction l with
    | nil => rfl
    | cons a l ih => show (belD n (f a) && belDs n (l.map f)) = true; rw [hb, ih]; rfl
  have ex : exitD .pure [c, .lst (l.map f)] (.lst (l'.map f)) [c', .lst (l.map f), .lst []] = .ok (.lst (l'.map f)) [c', .lst (l.map f)] := by
    have tk : ([c', .lst (l.map f), .lst []] : Store).take 2 = [c', .lst (l.map f)] := rfl
    unfold exitD
    rw [show ([c, .lst (l.map f)] : Store).length = 2 from rfl, show frzD (resD 2 [c', .lst (l.map f), .lst []] 12) (.lst (l'.map f)) = some (.lst (l'.map f)) by simp [frzD, frzDs_map (hf _)]]
    dsimp only
    rw [tk, if_pos (.inr (by
      show (Cell.bel 2 c' && (Cell.bel 2 (.lst (l.map f)) && true)) = true
      rw [h3.bel]
      show (true && (belDs 2 (l.map f) && true)) = true
      rw [bl]; rfl))]
  have c0 : cel [c, .lst (l.map f)] 1 = some (.lst (l.map f)) := rfl
  have c2 : cel [c, .lst (l.map f), .lst (l.map f)] 2 = some (.lst (l.map f)) := rfl
  have z : sz l.length := sz_is (by omega)
  have lm : bListXM [.loc 1] [c, .lst (l.map f)] = .ok (.loc 2) [c, .lst (l.map f), .lst (l.map f)] := rfl
  simp only [List.nil_append, List.singleton_append] at h1
  simp [d__law_stirred, g__law_stirred, r, c0, c2, z, lm, h1, ex]
/-- two grounds have no stub in common -/
def Apart (a b : Gd) : Prop := a.hi < b.lo ∨ b.hi < a.lo
structure GsOk (gs : List Gd) : Prop where
  ok : ∀ g ∈ gs, GOk g
  nd : (gs.map (·.nm)).Nodup
  ap : gs.Pairwise Apart
  w : ∀ g ∈ gs, g.hi ≤ g.lo + 9
  len : gs.length ≤ 4
theorem GsOk.perm {a b : List Gd} (h : GsOk a) (p : b.Perm a) : GsOk b :=
  ⟨fun g hg => h.ok g (p.mem_iff.mp hg), (p.map _).nodup_iff.mpr h.nd, p.symm.pairwise h.ap fun {x y} q => q.symm, fun g hg => h.w g (p.mem_iff.mp hg), by rw [p.length_eq]; exact h.len⟩
end DS
end
section
set_option maxHeartbeats 1000000
/-! Grounds, drawn: the walk. -/
namespace DS
open PySem L2 DL
open DR (lcD_fa dcD_fold dcD_new forD_foldS pys_strs shp_strs goodN)
open DW (NamesN)
variable {S : Store} {ns : List Str}
structure GInv (ns : List Str) (P : List Gd) (low : Nat) : Prop where
  ok : ∀ g ∈ P, GOk g
  nm : P.map (·.nm) = ns.take P.length
  ap : P.Pairwise Apart
  w : ∀ g ∈ P, g.hi ≤ g.lo + 9
  lt : ∀ g ∈ P, g.hi < low
  top : low ≤ 9950 + 12 * P.length
abbrev gE (ns : List Str) (low : Int) (x4 x5 : Option D) : EnvD := [some (.loc 0), some (.lst (ns.map .str)), some (.loc 1), some (.int low), x4, x5]
theorem name_at (N : NamesN 26 ns) {i : Nat} (h : i < 26) : ∃ s, ns[i]? = some s ∧ goodN s = true ∧ ∀ S, opIxX (.lst (ns.map .str)) (.int (i : Nat)) S = .ok (.str s) S := by
  have hl : i < ns.length := by rw [N.len]; exact h
  refine ⟨ns[i], List.getElem?_eq_getElem hl, N.good _ (List.getElem_mem hl), fun S => ?_⟩
  rw [opIxX_l, atI_ofNat (by simpa using hl)]
  simp
theorem ground_step (N : NamesN 26 ns) {P : List Gd} {low : Nat} (I : GInv ns P low) (hP : P.length < 4) {x4 x5 : Option D} {c : Cell} {m : Nat} (d : Drw c m) (hm : m ≤ 80000) :
    ∃ (g : Gd) (low' : Nat) (y5 : Option D) (c' : Cell), g__law_grounds_b1 (gE ns low (some (.int (P.length : Nat))) x5) [c, .lst (P.map gdD)] = .nx (gE ns low' (some (.int (P.length : Nat))) y5) [c', .lst ((P ++ [g]).map gdD)] ∧ GInv ns (P ++ [g]) low' ∧ Drw c' (m + 3) := by
  obtain ⟨x, c1, n1, x0, x1, d1⟩ := nextT (T := [.lst (P.map gdD)]) 3 d (by omega) (by decide) (by decide)
  obtain ⟨i, rfl⟩ := Int.eq_ofNat_of_zero_le x0
  obtain ⟨y, hy, c2, p2, d2⟩ := pickT (T := [.lst (P.map gdD)]) [.int 0, .int 2, .int 5, .int 9] d1 (by omega) (by simp) (by simp)
  obtain ⟨j, rfl, hj⟩ : ∃ j : Nat, y = .int (j : Nat) ∧ j ≤ 9 := by
    simp only [List.mem_cons, List.not_mem_nil, or_false] at hy
    rcases hy with rfl | rfl | rfl | rfl
    · exact ⟨0, rfl, by omega⟩
    · exact ⟨2, rfl, by omega⟩
    · exact ⟨5, rfl, by omega⟩
    · exact ⟨9, rfl, by omega⟩
  obtain ⟨z, c3, n3, z0, z1, d3⟩ := nextT (T := [.lst (P.map gdD)]) 3 d2 (by omega) (by decide) (by decide)
  obtain ⟨q, rfl⟩ := Int.eq_ofNat_of_zero_le z0
  obtain ⟨nm, hn, gn, ixn⟩ := name_at N (i := P.length) (by omega)
  obtain ⟨dt, hdt, gdt, ixd⟩ := name_at N (i := 4 + q) (by omega)
  have hlen : P.length ≤ 4 := by omega
  refine ⟨⟨nm, dt, low + i, low + i + j⟩, low + i + j + 1, some (.int ((low + i + j : Nat) : Int)), c3, ?_, ⟨?_, ?_, ?_, ?_, ?_, ?_⟩, d3⟩
  · have z4 : sz 4 := sz_is (by omega)
    have zp : sz (P.length + 1) := sz_is (by omega)
    have a1 : (low : Int) + (i : Int) = ((low + i : Nat) : Int) := by omega
    have a2 : ((low + i : Nat) : Int) + (j : Int) = ((low + i + j : Nat) : Int) := by omega
    have a3 : ((low + i + j : Nat) : Int) + 1 = ((low + i + j + 1 : Nat) : Int) := by omega
    have a4 : (4 : Int) + (q : Int) = ((4 + q : Nat) : Int) := by omega
    have cl : cel [c3, .lst (P.map gdD)] 1 = some (.lst (P.map gdD)) := rfl
    have fin : (P ++ [(⟨nm, dt, low + i, low + i + j⟩ : Gd)]).map gdD = P.map gdD ++ [.tup [.str nm, .str dt, .int ((low + i : Nat) : Int), .int ((low + i + j : Nat) : Int)]] := by rw [List.map_append]; rfl
    have s1 : (sAsg (eOp opAdd (eVar 3) (eCall d__law_next (lCons (eVar 0) (lCons (eC (.int 3)) lNil)))) (bName 3)) (gE ns low (some (.int (P.length : Nat))) x5) [c, .lst (P.map gdD)] = .nx (gE ns ((low + i : Nat) : Int) (some (.int (P.length : Nat))) x5) [c1, .lst (P.map gdD)] := by
      unfold gE
      generalize ns.map D.str = NL at *
      simp only [sAsg_is, eOp_is, eVar_at, eCall_is, lCons_is, eC_is, lNil_is]
      simp [n1, ← a1]
    have s2 : (sAsg (eOp opAdd (eVar 3) (eCall d__law_pick (lCons (eVar 0) (lCons (eLst (lCons (eC (.int 0)) (lCons (eC (.int 2)) (lCons (eC (.int 5)) (lCons (eC (.int 9)) lNil))))) lNil)))) (bName 5)) (gE ns ((low + i : Nat) : Int) (some (.int (P.length : Nat))) x5) [c1, .lst (P.map gdD)] = .nx (gE ns ((low + i : Nat) : Int) (some (.int (P.length : Nat))) (some (.int ((low + i + j : Nat) : Int)))) [c2, .lst (P.map gdD)] := by
      unfold gE
      generalize ns.map D.str = NL at *
      rw [← a2]
      generalize ((low + i : Nat) : Int) = L at *
      simp [p2, z4]
    have s3 : (sDrop (eMeth "list" mAppend (eVar 2) (lCons (eTup (lCons (eOp opIxX (eVar 1) (eVar 4)) (lCons (eOp opIxX (eVar 1) (eOp opAdd (eC (.int 4)) (eCall d__law_next (lCons (eVar 0) (lCons (eC (.int 3)) lNil))))) (lCons (eVar 3) (lCons (eVar 5) lNil))))) lNil))) (gE ns ((low + i : Nat) : Int) (some (.int (P.length : Nat))) (some (.int ((low + i + j : Nat) : Int)))) [c2, .lst (P.map gdD)] = .nx (gE ns ((low + i : Nat) : Int) (some (.int (P.length : Nat))) (some (.int ((low + i + j : Nat) : Int)))) [c3, .lst ((P ++ [(⟨nm, dt, low + i, low + i + j⟩ : Gd)]).map gdD)] := by
      rw [fin]
      rw [← a4] at ixd
      unfold gE
      generalize D.lst (ns.map D.str) = NL at *
      generalize ((low + i : Nat) : Int) = L at *
      generalize ((low + i + j : Nat) : Int) = L2 at *
      have c2l : cel [c2, .lst (P.map gdD)] 1 = some (.lst (P.map gdD)) := rfl
      have t2 : tyD "list" [c2, Cell.lst (P.map gdD)] (.loc 1) = true := rfl
      simp [ixn, n3, ixd, z4, cl, c2l, zp, -opIxX_l]
    unfold g__law_grounds_b1
    rw [seqE s1, seqE s2, seqE s3]
    rw [← a3]
    unfold gE
    generalize ns.map D.str = NL at *
    generalize ((low + i + j : Nat) : Int) = L2 at *
    simp
  · intro g hg
    rcases List.mem_append.mp hg with h | h
    · exact I.ok g h
    · simp at h
      subst h
      have := I.top
      exact ⟨gn, gdt, by dsimp only; omega, by dsimp only; omega⟩
  · rw [List.map_append, I.nm, List.length_append]
    have hl : P.length < ns.length := by rw [N.len]; omega
    have e := List.getElem?_eq_getElem hl
    rw [e] at hn
    cases hn
    exact (List.take_append_getElem hl)
  · rw [List.pairwise_append]
    refine ⟨I.ap, List.pairwise_singleton _ _, fun a ha b hb => ?_⟩
    simp at hb
    subst hb
    have := I.lt a ha
    exact .inl (by dsimp only; omega)
  · intro g hg
    rcases List.mem_append.mp hg with h | h
    · exact I.w g h
    · simp at h
      subst h
      dsimp only
      omega
  · intro g hg
    rcases List.mem_append.mp hg with h | h
    · have := I.lt g h; omega
    · simp at h
      subst h
      dsimp only
      omega
  · have := I.top
    rw [List.length_append]
    simp
    omega
theorem grounds_loop (N : NamesN 26 ns) : ∀ (n : Nat) (P : List Gd) (low : Nat) (x4 x5 : Option D) (c : Cell) (m : Nat), P.length + n ≤ 4 → GInv ns P low → Drw c m → m + 3 * n ≤ 80000 →
    ∃ (P' : List Gd) (low' : Nat) (y4 y5 : Option D) (c' : Cell), forD (bName 4) g__law_grounds_b1 ((List.range' P.length n).map fun i : Nat => D.int (i : Nat)) (gE ns low x4 x5) [c, .lst (P.map gdD)] = .nx (gE ns low' y4 y5) [c', .lst (P'.map gdD)] ∧ GInv ns P' low' ∧ P'.length ≤ 4 ∧ Drw c' (m + 3 * n)
  | 0, P, low, x4, x5, c, m, hP, I, d, _ => ⟨P, low, x4, x5, c, rfl, I, by omega, d⟩
  | n + 1, P, low, x4, x5, c, m, hP, I, d, hm => by
    obtain ⟨g, low1, y5, c1, h1, I1, d1⟩ := ground_step N I (by omega) (x4 := x4) (x5 := x5) d (by omega)
    obtain ⟨P', low', z4, z5, c', h2, I2, l2, d2⟩ := grounds_loop N n (P ++ [g]) low1 (some (.int (P.length : Nat))) y5 c1 (m + 3) (by simp; omega) I1 d1 (by omega)
    refine ⟨P', low', z4, z5, c', ?_, I2, l2, by rw [show m + 3 * (n + 1) = m + 3 + 3 * n by omega]; exact d2⟩
    rw [List.range'_succ, List.map_cons, forD_cons]
    have bd : (bName 4) (D.int (P.length : Nat)) (gE ns low x4 x5) = some (gE ns low (some (.int (P.length : Nat))) x5) := rfl
    rw [bd]
    dsimp only
    rw [h1]
    dsimp only
    rw [List.length_append, List.length_singleton] at h2
    exact h2
theorem grounds_ok (N : NamesN 26 ns) {c : Cell} {m : Nat} (d : Drw c m) (hm : m ≤ 70000) :
    ∃ (gs : List Gd) (c' : Cell), d__law_grounds [.loc 0, .lst (ns.map .str)] [c] = .ok (.lst (gs.map gdD)) [c'] ∧ GsOk gs ∧ Drw c' (m + 20) := by
  obtain ⟨y, hy, c1, p1, d1⟩ := pickT (T := [.lst []]) [.int 0, .int 0, .int 17, .int 9900, .int 9950] d (by omega) (by simp) (by simp)
  obtain ⟨low, rfl, hlow⟩ : ∃ j : Nat, y = .int (j : Nat) ∧ j ≤ 9950 := by
    simp only [List.mem_cons, List.not_mem_nil, or_false] at hy
    rcases hy with rfl | rfl | rfl | rfl | rfl
    · exact ⟨0, rfl, by omega⟩
    · exact ⟨0, rfl, by omega⟩
    · exact ⟨17, rfl, by omega⟩
    · exact ⟨9900, rfl, by omega⟩
    · exact ⟨9950, rfl, by omega⟩
  obtain ⟨x, c2, n2, x0, x1, d2⟩ := nextT (T := [.lst []]) 4 d1 (by omega) (by decide) (by decide)
  obtain ⟨j, rfl⟩ := Int.eq_ofNat_of_zero_le x0
  obtain ⟨P, low', y4, y5, c3, h3, I3, l3, d3⟩ := grounds_loop N (1 + j) [] low none none c2 (m + 2) (by simp; omega) ⟨by simp, by simp, List.Pairwise.nil, by simp, by simp, by simpa using hlow⟩ d2 (by omega)
  obtain ⟨gs, c4, h4, hp, d4⟩ := stirC gdD (fun _ _ => rfl) (fun _ _ => rfl) P d3 (by omega) (by omega)
  have gP : GsOk P := ⟨I3.ok, by rw [I3.nm]; exact N.nd.sublist (List.take_sublist _ _), I3.ap, I3.w, l3⟩
  refine ⟨gs, c4, ?_, gP.perm hp, d4.mono (by omega)⟩
  have r1 : rOk (1 + (j : Int)) := rOk_i (by omega) (by omega)
  have t1 : (1 + (j : Int)).toNat = 1 + j := by omega
  have z5 : sz 5 := sz_is (by omega)
  have z0 : sz 0 := sz_is (by omega)
  have e1 : rangeD 0 (1 + j) = (List.range' ([] : List Gd).length (1 + j)).map fun i : Nat => D.int (i : Nat) := by
    show (List.range (1 + j)).map (fun i : Nat => D.int (0 + (i : Nat))) = (List.range' 0 (1 + j)).map fun i : Nat => D.int (i : Nat)
    rw [List.range_eq_range']
    refine List.map_congr_left fun i _ => ?_
    rw [Int.zero_add]
  have ex : exitD .pure [c] (.lst (gs.map gdD)) [c4, .lst (P.map gdD)] = .ok (.lst (gs.map gdD)) [c4] := by
    have tk : ([c4, .lst (P.map gdD)] : Store).take 1 = [c4] := rfl
    unfold exitD
    rw [show ([c] : Store).length = 1 from rfl, show frzD (resD 1 [c4, .lst (P.map gdD)] 12) (.lst (gs.map gdD)) = some (.lst (gs.map gdD)) by simp [frzD, frzDs_map (f := gdD) (fun _ => rfl)]]
    dsimp only
    rw [tk, if_pos (.inr (by show (Cell.bel 1 c4 && true) = true; rw [d4.bel]; rfl))]
  refine fnRt (S' := [c4, .lst (P.map gdD)]) (d := .lst (gs.map gdD)) ?_ ex
  show g__law_grounds [some (.loc 0), some (.lst (ns.map .str)), none, none, none, none] [c] = _
  unfold g__law_grounds
  have s1 : (sPar 2 3 (lCons (eLstM lNil) (lCons (eCall d__law_pick (lCons (eVar 0) (lCons (eLst (lCons (eC (.int 0)) (lCons (eC (.int 0)) (lCons (eC (.int 17)) (lCons (eC (.int 9900)) (lCons (eC (.int 9950)) lNil)))))) lNil))) lNil))) [some (.loc 0), some (.lst (ns.map .str)), none, none, none, none] [c] = .nx (gE ns low none none) [c1, .lst []] := by
    unfold gE
    generalize ns.map D.str = NL at *
    simp [p1, z5, z0]
  have it : iRange1 (lCons (eOp opAdd (eC (.int 1)) (eCall d__law_next (lCons (eVar 0) (lCons (eC (.int 4)) lNil)))) lNil) (gE ns low none none) [c1, .lst []] = .ok (rangeD 0 (1 + j)) [c2, .lst []] := by
    unfold gE
    generalize ns.map D.str = NL at *
    simp [n2, r1, t1]
  have s2 : (sFor (iRange1 (lCons (eOp opAdd (eC (.int 1)) (eCall d__law_next (lCons (eVar 0) (lCons (eC (.int 4)) lNil)))) lNil)) (bName 4) g__law_grounds_b1) (gE ns low none none) [c1, .lst []] = .nx (gE ns low' y4 y5) [c3, .lst (P.map gdD)] := by
    rw [sFor_is, it, e1]
    exact h3
  rw [seqE s1, seqE s2]
  unfold gE
  generalize ns.map D.str = NL at *
  simp [h4]
end DS
end
section
set_option maxHeartbeats 1000000
/-! Rights, drawn: the walk. -/
namespace DS
open PySem L2 DL
open DR (goodN)
open DW (NamesN)
open DR.K36 (kdv dicV any_kdv)
variable {S : Store} {ns : List Str}
end DS
end
section
set_option maxHeartbeats 1000000
/-! Data that is like itself; tokens; rulings, drawn. -/
namespace DS
open PySem L2 DL
open DR (goodN)
open DW (NamesN)
variable {S : Store} {ns : List Str}
/-- plain data of a given depth -/
def Pd (S : Store) (k : Nat) (d : D) : Prop := ∃ p, D.py S d = some p ∧ Shp k p
theorem Pd.int {k : Nat} {i : Int} : Pd S k (.int i) := ⟨.int i, rfl, .int i⟩
theorem Pd.str {k : Nat} {s : Str} (h : PyData.strOk s = true) : Pd S k (.str s) := ⟨.str s, rfl, .str h⟩
theorem pds {k : Nat} : ∀ {ds : List D}, (∀ d ∈ ds, Pd S k d) → ∃ ps, D.pys S ds = some ps ∧ (∀ p ∈ ps, Shp k p) ∧ ps.length = ds.length
  | [], _ => ⟨[], rfl, fun _ h => by simp at h, rfl⟩
  | d :: ds, h => by
    obtain ⟨p, e1, q1⟩ := h d List.mem_cons_self
    obtain ⟨ps, e2, q2, l2⟩ := pds (ds := ds) fun x hx => h x (List.mem_cons_of_mem _ hx)
    exact ⟨p :: ps, by simp [D.pys, e1, e2], fun x hx => by
      rcases List.mem_cons.mp hx with rfl | hx
      · exact q1
      · exact q2 x hx, by simp [l2]⟩
theorem Pd.tup {k : Nat} {ds : List D} (h : ∀ d ∈ ds, Pd S k d) : Pd S (k + 1) (.tup ds) := by
  obtain ⟨ps, e, q, _⟩ := pds h
  exact ⟨.tuple ps, by simp [D.py, e], .tuple q⟩
theorem Pd.lst {k : Nat} {ds : List D} (h : ∀ d ∈ ds, Pd S k d) : Pd S (k + 1) (.lst ds) := by
  obtain ⟨ps, e, q, _⟩ := pds h
  exact ⟨.list ps, by simp [D.py, e], .list q⟩
theorem pd_nice {k n : Nat} {d : D} (h : Pd S k d) (hk : k < 8) : niceE S (n + 1) d = true := by
  obtain ⟨p, e, q⟩ := h
  unfold niceE
  rw [e]
  show (SeqAt.shaped p && PyData.eqv p p) = true
  rw [q.shaped (by omega), SeqAt.eqv_refl p q.1]
  rfl
theorem ne_nil {k : Nat} {ds : List D} (h : ∀ d ∈ ds, Pd S k d) (hk : k < 6) : opNe (.lst ds) (.lst []) S = .ok (.bl (!decide (ds = []))) S := by
  obtain ⟨ps, e, q, l⟩ := pds h
  unfold opNe
  rw [opEqB_of (p := .list ps) (q := .list []) (by simp [D.pyO, D.py, e]) (by simp [D.pyO, D.py, D.pys]) ((Shp.list q).shaped (by omega)) ((Shp.list (k := 0) (ps := []) (fun _ h => by simp at h)).shaped (by decide)) (fun _ _ h => by cases h)]
  cases ds with
  | nil =>
    cases ps with
    | nil => rfl
    | cons _ _ => simp at l
  | cons a ds =>
    cases ps with
    | nil => simp at l
    | cons _ _ => rfl
structure UOk (gs : List Gd) (u : Us) : Prop where
  wy : WyOk u
  vt : goodN u.vt = true
  pl : u.pl ∈ gs.map (·.nm)
theorem way_ok {u : Us} (h : WyOk u) : PyData.strOk u.wy = true := by
  rcases h with h | h | h <;> (rw [h]; decide +kernel)
theorem token_ok {c : Cell} {R : Store} {m : Nat} (d : Drw c m) (hm : m ≤ 90000) : ∃ (t : Int) (c' : Cell), d__law_token [.loc 0] (c :: R) = .ok (.int t) (c' :: R) ∧ Drw c' (m + 3) := by
  obtain ⟨x, c1, n1, _, _, d1⟩ := nextT (T := R) 50 d (by omega) (by decide) (by decide)
  obtain ⟨y, c2, n2, _, _, d2⟩ := nextT (T := R) 1000000000 d1 (by omega) (by decide) (by decide)
  obtain ⟨z, hz, c3, p3, d3⟩ := pickT (T := R) [.int 1, .int 1000000000, .int (1 + x), .int (1 + y)] d2 (by omega) (by simp) (by simp)
  have p10 : powOk 10 9 := ⟨by decide, by decide, by decide⟩
  have z4 : sz 4 := sz_is (by decide)
  obtain ⟨t, rfl⟩ : ∃ t : Int, z = .int t := by
    simp only [List.mem_cons, List.not_mem_nil, or_false] at hz
    rcases hz with rfl | rfl | rfl | rfl <;> exact ⟨_, rfl⟩
  refine ⟨t, c3, ?_, d3⟩
  simp [d__law_token, g__law_token, n1, n2, p3, p10, z4]
/-! ### rulings -/
section
variable {l : List Us} {cap : Nat}
end
end DS
end
section
set_option maxHeartbeats 1000000
/-! Uses, drawn: the walk. -/
namespace DS
open PySem L2 DL
open DR (goodN)
open DW (NamesN)
variable {S : Store} {ns : List Str} {gs : List Gd}
abbrev uE (ns : List Str) (gs : List Gd) (x4 x5 x6 x7 x8 x9 x10 x11 : Option D) : EnvD := [some (.loc 0), some (.lst (gs.map gdD)), some (.lst (ns.map .str)), some (.loc 1), x4, x5, x6, x7, x8, x9, x10, x11]
theorem use_step (N : NamesN 26 ns) {nm : Str} {x5 x6 x7 : Option D} {s : Nat} {P : List Us} (hP : P.length ≤ 100) {x9 x10 x11 : Option D} {c : Cell} {m : Nat} (d : Drw c m) (hm : m ≤ 80000) :
    ∃ (P' : List Us) (y9 y10 y11 : Option D) (c' : Cell), g__law_some_uses_b1 (uE ns gs (some (.str nm)) x5 x6 x7 (some (.int (s : Nat))) x9 x10 x11) [c, .lst (usesD P)] = .nx (uE ns gs (some (.str nm)) x5 x6 x7 (some (.int (s : Nat))) y9 y10 y11) [c', .lst (usesD P')] ∧ (P' = P ∨ ∃ u : Us, P' = P ++ [u] ∧ u.sb = s ∧ u.pl = nm ∧ WyOk u ∧ goodN u.vt = true) ∧ Drw c' (m + 7) := by
  obtain ⟨x, c1, n1, x0, x1, d1⟩ := nextT (T := [.lst (usesD P)]) 3 d (by omega) (by decide) (by decide)
  by_cases hx : 0 < x
  · obtain ⟨w, hw, c2, p2, d2⟩ := pickT (T := [.lst (usesD P)]) [.str "place", .str "letter", .str "doubt", .str "letter"] d1 (by omega) (by simp) (by simp)
    obtain ⟨h, hh, c3, p3, d3⟩ := pickT (T := [.lst (usesD P)]) [.int 0, .int 1, .int 2, .int 3, .int 2, .int 9, .int 10, .int 100] d2 (by omega) (by simp) (by simp)
    obtain ⟨z, c4, n4, z0, z1, d4⟩ := nextT (T := [.lst (usesD P)]) 6 d3 (by omega) (by decide) (by decide)
    obtain ⟨q, rfl⟩ := Int.eq_ofNat_of_zero_le z0
    obtain ⟨t, c5, t5, d5⟩ := token_ok (R := [.lst (usesD P)]) d4 (by omega)
    obtain ⟨vt, hvt, gvt, ixv⟩ := name_at N (i := 8 + q) (by omega)
    have a8 : (8 : Int) + (q : Int) = ((8 + q : Nat) : Int) := by omega
    rw [← a8] at ixv
    obtain ⟨wy, rfl, hwy⟩ : ∃ wy : Str, w = .str wy ∧ (wy = "place" ∨ wy = "letter" ∨ wy = "doubt") := by
      simp only [List.mem_cons, List.not_mem_nil, or_false] at hw
      rcases hw with rfl | rfl | rfl | rfl
      · exact ⟨_, rfl, .inl rfl⟩
      · exact ⟨_, rfl, .inr (.inl rfl)⟩
      · exact ⟨_, rfl, .inr (.inr rfl)⟩
      · exact ⟨_, rfl, .inr (.inl rfl)⟩
    obtain ⟨hr, rfl⟩ : ∃ hr : Nat, h = .int (hr : Nat) := by
      simp only [List.mem_cons, List.not_mem_nil, or_false] at hh
      rcases hh with rfl | rfl | rfl | rfl | rfl | rfl | rfl | rfl
      · exact ⟨0, rfl⟩
      · exact ⟨1, rfl⟩
      · exact ⟨2, rfl⟩
      · exact ⟨3, rfl⟩
      · exact ⟨2, rfl⟩
      · exact ⟨9, rfl⟩
      · exact ⟨10, rfl⟩
      · exact ⟨100, rfl⟩
    refine ⟨P ++ [⟨s, vt, wy, nm, hr, t⟩], some (.str wy), some (.int (hr : Nat)), some (.tup [.int (s : Nat), .str vt, .str wy, .str nm, .int (hr : Nat), .int t]), c5, ?_, .inr ⟨⟨s, vt, wy, nm, hr, t⟩, rfl, rfl, rfl, (show WyOk ⟨s, vt, wy, nm, hr, t⟩ from hwy), gvt⟩, d5⟩
    have fin : usesD (P ++ [⟨s, vt, wy, nm, hr, t⟩]) = usesD P ++ [.tup [.int (s : Nat), .str vt, .str wy, .str nm, .int (hr : Nat), .int t]] := by
      show (P ++ _).map Us.D = _
      rw [List.map_append]; rfl
    rw [fin]
    have zq : sz ((usesD P).length + 1) := sz_is (by simp; omega)
    have z4 : sz 4 := sz_is (by omega)
    have z6 : sz 6 := sz_is (by omega)
    have z8 : sz 8 := sz_is (by omega)
    generalize usesD P = PL at *
    have cl : cel [c5, .lst PL] 1 = some (.lst PL) := rfl
    unfold g__law_some_uses_b1 uE
    generalize D.lst (ns.map D.str) = NL at *
    generalize gs.map gdD = GL at *
    generalize D.int (s : Int) = SS at *
    generalize D.int (hr : Int) = HR at *
    simp [n1, hx, p2, p3, n4, t5, ixv, zq, z4, z6, z8, cl, -opIxX_l]
  · refine ⟨P, x9, x10, x11, c1, ?_, .inl rfl, d1.mono (by omega)⟩
    generalize usesD P = PL at *
    unfold g__law_some_uses_b1 uE
    generalize D.lst (ns.map D.str) = NL at *
    generalize gs.map gdD = GL at *
    generalize D.int (s : Int) = SS at *
    simp [n1, hx]
/-- what the uses drawn so far are -/
structure UInv (gs : List Gd) (A : List Nat) (P : List Us) : Prop where
  ok : ∀ u ∈ P, UOk gs u
  sub : (P.map (·.sb)).Sublist A
theorem uses_loop (N : NamesN 26 ns) {nm : Str} (hnm : nm ∈ gs.map (·.nm)) {x5 x6 x7 : Option D} : ∀ (n s : Nat) (A : List Nat) (P : List Us) (x8 x9 x10 x11 : Option D) (c : Cell) (m : Nat), A.length + n ≤ 60 → UInv gs A P → Drw c m → m + 7 * n ≤ 80000 →
    ∃ (P' : List Us) (y8 y9 y10 y11 : Option D) (c' : Cell), forD (bName 8) g__law_some_uses_b1 ((List.range' s n).map fun i : Nat => D.int (i : Nat)) (uE ns gs (some (.str nm)) x5 x6 x7 x8 x9 x10 x11) [c, .lst (usesD P)] = .nx (uE ns gs (some (.str nm)) x5 x6 x7 y8 y9 y10 y11) [c', .lst (usesD P')] ∧ UInv gs (A ++ List.range' s n) P' ∧ Drw c' (m + 7 * n)
  | 0, s, A, P, x8, x9, x10, x11, c, m, hA, I, d, _ => ⟨P, x8, x9, x10, x11, c, rfl, by simpa using I, d⟩
  | n + 1, s, A, P, x8, x9, x10, x11, c, m, hA, I, d, hm => by
    have hP : P.length ≤ A.length := by simpa using I.sub.length_le
    obtain ⟨P1, y9, y10, y11, c1, h1, hp, d1⟩ := use_step (gs := gs) N (nm := nm) (x5 := x5) (x6 := x6) (x7 := x7) (s := s) (P := P) (by omega) (x9 := x9) (x10 := x10) (x11 := x11) d (by omega)
    have I1 : UInv gs (A ++ [s]) P1 := by
      rcases hp with rfl | ⟨u, rfl, e1, e2, e3, e4⟩
      · exact ⟨I.ok, I.sub.trans (List.sublist_append_left _ _)⟩
      · refine ⟨fun v hv => ?_, ?_⟩
        · rcases List.mem_append.mp hv with hv | hv
          · exact I.ok v hv
          · rw [List.mem_singleton.mp hv]
            exact ⟨e3, e4, by rw [e2]; exact hnm⟩
        · rw [List.map_append, List.map_singleton, e1]
          exact I.sub.append (.refl _)
    obtain ⟨P', w8, w9, w10, w11, c', h2, I2, d2⟩ := uses_loop N hnm (x5 := x5) (x6 := x6) (x7 := x7) n (s + 1) (A ++ [s]) P1 (some (.int (s : Nat))) y9 y10 y11 c1 (m + 7) (by simp; omega) I1 d1 (by omega)
    refine ⟨P', w8, w9, w10, w11, c', ?_, by rw [List.range'_succ]; rw [List.append_assoc] at I2; exact I2, by rw [show m + 7 * (n + 1) = m + 7 + 7 * n by omega]; exact d2⟩
    rw [List.range'_succ, List.map_cons, forD_cons]
    have bd : (bName 8) (D.int (s : Nat)) (uE ns gs (some (.str nm)) x5 x6 x7 x8 x9 x10 x11) = some (uE ns gs (some (.str nm)) x5 x6 x7 (some (.int (s : Nat))) x9 x10 x11) := rfl
    rw [bd]
    dsimp only
    rw [h1]
    exact h2
/-- the stubs of some grounds -/
def stubsOf (gs : List Gd) : List Nat := gs.flatMap fun g => List.range' g.lo (g.hi + 1 - g.lo)
theorem stubs_len (h : ∀ g ∈ gs, g.hi ≤ g.lo + 9) : (stubsOf gs).length ≤ 10 * gs.length := by
  induction gs with
  | nil => simp [stubsOf]
  | cons g gs ih =>
    have i := ih fun x hx => h x (List.mem_cons_of_mem _ hx)
    have := h g List.mem_cons_self
    show ((List.range' g.lo (g.hi + 1 - g.lo)) ++ stubsOf gs).length ≤ _
    rw [List.length_append, List.length_range', List.length_cons]
    omega
theorem stubs_nd (h : gs.Pairwise Apart) : (stubsOf gs).Nodup := by
  induction gs with
  | nil => simp [stubsOf]
  | cons g gs ih =>
    obtain ⟨h1, h2⟩ := List.pairwise_cons.mp h
    show ((List.range' g.lo (g.hi + 1 - g.lo)) ++ stubsOf gs).Nodup
    rw [List.nodup_append]
    refine ⟨List.nodup_range', ih h2, fun a ha b hb => ?_⟩
    obtain ⟨g', hg', hb'⟩ := List.mem_flatMap.mp hb
    rw [List.mem_range'_1] at ha hb'
    rcases h1 g' hg' with q | q <;> omega
theorem grounds_uses (N : NamesN 26 ns) : ∀ (xs Q : List Gd) (P : List Us) (x4 x5 x6 x7 x8 x9 x10 x11 : Option D) (c : Cell) (m : Nat), (∀ g ∈ xs, g ∈ gs) → (∀ g ∈ gs, GOk g) → (∀ g ∈ gs, g.hi ≤ g.lo + 9) → (stubsOf (Q ++ xs)).length ≤ 60 → UInv gs (stubsOf Q) P → Drw c m → m + 7 * (stubsOf xs).length ≤ 80000 →
    ∃ (P' : List Us) (E' : EnvD) (c' : Cell), forD (bTup (bCons (bName 4) (bCons (bName 5) (bCons (bName 6) (bCons (bName 7) bNil))))) g__law_some_uses_b2 (xs.map gdD) (uE ns gs x4 x5 x6 x7 x8 x9 x10 x11) [c, .lst (usesD P)] = .nx E' [c', .lst (usesD P')] ∧ (∃ y4 y5 y6 y7 y8 y9 y10 y11, E' = uE ns gs y4 y5 y6 y7 y8 y9 y10 y11) ∧ UInv gs (stubsOf (Q ++ xs)) P' ∧ Drw c' (m + 7 * (stubsOf xs).length)
  | [], Q, P, x4, x5, x6, x7, x8, x9, x10, x11, c, m, _, _, _, _, I, d, _ => ⟨P, _, c, rfl, ⟨_, _, _, _, _, _, _, _, rfl⟩, by simpa using I, d⟩
  | g :: xs, Q, P, x4, x5, x6, x7, x8, x9, x10, x11, c, m, hx, ok, w9, ll, I, d, hm => by
    have hg := hx g List.mem_cons_self
    have okg := ok g hg
    have w := w9 g hg
    have e0 : stubsOf (g :: xs) = List.range' g.lo (g.hi + 1 - g.lo) ++ stubsOf xs := rfl
    have e1 : stubsOf (Q ++ [g]) = stubsOf Q ++ List.range' g.lo (g.hi + 1 - g.lo) := by simp [stubsOf]
    have e2 : stubsOf (Q ++ g :: xs) = stubsOf Q ++ List.range' g.lo (g.hi + 1 - g.lo) ++ stubsOf xs := by simp [stubsOf]
    have e3 : Q ++ g :: xs = Q ++ [g] ++ xs := by simp
    have l0 : (stubsOf (g :: xs)).length = (g.hi + 1 - g.lo) + (stubsOf xs).length := by rw [e0, List.length_append, List.length_range']
    have l2 : (stubsOf (Q ++ g :: xs)).length = (stubsOf Q).length + (g.hi + 1 - g.lo) + (stubsOf xs).length := by rw [e2, List.length_append, List.length_append, List.length_range']
    rw [l0] at hm
    rw [l2] at ll
    obtain ⟨P1, y8, y9, y10, y11, c1, h1, I1, d1⟩ := uses_loop N (gs := gs) (nm := g.nm) (List.mem_map_of_mem hg) (x5 := some (.str g.dt)) (x6 := some (.int (g.lo : Nat))) (x7 := some (.int (g.hi : Nat))) (g.hi + 1 - g.lo) g.lo (stubsOf Q) P x8 x9 x10 x11 c m (by omega) I d (by omega)
    rw [← e1] at I1
    obtain ⟨P', E', c', h2, hE, I2, d2⟩ := grounds_uses N xs (Q ++ [g]) P1 (some (.str g.nm)) (some (.str g.dt)) (some (.int (g.lo : Nat))) (some (.int (g.hi : Nat))) y8 y9 y10 y11 c1 (m + 7 * (g.hi + 1 - g.lo)) (fun a ha => hx a (List.mem_cons_of_mem _ ha)) ok w9 (by rw [← e3, l2]; omega) I1 d1 (by omega)
    refine ⟨P', E', c', ?_, hE, by rw [e3]; exact I2, by rw [l0, show m + 7 * (g.hi + 1 - g.lo + (stubsOf xs).length) = m + 7 * (g.hi + 1 - g.lo) + 7 * (stubsOf xs).length by omega]; exact d2⟩
    rw [List.map_cons, forD_cons]
    have bd : (bTup (bCons (bName 4) (bCons (bName 5) (bCons (bName 6) (bCons (bName 7) bNil))))) (gdD g) (uE ns gs x4 x5 x6 x7 x8 x9 x10 x11) = some (uE ns gs (some (.str g.nm)) (some (.str g.dt)) (some (.int (g.lo : Nat))) (some (.int (g.hi : Nat))) x8 x9 x10 x11) := rfl
    rw [bd]
    dsimp only
    have lh := okg.lh
    have h9 := okg.h9
    have er : rangeD (g.lo : Nat) (g.hi + 1 - g.lo) = (List.range' g.lo (g.hi + 1 - g.lo)).map fun i : Nat => D.int (i : Nat) := by
      show (List.range _).map (fun i : Nat => D.int ((g.lo : Int) + (i : Nat))) = _
      rw [List.range'_eq_map_range, List.map_map]
      exact List.map_congr_left fun i _ => by simp
    have tn : ((g.hi : Int) + 1 - (g.lo : Int)).toNat = g.hi + 1 - g.lo := by omega
    have it : iRange2 (lCons (eVar 6) (lCons (eOp opAdd (eVar 7) (eC (.int 1))) lNil)) (uE ns gs (some (.str g.nm)) (some (.str g.dt)) (some (.int (g.lo : Nat))) (some (.int (g.hi : Nat))) x8 x9 x10 x11) [c, .lst (usesD P)] = .ok (rangeD (g.lo : Nat) (g.hi + 1 - g.lo)) [c, .lst (usesD P)] := by
      have r1 : rOk (g.lo : Int) := rOk_i (by omega) (by omega)
      have r2 : rOk ((g.hi : Int) + 1) := rOk_i (by omega) (by omega)
      unfold uE
      generalize usesD P = PL at *
      generalize D.lst (ns.map D.str) = NL at *
      generalize gs.map gdD = GL at *
      simp [r1, r2, tn]
    unfold g__law_some_uses_b2
    rw [sFor_is, it, er]
    dsimp only [LR.bindS_ok]
    rw [h1]
    exact h2
theorem uses_okB (N : NamesN 26 ns) (h : GsOk gs) {c : Cell} {m : Nat} (d : Drw c m) (hm : m ≤ 70000) :
    ∃ (l : List Us) (c' : Cell), d__law_some_uses [.loc 0, .lst (gs.map gdD), .lst (ns.map .str)] [c] = .ok (.lst (usesD l)) [c'] ∧ (∀ u ∈ l, UOk gs u) ∧ (l.map (·.sb)).Nodup ∧ l.length ≤ 60 ∧ (∀ u ∈ l, u.sb ≤ 9999) ∧ Drw c' (m + 400) := by
  have ls : (stubsOf gs).length ≤ 40 := Nat.le_trans (stubs_len h.w) (by have := h.len; omega)
  obtain ⟨P, E, c1, h1, ⟨y4, y5, y6, y7, y8, y9, y10, y11, rfl⟩, I1, d1⟩ := grounds_uses N (gs := gs) gs [] [] none none none none none none none none c m (fun _ h => h) h.ok h.w (by simpa using by omega) ⟨fun _ h => by simp at h, by simp [stubsOf]⟩ d (by omega)
  rw [List.nil_append] at I1
  have lP : P.length ≤ 40 := by
    have := I1.sub.length_le
    rw [List.length_map] at this
    omega
  obtain ⟨l, c2, h2, hp, d2⟩ := stirC Us.D (fun _ _ => rfl) (fun _ _ => rfl) P d1 (by omega) (by omega)
  refine ⟨l, c2, ?_, fun u hu => I1.ok u (hp.mem_iff.mp hu), (hp.map _).nodup_iff.mpr ((stubs_nd h.ap).sublist I1.sub), by rw [hp.length_eq]; omega, fun u hu => by
    have q := I1.sub.subset (List.mem_map_of_mem (hp.mem_iff.mp hu))
    obtain ⟨g, hg, hq⟩ := List.mem_flatMap.mp q
    rw [List.mem_range'_1] at hq
    have := (h.ok g hg).h9
    omega, d2.mono (by omega)⟩
  have ex : exitD .pure [c] (.lst (usesD l)) [c2, .lst (usesD P)] = .ok (.lst (usesD l)) [c2] := by
    have tk : ([c2, .lst (usesD P)] : Store).take 1 = [c2] := rfl
    unfold exitD
    rw [show ([c] : Store).length = 1 from rfl, show frzD (resD 1 [c2, .lst (usesD P)] 12) (.lst (usesD l)) = some (.lst (usesD l)) by simp [frzD, frzDs_map (f := Us.D) (fun _ => rfl)]]
    dsimp only
    rw [tk, if_pos (.inr (by show (Cell.bel 1 c2 && true) = true; rw [d2.bel]; rfl))]
  refine fnRt (S' := [c2, .lst (usesD P)]) (d := .lst (usesD l)) ?_ ex
  show g__law_some_uses (uE ns gs none none none none none none none none |>.set 3 none) [c] = _
  have z0 : sz 0 := sz_is (by omega)
  have s1 : (sAsg (eLstM lNil) (bName 3)) (uE ns gs none none none none none none none none |>.set 3 none) [c] = .nx (uE ns gs none none none none none none none none) [c, .lst (usesD [])] := by
    unfold uE
    generalize D.lst (ns.map D.str) = NL at *
    generalize gs.map gdD = GL at *
    simp [z0]
  have it : iSeq (eVar 1) (uE ns gs none none none none none none none none) [c, .lst (usesD [])] = .ok (gs.map gdD) [c, .lst (usesD [])] := rfl
  unfold g__law_some_uses
  rw [seqE s1]
  have s2 : (sFor (iSeq (eVar 1)) (bTup (bCons (bName 4) (bCons (bName 5) (bCons (bName 6) (bCons (bName 7) bNil))))) g__law_some_uses_b2) (uE ns gs none none none none none none none none) [c, .lst (usesD [])] = .nx (uE ns gs y4 y5 y6 y7 y8 y9 y10 y11) [c1, .lst (usesD P)] := by
    rw [sFor_is, it]
    exact h1
  rw [seqE s2]
  unfold uE
  unfold usesD at *
  generalize D.lst (ns.map D.str) = NL at *
  generalize gs.map gdD = GL at *
  simp [h2]
theorem uses_ok (N : NamesN 26 ns) (h : GsOk gs) {c : Cell} {m : Nat} (d : Drw c m) (hm : m ≤ 70000) :
    ∃ (l : List Us) (c' : Cell), d__law_some_uses [.loc 0, .lst (gs.map gdD), .lst (ns.map .str)] [c] = .ok (.lst (usesD l)) [c'] ∧ (∀ u ∈ l, UOk gs u) ∧ (l.map (·.sb)).Nodup ∧ l.length ≤ 60 ∧ Drw c' (m + 400) := by
  obtain ⟨l, c', h1, h2, h3, h4, _, h5⟩ := uses_okB N h d hm
  exact ⟨l, c', h1, h2, h3, h4, h5⟩
end DS
end
section
/-! Things in a drawn order; races by their parts. -/
namespace DW
open PySem L2 DL DR
variable {S : Store}
structure Dst (ds : List Str) : Prop where
  good : ∀ n ∈ ds, goodN n = true
  nd : ds.Nodup
  l1 : 1 ≤ ds.length
  l6 : ds.length ≤ 6
theorem init_ok {nm kd : Str} {cs ds : List Str} {seats : Int} {way : Str} {c : Cell} (t : Told nm kd cs seats way) (td : Dst ds) (hb : c.bel 2 = true) :
    d_Race_init [.loc 1, .str nm, .str kd, tupS cs, tupS ds, .int seats, .str way] [c, .ins "Race" []] = .ok .non [c, .ins "Race" [("name", .str nm), ("kind", .str kd), ("choices", tupS cs), ("districts", tupS ds), ("seats", .int seats), ("by", .str way)]] := by
  have e1 := unlike1 (S := [c, .ins "Race" []]) t.nm
  have e2 : d_is_one_of [.str kd, .tup [.str "one", .str "any", .str "rank"]] [c, .ins "Race" []] = .ok (.bl true) [c, .ins "Race" []] := by
    have := oneOf_s (S := [c, .ins "Race" []]) (s := kd) (ns := ["one", "any", "rank"])
    rw [decide_eq_true (kinds_in t.kdOk)] at this
    exact this
  have e3 := unlike_ok (S := [c, .ins "Race" []]) (a := 2) (b := 5) t.good t.nd (by have := t.l2; omega) (by have := t.l5; omega) (by have := t.l5; omega)
  have e4 := unlike_ok (S := [c, .ins "Race" []]) (a := 1) (b := 6) td.good td.nd (by have := td.l1; omega) (by have := td.l6; omega) (by have := td.l6; omega)
  have e5 := between_ok (S := [c, .ins "Race" []]) seats 1 cs.length
  rw [decide_eq_true ⟨t.s1, t.s2⟩] at e5
  have e6 := way_ok (S := [c, .ins "Race" []]) t.w
  have nn : (cs.map D.str).length = cs.length := List.length_map _
  have ex : exitD .pure [c, .ins "Race" []] .non [c, .ins "Race" [("name", .str nm), ("kind", .str kd), ("choices", tupS cs), ("districts", tupS ds), ("seats", .int seats), ("by", .str way)]] = .ok .non [c, .ins "Race" [("name", .str nm), ("kind", .str kd), ("choices", tupS cs), ("districts", tupS ds), ("seats", .int seats), ("by", .str way)]] := by
    have b : ∀ l : List Str, belDs 2 (l.map .str) = true := fun l => by
      induction l with
      | nil => rfl
      | cons a l ih => show (true && belDs 2 (l.map .str)) = true; rw [ih]; rfl
    have rb : Cell.bel 2 (.ins "Race" [("name", .str nm), ("kind", .str kd), ("choices", tupS cs), ("districts", tupS ds), ("seats", .int seats), ("by", .str way)]) = true := by
      simp [Cell.bel, belDs, belD, b]
    unfold exitD
    simp only [frzD]
    rw [if_pos (.inr (by
      show (Cell.bel 2 c && (Cell.bel 2 _ && true)) = true
      rw [hb, rb]; rfl))]
    rfl
  simp only [d_Race_init, g_Race_init, fnF]
  simp [e1, e2, e3, e4, e5, e6, putFD, startD, ex, ne_name_kind, ne_name_choices, ne_name_districts, ne_name_seats, ne_name_by, ne_kind_choices, ne_kind_districts, ne_kind_seats, ne_kind_by, ne_choices_districts, ne_choices_seats, ne_choices_by, ne_districts_seats, ne_districts_by, ne_seats_by]
end DW
end
section
namespace DW
open PySem L2 DL DR
variable {S : Store}
end DW
end
section
/-! like, of nice data -/
namespace DL
open PySem L2
variable {S : Store}
structure SeqV (S : Store) (x : D) (t : Ty) (ds : List D) : Prop where
  ty : tyO S x = some (.b t)
  len : bLenX [x] S = .ok (.int ds.length) S
  ix : ∀ (i : Nat) d, ds[i]? = some d → opIxX x (.int (i : Int)) S = .ok d S
theorem seq_tup {ds : List D} (hl : ds.length ≤ 100000) : SeqV S (.tup ds) .tuple ds := by
  refine ⟨rfl, by simp, fun i d h => ?_⟩
  have e := atI_nat (xs := ds) (j := i) (v := d) h
  simp [e]
theorem seq_lst {ds : List D} (hl : ds.length ≤ 100000) : SeqV S (.lst ds) .list ds := by
  refine ⟨rfl, by simp, fun i d h => ?_⟩
  have e := atI_nat (xs := ds) (j := i) (v := d) h
  simp [e]
theorem seq_loc {ds : List D} {l : Nat} (hc : S[l]? = some (.lst ds)) (hl : ds.length ≤ 100000) : SeqV S (.loc l) .list ds := by
  have hc' : cel S l = some (.lst ds) := by simp only [cel]; exact hc
  refine ⟨by simp [tyO, hc], by simp [hc'], fun i d h => ?_⟩
  have e := atI_nat (xs := ds) (j := i) (v := d) h
  simp [hc', e]
inductive Nice : Nat → D → Prop
  | non {k} : Nice k .non
  | bl {k b} : Nice k (.bl b)
  | int {k i} : Nice k (.int i)
  | str {k s} : Nice k (.str s)
  | tup {k ds} (h : ∀ d ∈ ds, Nice k d) (hl : ds.length ≤ 100000) : Nice (k + 1) (.tup ds)
  | lst {k ds} (h : ∀ d ∈ ds, Nice k d) (hl : ds.length ≤ 100000) : Nice (k + 1) (.lst ds)
end DL
end
section
/-! alike, of nice data; stirred -/
namespace DL
open PySem L2
variable {S : Store}
theorem alike_seq (n : Nat) {x y : D} {t : Ty} {ds : List D} (vx : SeqV S x t ds) (vy : SeqV S y t ds) (ht : t = .tuple ∨ t = .list) (h : ∀ d ∈ ds, d__law_alike_n n [d, d] S = .ok (.bl true) S) (hl : ds.length ≤ 100000) : d__law_alike_n (n + 1) [x, y] S = .ok (.bl true) S := by
  have lc := lcD_fm (S := S) (b := bName 2) (tt := g__law_alike_t1 (d__law_alike_n n)) (elt := eVar 2) (env := [some x, some y, none]) (fun _ => false) id (rangeD 0 ds.length) [] (fun d hd => by
    obtain ⟨i, hi, he⟩ := List.getElem_of_mem hd
    have hg := range_get (lo := 0) (n := ds.length) (i := i) (d := d) (by rw [List.getElem?_eq_getElem hi, he])
    obtain ⟨h1, rfl⟩ := hg
    refine ⟨_, rfl, ?_, fun z => by cases z⟩
    have ex := vx.ix i ds[i] (List.getElem?_eq_getElem h1)
    have ey := vy.ix i ds[i] (List.getElem?_eq_getElem h1)
    have el := h ds[i] (List.getElem_mem h1)
    simp only [Int.zero_add] at *
    simp [g__law_alike_t1, ex, ey, el]) (by simp; omega)
  have r1 : rOk (ds.length : Int) := rOk_n (by omega)
  simp only [filter_no, List.map_nil, List.nil_append] at lc
  have lx := vx.len
  have ly := vy.len
  have tx := vx.ty
  have ty := vy.ty
  show fnF .pure 3 (g__law_alike (d__law_alike_n n)) _ S = _
  generalize d__law_alike_n n = r at lc ⊢
  rcases ht with rfl | rfl <;> simp [g__law_alike, tx, ty, lx, ly, Ty.isa, tabOr, tabF, r1, lc, opEq_nil]
theorem alike_nice : ∀ {k : Nat} {d : D}, Nice k d → ∀ n, k < n → d__law_alike_n n [d, d] S = .ok (.bl true) S
  | _, _, .non, 0, h => absurd h (Nat.not_lt_zero _)
  | _, _, .non, n + 1, _ => by simp [d__law_alike_n, g__law_alike, tabOr, tabF, Ty.isa]
  | _, _, .bl, 0, h => absurd h (Nat.not_lt_zero _)
  | _, _, .bl, n + 1, _ => by simp [d__law_alike_n, g__law_alike, tabOr, tabF, Ty.isa]
  | _, _, .int, 0, h => absurd h (Nat.not_lt_zero _)
  | _, _, .int, n + 1, _ => by simp [d__law_alike_n, g__law_alike, tabOr, tabF, d__law_whole, g__law_whole, Ty.isa]
  | _, _, .str, 0, h => absurd h (Nat.not_lt_zero _)
  | _, _, .str, n + 1, _ => by simp [d__law_alike_n, g__law_alike, tabOr, tabF, Ty.isa]
  | _, _, .tup _ _, 0, h => absurd h (Nat.not_lt_zero _)
  | _, _, .tup h hl, n + 1, hn => alike_seq n (seq_tup hl) (seq_tup hl) (.inl rfl) (fun d hd => alike_nice (h d hd) n (by omega)) hl
  | _, _, .lst _ _, 0, h => absurd h (Nat.not_lt_zero _)
  | _, _, .lst h hl, n + 1, hn => alike_seq n (seq_lst hl) (seq_lst hl) (.inr rfl) (fun d hd => alike_nice (h d hd) n (by omega)) hl
end DL
namespace DR
open PySem L2 DL
end DR
end
section
set_option maxHeartbeats 1000000
/-! Dicts that are alike; what settled is asked with, drawn. -/
namespace DS
open PySem L2 DL
open DR (goodN)
open DW (NamesN)
variable {S : Store} {ns : List Str} {gs : List Gd} {l : List Us}
theorem ctx_ok {rs : List (Str × Nat)} (h : GsOk gs) (hu : ∀ u ∈ l, UOk gs u) (nd : (l.map (·.sb)).Nodup) (ll : l.length ≤ 60) (hr : ∀ r ∈ rs, RuOk (l.map (·.sb)) r) (rl : rs.length ≤ 100) : Ctx l rs gs :=
  ⟨fun u hu' => (hu u hu').wy, fun u hu' => (hu u hu').pl, h.nd, fun g hg => DR.goodN_ok (h.ok g hg).dt, nd, ll, hr, rl, by have := h.len; omega⟩
end DS
end
section
set_option maxHeartbeats 1000000
/-! What is a ruling, of anything: the program's way. -/
namespace DS
open PySem L2 DL
variable {S : Store} {ns : List Nat}
/-- what may stand among the rulings -/
inductive Cd : D → Prop
  | non : Cd .non
  | str (w : Str) : Cd (.str w)
  | lst (ds : List D) : Cd (.lst ds)
  | dic0 : Cd (.dic [] [])
  | int (i : Int) : Cd (.int i)
  | bl (b : Bool) : Cd (.bl b)
  | t0 : Cd (.tup [])
  | t1 (x : D) : Cd (.tup [x])
  | t3 (x y z : D) : Cd (.tup [x, y, z])
  | tn (y : D) : Cd (.tup [.non, y])
  | ti (i : Int) (y : D) : Cd (.tup [.int i, y])
  | tsi (w : Str) (i : Int) : Cd (.tup [.str w, .int i])
  | tsb (w : Str) (b : Bool) : Cd (.tup [.str w, .bl b])
  | tsn (w : Str) : Cd (.tup [.str w, .non])
  | tss (w t : Str) : Cd (.tup [.str w, .str t])
def okW (w : Str) : Bool := decide (w = "admit") || decide (w = "refuse")
end DS
end
section
set_option maxHeartbeats 1000000
/-! need_rulings, of anything. -/
namespace DS
open PySem L2 DL
variable {S : Store} {ns : List Nat}
end DS
end
section
set_option maxHeartbeats 1000000
/-! Rulings, few; dicts by whole numbers; the stubs that count; which of them are late. -/
namespace DS
open PySem L2 DL
open DR (goodN dcD_new)
open DR.K36 (dicV)
variable {S : Store} {l : List Us} {gs : List Gd} {rs ra : List (Str × Nat)} {vs : List Str} {R : Str → Str} {pd ud rd ad : D}
/-! ### dicts by whole numbers -/
theorem ix_dicZ {ks : List Int} {f : Int → D} {i : Int} (h : i ∈ ks) : opIxX (dicZ ks f) (.int i) S = .ok (f i) S := by
  rw [opIxX_di, zip_kdz, val_kdz, if_pos h]
end DS
end
section
/-! What a refusal is: `_law_alone`, `_law_refusal`. -/
namespace DL
open PySem L2
variable {S : Store}
end DL
end
section
set_option maxHeartbeats 1000000
/-! A refusal's name; settled, where the rulings are none; rulings that are all good. -/
namespace DS
open PySem L2 DL
variable {S : Store} {l : List Us} {ns : List Nat}
/-! ### what is like itself -/
end DS
end
section
/-! Margins: the fewest marks that change who is on top. No program. -/
namespace DR
section
variable {α β : Type} [DecidableEq α] [DecidableEq β]
theorem sub_lenR : ∀ {l m : List α}, l.Nodup → (∀ a ∈ l, a ∈ m) → l.length ≤ m.length
  | [], _, _, _ => Nat.zero_le _
  | a :: l, m, nd, h => by
    rw [List.nodup_cons] at nd
    have ha := h a List.mem_cons_self
    have := sub_lenR (l := l) (m := m.erase a) nd.2 fun b hb => (List.mem_erase_of_ne (fun z => nd.1 (by rw [← z]; exact hb))).mpr (h b (List.mem_cons_of_mem _ hb))
    rw [List.length_erase_of_mem ha] at this
    have := List.length_pos_of_mem ha
    rw [List.length_cons]; omega
variable (has : α → β → Bool)
def onesB (w l : α) (b : β) : Bool := has w b && !has l b
def othB (w l : α) (b : β) : Bool := has l b && !has w b
def neuB (w l : α) (b : β) : Bool := !(onesB has w l b) && !(othB has w l b)
def dif (r ms : List β) : Nat := ((r.zip ms).filter fun p => decide (p.1 ≠ p.2)).length
/-- some marks turned for one alone -/
def tn (w l : α) (X : β) : Nat → Nat → List β → List β
  | _, _, [] => []
  | k1, k2, b :: ms => if onesB has w l b = true ∧ 0 < k1 then X :: tn w l X (k1 - 1) k2 ms else if neuB has w l b = true ∧ 0 < k2 then X :: tn w l X k1 (k2 - 1) ms else b :: tn w l X k1 k2 ms
/-- an order of cs, the best first -/
structure Ord (F : α → Int) (lot cs L : List α) : Prop where
  perm : L.Perm cs
  pw : L.Pairwise (Ahead F lot)
variable {lot cs L : List α} {n : Nat} {ms : List β}
end
end DR
end
section
set_option maxHeartbeats 1000000
/-! Boxes: the program's way. -/
namespace DS.K20
open PySem L2 DL DS
open DR (goodN)
open DR.K36 (kdv dicV zip_kdv val_kdv in_dicV ix_dicV any_kdv put_kdv)
variable {S : Store} {l : List Us} {gs : List Gd} {W : Int → Str} {pd ud : D}
/-- the uses that count in a district -/
def inB (gs : List Gd) (W : Int → Str) (d : Str) (u : Us) : Bool := decide (W (u.sb : Nat) = "counts") && decide (dtOf gs u.pl = d)
def sbB (gs : List Gd) (W : Int → Str) (l : List Us) (d : Str) : List Int := (l.filter (inB gs W d)).map fun u => ((u.sb : Nat) : Int)
/-- what is found so far -/
structure Fo (S S' : Store) (Ds : List Str) (L : Str → Nat) (f : Str → List Int) : Prop where
  pre : ∀ i, i < S.length → S'[i]? = S[i]?
  len : S.length < S'.length
  dic : S'[S.length]? = some (.dic (kdv Ds fun d => .loc (L d)))
  lst : ∀ d ∈ Ds, S'[L d]? = some (.lst ((f d).map .int))
  gt : ∀ d ∈ Ds, S.length < L d
  inj : ∀ d ∈ Ds, ∀ e ∈ Ds, L d = L e → d = e
  nd : Ds.Nodup
  mem : ∀ d, d ∈ Ds ↔ f d ≠ []
abbrev bE (pd ud wd : D) (gs : List Gd) (n : Nat) (x5 x6 x7 : Option D) : EnvD := [some pd, some ud, some wd, some (distD gs), some (.loc n), x5, x6, x7]
theorem box_step {S' : Store} {Ds : List Str} {L : Str → Nat} {P : List Us} {u : Us} (F : Fo S S' Ds L (sbB gs W P)) (hu : ((u.sb : Nat) : Int) ∈ sbs l) (hpl : u.pl ∈ gs.map (·.nm)) (hP : P.length ≤ 60) {x6 x7 : Option D} :
    ∃ S2 Ds2 L2, g_boxes_b1 (bE pd ud (dicZ (sbs l) fun i => .str (W i)) gs S.length (some u.D) x6 x7) S' = .nx (bE pd ud (dicZ (sbs l) fun i => .str (W i)) gs S.length (some u.D) x6 x7) S2 ∧ Fo S S2 Ds2 L2 (sbB gs W (P ++ [u])) := by
  have ix0 : ∀ S, opIxX u.D (.int 0) S = .ok (.int (u.sb : Nat)) S := fun S => by unfold Us.D; simp
  have ix3 : ∀ S, opIxX u.D (.int 3) S = .ok (.str u.pl) S := fun S => by
    unfold Us.D
    rfl
  have wx : ∀ S, opIxX (dicZ (sbs l) fun i => .str (W i)) (.int (u.sb : Nat)) S = .ok (.str (W (u.sb : Nat))) S := fun S => ix_dicZ hu
  have eqs : ∀ (s : Str) S, opEq (.str s) (.str "counts") S = .ok (.bl (decide (s = "counts"))) S := fun s S => by simp
  have dx : ∀ S, opIxX (distD gs) (.str u.pl) S = .ok (.str (dtOf gs u.pl)) S := fun S => ix_dicV hpl
  generalize hWD : (dicZ (sbs l) fun i => D.str (W i)) = WD at *
  have v2 : ∀ S, eVar 2 (bE pd ud WD gs S'.length (some u.D) x6 x7) S = .ok WD S := fun _ => rfl
  have fE : ∀ d, sbB gs W (P ++ [u]) d = if inB gs W d u = true then sbB gs W P d ++ [((u.sb : Nat) : Int)] else sbB gs W P d := fun d => by
    unfold sbB
    rw [List.filter_append, List.filter_cons]
    split <;> simp
  by_cases hc : W (u.sb : Nat) = "counts"
  · obtain ⟨d, hd⟩ : ∃ d, dtOf gs u.pl = d := ⟨_, rfl⟩
    have iB : ∀ e, inB gs W e u = decide (e = d) := fun e => by
      unfold inB
      rw [decide_eq_true hc, Bool.true_and, hd]
      exact decide_eq_decide.mpr ⟨Eq.symm, Eq.symm⟩
    have fd : ∀ e, sbB gs W (P ++ [u]) e = if e = d then sbB gs W P e ++ [((u.sb : Nat) : Int)] else sbB gs W P e := fun e => by
      rw [fE, iB]
      by_cases h : e = d <;> simp [h]
    have lP : ∀ e, (sbB gs W P e).length ≤ 60 := fun e => by
      unfold sbB
      rw [List.length_map]
      exact Nat.le_trans (List.length_filter_le _ _) hP
    have cS1 : (S' ++ [Cell.lst []])[S.length]? = some (.dic (kdv Ds fun d => .loc (L d))) := by rw [List.getElem?_append_left F.len]; exact F.dic
    have lD : Ds.length ≤ 60 := by
      -- each has a use of its own
      have : ∀ Q : List Us, (∀ e ∈ Ds, sbB gs W Q e ≠ []) → Ds.length ≤ Q.length := by
        intro Q hQ
        have sub : ∀ e ∈ Ds, e ∈ Q.map fun u => dtOf gs u.pl := fun e he => by
          have := hQ e he
          unfold sbB at this
          obtain ⟨v, hv⟩ := List.exists_mem_of_ne_nil _ (fun z => this (by rw [z]; rfl) : Q.filter (inB gs W e) ≠ [])
          obtain ⟨h1, h2⟩ := List.mem_filter.mp hv
          unfold inB at h2
          rw [Bool.and_eq_true, decide_eq_true_eq, decide_eq_true_eq] at h2
          exact List.mem_map.mpr ⟨v, h1, h2.2⟩
        have := _root_.DR.sub_lenR F.nd sub
        simpa using this
      exact Nat.le_trans (this P fun e he => (F.mem e).mp he) hP
    have zD : sz ((kdv Ds fun d => D.loc (L d)).length + 1) := sz_is (by unfold kdv; rw [List.length_map]; omega)
    have key : keyD (.str d) = some (.inr d) := rfl
    -- setdefault
    obtain ⟨k, S1, Ds2, L2, hsd, hk, hF⟩ : ∃ (k : Nat) (S1 : Store) (Ds2 : List Str) (L2 : Str → Nat), eSetd (eVar 4) (eOp opIxX (eVar 3) (eOp opIxX (eVar 5) (eC (.int 3)))) (eLstM lNil) (bE pd ud WD gs S.length (some u.D) x6 x7) S' = .ok (.loc k) S1 ∧ S1[k]? = some (.lst ((sbB gs W P d).map .int)) ∧
        Fo S (S1.set k (.lst ((sbB gs W P d).map .int ++ [.int (u.sb : Nat)]))) Ds2 L2 (sbB gs W (P ++ [u])) := by
      have z0 : sz 0 := sz_is (by omega)
      have ek : (eOp opIxX (eVar 3) (eOp opIxX (eVar 5) (eC (.int 3)))) (bE pd ud WD gs S.length (some u.D) x6 x7) S' = .ok (.str d) S' := by
        rw [← hd]
        have v3 : ∀ S', eVar 3 (bE pd ud WD gs S.length (some u.D) x6 x7) S' = .ok (distD gs) S' := fun _ => rfl
        have v5 : ∀ S', eVar 5 (bE pd ud WD gs S.length (some u.D) x6 x7) S' = .ok u.D S' := fun _ => rfl
        generalize bE pd ud WD gs S.length (some u.D) x6 x7 = E at *
        simp only [eOp_is, v3, v5, eC_is, ER.bind_ok, ix3, dx]
      have el : (eLstM lNil) (bE pd ud WD gs S.length (some u.D) x6 x7) S' = .ok (.loc S'.length) (S' ++ [Cell.lst []]) := by
        generalize bE pd ud WD gs S.length (some u.D) x6 x7 = E at *
        simp [z0]
      have sd : ∀ r, (match valD (kdv Ds fun d => D.loc (L d)) (.inr d) with
          | some v => ER.ok v (S' ++ [Cell.lst []])
          | none => .ok (.loc S'.length) ((S' ++ [Cell.lst []]).set S.length (.dic (putD (kdv Ds fun d => .loc (L d)) (.inr d) (.loc S'.length))))) = r → eSetd (eVar 4) (eOp opIxX (eVar 3) (eOp opIxX (eVar 5) (eC (.int 3)))) (eLstM lNil) (bE pd ud WD gs S.length (some u.D) x6 x7) S' = r := fun r hr => by
        unfold eSetd
        rw [show eVar 4 (bE pd ud WD gs S.length (some u.D) x6 x7) S' = .ok (.loc S.length) S' from rfl]
        simp only [ER.bind_ok]
        rw [F.dic]
        dsimp only
        rw [ek]
        simp only [ER.bind_ok]
        rw [el]
        simp only [ER.bind_ok]
        rw [cS1, key]
        dsimp only
        rw [if_pos zD]
        exact hr
      by_cases hm : d ∈ Ds
      · have g1 := F.gt d hm
        have l1 := F.lst d hm
        have lt1 : L d < S'.length := (List.getElem?_eq_some_iff.mp l1).1
        refine ⟨L d, S' ++ [Cell.lst []], Ds, L, sd _ (by rw [val_kdv, if_pos hm]), by rw [List.getElem?_append_left lt1]; exact l1, ?_⟩
        have get : ∀ j, j < S'.length → j ≠ L d → ((S' ++ [Cell.lst []]).set (L d) (.lst ((sbB gs W P d).map .int ++ [.int (u.sb : Nat)])))[j]? = S'[j]? := fun j hj hne => by
          rw [List.getElem?_set_ne (by omega), List.getElem?_append_left hj]
        refine ⟨fun i hi => ?_, ?_, ?_, fun e he => ?_, F.gt, F.inj, F.nd, fun e => ?_⟩
        · rw [get i (by have := F.len; omega) (by omega)]; exact F.pre i hi
        · rw [List.length_set, List.length_append]; have := F.len; omega
        · rw [get _ F.len (by omega)]; exact F.dic
        · rw [fd]
          by_cases h : e = d
          · subst h
            rw [if_pos rfl, List.getElem?_set_self (by rw [List.length_append]; omega)]
            simp
          · rw [if_neg h, get _ (List.getElem?_eq_some_iff.mp (F.lst e he)).1 (fun z => h (F.inj e he d hm z))]
            exact F.lst e he
        · rw [fd]
          by_cases h : e = d
          · subst h; rw [if_pos rfl]; simp [hm]
          · rw [if_neg h]; exact F.mem e
      · have fn : sbB gs W P d = [] := Classical.byContradiction fun z => hm ((F.mem d).mpr z)
        have put : putD (kdv Ds fun d => D.loc (L d)) (.inr d) (.loc S'.length) = kdv (Ds ++ [d]) fun e => .loc (if e = d then S'.length else L e) := by
          unfold putD
          rw [any_kdv, decide_eq_false hm, if_neg (by simp)]
          unfold kdv
          rw [List.map_append, List.map_singleton]
          dsimp only
          rw [if_pos rfl]
          refine congrArg (· ++ _) (List.map_congr_left fun e he => ?_)
          rw [if_neg (fun z : e = d => hm (z ▸ he))]
        have len2 : ((S' ++ [Cell.lst []]).set S.length (.dic (putD (kdv Ds fun d => D.loc (L d)) (.inr d) (.loc S'.length)))).length = S'.length + 1 := by simp
        have fl := F.len
        refine ⟨S'.length, _, Ds ++ [d], fun e => if e = d then S'.length else L e, sd _ (by rw [val_kdv, if_neg hm]), ?_, ?_⟩
        · rw [List.getElem?_set_ne (by omega), List.getElem?_append_right (Nat.le_refl _), Nat.sub_self, fn]; rfl
        · have get : ∀ j, j < S'.length → j ≠ S.length → (((S' ++ [Cell.lst []]).set S.length (.dic (putD (kdv Ds fun d => D.loc (L d)) (.inr d) (.loc S'.length)))).set S'.length (.lst ((sbB gs W P d).map .int ++ [.int (u.sb : Nat)])))[j]? = S'[j]? := fun j hj hne => by
            rw [List.getElem?_set_ne (by omega), List.getElem?_set_ne (by omega), List.getElem?_append_left hj]
          refine ⟨fun i hi => ?_, ?_, ?_, fun e he => ?_, fun e he => ?_, fun e he e2 he2 hq => ?_, ?_, fun e => ?_⟩
          · rw [get i (by omega) (by omega)]; exact F.pre i hi
          · rw [List.length_set, len2]; omega
          · rw [List.getElem?_set_ne (by omega), List.getElem?_set_self (by rw [List.length_append]; omega), put]
          · rw [fd]
            by_cases h : e = d
            · subst h
              rw [if_pos rfl, if_pos rfl, List.getElem?_set_self (by rw [len2]; omega)]
              simp
            · have he' : e ∈ Ds := by
                rcases List.mem_append.mp he with z | z
                · exact z
                · exact absurd (List.mem_singleton.mp z) h
              rw [if_neg h, if_neg h, get _ (List.getElem?_eq_some_iff.mp (F.lst e he')).1 (by have := F.gt e he'; omega)]
              exact F.lst e he'
          · try dsimp only
            split
            · omega
            · rename_i h
              have he' : e ∈ Ds := by
                rcases List.mem_append.mp he with z | z
                · exact z
                · exact absurd (List.mem_singleton.mp z) h
              exact F.gt e he'
          · have inD : ∀ e ∈ Ds ++ [d], e ≠ d → e ∈ Ds := fun e he h => by
              rcases List.mem_append.mp he with z | z
              · exact z
              · exact absurd (List.mem_singleton.mp z) h
            have lt : ∀ e ∈ Ds, L e < S'.length := fun e he => (List.getElem?_eq_some_iff.mp (F.lst e he)).1
            by_cases h1 : e = d
            · by_cases h2 : e2 = d
              · rw [h1, h2]
              · have q2 := lt e2 (inD e2 he2 h2)
                simp only [h1, if_pos, if_neg h2] at hq
                omega
            · by_cases h2 : e2 = d
              · have q1 := lt e (inD e he h1)
                simp only [h2, if_pos, if_neg h1] at hq
                omega
              · simp only [if_neg h1, if_neg h2] at hq
                exact F.inj e (inD e he h1) e2 (inD e2 he2 h2) hq
          · rw [List.nodup_append]
            refine ⟨F.nd, by simp, fun a ha b hb => ?_⟩
            rw [List.mem_singleton.mp hb]
            exact fun z => hm (z ▸ ha)
          · rw [fd]
            by_cases h : e = d
            · subst h; rw [if_pos rfl]; simp
            · rw [if_neg h, List.mem_append, List.mem_singleton]
              exact ⟨fun z => (F.mem e).mp (z.resolve_right h), fun z => .inl ((F.mem e).mpr z)⟩
    refine ⟨_, Ds2, L2, ?_, hF⟩
    have zl : sz (((sbB gs W P d).map D.int).length + 1) := sz_is (by have := lP d; simp; omega)
    have cl : cel S1 k = some (.lst ((sbB gs W P d).map .int)) := hk
    unfold g_boxes_b1
    refine ifTB (S' := S') ?_ ?_
    · have v2 : ∀ S', eVar 2 (bE pd ud WD gs S.length (some u.D) x6 x7) S' = .ok WD S' := fun _ => rfl
      have v5 : ∀ S', eVar 5 (bE pd ud WD gs S.length (some u.D) x6 x7) S' = .ok u.D S' := fun _ => rfl
      generalize bE pd ud WD gs S.length (some u.D) x6 x7 = E at *
      simp only [eOp_is, v2, v5, eC_is, ER.bind_ok, ix0, wx, eqs, decide_eq_true hc]
    · have v5 : ∀ S', eVar 5 (bE pd ud WD gs S.length (some u.D) x6 x7) S' = .ok u.D S' := fun _ => rfl
      generalize bE pd ud WD gs S.length (some u.D) x6 x7 = E at *
      generalize eSetd (eVar 4) (eOp opIxX (eVar 3) (eOp opIxX (eVar 5) (eC (.int 3)))) (eLstM lNil) = SD at *
      generalize (sbB gs W P d).map D.int = QL at *
      generalize u.D = UD at *
      simp [hsd, cl, v5, ix0, zl]
  · have iB : ∀ e, inB gs W e u = false := fun e => by
      unfold inB
      rw [decide_eq_false hc, Bool.false_and]
    have fs : sbB gs W (P ++ [u]) = sbB gs W P := by
      funext e
      rw [fE, iB, if_neg (by simp)]
    rw [fs]
    refine ⟨S', Ds, L, ?_, F⟩
    unfold g_boxes_b1
    refine ifFB (S' := S') ?_ rfl
    have v2 : ∀ S', eVar 2 (bE pd ud WD gs S.length (some u.D) x6 x7) S' = .ok WD S' := fun _ => rfl
    have v5 : ∀ S', eVar 5 (bE pd ud WD gs S.length (some u.D) x6 x7) S' = .ok u.D S' := fun _ => rfl
    generalize bE pd ud WD gs S.length (some u.D) x6 x7 = E at *
    simp only [eOp_is, v2, v5, eC_is, ER.bind_ok, ix0, wx, eqs, decide_eq_false hc]
end DS.K20
end
section
set_option maxHeartbeats 1000000
/-! Boxes: all uses; what is told. -/
namespace DS.K20
open PySem L2 DL DS
open DR (goodN)
open DR.K36 (kdv dicV zip_kdv val_kdv in_dicV ix_dicV any_kdv put_kdv)
variable {S : Store} {l : List Us} {gs : List Gd} {W : Int → Str} {pd ud : D}
theorem box_loop (hpl : ∀ u ∈ l, u.pl ∈ gs.map (·.nm)) (ll : l.length ≤ 60) : ∀ (Q P : List Us) (S' : Store) (Ds : List Str) (L : Str → Nat) (x5 x6 x7 : Option D), P ++ Q = l → Fo S S' Ds L (sbB gs W P) →
    ∃ S2 Ds2 L2 y5, forD (bName 5) g_boxes_b1 (Q.map Us.D) (bE pd ud (dicZ (sbs l) fun i => .str (W i)) gs S.length x5 x6 x7) S' = .nx (bE pd ud (dicZ (sbs l) fun i => .str (W i)) gs S.length y5 x6 x7) S2 ∧ Fo S S2 Ds2 L2 (sbB gs W l)
  | [], P, S', Ds, L, x5, x6, x7, h, F => by
    rw [List.append_nil] at h
    subst h
    exact ⟨S', Ds, L, x5, rfl, F⟩
  | u :: Q, P, S', Ds, L, x5, x6, x7, h, F => by
    have hu : u ∈ l := by rw [← h]; simp
    have lP : P.length ≤ 60 := by
      have := congrArg List.length h
      simp at this
      omega
    obtain ⟨S1, Ds1, L1, h1, F1⟩ := box_step (pd := pd) (ud := ud) (l := l) F (List.mem_map_of_mem hu) (hpl u hu) lP (x6 := x6) (x7 := x7)
    obtain ⟨S2, Ds2, L2, y5, h2, F2⟩ := box_loop hpl ll Q (P ++ [u]) S1 Ds1 L1 (some u.D) x6 x7 (by rw [← h]; simp) F1
    exact ⟨S2, Ds2, L2, y5, forC rfl h1 h2, F2⟩
/-- the districts in which one counts, rising -/
def KsB (gs : List Gd) (W : Int → Str) (l : List Us) : List Str := (sortS (ddS (gs.map (·.dt)))).filter fun d => decide (sbB gs W l d ≠ [])
theorem sortS_nd {l : List Str} (h : l.Nodup) : (sortS l).Nodup := (sortS_perm l).nodup_iff.mpr h
theorem dt_mem (nd : (gs.map (·.nm)).Nodup) (hpl : ∀ u ∈ l, u.pl ∈ gs.map (·.nm)) {d : Str} (h : sbB gs W l d ≠ []) : d ∈ gs.map (·.dt) := by
  unfold sbB at h
  obtain ⟨v, hv⟩ := List.exists_mem_of_ne_nil _ (fun z => h (by rw [z]; rfl) : l.filter (inB gs W d) ≠ [])
  obtain ⟨h1, h2⟩ := List.mem_filter.mp hv
  unfold inB at h2
  rw [Bool.and_eq_true, decide_eq_true_eq, decide_eq_true_eq] at h2
  obtain ⟨g, hg, e⟩ := List.mem_map.mp (hpl v h1)
  rw [← h2.2, ← e, dtOf_at nd g hg]
  exact List.mem_map_of_mem hg
theorem keys_eq (nd : (gs.map (·.nm)).Nodup) (hpl : ∀ u ∈ l, u.pl ∈ gs.map (·.nm)) {Ds : List Str} (hD : Ds.Nodup) (hm : ∀ d, d ∈ Ds ↔ sbB gs W l d ≠ []) : sortS Ds = KsB gs W l := by
  have pw : (KsB gs W l).Pairwise (fun a b => leS a b = true) := (sortS_pw _).sublist List.filter_sublist
  have nk : (KsB gs W l).Nodup := (sortS_nd (nd_ddS _)).sublist List.filter_sublist
  refine List.Perm.eq_of_pairwise (fun a b _ _ h h' => leS_anti h h') (sortS_pw _) pw ((sortS_perm Ds).trans ((List.perm_ext_iff_of_nodup hD nk).mpr fun d => ?_))
  unfold KsB
  rw [List.mem_filter, decide_eq_true_eq, hm d, (sortS_perm _).mem_iff, mem_ddS]
  exact ⟨fun h => ⟨dt_mem nd hpl h, h⟩, fun h => h.2⟩
theorem txt_kdv {f : Str → D} : ∀ Ds : List Str, txtKeys (kdv Ds f) = some Ds
  | [] => rfl
  | d :: Ds => by
    show (txtKeys (kdv Ds f)).map (d :: ·) = _
    rw [txt_kdv Ds]; rfl
/-- the last comprehension: each a new cell -/
theorem told_loop {Ds : List Str} {L : Str → Nat} {f : Str → List Int} {env : EnvD} {n0 : Nat} (v4 : ∀ d S, eVar 4 (env.set 7 d) S = .ok (.loc n0) S) (h7 : 7 < env.length) : ∀ (ks : List Str) (acc : Kds) (T : Store), (∀ k ∈ ks, k ∈ Ds) → ks.Nodup → (∀ k ∈ ks, ∀ kv ∈ acc, kv.1 ≠ .inr k) → T[n0]? = some (.dic (kdv Ds fun d => .loc (L d))) → (∀ d ∈ Ds, T[L d]? = some (.lst ((f d).map .int))) → acc.length + ks.length ≤ 1000 →
    dcD (bName 7) eYes (eVar 7) g_boxes_e2 env acc (ks.map .str) T = some (acc ++ (ks.zipIdx T.length).map fun p => ((.inr p.1 : Key), D.loc p.2), T ++ ks.map fun d => Cell.lst ((sortI (f d)).map .int))
  | [], acc, T, _, _, _, _, _, _ => by simp [dcD]
  | k :: ks, acc, T, hk, nk, ha, hd, hl, hz => by
    have hk1 := hk k List.mem_cons_self
    rw [List.nodup_cons] at nk
    rw [List.length_cons] at hz
    have v7 : ∀ S, eVar 7 (env.set 7 (some (.str k))) S = .ok (.str k) S := fun S => by
      unfold eVar
      rw [List.getElem?_set_self h7]
    have lt0 : n0 < T.length := (List.getElem?_eq_some_iff.mp hd).1
    have e : g_boxes_e2 (env.set 7 (some (.str k))) T = .ok (.loc T.length) (T ++ [.lst ((sortI (f k)).map .int)]) := by
      have ix : opIxX (.loc n0) (.str k) T = .ok (.loc (L k)) T := by
        have c : cel T n0 = some (.dic (kdv Ds fun d => .loc (L d))) := hd
        rw [opIxX_cs, c]
        dsimp only
        rw [val_kdv, if_pos hk1]
      have so := bSortedM_c (hl k hk1)
      have v4 := v4 (some (.str k)) T
      have v7 := v7 T
      unfold g_boxes_e2
      rw [eCallB_is, lCons_is, eOp_is, v4]
      simp only [ER.bind_ok]
      rw [v7]
      simp only [ER.bind_ok]
      rw [ix]
      exact so
    have nw : putD acc (.inr k) (.loc T.length) = acc ++ [(.inr k, .loc T.length)] := by
      unfold putD
      rw [if_neg]
      intro z
      obtain ⟨kv, h1, h2⟩ := List.any_eq_true.mp z
      exact ha k List.mem_cons_self kv h1 (of_decide_eq_true h2)
    rw [List.map_cons]
    unfold dcD
    dsimp only [bName, eYes]
    rw [v7]
    dsimp only
    rw [e]
    dsimp only [keyD]
    rw [if_pos (show sz (acc.length + 1) from sz_is (by omega)), nw]
    refine (told_loop (L := L) (f := f) v4 h7 ks (acc ++ [(.inr k, .loc T.length)]) (T ++ [Cell.lst ((sortI (f k)).map .int)]) (fun x hx => hk x (List.mem_cons_of_mem _ hx)) nk.2 (fun x hx kv hkv => ?_) ?_ (fun d hd' => ?_) (by simp; omega)).trans ?_
    rotate_right
    · rw [List.zipIdx_cons, List.map_cons, List.map_cons, List.append_assoc, List.append_assoc, List.length_append]
      rfl
    · rcases List.mem_append.mp hkv with z | z
      · exact ha x (List.mem_cons_of_mem _ hx) kv z
      · rw [List.mem_singleton.mp z]
        intro q
        exact nk.1 (Sum.inr.inj q ▸ hx)
    · rw [List.getElem?_append_left lt0]; exact hd
    · rw [List.getElem?_append_left (List.getElem?_eq_some_iff.mp (hl d hd')).1]; exact hl d hd'
/-- the told dict: its lists are the cells from n on -/
def tdD (Ks : List Str) (n : Nat) : D := .dic (Ks.map fun d => (.inr d : Key)) ((Ks.zipIdx n).map fun p => D.loc p.2)
theorem boxes_ok (G : GsOk gs) (hpl : ∀ u ∈ l, u.pl ∈ gs.map (·.nm)) (ll : l.length ≤ 60) (hp : SeqOf pd (gs.map plO)) (hu : SeqOf ud (usesD l)) :
    ∃ T : Store, (∀ i, i < S.length → T[i]? = S[i]?) ∧ S.length < T.length ∧ d_boxes [pd, ud, dicZ (sbs l) fun i => .str (W i)] S = .ok (tdD (KsB gs W l) T.length) (T ++ (KsB gs W l).map fun d => Cell.lst ((sortI (sbB gs W l d)).map .int)) := by
  have C : Ctx [] [] gs := ctx_ok G (fun u h => by simp at h) (by simp) (by simp) (fun r h => by simp at h) (by simp)
  have z0 : sz 0 := sz_is (by omega)
  have F0 : Fo S (S ++ [.dic []]) [] (fun _ => 0) (sbB gs W []) := ⟨fun i hi => by rw [List.getElem?_append_left hi], by simp, by simp [kdv], fun d h => by simp at h, fun d h => by simp at h, fun d h => by simp at h, List.nodup_nil, fun d => by simp [sbB]⟩
  obtain ⟨T, Ds, L, y5, h1, F⟩ := box_loop (W := W) (S := S) (pd := pd) (ud := ud) hpl ll l [] (S ++ [.dic []]) [] (fun _ => 0) none none none rfl F0
  refine ⟨T, F.pre, F.len, ?_⟩
  have ks := keys_eq (W := W) G.nd hpl F.nd F.mem
  have lD : Ds.length ≤ 60 := by
    have sub : ∀ e ∈ Ds, e ∈ gs.map (·.dt) := fun e he => dt_mem G.nd hpl ((F.mem e).mp he)
    have := _root_.DR.sub_lenR F.nd sub
    have := G.len
    simp at *
    omega
  have e0 : startD 8 [pd, ud, dicZ (sbs l) fun i => .str (W i)] = [some pd, some ud, some (dicZ (sbs l) fun i => .str (W i)), none, none, none, none, none] := rfl
  generalize hWD : (dicZ (sbs l) fun i => D.str (W i)) = WD at *
  refine fnRt (S' := T ++ (KsB gs W l).map fun d => Cell.lst ((sortI (sbB gs W l d)).map .int)) (d := tdD (KsB gs W l) T.length) ?_ rfl
  rw [e0]
  unfold g_boxes
  -- districts
  refine stN (e := [some pd, some ud, some WD, some (distD gs), none, none, none, none]) (S' := S) ?_ ?_
  · have it := iSeq_of (S := S) (i := 0) (env := [some pd, some ud, some WD, none, none, none, none, none]) hp rfl
    have nk : (gs.map fun g => (.inr g.nm : Key)).Nodup := by
      have e : (gs.map fun g => (.inr g.nm : Key)) = (gs.map (·.nm)).map .inr := by rw [List.map_map]; rfl
      rw [e]
      exact DR.nd_inr G.nd
    have dc := DR.dcD_new (S := S) (b := bName 6) (ek := g_boxes_k1) (ev := g_boxes_e1) (env := [some pd, some ud, some WD, none, none, none, none, none]) plO (fun g => .str g.nm) (fun g => .inr g.nm) (fun g => .str g.dt) gs (fun g hg => ⟨[some pd, some ud, some WD, none, none, none, some (plO g), none], rfl, by
      have f : fldC S (plO g) "name" = some (("Place" : Str), D.str g.nm) := rfl
      unfold g_boxes_k1
      generalize hO : plO g = O at *
      simp [f], rfl, by
      have f : fldC S (plO g) "district" = some (("Place" : Str), D.str g.dt) := rfl
      unfold g_boxes_e1
      generalize hO : plO g = O at *
      simp [f]⟩) nk (by have := G.len; omega)
    have ev : eDc (iSeq (eVar 0)) (bName 6) eYes g_boxes_k1 g_boxes_e1 [6] [some pd, some ud, some WD, none, none, none, none, none] S = .ok (distD gs) S := by
      rw [eDc_is, it]
      show (match dcD _ _ _ _ [some pd, some ud, some WD, none, none, none, none, none] [] _ _ with
        | some ((acc : Kds), (S : Store)) => ER.ok (.dic (List.map (fun (p : Key × D) => p.1) acc) (List.map (fun (p : Key × D) => p.2) acc)) S
        | none => .bad) = _
      rw [dc]
      dsimp only
      rw [List.map_map, List.map_map]
      show ER.ok (D.dic (gs.map fun g => (.inr g.nm : Key)) (gs.map fun g => D.str g.dt)) S = ER.ok (D.dic ((gs.map (·.nm)).map fun c => (.inr c : Key)) ((gs.map (·.nm)).map fun p => D.str (dtOf gs p))) S
      rw [List.map_map, List.map_map]
      refine congrArg (fun z => ER.ok (D.dic _ z) S) (List.map_congr_left fun g hg => ?_)
      show D.str g.dt = D.str (dtOf gs g.nm)
      rw [dtOf_at G.nd g hg]
    rw [sAsg_is, ev]; rfl
  refine stN (e := bE pd ud WD gs S.length none none none) (S' := S ++ [.dic []]) (by simp [z0]) ?_
  refine stN (e := bE pd ud WD gs S.length y5 none none) (S' := T) ?_ ?_
  · have it1 : iSeq (eVar 1) (bE pd ud WD gs S.length none none none) (S ++ [Cell.dic []]) = .ok (usesD l) (S ++ [Cell.dic []]) := iSeq_of hu rfl
    rw [sFor_is, it1]
    exact h1
  have it : iSeq (eCallB bSortedD (lCons (eVar 4) lNil)) (bE pd ud WD gs S.length y5 none none) T = .ok ((KsB gs W l).map .str) T := by
    have so : bSortedD [.loc S.length] T = .ok (.lst ((KsB gs W l).map .str)) T := by
      unfold bSortedD
      dsimp only [dicD]
      rw [F.dic]
      dsimp only
      rw [txt_kdv]
      dsimp only
      rw [if_pos (by omega), ks]
    rw [iSeq_is, eCallB_is, lCons_is, show eVar 4 (bE pd ud WD gs S.length y5 none none) T = .ok (.loc S.length) T from rfl]
    show ((bSortedD [.loc S.length] T).bindL _) = _
    rw [so]; rfl
  have tl := told_loop (Ds := Ds) (L := L) (f := sbB gs W l) (env := bE pd ud WD gs S.length y5 none none) (n0 := S.length) (fun _ _ => rfl) (by simp) (KsB gs W l) [] T (fun k hk => by
    rw [← ks] at hk
    exact (sortS_perm Ds).mem_iff.mp hk) (by rw [← ks]; exact sortS_nd F.nd) (fun _ _ _ h => by simp at h) F.dic F.lst (by rw [← ks, (sortS_perm Ds).length_eq]; simp; omega)
  have ev : eDc (iSeq (eCallB bSortedD (lCons (eVar 4) lNil))) (bName 7) eYes (eVar 7) g_boxes_e2 [7] (bE pd ud WD gs S.length y5 none none) T = .ok (tdD (KsB gs W l) T.length) (T ++ (KsB gs W l).map fun d => Cell.lst ((sortI (sbB gs W l d)).map .int)) := by
    rw [eDc_is, it]
    show (match dcD _ _ _ _ (bE pd ud WD gs S.length y5 none none) [] _ _ with
      | some ((acc : Kds), (S : Store)) => ER.ok (.dic (List.map (fun (p : Key × D) => p.1) acc) (List.map (fun (p : Key × D) => p.2) acc)) S
      | none => .bad) = _
    rw [tl]
    dsimp only
    rw [List.nil_append, List.map_map, List.map_map]
    unfold tdD
    refine congrArg (fun z => ER.ok (D.dic z _) _) ?_
    show ((KsB gs W l).zipIdx T.length).map (fun p => (.inr p.1 : Key)) = _
    have : ((KsB gs W l).zipIdx T.length).map (fun p => (.inr p.1 : Key)) = (((KsB gs W l).zipIdx T.length).map (·.1)).map fun d => (.inr d : Key) := by rw [List.map_map]; rfl
    rw [this, List.zipIdx_map_fst]
  rw [sRet_is, ev]; rfl
end DS.K20
end
section
set_option maxHeartbeats 1000000
/-! Boxes: alike; the lists changed; words drawn; what is due. -/
namespace DS.K20
open PySem L2 DL DS
open DR (goodN)
open DR.K36 (kdv dicV zip_kdv val_kdv in_dicV ix_dicV any_kdv put_kdv)
variable {S : Store} {l : List Us} {gs : List Gd} {W : Int → Str}
theorem alike_seq2 (n : Nat) {x y : D} {t : Ty} {ds es : List D} (vx : SeqV S x t ds) (vy : SeqV S y t es) (hle : ds.length = es.length) (ht : t = .tuple ∨ t = .list) (h : ∀ (i : Nat) (d e : D), ds[i]? = some d → es[i]? = some e → d__law_alike_n n [d, e] S = .ok (.bl true) S) (hl : ds.length ≤ 100000) : d__law_alike_n (n + 1) [x, y] S = .ok (.bl true) S := by
  have lc := lcD_fm (S := S) (b := bName 2) (tt := g__law_alike_t1 (d__law_alike_n n)) (elt := eVar 2) (env := [some x, some y, none]) (fun _ => false) id (rangeD 0 es.length) [] (fun d hd => by
    obtain ⟨i, hi, he⟩ := List.getElem_of_mem hd
    have hg := range_get (lo := 0) (n := es.length) (i := i) (d := d) (by rw [List.getElem?_eq_getElem hi, he])
    obtain ⟨h1, rfl⟩ := hg
    refine ⟨_, rfl, ?_, fun z => by cases z⟩
    have ex := vx.ix i (ds[i]'(by omega)) (List.getElem?_eq_getElem (by omega))
    have ey := vy.ix i es[i] (List.getElem?_eq_getElem h1)
    have el := h i (ds[i]'(by omega)) es[i] (List.getElem?_eq_getElem (by omega)) (List.getElem?_eq_getElem h1)
    simp only [Int.zero_add] at *
    simp [g__law_alike_t1, ex, ey, el]) (by simp; omega)
  have r1 : rOk (es.length : Int) := rOk_n (by omega)
  simp only [filter_no, List.map_nil, List.nil_append] at lc
  have lx := vx.len
  have ly := vy.len
  have tx := vx.ty
  have ty := vy.ty
  rw [hle] at lx
  show fnF .pure 3 (g__law_alike (d__law_alike_n n)) _ S = _
  generalize d__law_alike_n n = r at lc ⊢
  rcases ht with rfl | rfl <;> simp [g__law_alike, tx, ty, lx, ly, Ty.isa, tabOr, tabF, r1, lc, opEq_nil]
theorem alike_dicts2 {x y : D} {K K' : Kds} (tx : tyO S x = some (.b .dict)) (ty : tyO S y = some (.b .dict)) (dx : dicD S x = some K) (dy : dicD S y = some K') (h : d__law_alike_n 11 [.lst (itemsK K), .lst (itemsK K')] S = .ok (.bl true) S) :
    d__law_alike [x, y] S = .ok (.bl true) S := by
  have i1 : ∀ (i : Nat) (env : EnvD) (d : D) (K : Kds), eVar i env S = .ok d S → dicD S d = some K → eListItems (eVar i) env S = .ok (.lst (itemsK K)) S := fun i env d K h1 h2 => by
    unfold eListItems
    rw [h1]
    simp only [ER.bind_ok]
    rw [h2]
  have ix := i1 0 [some x, some y, none] x K rfl dx
  have iy := i1 1 [some x, some y, none] y K' rfl dy
  show fnF .pure 3 (g__law_alike (d__law_alike_n 11)) [x, y] S = _
  generalize d__law_alike_n 11 = r at h ⊢
  generalize itemsK K = IK at *
  generalize itemsK K' = IK' at *
  simp [g__law_alike, tx, ty, Ty.isa, tabOr, tabF, ix, iy, h]
/-- what is due -/
abbrev dueD (Ks : List Str) (f : Str → List Int) : D := .dic (Ks.map fun d => (.inr d : Key)) (Ks.map fun d => .lst ((f d).map .int))
theorem zip_map2 {α β γ : Type} (f : α → β) (g : α → γ) : ∀ l : List α, (l.map f).zip (l.map g) = l.map fun a => (f a, g a)
  | [] => rfl
  | a :: l => by simp [zip_map2 f g l]
theorem td_kds (Ks : List Str) (n : Nat) : dicD S (tdD Ks n) = some ((Ks.zipIdx n).map fun p => ((.inr p.1 : Key), D.loc p.2)) := by
  show some ((Ks.map fun d => (.inr d : Key)).zip ((Ks.zipIdx n).map fun p => D.loc p.2)) = _
  have e : (Ks.map fun d => (.inr d : Key)) = (Ks.zipIdx n).map fun p => (.inr p.1 : Key) := by
    have := List.zipIdx_map_fst n Ks
    conv => lhs; rw [← this]
    rw [List.map_map]; rfl
  rw [e, zip_map2]
theorem alike_told {Ks : List Str} {f : Str → List Int} {T : Store} (lK : Ks.length ≤ 1000) (lf : ∀ d ∈ Ks, (f d).length ≤ 1000) : d__law_alike [tdD Ks T.length, dueD Ks f] (T ++ Ks.map fun d => Cell.lst ((f d).map .int)) = .ok (.bl true) (T ++ Ks.map fun d => Cell.lst ((f d).map .int)) := by
  have dy : dicD (T ++ Ks.map fun d => Cell.lst ((f d).map .int)) (dueD Ks f) = some (Ks.map fun d => ((.inr d : Key), D.lst ((f d).map .int))) := by
    show some ((Ks.map fun d => (.inr d : Key)).zip (Ks.map fun d => D.lst ((f d).map .int))) = _
    rw [zip_map2]
  refine alike_dicts2 rfl rfl (td_kds Ks T.length) dy ?_
  have i1 : itemsK ((Ks.zipIdx T.length).map fun p => ((.inr p.1 : Key), D.loc p.2)) = (Ks.zipIdx T.length).map fun p => .tup [.str p.1, .loc p.2] := by unfold itemsK; rw [List.map_map]; rfl
  have i2 : itemsK (Ks.map fun d => ((.inr d : Key), D.lst ((f d).map .int))) = Ks.map fun d => .tup [.str d, .lst ((f d).map .int)] := by unfold itemsK; rw [List.map_map]; rfl
  rw [i1, i2]
  refine alike_seq2 10 (seq_lst (by simp; omega)) (seq_lst (by simp; omega)) (by simp) (.inr rfl) (fun i d e h1 h2 => ?_) (by simp; omega)
  rw [List.getElem?_map, List.getElem?_zipIdx] at h1
  rw [List.getElem?_map] at h2
  cases hk : Ks[i]? with
  | none => rw [hk] at h2; cases h2
  | some k =>
    rw [hk] at h1 h2
    cases h1
    cases h2
    have hkm := List.mem_of_getElem? hk
    have lk := lf k hkm
    refine alike_seq2 9 (seq_tup (by simp)) (seq_tup (by simp)) rfl (.inl rfl) (fun j d e h1 h2 => ?_) (by simp)
    match j with
    | 0 =>
      cases h1; cases h2
      exact alike_nice (Nice.str (k := 0)) 9 (by decide)
    | 1 =>
      cases h1; cases h2
      have hc : (T ++ Ks.map fun d => Cell.lst ((f d).map .int))[T.length + i]? = some (.lst ((f k).map .int)) := by
        rw [List.getElem?_append_right (by omega), show T.length + i - T.length = i by omega, List.getElem?_map, hk]; rfl
      exact alike_seq 8 (seq_loc hc (by simp; omega)) (seq_lst (by simp; omega)) (.inr rfl) (fun d hd => by
        obtain ⟨i, _, rfl⟩ := List.mem_map.mp hd
        exact alike_nice (Nice.int (k := 0) (i := i)) 8 (by decide)) (by simp; omega)
    | j + 2 => cases h1
/-! ### the lists told are changed -/
theorem val_td {n : Nat} : ∀ {Ks : List Str} (n : Nat) {d : Str}, d ∈ Ks → ∃ p, n ≤ p ∧ p < n + Ks.length ∧ valD ((Ks.zipIdx n).map fun p => ((.inr p.1 : Key), D.loc p.2)) (.inr d) = some (.loc p)
  | [], _, _, h => by simp at h
  | k :: Ks, n, d, h => by
    by_cases e : k = d
    · subst e
      refine ⟨n, Nat.le_refl _, by simp, ?_⟩
      unfold valD
      rw [List.zipIdx_cons, List.map_cons, List.find?_cons]
      simp
    · obtain ⟨p, h1, h2, h3⟩ := val_td (n := n) (n + 1) ((List.mem_cons.mp h).resolve_left fun z => e z.symm)
      refine ⟨p, by omega, by rw [List.length_cons]; omega, ?_⟩
      unfold valD at h3 ⊢
      rw [List.zipIdx_cons, List.map_cons, List.find?_cons]
      have : decide ((Sum.inr k : Key) = Sum.inr d) = false := decide_eq_false fun z => e (Sum.inr.inj z)
      dsimp only
      rw [this]
      exact h3
abbrev kE (x0 x1 x2 x3 x4 x5 x6 x7 x8 x9 x10 x11 x12 x13 x14 x15 x16 x17 : Option D) : EnvD := [x0, x1, x2, x3, x4, x5, x6, x7, x8, x9, x10, x11, x12, x13, x14, x15, x16, x17]
theorem app_loop {Ks : List Str} {n : Nat} {x0 x1 x2 x3 x4 x5 x6 x7 x8 x9 x10 x12 x13 x14 x16 x17 : Option D} : ∀ (ks : List Str) (B : Nat) (T : Store) (x11 : Option D), (∀ d ∈ ks, d ∈ Ks) → (∀ j, n ≤ j → j < n + Ks.length → ∃ ds, T[j]? = some (.lst ds) ∧ ds.length ≤ B) → B + ks.length ≤ 5000 →
    ∃ (T' : Store) (y11 : Option D), forD (bName 11) g_law_b3 (ks.map .str) (kE x0 x1 x2 x3 x4 x5 x6 x7 x8 x9 x10 x11 x12 x13 x14 (some (tdD Ks n)) x16 x17) T = .nx (kE x0 x1 x2 x3 x4 x5 x6 x7 x8 x9 x10 y11 x12 x13 x14 (some (tdD Ks n)) x16 x17) T' ∧ T'.length = T.length ∧ ∀ i, i < n → T'[i]? = T[i]?
  | [], B, T, x11, _, _, _ => ⟨T, x11, rfl, rfl, fun _ _ => rfl⟩
  | k :: ks, B, T, x11, hk, h, hB => by
    rw [List.length_cons] at hB
    obtain ⟨p, p1, p2, pv⟩ := val_td (n := n) n (hk k List.mem_cons_self)
    obtain ⟨ds, hc, hl⟩ := h p p1 p2
    have lt : p < T.length := (List.getElem?_eq_some_iff.mp hc).1
    have ix : ∀ S, opIxX (tdD Ks n) (.str k) S = .ok (.loc p) S := fun S => by
      have e : opIxX (tdD Ks n) (.str k) S = match valD ((Ks.map fun d => (.inr d : Key)).zip ((Ks.zipIdx n).map fun p => D.loc p.2)) (.inr k) with | some d => .ok d S | none => .bad := rfl
      have q := td_kds (S := S) Ks n
      have q : (Ks.map fun d => (.inr d : Key)).zip ((Ks.zipIdx n).map fun p => D.loc p.2) = (Ks.zipIdx n).map fun p => ((.inr p.1 : Key), D.loc p.2) := Option.some.inj q
      rw [e, q, pv]
    have cl : cel T p = some (.lst ds) := hc
    have zl : sz (ds.length + 1) := sz_is (by omega)
    have st : g_law_b3 (kE x0 x1 x2 x3 x4 x5 x6 x7 x8 x9 x10 (some (.str k)) x12 x13 x14 (some (tdD Ks n)) x16 x17) T = .nx (kE x0 x1 x2 x3 x4 x5 x6 x7 x8 x9 x10 (some (.str k)) x12 x13 x14 (some (tdD Ks n)) x16 x17) (T.set p (.lst (ds ++ [.int (-1)]))) := by
      unfold g_law_b3
      generalize tdD Ks n = TD at *
      simp [ix, cl, zl]
    obtain ⟨T', y11, h1, h2, h3⟩ := app_loop (n := n) (Ks := Ks) (x0 := x0) (x1 := x1) (x2 := x2) (x3 := x3) (x4 := x4) (x5 := x5) (x6 := x6) (x7 := x7) (x8 := x8) (x9 := x9) (x10 := x10) (x12 := x12) (x13 := x13) (x14 := x14) (x16 := x16) (x17 := x17) ks (B + 1) (T.set p (.lst (ds ++ [.int (-1)]))) (some (.str k)) (fun d hd => hk d (List.mem_cons_of_mem _ hd)) (fun j j1 j2 => by
      by_cases e : j = p
      · subst e
        exact ⟨_, List.getElem?_set_self lt, by simp; omega⟩
      · obtain ⟨es, e1, e2⟩ := h j j1 j2
        exact ⟨es, by rw [List.getElem?_set_ne (fun z => e z.symm)]; exact e1, by omega⟩) (by omega)
    exact ⟨T', y11, forC rfl st h1, by rw [h2, List.length_set], fun i hi => by rw [h3 i hi, List.getElem?_set_ne (by omega)]⟩
/-! ### words, drawn -/
theorem words_loop {SL : List D} (hSL : ∀ x ∈ SL, ∃ s : Str, x = .str s ∧ PyData.strOk s = true) (ne : SL ≠ []) (lS : SL.length ≤ 10) {x0 x1 x2 x4 x5 x6 x7 x11 x12 x13 x14 x15 x16 x17 : Option D} {c2 : Cell} (ll : l.length ≤ 60) (nd : (l.map (·.sb)).Nodup) : ∀ (Q P : List Us) (W : Int → Str) (x10 : Option D) (c : Cell) (m : Nat), P ++ Q = l → (∀ i, PyData.strOk (W i) = true) → Drw c m → m + Q.length ≤ 80000 →
    ∃ (W' : Int → Str) (y10 : Option D) (c' : Cell), forD (bName 10) g_law_b1 (Q.map Us.D) (kE x0 x1 x2 (some (.loc 0)) x4 x5 x6 x7 (some (.lst SL)) (some (.loc 2)) x10 x11 x12 x13 x14 x15 x16 x17) [c, c2, .dic (kdz (sbs P) fun i => .str (W i))] = .nx (kE x0 x1 x2 (some (.loc 0)) x4 x5 x6 x7 (some (.lst SL)) (some (.loc 2)) y10 x11 x12 x13 x14 x15 x16 x17) [c', c2, .dic (kdz (sbs l) fun i => .str (W' i))] ∧ (∀ i, PyData.strOk (W' i) = true) ∧ Drw c' (m + Q.length)
  | [], P, W, x10, c, m, h, hw, d, _ => by
    rw [List.append_nil] at h
    subst h
    exact ⟨W, x10, c, rfl, hw, d⟩
  | u :: Q, P, W, x10, c, m, h, hw, d, hm => by
    rw [List.length_cons] at hm
    obtain ⟨x, hx, c1, p1, d1⟩ := pickT (T := [c2, .dic (kdz (sbs P) fun i => .str (W i))]) SL d (by omega) ne (by omega)
    obtain ⟨w, rfl, wok⟩ := hSL x hx
    have ns : ((u.sb : Nat) : Int) ∉ sbs P := fun z => by
      obtain ⟨v, hv, e⟩ := List.mem_map.mp z
      rw [← h, List.map_append, List.map_cons, List.nodup_append] at nd
      exact nd.2.2 v.sb (List.mem_map_of_mem hv) u.sb List.mem_cons_self (by omega)
    have lP : P.length ≤ 60 := by
      have := congrArg List.length h
      simp at this
      omega
    have put : putD (kdz (sbs P) fun i => .str (W i)) (.inl ((u.sb : Nat) : Int)) (.str w) = kdz (sbs (P ++ [u])) fun i => .str (if i = ((u.sb : Nat) : Int) then w else W i) := by
      unfold putD
      rw [any_kdz, decide_eq_false ns, if_neg (by simp)]
      unfold kdz sbs
      rw [List.map_append, List.map_append, List.map_singleton, List.map_singleton]
      refine congr (congrArg _ (List.map_congr_left fun i hi => ?_)) ?_
      · dsimp only
        rw [if_neg (fun z : i = ((u.sb : Nat) : Int) => ns (z ▸ hi))]
      · dsimp only
        rw [if_pos rfl]
    have ix : ∀ S, opIxX u.D (.int 0) S = .ok (.int (u.sb : Nat)) S := fun S => by unfold Us.D; simp
    have zl : sz ((kdz (sbs P) fun i => D.str (W i)).length + 1) := sz_is (by rw [kdz_len]; simp; omega)
    have st : g_law_b1 (kE x0 x1 x2 (some (.loc 0)) x4 x5 x6 x7 (some (.lst SL)) (some (.loc 2)) (some u.D) x11 x12 x13 x14 x15 x16 x17) [c, c2, .dic (kdz (sbs P) fun i => .str (W i))] = .nx (kE x0 x1 x2 (some (.loc 0)) x4 x5 x6 x7 (some (.lst SL)) (some (.loc 2)) (some u.D) x11 x12 x13 x14 x15 x16 x17) [c1, c2, .dic (kdz (sbs (P ++ [u])) fun i => .str (if i = ((u.sb : Nat) : Int) then w else W i))] := by
      rw [← put]
      unfold g_law_b1
      generalize (kdz (sbs P) fun i => D.str (W i)) = KK at *
      have c2' : cel [c1, c2, .dic KK] 2 = some (.dic KK) := rfl
      generalize u.D = UD at *
      simp [p1, ix, c2', zl]
    obtain ⟨W', y10, c', h1, h2, d2⟩ := words_loop hSL ne lS (x0 := x0) (x1 := x1) (x2 := x2) (x4 := x4) (x5 := x5) (x6 := x6) (x7 := x7) (x11 := x11) (x12 := x12) (x13 := x13) (x14 := x14) (x15 := x15) (x16 := x16) (x17 := x17) (c2 := c2) ll nd Q (P ++ [u]) (fun i => if i = ((u.sb : Nat) : Int) then w else W i) (some u.D) c1 (m + 1) (by rw [← h]; simp) (fun i => by split; exact wok; exact hw i) d1 (by omega)
    exact ⟨W', y10, c', forC rfl st h1, h2, by rw [List.length_cons, show m + (Q.length + 1) = m + 1 + Q.length by omega]; exact d2⟩
/-! ### what is due -/
theorem sort_filter (X : List Int) (p : Int → Bool) : (sortI X).filter p = sortI (X.filter p) :=
  sorted_uniq (((sortI_perm X).filter p).trans (sortI_perm _).symm) ((sortI_pw X).sublist List.filter_sublist) (sortI_pw _)
theorem spot_iff (nd : (gs.map (·.nm)).Nodup) {p : Str} (hp : p ∈ gs.map (·.nm)) (d : Str) : p ∈ (gs.filter fun g => decide (g.dt = d)).map (·.nm) ↔ dtOf gs p = d := by
  obtain ⟨g, hg, rfl⟩ := List.mem_map.mp hp
  rw [dtOf_at nd g hg, List.mem_map]
  constructor
  · rintro ⟨g', h1, h2⟩
    obtain ⟨h3, h4⟩ := List.mem_filter.mp h1
    have e : dtOf gs g'.nm = g'.dt := dtOf_at nd g' h3
    rw [h2, dtOf_at nd g hg] at e
    rw [e]
    exact of_decide_eq_true h4
  · intro h
    exact ⟨g, List.mem_filter.mpr ⟨hg, decide_eq_true h⟩, rfl⟩
theorem due_list (nd : (gs.map (·.nm)).Nodup) (hpl : ∀ u ∈ l, u.pl ∈ gs.map (·.nm)) (d : Str) : (sortI ((l.filter fun u => decide (u.pl ∈ (gs.filter fun g => decide (g.dt = d)).map (·.nm))).map fun u => ((u.sb : Nat) : Int))).filter (fun i => decide (W i = "counts")) = sortI (sbB gs W l d) := by
  rw [sort_filter]
  refine congrArg sortI ?_
  unfold sbB
  rw [List.filter_map, List.filter_filter]
  refine congrArg (List.map _) (List.filter_congr fun u hu => ?_)
  unfold inB
  dsimp only [Function.comp]
  refine congrArg _ ?_
  exact decide_eq_decide.mpr (spot_iff nd (hpl u hu) d)
theorem eq_nilI {ks : List Int} : opNe (.lst (ks.map .int)) (.lst []) S = .ok (.bl (!decide (ks = []))) S := by
  have h := ne_nil (S := S) (ds := ks.map .int) (k := 0) (fun d hd => by
    obtain ⟨i, _, rfl⟩ := List.mem_map.mp hd
    exact .int) (by decide)
  have e : (ks.map D.int = []) = (ks = []) := by simp
  simp only [e] at h
  exact h
theorem due_step (nd : (gs.map (·.nm)).Nodup) (hpl : ∀ u ∈ l, u.pl ∈ gs.map (·.nm)) (ll : l.length ≤ 60) (lg : gs.length ≤ 4) {d : Str} {done : List Str} (hd : d ∉ done) (ld : done.length ≤ 10) {x0 x1 x2 x3 x4 x8 x10 x12 x13 x14 x15 x16 x17 : Option D} {c : Cell} :
    ∃ y12 y13 : Option D, g_law_b2 (kE x0 x1 x2 x3 x4 (some (.lst (gs.map gdD))) (some (.lst (usesD l))) (some (.loc 1)) x8 (some (.loc 2)) x10 (some (.str d)) x12 x13 x14 x15 x16 x17) [c, .dic (kdv done fun d => .lst ((sortI (sbB gs W l d)).map .int)), .dic (kdz (sbs l) fun i => .str (W i))] =
      .nx (kE x0 x1 x2 x3 x4 (some (.lst (gs.map gdD))) (some (.lst (usesD l))) (some (.loc 1)) x8 (some (.loc 2)) x10 (some (.str d)) y12 y13 x14 x15 x16 x17) [c, .dic (kdv (done ++ if sbB gs W l d ≠ [] then [d] else []) fun d => .lst ((sortI (sbB gs W l d)).map .int)), .dic (kdz (sbs l) fun i => .str (W i))] := by
  obtain ⟨S, hS⟩ : ∃ S : Store, S = [c, .dic (kdv done fun d => .lst ((sortI (sbB gs W l d)).map .int)), .dic (kdz (sbs l) fun i => .str (W i))] := ⟨_, rfl⟩
  have c1 : cel S 1 = some (.dic (kdv done fun d => .lst ((sortI (sbB gs W l d)).map .int))) := by rw [hS]; rfl
  have c2 : cel S 2 = some (.dic (kdz (sbs l) fun i => .str (W i))) := by rw [hS]; rfl
  have dl := due_list (W := W) nd hpl d
  obtain ⟨sp, hsp⟩ : ∃ sp, (gs.filter fun g => decide (g.dt = d)).map (·.nm) = sp := ⟨_, rfl⟩
  rw [hsp] at dl
  obtain ⟨X, hX⟩ : ∃ X, (l.filter fun u => decide (u.pl ∈ sp)).map (fun u => ((u.sb : Nat) : Int)) = X := ⟨_, rfl⟩
  rw [hX] at dl
  have lX : X.length ≤ 60 := by
    rw [← hX, List.length_map]
    exact Nat.le_trans (List.length_filter_le _ _) ll
  have mX : ∀ i ∈ X, i ∈ sbs l := fun i hi => by
    rw [← hX] at hi
    obtain ⟨u, hu, e⟩ := List.mem_map.mp hi
    exact List.mem_map.mpr ⟨u, (List.mem_filter.mp hu).1, e⟩
  have eqs : ∀ (s t : Str) S, opEq (.str s) (.str t) S = .ok (.bl (decide (s = t))) S := fun s t S => by simp
  have m1 : ∀ x16 x12, eLc (iSeq (eVar 5)) (bName 16) g_law_t1 g_law_e2 [16] (kE x0 x1 x2 x3 x4 (some (.lst (gs.map gdD))) (some (.lst (usesD l))) (some (.loc 1)) x8 (some (.loc 2)) x10 (some (.str d)) x12 x13 x14 x15 x16 x17) S = .ok (.lst (sp.map .str)) S := fun x16 x12 => by
    have lc := DR.lcD_fa (S := S) (b := bName 16) (tt := g_law_t1) (elt := g_law_e2) (env := kE x0 x1 x2 x3 x4 (some (.lst (gs.map gdD))) (some (.lst (usesD l))) (some (.loc 1)) x8 (some (.loc 2)) x10 (some (.str d)) x12 x13 x14 x15 none x17) gdD (fun g => decide (g.dt = d)) (fun g => .str g.nm) gs [] (fun g _ => ⟨_, rfl, by
      have v16 : ∀ S, eVar 16 ((kE x0 x1 x2 x3 x4 (some (.lst (gs.map gdD))) (some (.lst (usesD l))) (some (.loc 1)) x8 (some (.loc 2)) x10 (some (.str d)) x12 x13 x14 x15 none x17).set 16 (some (gdD g))) S = .ok (gdD g) S := fun _ => rfl
      have v11 : ∀ S, eVar 11 ((kE x0 x1 x2 x3 x4 (some (.lst (gs.map gdD))) (some (.lst (usesD l))) (some (.loc 1)) x8 (some (.loc 2)) x10 (some (.str d)) x12 x13 x14 x15 none x17).set 16 (some (gdD g))) S = .ok (.str d) S := fun _ => rfl
      have ix : ∀ S, opIxX (gdD g) (.int 1) S = .ok (.str g.dt) S := fun S => by unfold gdD; rfl
      unfold g_law_t1
      generalize (kE x0 x1 x2 x3 x4 (some (.lst (gs.map gdD))) (some (.lst (usesD l))) (some (.loc 1)) x8 (some (.loc 2)) x10 (some (.str d)) x12 x13 x14 x15 none x17).set 16 (some (gdD g)) = E at *
      simp only [eOp_is, v16, v11, eC_is, ER.bind_ok, ix, eqs], fun _ => by
      have v16 : ∀ S, eVar 16 ((kE x0 x1 x2 x3 x4 (some (.lst (gs.map gdD))) (some (.lst (usesD l))) (some (.loc 1)) x8 (some (.loc 2)) x10 (some (.str d)) x12 x13 x14 x15 none x17).set 16 (some (gdD g))) S = .ok (gdD g) S := fun _ => rfl
      have ix : ∀ S, opIxX (gdD g) (.int 0) S = .ok (.str g.nm) S := fun S => by unfold gdD; simp
      unfold g_law_e2
      generalize (kE x0 x1 x2 x3 x4 (some (.lst (gs.map gdD))) (some (.lst (usesD l))) (some (.loc 1)) x8 (some (.loc 2)) x10 (some (.str d)) x12 x13 x14 x15 none x17).set 16 (some (gdD g)) = E at *
      simp only [eOp_is, v16, eC_is, ER.bind_ok, ix]⟩) (by simp; omega)
    rw [eLc_is, show iSeq (eVar 5) (kE x0 x1 x2 x3 x4 (some (.lst (gs.map gdD))) (some (.lst (usesD l))) (some (.loc 1)) x8 (some (.loc 2)) x10 (some (.str d)) x12 x13 x14 x15 x16 x17) S = .ok (gs.map gdD) S from rfl]
    show LR.bindE (lcD _ _ _ (kE x0 x1 x2 x3 x4 (some (.lst (gs.map gdD))) (some (.lst (usesD l))) (some (.loc 1)) x8 (some (.loc 2)) x10 (some (.str d)) x12 x13 x14 x15 none x17) [] _ _) _ = _
    rw [lc, List.nil_append, ← hsp, List.map_map]; rfl
  have m2 : ∀ x13, eLc (iSeq (eVar 6)) (bName 10) g_law_t2 g_law_e3 [10] (kE x0 x1 x2 x3 x4 (some (.lst (gs.map gdD))) (some (.lst (usesD l))) (some (.loc 1)) x8 (some (.loc 2)) x10 (some (.str d)) (some (.lst (sp.map .str))) x13 x14 x15 x16 x17) S = .ok (.lst (X.map .int)) S := fun x13 => by
    have lc := DR.lcD_fa (S := S) (b := bName 10) (tt := g_law_t2) (elt := g_law_e3) (env := kE x0 x1 x2 x3 x4 (some (.lst (gs.map gdD))) (some (.lst (usesD l))) (some (.loc 1)) x8 (some (.loc 2)) none (some (.str d)) (some (.lst (sp.map .str))) x13 x14 x15 x16 x17) Us.D (fun u => decide (u.pl ∈ sp)) (fun u => .int (u.sb : Nat)) l [] (fun u _ => ⟨_, rfl, by
      have v10 : ∀ S, eVar 10 ((kE x0 x1 x2 x3 x4 (some (.lst (gs.map gdD))) (some (.lst (usesD l))) (some (.loc 1)) x8 (some (.loc 2)) none (some (.str d)) (some (.lst (sp.map .str))) x13 x14 x15 x16 x17).set 10 (some u.D)) S = .ok u.D S := fun _ => rfl
      have v12 : ∀ S, eVar 12 ((kE x0 x1 x2 x3 x4 (some (.lst (gs.map gdD))) (some (.lst (usesD l))) (some (.loc 1)) x8 (some (.loc 2)) none (some (.str d)) (some (.lst (sp.map .str))) x13 x14 x15 x16 x17).set 10 (some u.D)) S = .ok (.lst (sp.map .str)) S := fun _ => rfl
      have ix : ∀ S, opIxX u.D (.int 3) S = .ok (.str u.pl) S := fun S => by unfold Us.D; rfl
      have inn : ∀ S, opIn (.str u.pl) (.lst (sp.map .str)) S = .ok (.bl (decide (u.pl ∈ sp))) S := fun S => DR.in_strsL
      unfold g_law_t2
      generalize (kE x0 x1 x2 x3 x4 (some (.lst (gs.map gdD))) (some (.lst (usesD l))) (some (.loc 1)) x8 (some (.loc 2)) none (some (.str d)) (some (.lst (sp.map .str))) x13 x14 x15 x16 x17).set 10 (some u.D) = E at *
      simp only [eOp_is, v10, v12, eC_is, ER.bind_ok, ix, inn], fun _ => by
      have v10 : ∀ S, eVar 10 ((kE x0 x1 x2 x3 x4 (some (.lst (gs.map gdD))) (some (.lst (usesD l))) (some (.loc 1)) x8 (some (.loc 2)) none (some (.str d)) (some (.lst (sp.map .str))) x13 x14 x15 x16 x17).set 10 (some u.D)) S = .ok u.D S := fun _ => rfl
      have ix : ∀ S, opIxX u.D (.int 0) S = .ok (.int (u.sb : Nat)) S := fun S => by unfold Us.D; simp
      unfold g_law_e3
      generalize (kE x0 x1 x2 x3 x4 (some (.lst (gs.map gdD))) (some (.lst (usesD l))) (some (.loc 1)) x8 (some (.loc 2)) none (some (.str d)) (some (.lst (sp.map .str))) x13 x14 x15 x16 x17).set 10 (some u.D) = E at *
      simp only [eOp_is, v10, eC_is, ER.bind_ok, ix]⟩) (by simp; omega)
    rw [eLc_is, show iSeq (eVar 6) (kE x0 x1 x2 x3 x4 (some (.lst (gs.map gdD))) (some (.lst (usesD l))) (some (.loc 1)) x8 (some (.loc 2)) x10 (some (.str d)) (some (.lst (sp.map .str))) x13 x14 x15 x16 x17) S = .ok (usesD l) S from rfl]
    show LR.bindE (lcD _ _ _ (kE x0 x1 x2 x3 x4 (some (.lst (gs.map gdD))) (some (.lst (usesD l))) (some (.loc 1)) x8 (some (.loc 2)) none (some (.str d)) (some (.lst (sp.map .str))) x13 x14 x15 x16 x17) [] _ _) _ = _
    rw [lc, List.nil_append, ← hX, List.map_map]; rfl
  have so : bSortedX [.lst (X.map .int)] S = .ok (.lst ((sortI X).map .int)) S := bSortedX_lst.trans bSorted_l
  have m3 : eLc (iSeq (eVar 13)) (bName 17) g_law_t3 (eVar 17) [17] (kE x0 x1 x2 x3 x4 (some (.lst (gs.map gdD))) (some (.lst (usesD l))) (some (.loc 1)) x8 (some (.loc 2)) x10 (some (.str d)) (some (.lst (sp.map .str))) (some (.lst ((sortI X).map .int))) x14 x15 x16 x17) S = .ok (.lst ((sortI (sbB gs W l d)).map .int)) S := by
    have lc := DR.lcD_fa (S := S) (b := bName 17) (tt := g_law_t3) (elt := eVar 17) (env := kE x0 x1 x2 x3 x4 (some (.lst (gs.map gdD))) (some (.lst (usesD l))) (some (.loc 1)) x8 (some (.loc 2)) x10 (some (.str d)) (some (.lst (sp.map .str))) (some (.lst ((sortI X).map .int))) x14 x15 x16 none) D.int (fun i => decide (W i = "counts")) D.int (sortI X) [] (fun i hi => ⟨_, rfl, by
      have mem := mX i ((sortI_perm X).mem_iff.mp hi)
      have v17 : ∀ S, eVar 17 ((kE x0 x1 x2 x3 x4 (some (.lst (gs.map gdD))) (some (.lst (usesD l))) (some (.loc 1)) x8 (some (.loc 2)) x10 (some (.str d)) (some (.lst (sp.map .str))) (some (.lst ((sortI X).map .int))) x14 x15 x16 none).set 17 (some (.int i))) S = .ok (.int i) S := fun _ => rfl
      have v9 : ∀ S, eVar 9 ((kE x0 x1 x2 x3 x4 (some (.lst (gs.map gdD))) (some (.lst (usesD l))) (some (.loc 1)) x8 (some (.loc 2)) x10 (some (.str d)) (some (.lst (sp.map .str))) (some (.lst ((sortI X).map .int))) x14 x15 x16 none).set 17 (some (.int i))) S = .ok (.loc 2) S := fun _ => rfl
      have ix : opIxX (.loc 2) (.int i) S = .ok (.str (W i)) S := by
        rw [opIxX_ci, c2]
        dsimp only
        rw [val_kdz, if_pos mem]
      unfold g_law_t3
      generalize (kE x0 x1 x2 x3 x4 (some (.lst (gs.map gdD))) (some (.lst (usesD l))) (some (.loc 1)) x8 (some (.loc 2)) x10 (some (.str d)) (some (.lst (sp.map .str))) (some (.lst ((sortI X).map .int))) x14 x15 x16 none).set 17 (some (.int i)) = E at *
      simp only [eOp_is, v17, v9, eC_is, ER.bind_ok, ix, eqs], fun _ => rfl⟩) (by rw [(sortI_perm X).length_eq]; simp; omega)
    rw [eLc_is, show iSeq (eVar 13) (kE x0 x1 x2 x3 x4 (some (.lst (gs.map gdD))) (some (.lst (usesD l))) (some (.loc 1)) x8 (some (.loc 2)) x10 (some (.str d)) (some (.lst (sp.map .str))) (some (.lst ((sortI X).map .int))) x14 x15 x16 x17) S = .ok ((sortI X).map .int) S from rfl]
    show LR.bindE (lcD _ _ _ (kE x0 x1 x2 x3 x4 (some (.lst (gs.map gdD))) (some (.lst (usesD l))) (some (.loc 1)) x8 (some (.loc 2)) x10 (some (.str d)) (some (.lst (sp.map .str))) (some (.lst ((sortI X).map .int))) x14 x15 x16 none) [] _ _) _ = _
    rw [lc, List.nil_append, dl]; rfl
  have nz : ∀ S, opNe (.lst ((sortI (sbB gs W l d)).map .int)) (.lst []) S = .ok (.bl (!decide (sortI (sbB gs W l d) = []))) S := fun S => eq_nilI
  have nz2 : (sortI (sbB gs W l d) = []) = (sbB gs W l d = []) := by
    rw [eq_iff_iff]
    constructor
    · intro z
      have := (sortI_perm (sbB gs W l d)).length_eq
      rw [z] at this
      exact List.length_eq_zero_iff.mp this.symm
    · intro z
      rw [z]
      exact (sortI_perm []).eq_nil
  have z0 : sz 0 := sz_is (by omega)
  have put : putD (kdv done fun d => D.lst ((sortI (sbB gs W l d)).map .int)) (.inr d) (.lst ((sortI (sbB gs W l d)).map .int)) = kdv (done ++ [d]) fun d => .lst ((sortI (sbB gs W l d)).map .int) := by
    unfold putD
    rw [any_kdv, decide_eq_false hd, if_neg (by simp)]
    unfold kdv
    rw [List.map_append]; rfl
  have zp : sz ((kdv done fun d => D.lst ((sortI (sbB gs W l d)).map .int)).length + 1) := sz_is (by unfold kdv; rw [List.length_map]; omega)
  rw [← hS]
  refine ⟨some (.lst (sp.map .str)), some (.lst ((sortI (sbB gs W l d)).map .int)), ?_⟩
  unfold g_law_b2
  refine stN (e := kE x0 x1 x2 x3 x4 (some (.lst (gs.map gdD))) (some (.lst (usesD l))) (some (.loc 1)) x8 (some (.loc 2)) x10 (some (.str d)) (some (.lst (sp.map .str))) x13 x14 x15 x16 x17) (S' := S) (by rw [sAsg_is, m1]; rfl) ?_
  refine stN (e := kE x0 x1 x2 x3 x4 (some (.lst (gs.map gdD))) (some (.lst (usesD l))) (some (.loc 1)) x8 (some (.loc 2)) x10 (some (.str d)) (some (.lst (sp.map .str))) (some (.lst ((sortI X).map .int))) x14 x15 x16 x17) (S' := S) (by
    rw [sAsg_is, eCallB_is, lCons_is, m2]
    show (bSortedX [.lst (X.map .int)] S).bindS _ _ = _
    rw [so]; rfl) ?_
  refine stN (e := kE x0 x1 x2 x3 x4 (some (.lst (gs.map gdD))) (some (.lst (usesD l))) (some (.loc 1)) x8 (some (.loc 2)) x10 (some (.str d)) (some (.lst (sp.map .str))) (some (.lst ((sortI (sbB gs W l d)).map .int))) x14 x15 x16 x17) (S' := S) (by rw [sAsg_is, m3]; rfl) ?_
  by_cases hz : sbB gs W l d = []
  · have nzz : ∀ S, opNe (.lst ((sortI (sbB gs W l d)).map .int)) (.lst []) S = .ok (.bl false) S := fun S => by rw [nz, decide_eq_true (by rw [nz2]; exact hz)]; rfl
    refine ifFB (S' := S) ?_ ?_
    · generalize (sortI (sbB gs W l d)).map D.int = BL at *
      simp [nzz, z0]
    · rw [if_neg (by simp [hz]), List.append_nil, ← hS]; rfl
  · have nzz : ∀ S, opNe (.lst ((sortI (sbB gs W l d)).map .int)) (.lst []) S = .ok (.bl true) S := fun S => by rw [nz, decide_eq_false (by rw [nz2]; exact hz)]; rfl
    refine ifTB (S' := S) ?_ ?_
    · generalize (sortI (sbB gs W l d)).map D.int = BL at *
      simp [nzz, z0]
    · rw [if_pos hz, ← put]
      have st : S.set 1 (.dic (putD (kdv done fun d => D.lst ((sortI (sbB gs W l d)).map .int)) (.inr d) (.lst ((sortI (sbB gs W l d)).map .int)))) = [c, .dic (putD (kdv done fun d => D.lst ((sortI (sbB gs W l d)).map .int)) (.inr d) (.lst ((sortI (sbB gs W l d)).map .int))), .dic (kdz (sbs l) fun i => .str (W i))] := by rw [hS]; rfl
      rw [← st]
      generalize (sortI (sbB gs W l d)).map D.int = BL at *
      generalize (kdv done fun d => D.lst ((sortI (sbB gs W l d)).map .int)) = KD at *
      generalize gs.map gdD = GD at *
      generalize usesD l = UD at *
      generalize sp.map D.str = SP at *
      simp [c1, zp]
end DS.K20
end
section
set_option maxHeartbeats 1000000
/-! Boxes: the law. -/
namespace DS.K20
open PySem L2 DL DS
open DR (goodN)
open DW (NamesN)
open DR.K36 (kdv dicV zip_kdv val_kdv in_dicV ix_dicV any_kdv put_kdv)
variable {S : Store} {l : List Us} {gs : List Gd} {W : Int → Str} {ns : List Str}
theorem due_loop (nd : (gs.map (·.nm)).Nodup) (hpl : ∀ u ∈ l, u.pl ∈ gs.map (·.nm)) (ll : l.length ≤ 60) (lg : gs.length ≤ 4) {x0 x1 x2 x3 x4 x8 x10 x14 x15 x16 x17 : Option D} {c : Cell} : ∀ (ks done : List Str) (x11 x12 x13 : Option D), (done ++ ks).Nodup → (done ++ ks).length ≤ 10 →
    ∃ y11 y12 y13 : Option D, forD (bName 11) g_law_b2 (ks.map .str) (kE x0 x1 x2 x3 x4 (some (.lst (gs.map gdD))) (some (.lst (usesD l))) (some (.loc 1)) x8 (some (.loc 2)) x10 x11 x12 x13 x14 x15 x16 x17) [c, .dic (kdv (done.filter fun d => decide (sbB gs W l d ≠ [])) fun d => .lst ((sortI (sbB gs W l d)).map .int)), .dic (kdz (sbs l) fun i => .str (W i))] =
      .nx (kE x0 x1 x2 x3 x4 (some (.lst (gs.map gdD))) (some (.lst (usesD l))) (some (.loc 1)) x8 (some (.loc 2)) x10 y11 y12 y13 x14 x15 x16 x17) [c, .dic (kdv ((done ++ ks).filter fun d => decide (sbB gs W l d ≠ [])) fun d => .lst ((sortI (sbB gs W l d)).map .int)), .dic (kdz (sbs l) fun i => .str (W i))]
  | [], done, x11, x12, x13, _, _ => ⟨x11, x12, x13, by rw [List.append_nil]; rfl⟩
  | k :: ks, done, x11, x12, x13, hn, hl => by
    have hk : k ∉ done := fun z => by
      rw [List.nodup_append] at hn
      exact hn.2.2 k z k List.mem_cons_self rfl
    have l1 : done.length ≤ 10 := by
      rw [List.length_append] at hl
      omega
    obtain ⟨y12, y13, h1⟩ := due_step (W := W) nd hpl ll lg (d := k) (done := done.filter fun d => decide (sbB gs W l d ≠ [])) (fun z => hk (List.mem_filter.mp z).1) (Nat.le_trans (List.length_filter_le _ _) l1) (x0 := x0) (x1 := x1) (x2 := x2) (x3 := x3) (x4 := x4) (x8 := x8) (x10 := x10) (x12 := x12) (x13 := x13) (x14 := x14) (x15 := x15) (x16 := x16) (x17 := x17) (c := c)
    have e : (done.filter fun d => decide (sbB gs W l d ≠ [])) ++ (if sbB gs W l k ≠ [] then [k] else []) = (done ++ [k]).filter fun d => decide (sbB gs W l d ≠ []) := by
      rw [List.filter_append, List.filter_cons]
      by_cases h : sbB gs W l k = [] <;> simp [h]
    rw [e] at h1
    have e2 : done ++ k :: ks = done ++ [k] ++ ks := by simp
    rw [e2] at hn hl
    obtain ⟨z11, z12, z13, h2⟩ := due_loop nd hpl ll lg (x0 := x0) (x1 := x1) (x2 := x2) (x3 := x3) (x4 := x4) (x8 := x8) (x10 := x10) (x14 := x14) (x15 := x15) (x16 := x16) (x17 := x17) (c := c) ks (done ++ [k]) (some (.str k)) y12 y13 hn hl
    refine ⟨z11, z12, z13, ?_⟩
    rw [e2]
    exact forC rfl h1 h2
theorem scopeA_ok (N : NamesN 26 ns) (G : GsOk gs) {L : D} {k0 cell : Int} (fL : ∀ ρ, frzD ρ L = some L) {x6 x7 x8 x9 x10 x11 x12 x13 x14 x15 x16 x17 : Option D} {c : Cell} {m : Nat} (d : Drw c m) (hm : m ≤ 60000) :
    ∃ (l : List Us) (W : Int → Str) (y8 y10 y11 y12 y13 y14 y15 y16 y17 : Option D) (c' : Cell), (sScope (sSeq (sPar 6 7 (lCons (eCall d__law_some_uses (lCons (eVar 3) (lCons (eVar 5) (lCons (eVar 4) lNil)))) (lCons eDic0M lNil)))
(sSeq (sAsg (eTup (lCons (eCall d__law_pick (lCons (eVar 3) (lCons (eLst (lCons (eLst (lCons (eC (.str "counts")) (lCons (eC (.str "out")) (lCons (eC (.str "doubled")) lNil)))) (lCons (eLst (lCons (eC (.str "counts")) lNil)) (lCons (eLst (lCons (eC (.str "out")) (lCons (eC (.str "doubled")) lNil))) lNil)))) lNil))) (lCons eDic0M lNil))) (bTup (bCons (bName 8) (bCons (bName 9) bNil))))
(sSeq (sFor (iSeq (eVar 6)) (bName 10) g_law_b1)
(sFor (iSeq (eSortSet (eLc (iSeq (eVar 5)) (bName 16) eYes g_law_e1 [16]))) (bName 11) g_law_b2))))) (kE (some L) (some (.int k0)) (some (.int cell)) (some (.loc 0)) (some (.lst (ns.map .str))) (some (.lst (gs.map gdD))) x6 x7 x8 x9 x10 x11 x12 x13 x14 x15 x16 x17) [c] =
      .nx (kE (some L) (some (.int k0)) (some (.int cell)) (some (.loc 0)) (some (.lst (ns.map .str))) (some (.lst (gs.map gdD))) (some (.lst (usesD l))) (some (dueD (KsB gs W l) fun d => sortI (sbB gs W l d))) y8 (some (dicZ (sbs l) fun i => .str (W i))) y10 y11 y12 y13 y14 y15 y16 y17) [c'] ∧ (∀ u ∈ l, UOk gs u) ∧ (l.map (·.sb)).Nodup ∧ l.length ≤ 60 ∧ (∀ i, PyData.strOk (W i) = true) ∧ Drw c' (m + 600) := by
  obtain ⟨l, c1, p1, U, nd, ll, d1⟩ := uses_ok N G d (by omega)
  have hpl : ∀ u ∈ l, u.pl ∈ gs.map (·.nm) := fun u hu => (U u hu).pl
  have lg := G.len
  obtain ⟨SL, hSL, c2, p2, d2⟩ := pickT (T := [.dic []]) [.lst [.str "counts", .str "out", .str "doubled"], .lst [.str "counts"], .lst [.str "out", .str "doubled"]] d1 (by omega) (by simp) (by simp)
  have ok1 : PyData.strOk "counts" = true := by decide +kernel
  have ok2 : PyData.strOk "out" = true := by decide +kernel
  have ok3 : PyData.strOk "doubled" = true := by decide +kernel
  obtain ⟨XL, rfl, sX, neX, lX⟩ : ∃ XL : List D, SL = .lst XL ∧ (∀ x ∈ XL, ∃ s : Str, x = .str s ∧ PyData.strOk s = true) ∧ XL ≠ [] ∧ XL.length ≤ 10 := by
    simp only [List.mem_cons, List.not_mem_nil, or_false] at hSL
    rcases hSL with rfl | rfl | rfl
    · exact ⟨_, rfl, fun x hx => by
        simp only [List.mem_cons, List.not_mem_nil, or_false] at hx
        rcases hx with rfl | rfl | rfl
        · exact ⟨_, rfl, ok1⟩
        · exact ⟨_, rfl, ok2⟩
        · exact ⟨_, rfl, ok3⟩, by simp, by simp⟩
    · exact ⟨_, rfl, fun x hx => ⟨_, List.mem_singleton.mp hx, ok1⟩, by simp, by simp⟩
    · exact ⟨_, rfl, fun x hx => by
        simp only [List.mem_cons, List.not_mem_nil, or_false] at hx
        rcases hx with rfl | rfl
        · exact ⟨_, rfl, ok2⟩
        · exact ⟨_, rfl, ok3⟩, by simp, by simp⟩
  obtain ⟨W, y10, c3, f3, wok, d3⟩ := words_loop sX neX lX (x0 := some L) (x1 := some (.int k0)) (x2 := some (.int cell)) (x4 := some (.lst (ns.map .str))) (x5 := some (.lst (gs.map gdD))) (x6 := some (.lst (usesD l))) (x7 := some (.loc 1)) (x11 := x11) (x12 := x12) (x13 := x13) (x14 := x14) (x15 := x15) (x16 := x16) (x17 := x17) (c2 := .dic []) ll nd l [] (fun _ => "") x10 c2 (m + 400 + 1) rfl (fun _ => (by decide +kernel : PyData.strOk "" = true)) d2 (by omega)
  have lks : (sortS (ddS (gs.map (·.dt)))).length ≤ 10 := by
    have sub : ∀ e ∈ ddS (gs.map (·.dt)), e ∈ gs.map (·.dt) := fun e he => mem_ddS.mp he
    have := _root_.DR.sub_lenR (nd_ddS _) sub
    rw [(sortS_perm _).length_eq]
    simp at *
    omega
  obtain ⟨y11, y12, y13, f4⟩ := due_loop (W := W) G.nd hpl ll lg (x0 := some L) (x1 := some (.int k0)) (x2 := some (.int cell)) (x3 := some (.loc 0)) (x4 := some (.lst (ns.map .str))) (x8 := some (.lst XL)) (x10 := y10) (x14 := x14) (x15 := x15) (x16 := x16) (x17 := x17) (c := c3) (sortS (ddS (gs.map (·.dt)))) [] x11 x12 x13 (by rw [List.nil_append]; exact sortS_nd (nd_ddS _)) (by rw [List.nil_append]; exact lks)
  rw [List.nil_append] at f4
  have b3 : Cell.bel 1 c3 = true := d3.bel
  obtain ⟨S1, hS1⟩ : ∃ S1 : Store, S1 = [c3, .dic (kdv (KsB gs W l) fun d => .lst ((sortI (sbB gs W l d)).map .int)), .dic (kdz (sbs l) fun i => .str (W i))] := ⟨_, rfl⟩
  obtain ⟨ρ, hρ⟩ : ∃ ρ, ρ = resD 1 S1 12 := ⟨_, rfl⟩
  refine ⟨l, W, (some (D.lst XL)).bind (frzD ρ), y10.bind (frzD ρ), y11.bind (frzD ρ), y12.bind (frzD ρ), y13.bind (frzD ρ), x14.bind (frzD ρ), x15.bind (frzD ρ), x16.bind (frzD ρ), x17.bind (frzD ρ), c3, ?_, U, nd, ll, wok, d3.mono (by omega)⟩
  have s1 : (sPar 6 7 (lCons (eCall d__law_some_uses (lCons (eVar 3) (lCons (eVar 5) (lCons (eVar 4) lNil)))) (lCons eDic0M lNil))) (kE (some L) (some (.int k0)) (some (.int cell)) (some (.loc 0)) (some (.lst (ns.map .str))) (some (.lst (gs.map gdD))) x6 x7 x8 x9 x10 x11 x12 x13 x14 x15 x16 x17) [c] = .nx (kE (some L) (some (.int k0)) (some (.int cell)) (some (.loc 0)) (some (.lst (ns.map .str))) (some (.lst (gs.map gdD))) (some (.lst (usesD l))) (some (.loc 1)) x8 x9 x10 x11 x12 x13 x14 x15 x16 x17) [c1, .dic []] := by
    generalize ns.map D.str = NL at *
    generalize gs.map gdD = GD at *
    generalize usesD l = UD at *
    simp [p1]
  have s2 : (sAsg (eTup (lCons (eCall d__law_pick (lCons (eVar 3) (lCons (eLst (lCons (eLst (lCons (eC (.str "counts")) (lCons (eC (.str "out")) (lCons (eC (.str "doubled")) lNil)))) (lCons (eLst (lCons (eC (.str "counts")) lNil)) (lCons (eLst (lCons (eC (.str "out")) (lCons (eC (.str "doubled")) lNil))) lNil)))) lNil))) (lCons eDic0M lNil))) (bTup (bCons (bName 8) (bCons (bName 9) bNil)))) (kE (some L) (some (.int k0)) (some (.int cell)) (some (.loc 0)) (some (.lst (ns.map .str))) (some (.lst (gs.map gdD))) (some (.lst (usesD l))) (some (.loc 1)) x8 x9 x10 x11 x12 x13 x14 x15 x16 x17) [c1, .dic []] = .nx (kE (some L) (some (.int k0)) (some (.int cell)) (some (.loc 0)) (some (.lst (ns.map .str))) (some (.lst (gs.map gdD))) (some (.lst (usesD l))) (some (.loc 1)) (some (.lst XL)) (some (.loc 2)) x10 x11 x12 x13 x14 x15 x16 x17) [c2, .dic [], .dic []] := by
    have z1 : sz 1 := sz_is (by omega)
    have z2 : sz 2 := sz_is (by omega)
    have z3 : sz 3 := sz_is (by omega)
    generalize ns.map D.str = NL at *
    generalize gs.map gdD = GD at *
    generalize usesD l = UD at *
    simp [p2, z1, z2, z3]
  have s3 : (sFor (iSeq (eVar 6)) (bName 10) g_law_b1) (kE (some L) (some (.int k0)) (some (.int cell)) (some (.loc 0)) (some (.lst (ns.map .str))) (some (.lst (gs.map gdD))) (some (.lst (usesD l))) (some (.loc 1)) (some (.lst XL)) (some (.loc 2)) x10 x11 x12 x13 x14 x15 x16 x17) [c2, .dic [], .dic []] = .nx (kE (some L) (some (.int k0)) (some (.int cell)) (some (.loc 0)) (some (.lst (ns.map .str))) (some (.lst (gs.map gdD))) (some (.lst (usesD l))) (some (.loc 1)) (some (.lst XL)) (some (.loc 2)) y10 x11 x12 x13 x14 x15 x16 x17) [c3, .dic [], .dic (kdz (sbs l) fun i => .str (W i))] := by
    rw [sFor_is, show iSeq (eVar 6) (kE (some L) (some (.int k0)) (some (.int cell)) (some (.loc 0)) (some (.lst (ns.map .str))) (some (.lst (gs.map gdD))) (some (.lst (usesD l))) (some (.loc 1)) (some (.lst XL)) (some (.loc 2)) x10 x11 x12 x13 x14 x15 x16 x17) [c2, .dic [], .dic []] = .ok (usesD l) [c2, .dic [], .dic []] from rfl]
    exact f3
  have s4 : (sFor (iSeq (eSortSet (eLc (iSeq (eVar 5)) (bName 16) eYes g_law_e1 [16]))) (bName 11) g_law_b2) (kE (some L) (some (.int k0)) (some (.int cell)) (some (.loc 0)) (some (.lst (ns.map .str))) (some (.lst (gs.map gdD))) (some (.lst (usesD l))) (some (.loc 1)) (some (.lst XL)) (some (.loc 2)) y10 x11 x12 x13 x14 x15 x16 x17) [c3, .dic [], .dic (kdz (sbs l) fun i => .str (W i))] = .nx (kE (some L) (some (.int k0)) (some (.int cell)) (some (.loc 0)) (some (.lst (ns.map .str))) (some (.lst (gs.map gdD))) (some (.lst (usesD l))) (some (.loc 1)) (some (.lst XL)) (some (.loc 2)) y10 y11 y12 y13 x14 x15 x16 x17) S1 := by
    have lc := DR.lcD_fa (S := [c3, .dic [], .dic (kdz (sbs l) fun i => .str (W i))]) (b := bName 16) (tt := eYes) (elt := g_law_e1) (env := kE (some L) (some (.int k0)) (some (.int cell)) (some (.loc 0)) (some (.lst (ns.map .str))) (some (.lst (gs.map gdD))) (some (.lst (usesD l))) (some (.loc 1)) (some (.lst XL)) (some (.loc 2)) y10 x11 x12 x13 x14 x15 none x17) gdD (fun _ => true) (fun g => .str g.dt) gs [] (fun g _ => ⟨_, rfl, rfl, fun _ => by
      have v16 : ∀ S, eVar 16 ((kE (some L) (some (.int k0)) (some (.int cell)) (some (.loc 0)) (some (.lst (ns.map .str))) (some (.lst (gs.map gdD))) (some (.lst (usesD l))) (some (.loc 1)) (some (.lst XL)) (some (.loc 2)) y10 x11 x12 x13 x14 x15 none x17).set 16 (some (gdD g))) S = .ok (gdD g) S := fun _ => rfl
      have ix : ∀ S, opIxX (gdD g) (.int 1) S = .ok (.str g.dt) S := fun S => by unfold gdD; rfl
      unfold g_law_e1
      generalize (kE (some L) (some (.int k0)) (some (.int cell)) (some (.loc 0)) (some (.lst (ns.map .str))) (some (.lst (gs.map gdD))) (some (.lst (usesD l))) (some (.loc 1)) (some (.lst XL)) (some (.loc 2)) y10 x11 x12 x13 x14 x15 none x17).set 16 (some (gdD g)) = E at *
      simp only [eOp_is, v16, eC_is, ER.bind_ok, ix]⟩) (by simp; omega)
    rw [List.nil_append, List.filter_eq_self.mpr (fun _ _ => rfl)] at lc
    have ev : eLc (iSeq (eVar 5)) (bName 16) eYes g_law_e1 [16] (kE (some L) (some (.int k0)) (some (.int cell)) (some (.loc 0)) (some (.lst (ns.map .str))) (some (.lst (gs.map gdD))) (some (.lst (usesD l))) (some (.loc 1)) (some (.lst XL)) (some (.loc 2)) y10 x11 x12 x13 x14 x15 x16 x17) [c3, .dic [], .dic (kdz (sbs l) fun i => .str (W i))] = .ok (.lst ((gs.map (·.dt)).map .str)) [c3, .dic [], .dic (kdz (sbs l) fun i => .str (W i))] := by
      rw [eLc_is, show iSeq (eVar 5) (kE (some L) (some (.int k0)) (some (.int cell)) (some (.loc 0)) (some (.lst (ns.map .str))) (some (.lst (gs.map gdD))) (some (.lst (usesD l))) (some (.loc 1)) (some (.lst XL)) (some (.loc 2)) y10 x11 x12 x13 x14 x15 x16 x17) [c3, .dic [], .dic (kdz (sbs l) fun i => .str (W i))] = .ok (gs.map gdD) [c3, .dic [], .dic (kdz (sbs l) fun i => .str (W i))] from rfl]
      show LR.bindE (lcD _ _ _ (kE (some L) (some (.int k0)) (some (.int cell)) (some (.loc 0)) (some (.lst (ns.map .str))) (some (.lst (gs.map gdD))) (some (.lst (usesD l))) (some (.loc 1)) (some (.lst XL)) (some (.loc 2)) y10 x11 x12 x13 x14 x15 none x17) [] _ _) _ = _
      rw [lc, List.map_map]; rfl
    have it : iSeq (eSortSet (eLc (iSeq (eVar 5)) (bName 16) eYes g_law_e1 [16])) (kE (some L) (some (.int k0)) (some (.int cell)) (some (.loc 0)) (some (.lst (ns.map .str))) (some (.lst (gs.map gdD))) (some (.lst (usesD l))) (some (.loc 1)) (some (.lst XL)) (some (.loc 2)) y10 x11 x12 x13 x14 x15 x16 x17) [c3, .dic [], .dic (kdz (sbs l) fun i => .str (W i))] = .ok ((sortS (ddS (gs.map (·.dt)))).map .str) [c3, .dic [], .dic (kdz (sbs l) fun i => .str (W i))] := by
      rw [iSeq_is, eSortSet_is, ev]
      simp only [ER.bind_ok]
      rw [show listD [c3, .dic [], .dic (kdz (sbs l) fun i => .str (W i))] (.lst ((gs.map (·.dt)).map .str)) = some ((gs.map (·.dt)).map .str) from rfl, Option.bind_some, strsD_map]
      dsimp only
      rw [if_pos (by simp; omega)]; rfl
    rw [sFor_is, it, hS1]
    exact f4
  have fN : frzD ρ (.lst (ns.map D.str)) = some (.lst (ns.map D.str)) := by
    show (frzDs ρ (ns.map D.str)).map D.lst = _
    rw [frzDs_map (f := D.str) (fun _ => rfl)]; rfl
  have fG : frzD ρ (.lst (gs.map gdD)) = some (.lst (gs.map gdD)) := by
    show (frzDs ρ (gs.map gdD)).map D.lst = _
    rw [frzDs_map (f := gdD) (fun _ => rfl)]; rfl
  have fU : frzD ρ (.lst (usesD l)) = some (.lst (usesD l)) := by
    show (frzDs ρ (usesD l)).map D.lst = _
    rw [frzDs_map (f := Us.D) (fun _ => rfl)]; rfl
  have f0 : frzD ρ (.loc 0) = some (.loc 0) := by rw [hρ]; rfl
  have fIn : ∀ (ρ : Nat → Option D) (q : List Int), frzD ρ (.lst (q.map .int)) = some (.lst (q.map .int)) := fun ρ q => by
    show (frzDs ρ (q.map D.int)).map D.lst = _
    rw [frzDs_map (f := D.int) (fun _ => rfl)]; rfl
  have f1 : frzD ρ (.loc 1) = some (dueD (KsB gs W l) fun d => sortI (sbB gs W l d)) := by
    rw [hρ, hS1]
    show (frzDs _ ((kdv (KsB gs W l) fun d => .lst ((sortI (sbB gs W l d)).map .int)).map (·.2))).map (D.dic ((kdv (KsB gs W l) fun d => .lst ((sortI (sbB gs W l d)).map .int)).map (·.1))) = _
    rw [DR.K36.unzip_kdv1, DR.K36.unzip_kdv2, frzDs_map (fun d => fIn _ _)]; rfl
  have f2 : frzD ρ (.loc 2) = some (dicZ (sbs l) fun i => .str (W i)) := by
    rw [hρ, hS1]
    show (frzDs _ ((kdz (sbs l) fun i => .str (W i)).map (·.2))).map (D.dic ((kdz (sbs l) fun i => .str (W i)).map (·.1))) = _
    rw [unzip_kdz1, unzip_kdz2, frzDs_map (fun i => rfl)]; rfl
  unfold sScope
  rw [stN s1 (stN s2 (stN s3 s4))]
  dsimp only
  have tk : S1.take ([c] : Store).length = [c3] := by rw [hS1]; rfl
  rw [tk, if_pos (.inr (by show (Cell.bel 1 c3 && true) = true; rw [b3]; rfl))]
  rw [show ([c] : Store).length = 1 from rfl, ← hρ]
  show SR.nx [(some L).bind (frzD ρ), _, _, (some (D.loc 0)).bind (frzD ρ), (some (D.lst (ns.map D.str))).bind (frzD ρ), (some (D.lst (gs.map gdD))).bind (frzD ρ), (some (D.lst (usesD l))).bind (frzD ρ), (some (D.loc 1)).bind (frzD ρ), _, (some (D.loc 2)).bind (frzD ρ), _, _, _, _, _, _, _, _] _ = _
  simp only [Option.bind_some, fL, fN, fG, fU, f0, f1, f2]
  try rfl
theorem scopeB_ok (G : GsOk gs) (U : ∀ u ∈ l, UOk gs u) (ll : l.length ≤ 60) (hW : ∀ S : Store, opNe (dicZ (sbs l) fun i => .str (W i)) (dicZ (sbs l) fun i => .str (W i)) S = .ok (.bl false) S) {L NL : D} {k0 cell : Int} (fL : ∀ ρ, frzD ρ L = some L) {x4 x8 x10 x11 x12 x13 x14 x15 x16 x17 : Option D} {c : Cell} {m : Nat} (d : Drw c m) :
    ∃ (y3 y4 y8 y10 y11 y12 y13 y14 y15 y16 y17 : Option D), (sScope (sSeq (sPar 14 15 (lCons (eCallB bDictX (lCons (eVar 9) lNil)) (lCons (eCall d_boxes (lCons (eCall d__law_made (lCons (eVar 5) lNil)) (lCons (eVar 6) (lCons (eVar 9) lNil)))) lNil)))
(sSeq (sIf (eOr (eNot (eCall d__law_alike (lCons (eVar 15) (lCons (eVar 7) lNil)))) (eOp opNe (eVar 9) (eVar 14)))
(sRet (eC (.bl false)))
sSkip)
(sFor (iAny (eVar 15)) (bName 11) g_law_b3)))) (kE (some L) (some (.int k0)) (some (.int cell)) (some (.loc 0)) x4 (some (.lst (gs.map gdD))) (some (.lst (usesD l))) (some (dueD (KsB gs W l) fun d => sortI (sbB gs W l d))) x8 (some (dicZ (sbs l) fun i => .str (W i))) x10 x11 x12 x13 x14 x15 x16 x17) [c] =
      .nx (kE (some L) (some (.int k0)) (some (.int cell)) y3 y4 (some (.lst (gs.map gdD))) (some (.lst (usesD l))) (some (dueD (KsB gs W l) fun d => sortI (sbB gs W l d))) y8 (some (dicZ (sbs l) fun i => .str (W i))) y10 y11 y12 y13 y14 y15 y16 y17) [c] := by
  have hpl : ∀ u ∈ l, u.pl ∈ gs.map (·.nm) := fun u hu => (U u hu).pl
  have mk := made_ok (S := [c]) G.ok (by have := G.len; omega) (fun n => by
    show (Cell.bel _ c && true) = true
    rw [d.bel]; rfl)
  obtain ⟨T, T1, T2, bx⟩ := boxes_ok (S := [c]) (W := W) G hpl ll (pd := .lst (gs.map plO)) (ud := .lst (usesD l)) (.inl rfl) (.inl rfl)
  have lK : (KsB gs W l).length ≤ 1000 := by
    unfold KsB
    refine Nat.le_trans (List.length_filter_le _ _) ?_
    have sub : ∀ e ∈ ddS (gs.map (·.dt)), e ∈ gs.map (·.dt) := fun e he => mem_ddS.mp he
    have := _root_.DR.sub_lenR (nd_ddS _) sub
    rw [(sortS_perm _).length_eq]
    have := G.len
    simp at *
    omega
  have lf : ∀ d, (sortI (sbB gs W l d)).length ≤ 60 := fun d => by
    rw [(sortI_perm _).length_eq]
    unfold sbB
    rw [List.length_map]
    exact Nat.le_trans (List.length_filter_le _ _) ll
  have al := alike_told (T := T) (Ks := KsB gs W l) (f := fun d => sortI (sbB gs W l d)) lK (fun d _ => Nat.le_trans (lf d) (by omega))
  obtain ⟨S2, hS2⟩ : ∃ S2 : Store, S2 = T ++ (KsB gs W l).map fun d => Cell.lst ((sortI (sbB gs W l d)).map .int) := ⟨_, rfl⟩
  rw [← hS2] at bx al
  have hW := hW S2
  have bd : bDictX [dicZ (sbs l) fun i => .str (W i)] [c] = .ok (dicZ (sbs l) fun i => .str (W i)) [c] := by
    show ER.ok (.dic ((((sbs l).map fun k => (.inl k : Key)).zip ((sbs l).map fun i => D.str (W i))).map (·.1)) ((((sbs l).map fun k => (.inl k : Key)).zip ((sbs l).map fun i => D.str (W i))).map (·.2))) [c] = _
    rw [zip_kdz, unzip_kdz1, unzip_kdz2]
  obtain ⟨T', y11, ap, a1, a2⟩ := app_loop (Ks := KsB gs W l) (n := T.length) (x0 := some L) (x1 := some (.int k0)) (x2 := some (.int cell)) (x3 := some (.loc 0)) (x4 := x4) (x5 := some (.lst (gs.map gdD))) (x6 := some (.lst (usesD l))) (x7 := some (dueD (KsB gs W l) fun d => sortI (sbB gs W l d))) (x8 := x8) (x9 := some (dicZ (sbs l) fun i => .str (W i))) (x10 := x10) (x12 := x12) (x13 := x13) (x14 := some (dicZ (sbs l) fun i => .str (W i))) (x16 := x16) (x17 := x17) (KsB gs W l) 60 S2 x11 (fun _ h => h) (fun j j1 j2 => by
    obtain ⟨i, rfl⟩ := Nat.exists_eq_add_of_le j1
    have hi : i < (KsB gs W l).length := by omega
    refine ⟨(sortI (sbB gs W l (KsB gs W l)[i])).map .int, ?_, by rw [List.length_map]; exact lf _⟩
    rw [hS2, List.getElem?_append_right (by omega), show T.length + i - T.length = i by omega, List.getElem?_map, List.getElem?_eq_getElem hi]; rfl) (by omega)
  have c0 : T'[0]? = some c := by
    have lt : 0 < T.length := by have : (0 : Nat) < ([c] : Store).length := by simp
                                 omega
    rw [a2 0 lt, hS2, List.getElem?_append_left lt, T1 0 (by simp)]; rfl
  have tk : T'.take ([c] : Store).length = [c] := by
    cases T' with
    | nil => cases c0
    | cons a T' =>
      have : a = c := Option.some.inj c0
      subst this
      rfl
  obtain ⟨ρ, hρ⟩ : ∃ ρ, ρ = resD ([c] : Store).length T' 12 := ⟨_, rfl⟩
  have fG : frzD ρ (.lst (gs.map gdD)) = some (.lst (gs.map gdD)) := by
    show (frzDs ρ (gs.map gdD)).map D.lst = _
    rw [frzDs_map (f := gdD) (fun _ => rfl)]; rfl
  have fU : frzD ρ (.lst (usesD l)) = some (.lst (usesD l)) := by
    show (frzDs ρ (usesD l)).map D.lst = _
    rw [frzDs_map (f := Us.D) (fun _ => rfl)]; rfl
  have fIn : ∀ (ρ : Nat → Option D) (q : List Int), frzD ρ (.lst (q.map .int)) = some (.lst (q.map .int)) := fun ρ q => by
    show (frzDs ρ (q.map D.int)).map D.lst = _
    rw [frzDs_map (f := D.int) (fun _ => rfl)]; rfl
  have f7 : frzD ρ (dueD (KsB gs W l) fun d => sortI (sbB gs W l d)) = some (dueD (KsB gs W l) fun d => sortI (sbB gs W l d)) := by
    show (frzDs ρ ((KsB gs W l).map fun d => D.lst ((sortI (sbB gs W l d)).map .int))).map (D.dic _) = _
    rw [frzDs_map (fun d => fIn _ _)]; rfl
  have f9 : frzD ρ (dicZ (sbs l) fun i => .str (W i)) = some (dicZ (sbs l) fun i => .str (W i)) := frz_words _ _ _
  refine ⟨(some (D.loc 0)).bind (frzD ρ), x4.bind (frzD ρ), x8.bind (frzD ρ), x10.bind (frzD ρ), y11.bind (frzD ρ), x12.bind (frzD ρ), x13.bind (frzD ρ), (some (dicZ (sbs l) fun i => D.str (W i))).bind (frzD ρ), (some (tdD (KsB gs W l) T.length)).bind (frzD ρ), x16.bind (frzD ρ), x17.bind (frzD ρ), ?_⟩
  have it : ∀ S, iAny (eVar 15) (kE (some L) (some (.int k0)) (some (.int cell)) (some (.loc 0)) x4 (some (.lst (gs.map gdD))) (some (.lst (usesD l))) (some (dueD (KsB gs W l) fun d => sortI (sbB gs W l d))) x8 (some (dicZ (sbs l) fun i => .str (W i))) x10 x11 x12 x13 (some (dicZ (sbs l) fun i => .str (W i))) (some (tdD (KsB gs W l) T.length)) x16 x17) S = .ok ((KsB gs W l).map .str) S := fun S => by
    show LR.ok (((KsB gs W l).map fun d => (.inr d : Key)).map dKey) S = _
    rw [List.map_map]; rfl
  have s1 : (sPar 14 15 (lCons (eCallB bDictX (lCons (eVar 9) lNil)) (lCons (eCall d_boxes (lCons (eCall d__law_made (lCons (eVar 5) lNil)) (lCons (eVar 6) (lCons (eVar 9) lNil)))) lNil))) (kE (some L) (some (.int k0)) (some (.int cell)) (some (.loc 0)) x4 (some (.lst (gs.map gdD))) (some (.lst (usesD l))) (some (dueD (KsB gs W l) fun d => sortI (sbB gs W l d))) x8 (some (dicZ (sbs l) fun i => .str (W i))) x10 x11 x12 x13 x14 x15 x16 x17) [c] = .nx (kE (some L) (some (.int k0)) (some (.int cell)) (some (.loc 0)) x4 (some (.lst (gs.map gdD))) (some (.lst (usesD l))) (some (dueD (KsB gs W l) fun d => sortI (sbB gs W l d))) x8 (some (dicZ (sbs l) fun i => .str (W i))) x10 x11 x12 x13 (some (dicZ (sbs l) fun i => .str (W i))) (some (tdD (KsB gs W l) T.length)) x16 x17) S2 := by
    generalize (dicZ (sbs l) fun i => D.str (W i)) = WD at *
    generalize (dueD (KsB gs W l) fun d => sortI (sbB gs W l d)) = DD at *
    generalize tdD (KsB gs W l) T.length = TD at *
    generalize gs.map gdD = GD at *
    generalize gs.map plO = PL at *
    generalize usesD l = UD at *
    simp [bd, mk, bx]
  have s2 : (sIf (eOr (eNot (eCall d__law_alike (lCons (eVar 15) (lCons (eVar 7) lNil)))) (eOp opNe (eVar 9) (eVar 14)))
(sRet (eC (.bl false)))
sSkip) (kE (some L) (some (.int k0)) (some (.int cell)) (some (.loc 0)) x4 (some (.lst (gs.map gdD))) (some (.lst (usesD l))) (some (dueD (KsB gs W l) fun d => sortI (sbB gs W l d))) x8 (some (dicZ (sbs l) fun i => .str (W i))) x10 x11 x12 x13 (some (dicZ (sbs l) fun i => .str (W i))) (some (tdD (KsB gs W l) T.length)) x16 x17) S2 = .nx (kE (some L) (some (.int k0)) (some (.int cell)) (some (.loc 0)) x4 (some (.lst (gs.map gdD))) (some (.lst (usesD l))) (some (dueD (KsB gs W l) fun d => sortI (sbB gs W l d))) x8 (some (dicZ (sbs l) fun i => .str (W i))) x10 x11 x12 x13 (some (dicZ (sbs l) fun i => .str (W i))) (some (tdD (KsB gs W l) T.length)) x16 x17) S2 := by
    generalize (dicZ (sbs l) fun i => D.str (W i)) = WD at *
    generalize (dueD (KsB gs W l) fun d => sortI (sbB gs W l d)) = DD at *
    generalize tdD (KsB gs W l) T.length = TD at *
    generalize gs.map gdD = GD at *
    generalize usesD l = UD at *
    simp [al, hW]
  have s3 : (sFor (iAny (eVar 15)) (bName 11) g_law_b3) (kE (some L) (some (.int k0)) (some (.int cell)) (some (.loc 0)) x4 (some (.lst (gs.map gdD))) (some (.lst (usesD l))) (some (dueD (KsB gs W l) fun d => sortI (sbB gs W l d))) x8 (some (dicZ (sbs l) fun i => .str (W i))) x10 x11 x12 x13 (some (dicZ (sbs l) fun i => .str (W i))) (some (tdD (KsB gs W l) T.length)) x16 x17) S2 = .nx (kE (some L) (some (.int k0)) (some (.int cell)) (some (.loc 0)) x4 (some (.lst (gs.map gdD))) (some (.lst (usesD l))) (some (dueD (KsB gs W l) fun d => sortI (sbB gs W l d))) x8 (some (dicZ (sbs l) fun i => .str (W i))) x10 y11 x12 x13 (some (dicZ (sbs l) fun i => .str (W i))) (some (tdD (KsB gs W l) T.length)) x16 x17) T' := by
    rw [sFor_is, it]
    exact ap
  unfold sScope
  rw [stN s1 (stN s2 s3)]
  dsimp only
  rw [if_pos (.inl tk), tk, ← hρ]
  show SR.nx [(some L).bind (frzD ρ), _, _, _, _, (some (D.lst (gs.map gdD))).bind (frzD ρ), (some (D.lst (usesD l))).bind (frzD ρ), (some (dueD (KsB gs W l) fun d => sortI (sbB gs W l d))).bind (frzD ρ), _, (some (dicZ (sbs l) fun i => D.str (W i))).bind (frzD ρ), _, _, _, _, _, _, _, _] _ = _
  simp only [Option.bind_some, fL, fG, fU, f7, f9]
  try rfl
end DS.K20
end
section
set_option maxHeartbeats 1000000
/-! Boxes: the law. -/
namespace DS.K20
open PySem L2 DL DS
open DR (goodN)
open DW (NamesN)
variable {S : Store} {l : List Us} {gs : List Gd} {W : Int → Str} {ns : List Str}
theorem words_same (h : ∀ i, PyData.strOk (W i) = true) : opNe (dicZ (sbs l) fun i => .str (W i)) (dicZ (sbs l) fun i => .str (W i)) S = .ok (.bl false) S := by
  have h1 : D.pyO S (dicZ (sbs l) fun i => .str (W i)) = none := by simp [D.pyO, D.py]
  unfold opNe opEqB
  dsimp only
  rw [h1]
  dsimp only
  unfold eqSame
  refine (if_pos ⟨rfl, ?_⟩).trans rfl
  unfold niceT
  refine List.all_eq_true.mpr fun d hd => ?_
  obtain ⟨i, _, rfl⟩ := List.mem_map.mp hd
  exact pd_nice (k := 0) (.str (h i)) (by decide)
theorem scope_head2 {g : SM} {env : EnvD} {L : D} {n : Nat} (h : ∃ t S1, g env [] = .nx (some L :: t) S1 ∧ t.length = n) (hL : ∀ ρ, frzD ρ L = some L) : ∃ t' : EnvD, sScope g env [] = .nx (some L :: t') [] ∧ t'.length = n := by
  obtain ⟨t, S1, h1, h2⟩ := h
  refine ⟨t.map fun o => o.bind (frzD (resD ([] : Store).length S1 12)), ?_, by simpa using h2⟩
  rw [sScope_nx h1 rfl, List.map_cons]
  show SR.nx (frzD _ L :: _) [] = _
  rw [hL]
theorem body_ok (L : D) (cell : Int) {k0 : Nat} (hk : k0 ≤ 100) {x3 x4 x5 x6 x7 x8 x9 x10 x11 x12 x13 x14 x15 x16 x17 : Option D} (hLf : ∀ ρ, frzD ρ L = some L) :
    ∃ t : EnvD, g_law_b4 (kE (some L) (some (.int (k0 : Nat))) (some (.int cell)) x3 x4 x5 x6 x7 x8 x9 x10 x11 x12 x13 x14 x15 x16 x17) [] = .nx (some L :: t) [] ∧ t.length = 17 := by
  obtain ⟨c0, p0, d0⟩ := begun1 cell (k := (k0 : Int)) (by omega) (by omega)
  obtain ⟨ns, c1, p1, N, d1⟩ := names_ok d0 (by omega)
  obtain ⟨gs, c2, p2, G, d2⟩ := grounds_ok N d1 (by omega)
  obtain ⟨l, W, y8, y10, y11, y12, y13, y14, y15, y16, y17, c3, p3, U, nd, ll, wok, d3⟩ := scopeA_ok N G (k0 := (k0 : Nat)) (cell := cell) hLf (x6 := x6) (x7 := x7) (x8 := x8) (x9 := x9) (x10 := x10) (x11 := x11) (x12 := x12) (x13 := x13) (x14 := x14) (x15 := x15) (x16 := x16) (x17 := x17) d2 (by omega)
  obtain ⟨z3, z4, z8, z10, z11, z12, z13, z14, z15, z16, z17, p4⟩ := scopeB_ok (NL := L) G U ll (fun S => words_same wok) (k0 := (k0 : Nat)) (cell := cell) hLf (x4 := some (.lst (ns.map .str))) (x8 := y8) (x10 := y10) (x11 := y11) (x12 := y12) (x13 := y13) (x14 := y14) (x15 := y15) (x16 := y16) (x17 := y17) d3
  have hpl : ∀ u ∈ l, u.pl ∈ gs.map (·.nm) := fun u hu => (U u hu).pl
  have mk := made_ok (S := [c3]) G.ok (by have := G.len; omega) (fun n => by
    show (Cell.bel _ c3 && true) = true
    rw [d3.bel]; rfl)
  obtain ⟨T, T1, T2, bx⟩ := boxes_ok (S := [c3]) (W := W) G hpl ll (pd := .tup (gs.map plO)) (ud := .tup (usesD l)) (.inr rfl) (.inr rfl)
  have lK : (KsB gs W l).length ≤ 1000 := by
    unfold KsB
    refine Nat.le_trans (List.length_filter_le _ _) ?_
    have sub : ∀ e ∈ ddS (gs.map (·.dt)), e ∈ gs.map (·.dt) := fun e he => mem_ddS.mp he
    have := _root_.DR.sub_lenR (nd_ddS _) sub
    rw [(sortS_perm _).length_eq]
    have := G.len
    simp at *
    omega
  have lf : ∀ d, (sortI (sbB gs W l d)).length ≤ 60 := fun d => by
    rw [(sortI_perm _).length_eq]
    unfold sbB
    rw [List.length_map]
    exact Nat.le_trans (List.length_filter_le _ _) ll
  have al := alike_told (T := T) (Ks := KsB gs W l) (f := fun d => sortI (sbB gs W l d)) lK (fun d _ => Nat.le_trans (lf d) (by omega))
  have bt : ∀ (ds : List D) S, bTuple [.lst ds] S = .ok (.tup ds) S := fun _ _ => rfl
  unfold g_law_b4
  refine scope_head2 ?_ hLf
  refine ⟨[some (.int (k0 : Nat)), some (.int cell), z3, z4, some (.lst (gs.map gdD)), some (.lst (usesD l)), some (dueD (KsB gs W l) fun d => sortI (sbB gs W l d)), z8, some (dicZ (sbs l) fun i => .str (W i)), z10, z11, z12, z13, z14, z15, z16, z17], T ++ (KsB gs W l).map fun d => Cell.lst ((sortI (sbB gs W l d)).map .int), stN (e := kE (some L) (some (.int (k0 : Nat))) (some (.int cell)) (some (.loc 0)) x4 x5 x6 x7 x8 x9 x10 x11 x12 x13 x14 x15 x16 x17) (S' := [c0]) (by simp [p0]) (stN (e := kE (some L) (some (.int (k0 : Nat))) (some (.int cell)) (some (.loc 0)) (some (.lst (ns.map .str))) x5 x6 x7 x8 x9 x10 x11 x12 x13 x14 x15 x16 x17) (S' := [c1]) (by
    generalize D.lst (ns.map D.str) = NL at *
    simp [p1]) (stN (e := kE (some L) (some (.int (k0 : Nat))) (some (.int cell)) (some (.loc 0)) (some (.lst (ns.map .str))) (some (.lst (gs.map gdD))) x6 x7 x8 x9 x10 x11 x12 x13 x14 x15 x16 x17) (S' := [c2]) (by
    generalize D.lst (ns.map D.str) = NL at *
    generalize gs.map gdD = GD at *
    simp [p2]) (stN p3 (stN p4 ?_)))), rfl⟩
  · obtain ⟨S2, hS2⟩ : ∃ S2 : Store, S2 = T ++ (KsB gs W l).map fun d => Cell.lst ((sortI (sbB gs W l d)).map .int) := ⟨_, rfl⟩
    rw [← hS2] at bx al ⊢
    refine ifFB (S' := S2) ?_ rfl
    generalize (dicZ (sbs l) fun i => D.str (W i)) = WD at *
    generalize (dueD (KsB gs W l) fun d => sortI (sbB gs W l d)) = DD at *
    generalize tdD (KsB gs W l) T.length = TD at *
    generalize gs.map gdD = GD at *
    generalize gs.map plO = PL at *
    generalize usesD l = UD at *
    simp [bt, mk, bx, al]
theorem law_true (ns : List Int) (h : ns.length ≤ 63) : ∃ S, d_law [.lst (ns.map .int)] [] = .ok (.bl true) S := by
  have e3 : (ns.map D.int ++ [.int 3]) = (ns ++ [3]).map D.int := by simp
  have hl : (cutD (ns ++ [3]) none (some (maxII 1 (minII 10 (ns.length : Int))))).length ≤ 100 := Nat.le_trans (cut_len _ _ _) (by simp; omega)
  obtain ⟨e', he⟩ := law_loop (S := []) (b := bTup (bCons (bName 1) (bCons (bName 2) bNil))) (body := g_law_b4) (e := some (.lst (ns.map D.int)) :: List.replicate 17 none)
    (fun e => ∃ t : EnvD, e = some (.lst (ns.map D.int)) :: t ∧ t.length = 17) (cutD (ns ++ [3]) none (some (maxII 1 (minII 10 (ns.length : Int))))) ⟨_, rfl, rfl⟩ (by
      rintro i c e hi ⟨t, rfl, ht⟩
      match t, ht with
      | [x1, x2, x3, x4, x5, x6, x7, x8, x9, x10, x11, x12, x13, x14, x15, x16, x17], _ =>
        obtain ⟨t', h1, h2⟩ := body_ok (.lst (ns.map D.int)) c (k0 := i) (by omega) (x3 := x3) (x4 := x4) (x5 := x5) (x6 := x6) (x7 := x7) (x8 := x8) (x9 := x9) (x10 := x10) (x11 := x11) (x12 := x12) (x13 := x13) (x14 := x14) (x15 := x15) (x16 := x16) (x17 := x17) (fun ρ => by simp [frzD, frzDs_map (f := D.int) (fun _ => rfl)])
        exact ⟨_, _, rfl, h1, _, rfl, h2⟩)
  unfold d_law g_law
  refine ⟨[], ?_⟩
  have e4 : cutD (ns.map D.int ++ [.int 3]) none (some (maxII 1 (minII 10 (ns.length : Int)))) = (cutD (ns ++ [3]) none (some (maxII 1 (minII 10 (ns.length : Int))))).map D.int := by rw [e3, cut_map]
  have hz : sz (ns.length + 1) := sz_is (by omega)
  have he : forD (bTup (bCons (bName 1) (bCons (bName 2) bNil))) g_law_b4 (enumD 0 ((cutD (ns ++ [3]) none (some (maxII 1 (minII 10 (ns.length : Int))))).map D.int)) [some (.lst (ns.map D.int)), none, none, none, none, none, none, none, none, none, none, none, none, none, none, none, none, none] [] = .nx e' [] := he
  simp [hz, e4, he]
end DS.K20
end
section
namespace DS.K20
open PySem L2  
open DL
def top (i : Nat) : Stmt := PySem.Challenge.pw_rolltally_k20_boxes.main.body.getD i (.Pass ⟨0, 0, 0, 0⟩)
structure Txt (K : PySem.W.Frag) (mg : Str → Option Value) (ca ce : Str → Option Addr) (w : World) : Prop where
  own : ∀ c C, ca c = some C → OwnC K C
  b_all : mg "all" = none
  b_bool : mg "bool" = none
  b_dict : mg "dict" = none
  b_enumerate : mg "enumerate" = none
  b_int : mg "int" = none
  b_isinstance : mg "isinstance" = none
  b_len : mg "len" = none
  b_list : mg "list" = none
  b_max : mg "max" = none
  b_min : mg "min" = none
  b_range : mg "range" = none
  b_set : mg "set" = none
  b_sorted : mg "sorted" = none
  b_str : mg "str" = none
  b_tuple : mg "tuple" = none
  g_GREATEST_STUB : ∃ t, mg "GREATEST_STUB" = some (.int (9999) t)
  g_LETTERS : ∃ t, mg "LETTERS" = some (.str "abcdefghijklmnopqrstuvwxyz" t)
  g_MOST_LETTERS : ∃ t, mg "MOST_LETTERS" = some (.int (8) t)
  fl_district : FldOk ⟨K, ca, ce⟩ "district" ["Place"]
  fl_ended : FldOk ⟨K, ca, ce⟩ "ended" ["Place"]
  fl_first : FldOk ⟨K, ca, ce⟩ "first" ["Place"]
  fl_is_over : FldOk ⟨K, ca, ce⟩ "is_over" ["Place"]
  fl_last : FldOk ⟨K, ca, ce⟩ "last" ["Place"]
  fl_name : FldOk ⟨K, ca, ce⟩ "name" ["Place", "Race"]
  fl_sent : FldOk ⟨K, ca, ce⟩ "sent" ["Place"]
  is_bool : IsT ⟨K, ca, ce⟩ (.type "bool") (tabB .bool)
  is_dict : IsT ⟨K, ca, ce⟩ (.type "dict") (tabB .dict)
  is_int : IsT ⟨K, ca, ce⟩ (.type "int") (tabB .int)
  is_list : IsT ⟨K, ca, ce⟩ (.type "list") (tabB .list)
  is_str : IsT ⟨K, ca, ce⟩ (.type "str") (tabB .str)
  is_tuple : IsT ⟨K, ca, ce⟩ (.type "tuple") (tabB .tuple)
  is_Place : ∃ C, mg "Place" = some (.ref C) ∧ IsT ⟨K, ca, ce⟩ (.ref C) (tabO "Place")
  x_NoPlace : ExcR ⟨K, ca, ce⟩ mg "NoPlace"
section
variable {P : Program} {w : World} {K : PySem.W.Frag} {ca ce : Str → Option Addr} {mg : Str → Option Value} {base : Heap}
abbrev s__law_begun : Stmt := top 28
theorem sc__law_begun : FnScope ["_law_cell", "_law_k", "_law_seed"] ["_law_cell", "_law_k"] (defScope s__law_begun) := ⟨rfl, rfl, rfl, by decide +kernel, rfl, by decide +kernel, by decide +kernel⟩
theorem ok__law_begun {f : Addr} {fd : FuncData} (F : Fun K "_law_begun" "_law_begun" s__law_begun f fd) (T : Txt K mg ca ce w)  : FnG P w K mg base (L2.CX P w) 1 f fd ["_law_cell", "_law_k"] (spD ⟨K, ca, ce⟩ 2 d__law_begun) :=
fnG (G := ⟨K, ca, ce⟩) (N := ["_law_cell", "_law_k", "_law_seed"]) .keep F sc__law_begun fun cdv A outer s H E hr tk po gd =>
(dss_cons (ds_set (i := 2) sc__law_begun.nd rfl (Or.inl rfl) (de_op (do_add rfl) de_int (de_op do_mod (de_op do_pow (de_op (do_add rfl) (de_op (do_add rfl) (de_op do_mul (de_op do_mod (de_var 0) de_int) de_int) (de_op do_mul de_int (de_var 1))) de_int) de_int) de_int)))
(dss_cons (ds_if (dt_cmp do_ge (de_var 0) (de_op do_pow de_int de_int))
(dss_one (ds_ret (de_lstM (da_cons (de_op do_sub (de_var 0) (de_op do_pow de_int de_int)) (da_cons (de_var 2) (da_cons de_int da_nil))))))
dss_nil)
(dss_one (ds_ret (de_lstM (da_cons de_int (da_cons (de_var 2) (da_cons de_int da_nil))))))))

abbrev s__law_next : Stmt := top 29
theorem sc__law_next : FnScope ["_law_draw", "_law_size", "_law_found", "_law_mixed"] ["_law_draw", "_law_size"] (defScope s__law_next) := ⟨rfl, rfl, rfl, by decide +kernel, rfl, by decide +kernel, by decide +kernel⟩
theorem ok__law_next {f : Addr} {fd : FuncData} (F : Fun K "_law_next" "_law_next" s__law_next f fd) (T : Txt K mg ca ce w)  : FnG P w K mg base (L2.CX P w) 1 f fd ["_law_draw", "_law_size"] (spD ⟨K, ca, ce⟩ 2 d__law_next) :=
fnG (G := ⟨K, ca, ce⟩) (N := ["_law_draw", "_law_size", "_law_found", "_law_mixed"]) .keep F sc__law_next fun cdv A outer s H E hr tk po gd =>
(dss_cons (ds_if (dt_cmp do_gt (de_ixX rfl (units1 hr) (de_var 0) de_int) de_int)
(dss_cons (ds_set (i := 2) sc__law_next.nd rfl (Or.inl rfl) (de_op do_mod (de_ixX rfl (units1 hr) (de_var 0) de_int) (de_var 1)))
(dss_cons (ds_putX (units1 hr) (de_op do_fdiv (de_ixX rfl (units1 hr) (de_var 0) de_int) (de_var 1)) (de_var 0) de_int)
(dss_one (ds_ret (de_var 2)))))
dss_nil)
(dss_cons (ds_putX (units1 hr) (de_op (do_add rfl) (de_ixX rfl (units1 hr) (de_var 0) de_int) de_int) (de_var 0) de_int)
(dss_cons (ds_set (i := 3) sc__law_next.nd rfl (Or.inl rfl) (de_op do_mod (de_op do_pow (de_op (do_add rfl) (de_op (do_add rfl) (de_op do_mul (de_ixX rfl (units1 hr) (de_var 0) de_int) (de_op (do_add rfl) (de_op do_mul de_int (de_ixX rfl (units1 hr) (de_var 0) de_int)) de_int)) (de_op do_mul (de_op do_mul de_int (de_ixX rfl (units1 hr) (de_var 0) de_int)) (de_ixX rfl (units1 hr) (de_var 0) de_int))) de_int) de_int) de_int))
(dss_one (ds_ret (de_op do_mod (de_op do_fdiv (de_var 3) de_int) (de_var 1)))))))

abbrev s__law_names : Stmt := top 31
theorem sc__law_names : FnScope ["_law_draw", "_law_own", "_law_abc", "_law_lead", "_law_tails", "_law_k"] ["_law_draw"] (defScope s__law_names) := ⟨rfl, rfl, rfl, by decide +kernel, rfl, by decide +kernel, by decide +kernel⟩
theorem ok__law_names {f : Addr} {fd : FuncData} (F : Fun K "_law_names" "_law_names" s__law_names f fd) (T : Txt K mg ca ce w) (c__law_next : DefG ⟨K, ca, ce⟩ P w mg base 1 "_law_next" 2 d__law_next) : FnG P w K mg base (L2.CX P w) 2 f fd ["_law_draw"] (spD ⟨K, ca, ce⟩ 1 d__law_names) :=
fnG (G := ⟨K, ca, ce⟩) (N := ["_law_draw", "_law_own", "_law_abc", "_law_lead", "_law_tails", "_law_k"]) .keep F sc__law_names fun cdv A outer s H E hr tk po gd =>
(dss_cons (ds_set (i := 1) sc__law_names.nd rfl (Or.inl rfl) (de_lst (da_cons de_str (da_cons de_str (da_cons de_str (da_cons de_str (da_cons de_str (da_cons de_str (da_cons de_str (da_cons de_str (da_cons de_str (da_cons de_str (da_cons de_str (da_cons de_str da_nil))))))))))))))
(dss_cons (ds_set (i := 1) sc__law_names.nd rfl (Or.inl rfl) (de_op (do_add rfl) (de_var 1) (de_lst (da_cons de_str (da_cons de_str (da_cons de_str (da_cons de_str (da_cons de_str (da_cons de_str (da_cons de_str (da_cons de_str (da_cons de_str (da_cons de_str (da_cons de_str (da_cons de_str da_nil)))))))))))))))
(dss_cons (ds_set (i := 1) sc__law_names.nd rfl (Or.inl rfl) (de_op (do_add rfl) (de_var 1) (de_lst (da_cons de_str (da_cons de_str da_nil)))))
(dss_cons (ds_asg (de_tup (da_cons de_str (da_cons (de_callG c__law_next gd rfl (hr.mono (by omega)) rfl tk (da_cons (de_var 0) (da_cons de_int da_nil)) rfl (la_cons (la_cons la_nil))) da_nil))) (dg_tup rfl rfl (dgs_cons (dg_name sc__law_names.nd rfl (by first | exact Or.inl rfl | exact Or.inr rfl)) (dgs_cons (dg_name sc__law_names.nd rfl (by first | exact Or.inl rfl | exact Or.inr rfl)) dgs_nil)) (blen_cons (blen_cons blen_nil))))
(dss_cons (ds_if (dt_cmp (do_eq rfl (units100 hr)) (de_callG c__law_next gd rfl (hr.mono (by omega)) rfl tk (da_cons (de_var 0) (da_cons de_int da_nil)) rfl (la_cons (la_cons la_nil))) de_int)
(dss_one (ds_ret (de_op (do_add rfl) (de_slice rfl (de_var 1) (do_some (de_var 3)) do_none) (de_slice rfl (de_var 1) do_none (do_some (de_var 3))))))
dss_nil)
(dss_cons (ds_set (i := 4) sc__law_names.nd rfl (Or.inr rfl) (de_lst (da_cons de_str (da_cons de_str (da_cons de_str (da_cons de_str (da_cons de_str (da_cons de_str da_nil))))))))
(dss_one (ds_ret (de_lc (own := [("_law_k", 5)]) rfl sc__law_names.nd (di_range1 rfl T.b_range (da_cons de_int da_nil)) (blkOk_by (N := ["_law_draw", "_law_own", "_law_abc", "_law_lead", "_law_tails", "_law_k"]) (sc := defScope s__law_names) (own := [("_law_k", 5)]) (by decide +kernel)) (fun _ _ _ _ _ => (dg_name sc__law_names.nd rfl (by first | exact Or.inl rfl | exact Or.inr rfl))) (fun _ _ _ _ _ => dts_nil) (fun _ _ _ _ _ => (de_op (do_add rfl) (de_ixX rfl (units1 hr) (de_var 2) (de_op do_mod (de_op (do_add rfl) (de_var 3) (de_op do_mul de_int (de_var 5))) de_int)) (de_ixX rfl (units1 hr) (de_var 4) (de_op do_mod (de_op (do_add rfl) (de_var 3) (de_op do_mul (de_var 5) (de_var 5))) de_int)))) (by decide))))))))))

abbrev s__law_stirred : Stmt := top 32
theorem sc__law_stirred : FnScope ["_law_draw", "_law_some", "_law_left", "_law_k"] ["_law_draw", "_law_some"] (defScope s__law_stirred) := ⟨rfl, rfl, rfl, by decide +kernel, rfl, by decide +kernel, by decide +kernel⟩
theorem ok__law_stirred {f : Addr} {fd : FuncData} (F : Fun K "_law_stirred" "_law_stirred" s__law_stirred f fd) (T : Txt K mg ca ce w) (c__law_next : DefG ⟨K, ca, ce⟩ P w mg base 1 "_law_next" 2 d__law_next) : FnG P w K mg base (L2.CX P w) 2 f fd ["_law_draw", "_law_some"] (spD ⟨K, ca, ce⟩ 2 d__law_stirred) :=
fnG (G := ⟨K, ca, ce⟩) (N := ["_law_draw", "_law_some", "_law_left", "_law_k"]) .pure F sc__law_stirred fun cdv A outer s H E hr tk po gd =>
(dss_cons (ds_set (i := 2) sc__law_stirred.nd rfl (Or.inr rfl) (de_callTy (dc_listXM rfl rfl) rfl T.b_list (by decide +kernel) (da_cons (de_var 1) da_nil)))
(dss_one (ds_ret (de_lc (own := [("_law_k", 3)]) rfl sc__law_stirred.nd (di_range1 rfl T.b_range (da_cons (de_callB (dc_lenX rfl) rfl T.b_len (by decide +kernel) (da_cons (de_var 2) da_nil)) da_nil)) (blkOk_by (N := ["_law_draw", "_law_some", "_law_left", "_law_k"]) (sc := defScope s__law_stirred) (own := [("_law_k", 3)]) (by decide +kernel)) (fun _ _ _ _ _ => (dg_name sc__law_stirred.nd rfl (by first | exact Or.inl rfl | exact Or.inr rfl))) (fun _ _ _ _ _ => dts_nil) (fun _ _ _ _ _ => (de_meth PySem.F.plainAttrs_list PySem.F.slot_list_pop PySem.F.type_list_pop dm_popAt rfl (de_var 2) (da_cons (de_callG c__law_next gd rfl (hr.mono (by omega)) rfl takes0 (da_cons (de_var 0) (da_cons (de_callB (dc_lenX rfl) rfl T.b_len (by decide +kernel) (da_cons (de_var 2) da_nil)) da_nil)) rfl (la_cons (la_cons la_nil))) da_nil))) (by decide)))))

abbrev s__law_pick : Stmt := top 30
theorem sc__law_pick : FnScope ["_law_draw", "_law_some"] ["_law_draw", "_law_some"] (defScope s__law_pick) := ⟨rfl, rfl, rfl, by decide +kernel, rfl, by decide +kernel, by decide +kernel⟩
theorem ok__law_pick {f : Addr} {fd : FuncData} (F : Fun K "_law_pick" "_law_pick" s__law_pick f fd) (T : Txt K mg ca ce w) (c__law_next : DefG ⟨K, ca, ce⟩ P w mg base 1 "_law_next" 2 d__law_next) : FnG P w K mg base (L2.CX P w) 2 f fd ["_law_draw", "_law_some"] (spD ⟨K, ca, ce⟩ 2 d__law_pick) :=
fnG (G := ⟨K, ca, ce⟩) (N := ["_law_draw", "_law_some"]) .keep F sc__law_pick fun cdv A outer s H E hr tk po gd =>
(dss_one (ds_ret (de_ixX rfl (units1 hr) (de_var 1) (de_callG c__law_next gd rfl (hr.mono (by omega)) rfl tk (da_cons (de_var 0) (da_cons (de_callB (dc_lenX rfl) rfl T.b_len (by decide +kernel) (da_cons (de_var 1) da_nil)) da_nil)) rfl (la_cons (la_cons la_nil))))))

abbrev s__law_grounds : Stmt := top 33
theorem sc__law_grounds : FnScope ["_law_draw", "_law_names_here", "_law_found", "_law_low", "_law_k", "_law_high"] ["_law_draw", "_law_names_here"] (defScope s__law_grounds) := ⟨rfl, rfl, rfl, by decide +kernel, rfl, by decide +kernel, by decide +kernel⟩
theorem ok__law_grounds {f : Addr} {fd : FuncData} (F : Fun K "_law_grounds" "_law_grounds" s__law_grounds f fd) (T : Txt K mg ca ce w) (c__law_next : DefG ⟨K, ca, ce⟩ P w mg base 1 "_law_next" 2 d__law_next) (c__law_stirred : DefG ⟨K, ca, ce⟩ P w mg base 2 "_law_stirred" 2 d__law_stirred) (c__law_pick : DefG ⟨K, ca, ce⟩ P w mg base 2 "_law_pick" 2 d__law_pick) : FnG P w K mg base (L2.CX P w) 3 f fd ["_law_draw", "_law_names_here"] (spD ⟨K, ca, ce⟩ 2 d__law_grounds) :=
fnG (G := ⟨K, ca, ce⟩) (N := ["_law_draw", "_law_names_here", "_law_found", "_law_low", "_law_k", "_law_high"]) .pure F sc__law_grounds fun cdv A outer s H E hr tk po gd =>
(dss_cons (ds_par (i := 2) (j := 3) rfl sc__law_grounds.nd rfl rfl (by decide) rfl rfl (da_cons (de_lstM da_nil) (da_cons (de_callG c__law_pick gd rfl (hr.mono (by omega)) rfl tk (da_cons (de_var 0) (da_cons (de_lst (da_cons de_int (da_cons de_int (da_cons de_int (da_cons de_int (da_cons de_int da_nil)))))) da_nil)) rfl (la_cons (la_cons la_nil))) da_nil)) (by rfl))
(dss_cons (ds_for po rfl (di_range1 rfl T.b_range (da_cons (de_op (do_add rfl) de_int (de_callG c__law_next gd rfl (hr.mono (by omega)) rfl tk (da_cons (de_var 0) (da_cons de_int da_nil)) rfl (la_cons (la_cons la_nil)))) da_nil)) (dg_name sc__law_grounds.nd rfl (by first | exact Or.inl rfl | exact Or.inr rfl))
(dss_cons (ds_set (i := 3) sc__law_grounds.nd rfl (Or.inl rfl) (de_op (do_add rfl) (de_var 3) (de_callG c__law_next gd rfl (hr.mono (by omega)) rfl tk (da_cons (de_var 0) (da_cons de_int da_nil)) rfl (la_cons (la_cons la_nil)))))
(dss_cons (ds_set (i := 5) sc__law_grounds.nd rfl (Or.inl rfl) (de_op (do_add rfl) (de_var 3) (de_callG c__law_pick gd rfl (hr.mono (by omega)) rfl tk (da_cons (de_var 0) (da_cons (de_lst (da_cons de_int (da_cons de_int (da_cons de_int (da_cons de_int da_nil))))) da_nil)) rfl (la_cons (la_cons la_nil)))))
(dss_cons (ds_expr (de_meth PySem.F.plainAttrs_list PySem.F.slot_list_append PySem.F.type_list_append dm_append rfl (de_var 2) (da_cons (de_tup (da_cons (de_ixX rfl (units1 hr) (de_var 1) (de_var 4)) (da_cons (de_ixX rfl (units1 hr) (de_var 1) (de_op (do_add rfl) de_int (de_callG c__law_next gd rfl (hr.mono (by omega)) rfl tk (da_cons (de_var 0) (da_cons de_int da_nil)) rfl (la_cons (la_cons la_nil))))) (da_cons (de_var 3) (da_cons (de_var 5) da_nil))))) da_nil)))
(dss_one (ds_set (i := 3) sc__law_grounds.nd rfl (Or.inl rfl) (de_op (do_add rfl) (de_var 5) de_int)))))))
(dss_one (ds_ret (de_callG c__law_stirred gd rfl (hr.mono (by omega)) rfl tk (da_cons (de_var 0) (da_cons (de_var 2) da_nil)) rfl (la_cons (la_cons la_nil)))))))

abbrev s__law_token : Stmt := top 34
theorem sc__law_token : FnScope ["_law_draw"] ["_law_draw"] (defScope s__law_token) := ⟨rfl, rfl, rfl, by decide +kernel, rfl, by decide +kernel, by decide +kernel⟩
theorem ok__law_token {f : Addr} {fd : FuncData} (F : Fun K "_law_token" "_law_token" s__law_token f fd) (T : Txt K mg ca ce w) (c__law_next : DefG ⟨K, ca, ce⟩ P w mg base 1 "_law_next" 2 d__law_next) (c__law_pick : DefG ⟨K, ca, ce⟩ P w mg base 2 "_law_pick" 2 d__law_pick) : FnG P w K mg base (L2.CX P w) 3 f fd ["_law_draw"] (spD ⟨K, ca, ce⟩ 1 d__law_token) :=
fnG (G := ⟨K, ca, ce⟩) (N := ["_law_draw"]) .keep F sc__law_token fun cdv A outer s H E hr tk po gd =>
(dss_one (ds_ret (de_callG c__law_pick gd rfl (hr.mono (by omega)) rfl tk (da_cons (de_var 0) (da_cons (de_lst (da_cons de_int (da_cons (de_op do_pow de_int de_int) (da_cons (de_op (do_add rfl) de_int (de_callG c__law_next gd rfl (hr.mono (by omega)) rfl tk (da_cons (de_var 0) (da_cons de_int da_nil)) rfl (la_cons (la_cons la_nil)))) (da_cons (de_op (do_add rfl) de_int (de_callG c__law_next gd rfl (hr.mono (by omega)) rfl tk (da_cons (de_var 0) (da_cons (de_op do_pow de_int de_int) da_nil)) rfl (la_cons (la_cons la_nil)))) da_nil))))) da_nil)) rfl (la_cons (la_cons la_nil)))))

abbrev s__law_some_uses : Stmt := top 38
theorem sc__law_some_uses : FnScope ["_law_draw", "_law_grounds_here", "_law_names_here", "_law_found", "_law_name", "_law_district", "_law_low", "_law_high", "_law_stub", "_law_way", "_law_hour", "_law_row"] ["_law_draw", "_law_grounds_here", "_law_names_here"] (defScope s__law_some_uses) := ⟨rfl, rfl, rfl, by decide +kernel, rfl, by decide +kernel, by decide +kernel⟩
theorem ok__law_some_uses {f : Addr} {fd : FuncData} (F : Fun K "_law_some_uses" "_law_some_uses" s__law_some_uses f fd) (T : Txt K mg ca ce w) (c__law_next : DefG ⟨K, ca, ce⟩ P w mg base 1 "_law_next" 2 d__law_next) (c__law_stirred : DefG ⟨K, ca, ce⟩ P w mg base 2 "_law_stirred" 2 d__law_stirred) (c__law_pick : DefG ⟨K, ca, ce⟩ P w mg base 2 "_law_pick" 2 d__law_pick) (c__law_token : DefG ⟨K, ca, ce⟩ P w mg base 3 "_law_token" 1 d__law_token) : FnG P w K mg base (L2.CX P w) 4 f fd ["_law_draw", "_law_grounds_here", "_law_names_here"] (spD ⟨K, ca, ce⟩ 3 d__law_some_uses) :=
fnG (G := ⟨K, ca, ce⟩) (N := ["_law_draw", "_law_grounds_here", "_law_names_here", "_law_found", "_law_name", "_law_district", "_law_low", "_law_high", "_law_stub", "_law_way", "_law_hour", "_law_row"]) .pure F sc__law_some_uses fun cdv A outer s H E hr tk po gd =>
(dss_cons (ds_set (i := 3) sc__law_some_uses.nd rfl (Or.inl rfl) (de_lstM da_nil))
(dss_cons (ds_for po rfl (di_seq rfl (de_var 1)) (dg_tup rfl rfl (dgs_cons (dg_name sc__law_some_uses.nd rfl (by first | exact Or.inl rfl | exact Or.inr rfl)) (dgs_cons (dg_name sc__law_some_uses.nd rfl (by first | exact Or.inl rfl | exact Or.inr rfl)) (dgs_cons (dg_name sc__law_some_uses.nd rfl (by first | exact Or.inl rfl | exact Or.inr rfl)) (dgs_cons (dg_name sc__law_some_uses.nd rfl (by first | exact Or.inl rfl | exact Or.inr rfl)) dgs_nil)))) (blen_cons (blen_cons (blen_cons (blen_cons blen_nil)))))
(dss_one (ds_for po rfl (di_range2 rfl T.b_range (da_cons (de_var 6) (da_cons (de_op (do_add rfl) (de_var 7) de_int) da_nil))) (dg_name sc__law_some_uses.nd rfl (by first | exact Or.inl rfl | exact Or.inr rfl))
(dss_one (ds_if (dt_cmp do_gt (de_callG c__law_next gd rfl (hr.mono (by omega)) rfl tk (da_cons (de_var 0) (da_cons de_int da_nil)) rfl (la_cons (la_cons la_nil))) de_int)
(dss_cons (ds_set (i := 9) sc__law_some_uses.nd rfl (Or.inl rfl) (de_callG c__law_pick gd rfl (hr.mono (by omega)) rfl tk (da_cons (de_var 0) (da_cons (de_lst (da_cons de_str (da_cons de_str (da_cons de_str (da_cons de_str da_nil))))) da_nil)) rfl (la_cons (la_cons la_nil))))
(dss_cons (ds_set (i := 10) sc__law_some_uses.nd rfl (Or.inl rfl) (de_callG c__law_pick gd rfl (hr.mono (by omega)) rfl tk (da_cons (de_var 0) (da_cons (de_lst (da_cons de_int (da_cons de_int (da_cons de_int (da_cons de_int (da_cons de_int (da_cons de_int (da_cons de_int (da_cons de_int da_nil))))))))) da_nil)) rfl (la_cons (la_cons la_nil))))
(dss_cons (ds_set (i := 11) sc__law_some_uses.nd rfl (Or.inl rfl) (de_tup (da_cons (de_var 8) (da_cons (de_ixX rfl (units1 hr) (de_var 2) (de_op (do_add rfl) de_int (de_callG c__law_next gd rfl (hr.mono (by omega)) rfl tk (da_cons (de_var 0) (da_cons de_int da_nil)) rfl (la_cons (la_cons la_nil))))) (da_cons (de_var 9) (da_cons (de_var 4) (da_cons (de_var 10) (da_cons (de_callG c__law_token gd rfl (hr.mono (by omega)) rfl tk (da_cons (de_var 0) da_nil) rfl (la_cons la_nil)) da_nil))))))))
(dss_one (ds_expr (de_meth PySem.F.plainAttrs_list PySem.F.slot_list_append PySem.F.type_list_append dm_append rfl (de_var 3) (da_cons (de_var 11) da_nil)))))))
dss_nil)))))
(dss_one (ds_ret (de_callG c__law_stirred gd rfl (hr.mono (by omega)) rfl tk (da_cons (de_var 0) (da_cons (de_var 3) da_nil)) rfl (la_cons (la_cons la_nil)))))))

abbrev s_boxes : Stmt := top 26
theorem sc_boxes : FnScope ["places", "uses", "words", "districts", "found", "use", "place", "district"] ["places", "uses", "words"] (defScope s_boxes) := ⟨rfl, rfl, rfl, by decide +kernel, rfl, by decide +kernel, by decide +kernel⟩
theorem ok_boxes {f : Addr} {fd : FuncData} (F : Fun K "boxes" "boxes" s_boxes f fd) (T : Txt K mg ca ce w)  : FnG P w K mg base (L2.CX P w) 1 f fd ["places", "uses", "words"] (spD ⟨K, ca, ce⟩ 3 d_boxes) :=
fnG (G := ⟨K, ca, ce⟩) (N := ["places", "uses", "words", "districts", "found", "use", "place", "district"]) .keep F sc_boxes fun cdv A outer s H E hr tk po gd =>
(dss_cons (ds_setDc (own := [("place", 6)]) (i := 3) rfl sc_boxes.nd (di_seq rfl (de_var 0)) (blkOk_by (N := ["places", "uses", "words", "districts", "found", "use", "place", "district"]) (sc := defScope s_boxes) (own := [("place", 6)]) (by decide +kernel)) (fun _ _ _ _ _ => (dg_name sc_boxes.nd rfl (by first | exact Or.inl rfl | exact Or.inr rfl))) (fun _ _ _ _ _ => dts_nil) (fun _ _ _ _ _ => (de_fldC rfl T.fl_name (de_var 6))) (fun _ _ _ _ _ => (de_fldC rfl T.fl_district (de_var 6))) (by decide) rfl rfl (sw_trueD rfl rfl rfl (by decide +kernel)))
(dss_cons (ds_set (i := 4) sc_boxes.nd rfl (Or.inr rfl) de_dic0M)
(dss_cons (ds_for po rfl (di_seq rfl (de_var 1)) (dg_name sc_boxes.nd rfl (by first | exact Or.inl rfl | exact Or.inr rfl))
(dss_one (ds_if (dt_cmp (do_eq rfl (units100 hr)) (de_ixX rfl (units1 hr) (de_var 2) (de_ixX rfl (units1 hr) (de_var 5) de_int)) de_str)
(dss_one (ds_expr (de_meth PySem.F.plainAttrs_list PySem.F.slot_list_append PySem.F.type_list_append dm_append rfl (de_setd (de_var 4) (de_ixX rfl (units1 hr) (de_var 3) (de_ixX rfl (units1 hr) (de_var 5) de_int)) (de_lstM da_nil)) (da_cons (de_ixX rfl (units1 hr) (de_var 5) de_int) da_nil))))
dss_nil)))
(dss_one (ds_ret (de_dc (own := [("district", 7)]) rfl sc_boxes.nd (di_seq rfl (de_callB (dc_sortedD rfl rfl) rfl T.b_sorted (by decide +kernel) (da_cons (de_var 4) da_nil))) (blkOk_by (N := ["places", "uses", "words", "districts", "found", "use", "place", "district"]) (sc := defScope s_boxes) (own := [("district", 7)]) (by decide +kernel)) (fun _ _ _ _ _ => (dg_name sc_boxes.nd rfl (by first | exact Or.inl rfl | exact Or.inr rfl))) (fun _ _ _ _ _ => dts_nil) (fun _ _ _ _ _ => (de_var 7)) (fun _ _ _ _ _ => (de_callB (dc_sortedM rfl) rfl T.b_sorted (by decide +kernel) (da_cons (de_ixX rfl (units1 hr) (de_var 4) (de_var 7)) da_nil))) (by decide)))))))

abbrev s__law_whole : Stmt := top 36
theorem sc__law_whole : FnScope ["_law_thing"] ["_law_thing"] (defScope s__law_whole) := ⟨rfl, rfl, rfl, by decide +kernel, rfl, by decide +kernel, by decide +kernel⟩
theorem ok__law_whole {f : Addr} {fd : FuncData} (F : Fun K "_law_whole" "_law_whole" s__law_whole f fd) (T : Txt K mg ca ce w)  : FnG P w K mg base (L2.CX P w) 1 f fd ["_law_thing"] (spD ⟨K, ca, ce⟩ 1 d__law_whole) :=
fnG (G := ⟨K, ca, ce⟩) (N := ["_law_thing"]) .pure F sc__law_whole fun cdv A outer s H E hr tk po gd =>
(dss_one (ds_ret (de_and (de_isC rfl T.own T.is_int (cn_ty rfl T.b_int (by decide +kernel)) rfl T.b_isinstance (de_var 0)) (de_one (de_not (de_isC rfl T.own T.is_bool (cn_ty rfl T.b_bool (by decide +kernel)) rfl T.b_isinstance (de_var 0)))))))

abbrev s__law_alike : Stmt := top 37
theorem sc__law_alike : FnScope ["_law_told", "_law_due", "_law_k"] ["_law_told", "_law_due"] (defScope s__law_alike) := ⟨rfl, rfl, rfl, by decide +kernel, rfl, by decide +kernel, by decide +kernel⟩
theorem ok__law_alike {f : Addr} {fd : FuncData} (F : Fun K "_law_alike" "_law_alike" s__law_alike f fd) (T : Txt K mg ca ce w) (hm : mg "_law_alike" = some (.ref f)) (hk : PySem.W.keepIn K (.ref f) = true) (hb : Binds K fd ["_law_told", "_law_due"] []) (c__law_whole : DefG ⟨K, ca, ce⟩ P w mg base 1 "_law_whole" 1 d__law_whole) : ∀ n : Nat, FnG P w K mg base (L2.CX P w) (n + 2) f fd ["_law_told", "_law_due"] (spD ⟨K, ca, ce⟩ 2 (d__law_alike_n n))
  | 0 => fnG (G := ⟨K, ca, ce⟩) (N := ["_law_told", "_law_due", "_law_k"]) (k := 1) .pure F sc__law_alike fun cdv A outer s H E hr tk po gd => dss_nev
  | n + 1 => by
    have c__law_alike : DefG ⟨K, ca, ce⟩ P w mg base (n + 2) "_law_alike" 2 (d__law_alike_n n) := ⟨⟨f, fd, ["_law_told", "_law_due"], ok__law_alike F T hm hk hb c__law_whole n, hm, hk, hb⟩⟩
    exact fnG (G := ⟨K, ca, ce⟩) (N := ["_law_told", "_law_due", "_law_k"]) (k := n + 2) .pure F sc__law_alike fun cdv A outer s H E hr tk po gd =>
(dss_cons (ds_if (dt_val (de_isCs rfl T.own (CNames.cons (cn_ty rfl T.b_list (by decide +kernel)) T.is_list (CNames.cons (cn_ty rfl T.b_tuple (by decide +kernel)) T.is_tuple CNames.nil)) (by decide) rfl T.b_isinstance (de_var 1)))
(dss_cons (ds_if (DW.t (dw_or (dt_cmp (do_ne rfl (units100 hr)) (de_isC rfl T.own T.is_list (cn_ty rfl T.b_list (by decide +kernel)) rfl T.b_isinstance (de_var 0)) (de_isC rfl T.own T.is_list (cn_ty rfl T.b_list (by decide +kernel)) rfl T.b_isinstance (de_var 1))) (dw_or1 (dt_cmp (do_ne rfl (units100 hr)) (de_isC rfl T.own T.is_tuple (cn_ty rfl T.b_tuple (by decide +kernel)) rfl T.b_isinstance (de_var 0)) (de_isC rfl T.own T.is_tuple (cn_ty rfl T.b_tuple (by decide +kernel)) rfl T.b_isinstance (de_var 1))))))
(dss_one (ds_ret de_bl))
dss_nil)
(dss_cons (ds_if (dt_cmp (do_ne rfl (units100 hr)) (de_callB (dc_lenX rfl) rfl T.b_len (by decide +kernel) (da_cons (de_var 0) da_nil)) (de_callB (dc_lenX rfl) rfl T.b_len (by decide +kernel) (da_cons (de_var 1) da_nil)))
(dss_one (ds_ret de_bl))
dss_nil)
(dss_one (ds_ret (de_cmp (do_eq rfl (units100 hr)) (de_lc (own := [("_law_k", 2)]) rfl sc__law_alike.nd (di_range1 rfl T.b_range (da_cons (de_callB (dc_lenX rfl) rfl T.b_len (by decide +kernel) (da_cons (de_var 1) da_nil)) da_nil)) (blkOk_by (N := ["_law_told", "_law_due", "_law_k"]) (sc := defScope s__law_alike) (own := [("_law_k", 2)]) (by decide +kernel)) (fun _ _ _ _ _ => (dg_name sc__law_alike.nd rfl (by first | exact Or.inl rfl | exact Or.inr rfl))) (fun _ _ _ _ _ => (dts_one (dt_not (dt_val (de_callG c__law_alike gd rfl (hr.mono (by omega)) rfl takes0 (da_cons (de_ixX rfl (units1 hr) (de_var 0) (de_var 2)) (da_cons (de_ixX rfl (units1 hr) (de_var 1) (de_var 2)) da_nil)) rfl (la_cons (la_cons la_nil))))))) (fun _ _ _ _ _ => (de_var 2)) (by decide)) (de_lst da_nil))))))
dss_nil)
(dss_cons (ds_if (dt_val (de_isC rfl T.own T.is_dict (cn_ty rfl T.b_dict (by decide +kernel)) rfl T.b_isinstance (de_var 1)))
(dss_one (ds_ret (de_and (de_isC rfl T.own T.is_dict (cn_ty rfl T.b_dict (by decide +kernel)) rfl T.b_isinstance (de_var 0)) (de_one (de_callG c__law_alike gd rfl (hr.mono (by omega)) rfl tk (da_cons (de_listItems rfl rfl T.b_list (by decide +kernel) (de_var 0)) (da_cons (de_listItems rfl rfl T.b_list (by decide +kernel) (de_var 1)) da_nil)) rfl (la_cons (la_cons la_nil)))))))
dss_nil)
(dss_cons (ds_if (dt_cmp do_isN (de_var 1) de_non)
(dss_one (ds_ret (de_cmp do_isN (de_var 0) de_non)))
dss_nil)
(dss_cons (ds_if (dt_val (de_isC rfl T.own T.is_bool (cn_ty rfl T.b_bool (by decide +kernel)) rfl T.b_isinstance (de_var 1)))
(dss_one (ds_ret (de_and (de_isC rfl T.own T.is_bool (cn_ty rfl T.b_bool (by decide +kernel)) rfl T.b_isinstance (de_var 0)) (de_one (de_cmp (do_eq rfl (units100 hr)) (de_var 0) (de_var 1))))))
dss_nil)
(dss_cons (ds_if (dt_val (de_isC rfl T.own T.is_int (cn_ty rfl T.b_int (by decide +kernel)) rfl T.b_isinstance (de_var 1)))
(dss_one (ds_ret (de_and (de_callG c__law_whole gd rfl (hr.mono (by omega)) rfl tk (da_cons (de_var 0) da_nil) rfl (la_cons la_nil)) (de_one (de_cmp (do_eq rfl (units100 hr)) (de_var 0) (de_var 1))))))
dss_nil)
(dss_one (ds_ret (de_and (de_isC rfl T.own T.is_str (cn_ty rfl T.b_str (by decide +kernel)) rfl T.b_isinstance (de_var 0)) (de_one (de_cmp (do_eq rfl (units100 hr)) (de_var 0) (de_var 1)))))))))))

abbrev s_is_whole : Stmt := top 14
theorem sc_is_whole : FnScope ["thing"] ["thing"] (defScope s_is_whole) := ⟨rfl, rfl, rfl, by decide +kernel, rfl, by decide +kernel, by decide +kernel⟩
theorem ok_is_whole {f : Addr} {fd : FuncData} (F : Fun K "is_whole" "is_whole" s_is_whole f fd) (T : Txt K mg ca ce w)  : FnG P w K mg base (L2.CX P w) 1 f fd ["thing"] (spD ⟨K, ca, ce⟩ 1 d_is_whole) :=
fnG (G := ⟨K, ca, ce⟩) (N := ["thing"]) .pure F sc_is_whole fun cdv A outer s H E hr tk po gd =>
(dss_one (ds_ret (de_and (de_isC rfl T.own T.is_int (cn_ty rfl T.b_int (by decide +kernel)) rfl T.b_isinstance (de_var 0)) (de_one (de_not (de_isC rfl T.own T.is_bool (cn_ty rfl T.b_bool (by decide +kernel)) rfl T.b_isinstance (de_var 0)))))))

abbrev s_is_between : Stmt := top 15
theorem sc_is_between : FnScope ["thing", "least", "most"] ["thing", "least", "most"] (defScope s_is_between) := ⟨rfl, rfl, rfl, by decide +kernel, rfl, by decide +kernel, by decide +kernel⟩
theorem ok_is_between {f : Addr} {fd : FuncData} (F : Fun K "is_between" "is_between" s_is_between f fd) (T : Txt K mg ca ce w) (c_is_whole : DefG ⟨K, ca, ce⟩ P w mg base 1 "is_whole" 1 d_is_whole) : FnG P w K mg base (L2.CX P w) 2 f fd ["thing", "least", "most"] (spD ⟨K, ca, ce⟩ 3 d_is_between) :=
fnG (G := ⟨K, ca, ce⟩) (N := ["thing", "least", "most"]) .pure F sc_is_between fun cdv A outer s H E hr tk po gd =>
(dss_one (ds_ret (de_and (de_callG c_is_whole gd rfl (hr.mono (by omega)) rfl tk (da_cons (de_var 0) da_nil) rfl (la_cons la_nil)) (de_one (de_chain do_le do_le (de_var 1) (de_var 0) (de_var 2))))))

abbrev s_is_name : Stmt := top 13
theorem sc_is_name : FnScope ["thing", "sign"] ["thing"] (defScope s_is_name) := ⟨rfl, rfl, rfl, by decide +kernel, rfl, by decide +kernel, by decide +kernel⟩
theorem ok_is_name {f : Addr} {fd : FuncData} (F : Fun K "is_name" "is_name" s_is_name f fd) (T : Txt K mg ca ce w)  : FnG P w K mg base (L2.CX P w) 1 f fd ["thing"] (spD ⟨K, ca, ce⟩ 1 d_is_name) :=
fnG (G := ⟨K, ca, ce⟩) (N := ["thing", "sign"]) .pure F sc_is_name fun cdv A outer s H E hr tk po gd =>
(dss_cons (ds_if (DW.t (dw_or (dt_not (dt_val (de_isC rfl T.own T.is_str (cn_ty rfl T.b_str (by decide +kernel)) rfl T.b_isinstance (de_var 0)))) (dw_or1 (dt_not (dt_chain do_le do_le de_int (de_callB (dc_lenX rfl) rfl T.b_len (by decide +kernel) (da_cons (de_var 0) da_nil)) (de_gInt T.g_MOST_LETTERS rfl))))))
(dss_one (ds_ret de_bl))
dss_nil)
(dss_one (ds_ret (de_callB (dc_all rfl rfl) rfl T.b_all (by decide +kernel) (da_cons (de_lc (own := [("sign", 1)]) rfl sc_is_name.nd (di_seq rfl (de_var 0)) (blkOk_by (N := ["thing", "sign"]) (sc := defScope s_is_name) (own := [("sign", 1)]) (by decide +kernel)) (fun _ _ _ _ _ => (dg_name sc_is_name.nd rfl (by first | exact Or.inl rfl | exact Or.inr rfl))) (fun _ _ _ _ _ => dts_nil) (fun _ _ _ _ _ => (de_cmp (do_in rfl (units65 hr)) (de_var 1) (de_gStr T.g_LETTERS rfl))) (by decide)) da_nil)))))

abbrev s_Place_init : Stmt := inClass (top 24) 0
theorem sc_Place_init : FnScope ["self", "name", "district", "first", "last"] ["self", "name", "district", "first", "last"] (defScope s_Place_init) := ⟨rfl, rfl, rfl, by decide +kernel, rfl, by decide +kernel, by decide +kernel⟩
theorem ok_Place_init {f : Addr} {fd : FuncData} (F : Fun K "__init__" "Place.__init__" s_Place_init f fd) (T : Txt K mg ca ce w) (c_is_between : DefG ⟨K, ca, ce⟩ P w mg base 2 "is_between" 3 d_is_between) (c_is_name : DefG ⟨K, ca, ce⟩ P w mg base 1 "is_name" 1 d_is_name) : FnG P w K mg base (L2.CX P w) 3 f fd ["self", "name", "district", "first", "last"] (spD ⟨K, ca, ce⟩ 5 d_Place_init) :=
fnG (G := ⟨K, ca, ce⟩) (N := ["self", "name", "district", "first", "last"]) .pure F sc_Place_init fun cdv A outer s H E hr tk po gd =>
(dss_cons (ds_if (DW.t (dw_or (dt_not (dt_val (de_callG c_is_name gd rfl (hr.mono (by omega)) rfl tk (da_cons (de_var 1) da_nil) rfl (la_cons la_nil)))) (dw_or (dt_not (dt_val (de_callG c_is_name gd rfl (hr.mono (by omega)) rfl tk (da_cons (de_var 2) da_nil) rfl (la_cons la_nil)))) (dw_or1 (dt_not (dt_val (de_callG c_is_between gd rfl (hr.mono (by omega)) rfl tk (da_cons (de_var 4) (da_cons de_int (da_cons (de_gInt T.g_GREATEST_STUB rfl) da_nil))) rfl (la_cons (la_cons (la_cons la_nil))))))))))
(dss_one (ds_raise rfl rfl tk T.x_NoPlace (by rfl)))
dss_nil)
(dss_cons (ds_if (dt_not (dt_val (de_callG c_is_between gd rfl (hr.mono (by omega)) rfl tk (da_cons (de_var 3) (da_cons de_int (da_cons (de_var 4) da_nil))) rfl (la_cons (la_cons (la_cons la_nil))))))
(dss_one (ds_raise rfl rfl tk T.x_NoPlace (by rfl)))
dss_nil)
(dss_cons (ds_fldC rfl T.fl_name (de_var 1) (de_var 0))
(dss_cons (ds_fldC rfl T.fl_district (de_var 2) (de_var 0))
(dss_cons (ds_fldC rfl T.fl_first (de_var 3) (de_var 0))
(dss_cons (ds_fldC rfl T.fl_last (de_var 4) (de_var 0))
(dss_cons (ds_fldC rfl T.fl_sent (de_lst da_nil) (de_var 0))
(dss_cons (ds_fldC rfl T.fl_is_over de_bl (de_var 0))
(dss_one (ds_fldC rfl T.fl_ended de_non (de_var 0)))))))))))

abbrev s__law_made : Stmt := top 35
theorem sc__law_made : FnScope ["_law_grounds_here", "_law_name", "_law_district", "_law_low", "_law_high"] ["_law_grounds_here"] (defScope s__law_made) := ⟨rfl, rfl, rfl, by decide +kernel, rfl, by decide +kernel, by decide +kernel⟩
theorem ok__law_made {f : Addr} {fd : FuncData} (F : Fun K "_law_made" "_law_made" s__law_made f fd) (T : Txt K mg ca ce w) (c_Place__mk4_ : ClsG ⟨K, ca, ce⟩ P w mg base 3 "Place" 4 d_Place_init) : FnG P w K mg base (L2.CX P w) 5 f fd ["_law_grounds_here"] (spD ⟨K, ca, ce⟩ 1 d__law_made) :=
fnG (G := ⟨K, ca, ce⟩) (N := ["_law_grounds_here", "_law_name", "_law_district", "_law_low", "_law_high"]) .pure F sc__law_made fun cdv A outer s H E hr tk po gd =>
(dss_one (ds_ret (de_lc (own := [("_law_name", 1), ("_law_district", 2), ("_law_low", 3), ("_law_high", 4)]) rfl sc__law_made.nd (di_seq rfl (de_var 0)) (blkOk_by (N := ["_law_grounds_here", "_law_name", "_law_district", "_law_low", "_law_high"]) (sc := defScope s__law_made) (own := [("_law_name", 1), ("_law_district", 2), ("_law_low", 3), ("_law_high", 4)]) (by decide +kernel)) (fun _ _ _ _ _ => (dg_tup rfl rfl (dgs_cons (dg_name sc__law_made.nd rfl (by first | exact Or.inl rfl | exact Or.inr rfl)) (dgs_cons (dg_name sc__law_made.nd rfl (by first | exact Or.inl rfl | exact Or.inr rfl)) (dgs_cons (dg_name sc__law_made.nd rfl (by first | exact Or.inl rfl | exact Or.inr rfl)) (dgs_cons (dg_name sc__law_made.nd rfl (by first | exact Or.inl rfl | exact Or.inr rfl)) dgs_nil)))) (blen_cons (blen_cons (blen_cons (blen_cons blen_nil)))))) (fun _ _ _ _ _ => dts_nil) (fun _ _ _ _ _ => (de_make c_Place__mk4_ gd rfl (hr.mono (by omega)) rfl takes0 (da_cons (de_var 1) (da_cons (de_var 2) (da_cons (de_var 3) (da_cons (de_var 4) da_nil)))) rfl (la_cons (la_cons (la_cons (la_cons la_nil)))))) (by decide))))

abbrev s_law : Stmt := top 39
theorem sc_law : FnScope ["_law_script", "_law_k", "_law_cell", "_law_draw", "_law_names_here", "_law_grounds_here", "_law_uses", "_law_due", "_law_some", "_law_words", "_law_use", "_law_district", "_law_spots", "_law_stubs", "_law_kept", "_law_told", "_law_ground", "_law_stub"] ["_law_script"] (defScope s_law) := ⟨rfl, rfl, rfl, by decide +kernel, rfl, by decide +kernel, by decide +kernel⟩
theorem ok_law {f : Addr} {fd : FuncData} (F : Fun K "law" "law" s_law f fd) (T : Txt K mg ca ce w) (c__law_begun : DefG ⟨K, ca, ce⟩ P w mg base 1 "_law_begun" 2 d__law_begun) (c__law_names : DefG ⟨K, ca, ce⟩ P w mg base 2 "_law_names" 1 d__law_names) (c__law_pick : DefG ⟨K, ca, ce⟩ P w mg base 2 "_law_pick" 2 d__law_pick) (c__law_grounds : DefG ⟨K, ca, ce⟩ P w mg base 3 "_law_grounds" 2 d__law_grounds) (c__law_some_uses : DefG ⟨K, ca, ce⟩ P w mg base 4 "_law_some_uses" 3 d__law_some_uses) (c_boxes : DefG ⟨K, ca, ce⟩ P w mg base 1 "boxes" 3 d_boxes) (c__law_alike : DefG ⟨K, ca, ce⟩ P w mg base 14 "_law_alike" 2 d__law_alike) (c__law_made : DefG ⟨K, ca, ce⟩ P w mg base 5 "_law_made" 1 d__law_made) : FnG P w K mg base (L2.CX P w) 15 f fd ["_law_script"] (spD ⟨K, ca, ce⟩ 1 d_law) :=
fnG (G := ⟨K, ca, ce⟩) (N := ["_law_script", "_law_k", "_law_cell", "_law_draw", "_law_names_here", "_law_grounds_here", "_law_uses", "_law_due", "_law_some", "_law_words", "_law_use", "_law_district", "_law_spots", "_law_stubs", "_law_kept", "_law_told", "_law_ground", "_law_stub"]) .pure F sc_law fun cdv A outer s H E hr tk po gd =>
(dss_cons (ds_for po rfl (di_enumX rfl rfl T.b_enumerate (da_cons (de_slice rfl (de_op (do_add rfl) (de_var 0) (de_lst (da_cons de_int da_nil))) do_none (do_some (de_callB (dc_max2 rfl) rfl T.b_max (by decide +kernel) (da_cons de_int (da_cons (de_callB (dc_min2 rfl) rfl T.b_min (by decide +kernel) (da_cons de_int (da_cons (de_callB (dc_lenX rfl) rfl T.b_len (by decide +kernel) (da_cons (de_var 0) da_nil)) da_nil))) da_nil))))) da_nil)) (dg_tup rfl rfl (dgs_cons (dg_name sc_law.nd rfl (by first | exact Or.inl rfl | exact Or.inr rfl)) (dgs_cons (dg_name sc_law.nd rfl (by first | exact Or.inl rfl | exact Or.inr rfl)) dgs_nil)) (blen_cons (blen_cons blen_nil)))
(dss_scope (dss_cons (ds_set (i := 3) sc_law.nd rfl (Or.inl rfl) (de_callG c__law_begun gd rfl (hr.mono (by omega)) rfl tk (da_cons (de_var 2) (da_cons (de_var 1) da_nil)) rfl (la_cons (la_cons la_nil))))
(dss_cons (ds_set (i := 4) sc_law.nd rfl (Or.inl rfl) (de_callG c__law_names gd rfl (hr.mono (by omega)) rfl tk (da_cons (de_var 3) da_nil) rfl (la_cons la_nil)))
(dss_cons (ds_set (i := 5) sc_law.nd rfl (Or.inl rfl) (de_callG c__law_grounds gd rfl (hr.mono (by omega)) rfl tk (da_cons (de_var 3) (da_cons (de_var 4) da_nil)) rfl (la_cons (la_cons la_nil))))
(dss_pre4 (dss_cons (ds_par (i := 6) (j := 7) rfl sc_law.nd rfl rfl (by decide) rfl rfl (da_cons (de_callG c__law_some_uses gd rfl (hr.mono (by omega)) rfl tk (da_cons (de_var 3) (da_cons (de_var 5) (da_cons (de_var 4) da_nil))) rfl (la_cons (la_cons (la_cons la_nil)))) (da_cons de_dic0M da_nil)) (by rfl))
(dss_cons (ds_asg (de_tup (da_cons (de_callG c__law_pick gd rfl (hr.mono (by omega)) rfl tk (da_cons (de_var 3) (da_cons (de_lst (da_cons (de_lst (da_cons de_str (da_cons de_str (da_cons de_str da_nil)))) (da_cons (de_lst (da_cons de_str da_nil)) (da_cons (de_lst (da_cons de_str (da_cons de_str da_nil))) da_nil)))) da_nil)) rfl (la_cons (la_cons la_nil))) (da_cons de_dic0M da_nil))) (dg_tup rfl rfl (dgs_cons (dg_name sc_law.nd rfl (by first | exact Or.inl rfl | exact Or.inr rfl)) (dgs_cons (dg_name sc_law.nd rfl (by first | exact Or.inl rfl | exact Or.inr rfl)) dgs_nil)) (blen_cons (blen_cons blen_nil))))
(dss_cons (ds_for po rfl (di_seq rfl (de_var 6)) (dg_name sc_law.nd rfl (by first | exact Or.inl rfl | exact Or.inr rfl))
(dss_one (ds_putX (units1 hr) (de_callG c__law_pick gd rfl (hr.mono (by omega)) rfl tk (da_cons (de_var 3) (da_cons (de_var 8) da_nil)) rfl (la_cons (la_cons la_nil))) (de_var 9) (de_ixX rfl (units1 hr) (de_var 10) de_int))))
(dss_one (ds_for po rfl (di_seq rfl (de_sortSet rfl rfl rfl T.b_sorted rfl T.b_set (de_lc (own := [("_law_ground", 16)]) rfl sc_law.nd (di_seq rfl (de_var 5)) (blkOk_by (N := ["_law_script", "_law_k", "_law_cell", "_law_draw", "_law_names_here", "_law_grounds_here", "_law_uses", "_law_due", "_law_some", "_law_words", "_law_use", "_law_district", "_law_spots", "_law_stubs", "_law_kept", "_law_told", "_law_ground", "_law_stub"]) (sc := defScope s_law) (own := [("_law_ground", 16)]) (by decide +kernel)) (fun _ _ _ _ _ => (dg_name sc_law.nd rfl (by first | exact Or.inl rfl | exact Or.inr rfl))) (fun _ _ _ _ _ => dts_nil) (fun _ _ _ _ _ => (de_ixX rfl (units1 hr) (de_var 16) de_int)) (by decide)))) (dg_name sc_law.nd rfl (by first | exact Or.inl rfl | exact Or.inr rfl))
(dss_cons (ds_set (i := 12) sc_law.nd rfl (Or.inr rfl) (de_lc (own := [("_law_ground", 16)]) rfl sc_law.nd (di_seq rfl (de_var 5)) (blkOk_by (N := ["_law_script", "_law_k", "_law_cell", "_law_draw", "_law_names_here", "_law_grounds_here", "_law_uses", "_law_due", "_law_some", "_law_words", "_law_use", "_law_district", "_law_spots", "_law_stubs", "_law_kept", "_law_told", "_law_ground", "_law_stub"]) (sc := defScope s_law) (own := [("_law_ground", 16)]) (by decide +kernel)) (fun _ _ _ _ _ => (dg_name sc_law.nd rfl (by first | exact Or.inl rfl | exact Or.inr rfl))) (fun _ _ _ _ _ => (dts_one (dt_cmp (do_eq rfl (units100 hr)) (de_ixX rfl (units1 hr) (de_var 16) de_int) (de_var 11)))) (fun _ _ _ _ _ => (de_ixX rfl (units1 hr) (de_var 16) de_int)) (by decide)))
(dss_cons (ds_set (i := 13) sc_law.nd rfl (Or.inl rfl) (de_callB (dc_sortedX rfl rfl) rfl T.b_sorted (by decide +kernel) (da_cons (de_lc (own := [("_law_use", 10)]) rfl sc_law.nd (di_seq rfl (de_var 6)) (blkOk_by (N := ["_law_script", "_law_k", "_law_cell", "_law_draw", "_law_names_here", "_law_grounds_here", "_law_uses", "_law_due", "_law_some", "_law_words", "_law_use", "_law_district", "_law_spots", "_law_stubs", "_law_kept", "_law_told", "_law_ground", "_law_stub"]) (sc := defScope s_law) (own := [("_law_use", 10)]) (by decide +kernel)) (fun _ _ _ _ _ => (dg_name sc_law.nd rfl (by first | exact Or.inl rfl | exact Or.inr rfl))) (fun _ _ _ _ _ => (dts_one (dt_cmp (do_in rfl (units65 hr)) (de_ixX rfl (units1 hr) (de_var 10) de_int) (de_var 12)))) (fun _ _ _ _ _ => (de_ixX rfl (units1 hr) (de_var 10) de_int)) (by decide)) da_nil)))
(dss_cons (ds_setLc (own := [("_law_stub", 17)]) (i := 13) rfl sc_law.nd (di_seq rfl (de_var 13)) (blkOk_by (N := ["_law_script", "_law_k", "_law_cell", "_law_draw", "_law_names_here", "_law_grounds_here", "_law_uses", "_law_due", "_law_some", "_law_words", "_law_use", "_law_district", "_law_spots", "_law_stubs", "_law_kept", "_law_told", "_law_ground", "_law_stub"]) (sc := defScope s_law) (own := [("_law_stub", 17)]) (by decide +kernel)) (fun _ _ _ _ _ => (dg_name sc_law.nd rfl (by first | exact Or.inl rfl | exact Or.inr rfl))) (fun _ _ _ _ _ => (dts_one (dt_cmp (do_eq rfl (units100 hr)) (de_ixX rfl (units1 hr) (de_var 9) (de_var 17)) de_str))) (fun _ _ _ _ _ => (de_var 17)) (by decide) rfl rfl (sw_true rfl rfl rfl (by decide +kernel)))
(dss_one (ds_if (dt_cmp (do_ne rfl (units100 hr)) (de_var 13) (de_lst da_nil))
(dss_one (ds_putX (units1 hr) (de_var 13) (de_var 7) (de_var 11)))
dss_nil))))))))))
(dss_pre3 (dss_cons (ds_par (i := 14) (j := 15) rfl sc_law.nd rfl rfl (by decide) rfl rfl (da_cons (de_callTy (dc_dictX rfl rfl) rfl T.b_dict (by decide +kernel) (da_cons (de_var 9) da_nil)) (da_cons (de_callG c_boxes gd rfl (hr.mono (by omega)) rfl tk (da_cons (de_callG c__law_made gd rfl (hr.mono (by omega)) rfl tk (da_cons (de_var 5) da_nil) rfl (la_cons la_nil)) (da_cons (de_var 6) (da_cons (de_var 9) da_nil))) rfl (la_cons (la_cons (la_cons la_nil)))) da_nil)) (by rfl))
(dss_cons (ds_if (DW.t (dw_or (dt_not (dt_val (de_callG c__law_alike gd rfl (hr.mono (by omega)) rfl tk (da_cons (de_var 15) (da_cons (de_var 7) da_nil)) rfl (la_cons (la_cons la_nil))))) (dw_or1 (dt_cmp (do_ne rfl (units100 hr)) (de_var 9) (de_var 14)))))
(dss_one (ds_ret de_bl))
dss_nil)
(dss_one (ds_for po rfl (di_any rfl (de_var 15)) (dg_name sc_law.nd rfl (by first | exact Or.inl rfl | exact Or.inr rfl))
(dss_one (ds_expr (de_meth PySem.F.plainAttrs_list PySem.F.slot_list_append PySem.F.type_list_append dm_append rfl (de_ixX rfl (units1 hr) (de_var 15) (de_var 11)) (da_cons (de_neg de_int) da_nil))))))))
(dss_one (ds_if (dt_not (dt_val (de_callG c__law_alike gd rfl (hr.mono (by omega)) rfl tk (da_cons (de_callG c_boxes gd rfl (hr.mono (by omega)) rfl tk (da_cons (de_callTy (dc_tuple rfl) rfl T.b_tuple (by decide +kernel) (da_cons (de_callG c__law_made gd rfl (hr.mono (by omega)) rfl tk (da_cons (de_var 5) da_nil) rfl (la_cons la_nil)) da_nil)) (da_cons (de_callTy (dc_tuple rfl) rfl T.b_tuple (by decide +kernel) (da_cons (de_var 6) da_nil)) (da_cons (de_var 9) da_nil))) rfl (la_cons (la_cons (la_cons la_nil)))) (da_cons (de_var 7) da_nil)) rfl (la_cons (la_cons la_nil)))))
(dss_one (ds_ret de_bl))
dss_nil)))))))))
(dss_one (ds_ret de_bl)))
end
end DS.K20
end
section
namespace DS.K20
open PySem L2  
open DL
theorem all_mk {l : PySem.W.OpenLaw} {w : World} {K : PySem.W.Frag} {h : Heap} {mg : Str → Option Value} (X : K.In h) (G : h.Ns mainGlobals mg) {fa C1 f1 f2 f3 f4 f5 f6 f7 f8 f9 f10 f11 f12 f13 f14 f15 f16 f17 X_NoPlace : Addr} {od1 an1 od2 an2 od3 an3 od4 an4 od5 an5 od6 an6 od7 an7 od8 an8 od9 an9 od10 an10 od11 an11 od12 an12 od13 an13 od14 an14 od15 an15 od16 an16 od17 an17 : Option Addr} {sl1 sl2 sl3 sl4 sl5 sl6 sl7 sl8 sl9 sl10 sl11 sl12 sl13 sl14 sl15 sl16 sl17 : Array (Option Value)} {oc1 dc1 pm1 cd1 ct1 kV1 oc2 dc2 pm2 cd2 ct2 kV2 oc3 dc3 pm3 cd3 ct3 kV3 oc4 dc4 pm4 cd4 ct4 kV4 oc5 dc5 pm5 cd5 ct5 kV5 oc6 dc6 pm6 cd6 ct6 kV6 oc7 dc7 pm7 cd7 ct7 kV7 oc8 dc8 pm8 cd8 ct8 kV8 oc9 dc9 pm9 cd9 ct9 kV9 oc10 dc10 pm10 cd10 ct10 kV10 oc11 dc11 pm11 cd11 ct11 kV11 oc12 dc12 pm12 cd12 ct12 kV12 oc13 dc13 pm13 cd13 ct13 kV13 oc14 dc14 pm14 cd14 ct14 kV14 oc15 dc15 pm15 cd15 ct15 kV15 oc16 dc16 pm16 cd16 ct16 kV16 oc17 dc17 pm17 cd17 ct17 kV17 : Value} {t_GREATEST_STUB t_LETTERS t_MOST_LETTERS : Tok} (hfa : mg "law" = some (.ref fa))
    (A1 : PySem.W.nsIn K mainGlobals "Place" = some (some (.ref C1)))
    (pg1 : PySem.W.plainGet K C1 Str.empty = true)
    (hd1 : PySem.W.hasDictIn K C1 = true)
    (po1 : PySem.W.plainOver K C1 = true)
    (sa1 : PySem.W.findIn K (.ref C1) "__setattr__" = some (some (.builtin "object.__setattr__")))
    (ha1 : PySem.W.findIn K (.ref C1) "__class__" = some (some (.builtin "object.__class__")))
    (hn1 : PySem.W.specialIn K (.builtin "object.__class__") "__get__" = some (some (.builtin "getset_descriptor.__get__")))
    (ht1 : PySem.W.takesIn K (.builtin "object.__class__") = some true)
    (hm1 : PySem.W.mroIn K C1 (.type "object") = some true)
    (ic1 : PySem.W.isClsIn K C1 = true)
    (tc1 : PySem.W.typeIn K (.ref C1) = some (.type "type"))
    (n1_district : PySem.W.findIn K (.ref C1) "district" = some none)
    (n1_ended : PySem.W.findIn K (.ref C1) "ended" = some none)
    (n1_first : PySem.W.findIn K (.ref C1) "first" = some none)
    (n1_is_over : PySem.W.findIn K (.ref C1) "is_over" = some none)
    (n1_last : PySem.W.findIn K (.ref C1) "last" = some none)
    (n1_name : PySem.W.findIn K (.ref C1) "name" = some none)
    (n1_sent : PySem.W.findIn K (.ref C1) "sent" = some none)
    (m1_bool : PySem.W.mroIn K C1 (.type "bool") = some false)
    (m1_dict : PySem.W.mroIn K C1 (.type "dict") = some false)
    (m1_int : PySem.W.mroIn K C1 (.type "int") = some false)
    (m1_list : PySem.W.mroIn K C1 (.type "list") = some false)
    (m1_str : PySem.W.mroIn K C1 (.type "str") = some false)
    (m1_tuple : PySem.W.mroIn K C1 (.type "tuple") = some false)
    (m1_1 : PySem.W.mroIn K C1 (.ref C1) = some (decide (("Place" : Str) = "Place")))
    (mk1 : PySem.W.makesIn K C1 = true)
    (kc1 : PySem.W.keepIn K (.ref C1) = true)
    (a1 : PySem.W.nsIn K mainGlobals "_law_begun" = some (some (.ref f1)))
    (l1 : K.lookup f1 = some ⟨oc1, od1, .func (PySem.W.fnOf "_law_begun" "_law_begun" (defArgs s__law_begun) (defBody s__law_begun) (defScope s__law_begun) .none kV1 dc1 pm1 an1 cd1 ct1), sl1⟩)
    (c1 : PySem.W.codeIn K cd1 "_law_begun" = true)
    (k1 : PySem.W.keepIn K (.ref f1) = true)
    (a2 : PySem.W.nsIn K mainGlobals "_law_next" = some (some (.ref f2)))
    (l2 : K.lookup f2 = some ⟨oc2, od2, .func (PySem.W.fnOf "_law_next" "_law_next" (defArgs s__law_next) (defBody s__law_next) (defScope s__law_next) .none kV2 dc2 pm2 an2 cd2 ct2), sl2⟩)
    (c2 : PySem.W.codeIn K cd2 "_law_next" = true)
    (k2 : PySem.W.keepIn K (.ref f2) = true)
    (a3 : PySem.W.nsIn K mainGlobals "_law_names" = some (some (.ref f3)))
    (l3 : K.lookup f3 = some ⟨oc3, od3, .func (PySem.W.fnOf "_law_names" "_law_names" (defArgs s__law_names) (defBody s__law_names) (defScope s__law_names) .none kV3 dc3 pm3 an3 cd3 ct3), sl3⟩)
    (c3 : PySem.W.codeIn K cd3 "_law_names" = true)
    (k3 : PySem.W.keepIn K (.ref f3) = true)
    (a4 : PySem.W.nsIn K mainGlobals "_law_stirred" = some (some (.ref f4)))
    (l4 : K.lookup f4 = some ⟨oc4, od4, .func (PySem.W.fnOf "_law_stirred" "_law_stirred" (defArgs s__law_stirred) (defBody s__law_stirred) (defScope s__law_stirred) .none kV4 dc4 pm4 an4 cd4 ct4), sl4⟩)
    (c4 : PySem.W.codeIn K cd4 "_law_stirred" = true)
    (k4 : PySem.W.keepIn K (.ref f4) = true)
    (a5 : PySem.W.nsIn K mainGlobals "_law_pick" = some (some (.ref f5)))
    (l5 : K.lookup f5 = some ⟨oc5, od5, .func (PySem.W.fnOf "_law_pick" "_law_pick" (defArgs s__law_pick) (defBody s__law_pick) (defScope s__law_pick) .none kV5 dc5 pm5 an5 cd5 ct5), sl5⟩)
    (c5 : PySem.W.codeIn K cd5 "_law_pick" = true)
    (k5 : PySem.W.keepIn K (.ref f5) = true)
    (a6 : PySem.W.nsIn K mainGlobals "_law_grounds" = some (some (.ref f6)))
    (l6 : K.lookup f6 = some ⟨oc6, od6, .func (PySem.W.fnOf "_law_grounds" "_law_grounds" (defArgs s__law_grounds) (defBody s__law_grounds) (defScope s__law_grounds) .none kV6 dc6 pm6 an6 cd6 ct6), sl6⟩)
    (c6 : PySem.W.codeIn K cd6 "_law_grounds" = true)
    (k6 : PySem.W.keepIn K (.ref f6) = true)
    (a7 : PySem.W.nsIn K mainGlobals "_law_token" = some (some (.ref f7)))
    (l7 : K.lookup f7 = some ⟨oc7, od7, .func (PySem.W.fnOf "_law_token" "_law_token" (defArgs s__law_token) (defBody s__law_token) (defScope s__law_token) .none kV7 dc7 pm7 an7 cd7 ct7), sl7⟩)
    (c7 : PySem.W.codeIn K cd7 "_law_token" = true)
    (k7 : PySem.W.keepIn K (.ref f7) = true)
    (a8 : PySem.W.nsIn K mainGlobals "_law_some_uses" = some (some (.ref f8)))
    (l8 : K.lookup f8 = some ⟨oc8, od8, .func (PySem.W.fnOf "_law_some_uses" "_law_some_uses" (defArgs s__law_some_uses) (defBody s__law_some_uses) (defScope s__law_some_uses) .none kV8 dc8 pm8 an8 cd8 ct8), sl8⟩)
    (c8 : PySem.W.codeIn K cd8 "_law_some_uses" = true)
    (k8 : PySem.W.keepIn K (.ref f8) = true)
    (a9 : PySem.W.nsIn K mainGlobals "boxes" = some (some (.ref f9)))
    (l9 : K.lookup f9 = some ⟨oc9, od9, .func (PySem.W.fnOf "boxes" "boxes" (defArgs s_boxes) (defBody s_boxes) (defScope s_boxes) .none kV9 dc9 pm9 an9 cd9 ct9), sl9⟩)
    (c9 : PySem.W.codeIn K cd9 "boxes" = true)
    (k9 : PySem.W.keepIn K (.ref f9) = true)
    (a10 : PySem.W.nsIn K mainGlobals "_law_whole" = some (some (.ref f10)))
    (l10 : K.lookup f10 = some ⟨oc10, od10, .func (PySem.W.fnOf "_law_whole" "_law_whole" (defArgs s__law_whole) (defBody s__law_whole) (defScope s__law_whole) .none kV10 dc10 pm10 an10 cd10 ct10), sl10⟩)
    (c10 : PySem.W.codeIn K cd10 "_law_whole" = true)
    (k10 : PySem.W.keepIn K (.ref f10) = true)
    (a11 : PySem.W.nsIn K mainGlobals "_law_alike" = some (some (.ref f11)))
    (l11 : K.lookup f11 = some ⟨oc11, od11, .func (PySem.W.fnOf "_law_alike" "_law_alike" (defArgs s__law_alike) (defBody s__law_alike) (defScope s__law_alike) .none kV11 dc11 pm11 an11 cd11 ct11), sl11⟩)
    (c11 : PySem.W.codeIn K cd11 "_law_alike" = true)
    (k11 : PySem.W.keepIn K (.ref f11) = true)
    (a12 : PySem.W.nsIn K mainGlobals "is_whole" = some (some (.ref f12)))
    (l12 : K.lookup f12 = some ⟨oc12, od12, .func (PySem.W.fnOf "is_whole" "is_whole" (defArgs s_is_whole) (defBody s_is_whole) (defScope s_is_whole) .none kV12 dc12 pm12 an12 cd12 ct12), sl12⟩)
    (c12 : PySem.W.codeIn K cd12 "is_whole" = true)
    (k12 : PySem.W.keepIn K (.ref f12) = true)
    (a13 : PySem.W.nsIn K mainGlobals "is_between" = some (some (.ref f13)))
    (l13 : K.lookup f13 = some ⟨oc13, od13, .func (PySem.W.fnOf "is_between" "is_between" (defArgs s_is_between) (defBody s_is_between) (defScope s_is_between) .none kV13 dc13 pm13 an13 cd13 ct13), sl13⟩)
    (c13 : PySem.W.codeIn K cd13 "is_between" = true)
    (k13 : PySem.W.keepIn K (.ref f13) = true)
    (a14 : PySem.W.nsIn K mainGlobals "is_name" = some (some (.ref f14)))
    (l14 : K.lookup f14 = some ⟨oc14, od14, .func (PySem.W.fnOf "is_name" "is_name" (defArgs s_is_name) (defBody s_is_name) (defScope s_is_name) .none kV14 dc14 pm14 an14 cd14 ct14), sl14⟩)
    (c14 : PySem.W.codeIn K cd14 "is_name" = true)
    (k14 : PySem.W.keepIn K (.ref f14) = true)
    (a15 : PySem.W.findIn K (.ref C1) "__init__" = some (some (.ref f15)))
    (i15 : PySem.W.isFn K (.ref f15) = true)
    (l15 : K.lookup f15 = some ⟨oc15, od15, .func (PySem.W.fnOf "__init__" "Place.__init__" (defArgs s_Place_init) (defBody s_Place_init) (defScope s_Place_init) .none kV15 dc15 pm15 an15 cd15 ct15), sl15⟩)
    (c15 : PySem.W.codeIn K cd15 "Place.__init__" = true)
    (k15 : PySem.W.keepIn K (.ref f15) = true)
    (a16 : PySem.W.nsIn K mainGlobals "_law_made" = some (some (.ref f16)))
    (l16 : K.lookup f16 = some ⟨oc16, od16, .func (PySem.W.fnOf "_law_made" "_law_made" (defArgs s__law_made) (defBody s__law_made) (defScope s__law_made) .none kV16 dc16 pm16 an16 cd16 ct16), sl16⟩)
    (c16 : PySem.W.codeIn K cd16 "_law_made" = true)
    (k16 : PySem.W.keepIn K (.ref f16) = true)
    (a17 : PySem.W.nsIn K mainGlobals "law" = some (some (.ref f17)))
    (l17 : K.lookup f17 = some ⟨oc17, od17, .func (PySem.W.fnOf "law" "law" (defArgs s_law) (defBody s_law) (defScope s_law) .none kV17 dc17 pm17 an17 cd17 ct17), sl17⟩)
    (c17 : PySem.W.codeIn K cd17 "law" = true)
    (k17 : PySem.W.keepIn K (.ref f17) = true)
    (AX_NoPlace : PySem.W.nsIn K mainGlobals "NoPlace" = some (some (.ref X_NoPlace)))
    (xi_NoPlace : PySem.W.excIn K X_NoPlace [.type "ValueError", .type "Exception", .type "BaseException", .type "object"] "ValueError.__new__" = true)
    (xk_NoPlace : PySem.W.keepIn K (.ref X_NoPlace) = true)
    (xs_NoPlace : PySem.W.subIn K (.ref X_NoPlace) (.type "BaseException") = some true)
    (xt_NoPlace : PySem.W.typeIn K (.ref X_NoPlace) = some (.type "type"))
    (z_all : PySem.W.nsIn K mainGlobals "all" = some none)
    (z_bool : PySem.W.nsIn K mainGlobals "bool" = some none)
    (z_dict : PySem.W.nsIn K mainGlobals "dict" = some none)
    (z_enumerate : PySem.W.nsIn K mainGlobals "enumerate" = some none)
    (z_int : PySem.W.nsIn K mainGlobals "int" = some none)
    (z_isinstance : PySem.W.nsIn K mainGlobals "isinstance" = some none)
    (z_len : PySem.W.nsIn K mainGlobals "len" = some none)
    (z_list : PySem.W.nsIn K mainGlobals "list" = some none)
    (z_max : PySem.W.nsIn K mainGlobals "max" = some none)
    (z_min : PySem.W.nsIn K mainGlobals "min" = some none)
    (z_range : PySem.W.nsIn K mainGlobals "range" = some none)
    (z_set : PySem.W.nsIn K mainGlobals "set" = some none)
    (z_sorted : PySem.W.nsIn K mainGlobals "sorted" = some none)
    (z_str : PySem.W.nsIn K mainGlobals "str" = some none)
    (z_tuple : PySem.W.nsIn K mainGlobals "tuple" = some none)
    (y_GREATEST_STUB : PySem.W.nsIn K mainGlobals "GREATEST_STUB" = some (some (.int (9999) t_GREATEST_STUB)))
    (y_LETTERS : PySem.W.nsIn K mainGlobals "LETTERS" = some (some (.str "abcdefghijklmnopqrstuvwxyz" t_LETTERS)))
    (y_MOST_LETTERS : PySem.W.nsIn K mainGlobals "MOST_LETTERS" = some (some (.int (8) t_MOST_LETTERS))) :
    ∃ fd : FuncData, (∀ (s : Shared) (v : Value), BindsTo s fd ⟨[v], []⟩ [("_law_script", v)]) ∧ ∀ base : Heap, K.In base → base.Ns mainGlobals mg → FnG l.prog w K mg base (L2.CX l.prog w) 15 fa fd ["_law_script"] (spA K 1 d_law) := by
  have e := hfa.symm.trans (PySem.W.mg_of X G a17)
  cases e
  let GG : Glb := ⟨K, fun c => List.lookup c ([("Place", C1)] : List (Str × Addr)), fun c => List.lookup c ([("NoPlace", X_NoPlace)] : List (Str × Addr))⟩
  have T : Txt K mg GG.ca GG.ce w := ⟨ca_all (mem_con (own_mk pg1 hd1 po1 sa1 ha1 hn1 ht1 hm1) mem_nil),
    PySem.W.mg_none_of X G z_all,
    PySem.W.mg_none_of X G z_bool,
    PySem.W.mg_none_of X G z_dict,
    PySem.W.mg_none_of X G z_enumerate,
    PySem.W.mg_none_of X G z_int,
    PySem.W.mg_none_of X G z_isinstance,
    PySem.W.mg_none_of X G z_len,
    PySem.W.mg_none_of X G z_list,
    PySem.W.mg_none_of X G z_max,
    PySem.W.mg_none_of X G z_min,
    PySem.W.mg_none_of X G z_range,
    PySem.W.mg_none_of X G z_set,
    PySem.W.mg_none_of X G z_sorted,
    PySem.W.mg_none_of X G z_str,
    PySem.W.mg_none_of X G z_tuple,
    ⟨_, PySem.W.mg_of X G y_GREATEST_STUB⟩,
    ⟨_, PySem.W.mg_of X G y_LETTERS⟩,
    ⟨_, PySem.W.mg_of X G y_MOST_LETTERS⟩,
    fld_mk (mem_con (fun _ => ⟨(own_mk pg1 hd1 po1 sa1 ha1 hn1 ht1 hm1).cl, n1_district⟩) mem_nil),
    fld_mk (mem_con (fun _ => ⟨(own_mk pg1 hd1 po1 sa1 ha1 hn1 ht1 hm1).cl, n1_ended⟩) mem_nil),
    fld_mk (mem_con (fun _ => ⟨(own_mk pg1 hd1 po1 sa1 ha1 hn1 ht1 hm1).cl, n1_first⟩) mem_nil),
    fld_mk (mem_con (fun _ => ⟨(own_mk pg1 hd1 po1 sa1 ha1 hn1 ht1 hm1).cl, n1_is_over⟩) mem_nil),
    fld_mk (mem_con (fun _ => ⟨(own_mk pg1 hd1 po1 sa1 ha1 hn1 ht1 hm1).cl, n1_last⟩) mem_nil),
    fld_mk (mem_con (fun _ => ⟨(own_mk pg1 hd1 po1 sa1 ha1 hn1 ht1 hm1).cl, n1_name⟩) mem_nil),
    fld_mk (mem_con (fun _ => ⟨(own_mk pg1 hd1 po1 sa1 ha1 hn1 ht1 hm1).cl, n1_sent⟩) mem_nil),
    isT_b .bool (by decide) (ca_all (mem_con m1_bool mem_nil)),
    isT_b .dict (by decide) (ca_all (mem_con m1_dict mem_nil)),
    isT_b .int (by decide) (ca_all (mem_con m1_int mem_nil)),
    isT_b .list (by decide) (ca_all (mem_con m1_list mem_nil)),
    isT_b .str (by decide) (ca_all (mem_con m1_str mem_nil)),
    isT_b .tuple (by decide) (ca_all (mem_con m1_tuple mem_nil)),
    ⟨_, PySem.W.mg_of X G A1, isT_o rfl ic1 tc1 (ca_all (mem_con m1_1 mem_nil))⟩,
    ⟨⟨_, PySem.W.mg_of X G AX_NoPlace, rfl, xi_NoPlace, xk_NoPlace, xs_NoPlace, xt_NoPlace⟩⟩⟩
  have F1 := fun_mk (st := s__law_begun) l1 c1 k1
  have F2 := fun_mk (st := s__law_next) l2 c2 k2
  have F3 := fun_mk (st := s__law_names) l3 c3 k3
  have F4 := fun_mk (st := s__law_stirred) l4 c4 k4
  have F5 := fun_mk (st := s__law_pick) l5 c5 k5
  have F6 := fun_mk (st := s__law_grounds) l6 c6 k6
  have F7 := fun_mk (st := s__law_token) l7 c7 k7
  have F8 := fun_mk (st := s__law_some_uses) l8 c8 k8
  have F9 := fun_mk (st := s_boxes) l9 c9 k9
  have F10 := fun_mk (st := s__law_whole) l10 c10 k10
  have F11 := fun_mk (st := s__law_alike) l11 c11 k11
  have F12 := fun_mk (st := s_is_whole) l12 c12 k12
  have F13 := fun_mk (st := s_is_between) l13 c13 k13
  have F14 := fun_mk (st := s_is_name) l14 c14 k14
  have F15 := fun_mk (st := s_Place_init) l15 c15 k15
  have F16 := fun_mk (st := s__law_made) l16 c16 k16
  have F17 := fun_mk (st := s_law) l17 c17 k17
  refine ⟨PySem.W.fnOf "law" "law" (defArgs s_law) (defBody s_law) (defScope s_law) .none kV17 dc17 pm17 an17 cd17 ct17, fun s v => .of_eq rfl, fun base _ _ => ?_⟩
  have D__law_begun : DefG GG l.prog w mg base 1 "_law_begun" 2 d__law_begun := ⟨⟨f1, _, _, (ok__law_begun (ca := GG.ca) (ce := GG.ce) F1 T ), PySem.W.mg_of X G a1, k1, (F1.binds (ps := ["_law_cell", "_law_k"]) fun _ _ _ _ _ _ us hl => match us, hl with | [_, _], _ => rfl)⟩⟩
  have D__law_next : DefG GG l.prog w mg base 1 "_law_next" 2 d__law_next := ⟨⟨f2, _, _, (ok__law_next (ca := GG.ca) (ce := GG.ce) F2 T ), PySem.W.mg_of X G a2, k2, (F2.binds (ps := ["_law_draw", "_law_size"]) fun _ _ _ _ _ _ us hl => match us, hl with | [_, _], _ => rfl)⟩⟩
  have D__law_names : DefG GG l.prog w mg base 2 "_law_names" 1 d__law_names := ⟨⟨f3, _, _, (ok__law_names (ca := GG.ca) (ce := GG.ce) F3 T D__law_next), PySem.W.mg_of X G a3, k3, (F3.binds (ps := ["_law_draw"]) fun _ _ _ _ _ _ us hl => match us, hl with | [_], _ => rfl)⟩⟩
  have D__law_stirred : DefG GG l.prog w mg base 2 "_law_stirred" 2 d__law_stirred := ⟨⟨f4, _, _, (ok__law_stirred (ca := GG.ca) (ce := GG.ce) F4 T D__law_next), PySem.W.mg_of X G a4, k4, (F4.binds (ps := ["_law_draw", "_law_some"]) fun _ _ _ _ _ _ us hl => match us, hl with | [_, _], _ => rfl)⟩⟩
  have D__law_pick : DefG GG l.prog w mg base 2 "_law_pick" 2 d__law_pick := ⟨⟨f5, _, _, (ok__law_pick (ca := GG.ca) (ce := GG.ce) F5 T D__law_next), PySem.W.mg_of X G a5, k5, (F5.binds (ps := ["_law_draw", "_law_some"]) fun _ _ _ _ _ _ us hl => match us, hl with | [_, _], _ => rfl)⟩⟩
  have D__law_grounds : DefG GG l.prog w mg base 3 "_law_grounds" 2 d__law_grounds := ⟨⟨f6, _, _, (ok__law_grounds (ca := GG.ca) (ce := GG.ce) F6 T D__law_next D__law_stirred D__law_pick), PySem.W.mg_of X G a6, k6, (F6.binds (ps := ["_law_draw", "_law_names_here"]) fun _ _ _ _ _ _ us hl => match us, hl with | [_, _], _ => rfl)⟩⟩
  have D__law_token : DefG GG l.prog w mg base 3 "_law_token" 1 d__law_token := ⟨⟨f7, _, _, (ok__law_token (ca := GG.ca) (ce := GG.ce) F7 T D__law_next D__law_pick), PySem.W.mg_of X G a7, k7, (F7.binds (ps := ["_law_draw"]) fun _ _ _ _ _ _ us hl => match us, hl with | [_], _ => rfl)⟩⟩
  have D__law_some_uses : DefG GG l.prog w mg base 4 "_law_some_uses" 3 d__law_some_uses := ⟨⟨f8, _, _, (ok__law_some_uses (ca := GG.ca) (ce := GG.ce) F8 T D__law_next D__law_stirred D__law_pick D__law_token), PySem.W.mg_of X G a8, k8, (F8.binds (ps := ["_law_draw", "_law_grounds_here", "_law_names_here"]) fun _ _ _ _ _ _ us hl => match us, hl with | [_, _, _], _ => rfl)⟩⟩
  have D_boxes : DefG GG l.prog w mg base 1 "boxes" 3 d_boxes := ⟨⟨f9, _, _, (ok_boxes (ca := GG.ca) (ce := GG.ce) F9 T ), PySem.W.mg_of X G a9, k9, (F9.binds (ps := ["places", "uses", "words"]) fun _ _ _ _ _ _ us hl => match us, hl with | [_, _, _], _ => rfl)⟩⟩
  have D__law_whole : DefG GG l.prog w mg base 1 "_law_whole" 1 d__law_whole := ⟨⟨f10, _, _, (ok__law_whole (ca := GG.ca) (ce := GG.ce) F10 T ), PySem.W.mg_of X G a10, k10, (F10.binds (ps := ["_law_thing"]) fun _ _ _ _ _ _ us hl => match us, hl with | [_], _ => rfl)⟩⟩
  have D__law_alike : DefG GG l.prog w mg base 14 "_law_alike" 2 d__law_alike := ⟨⟨f11, _, _, ok__law_alike (ca := GG.ca) (ce := GG.ce) F11 T (PySem.W.mg_of X G a11) k11 (F11.binds (ps := ["_law_told", "_law_due"]) fun _ _ _ _ _ _ us hl => match us, hl with | [_, _], _ => rfl) D__law_whole 12, PySem.W.mg_of X G a11, k11, (F11.binds (ps := ["_law_told", "_law_due"]) fun _ _ _ _ _ _ us hl => match us, hl with | [_, _], _ => rfl)⟩⟩
  have D_is_whole : DefG GG l.prog w mg base 1 "is_whole" 1 d_is_whole := ⟨⟨f12, _, _, (ok_is_whole (ca := GG.ca) (ce := GG.ce) F12 T ), PySem.W.mg_of X G a12, k12, (F12.binds (ps := ["thing"]) fun _ _ _ _ _ _ us hl => match us, hl with | [_], _ => rfl)⟩⟩
  have D_is_between : DefG GG l.prog w mg base 2 "is_between" 3 d_is_between := ⟨⟨f13, _, _, (ok_is_between (ca := GG.ca) (ce := GG.ce) F13 T D_is_whole), PySem.W.mg_of X G a13, k13, (F13.binds (ps := ["thing", "least", "most"]) fun _ _ _ _ _ _ us hl => match us, hl with | [_, _, _], _ => rfl)⟩⟩
  have D_is_name : DefG GG l.prog w mg base 1 "is_name" 1 d_is_name := ⟨⟨f14, _, _, (ok_is_name (ca := GG.ca) (ce := GG.ce) F14 T ), PySem.W.mg_of X G a14, k14, (F14.binds (ps := ["thing"]) fun _ _ _ _ _ _ us hl => match us, hl with | [_], _ => rfl)⟩⟩
  have D_Place__mk4_ : ClsG GG l.prog w mg base 3 "Place" 4 d_Place_init := ⟨⟨C1, f15, _, ["self", "name", "district", "first", "last"], ⟨mk1, a15, i15, kc1⟩, (ok_Place_init (ca := GG.ca) (ce := GG.ce) F15 T D_is_between D_is_name), PySem.W.mg_of X G A1, rfl, (F15.binds (ps := ["self", "name", "district", "first", "last"]) fun _ _ _ _ _ _ us hl => match us, hl with | [_, _, _, _, _], _ => rfl)⟩⟩
  have D__law_made : DefG GG l.prog w mg base 5 "_law_made" 1 d__law_made := ⟨⟨f16, _, _, (ok__law_made (ca := GG.ca) (ce := GG.ce) F16 T D_Place__mk4_), PySem.W.mg_of X G a16, k16, (F16.binds (ps := ["_law_grounds_here"]) fun _ _ _ _ _ _ us hl => match us, hl with | [_], _ => rfl)⟩⟩
  exact fnG_all (ok_law (ca := GG.ca) (ce := GG.ce) F17 T D__law_begun D__law_names D__law_pick D__law_grounds D__law_some_uses D_boxes D__law_alike D__law_made)
theorem walk {l : PySem.W.OpenLaw} {q : Program} {loose : List Str} {XP : (Str → Option Value) → Heap → Prop} {YP : World → Heap → Prop} {d : DefRec} {K : Params → PySem.W.Frag} (hn : l.most = some 63) (hdf : d.params.defaults = [])
    (hY : ∀ (w : World) (h : Heap), YP w h → (K w.params).In h)
    (F : ∀ (w : World) (mg : Str → Option Value) (fa : Addr) (h : Heap), (K w.params).In h → h.Ns mainGlobals mg → mg d.name = some (.ref fa) →
      ∃ fd : FuncData, (∀ (s : Shared) (u : Value), BindsTo s fd ⟨[u], []⟩ [("_law_script", u)]) ∧ ∀ base : Heap, (K w.params).In base → base.Ns mainGlobals mg → FnG l.prog w (K w.params) mg base (L2.CX l.prog w) 15 fa fd ["_law_script"] (spA (K w.params) 1 d_law)) :
    PySem.W.WalkO q loose XP YP l.row.toRowW d [] (fun f vs => PySem.call f vs) :=
  L2.walk_ofG (n := 63) (k := 15) (x := "_law_script") (CX := fun w => L2.CX l.prog w) (sp := fun w => spA (K w.params) 1 d_law) hn (by decide) hdf ⟨rfl, by decide, by decide⟩ hY F
    (fun w H a ns hl hO hS ca ce => law_sp (G := ⟨K w.params, ca, ce⟩) hO hS (law_true ns hl)) fun w H s e s' z => no_CX z
end DS.K20
open PySem PySem.W PyProof.Rows in
set_option maxRecDepth 100000 in
set_option maxHeartbeats 0 in
theorem PySem.Challenge.cw_rolltally_k20_boxes_holds : PySem.Challenge.rw_rolltally_k20_boxes.Holds := by
  w_on; o_law; k_head; (case hw => w_witness2)
  k_fill
  refine DS.K20.walk (l := PySem.Challenge.rw_rolltally_k20_boxes) rfl rfl (fun w h Y => PySem.W.kIn_of Y) ?F
  case F =>
    intro w mg fa h KX G hmg
    refine' DS.K20.all_mk KX G hmg ?A1 ?pg1 ?hd1 ?po1 ?sa1 ?ha1 ?hn1 ?ht1 ?hm1 ?ic1 ?tc1 ?n1_district ?n1_ended ?n1_first ?n1_is_over ?n1_last ?n1_name ?n1_sent ?m1_bool ?m1_dict ?m1_int ?m1_list ?m1_str ?m1_tuple ?m1_1 ?mk1 ?kc1 ?a1 ?l1 ?c1 ?k1 ?a2 ?l2 ?c2 ?k2 ?a3 ?l3 ?c3 ?k3 ?a4 ?l4 ?c4 ?k4 ?a5 ?l5 ?c5 ?k5 ?a6 ?l6 ?c6 ?k6 ?a7 ?l7 ?c7 ?k7 ?a8 ?l8 ?c8 ?k8 ?a9 ?l9 ?c9 ?k9 ?a10 ?l10 ?c10 ?k10 ?a11 ?l11 ?c11 ?k11 ?a12 ?l12 ?c12 ?k12 ?a13 ?l13 ?c13 ?k13 ?a14 ?l14 ?c14 ?k14 ?a15 ?i15 ?l15 ?c15 ?k15 ?a16 ?l16 ?c16 ?k16 ?a17 ?l17 ?c17 ?k17 ?AX_NoPlace ?xi_NoPlace ?xk_NoPlace ?xs_NoPlace ?xt_NoPlace ?z_all ?z_bool ?z_dict ?z_enumerate ?z_int ?z_isinstance ?z_len ?z_list ?z_max ?z_min ?z_range ?z_set ?z_sorted ?z_str ?z_tuple ?y_GREATEST_STUB ?y_LETTERS ?y_MOST_LETTERS
    (case A1 => k_is)
    (case pg1 => k_is)
    (case hd1 => k_is)
    (case po1 => k_is)
    (case sa1 => k_is)
    (case ha1 => k_is)
    (case hn1 => k_is)
    (case ht1 => k_is)
    (case hm1 => k_is)
    (case ic1 => k_is)
    (case tc1 => k_is)
    (case n1_district => k_is)
    (case n1_ended => k_is)
    (case n1_first => k_is)
    (case n1_is_over => k_is)
    (case n1_last => k_is)
    (case n1_name => k_is)
    (case n1_sent => k_is)
    (case m1_bool => k_is)
    (case m1_dict => k_is)
    (case m1_int => k_is)
    (case m1_list => k_is)
    (case m1_str => k_is)
    (case m1_tuple => k_is)
    (case m1_1 => k_is)
    (case mk1 => k_is)
    (case kc1 => k_is)
    (case a1 => k_is)
    (case l1 => k_is)
    (case c1 => k_is)
    (case k1 => k_is)
    (case a2 => k_is)
    (case l2 => k_is)
    (case c2 => k_is)
    (case k2 => k_is)
    (case a3 => k_is)
    (case l3 => k_is)
    (case c3 => k_is)
    (case k3 => k_is)
    (case a4 => k_is)
    (case l4 => k_is)
    (case c4 => k_is)
    (case k4 => k_is)
    (case a5 => k_is)
    (case l5 => k_is)
    (case c5 => k_is)
    (case k5 => k_is)
    (case a6 => k_is)
    (case l6 => k_is)
    (case c6 => k_is)
    (case k6 => k_is)
    (case a7 => k_is)
    (case l7 => k_is)
    (case c7 => k_is)
    (case k7 => k_is)
    (case a8 => k_is)
    (case l8 => k_is)
    (case c8 => k_is)
    (case k8 => k_is)
    (case a9 => k_is)
    (case l9 => k_is)
    (case c9 => k_is)
    (case k9 => k_is)
    (case a10 => k_is)
    (case l10 => k_is)
    (case c10 => k_is)
    (case k10 => k_is)
    (case a11 => k_is)
    (case l11 => k_is)
    (case c11 => k_is)
    (case k11 => k_is)
    (case a12 => k_is)
    (case l12 => k_is)
    (case c12 => k_is)
    (case k12 => k_is)
    (case a13 => k_is)
    (case l13 => k_is)
    (case c13 => k_is)
    (case k13 => k_is)
    (case a14 => k_is)
    (case l14 => k_is)
    (case c14 => k_is)
    (case k14 => k_is)
    (case a15 => k_is)
    (case i15 => k_is)
    (case l15 => k_is)
    (case c15 => k_is)
    (case k15 => k_is)
    (case a16 => k_is)
    (case l16 => k_is)
    (case c16 => k_is)
    (case k16 => k_is)
    (case a17 => k_is)
    (case l17 => k_is)
    (case c17 => k_is)
    (case k17 => k_is)
    (case AX_NoPlace => k_is)
    (case xi_NoPlace => k_exc)
    (case xk_NoPlace => k_is)
    (case xs_NoPlace => k_is)
    (case xt_NoPlace => k_is)
    (case z_all => k_is)
    (case z_bool => k_is)
    (case z_dict => k_is)
    (case z_enumerate => k_is)
    (case z_int => k_is)
    (case z_isinstance => k_is)
    (case z_len => k_is)
    (case z_list => k_is)
    (case z_max => k_is)
    (case z_min => k_is)
    (case z_range => k_is)
    (case z_set => k_is)
    (case z_sorted => k_is)
    (case z_str => k_is)
    (case z_tuple => k_is)
    (case y_GREATEST_STUB => k_is)
    (case y_LETTERS => k_is)
    (case y_MOST_LETTERS => k_is)
end
