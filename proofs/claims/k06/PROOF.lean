import PyProof.Rows.All
import Wide.All
import OpenK.AllK
import Wide.FinOn
import HandS.ForMost
import HandS.ForExc
import HandS.CallSlots
import HandS.Wide
import PyProof.NeKinds
import HandS.DeepEq
import HandS.TupAny
import HandS.Style
import HandS.IsInst
import HandS.Deep
import HandS.More
import HandS.SortInts
import HandS.SetFor
import HandS.Finally
import HandS.Conv
import HandS.TupMul
import HandS.Keys
import HandS.Remove
import PyProof.Rows.SetFrom
import HandS.SetKeys
import HandS.Strs
import HandS.Zip
import HandS.SetBool
import HandS.WordsDict
import HandS.Small
import KE.GoesNew
import HandS.DictComp
import KE.KDictSum
import HandS.ListItems
import KE.KUnpackStar
import HandS.Defaults
import HandS.MakeKwOnly
import HandS.Text
import HandS.SortRule
import HandS.Flow
import HandS.Iter
import PyProof.Rows.StrInSeq3
import KE.KExcIs
import HandS.ExcIs
import HandS.ExcInit
import PyProof.AutoSeq1
import PyProof.Rows.IntBool
import PyProof.CallStr
import PyProof.FactsAll.bool_2
import KE.KDictZip
import HandS.RaiseMore
import PyProof.Ascii
import PySem.Challenge.RW_rolltally_k06_races_changed_anywhere
set_option Elab.async false
set_option linter.all false
set_option maxRecDepth 100000
set_option maxHeartbeats 4000000
section
/-! D-layer, part 0: data without addresses, a store of mutable cells, how both lie in the abstract heap. -/
namespace DL
open PySem L2

inductive D where
  | non
  | bl (b : Bool)
  | int (i : Int)
  | str (x : Str)
  | tup (ds : List D)
  | lst (ds : List D)
  | dic (ks : List Key) (ds : List D)
  | obj (c : Str) (ks : List Str) (ds : List D)
  | loc (l : Nat)
  | dct (ks : List (List Key)) (ds : List D)
  | exn (c : Str) (ks : List Str) (ds : List D)
  | tpl (ds : List D)

inductive Cell where
  | lst (ds : List D)
  | dic (kvs : List (Key × D))
  | ins (c : Str) (fs : List (Str × D))
  | dct (kvs : List (List Key × D))

abbrev Store := List Cell
abbrev EnvD := List (Option D)

/-- where the cells lie; what is hidden (a list that a comprehension fills) -/
structure Fi where
  c : List Addr
  h : List Addr
def Fi.out (φ : Fi) (a : Addr) : Prop := a ∉ φ.c ∧ a ∉ φ.h

/-- the written classes -/
structure Glb where
  K : PySem.W.Frag
  ca : Str → Option Addr
  ce : Str → Option Addr

/-- a caught exception that is kept -/
def ExH (cls : Value) (d : Option Addr) (a : Addr) : HO := .ext fun h => ∃ (oe : Obj) (vs : Array Value), h.get? a = some oe ∧ Zc cls d oe ∧ oe.data = .fields vs
def RdL (G : Glb) (φ : Fi) (H : Hp) (a : Addr) (xs : List V) : Prop := (φ.out a ∧ Rd H a (.lst xs)) ∨
  ∃ (o : Obj) (its : Array Value) (n : Nat), G.K.lookup a = some o ∧ o.cls = .type "list" ∧ o.dict = none ∧ o.data = .seq its n ∧ its.size ≤ sizeLine ∧ Vals xs its.toList
def RdT (G : Glb) (φ : Fi) (H : Hp) (a : Addr) (xs : List V) : Prop := (φ.out a ∧ Rd H a (.tup xs)) ∨
  ∃ (o : Obj) (its : Array Value) (n : Nat), G.K.lookup a = some o ∧ o.cls = .type "tuple" ∧ o.data = .seq its n ∧ its.size ≤ sizeLine ∧ Vals xs its.toList

mutual
def Is (G : Glb) (φ : Fi) (H : Hp) : D → V → Prop
  | .non, v => v = .non
  | .bl b, v => v = .bl b
  | .int i, v => v = .int i
  | .str x, v => v = .str x
  | .tup ds, v => ∃ a xs, v = .ref a ∧ RdT G φ H a xs ∧ IsL G φ H ds xs
  | .lst ds, v => ∃ a xs, v = .ref a ∧ RdL G φ H a xs ∧ IsL G φ H ds xs
  | .dic ks ds, v => ∃ a kvs, v = .ref a ∧ (φ.out a ∧ Rd H a (.dK kvs)) ∧ kvs.map (·.1) = ks ∧ IsL G φ H ds (kvs.map (·.2))
  | .obj c ks ds, v => ∃ a C dx fs, v = .ref a ∧ (φ.out a ∧ H a = some (.ins C dx fs)) ∧ G.ca c = some C ∧ fs.map (·.1) = ks ∧ IsL G φ H ds (fs.map (·.2))
  | .loc l, v => ∃ a, φ.c[l]? = some a ∧ v = .ref a
  | .dct ks ds, v => ∃ a kvs, v = .ref a ∧ (φ.out a ∧ Rd H a (.dT kvs)) ∧ kvs.map (·.1) = ks ∧ IsL G φ H ds (kvs.map (·.2))
  | .exn c ks ds, v => ∃ a C d, v = .ref a ∧ (φ.out a ∧ H a = some (ExH (.ref C) d a)) ∧ G.ce c = some C ∧ ((d = none ∧ ks = [] ∧ ds = []) ∨ ∃ b fs, d = some b ∧ (φ.out b ∧ H b = some (.xd fs)) ∧ fs.map (·.1) = ks ∧ IsL G φ H ds (fs.map (·.2)))
  | .tpl ds, v => ∃ a xs o, v = .ref a ∧ (φ.out a ∧ H a = some (.frz o (.tup xs)) ∧ o.cls = .type "tuple" ∧ o.dict = none) ∧ IsL G φ H ds xs
def IsL (G : Glb) (φ : Fi) (H : Hp) : List D → List V → Prop
  | [], xs => xs = []
  | d :: ds, xs => ∃ x r, xs = x :: r ∧ Is G φ H d x ∧ IsL G φ H ds r
end

/-- a dict -/
def Dt (o : HO) : Prop := (∃ kvs, o = .dK kvs) ∨ ∃ kvs, o = .dT kvs
/-- what a state may become -/
structure Ext (φ : Fi) (H : Hp) (φ' : Fi) (H' : Hp) : Prop where
  pre : ∃ ψ, φ'.c = φ.c ++ ψ ∧ ∀ a ∈ ψ, a ∉ φ.c ∧ H a = none
  hid : φ'.h = φ.h
  keep : ∀ a o, a ∉ φ.c → H a = some o → H' a = some o ∨ ∃ od, a ∉ φ.h ∧ Dt o ∧ H' a = some (.frz od o)

/-- all but dicts stay; a dict may be locked for good -/
theorem Ext.keepE {φ φ' : Fi} {H H' : Hp} (e : Ext φ H φ' H') {a : Addr} {o : HO} (n : a ∉ φ.c) (h : H a = some o) (hd : ¬ Dt o := by rintro (⟨_, z⟩ | ⟨_, z⟩) <;> cases z) : H' a = some o :=
  (e.keep a o n h).elim id fun ⟨_, _, z, _⟩ => absurd z hd
theorem Ext.keepT {φ φ' : Fi} {H H' : Hp} (e : Ext φ H φ' H') {a : Addr} {o : HO} (n : a ∉ φ.c) (h : H a = some o) : ∃ o', H' a = some o' :=
  (e.keep a o n h).elim (fun z => ⟨_, z⟩) fun ⟨_, _, _, z⟩ => ⟨_, z⟩
theorem Ext.refl {φ : Fi} {H : Hp} : Ext φ H φ H := ⟨⟨[], by simp, fun _ h => by simp at h⟩, rfl, fun _ _ _ h => .inl h⟩
theorem Ext.outc {φ φ' : Fi} {H H' : Hp} (e : Ext φ H φ' H') {a : Addr} {o : HO} (n : a ∉ φ.c) (h : H a = some o) : a ∉ φ'.c := by
  obtain ⟨ψ, e1, p⟩ := e.pre
  rw [e1]
  intro q
  rcases List.mem_append.mp q with q | q
  · exact n q
  · have z := (p a q).2
    rw [h] at z; cases z
theorem Ext.out {φ φ' : Fi} {H H' : Hp} (e : Ext φ H φ' H') {a : Addr} {o : HO} (n : φ.out a) (h : H a = some o) : φ'.out a :=
  ⟨e.outc n.1 h, by rw [e.hid]; exact n.2⟩
theorem Ext.trans {φ φ1 φ2 : Fi} {H H1 H2 : Hp} (a : Ext φ H φ1 H1) (b : Ext φ1 H1 φ2 H2) : Ext φ H φ2 H2 := by
  refine ⟨?_, b.hid.trans a.hid, fun c o n h => ?_⟩
  case refine_2 =>
    rcases a.keep c o n h with q | ⟨od, nh, z, q⟩
    · rw [← a.hid]
      exact b.keep c o (a.outc n h) q
    · exact .inr ⟨od, nh, z, b.keepE (a.outc n h) q⟩
  obtain ⟨ψ, e1, p⟩ := a.pre
  obtain ⟨χ, e2, q⟩ := b.pre
  refine ⟨ψ ++ χ, by rw [e2, e1, List.append_assoc], fun c hc => ?_⟩
  rcases List.mem_append.mp hc with hc | hc
  · exact p c hc
  · obtain ⟨n1, n2⟩ := q c hc
    have nφ : c ∉ φ.c := fun z => n1 (by rw [e1]; exact List.mem_append_left _ z)
    refine ⟨nφ, ?_⟩
    cases hq : H c with
    | none => rfl
    | some o => obtain ⟨o', q⟩ := a.keepT nφ hq; rw [q] at n2; cases n2
theorem Ext.get {φ φ' : Fi} {H H' : Hp} (e : Ext φ H φ' H') {l : Nat} {a : Addr} (h : φ.c[l]? = some a) : φ'.c[l]? = some a := by
  obtain ⟨ψ, e1, _⟩ := e.pre
  rw [e1, List.getElem?_append_left (List.getElem?_eq_some_iff.mp h).1]; exact h
theorem Ext.rd {φ φ' : Fi} {H H' : Hp} (e : Ext φ H φ' H') {a : Addr} {u : HO} (n : φ.out a) (h : Rd H a u) : φ'.out a ∧ Rd H' a u := by
  rcases h with h | ⟨o, h⟩
  · refine ⟨e.out n h, ?_⟩
    rcases e.keep _ _ n.1 h with q | ⟨od, _, _, q⟩
    · exact .inl q
    · exact .inr ⟨od, q⟩
  · exact ⟨e.out n h, .inr ⟨o, e.keepE n.1 h⟩⟩

/-- how readings are kept -/
structure Kept (φ : Fi) (H : Hp) (φ' : Fi) (H' : Hp) : Prop where
  get : ∀ (l : Nat) (a : Addr), φ.c[l]? = some a → φ'.c[l]? = some a
  rd : ∀ a u, φ.out a → Rd H a u → φ'.out a ∧ Rd H' a u
  ins : ∀ a C dx fs, φ.out a → H a = some (.ins C dx fs) → φ'.out a ∧ H' a = some (.ins C dx fs)
  frz : ∀ a o u, φ.out a → H a = some (.frz o u) → φ'.out a ∧ H' a = some (.frz o u)
  ext : ∀ a p, φ.out a → H a = some (.ext p) → φ'.out a ∧ H' a = some (.ext p)
  xd : ∀ a fs, φ.out a → H a = some (.xd fs) → φ'.out a ∧ H' a = some (.xd fs)
theorem Ext.kept {φ φ' : Fi} {H H' : Hp} (e : Ext φ H φ' H') : Kept φ H φ' H' :=
  ⟨fun _ _ => e.get, fun _ _ => e.rd, fun _ _ _ _ n h => ⟨e.out n h, e.keepE n.1 h⟩, fun _ _ _ n h => ⟨e.out n h, e.keepE n.1 h⟩, fun _ _ n h => ⟨e.out n h, e.keepE n.1 h⟩, fun _ _ n h => ⟨e.out n h, e.keepE n.1 h⟩⟩

section
variable {G : Glb} {φ φ' : Fi} {H H' : Hp}
theorem RdL.kept (k : Kept φ H φ' H') {a : Addr} {xs : List V} (h : RdL G φ H a xs) : RdL G φ' H' a xs := by
  rcases h with ⟨n, h⟩ | h
  · exact .inl (k.rd _ _ n h)
  · exact .inr h
theorem RdT.kept (k : Kept φ H φ' H') {a : Addr} {xs : List V} (h : RdT G φ H a xs) : RdT G φ' H' a xs := by
  rcases h with ⟨n, h⟩ | h
  · exact .inl (k.rd _ _ n h)
  · exact .inr h
mutual
theorem Is.kept (k : Kept φ H φ' H') : ∀ {d : D} {v : V}, Is G φ H d v → Is G φ' H' d v
  | .non, v, h => h
  | .bl b, v, h => h
  | .int i, v, h => h
  | .str x, v, h => h
  | .tup ds, v, h => by
    obtain ⟨a, xs, e, r, q⟩ := h
    exact ⟨a, xs, e, r.kept k, IsL.kept k q⟩
  | .lst ds, v, h => by
    obtain ⟨a, xs, e, r, q⟩ := h
    exact ⟨a, xs, e, r.kept k, IsL.kept k q⟩
  | .dic ks ds, v, h => by
    obtain ⟨a, kvs, e, ⟨n, r⟩, z, q⟩ := h
    exact ⟨a, kvs, e, k.rd _ _ n r, z, IsL.kept k q⟩
  | .obj c ks ds, v, h => by
    obtain ⟨a, C, dx, fs, e, ⟨n, r⟩, c, z, q⟩ := h
    exact ⟨a, C, dx, fs, e, k.ins _ _ _ _ n r, c, z, IsL.kept k q⟩
  | .loc l, v, h => by
    obtain ⟨a, p, e⟩ := h
    exact ⟨a, k.get _ _ p, e⟩
  | .dct ks ds, v, h => by
    obtain ⟨a, kvs, e, ⟨n, r⟩, z, q⟩ := h
    exact ⟨a, kvs, e, k.rd _ _ n r, z, IsL.kept k q⟩
  | .exn c ks ds, v, h => by
    obtain ⟨a, C, d, e, ⟨n, r⟩, c, z⟩ := h
    refine ⟨a, C, d, e, k.ext _ _ n r, c, ?_⟩
    rcases z with z | ⟨b, fs, e1, ⟨n1, r1⟩, e2, q⟩
    · exact .inl z
    · exact .inr ⟨b, fs, e1, k.xd _ _ n1 r1, e2, IsL.kept k q⟩
  | .tpl ds, v, h => by
    obtain ⟨a, xs, o, e, ⟨n, r, r2⟩, q⟩ := h
    have z := k.frz _ _ _ n r
    exact ⟨a, xs, o, e, ⟨z.1, z.2, r2⟩, IsL.kept k q⟩
theorem IsL.kept (k : Kept φ H φ' H') : ∀ {ds : List D} {xs : List V}, IsL G φ H ds xs → IsL G φ' H' ds xs
  | [], xs, h => h
  | d :: ds, xs, h => by
    obtain ⟨x, r, e, p, q⟩ := h
    exact ⟨x, r, e, Is.kept k p, IsL.kept k q⟩
end
theorem Is.ext (e : Ext φ H φ' H') {d : D} {v : V} (h : Is G φ H d v) : Is G φ' H' d v := Is.kept e.kept h
theorem IsL.ext (e : Ext φ H φ' H') {ds : List D} {xs : List V} (h : IsL G φ H ds xs) : IsL G φ' H' ds xs := IsL.kept e.kept h
theorem RdL.seq {a : Addr} {xs : List V} (h : RdL G φ H a xs) : SqL G.K H a xs := by
  rcases h with ⟨_, h⟩ | h
  · exact .inl h
  · exact .inr h
theorem RdT.seq {a : Addr} {xs : List V} (h : RdT G φ H a xs) : SqT G.K H a xs := by
  rcases h with ⟨_, h⟩ | h
  · exact .inl h
  · exact .inr h
theorem IsL.length : ∀ {ds : List D} {xs : List V}, IsL G φ H ds xs → ds.length = xs.length
  | [], xs, h => by cases (show xs = [] from h); rfl
  | d :: ds, xs, h => by
    obtain ⟨x, r, rfl, _, q⟩ := h
    simp [IsL.length q]
theorem IsL.get : ∀ {ds : List D} {xs : List V} {i : Nat} {d : D}, IsL G φ H ds xs → ds[i]? = some d → ∃ x, xs[i]? = some x ∧ Is G φ H d x
  | [], _, _, _, _, e => by simp at e
  | d :: ds, xs, 0, d', h, e => by
    obtain ⟨x, r, rfl, p, q⟩ := h
    simp at e; subst e
    exact ⟨x, rfl, p⟩
  | d :: ds, xs, i + 1, d', h, e => by
    obtain ⟨x, r, rfl, p, q⟩ := h
    simpa using IsL.get q (by simpa using e)
theorem IsL.append : ∀ {ds es : List D} {xs ys : List V}, IsL G φ H ds xs → IsL G φ H es ys → IsL G φ H (ds ++ es) (xs ++ ys)
  | [], es, xs, ys, h, k => by cases (show xs = [] from h); exact k
  | d :: ds, es, xs, ys, h, k => by
    obtain ⟨x, r, rfl, p, q⟩ := h
    exact ⟨x, r ++ ys, rfl, p, IsL.append q k⟩
theorem IsL.set : ∀ {ds : List D} {xs : List V} {d : D} {x : V} (i : Nat), IsL G φ H ds xs → Is G φ H d x → IsL G φ H (ds.set i d) (xs.set i x)
  | [], xs, _, _, _, h, _ => by cases (show xs = [] from h); exact rfl
  | _ :: _, xs, d', x', 0, h, k => by
    obtain ⟨x, r, rfl, p, q⟩ := h
    exact ⟨x', r, rfl, k, q⟩
  | _ :: _, xs, d', x', i + 1, h, k => by
    obtain ⟨x, r, rfl, p, q⟩ := h
    exact ⟨x, _, rfl, p, IsL.set i q k⟩
theorem IsL.take : ∀ {ds : List D} {xs : List V} (n : Nat), IsL G φ H ds xs → IsL G φ H (ds.take n) (xs.take n)
  | _, _, 0, _ => by simp [IsL]
  | [], xs, n + 1, h => by cases (show xs = [] from h); exact rfl
  | _ :: _, xs, n + 1, h => by
    obtain ⟨x, r, rfl, p, q⟩ := h
    exact ⟨x, _, rfl, p, IsL.take n q⟩
theorem IsL.drop : ∀ {ds : List D} {xs : List V} (n : Nat), IsL G φ H ds xs → IsL G φ H (ds.drop n) (xs.drop n)
  | _, _, 0, h => h
  | [], xs, n + 1, h => by cases (show xs = [] from h); exact rfl
  | _ :: _, xs, n + 1, h => by
    obtain ⟨x, r, rfl, p, q⟩ := h
    exact IsL.drop n q
theorem IsL.one {d : D} {x : V} (h : Is G φ H d x) : IsL G φ H [d] [x] := ⟨x, [], rfl, h, rfl⟩
theorem IsL.cons {d : D} {x : V} {ds : List D} {xs : List V} (h : Is G φ H d x) (k : IsL G φ H ds xs) : IsL G φ H (d :: ds) (x :: xs) := ⟨x, xs, rfl, h, k⟩
theorem IsL.reverse : ∀ {ds : List D} {xs : List V}, IsL G φ H ds xs → IsL G φ H ds.reverse xs.reverse
  | [], xs, h => by cases (show xs = [] from h); exact rfl
  | d :: ds, xs, h => by
    obtain ⟨x, r, rfl, p, q⟩ := h
    rw [List.reverse_cons, List.reverse_cons]
    exact IsL.append (IsL.reverse q) (.one p)
theorem IsL.ints : ∀ {ns : List Int} {xs : List V}, IsL G φ H (ns.map D.int) xs → xs = ns.map V.int
  | [], xs, h => h
  | n :: ns, xs, h => by
    obtain ⟨x, r, rfl, p, q⟩ := h
    rw [IsL.ints q, show x = V.int n from p]; rfl
theorem IsL.of_ints : ∀ {ns : List Int}, IsL G φ H (ns.map D.int) (ns.map V.int)
  | [] => rfl
  | n :: ns => ⟨_, _, rfl, rfl, IsL.of_ints⟩
theorem IsL.bls : ∀ {ns : List Bool} {xs : List V}, IsL G φ H (ns.map D.bl) xs → xs = ns.map V.bl
  | [], xs, h => h
  | n :: ns, xs, h => by
    obtain ⟨x, r, rfl, p, q⟩ := h
    rw [IsL.bls q, show x = V.bl n from p]; rfl
end

/-- a cell as it lies at its address -/
def CellOk (G : Glb) (φ : Fi) (H : Hp) (a : Addr) : Cell → Prop
  | .lst ds => ∃ xs, H a = some (.lst xs) ∧ IsL G φ H ds xs
  | .dic kvs => ∃ ws, H a = some (.dK ws) ∧ ws.map (·.1) = kvs.map (·.1) ∧ IsL G φ H (kvs.map (·.2)) (ws.map (·.2))
  | .dct kvs => ∃ ws, H a = some (.dT ws) ∧ ws.map (·.1) = kvs.map (·.1) ∧ IsL G φ H (kvs.map (·.2)) (ws.map (·.2))
  | .ins c fs => ∃ C dx ws, G.ca c = some C ∧ H a = some (.ins C dx ws) ∧ ws.map (·.1) = fs.map (·.1) ∧ IsL G φ H (fs.map (·.2)) (ws.map (·.2))
structure SOk (G : Glb) (φ : Fi) (S : Store) (H : Hp) : Prop where
  len : φ.c.length = S.length
  nd : φ.c.Nodup
  hid : ∀ a ∈ φ.h, a ∉ φ.c ∧ ∃ o, H a = some o
  cell : ∀ (l : Nat) (c : Cell), S[l]? = some c → ∃ a, φ.c[l]? = some a ∧ CellOk G φ H a c

section
variable {G : Glb} {φ φ' : Fi} {H H' : Hp} {S : Store}
theorem CellOk.some {a : Addr} {c : Cell} (h : CellOk G φ H a c) : ∃ o, H a = some o := by
  cases c with
  | lst ds => obtain ⟨xs, h, _⟩ := h; exact ⟨_, h⟩
  | dic kvs => obtain ⟨xs, h, _⟩ := h; exact ⟨_, h⟩
  | ins c fs => obtain ⟨C, dx, ws, _, h, _⟩ := h; exact ⟨_, h⟩
  | dct kvs => obtain ⟨xs, h, _⟩ := h; exact ⟨_, h⟩
theorem CellOk.move {a : Addr} {c : Cell} (k : Kept φ H φ' H') (e : H' a = H a) (h : CellOk G φ H a c) : CellOk G φ' H' a c := by
  cases c with
  | lst ds => obtain ⟨xs, h, q⟩ := h; exact ⟨xs, by rw [e]; exact h, q.kept k⟩
  | dic kvs => obtain ⟨xs, h, z, q⟩ := h; exact ⟨xs, by rw [e]; exact h, z, q.kept k⟩
  | ins c fs => obtain ⟨C, dx, ws, z, h, y, q⟩ := h; exact ⟨C, dx, ws, z, by rw [e]; exact h, y, q.kept k⟩
  | dct kvs => obtain ⟨xs, h, z, q⟩ := h; exact ⟨xs, by rw [e]; exact h, z, q.kept k⟩
theorem SOk.there (s : SOk G φ S H) {a : Addr} (h : a ∈ φ.c) : ∃ o, H a = some o := by
  obtain ⟨l, hl, e⟩ := List.getElem_of_mem h
  have hS : l < S.length := by rw [← s.len]; exact hl
  obtain ⟨b, hb, c⟩ := s.cell l S[l] (List.getElem?_eq_getElem hS)
  rw [List.getElem?_eq_getElem hl, e] at hb
  cases hb
  exact c.some
theorem SOk.freshc (s : SOk G φ S H) {a : Addr} (h : H a = none) : a ∉ φ.c := fun q => by
  obtain ⟨o, e⟩ := s.there q
  rw [h] at e; cases e
theorem SOk.freshh (s : SOk G φ S H) {a : Addr} (h : H a = none) : a ∉ φ.h := fun q => by
  obtain ⟨_, o, e⟩ := s.hid a q
  rw [h] at e; cases e
theorem SOk.fresh (s : SOk G φ S H) {a : Addr} (h : H a = none) : φ.out a := ⟨s.freshc h, s.freshh h⟩
/-- a new object that is not of the store -/
theorem Ext.laid {a : Addr} {o : HO} (h : H a = none) : Ext φ H φ (upd H a o) :=
  ⟨⟨[], by simp, fun _ q => by simp at q⟩, rfl, fun b u _ e => .inl (by rw [upd_ne (ne_of_none e h)]; exact e)⟩
theorem SOk.step (s : SOk G φ S H) (e : Ext φ H φ H') (k : ∀ a ∈ φ.c, H' a = H a) : SOk G φ S H' :=
  ⟨s.len, s.nd, fun a ha => let ⟨n, o, q⟩ := s.hid a ha; ⟨n, e.keepT n q⟩, fun l c h => by
    obtain ⟨a, ha, hc⟩ := s.cell l c h
    exact ⟨a, ha, hc.move e.kept (k a (List.mem_of_getElem? ha))⟩⟩
theorem SOk.laid (s : SOk G φ S H) {a : Addr} {o : HO} (h : H a = none) : SOk G φ S (upd H a o) :=
  s.step (.laid h) fun b hb => upd_ne fun q => by subst q; exact s.freshc h hb
/-- a new cell -/
def Fi.add (φ : Fi) (a : Addr) : Fi := ⟨φ.c ++ [a], φ.h⟩
theorem Ext.newCell {a : Addr} {o : HO} (s : SOk G φ S H) (h : H a = none) : Ext φ H (φ.add a) (upd H a o) :=
  ⟨⟨[a], rfl, fun b hb => by simp at hb; subst hb; exact ⟨s.freshc h, h⟩⟩, rfl, fun b u _ e => .inl (by rw [upd_ne (ne_of_none e h)]; exact e)⟩
theorem SOk.newCell (s : SOk G φ S H) {a : Addr} {o : HO} {c : Cell} (h : H a = none) (hc : CellOk G (φ.add a) (upd H a o) a c) : SOk G (φ.add a) (S ++ [c]) (upd H a o) := by
  refine ⟨by simp [Fi.add, s.len], ?_, fun b hb => ?_, fun l d hl => ?_⟩
  · refine List.nodup_append.mpr ⟨s.nd, by simp, fun x hx y hy => ?_⟩
    simp at hy; subst hy
    intro e; subst e; exact s.freshc h hx
  · obtain ⟨n, u, e⟩ := s.hid b hb
    have nb : b ≠ a := ne_of_none e h
    exact ⟨fun z => (List.mem_append.mp z).elim n fun z => nb (by simpa using z), u, by rw [upd_ne nb]; exact e⟩
  · by_cases q : l < S.length
    · rw [List.getElem?_append_left q] at hl
      obtain ⟨b, hb, kb⟩ := s.cell l d hl
      refine ⟨b, (Ext.newCell (o := o) s h).get hb, kb.move (Ext.newCell (o := o) s h).kept (upd_ne fun z => ?_)⟩
      subst z; exact s.freshc h (List.mem_of_getElem? hb)
    · rw [List.getElem?_append_right (Nat.le_of_not_lt q)] at hl
      have e : l = S.length := by
        have := (List.getElem?_eq_some_iff.mp hl).1
        simp at this; omega
      subst e
      simp at hl; subst hl
      exact ⟨a, by rw [← s.len]; simp [Fi.add], hc⟩
/-- a cell is written -/
theorem Ext.put {a : Addr} {o : HO} (h : a ∈ φ.c) : Ext φ H φ (upd H a o) :=
  ⟨⟨[], by simp, fun _ q => by simp at q⟩, rfl, fun b u n e => .inl (by rw [upd_ne (fun z => n (by rw [z]; exact h))]; exact e)⟩
theorem SOk.put (s : SOk G φ S H) {l : Nat} {a : Addr} {o : HO} {c : Cell} (ha : φ.c[l]? = some a) (hc : CellOk G φ (upd H a o) a c) : SOk G φ (S.set l c) (upd H a o) := by
  have hl : l < S.length := by rw [← s.len]; exact (List.getElem?_eq_some_iff.mp ha).1
  refine ⟨by simp [s.len], s.nd, fun b hb => ?_, fun i d hd => ?_⟩
  · obtain ⟨n, u, e⟩ := s.hid b hb
    exact ⟨n, u, by rw [upd_ne (fun z => n (by rw [z]; exact List.mem_of_getElem? ha))]; exact e⟩
  · by_cases q : i = l
    · subst q
      rw [List.getElem?_set_self hl] at hd
      cases hd
      exact ⟨a, ha, hc⟩
    · rw [List.getElem?_set_ne (fun z => q z.symm)] at hd
      obtain ⟨b, hb, kb⟩ := s.cell i d hd
      refine ⟨b, hb, kb.move (Ext.put (List.mem_of_getElem? ha)).kept (upd_ne fun z => ?_)⟩
      subst z
      exact q (nd_ix s.nd hb ha)
theorem SOk.at_ (s : SOk G φ S H) {l : Nat} {c : Cell} {a : Addr} (h : S[l]? = some c) (ha : φ.c[l]? = some a) : CellOk G φ H a c := by
  obtain ⟨b, hb, k⟩ := s.cell l c h
  rw [ha] at hb; cases hb; exact k
/-- a hidden object -/
def Fi.hide (φ : Fi) (a : Addr) : Fi := ⟨φ.c, a :: φ.h⟩
theorem Kept.hide {a : Addr} {o : HO} (h : H a = none) : Kept φ H (φ.hide a) (upd H a o) := by
  have no : ∀ {b : Addr} {u : HO}, φ.out b → Rd H b u → (φ.hide a).out b := fun {b u} n r => ⟨n.1, fun q => (List.mem_cons.mp q).elim (fun z => by
    subst z
    rcases r with r | ⟨_, r⟩ <;> rw [h] at r <;> cases r) n.2⟩
  refine ⟨fun _ _ q => q, fun b u n r => ⟨no n r, ?_⟩, fun b C dx fs n r => ⟨no (u := .ins C dx fs) n (.inl r), ?_⟩, fun b o u n r => ⟨no (u := .frz o u) n (.inl r), ?_⟩, fun b p n r => ⟨no (u := .ext p) n (.inl r), ?_⟩, fun b p n r => ⟨no (u := .xd p) n (.inl r), ?_⟩⟩
  · rcases r with r | ⟨w, r⟩
    · exact .inl (by rw [upd_ne (ne_of_none r h)]; exact r)
    · exact .inr ⟨w, by rw [upd_ne (ne_of_none r h)]; exact r⟩
  · rw [upd_ne (ne_of_none r h)]; exact r
  · rw [upd_ne (ne_of_none r h)]; exact r
  · rw [upd_ne (ne_of_none r h)]; exact r
  · rw [upd_ne (ne_of_none r h)]; exact r
theorem Kept.show_ {a : Addr} : Kept (φ.hide a) H φ H :=
  ⟨fun _ _ q => q, fun b u n r => ⟨⟨n.1, fun z => n.2 (List.mem_cons_of_mem _ z)⟩, r⟩, fun b C dx fs n r => ⟨⟨n.1, fun z => n.2 (List.mem_cons_of_mem _ z)⟩, r⟩, fun b o u n r => ⟨⟨n.1, fun z => n.2 (List.mem_cons_of_mem _ z)⟩, r⟩, fun b p n r => ⟨⟨n.1, fun z => n.2 (List.mem_cons_of_mem _ z)⟩, r⟩, fun b p n r => ⟨⟨n.1, fun z => n.2 (List.mem_cons_of_mem _ z)⟩, r⟩⟩
/-- the hidden object changes -/
theorem Kept.hidden {a : Addr} {o : HO} (hm : a ∈ φ.h) : Kept φ H φ (upd H a o) := by
  have nb : ∀ {b : Addr}, φ.out b → b ≠ a := fun n z => n.2 (by rw [z]; exact hm)
  refine ⟨fun _ _ q => q, fun b u n r => ⟨n, ?_⟩, fun b C dx fs n r => ⟨n, by rw [upd_ne (nb n)]; exact r⟩, fun b o u n r => ⟨n, by rw [upd_ne (nb n)]; exact r⟩, fun b p n r => ⟨n, by rw [upd_ne (nb n)]; exact r⟩, fun b p n r => ⟨n, by rw [upd_ne (nb n)]; exact r⟩⟩
  rcases r with r | ⟨w, r⟩
  · exact .inl (by rw [upd_ne (nb n)]; exact r)
  · exact .inr ⟨w, by rw [upd_ne (nb n)]; exact r⟩
theorem SOk.hide (s : SOk G φ S H) {a : Addr} {o : HO} (h : H a = none) : SOk G (φ.hide a) S (upd H a o) := by
  refine ⟨s.len, s.nd, fun b hb => ?_, fun l c hl => ?_⟩
  · rcases List.mem_cons.mp hb with rfl | hb
    · exact ⟨s.freshc h, o, upd_same⟩
    · obtain ⟨n, u, e⟩ := s.hid b hb
      exact ⟨n, u, by rw [upd_ne (ne_of_none e h)]; exact e⟩
  · obtain ⟨b, hb, kb⟩ := s.cell l c hl
    exact ⟨b, hb, kb.move (Kept.hide h) (upd_ne fun z => by subst z; exact s.freshc h (List.mem_of_getElem? hb))⟩
theorem SOk.show_ {a : Addr} (s : SOk G (φ.hide a) S H) : SOk G φ S H :=
  ⟨s.len, s.nd, fun b hb => s.hid b (List.mem_cons_of_mem _ hb), fun l c hl => let ⟨b, hb, kb⟩ := s.cell l c hl; ⟨b, hb, kb.move Kept.show_ rfl⟩⟩
theorem SOk.hidden (s : SOk G φ S H) {a : Addr} {o : HO} (hm : a ∈ φ.h) : SOk G φ S (upd H a o) := by
  refine ⟨s.len, s.nd, fun b hb => ?_, fun l c hl => ?_⟩
  · obtain ⟨n, u, e⟩ := s.hid b hb
    by_cases q : b = a
    · subst q; exact ⟨n, o, upd_same⟩
    · exact ⟨n, u, by rw [upd_ne q]; exact e⟩
  · obtain ⟨b, hb, kb⟩ := s.cell l c hl
    exact ⟨b, hb, kb.move (Kept.hidden hm) (upd_ne fun z => by subst z; exact (s.hid _ hm).1 (List.mem_of_getElem? hb))⟩
end
end DL
end
section
/-! D-layer, part 1: what expressions and statements give, the judgements. -/
namespace DL
open PySem L2

structure Exc where
  cls : Str
  fld : Option (Str × D)

inductive ER where
  | ok (d : D) (S : Store)
  | ex (x : Exc) (S : Store)
  | bad
inductive LR where
  | ok (ds : List D) (S : Store)
  | ex (x : Exc) (S : Store)
  | bad
inductive SR where
  | nx (e : EnvD) (S : Store)
  | rt (d : D) (S : Store)
  | bk (e : EnvD) (S : Store)
  | ct (e : EnvD) (S : Store)
  | ex (x : Exc) (e : EnvD) (S : Store)
  | bad
abbrev EM := EnvD → Store → ER
abbrev LM := EnvD → Store → LR
abbrev SM := EnvD → Store → SR
abbrev FD := List D → Store → ER

def ER.bind (r : ER) (g : D → Store → ER) : ER := match r with
  | .ok d S => g d S
  | .ex x S => .ex x S
  | .bad => .bad
def ER.bindL (r : ER) (g : D → Store → LR) : LR := match r with
  | .ok d S => g d S
  | .ex x S => .ex x S
  | .bad => .bad
def LR.bind (r : LR) (g : List D → Store → LR) : LR := match r with
  | .ok d S => g d S
  | .ex x S => .ex x S
  | .bad => .bad
def LR.bindE (r : LR) (g : List D → Store → ER) : ER := match r with
  | .ok d S => g d S
  | .ex x S => .ex x S
  | .bad => .bad
def ER.bindS (r : ER) (e : EnvD) (g : D → Store → SR) : SR := match r with
  | .ok d S => g d S
  | .ex x S => .ex x e S
  | .bad => .bad
def LR.bindS (r : LR) (e : EnvD) (g : List D → Store → SR) : SR := match r with
  | .ok d S => g d S
  | .ex x S => .ex x e S
  | .bad => .bad
def SR.seq (r : SR) (g : EnvD → Store → SR) : SR := match r with
  | .nx e S => g e S
  | r => r

/-- an exception as it lies -/
def IsX (G : Glb) (φ : Fi) (H : Hp) (x : Exc) (cls : Value) (dx : Option Addr) : Prop :=
  ∃ C, G.ce x.cls = some C ∧ cls = .ref C ∧ match x.fld with
    | none => dx = none
    | some (f, d) => ∃ a v, dx = some a ∧ φ.out a ∧ H a = some (.xd [(f, v)]) ∧ Is G φ H d v
theorem IsX.ext {G : Glb} {φ φ' : Fi} {H H' : Hp} (e : Ext φ H φ' H') {x : Exc} {cls : Value} {dx : Option Addr} (h : IsX G φ H x cls dx) : IsX G φ' H' x cls dx := by
  obtain ⟨C, a, b, q⟩ := h
  refine ⟨C, a, b, ?_⟩
  cases hx : x.fld with
  | none => rw [hx] at q; exact q
  | some p =>
    rw [hx] at q
    obtain ⟨a', v, e1, n, e2, i⟩ := q
    exact ⟨a', v, e1, e.out n e2, e.keepE n.1 e2, i.ext e⟩

def RepE (G : Glb) (φ : Fi) (H : Hp) (σ : St) (env : EnvD) : Prop :=
  σ.length = env.length ∧ ∀ (i : Nat) (d : D), env[i]? = some (some d) → ∃ v, σ[i]? = some (some v) ∧ Is G φ H d v
theorem RepE.kept {G : Glb} {φ φ' : Fi} {H H' : Hp} {σ : St} {env : EnvD} (k : Kept φ H φ' H') (h : RepE G φ H σ env) : RepE G φ' H' σ env :=
  ⟨h.1, fun i d e => let ⟨v, a, b⟩ := h.2 i d e; ⟨v, a, b.kept k⟩⟩
theorem RepE.ext {G : Glb} {φ φ' : Fi} {H H' : Hp} {σ : St} {env : EnvD} (e : Ext φ H φ' H') (h : RepE G φ H σ env) : RepE G φ' H' σ env := h.kept e.kept
theorem RepE.set {G : Glb} {φ : Fi} {H : Hp} {σ : St} {env : EnvD} (h : RepE G φ H σ env) {d : D} {v : V} (k : Is G φ H d v) (i : Nat) : RepE G φ H (σ.set i (some v)) (env.set i (some d)) := by
  refine ⟨by simp [h.1], fun j d' e => ?_⟩
  by_cases q : i = j
  · subst q
    by_cases hl : i < env.length
    · rw [List.getElem?_set_self hl] at e
      cases e
      exact ⟨v, by rw [List.getElem?_set_self (by rw [h.1]; exact hl)], k⟩
    · rw [List.getElem?_eq_none (by simpa using hl)] at e; cases e
  · rw [List.getElem?_set_ne q] at e
    obtain ⟨w, a, b⟩ := h.2 j d' e
    exact ⟨w, by rw [List.getElem?_set_ne q]; exact a, b⟩
def wipeD (env : EnvD) : List Nat → EnvD
  | [] => env
  | v :: vs => (wipeD env vs).set v none
theorem RepE.wipe {G : Glb} {φ : Fi} {H : Hp} {σ : St} {env : EnvD} (h : RepE G φ H σ env) : ∀ vs : List Nat, RepE G φ H (wipe σ vs) (wipeD env vs)
  | [] => h
  | w :: vs => by
    have ih := RepE.wipe h vs
    refine ⟨by simp [L2.wipe, wipeD, ih.1], fun j d' e => ?_⟩
    unfold wipeD at e
    unfold L2.wipe
    by_cases q : w = j
    · subst q
      by_cases hl : w < (wipeD env vs).length
      · rw [List.getElem?_set_self hl] at e; cases e
      · rw [List.getElem?_eq_none (by simpa using hl)] at e; cases e
    · rw [List.getElem?_set_ne q] at e ⊢
      exact ih.2 j d' e

section
variable (G : Glb) (W : WX) (φ : Fi) (H : Hp) (σ : St)
def PostE (r : ER) (Q : VK) : Prop := match r with
  | .ok d S => ∀ φ' H' v, Ext φ H φ' H' → SOk G φ' S H' → Is G φ' H' d v → Q v H'
  | .ex x S => ∀ φ' H' cls dx, Ext φ H φ' H' → SOk G φ' S H' → IsX G φ' H' x cls dx → W cls dx σ H'
  | .bad => False
def PostL (r : LR) (Q : List V → Hp → Prop) : Prop := match r with
  | .ok d S => ∀ φ' H' v, Ext φ H φ' H' → SOk G φ' S H' → IsL G φ' H' d v → Q v H'
  | .ex x S => ∀ φ' H' cls dx, Ext φ H φ' H' → SOk G φ' S H' → IsX G φ' H' x cls dx → W cls dx σ H'
  | .bad => False
def PostS (r : SR) (N : Ends) : Prop := match r with
  | .nx e S => ∀ φ' H' σ', Ext φ H φ' H' → SOk G φ' S H' → RepE G φ' H' σ' e → N.nx σ' H'
  | .rt d S => ∀ φ' H' v, Ext φ H φ' H' → SOk G φ' S H' → Is G φ' H' d v → N.rt v H'
  | .bk e S => ∀ φ' H' σ', Ext φ H φ' H' → SOk G φ' S H' → RepE G φ' H' σ' e → N.bk σ' H'
  | .ct e S => ∀ φ' H' σ', Ext φ H φ' H' → SOk G φ' S H' → RepE G φ' H' σ' e → N.ct σ' H'
  | .ex x e S => ∀ φ' H' σ' cls dx, Ext φ H φ' H' → SOk G φ' S H' → RepE G φ' H' σ' e → IsX G φ' H' x cls dx → W cls dx σ' H'
  | .bad => False
end

section
variable {G : Glb} {W : WX} {φ φ' : Fi} {H H' : Hp} {σ : St}
theorem PostE.ext (e : Ext φ H φ' H') {r : ER} {Q : VK} (h : PostE G W φ H σ r Q) : PostE G W φ' H' σ r Q := by
  cases r with
  | ok d S => exact fun φ2 H2 v e2 s i => h φ2 H2 v (e.trans e2) s i
  | ex x S => exact fun φ2 H2 c d e2 s i => h φ2 H2 c d (e.trans e2) s i
  | bad => exact h
theorem PostL.ext (e : Ext φ H φ' H') {r : LR} {Q : List V → Hp → Prop} (h : PostL G W φ H σ r Q) : PostL G W φ' H' σ r Q := by
  cases r with
  | ok d S => exact fun φ2 H2 v e2 s i => h φ2 H2 v (e.trans e2) s i
  | ex x S => exact fun φ2 H2 c d e2 s i => h φ2 H2 c d (e.trans e2) s i
  | bad => exact h
theorem PostS.ext (e : Ext φ H φ' H') {r : SR} {N : Ends} (h : PostS G W φ H r N) : PostS G W φ' H' r N := by
  cases r with
  | nx d S => exact fun φ2 H2 v e2 s i => h φ2 H2 v (e.trans e2) s i
  | rt d S => exact fun φ2 H2 v e2 s i => h φ2 H2 v (e.trans e2) s i
  | bk d S => exact fun φ2 H2 v e2 s i => h φ2 H2 v (e.trans e2) s i
  | ct d S => exact fun φ2 H2 v e2 s i => h φ2 H2 v (e.trans e2) s i
  | ex x d S => exact fun φ2 H2 v c dx e2 s i => h φ2 H2 v c dx (e.trans e2) s i
  | bad => exact h
/-- the ways on -/
theorem PostE.bind {r : ER} {g : D → Store → ER} {Q Q' : VK} (h : PostE G W φ H σ (r.bind g) Q)
    (k : ∀ d S φ' H' v, Ext φ H φ' H' → SOk G φ' S H' → Is G φ' H' d v → PostE G W φ' H' σ (g d S) Q → Q' v H') : PostE G W φ H σ r Q' := by
  cases r with
  | ok d S => exact fun φ2 H2 v e s i => k d S φ2 H2 v e s i (PostE.ext (r := g d S) e h)
  | ex x S => exact h
  | bad => exact h
theorem PostE.bindL {r : ER} {g : D → Store → LR} {Q : List V → Hp → Prop} {Q' : VK} (h : PostL G W φ H σ (r.bindL g) Q)
    (k : ∀ d S φ' H' v, Ext φ H φ' H' → SOk G φ' S H' → Is G φ' H' d v → PostL G W φ' H' σ (g d S) Q → Q' v H') : PostE G W φ H σ r Q' := by
  cases r with
  | ok d S => exact fun φ2 H2 v e s i => k d S φ2 H2 v e s i (PostL.ext (r := g d S) e h)
  | ex x S => exact h
  | bad => exact h
theorem PostL.bind {r : LR} {g : List D → Store → LR} {Q Q' : List V → Hp → Prop} (h : PostL G W φ H σ (r.bind g) Q)
    (k : ∀ d S φ' H' v, Ext φ H φ' H' → SOk G φ' S H' → IsL G φ' H' d v → PostL G W φ' H' σ (g d S) Q → Q' v H') : PostL G W φ H σ r Q' := by
  cases r with
  | ok d S => exact fun φ2 H2 v e s i => k d S φ2 H2 v e s i (PostL.ext (r := g d S) e h)
  | ex x S => exact h
  | bad => exact h
theorem PostL.bindE {r : LR} {g : List D → Store → ER} {Q : VK} {Q' : List V → Hp → Prop} (h : PostE G W φ H σ (r.bindE g) Q)
    (k : ∀ d S φ' H' v, Ext φ H φ' H' → SOk G φ' S H' → IsL G φ' H' d v → PostE G W φ' H' σ (g d S) Q → Q' v H') : PostL G W φ H σ r Q' := by
  cases r with
  | ok d S => exact fun φ2 H2 v e s i => k d S φ2 H2 v e s i (PostE.ext (r := g d S) e h)
  | ex x S => exact h
  | bad => exact h
theorem PostE.bindS {r : ER} {env : EnvD} (re : RepE G φ H σ env) {g : D → Store → SR} {N : Ends} {Q' : VK} (h : PostS G W φ H (r.bindS env g) N)
    (k : ∀ d S φ' H' v, Ext φ H φ' H' → SOk G φ' S H' → Is G φ' H' d v → PostS G W φ' H' (g d S) N → Q' v H') : PostE G W φ H σ r Q' := by
  cases r with
  | ok d S => exact fun φ2 H2 v e s i => k d S φ2 H2 v e s i (PostS.ext (r := g d S) e h)
  | ex x S => exact fun φ2 H2 c d e s i => h φ2 H2 σ c d e s (re.ext e) i
  | bad => exact h
theorem PostL.bindS {r : LR} {env : EnvD} (re : RepE G φ H σ env) {g : List D → Store → SR} {N : Ends} {Q' : List V → Hp → Prop} (h : PostS G W φ H (r.bindS env g) N)
    (k : ∀ d S φ' H' v, Ext φ H φ' H' → SOk G φ' S H' → IsL G φ' H' d v → PostS G W φ' H' (g d S) N → Q' v H') : PostL G W φ H σ r Q' := by
  cases r with
  | ok d S => exact fun φ2 H2 v e s i => k d S φ2 H2 v e s i (PostS.ext (r := g d S) e h)
  | ex x S => exact fun φ2 H2 c d e s i => h φ2 H2 σ c d e s (re.ext e) i
  | bad => exact h
theorem PostE.now {d : D} {S : Store} {v : V} {Q : VK} (h : PostE G W φ H σ (.ok d S) Q) (s : SOk G φ S H) (i : Is G φ H d v) : Q v H := h φ H v .refl s i
theorem PostL.now {d : List D} {S : Store} {v : List V} {Q : List V → Hp → Prop} (h : PostL G W φ H σ (.ok d S) Q) (s : SOk G φ S H) (i : IsL G φ H d v) : Q v H := h φ H v .refl s i
end

/-! ### the judgements -/
def DE (G : Glb) (X : Cx) (W : WX) (e : Expr) (f : EM) : Prop :=
  ∃ t, PE X e t ∧ ∀ σ H env φ S Q, SOk G φ S H → RepE G φ H σ env → PostE G W φ H σ (f env S) Q → t σ H Q
/-- a test -/
def PostT (G : Glb) (W : WX) (φ : Fi) (H : Hp) (σ : St) (r : ER) (Q : Bool → Hp → Prop) : Prop := PostE G W φ H σ (r.bind fun d S => match d with | .bl b => .ok (.bl b) S | _ => .bad) (fun v H' => ∀ b, v = .bl b → Q b H')
def DT (G : Glb) (X : Cx) (W : WX) (e : Expr) (f : EM) : Prop :=
  ∃ t, PT X e t ∧ ∀ σ H env φ S Q, SOk G φ S H → RepE G φ H σ env → PostT G W φ H σ (f env S) Q → t σ H Q
def DW (G : Glb) (X : Cx) (W : WX) (e : Expr) (f : EM) : Prop :=
  ∃ t, PW X e t ∧ ∀ σ H env φ S Q, SOk G φ S H → RepE G φ H σ env → PostT G W φ H σ (f env S) Q → t σ H Q
def DA (G : Glb) (X : Cx) (W : WX) (es : List Expr) (f : LM) : Prop :=
  ∃ t, PA X es t ∧ ∀ σ H env φ S Q, SOk G φ S H → RepE G φ H σ env → PostL G W φ H σ (f env S) Q → t σ H Q
def DS (G : Glb) (X : Cx) (W : WX) (st : Stmt) (f : SM) : Prop :=
  ∃ t, PS X st t ∧ ∀ σ H env φ S N, SOk G φ S H → RepE G φ H σ env → PostS G W φ H (f env S) N → t N σ H
def DSs (G : Glb) (X : Cx) (W : WX) (st : List Stmt) (f : SM) : Prop :=
  ∃ t, PSs X st t ∧ ∀ σ H env φ S N, SOk G φ S H → RepE G φ H σ env → PostS G W φ H (f env S) N → t N σ H
/-- alike but at some slots -/
def Off (vs : List Nat) (σ σ' : St) : Prop := σ'.length = σ.length ∧ ∀ j, j ∉ vs → σ'[j]? = σ[j]?
/-- a target; vs: the slots that it binds -/
def DG (G : Glb) (X : Cx) (tg : Expr) (b : D → EnvD → Option EnvD) (vs : List Nat) : Prop :=
  ∃ g, PG X tg g ∧ ∀ v d σ H env env' φ Q, Is G φ H d v → RepE G φ H σ env → b d env = some env' → (∀ σ', RepE G φ H σ' env' → Off vs σ σ' → Q σ' H) → g v σ H Q
def DGs (G : Glb) (X : Cx) (tgs : List Expr) (b : List D → EnvD → Option EnvD) (vs : List Nat) : Prop :=
  ∃ g, PGs X tgs g ∧ ∀ v d σ H env env' φ Q, IsL G φ H d v → RepE G φ H σ env → b d env = some env' → (∀ σ', RepE G φ H σ' env' → Off vs σ σ' → Q σ' H) → g v σ H Q

section
variable {G : Glb} {X : Cx} {W : WX}

/-! ### names and constants -/
def eVar (i : Nat) : EM := fun env S => match env[i]? with
  | some (some d) => .ok d S
  | _ => .bad
def eC (d : D) : EM := fun _ S => .ok d S
theorem de_var (i : Nat) {x : Str} {pos : Pos} (hN : X.N[i]? = some x := by rfl) (hv : Vis X.env.scope x := by first | exact Or.inl rfl | exact Or.inr (Or.inl rfl) | exact Or.inr (Or.inr rfl)) (hd : (x == ("__debug__" : Str)) = false := by decide)
    (hcd : (x == ("__classdict__" : Str)) = false := by decide) : DE G X W (.Name x pos) (eVar i) :=
  ⟨_, pe_var hN hv hd hcd, fun σ H env φ S Q s r h => by
    unfold eVar at h
    cases e : env[i]? with
    | none => rw [e] at h; exact h.elim
    | some o =>
      cases o with
      | none => rw [e] at h; exact h.elim
      | some d =>
        rw [e] at h
        obtain ⟨v, hv, k⟩ := r.2 i d e
        exact ⟨v, hv, h.now s k⟩⟩
theorem de_int {i : Int} {j pos} : DE G X W (.Constant (.int i) j pos) (eC (.int i)) := ⟨_, pe_int, fun _ _ _ _ _ _ s _ h => h.now s rfl⟩
theorem de_bl {i : Bool} {j pos} : DE G X W (.Constant (.bool i) j pos) (eC (.bl i)) := ⟨_, pe_bl, fun _ _ _ _ _ _ s _ h => h.now s rfl⟩
theorem de_non {j pos} : DE G X W (.Constant .none j pos) (eC .non) := ⟨_, pe_non, fun _ _ _ _ _ _ s _ h => h.now s rfl⟩
theorem de_str {x : Str} {j pos} : DE G X W (.Constant (.str x) j pos) (eC (.str x)) := ⟨_, pe_str, fun _ _ _ _ _ _ s _ h => h.now s rfl⟩
/-- a constant of the module: a number, a text, a truth, a tuple or list of such -/
theorem de_glob {x : Str} {d : D} {v : V} {u : Value} {pos : Pos} (hg : Gl X x) (hm : X.mg x = some u) (r : RelV v u) (hi : ∀ φ H, Is G φ H d v) (hd : (x == ("__debug__" : Str)) = false := by decide) : DE G X W (.Name x pos) (eC d) :=
  ⟨_, pe_glob hg hm r hd, fun _ _ _ _ _ _ s _ h => h.now s (hi _ _)⟩

/-! ### arguments -/
def lNil : LM := fun _ S => .ok [] S
def lCons (f : EM) (g : LM) : LM := fun env S => (f env S).bindL fun d S => (g env S).bind fun ds S => .ok (d :: ds) S
theorem da_nil : DA G X W [] lNil := ⟨_, pa_nil, fun _ _ _ _ _ _ s _ h => h.now s rfl⟩
theorem da_cons {e : Expr} {es : List Expr} {f : EM} {g : LM} (ha : DE G X W e f) (hb : DA G X W es g) (hs : starEach (e :: es) X.env = (false, eval e X.env) :: starEach es X.env := by rfl) : DA G X W (e :: es) (lCons f g) := by
  obtain ⟨ta, pa, qa⟩ := ha
  obtain ⟨tb, pb, qb⟩ := hb
  refine ⟨_, pa_cons pa pb hs, fun σ H env φ S Q s r h => ?_⟩
  refine qa σ H env φ S _ s r (PostE.bindL h fun d S1 φ1 H1 v e1 s1 i1 h1 => ?_)
  refine qb σ H1 env φ1 S1 _ s1 (r.ext e1) (PostL.bind h1 fun ds S2 φ2 H2 vs e2 s2 i2 h2 => ?_)
  exact h2.now s2 (.cons (i1.ext e2) i2)

/-! ### operators -/
/-- an operator by values -/
def DOp (G : Glb) (X : Cx) (f : Value → Value → Sem Value) (g : D → D → Store → ER) : Prop :=
  ∃ r, OpR X f r ∧ ∀ W φ S H σ dx dy x y Q, SOk G φ S H → Is G φ H dx x → Is G φ H dy y → PostE G W φ H σ (g dx dy S) Q → r x y H Q
def eOp (g : D → D → Store → ER) (a b : EM) : EM := fun env S => (a env S).bind fun x S => (b env S).bind fun y S => g x y S
theorem op_of {t ta tb : TE} {r : R2} {g : D → D → Store → ER} {fa fb : EM} (ha : ∀ σ H env φ S Q, SOk G φ S H → RepE G φ H σ env → PostE G W φ H σ (fa env S) Q → ta σ H Q)
    (hb : ∀ σ H env φ S Q, SOk G φ S H → RepE G φ H σ env → PostE G W φ H σ (fb env S) Q → tb σ H Q)
    (hr : ∀ W φ S H σ dx dy x y Q, SOk G φ S H → Is G φ H dx x → Is G φ H dy y → PostE G W φ H σ (g dx dy S) Q → r x y H Q) :
    ∀ σ H env φ S Q, SOk G φ S H → RepE G φ H σ env → PostE G W φ H σ (eOp g fa fb env S) Q → tOp r ta tb σ H Q := fun σ H env φ S Q s re h => by
  refine ha σ H env φ S _ s re (PostE.bind h fun d S1 φ1 H1 v e1 s1 i1 h1 => ?_)
  refine hb σ H1 env φ1 S1 _ s1 (re.ext e1) (PostE.bind h1 fun d2 S2 φ2 H2 v2 e2 s2 i2 h2 => ?_)
  exact hr W φ2 S2 H2 σ d d2 v v2 Q s2 (i1.ext e2) i2 h2
theorem de_op {op : Operator} {a b : Expr} {pos : Pos} {g : D → D → Store → ER} {fa fb : EM} (ho : DOp G X (binaryOp op) g) (ha : DE G X W a fa) (hb : DE G X W b fb) : DE G X W (.BinOp a op b pos) (eOp g fa fb) := by
  obtain ⟨r, hr, q⟩ := ho
  obtain ⟨ta, pa, qa⟩ := ha
  obtain ⟨tb, pb, qb⟩ := hb
  exact ⟨_, pe_op hr pa pb, op_of (t := ta) qa qb q⟩
theorem de_cmp {op : CmpOp} {a b : Expr} {pos : Pos} {g : D → D → Store → ER} {fa fb : EM} (ho : DOp G X (compareOp op) g) (ha : DE G X W a fa) (hb : DE G X W b fb) (hm : behindInMarks op b = false := by first | exact nomark _ | rfl) : DE G X W (.Compare a [op] [b] pos) (eOp g fa fb) := by
  obtain ⟨r, hr, q⟩ := ho
  obtain ⟨ta, pa, qa⟩ := ha
  obtain ⟨tb, pb, qb⟩ := hb
  exact ⟨_, pe_cmpR hr pa pb hm, op_of (t := ta) qa qb q⟩
theorem PostT.of {r : ER} {φ : Fi} {H : Hp} {σ : St} {Q : Bool → Hp → Prop} (h : PostT G W φ H σ r Q) : PostE G W φ H σ r fun x H' => ∃ k, x = .bl k ∧ Q k H' := by
  unfold PostT at h
  refine PostE.bind h fun d S φ' H' v e s i k => ?_
  cases d with
  | bl b =>
    have q := k.now s (show Is G φ' H' (.bl b) (.bl b) from rfl)
    exact ⟨b, i, q b rfl⟩
  | _ => exact False.elim k
theorem dt_cmp {op : CmpOp} {a b : Expr} {pos : Pos} {g : D → D → Store → ER} {fa fb : EM} (ho : DOp G X (compareOp op) g) (ha : DE G X W a fa) (hb : DE G X W b fb) (hm : behindInMarks op b = false := by first | exact nomark _ | rfl) : DT G X W (.Compare a [op] [b] pos) (eOp g fa fb) := by
  obtain ⟨r, hr, q⟩ := ho
  obtain ⟨ta, pa, qa⟩ := ha
  obtain ⟨tb, pb, qb⟩ := hb
  exact ⟨_, pt_cmpR hr pa pb hm, fun σ H env φ S Q s re h => op_of (t := ta) qa qb q σ H env φ S _ s re h.of⟩
/-- any expression that gives a truth, as a test -/
theorem dt_val {e : Expr} {f : EM} (h : DE G X W e f) (he : ∀ whole, isTrue e X.env whole = (do let v ← whole; standAt e.pos; holding [v] (truthy v)) := by intro _; rfl) : DT G X W e f := by
  obtain ⟨t, p, q⟩ := h
  refine ⟨_, pt_val p he, fun σ H env φ S Q s re hq => ?_⟩
  exact q σ H env φ S _ s re hq.of
theorem IsL.empty {φ : Fi} {H : Hp} {ds : List D} {xs : List V} (h : IsL G φ H ds xs) : (!ds.isEmpty) = !xs.isEmpty := by
  cases ds with
  | nil => cases (show xs = [] from h); rfl
  | cons d ds => obtain ⟨x, r, rfl, _⟩ := h; rfl
/-! ### and, or, not, if else -/
def eAnd (a b : EM) : EM := fun env S => (a env S).bind fun d S => match d with | .bl true => b env S | .bl false => .ok (.bl false) S | _ => .bad
def eOr (a b : EM) : EM := fun env S => (a env S).bind fun d S => match d with | .bl true => .ok (.bl true) S | .bl false => b env S | _ => .bad
def eNot (a : EM) : EM := fun env S => (a env S).bind fun d S => match d with | .bl b => .ok (.bl (!b)) S | _ => .bad
def eIf (c a b : EM) : EM := fun env S => (c env S).bind fun d S => match d with | .bl true => a env S | .bl false => b env S | _ => .bad
theorem de_one {op : BoolOp} {a : Expr} {pos : Pos} {f : EM} (h : DE G X W a f) : DE G X W (.BoolOp op [a] pos) f := let ⟨_, p, q⟩ := h; ⟨_, pe_one p, q⟩
theorem de_and {a b : Expr} {rest : List Expr} {pos : Pos} {fa fb : EM} (ha : DE G X W a fa) (hb : DE G X W (.BoolOp .And (b :: rest) pos) fb) : DE G X W (.BoolOp .And (a :: b :: rest) pos) (eAnd fa fb) := by
  obtain ⟨ta, pa, qa⟩ := ha
  obtain ⟨tb, pb, qb⟩ := hb
  refine ⟨_, pe_and pa pb, fun σ H env φ S Q s re h => ?_⟩
  refine qa σ H env φ S _ s re (PostE.bind h fun d S1 φ1 H1 v e1 s1 i1 h1 => ?_)
  cases d with
  | bl k =>
    refine ⟨k, i1, ?_⟩
    cases k with
    | true => exact iteT (qb σ H1 env φ1 S1 _ s1 (re.ext e1) h1)
    | false => exact iteF (h1.now s1 rfl)
  | _ => exact False.elim h1
theorem de_or {a b : Expr} {rest : List Expr} {pos : Pos} {fa fb : EM} (ha : DE G X W a fa) (hb : DE G X W (.BoolOp .Or (b :: rest) pos) fb) : DE G X W (.BoolOp .Or (a :: b :: rest) pos) (eOr fa fb) := by
  obtain ⟨ta, pa, qa⟩ := ha
  obtain ⟨tb, pb, qb⟩ := hb
  refine ⟨_, pe_or pa pb, fun σ H env φ S Q s re h => ?_⟩
  refine qa σ H env φ S _ s re (PostE.bind h fun d S1 φ1 H1 v e1 s1 i1 h1 => ?_)
  cases d with
  | bl k =>
    refine ⟨k, i1, ?_⟩
    cases k with
    | true => exact iteT (h1.now s1 rfl)
    | false => exact iteF (qb σ H1 env φ1 S1 _ s1 (re.ext e1) h1)
  | _ => exact False.elim h1
theorem de_not {a : Expr} {pos : Pos} {fa : EM} (ha : DE G X W a fa) : DE G X W (.UnaryOp .Not a pos) (eNot fa) := by
  obtain ⟨ta, pa, qa⟩ := ha
  refine ⟨_, pe_not pa, fun σ H env φ S Q s re h => ?_⟩
  refine qa σ H env φ S _ s re (PostE.bind h fun d S1 φ1 H1 v e1 s1 i1 h1 => ?_)
  cases d with
  | bl k => exact ⟨k, i1, h1.now s1 rfl⟩
  | _ => exact False.elim h1
theorem PostT.bind {r : ER} {g : D → Store → ER} {φ : Fi} {H : Hp} {σ : St} {Q Q' : Bool → Hp → Prop} (h : PostT G W φ H σ (r.bind g) Q)
    (k : ∀ b S φ' H', Ext φ H φ' H' → SOk G φ' S H' → PostT G W φ' H' σ (g (.bl b) S) Q → Q' b H') (nb : ∀ d S, (∀ b, d ≠ .bl b) → g d S = .bad) : PostT G W φ H σ r Q' := by
  cases r with
  | ok d S =>
    cases d with
    | bl b =>
      intro φ2 H2 v e s i b' eb
      cases (show v = .bl b from i)
      cases eb
      exact k b S φ2 H2 e s (PostE.ext e h)
    | _ =>
      have z : PostT G W φ H σ (g _ S) Q := h
      rw [nb _ _ (fun b q => by cases q)] at z
      exact False.elim z
  | ex x S => exact h
  | bad => exact h
theorem PostT.now {b : Bool} {S : Store} {φ : Fi} {H : Hp} {σ : St} {Q : Bool → Hp → Prop} (h : PostT G W φ H σ (.ok (.bl b) S) Q) (s : SOk G φ S H) : Q b H := h φ H (.bl b) .refl s rfl b rfl
theorem dt_not {a : Expr} {pos : Pos} {fa : EM} (ha : DT G X W a fa) : DT G X W (.UnaryOp .Not a pos) (eNot fa) := by
  obtain ⟨ta, pa, qa⟩ := ha
  refine ⟨_, pt_not pa, fun σ H env φ S Q s re h => ?_⟩
  refine qa σ H env φ S _ s re (PostT.bind h (fun b S1 φ1 H1 e1 s1 h1 => PostT.now h1 s1) fun d S q => ?_)
  cases d with
  | bl b => exact absurd rfl (q b)
  | _ => rfl
theorem dw_or1 {a : Expr} {pos : Pos} {f : EM} (h : DT G X W a f) : DW G X W (.BoolOp .Or [a] pos) f := let ⟨_, p, q⟩ := h; ⟨_, pw_or1 p, q⟩
theorem dw_or {a b : Expr} {rest : List Expr} {pos : Pos} {fa fb : EM} (ha : DT G X W a fa) (hb : DW G X W (.BoolOp .Or (b :: rest) pos) fb) : DW G X W (.BoolOp .Or (a :: b :: rest) pos) (eOr fa fb) := by
  obtain ⟨ta, pa, qa⟩ := ha
  obtain ⟨tb, pb, qb⟩ := hb
  refine ⟨_, pw_or pa pb, fun σ H env φ S Q s re h => ?_⟩
  refine qa σ H env φ S _ s re (PostT.bind h (fun b S1 φ1 H1 e1 s1 h1 => ?_) fun d S q => ?_)
  · cases b with
    | true => exact iteT (h1.now s1)
    | false => exact iteF (qb σ H1 env φ1 S1 _ s1 (re.ext e1) h1)
  · cases d with
    | bl b => exact absurd rfl (q b)
    | _ => rfl
theorem DW.t {e : Expr} {f : EM} (h : DW G X W e f) : DT G X W e f := let ⟨_, p, q⟩ := h; ⟨_, p.pt, q⟩
theorem de_if {c a b : Expr} {pos : Pos} {fc fa fb : EM} (hc : DT G X W c fc) (ha : DE G X W a fa) (hb : DE G X W b fb) : DE G X W (.IfExp c a b pos) (eIf fc fa fb) := by
  obtain ⟨tc, pc, qc⟩ := hc
  obtain ⟨ta, pa, qa⟩ := ha
  obtain ⟨tb, pb, qb⟩ := hb
  refine ⟨_, pe_ifExp pc pa pb, fun σ H env φ S Q s re h => ?_⟩
  unfold eIf at h
  refine qc σ H env φ S _ s re ?_
  cases hr : fc env S with
  | ok d S1 =>
    rw [hr] at h
    cases d with
    | bl k =>
      intro φ1 H1 v e s1 i b eb
      cases (show v = .bl k from i)
      cases eb
      cases k with
      | true => exact iteT (qa σ H1 env φ1 S1 _ s1 (re.ext e) (PostE.ext e h))
      | false => exact iteF (qb σ H1 env φ1 S1 _ s1 (re.ext e) (PostE.ext e h))
    | _ => exact False.elim h
  | ex x S1 => rw [hr] at h; exact h
  | bad => rw [hr] at h; exact h

/-! ### tuples and lists -/
/-- a length that may be; how it is decided stays shut (the kernel would count) -/
def sz (n : Nat) : Prop := n ≤ 16777216
noncomputable instance {n : Nat} : Decidable (sz n) := Classical.propDecidable _
noncomputable def eTup (f : LM) : EM := fun env S => (f env S).bindE fun ds S => if sz ds.length then .ok (.tup ds) S else .bad
noncomputable def eLst (f : LM) : EM := fun env S => (f env S).bindE fun ds S => if sz ds.length then .ok (.lst ds) S else .bad
/-- a list that is kept as a cell -/
noncomputable def eLstM (f : LM) : EM := fun env S => (f env S).bindE fun ds S => if sz ds.length then .ok (.loc S.length) (S ++ [.lst ds]) else .bad
theorem tup_new {φ : Fi} {H : Hp} {S : Store} {σ : St} {ds : List D} {xs : List V} {Q : VK} (s : SOk G φ S H) (i : IsL G φ H ds xs) (h : PostE G W φ H σ (.ok (.tup ds) S) Q) {p : Addr} (hp : H p = none) : Q (.ref p) (upd H p (.tup xs)) :=
  h φ _ _ (.laid hp) (s.laid hp) ⟨p, xs, rfl, .inl ⟨s.fresh hp, .inl upd_same⟩, i.ext (.laid hp)⟩
theorem lst_new {φ : Fi} {H : Hp} {S : Store} {σ : St} {ds : List D} {xs : List V} {Q : VK} (s : SOk G φ S H) (i : IsL G φ H ds xs) (h : PostE G W φ H σ (.ok (.lst ds) S) Q) {p : Addr} (hp : H p = none) : Q (.ref p) (upd H p (.lst xs)) :=
  h φ _ _ (.laid hp) (s.laid hp) ⟨p, xs, rfl, .inl ⟨s.fresh hp, .inl upd_same⟩, i.ext (.laid hp)⟩
theorem lst_newM {φ : Fi} {H : Hp} {S : Store} {σ : St} {ds : List D} {xs : List V} {Q : VK} (s : SOk G φ S H) (i : IsL G φ H ds xs) (h : PostE G W φ H σ (.ok (.loc S.length) (S ++ [.lst ds])) Q) {p : Addr} (hp : H p = none) : Q (.ref p) (upd H p (.lst xs)) :=
  h (φ.add p) _ _ (.newCell s hp) (s.newCell hp ⟨xs, upd_same, i.ext (.newCell s hp)⟩) ⟨p, by rw [← s.len]; simp [Fi.add], rfl⟩
theorem sizeLine_is {n : Nat} (h : n ≤ 16777216) : n ≤ sizeLine := by rw [sizeLine_eq]; exact h
theorem de_tup {es : List Expr} {x1} {pos : Pos} {f : LM} (h : DA G X W es f) : DE G X W (.Tuple es x1 pos) (eTup f) := by
  obtain ⟨t, p, q⟩ := h
  refine ⟨_, pe_tup p, fun σ H env φ S Q s re hq => ?_⟩
  refine q σ H env φ S _ s re (PostL.bindE hq fun ds S1 φ1 H1 xs e1 s1 i1 h1 => ?_)
  by_cases hl : sz ds.length
  · rw [if_pos hl] at h1
    exact ⟨by rw [← i1.length]; exact sizeLine_is hl, fun p hp => tup_new s1 i1 h1 hp⟩
  · rw [if_neg hl] at h1; exact h1.elim
theorem de_lst {es : List Expr} {pos : Pos} {f : LM} (h : DA G X W es f) : DE G X W (.List es pos) (eLst f) := by
  obtain ⟨t, p, q⟩ := h
  refine ⟨_, pe_lst p, fun σ H env φ S Q s re hq => ?_⟩
  refine q σ H env φ S _ s re (PostL.bindE hq fun ds S1 φ1 H1 xs e1 s1 i1 h1 => ?_)
  by_cases hl : sz ds.length
  · rw [if_pos hl] at h1
    exact ⟨by rw [← i1.length]; exact sizeLine_is hl, fun p hp => lst_new s1 i1 h1 hp⟩
  · rw [if_neg hl] at h1; exact h1.elim
theorem de_lstM {es : List Expr} {pos : Pos} {f : LM} (h : DA G X W es f) : DE G X W (.List es pos) (eLstM f) := by
  obtain ⟨t, p, q⟩ := h
  refine ⟨_, pe_lst p, fun σ H env φ S Q s re hq => ?_⟩
  refine q σ H env φ S _ s re (PostL.bindE hq fun ds S1 φ1 H1 xs e1 s1 i1 h1 => ?_)
  by_cases hl : sz ds.length
  · rw [if_pos hl] at h1
    exact ⟨by rw [← i1.length]; exact sizeLine_is hl, fun p hp => lst_newM s1 i1 h1 hp⟩
  · rw [if_neg hl] at h1; exact h1.elim

/-! ### statements -/
def sSkip : SM := fun e S => .nx e S
def sSeq (a b : SM) : SM := fun e S => (a e S).seq b
theorem dss_nil : DSs G X W [] sSkip := ⟨_, pss_nil, fun σ H env φ S N s re h => h φ H σ .refl s re⟩
theorem dss_cons {st : Stmt} {rest : List Stmt} {f g : SM} (ha : DS G X W st f) (hb : DSs G X W rest g) : DSs G X W (st :: rest) (sSeq f g) := by
  obtain ⟨t, p, q⟩ := ha
  obtain ⟨u, p', q'⟩ := hb
  refine ⟨_, pss_cons p p', fun σ H env φ S N s re h => ?_⟩
  refine q σ H env φ S _ s re ?_
  unfold sSeq at h
  cases hr : f env S with
  | nx e S1 =>
    rw [hr] at h
    exact fun φ1 H1 σ1 e1 s1 r1 => q' σ1 H1 e φ1 S1 _ s1 r1 (PostS.ext e1 h)
  | rt d S1 => rw [hr] at h; exact h
  | bk d S1 => rw [hr] at h; exact h
  | ct d S1 => rw [hr] at h; exact h
  | ex x d S1 => rw [hr] at h; exact h
  | bad => rw [hr] at h; exact h
theorem dss_one {st : Stmt} {f : SM} (ha : DS G X W st f) : DSs G X W [st] f := let ⟨_, p, q⟩ := ha; ⟨_, pss_one p, q⟩
def sBk : SM := fun e S => .bk e S
def sCt : SM := fun e S => .ct e S
def sRet (f : EM) : SM := fun e S => (f e S).bindS e fun d S => .rt d S
def sRetN : SM := fun e S => .rt .non S
def sDrop (f : EM) : SM := fun e S => (f e S).bindS e fun _ S => .nx e S
theorem ds_ret {e : Expr} {pos : Pos} {f : EM} (h : DE G X W e f) : DS G X W (.Return (some e) pos) (sRet f) := by
  obtain ⟨t, p, q⟩ := h
  refine ⟨_, ps_ret p, fun σ H env φ S N s re h => ?_⟩
  exact q σ H env φ S _ s re (PostE.bindS re h fun d S1 φ1 H1 v e1 s1 i1 h1 => h1 φ1 H1 v .refl s1 i1)
theorem ds_expr {e : Expr} {pos : Pos} {f : EM} (h : DE G X W e f) (hs : swapsWith e none pos.line X.env = pure false := by rfl) : DS G X W (.Expr e pos) (sDrop f) := by
  obtain ⟨t, p, q⟩ := h
  refine ⟨_, ps_expr p hs, fun σ H env φ S N s re h => ?_⟩
  exact q σ H env φ S _ s re (PostE.bindS re h fun d S1 φ1 H1 v e1 s1 i1 h1 => h1 φ1 H1 σ .refl s1 (re.ext e1))
def sIf (c : EM) (a b : SM) : SM := fun e S => (c e S).bindS e fun d S => match d with | .bl true => a e S | .bl false => b e S | _ => .bad
theorem ds_if {c : Expr} {a b : List Stmt} {pos : Pos} {fc : EM} {fa fb : SM} (hc : DT G X W c fc) (ha : DSs G X W a fa) (hb : DSs G X W b fb) : DS G X W (.If c a b pos) (sIf fc fa fb) := by
  obtain ⟨tc, pc, qc⟩ := hc
  obtain ⟨ta, pa, qa⟩ := ha
  obtain ⟨tb, pb, qb⟩ := hb
  refine ⟨_, ps_if pc pa pb, fun σ H env φ S N s re h => ?_⟩
  unfold sIf at h
  refine qc σ H env φ S _ s re ?_
  cases hr : fc env S with
  | ok d S1 =>
    rw [hr] at h
    cases d with
    | bl k =>
      intro φ1 H1 v e s1 i b eb
      cases (show v = .bl k from i)
      cases eb
      cases k with
      | true => exact iteT (qa σ H1 env φ1 S1 _ s1 (re.ext e) (PostS.ext e h))
      | false => exact iteF (qb σ H1 env φ1 S1 _ s1 (re.ext e) (PostS.ext e h))
    | _ => exact False.elim h
  | ex x S1 =>
    rw [hr] at h
    exact fun φ2 H2 c d e s i => h φ2 H2 σ c d e s (re.ext e) i
  | bad => rw [hr] at h; exact h

/-! ### targets, assignments -/
def bName (i : Nat) : D → EnvD → Option EnvD := fun d env => some (env.set i (some d))
theorem dg_name {i : Nat} {x : Str} {pos : Pos} (hN : X.N.Nodup) (hi : X.N[i]? = some x) (hx : Loc X.env.scope x) (hf : X.fn x = true ∨ X.env.scope.names.lookup x = some .local := by first | exact .inl rfl | exact .inr rfl) : DG G X (.Name x pos) (bName i) [i] :=
  ⟨_, pg_name hN hi hx hf, fun v d σ H env env' φ Q i1 r e k => by
    cases e
    refine k _ (r.set i1 i) ⟨by simp, fun j hj => ?_⟩
    rw [List.getElem?_set_ne (fun z => hj (by simp [z]))]⟩
def bNil : List D → EnvD → Option EnvD := fun ds env => match ds with | [] => some env | _ => none
def bCons (b : D → EnvD → Option EnvD) (c : List D → EnvD → Option EnvD) : List D → EnvD → Option EnvD := fun ds env => match ds with | [] => none | d :: ds => (b d env).bind (c ds)
def bTup (b : List D → EnvD → Option EnvD) : D → EnvD → Option EnvD := fun d env => match d with | .tup ds => b ds env | _ => none
theorem dgs_nil : DGs G X [] bNil [] := ⟨_, pgs_nil, fun v d σ H env env' φ Q i1 r e k => by
  cases d with
  | nil =>
    cases (show v = [] from i1)
    cases e
    exact ⟨rfl, k σ r ⟨rfl, fun _ _ => rfl⟩⟩
  | cons _ _ => cases e⟩
theorem dgs_cons {e : Expr} {es : List Expr} {b : D → EnvD → Option EnvD} {c : List D → EnvD → Option EnvD} {vs ws : List Nat} (h1 : DG G X e b vs) (h2 : DGs G X es c ws) (hs : List.map (fun x => x.snd) (assignEach (e :: es) X.env) = assign e X.env :: List.map (fun x => x.snd) (assignEach es X.env) := by rfl) : DGs G X (e :: es) (bCons b c) (vs ++ ws) := by
  obtain ⟨g, p, q⟩ := h1
  obtain ⟨g', p', q'⟩ := h2
  refine ⟨_, pgs_cons p p' hs, fun v d σ H env env' φ Q i1 r e k => ?_⟩
  cases d with
  | nil => cases e
  | cons d ds =>
    obtain ⟨x, xs, rfl, i2, i3⟩ := i1
    obtain ⟨env1, e1, e2⟩ := Option.bind_eq_some_iff.mp (show (b d env).bind (c ds) = some env' from e)
    refine ⟨x, xs, rfl, q x d σ H env env1 φ _ i2 r e1 fun σ1 r1 o1 => ?_⟩
    exact q' xs ds σ1 H env1 env' φ Q i3 r1 e2 fun σ2 r2 o2 => k σ2 r2 ⟨o2.1.trans o1.1, fun j hj => (o2.2 j fun z => hj (List.mem_append_right _ z)).trans (o1.2 j fun z => hj (List.mem_append_left _ z))⟩
def BLen (n : Nat) (b : List D → EnvD → Option EnvD) : Prop := ∀ ds env env', b ds env = some env' → ds.length = n
theorem blen_nil : BLen 0 bNil := fun ds env env' e => by
  cases ds with
  | nil => rfl
  | cons _ _ => cases e
theorem blen_cons {n : Nat} {b : D → EnvD → Option EnvD} {c : List D → EnvD → Option EnvD} (h : BLen n c) : BLen (n + 1) (bCons b c) := fun ds env env' e => by
  cases ds with
  | nil => cases e
  | cons d ds =>
    obtain ⟨env1, e1, e2⟩ := Option.bind_eq_some_iff.mp (show (b d env).bind (c ds) = some env' from e)
    simp [h _ _ _ e2]
theorem dg_tup {es : List Expr} {k n : Nat} {pos : Pos} {b : List D → EnvD → Option EnvD} {vs : List Nat} (hc : X.calm = true) (hK : X.K = G.K) (h : DGs G X es b vs) (hb : BLen n b)
    (hn : (assignEach es X.env).length = n := by rfl) (hst : (assignEach es X.env).findIdx? (·.1) = none := by rfl) : DG G X (.Tuple es k pos) (bTup b) vs := by
  obtain ⟨g, p, q⟩ := h
  refine ⟨_, pg_tup (n := n) hc p hn hst, fun v d σ H env env' φ Q i1 r e k => ?_⟩
  cases d with
  | tup ds =>
    obtain ⟨a, xs, rfl, rt, il⟩ := i1
    exact ⟨a, xs, rfl, by rw [hK]; exact rt.seq, by rw [← il.length]; exact hb _ _ _ e, q xs ds σ H env env' φ Q il r e k⟩
  | _ => cases e
def sAsg (f : EM) (b : D → EnvD → Option EnvD) : SM := fun e S => (f e S).bindS e fun d S => match b d e with | some e' => .nx e' S | none => .bad
theorem ds_asg {tg e : Expr} {pos : Pos} {f : EM} {b : D → EnvD → Option EnvD} {vs : List Nat} (he : DE G X W e f) (hg : DG G X tg b vs) (hs : swapsWithSole [tg] e pos.line X.env = pure false := by rfl) (hw : swappedStores [tg] e X.env = pure none := by rfl)
    (h1 : List.map (fun x => x.snd) (assignEach [tg] X.env) = [assign tg X.env] := by rfl) : DS G X W (.Assign [tg] e pos) (sAsg f b) := by
  obtain ⟨t, p, q⟩ := he
  obtain ⟨g, p', q'⟩ := hg
  refine ⟨_, ps_asg p p' hs hw h1, fun σ H env φ S N s re h => ?_⟩
  refine q σ H env φ S _ s re (PostE.bindS re h fun d S1 φ1 H1 v e1 s1 i1 h1 => ?_)
  cases hb : b d env with
  | none => rw [hb] at h1; exact h1.elim
  | some env' =>
    rw [hb] at h1
    exact q' v d σ H1 env env' φ1 _ i1 (re.ext e1) hb fun σ' r' _ => h1 φ1 H1 σ' .refl s1 r'
/-- x = e -/
theorem ds_set {i : Nat} {x : Str} {e : Expr} {pos pos' : Pos} {f : EM} (hN : X.N.Nodup) (hi : X.N[i]? = some x) (hx : Loc X.env.scope x) (he : DE G X W e f) (hs : swapsWith e (some (.Name x pos')) pos.line X.env = pure false := by rfl)
    (hf : X.fn x = true ∨ X.env.scope.names.lookup x = some .local := by first | exact .inl rfl | exact .inr rfl) : DS G X W (.Assign [.Name x pos'] e pos) (sAsg f (bName i)) := by
  obtain ⟨t, p, q⟩ := he
  refine ⟨_, ps_set hN hi hx p hs hf, fun σ H env φ S N s re h => ?_⟩
  refine q σ H env φ S _ s re (PostE.bindS re h fun d S1 φ1 H1 v e1 s1 i1 h1 => ?_)
  exact h1 φ1 H1 _ .refl s1 ((re.ext e1).set i1 i)
end
end DL
end
section
/-! == and != of nested lists and dicts that hold the same. -/
namespace PySem.SeqAt
open AutoSeq1 (wpAny_loadPart')
open MeetsSeq MeetsSeq2 MeetsSeq3 SeqRoads2
section
variable {prog : Program} {w : World}
theorem own_ne_loopIn (l b : Addr) (items items2 : Array Value) (n n2 : Nat) (dd dd2 : Option Addr) (sl sl2 : Array (Option Value)) (hsz : items.size = items2.size) (e : Nat → Bool) (k : Nat) :
    ∀ i : Nat, items.size - i = k → MeetsIn prog w (Builtin.«list.__eq__.loop» ⟨[.ref l, .ref b, rawInt i, rawInt 3], []⟩)
      (fun A R s => s.heap.get? l = some { cls := .type "list", dict := dd, data := .seq items n, slots := sl } ∧ s.heap.get? b = some { cls := .type "list", dict := dd2, data := .seq items2 n2, slots := sl2 } ∧
        (∀ j (h1 : j < items.size) (h2 : j < items2.size), EqP prog w A.in1 s items[j] items2[j] (e j)) ∧
        R (.ok (.ret (.bool (!((List.range items.size).drop i).all e)))) s) := by
  induction k with
  | zero =>
    intro i hk A R s h
    obtain ⟨hp, g, d, tk, os⟩ := s; obtain ⟨hl, hb, he, h⟩ := h
    wp_walk using wpAny_loadPart' hl, wpAny_loadPart' hb
    have hi1 : items[((i : Nat) : Int).toNat]? = none := by simp; omega
    have hi2 : items2[((i : Nat) : Int).toNat]? = none := by simp; omega
    have hd : (List.range items.size).drop i = [] := by simp; omega
    rw [hd] at h
    rw [hi1, hi2]
    wp_walk using wpAny_loadPart' hl, wpAny_loadPart' hb
    show R (.ok (.ret (.bool (items.size != items2.size)))) _
    rw [hsz]
    simpa using h
  | succ k ih =>
    intro i hk A R s h
    obtain ⟨hp, g, d, tk, os⟩ := s; obtain ⟨hl, hb, he, h⟩ := h
    wp_walk using wpAny_loadPart' hl, wpAny_loadPart' hb
    have hlt : i < items.size := by omega
    have hlt2 : i < items2.size := by omega
    have hi1 : items[((i : Nat) : Int).toNat]? = some items[i] := by simp [hlt]
    have hi2 : items2[((i : Nat) : Int).toNat]? = some items2[i] := by simp [hlt2]
    have hd : (List.range items.size).drop i = i :: (List.range items.size).drop (i + 1) := by simp [List.drop_eq_getElem_cons, hlt]
    have hc : ((i : Int) + 1) = ((i + 1 : Nat) : Int) := by push_cast; rfl
    rw [hd, List.all_cons] at h
    rw [hi1, hi2]
    refine wpAny_bind (he i hlt hlt2 _ _ ?_)
    cases hb' : e i with
    | true =>
      rw [hb'] at h
      wp_walk
      rw [hc]
      exact ⟨plainId_quiet plain_eq_loop _, codeAny_builtin entry_eq_loop (by
        rw [Around.under_plainId plain_eq_loop _]
        exact ih (i + 1) (by omega) A R _ ⟨hl, hb, he, by simpa using h⟩)⟩
    | false =>
      rw [hb'] at h
      wp_walk using wpAny_loadPart' hl, wpAny_loadPart' hb
      rw [hi1, hi2]
      wp_walk
      simpa using h
theorem own_list_neIn (l b : Addr) (items items2 : Array Value) (n n2 : Nat) (dd dd2 : Option Addr) (sl sl2 : Array (Option Value)) (hsz : items.size = items2.size) (e : Nat → Bool) :
    MeetsIn prog w (Builtin.«list.__ne__» ⟨[.ref l, .ref b], []⟩)
      (fun A R s => s.heap.get? l = some { cls := .type "list", dict := dd, data := .seq items n, slots := sl } ∧ s.heap.get? b = some { cls := .type "list", dict := dd2, data := .seq items2 n2, slots := sl2 } ∧
        (∀ j (h1 : j < items.size) (h2 : j < items2.size), EqP prog w A.in1 s items[j] items2[j] (e j)) ∧
        R (.ok (.ret (.bool (!(List.range items.size).all e)))) s) := by
  intro A R s h
  obtain ⟨hp, g, d, tk, os⟩ := s; obtain ⟨hl, hb, he, h⟩ := h
  have f3 := AutoSeq1.sub_list_list
  have hne : ¬ (items.size != items2.size) = true := by simp [hsz]
  wp_walk using wpAny_loadPart' hl, wpAny_loadPart' hb
  exact ⟨plainId_quiet plain_eq_loop _, codeAny_builtin entry_eq_loop (by
    rw [Around.under_plainId plain_eq_loop _]
    exact own_ne_loopIn l b items items2 n n2 dd dd2 sl sl2 hsz e _ 0 rfl A R _ ⟨hl, hb, he, by simpa using h⟩)⟩
theorem rcNeP_lists {A : Around} {s : Shared} {l b : Addr} {items items2 : Array Value} {e : Nat → Bool} (hl : s.heap.IsList l items) (hb : s.heap.IsList b items2) (hsz : items.size = items2.size) (hu : A.units < cLine)
    (he : ∀ j (h1 : j < items.size) (h2 : j < items2.size), EqP prog w A.in1 s items[j] items2[j] (e j)) (E Q : Value → Shared → Prop) (h : Q (.bool (!(List.range items.size).all e)) s) : wpAny (model prog w) A (richCompare .NotEq (.ref l) (.ref b)) Q E s := by
  obtain ⟨⟨cls, dd, data, sl⟩, ho, hc, n, hd⟩ := id hl
  obtain ⟨⟨cls2, dd2, data2, sl2⟩, ho2, hc2, n2, hd2⟩ := id hb
  simp only at hc hd hc2 hd2
  subst hc hd hc2 hd2
  have ta : s.TypeIs (.ref l) "list" := ⟨_, ho, rfl⟩
  have tb : s.TypeIs (.ref b) "list" := ⟨_, ho2, rfl⟩
  exact wpAny_richCompare_same_room (op := .NotEq) ta tb F.slot_list_ne (call_meetsIn F.slot_list_ne ta F.entry_list_ne (F.args_list_ne_2 _ _) (own_list_neIn l b items items2 n n2 dd dd2 sl sl2 hsz e)
    ⟨ho, ho2, he, show Value.bool (!(List.range items.size).all e) ≠ Value.notImplemented ∧ Q (.bool (!(List.range items.size).all e)) s from ⟨(fun x => nomatch x), h⟩⟩) hu
end
end PySem.SeqAt
namespace PySem.W
open PySem PySem.SeqAt PyProof.Rows
section
variable {prog : Program} {w : World} {A : Around} {s : Shared} {K : Type} [DecidableEq K] {knd : KeyKind prog w K}
theorem rcNeP_dicts {a b : Addr} {ka kb : List (K × Value)} {r : Bool} (ha : (a == sysModules) = false) (hb : (b == sysModules) = false)
    (da : s.heap.DictOf knd a ka) (db : s.heap.DictOf knd b kb) (hu : A.units < cLine) (hits : ka.length = kb.length → KeqHitsP prog w A.in1 s kb ka r) (E Q : Value → Shared → Prop) (h : Q (.bool (!(ka.length == kb.length && r))) s) : wpAny (model prog w) A (richCompare .NotEq (.ref a) (.ref b)) Q E s := by
  refine wpAny_richCompare_same_room (op := .NotEq) da.typeIs db.typeIs PySem.F.slot_dict_ne (wpAny_call_entry PySem.F.slot_dict_ne da.typeIs PySem.F.entry_dict_ne ?_ (PySem.F.args_dict_ne_2 _ _)) hu
  show wpAny _ _ (Builtin.Dict.dictSlotArgs "__ne__" ⟨[.ref a, .ref b], []⟩ >>= _) _ _ s
  refine wpAny_bind ?_
  unfold Builtin.Dict.dictSlotArgs
  refine wpAny_bind (wpAny_notOrdered_dict da.typeIs ?_)
  show wpAny _ _ (pure (Value.ref a, Value.ref b)) _ _ s
  refine wpAny_pure ?_
  refine wpAny_bind (wpAny_isInstance (T := "dict") db.typeIs PySem.F.sub_dict_dict ?_)
  simp only [Bool.not_true, Bool.false_eq_true, if_false]
  refine wpAny_bind (wpAny_pure (wpAny_bind (wpAny_pure ?_)))
  refine wpAny_bind (samePairsP ha hb da db hits ?_)
  refine wpAny_pure ⟨_, rfl, ?_, ?_⟩
  · exact fun x => nomatch x
  · simpa using h
end
end PySem.W
namespace L2
open PySem PySem.Spec PyProof.Rows
/-- two things that hold the same, of nesting below n -/
def EqW (K : PySem.W.Frag) (H : Hp) : Nat → V → V → Prop
  | 0 => fun _ _ => False
  | n + 1 => fun x y => (∃ p, Dp K H x p ∧ Dp K H y p ∧ SeqAt.shaped p = true ∧ PyData.eqv p p = true) ∨ (∃ a b xs ys, x = .ref a ∧ y = .ref b ∧ SqL K H a xs ∧ SqL K H b ys ∧ Paired (EqW K H n) xs ys) ∨
      ∃ a b ks ls, x = .ref a ∧ y = .ref b ∧ Rd H a (.dK ks) ∧ Rd H b (.dK ls) ∧ ks.map (·.1) = ls.map (·.1) ∧ Paired (EqW K H n) (ks.map (·.2)) (ls.map (·.2))
/-- two lists, two dicts -/
def EqT (K : PySem.W.Frag) (H : Hp) (n : Nat) (x y : V) : Prop := (∃ a b xs ys, x = .ref a ∧ y = .ref b ∧ SqL K H a xs ∧ SqL K H b ys ∧ Paired (EqW K H n) xs ys) ∨
      ∃ a b ks ls, x = .ref a ∧ y = .ref b ∧ Rd H a (.dK ks) ∧ Rd H b (.dK ls) ∧ ks.map (·.1) = ls.map (·.1) ∧ Paired (EqW K H n) (ks.map (·.2)) (ls.map (·.2))
theorem valV_mem {ls : List (Key × V)} (nd : (ls.map (·.1)).Nodup) : ∀ {k : Key} {u : V}, (k, u) ∈ ls → valV ls k = some u := by
  induction ls with
  | nil => intro k u h; simp at h
  | cons p ls ih =>
    intro k u h
    rw [List.map_cons, List.nodup_cons] at nd
    rcases List.mem_cons.mp h with e | h
    · subst e
      exact valV_pos rfl
    · rw [valV_neg fun e => nd.1 (by rw [e]; exact List.mem_map.mpr ⟨_, h, rfl⟩)]
      exact ih nd.2 h
theorem paired_zip {F : V → V → Prop} : ∀ {ks ls : List (Key × V)}, ks.map (·.1) = ls.map (·.1) → Paired F (ks.map (·.2)) (ls.map (·.2)) → ∀ p ∈ ks, ∃ u, (p.1, u) ∈ ls ∧ F p.2 u
  | [], _, _, _, p, h => by simp at h
  | k :: ks, [], e, _, _, _ => by simp at e
  | k :: ks, l :: ls, e, q, p, h => by
    simp only [List.map_cons, List.cons.injEq] at e
    cases q with
    | cons r t =>
      rcases List.mem_cons.mp h with e2 | h
      · subst e2
        exact ⟨l.2, by rw [e.1]; simp, r⟩
      · obtain ⟨u, h1, h2⟩ := paired_zip e.2 t p h
        exact ⟨u, List.mem_cons_of_mem _ h1, h2⟩
theorem KV.keysV {ls : List (Key × V)} {vb : List (Key × Value)} (r : KV ls vb) : ls.map (·.1) = vb.map (·.1) := by
  unfold KV at r
  induction r with
  | nil => rfl
  | cons h _ ih => simp [h.1, ih]
section
variable {X : Cx} {pins : List (Addr × Obj)} {σ : St} {H : Hp} {s : Shared}
theorem eqT_dicts (I : Inv X pins σ H s) {A : Around} {F : V → V → Prop} (hu : A.units < cLine) (ih : ∀ x y v u, F x y → RelV x v → RelV y u → SeqAt.EqP X.prog X.w A.in1 s v u true) {a b : Addr} {ks ls : List (Key × V)} (ha : Rd H a (.dK ks)) (hb : Rd H b (.dK ls)) (ek : ks.map (·.1) = ls.map (·.1))
    (hp : Paired F (ks.map (·.2)) (ls.map (·.2))) : ∃ (ka kb : List (Key × Value)), (a == sysModules) = false ∧ (b == sysModules) = false ∧ s.heap.DictOf (mixKind X.prog X.w) a ka ∧ s.heap.DictOf (mixKind X.prog X.w) b kb ∧ PySem.W.KeqHitsP X.prog X.w A.in1 s kb ka true ∧ (ka.length == kb.length && true) = true := by
  obtain ⟨_, ya, va, ra, da⟩ := (show ObjOk X.prog X.w H s.heap a (.dK ks) from ha.ok I.hok)
  obtain ⟨_, yb, vb, rb, db⟩ := (show ObjOk X.prog X.w H s.heap b (.dK ls) from hb.ok I.hok)
  have nd : (ls.map (·.1)).Nodup := by
    obtain ⟨_, _, _, _, _, _, _, _, nd⟩ := id db
    rw [KV.keysV rb]; exact nd
  refine ⟨va, vb, ya, yb, da, db, hits_run ih rb ra (fun p hm => ?_), ?_⟩
  · obtain ⟨u, h1, h2⟩ := paired_zip ek hp p hm
    exact ⟨u, valV_mem nd h1, h2⟩
  · have e : va.length = vb.length := by
      rw [← ra.length, ← rb.length]
      simpa using congrArg List.length ek
    rw [e]; simp
theorem eqW_run (I : Inv X pins σ H s) : ∀ (n : Nat) (A : Around), A.units + n + 65 < cLine → ∀ (x y : V) (v u : Value), EqW X.K H n x y → RelV x v → RelV y u → SeqAt.EqP X.prog X.w A s v u true
  | 0, _, _, _, _, _, _, h, _, _ => (show False from h).elim
  | n + 1, A, hu, x, y, v, u, h, rx, ry => by
    have ih := eqW_run I n A.in1 (by show A.units + 1 + n + 65 < cLine; omega)
    rcases h with ⟨p, dx, dy, hs, he⟩ | ⟨a, b, xs, ys, rfl, rfl, ha, hb, hp⟩ | ⟨a, b, ks, ls, rfl, rfl, ha, hb, ek, hp⟩
    · obtain ⟨as, r1⟩ := Dp.reads I p x v dx rx
      obtain ⟨bs, r2⟩ := Dp.reads I p y u dy ry
      have q := SeqAt.eqAt_reads p p A s v u as bs r1 r2 (SeqAt.canLay_of_shaped hs) (SeqAt.canLay_of_shaped hs) (SeqAt.room_of_shaped hs (by omega))
      rw [he] at q
      exact q.eqP
    · cases (show v = Value.ref a from rx)
      cases (show u = Value.ref b from ry)
      by_cases e : a = b
      · subst e; exact (SeqAt.EqAt.same _).eqP
      · refine SeqAt.eqP_refs e fun E Q q => ?_
        obtain ⟨us, r1, p1, _⟩ := I.list ha
        obtain ⟨ws, r2, p2, _⟩ := I.list hb
        have hsz : us.toArray.size = ws.toArray.size := by
          rw [List.size_toArray, List.size_toArray, ← r1.length, ← r2.length]
          exact Paired.length hp
        refine SeqAt.rcP_lists (e := fun _ => true) p1.isList p2.isList hsz (by omega) (fun j h1 h2 => ?_) E Q ?_
        · have k := items_run ih hp r1 r2 j (by simpa using h1) (by simpa using h2)
          simpa using k
        · rw [show ((List.range us.toArray.size).all fun _ => true) = true from List.all_eq_true.mpr fun _ _ => rfl]
          exact q
    · cases (show v = Value.ref a from rx)
      cases (show u = Value.ref b from ry)
      by_cases e : a = b
      · subst e; exact (SeqAt.EqAt.same _).eqP
      · refine SeqAt.eqP_refs e fun E Q q => ?_
        obtain ⟨va, vb, ya, yb, da, db, hits, hl⟩ := eqT_dicts I (A := A) (by omega) ih ha hb ek hp
        refine PySem.W.rcP_dicts (knd := mixKind X.prog X.w) (r := true) ya yb da db (by omega) (fun _ => hits) E Q ?_
        rw [hl]; exact q
theorem eqT_run (I : Inv X pins σ H s) {A : Around} {n : Nat} (hn : n ≤ 20) (hu : A.units + 100 < cLine) {x y : V} {v u : Value} (h : EqT X.K H n x y) (rx : RelV x v) (ry : RelV y u) (E Q : Value → Shared → Prop) :
    (Q (.bool true) s → wpAny (model X.prog X.w) A (richCompare .Eq v u) Q E s) ∧ (Q (.bool false) s → wpAny (model X.prog X.w) A (richCompare .NotEq v u) Q E s) := by
  have ih := eqW_run I n A.in1 (by show A.units + 1 + n + 65 < cLine; omega)
  rcases h with ⟨a, b, xs, ys, rfl, rfl, ha, hb, hp⟩ | ⟨a, b, ks, ls, rfl, rfl, ha, hb, ek, hp⟩
  · cases (show v = Value.ref a from rx)
    cases (show u = Value.ref b from ry)
    obtain ⟨us, r1, p1, _⟩ := I.list ha
    obtain ⟨ws, r2, p2, _⟩ := I.list hb
    have hsz : us.toArray.size = ws.toArray.size := by
      rw [List.size_toArray, List.size_toArray, ← r1.length, ← r2.length]
      exact Paired.length hp
    have it : ∀ j (h1 : j < us.toArray.size) (h2 : j < ws.toArray.size), SeqAt.EqP X.prog X.w A.in1 s us.toArray[j] ws.toArray[j] true := fun j h1 h2 => by
      have k := items_run ih hp r1 r2 j (by simpa using h1) (by simpa using h2)
      simpa using k
    have al : ((List.range us.toArray.size).all fun _ => true) = true := List.all_eq_true.mpr fun _ _ => rfl
    exact ⟨fun q => SeqAt.rcP_lists (e := fun _ => true) p1.isList p2.isList hsz (by omega) it E Q (by rw [al]; exact q), fun q => SeqAt.rcNeP_lists (e := fun _ => true) p1.isList p2.isList hsz (by omega) it E Q (by rw [al]; exact q)⟩
  · cases (show v = Value.ref a from rx)
    cases (show u = Value.ref b from ry)
    obtain ⟨va, vb, ya, yb, da, db, hits, hl⟩ := eqT_dicts I (A := A) (by omega) ih ha hb ek hp
    exact ⟨fun q => PySem.W.rcP_dicts (knd := mixKind X.prog X.w) (r := true) ya yb da db (by omega) (fun _ => hits) E Q (by rw [hl]; exact q), fun q => PySem.W.rcNeP_dicts (knd := mixKind X.prog X.w) (r := true) ya yb da db (by omega) (fun _ => hits) E Q (by rw [hl]; exact q)⟩
end
section
variable {X : Cx}
def rEqT (K : PySem.W.Frag) (r : Bool) : R2 := fun x y H Q => ∃ n, n ≤ 20 ∧ EqT K H n x y ∧ Q (.bl r) H
theorem op_eqT (hu : X.A.units + 100 < cLine) : OpR X (compareOp .Eq) (rEqT X.K true) := by
  intro pins s σ H x y v u Q I rx ry ⟨n, hn, h, q⟩
  exact (eqT_run I hn hu h rx ry _ _).1 ⟨.bl true, H, I, rfl, q⟩
theorem op_neT (hu : X.A.units + 100 < cLine) : OpR X (compareOp .NotEq) (rEqT X.K false) := by
  intro pins s σ H x y v u Q I rx ry ⟨n, hn, h, q⟩
  exact (eqT_run I hn hu h rx ry _ _).2 ⟨.bl false, H, I, rfl, q⟩
end
end L2
end
section
/-! D-layer, part 2: operators, subscripts, calls of built-ins. -/
namespace DL
open PySem L2

/-- the items of a list, be it a value or a cell -/
def listD (S : Store) : D → Option (List D)
  | .lst ds => some ds
  | .loc l => match S[l]? with
    | some (.lst ds) => some ds
    | _ => none
  | _ => none
def tupD : D → Option (List D)
  | .tup ds => some ds
  | _ => none
section
variable {G : Glb} {X : Cx} {W : WX} {φ : Fi} {S : Store} {H : Hp} {σ : St}
theorem listD_sq {d : D} {v : V} {ds : List D} (s : SOk G φ S H) (i : Is G φ H d v) (e : listD S d = some ds) : ∃ a xs, v = .ref a ∧ SqL G.K H a xs ∧ IsL G φ H ds xs := by
  cases d with
  | lst es =>
    cases e
    obtain ⟨a, xs, e1, r, q⟩ := i
    exact ⟨a, xs, e1, r.seq, q⟩
  | loc l =>
    obtain ⟨a, ha, e1⟩ := i
    simp only [listD] at e
    cases hc : S[l]? with
    | none => rw [hc] at e; cases e
    | some c =>
      rw [hc] at e
      have k := s.at_ hc ha
      cases c with
      | lst es =>
        cases e
        obtain ⟨xs, hx, q⟩ := k
        exact ⟨a, xs, e1, SqL.of hx, q⟩
      | _ => cases e
  | _ => cases e
theorem tupD_sq {d : D} {v : V} {ds : List D} (i : Is G φ H d v) (e : tupD d = some ds) : ∃ a xs, v = .ref a ∧ SqT G.K H a xs ∧ IsL G φ H ds xs := by
  cases d with
  | tup es =>
    cases e
    obtain ⟨a, xs, e1, r, q⟩ := i
    exact ⟨a, xs, e1, r.seq, q⟩
  | _ => cases e

/-! ### + - * // % ** -/
theorem add_lst_any {pins : List (Addr × Obj)} {s : Shared} {xs ys : List V} {a b : Addr} {E : Value → Shared → Prop} {Q : VK} (I : Inv X pins σ H s) (ha : SqL X.K H a xs) (hb : SqL X.K H b ys) (hz : xs.length + ys.length ≤ sizeLine)
    (q : ∀ p, H p = none → Q (.ref p) (upd H p (.lst (xs ++ ys)))) : wpAny (model X.prog X.w) X.A (binaryOp .Add (.ref a) (.ref b)) (EP X pins σ Q) E s := by
  obtain ⟨i1, r1, ⟨⟨c1, d1, t1, sl1⟩, n1, g1, hc1, hd1, ht1⟩, _⟩ := I.list ha
  obtain ⟨i2, r2, ⟨⟨c2, d2, t2, sl2⟩, n2, g2, hc2, hd2, ht2⟩, _⟩ := I.list hb
  simp only at hc1 hd1 ht1 hc2 hd2 ht2
  subst hc1 hd1 ht1 hc2 hd2 ht2
  have l1 := r1.length
  have l2 := r2.length
  have hj : i1.toArray ++ i2.toArray = (i1 ++ i2).toArray := by simp
  refine concat_meets ⟨_, g1, rfl⟩ ⟨_, g2, rfl⟩ noFill_list_add seq_list_add PySem.F.slot_list_add PySem.F.entry_list_add (PySem.F.args_list_add_2 _ _) (PyProof.Rows.list_addW a b i1.toArray i2.toArray n1 n2 none none sl1 sl2 (by simp; omega)) ⟨g1, g2, ?_⟩
  rw [hj]
  exact ⟨.ref _, _, I.lnew (t' := s.toks) (r1.append r2) (by rw [List.length_append]; omega), rfl, q _ I.fresh⟩
def rCatL (K : PySem.W.Frag) : R2 := fun x y H Q => ∃ l b xs zs, x = .ref l ∧ y = .ref b ∧ SqL K H l xs ∧ SqL K H b zs ∧ xs.length + zs.length ≤ sizeLine ∧ ∀ p, H p = none → Q (.ref p) (upd H p (.lst (xs ++ zs)))
theorem op_catL : OpR X (binaryOp .Add) (rCatL X.K) := by
  rintro pins s σ H x y v u Q I rx ry ⟨l, b, xs, zs, rfl, rfl, h1, h2, hz, q⟩
  cases rx
  cases ry
  exact add_lst_any I h1 h2 hz q
noncomputable def opAdd (x y : D) (S : Store) : ER := match x, y with
  | .int i, .int j => .ok (.int (i + j)) S
  | .str a, .str b => if sz (a.length + b.length) then .ok (.str (a ++ b)) S else .bad
  | .tup a, .tup b => if sz (a.length + b.length) then .ok (.tup (a ++ b)) S else .bad
  | x, y => match listD S x, listD S y with
    | some a, some b => if sz (a.length + b.length) then .ok (.lst (a ++ b)) S else .bad
    | _, _ => .bad
theorem bad_no {φ : Fi} {H : Hp} {Q : VK} {P : Prop} (h : PostE G W φ H σ .bad Q) : P := False.elim h
theorem do_add (hK : X.K = G.K) : DOp G X (binaryOp .Add) opAdd := by
  refine ⟨_, (op_add.or op_add_str).or (op_catA.or op_catL), fun W φ S H σ dx dy x y Q s ix iy h => ?_⟩
  unfold opAdd at h
  split at h
  · cases (show x = _ from ix); cases (show y = _ from iy)
    exact .inl (.inl ⟨_, _, rfl, rfl, h.now s rfl⟩)
  · cases (show x = _ from ix); cases (show y = _ from iy)
    split at h
    · exact .inl (.inr ⟨_, _, rfl, rfl, sizeLine_is (by assumption), h.now s rfl⟩)
    · exact bad_no h
  · split at h
    · rename_i a b hl
      obtain ⟨p, xs, rfl, r1, q1⟩ := ix
      obtain ⟨p2, ys, rfl, r2, q2⟩ := iy
      refine .inr (.inl ⟨p, p2, xs, ys, rfl, rfl, by rw [hK]; exact r1.seq, by rw [hK]; exact r2.seq, by rw [← q1.length, ← q2.length]; exact sizeLine_is hl, fun e => ?_, fun _ e => ?_, fun _ _ p hp => tup_new s (q1.append q2) h hp⟩)
      · subst e
        have z : a = [] := List.eq_nil_of_length_eq_zero (by simpa using q1.length)
        subst z
        exact h.now s ⟨p2, ys, rfl, r2, q2⟩
      · subst e
        have z : b = [] := List.eq_nil_of_length_eq_zero (by simpa using q2.length)
        subst z
        rw [List.append_nil] at h
        exact h.now s ⟨p, xs, rfl, r1, q1⟩
    · exact bad_no h
  · split at h
    · split at h
      · rename_i a b e1 e2 hl
        obtain ⟨p, xs, rfl, r1, q1⟩ := listD_sq s ix e1
        obtain ⟨p2, ys, rfl, r2, q2⟩ := listD_sq s iy e2
        exact .inr (.inr ⟨p, p2, xs, ys, rfl, rfl, by rw [hK]; exact r1, by rw [hK]; exact r2, by rw [← q1.length, ← q2.length]; exact sizeLine_is hl, fun p hp => lst_new s (q1.append q2) h hp⟩)
      · exact bad_no h
    · exact bad_no h
def opI (g : Int → Int → ER) (x y : D) : ER := match x, y with
  | .int i, .int j => g i j
  | _, _ => .bad
def opSub (x y : D) (S : Store) : ER := opI (fun i j => .ok (.int (i - j)) S) x y
theorem do_sub : DOp G X (binaryOp .Sub) opSub := by
  refine ⟨_, op_sub, fun W φ S H σ dx dy x y Q s ix iy h => ?_⟩
  unfold opSub opI at h
  dsimp only at h
  split at h
  · cases (show x = _ from ix); cases (show y = _ from iy)
    exact ⟨_, _, rfl, rfl, h.now s rfl⟩
  · exact bad_no h
/-- a factor within 64 bits, or both together within a million bits -/
def mulOk (i j : Int) : Prop := i.natAbs < 18446744073709551616 ∨ j.natAbs < 18446744073709551616 ∨ i.natAbs.log2 + j.natAbs.log2 < 1000000
noncomputable instance {i j : Int} : Decidable (mulOk i j) := Classical.propDecidable _
noncomputable def opMul (x y : D) (S : Store) : ER := opI (fun i j => if mulOk i j then .ok (.int (i * j)) S else .bad) x y
theorem do_mul : DOp G X (binaryOp .Mult) opMul := by
  refine ⟨_, op_mul.or op_mulW, fun W φ S H σ dx dy x y Q s ix iy h => ?_⟩
  unfold opMul opI at h
  dsimp only at h
  split at h
  · rename_i i j
    cases (show x = _ from ix); cases (show y = _ from iy)
    split at h
    · rename_i hm
      rcases hm with hm | hm | hm
      · exact .inl ⟨_, _, rfl, rfl, .inl (by omega), h.now s rfl⟩
      · exact .inl ⟨_, _, rfl, rfl, .inr (by omega), h.now s rfl⟩
      · exact .inr ⟨_, _, rfl, rfl, hm, h.now s rfl⟩
    · exact bad_no h
  · exact bad_no h
def opMod (x y : D) (S : Store) : ER := opI (fun i j => if 0 < j then .ok (.int (i % j)) S else .bad) x y
theorem do_mod : DOp G X (binaryOp .Mod) opMod := by
  refine ⟨_, op_mod, fun W φ S H σ dx dy x y Q s ix iy h => ?_⟩
  unfold opMod opI at h
  dsimp only at h
  split at h
  · cases (show x = _ from ix); cases (show y = _ from iy)
    split at h
    · rename_i hj
      exact ⟨_, _, rfl, rfl, hj, h.now s rfl⟩
    · exact bad_no h
  · exact bad_no h
def divOk (j : Int) : Prop := 0 < j ∧ (j < 1073741824 ∨ j.natAbs.log2 < 9000)
noncomputable instance {j : Int} : Decidable (divOk j) := Classical.propDecidable _
noncomputable def opFdiv (x y : D) (S : Store) : ER := opI (fun i j => if divOk j then .ok (.int (i / j)) S else .bad) x y
theorem do_fdiv : DOp G X (binaryOp .FloorDiv) opFdiv := by
  refine ⟨_, op_fdiv.or op_fdivW, fun W φ S H σ dx dy x y Q s ix iy h => ?_⟩
  unfold opFdiv opI at h
  dsimp only at h
  split at h
  · cases (show x = _ from ix); cases (show y = _ from iy)
    split at h
    · rename_i hj
      obtain ⟨h1, h2 | h2⟩ := hj
      · exact .inl ⟨_, _, rfl, rfl, ⟨h1, h2⟩, h.now s rfl⟩
      · exact .inr ⟨_, _, rfl, rfl, ⟨h1, h2⟩, h.now s rfl⟩
    · exact bad_no h
  · exact bad_no h
def powOk (i j : Int) : Prop := 0 ≤ j ∧ j ≤ 1000000 ∧ i.natAbs < 18446744073709551616
noncomputable instance {i j : Int} : Decidable (powOk i j) := Classical.propDecidable _
noncomputable def opPow (x y : D) (S : Store) : ER := opI (fun i j => if powOk i j then .ok (.int (i ^ j.toNat)) S else .bad) x y
theorem do_pow : DOp G X (binaryOp .Pow) opPow := by
  refine ⟨_, op_pow, fun W φ S H σ dx dy x y Q s ix iy h => ?_⟩
  unfold opPow opI at h
  dsimp only at h
  split at h
  · cases (show x = _ from ix); cases (show y = _ from iy)
    split at h
    · rename_i hj
      exact ⟨_, _, rfl, rfl, ⟨hj.1, hj.2.1, Nat.lt_of_lt_of_le hj.2.2 (by decide)⟩, h.now s rfl⟩
    · exact bad_no h
  · exact bad_no h
def mulSOk (i j : Int) : Prop := i.natAbs < 18446744073709551616 ∨ j.natAbs < 18446744073709551616
noncomputable instance {i j : Int} : Decidable (mulSOk i j) := Classical.propDecidable _
noncomputable def opMulS (x y : D) (S : Store) : ER := opI (fun i j => if mulSOk i j then .ok (.int (i * j)) S else .bad) x y
def opAddI (x y : D) (S : Store) : ER := opI (fun i j => .ok (.int (i + j)) S) x y
def eNeg (f : EM) : EM := fun env S => (f env S).bind fun d S => match d with | .int i => .ok (.int (-i)) S | _ => .bad
/-! ### comparisons -/
def opCmp (g : Int → Int → Bool) (x y : D) (S : Store) : ER := opI (fun i j => .ok (.bl (g i j)) S) x y
theorem do_cmp {f : Value → Value → Sem Value} {g : Int → Int → Bool} (ho : OpR X f (rI0 fun i j => .bl (g i j))) : DOp G X f (opCmp g) := by
  refine ⟨_, ho, fun W φ S H σ dx dy x y Q s ix iy h => ?_⟩
  unfold opCmp opI at h
  dsimp only at h
  split at h
  · cases (show x = _ from ix); cases (show y = _ from iy)
    exact ⟨_, _, rfl, rfl, h.now s rfl⟩
  · exact bad_no h
def opLt := opCmp fun i j => decide (i < j)
def opLe := opCmp fun i j => decide (i ≤ j)
def opGt := opCmp fun i j => decide (j < i)
def opGe := opCmp fun i j => decide (j ≤ i)
theorem do_le : DOp G X (compareOp .LtE) opLe := do_cmp op_le
theorem do_gt : DOp G X (compareOp .Gt) opGt := do_cmp op_gt
theorem do_ge : DOp G X (compareOp .GtE) opGe := do_cmp op_ge
/-- a list of plain things -/
def pyFs : List D → Option (List PyData)
  | [] => some []
  | .non :: ds => (pyFs ds).map (.none :: ·)
  | .bl b :: ds => (pyFs ds).map (.bool b :: ·)
  | .int i :: ds => (pyFs ds).map (.int i :: ·)
  | .str x :: ds => (pyFs ds).map (.str x :: ·)
  | _ :: _ => none
theorem pyFs_dp : ∀ {ds : List D} {vs : List V} {ps : List PyData}, IsL G φ H ds vs → pyFs ds = some ps → DpAll G.K H vs ps
  | [], vs, ps, i, e => by cases (show vs = [] from i); cases e; exact .nil
  | .non :: ds, vs, ps, i, e => by
    obtain ⟨x, r, rfl, p, q⟩ := i
    obtain ⟨b, e3, e4⟩ := Option.map_eq_some_iff.mp (show (pyFs ds).map (PyData.none :: ·) = some ps from e)
    subst e4; cases (show x = _ from p); exact .cons .non (pyFs_dp q e3)
  | .bl k :: ds, vs, ps, i, e => by
    obtain ⟨x, r, rfl, p, q⟩ := i
    obtain ⟨b, e3, e4⟩ := Option.map_eq_some_iff.mp (show (pyFs ds).map (PyData.bool k :: ·) = some ps from e)
    subst e4; cases (show x = _ from p); exact .cons (.bl k) (pyFs_dp q e3)
  | .int k :: ds, vs, ps, i, e => by
    obtain ⟨x, r, rfl, p, q⟩ := i
    obtain ⟨b, e3, e4⟩ := Option.map_eq_some_iff.mp (show (pyFs ds).map (PyData.int k :: ·) = some ps from e)
    subst e4; cases (show x = _ from p); exact .cons (.int k) (pyFs_dp q e3)
  | .str k :: ds, vs, ps, i, e => by
    obtain ⟨x, r, rfl, p, q⟩ := i
    obtain ⟨b, e3, e4⟩ := Option.map_eq_some_iff.mp (show (pyFs ds).map (PyData.str k :: ·) = some ps from e)
    subst e4; cases (show x = _ from p); exact .cons (.str k) (pyFs_dp q e3)
  | .tup _ :: _, _, _, _, e => nomatch e
  | .lst _ :: _, _, _, _, e => nomatch e
  | .dic _ _ :: _, _, _, _, e => nomatch e
  | .obj _ _ _ :: _, _, _, _, e => nomatch e
  | .loc _ :: _, _, _, _, e => nomatch e
  | .dct _ _ :: _, _, _, _, e => nomatch e
  | .exn _ _ _ :: _, _, _, _, e => nomatch e
  | .tpl _ :: _, _, _, _, e => nomatch e
mutual
/-- data for == -/
def D.py (S : Store) : D → Option PyData
  | .non => some .none
  | .bl b => some (.bool b)
  | .int i => some (.int i)
  | .str x => some (.str x)
  | .tup ds => (D.pys S ds).map .tuple
  | .lst ds => (D.pys S ds).map .list
  | .loc l => match S[l]? with
    | some (.lst ds) => (pyFs ds).map .list
    | _ => none
  | _ => none
def D.pys (S : Store) : List D → Option (List PyData)
  | [] => some []
  | d :: ds => (D.py S d).bind fun a => (D.pys S ds).map (a :: ·)
end
mutual
theorem D.py_dp (s : SOk G φ S H) : ∀ {d : D} {v : V} {p : PyData}, Is G φ H d v → D.py S d = some p → Dp G.K H v p
  | .non, v, p, i, e => by cases (show v = _ from i); cases e; exact .non
  | .bl b, v, p, i, e => by cases (show v = _ from i); cases e; exact .bl b
  | .int b, v, p, i, e => by cases (show v = _ from i); cases e; exact .int b
  | .str b, v, p, i, e => by cases (show v = _ from i); cases e; exact .str b
  | .tup ds, v, p, i, e => by
    obtain ⟨a, xs, rfl, r, q⟩ := i
    obtain ⟨ps, e1, e2⟩ := Option.map_eq_some_iff.mp (show (D.pys S ds).map PyData.tuple = some p from e)
    subst e2
    exact .tup r.seq (D.pys_dp s q e1)
  | .lst ds, v, p, i, e => by
    obtain ⟨a, xs, rfl, r, q⟩ := i
    obtain ⟨ps, e1, e2⟩ := Option.map_eq_some_iff.mp (show (D.pys S ds).map PyData.list = some p from e)
    subst e2
    exact .lst r.seq (D.pys_dp s q e1)
  | .dic _ _, _, _, _, e => nomatch e
  | .obj _ _ _, _, _, _, e => nomatch e
  | .dct _ _, _, _, _, e => nomatch e
  | .exn _ _ _, _, _, _, e => nomatch e
  | .tpl _, _, _, _, e => nomatch e
  | .loc l, v, p, i, e => by
    simp only [D.py] at e
    split at e
    · rename_i h
      obtain ⟨ps, e1, e2⟩ := Option.map_eq_some_iff.mp e
      subst e2
      obtain ⟨a, xs, e3, r, q⟩ := listD_sq s (show Is G φ H (.loc l) v from i) (show listD S (.loc l) = some _ by simp only [listD]; rw [h])
      subst e3
      exact .lst r (pyFs_dp q e1)
    · cases e
theorem D.pys_dp (s : SOk G φ S H) : ∀ {ds : List D} {vs : List V} {ps : List PyData}, IsL G φ H ds vs → D.pys S ds = some ps → DpAll G.K H vs ps
  | [], vs, ps, i, e => by cases (show vs = [] from i); cases e; exact .nil
  | d :: ds, vs, ps, i, e => by
    obtain ⟨x, r, rfl, p, q⟩ := i
    obtain ⟨a, e1, e2⟩ := Option.bind_eq_some_iff.mp (show ((D.py S d).bind fun a => (D.pys S ds).map (a :: ·)) = some ps from e)
    obtain ⟨b, e3, e4⟩ := Option.map_eq_some_iff.mp e2
    subst e4
    exact .cons (D.py_dp s p e1) (D.pys_dp s q e3)
end
/-- a list's cell at the outside -/
def D.pyO (S : Store) : D → Option PyData
  | .loc l => match S[l]? with
    | some (.lst ds) => (D.pys S ds).map .list
    | _ => none
  | d => D.py S d
theorem D.pyO_dp {d : D} {v : V} {p : PyData} (s : SOk G φ S H) (i : Is G φ H d v) (e : D.pyO S d = some p) : Dp G.K H v p := by
  cases d with
  | loc l =>
    simp only [D.pyO] at e
    split at e
    · rename_i h
      obtain ⟨ps, e1, e2⟩ := Option.map_eq_some_iff.mp e
      subst e2
      obtain ⟨a, xs, e3, r, q⟩ := listD_sq s (show Is G φ H (.loc l) v from i) (show listD S (.loc l) = some _ by simp only [listD]; rw [h])
      subst e3
      exact .lst r (D.pys_dp s q e1)
    · cases e
  | _ => exact D.py_dp s i e
/-- data that may be compared with the same data: lists and dicts of such, too -/
def niceE (S : Store) : Nat → D → Bool
  | 0, _ => false
  | n + 1, d => match D.py S d with
    | some p => SeqAt.shaped p && PyData.eqv p p
    | none => match d with
      | .lst ds => ds.all (niceE S n)
      | .dic _ ds => ds.all (niceE S n)
      | _ => false
theorem paired_same {F : V → V → Prop} (f : D → Bool) (st : ∀ d x y, f d = true → Is G φ H d x → Is G φ H d y → F x y) : ∀ {ds : List D} {xs ys : List V}, ds.all f = true → IsL G φ H ds xs → IsL G φ H ds ys → Paired F xs ys
  | [], xs, ys, _, i, j => by cases (show xs = [] from i); cases (show ys = [] from j); exact .nil
  | d :: ds, xs, ys, h, i, j => by
    rw [List.all_cons, Bool.and_eq_true] at h
    obtain ⟨x, r, rfl, p, q⟩ := i
    obtain ⟨y, r', rfl, p', q'⟩ := j
    exact .cons (st d x y h.1 p p') (paired_same f st h.2 q q')
theorem niceE_is (s : SOk G φ S H) : ∀ (n : Nat) (d : D) (x y : V), niceE S n d = true → Is G φ H d x → Is G φ H d y → EqW G.K H n x y
  | 0, _, _, _, h, _, _ => by cases h
  | n + 1, d, x, y, h, i, j => by
    unfold niceE at h
    cases hp : D.py S d with
    | some p =>
      rw [hp] at h
      simp only [Bool.and_eq_true] at h
      exact .inl ⟨p, D.py_dp s i hp, D.py_dp s j hp, h.1, h.2⟩
    | none =>
      rw [hp] at h
      cases d with
      | lst ds =>
        obtain ⟨a, xs, rfl, r, q⟩ := i
        obtain ⟨b, ys, rfl, r', q'⟩ := j
        exact .inr (.inl ⟨a, b, xs, ys, rfl, rfl, r.seq, r'.seq, paired_same _ (niceE_is s n) h q q'⟩)
      | dic ks ds =>
        obtain ⟨a, xs, rfl, ⟨_, r⟩, e, q⟩ := i
        obtain ⟨b, ys, rfl, ⟨_, r'⟩, e', q'⟩ := j
        exact .inr (.inr ⟨a, b, xs, ys, rfl, rfl, r, r', e.trans e'.symm, paired_same _ (niceE_is s n) h q q'⟩)
      | _ => cases h
def niceT (S : Store) (d : D) : Bool := match d with
  | .lst ds => ds.all (niceE S 8)
  | .dic _ ds => ds.all (niceE S 8)
  | _ => false
theorem niceT_is (s : SOk G φ S H) {d : D} {x y : V} (h : niceT S d = true) (i : Is G φ H d x) (j : Is G φ H d y) : EqT G.K H 8 x y := by
  cases d with
  | lst ds =>
    obtain ⟨a, xs, rfl, r, q⟩ := i
    obtain ⟨b, ys, rfl, r', q'⟩ := j
    exact .inl ⟨a, b, xs, ys, rfl, rfl, r.seq, r'.seq, paired_same _ (niceE_is s 8) h q q'⟩
  | dic ks ds =>
    obtain ⟨a, xs, rfl, ⟨_, r⟩, e, q⟩ := i
    obtain ⟨b, ys, rfl, ⟨_, r'⟩, e', q'⟩ := j
    exact .inr ⟨a, b, xs, ys, rfl, rfl, r, r', e.trans e'.symm, paired_same _ (niceE_is s 8) h q q'⟩
  | _ => cases h
open Classical in
noncomputable def eqSame (neg : Bool) (x y : D) (S : Store) : ER := if x = y ∧ niceT S x = true then .ok (.bl (!neg)) S else .bad
noncomputable def opEqB (neg : Bool) (x y : D) (S : Store) : ER := match x, y with
  | .str a, .str b => .ok (.bl (if neg then !decide (a = b) else decide (a = b))) S
  | x, y => match x.pyO S, y.pyO S with
    | some p, some q => if SeqAt.shaped p && SeqAt.shaped q then .ok (.bl (if neg then !PyData.eqv p q else PyData.eqv p q)) S else .bad
    | _, _ => eqSame neg x y S
noncomputable def opEq := opEqB false
noncomputable def opNe := opEqB true
theorem units100 {k : Nat} {A : Around} (r : Room k A) : A.units + 100 < cLine := by have := r.un; omega
theorem dec_s {a b : Str} : decide (V.str a = V.str b) = decide (a = b) := by
  by_cases e : a = b
  · subst e; simp
  · rw [decide_eq_false e, decide_eq_false (fun z => e (V.str.inj z))]
theorem do_eq (hK : X.K = G.K) (hu : X.A.units + 100 < cLine) : DOp G X (compareOp .Eq) opEq := by
  refine ⟨_, (op_eq.or (op_eqD (by omega))).or (op_eqT hu), fun W φ S H σ dx dy x y Q s ix iy h => ?_⟩
  unfold opEq opEqB at h
  split at h
  · cases (show x = _ from ix); cases (show y = _ from iy)
    exact .inl (.inl ⟨rfl, by rw [dec_s]; exact h.now s rfl⟩)
  · split at h
    · rename_i p q e1 e2
      split at h
      · rename_i hs
        simp only [Bool.and_eq_true] at hs
        exact .inl (.inr ⟨p, q, by rw [hK]; exact D.pyO_dp s ix e1, by rw [hK]; exact D.pyO_dp s iy e2, hs.1, hs.2, h.now s rfl⟩)
      · exact bad_no h
    · unfold eqSame at h
      split at h
      · rename_i hx
        obtain ⟨e, hn⟩ := hx
        subst e
        exact .inr ⟨8, by decide, by rw [hK]; exact niceT_is s hn ix iy, h.now s rfl⟩
      · exact bad_no h
theorem do_ne (hK : X.K = G.K) (hu : X.A.units + 100 < cLine) : DOp G X (compareOp .NotEq) opNe := by
  refine ⟨_, (op_ne.or (op_neD (by omega))).or (op_neT hu), fun W φ S H σ dx dy x y Q s ix iy h => ?_⟩
  unfold opNe opEqB at h
  split at h
  · cases (show x = _ from ix); cases (show y = _ from iy)
    exact .inl (.inl ⟨rfl, by rw [dec_s]; exact h.now s rfl⟩)
  · split at h
    · rename_i p q e1 e2
      split at h
      · rename_i hs
        simp only [Bool.and_eq_true] at hs
        exact .inl (.inr ⟨p, q, by rw [hK]; exact D.pyO_dp s ix e1, by rw [hK]; exact D.pyO_dp s iy e2, hs.1, hs.2, h.now s rfl⟩)
      · exact bad_no h
    · unfold eqSame at h
      split at h
      · rename_i hx
        obtain ⟨e, hn⟩ := hx
        subst e
        exact .inr ⟨8, by decide, by rw [hK]; exact niceT_is s hn ix iy, h.now s rfl⟩
      · exact bad_no h
def D.isN : D → Bool
  | .non => true
  | _ => false
theorem isN_iff {d : D} {v : V} (i : Is G φ H d v) : decide (v = .non) = d.isN := by
  cases d with
  | non => cases (show v = _ from i); rfl
  | bl b => cases (show v = _ from i); rfl
  | int b => cases (show v = _ from i); rfl
  | str b => cases (show v = _ from i); rfl
  | tup ds => obtain ⟨a, xs, rfl, _⟩ := i; rfl
  | lst ds => obtain ⟨a, xs, rfl, _⟩ := i; rfl
  | dic ks ds => obtain ⟨a, xs, rfl, _⟩ := i; rfl
  | obj c ks ds => obtain ⟨a, C, dx, fs, rfl, _⟩ := i; rfl
  | loc l => obtain ⟨a, _, rfl⟩ := i; rfl
  | dct ks ds => obtain ⟨a, xs, rfl, _⟩ := i; rfl
  | exn c ks ds => obtain ⟨a, C, d, rfl, _⟩ := i; rfl
  | tpl ds => obtain ⟨a, xs, o, rfl, _⟩ := i; rfl
def opIsN (x y : D) (S : Store) : ER := match y with | .non => .ok (.bl x.isN) S | _ => .bad
def opNotN (x y : D) (S : Store) : ER := match y with | .non => .ok (.bl (!x.isN)) S | _ => .bad
theorem do_isN : DOp G X (compareOp .Is) opIsN := by
  refine ⟨_, op_isN, fun W φ S H σ dx dy x y Q s ix iy h => ?_⟩
  cases dy with
  | non => exact ⟨iy, by rw [isN_iff ix]; exact h.now s rfl⟩
  | _ => exact bad_no h
theorem do_notN : DOp G X (compareOp .IsNot) opNotN := by
  refine ⟨_, op_notN, fun W φ S H σ dx dy x y Q s ix iy h => ?_⟩
  cases dy with
  | non => exact ⟨iy, by rw [isN_iff ix]; exact h.now s rfl⟩
  | _ => exact bad_no h
/-- a < b < c -/
def eChain (g g' : D → D → Store → ER) (a b c : EM) : EM := fun env S => (a env S).bind fun x S => (b env S).bind fun y S => (g x y S).bind fun z S => match z with
  | .bl true => (c env S).bind fun w S => g' y w S
  | .bl false => .ok (.bl false) S
  | _ => .bad

/-! ### subscripts -/
def seqD (S : Store) (d : D) : Option (List D) := match d with
  | .tup ds => some ds
  | d => listD S d
def strAt (x : Str) (i : Int) : Option D := (atI x.cps.toList i).map fun c => .str ⟨#[c]⟩
noncomputable def opIx (x y : D) (S : Store) : ER := match x, y with
  | .str x, .int i => if sz x.length then (match strAt x i with | some d => .ok d S | none => .bad) else .bad
  | .tup ds, .int i => match atI ds i with | some d => .ok d S | none => .bad
  | x, .int i => match listD S x with
    | some ds => (match atI ds i with | some d => .ok d S | none => .bad)
    | none => .bad
  | _, _ => .bad
theorem atI_is {ds : List D} {xs : List V} {i : Int} {d : D} (q : IsL G φ H ds xs) (e : atI ds i = some d) : ∃ v, atI xs i = some v ∧ Is G φ H d v := by
  unfold atI at e ⊢
  rw [q.length] at e
  obtain ⟨j, e1, e2⟩ := Option.bind_eq_some_iff.mp e
  obtain ⟨v, e3, k⟩ := q.get e2
  exact ⟨v, by rw [e1]; exact e3, k⟩
/-! ### calls of built-ins -/
/-- a built-in by values -/
def DCall (G : Glb) (X : Cx) (f : Value) (g : List D → Store → ER) : Prop :=
  ∃ r, CallR X f r ∧ ∀ W φ S H σ ds xs Q, SOk G φ S H → IsL G φ H ds xs → PostE G W φ H σ (g ds S) Q → r xs H Q
def eCallB (g : List D → Store → ER) (f : LM) : EM := fun env S => (f env S).bindE g
theorem de_callB {id : String} {x : Str} {e : Expr} {es : List Expr} {p pos : Pos} {g : List D → Store → ER} {f : LM} (hc : DCall G X (.builtin id) g) (hg : Gl X x) (hm : X.mg x = none) (hv : bootBuiltins x = some (.builtin id)) (ha : DA G X W (e :: es) f) (hn : x ≠ "__name__" := by decide) (hdb : (x == ("__debug__" : Str)) = false := by decide)
    (he : starEach (e :: es) X.env = (false, eval e X.env) :: starEach es X.env := by rfl) (hpl : (backTo pos (starEach es X.env)).any (·.1) = false := by rfl) : DE G X W (.Call (.Name x p) (e :: es) [] pos) (eCallB g f) := by
  obtain ⟨r, hr, q⟩ := hc
  obtain ⟨t, pt, qt⟩ := ha
  refine ⟨_, pe_callB hr hg hm hv pt hn hdb he hpl, fun σ H env φ S Q s re h => ?_⟩
  exact qt σ H env φ S _ s re (PostL.bindE h fun ds S1 φ1 H1 xs e1 s1 i1 h1 => q W φ1 S1 H1 σ ds xs Q s1 i1 h1)
theorem de_callTy {T : String} {x : Str} {e : Expr} {es : List Expr} {p pos : Pos} {g : List D → Store → ER} {f : LM} (hc : DCall G X (.type T) g) (hg : Gl X x) (hm : X.mg x = none) (hv : bootBuiltins x = some (.type T)) (ha : DA G X W (e :: es) f) (hn : x ≠ "__name__" := by decide) (hdb : (x == ("__debug__" : Str)) = false := by decide)
    (he : starEach (e :: es) X.env = (false, eval e X.env) :: starEach es X.env := by rfl) (hpl : (backTo pos (starEach es X.env)).any (·.1) = false := by rfl) : DE G X W (.Call (.Name x p) (e :: es) [] pos) (eCallB g f) := by
  obtain ⟨r, hr, q⟩ := hc
  obtain ⟨t, pt, qt⟩ := ha
  refine ⟨_, pe_callTy hr hg hm hv pt hn hdb he hpl, fun σ H env φ S Q s re h => ?_⟩
  exact qt σ H env φ S _ s re (PostL.bindE h fun ds S1 φ1 H1 xs e1 s1 i1 h1 => q W φ1 S1 H1 σ ds xs Q s1 i1 h1)
theorem IsL.inv1 {d : D} {xs : List V} (h : IsL G φ H [d] xs) : ∃ x, xs = [x] ∧ Is G φ H d x := by
  obtain ⟨x, r, rfl, p, q⟩ := h
  cases (show r = [] from q)
  exact ⟨x, rfl, p⟩
theorem IsL.inv2 {d e : D} {xs : List V} (h : IsL G φ H [d, e] xs) : ∃ x y, xs = [x, y] ∧ Is G φ H d x ∧ Is G φ H e y := by
  obtain ⟨x, r, rfl, p, q⟩ := h
  obtain ⟨y, rfl, k⟩ := IsL.inv1 q
  exact ⟨x, y, rfl, p, k⟩
noncomputable def bLen (ds : List D) (S : Store) : ER := match ds with
  | [.str x] => if sz x.length then .ok (.int x.length) S else .bad
  | [d] => match seqD S d with
    | some es => .ok (.int es.length) S
    | none => .bad
  | _ => .bad
theorem seqD_sq {d : D} {v : V} {ds : List D} (s : SOk G φ S H) (i : Is G φ H d v) (e : seqD S d = some ds) : ∃ a xs, v = .ref a ∧ (SqL G.K H a xs ∨ SqT G.K H a xs) ∧ IsL G φ H ds xs := by
  unfold seqD at e
  split at e
  · obtain ⟨a, xs, e1, r, q⟩ := tupD_sq i e
    exact ⟨a, xs, e1, .inr r, q⟩
  · obtain ⟨a, xs, e1, r, q⟩ := listD_sq s i e
    exact ⟨a, xs, e1, .inl r, q⟩
theorem dc_len (hK : X.K = G.K) : DCall G X (.builtin "len") bLen := by
  refine ⟨_, call_len_seq.or call_len_str, fun W φ S H σ ds xs Q s i h => ?_⟩
  unfold bLen at h
  split at h
  · obtain ⟨x, rfl, k⟩ := IsL.inv1 i
    cases (show x = _ from k)
    split at h
    · exact .inr ⟨_, rfl, sizeLine_is (by assumption), h.now s rfl⟩
    · exact bad_no h
  · obtain ⟨x, rfl, k⟩ := IsL.inv1 i
    split at h
    · rename_i es e
      obtain ⟨a, ys, rfl, r, q⟩ := seqD_sq s k e
      refine .inl ⟨a, ys, rfl, by rw [hK]; exact r, ?_⟩
      rw [← q.length]
      exact h.now s rfl
    · exact bad_no h
  · exact bad_no h
def bII (g : Int → Int → Int) (ds : List D) (S : Store) : ER := match ds with
  | [.int i, .int j] => .ok (.int (g i j)) S
  | _ => .bad
def maxII (i j : Int) : Int := if j > i then j else i
def minII (i j : Int) : Int := if j < i then j else i
theorem dc_max2 (hc : X.calm = true) : DCall G X (.builtin "max") (bII maxII) := by
  refine ⟨_, call_max2 hc, fun W φ S H σ ds xs Q s i h => ?_⟩
  unfold bII at h
  split at h
  · obtain ⟨x, y, rfl, k, l⟩ := IsL.inv2 i
    cases (show x = _ from k); cases (show y = _ from l)
    exact ⟨_, _, rfl, h.now s rfl⟩
  · exact bad_no h
theorem dc_min2 (hc : X.calm = true) : DCall G X (.builtin "min") (bII minII) := by
  refine ⟨_, call_min2 hc, fun W φ S H σ ds xs Q s i h => ?_⟩
  unfold bII at h
  split at h
  · obtain ⟨x, y, rfl, k, l⟩ := IsL.inv2 i
    cases (show x = _ from k); cases (show y = _ from l)
    exact ⟨_, _, rfl, h.now s rfl⟩
  · exact bad_no h
def bAbs (ds : List D) (S : Store) : ER := match ds with
  | [.int i] => .ok (.int (if i < 0 then -i else i)) S
  | _ => .bad
def bInt (ds : List D) (S : Store) : ER := match ds with
  | [.int i] => .ok (.int i) S
  | [.bl b] => .ok (.int (if b then 1 else 0)) S
  | _ => .bad
def bList (ds : List D) (S : Store) : ER := match ds with
  | [d] => match seqD S d with
    | some es => .ok (.lst es) S
    | none => .bad
  | _ => .bad
theorem dc_list (hK : X.K = G.K) : DCall G X (.type "list") bList := by
  refine ⟨_, call_list_of, fun W φ S H σ ds xs Q s i h => ?_⟩
  unfold bList at h
  split at h
  · obtain ⟨x, rfl, k⟩ := IsL.inv1 i
    split at h
    · rename_i es e
      obtain ⟨a, ys, rfl, r, q⟩ := seqD_sq s k e
      exact ⟨a, ys, rfl, by rw [hK]; exact r, fun l hl => lst_new s q h hl⟩
    · exact bad_no h
  · exact bad_no h
def bListM (ds : List D) (S : Store) : ER := match ds with
  | [d] => match seqD S d with
    | some es => .ok (.loc S.length) (S ++ [.lst es])
    | none => .bad
  | _ => .bad
theorem dc_listM (hK : X.K = G.K) : DCall G X (.type "list") bListM := by
  refine ⟨_, call_list_of, fun W φ S H σ ds xs Q s i h => ?_⟩
  unfold bListM at h
  split at h
  · obtain ⟨x, rfl, k⟩ := IsL.inv1 i
    split at h
    · rename_i es e
      obtain ⟨a, ys, rfl, r, q⟩ := seqD_sq s k e
      exact ⟨a, ys, rfl, by rw [hK]; exact r, fun l hl => lst_newM s q h hl⟩
    · exact bad_no h
  · exact bad_no h
def bTuple (ds : List D) (S : Store) : ER := match ds with
  | [d] => match seqD S d with
    | some es => .ok (.tup es) S
    | none => .bad
  | _ => .bad
theorem dc_tuple (hK : X.K = G.K) : DCall G X (.type "tuple") bTuple := by
  refine ⟨_, call_tuple_of, fun W φ S H σ ds xs Q s i h => ?_⟩
  unfold bTuple at h
  split at h
  · obtain ⟨x, rfl, k⟩ := IsL.inv1 i
    split at h
    · rename_i es e
      unfold seqD at e
      split at e
      · obtain ⟨a, ys, rfl, r, q⟩ := id k
        cases e
        exact ⟨a, ys, rfl, .inr ⟨by rw [hK]; exact r.seq, h.now s ⟨a, ys, rfl, r, q⟩⟩⟩
      · obtain ⟨a, ys, rfl, r, q⟩ := listD_sq s k e
        exact ⟨a, ys, rfl, .inl ⟨by rw [hK]; exact r, fun l hl => tup_new s q h hl⟩⟩
    · exact bad_no h
  · exact bad_no h
/-- lists of one kind -/
def intsD : List D → Option (List Int)
  | [] => some []
  | .int i :: ds => (intsD ds).map (i :: ·)
  | _ :: _ => none
theorem intsD_map : ∀ ns : List Int, intsD (ns.map D.int) = some ns
  | [] => rfl
  | n :: ns => by simp [intsD, intsD_map ns]
def blsD : List D → Option (List Bool)
  | [] => some []
  | .bl i :: ds => (blsD ds).map (i :: ·)
  | _ :: _ => none
theorem blsD_is : ∀ {ds : List D} {ns : List Bool}, blsD ds = some ns → ds = ns.map D.bl
  | [], ns, e => by cases e; rfl
  | d :: ds, ns, e => by
    cases d with
    | bl i =>
      obtain ⟨a, e1, e2⟩ := Option.map_eq_some_iff.mp (show (blsD ds).map (i :: ·) = some ns from e)
      subst e2
      rw [blsD_is e1]; rfl
    | _ => cases e
theorem blsD_map : ∀ ns : List Bool, blsD (ns.map D.bl) = some ns
  | [] => rfl
  | n :: ns => by simp [blsD, blsD_map ns]
def bAll (ds : List D) (S : Store) : ER := match ds with
  | [d] => match (listD S d).bind blsD with
    | some bs => .ok (.bl (bs.all id)) S
    | none => .bad
  | _ => .bad
def bAny (ds : List D) (S : Store) : ER := match ds with
  | [d] => match (listD S d).bind blsD with
    | some bs => .ok (.bl (bs.any id)) S
    | none => .bad
  | _ => .bad
theorem dc_all (hc : X.calm = true) (hK : X.K = G.K) : DCall G X (.builtin "all") bAll := by
  refine ⟨_, cr_all hc, fun W φ S H σ ds xs Q s i h => ?_⟩
  unfold bAll at h
  split at h
  · obtain ⟨x, rfl, k⟩ := IsL.inv1 i
    split at h
    · rename_i bs e
      obtain ⟨es, e1, e2⟩ := Option.bind_eq_some_iff.mp e
      obtain ⟨a, ys, rfl, r, q⟩ := listD_sq s k e1
      rw [blsD_is e2] at q
      exact ⟨a, bs, rfl, by rw [hK, ← q.bls]; exact r, h.now s rfl⟩
    · exact bad_no h
  · exact bad_no h
def bSum (ds : List D) (S : Store) : ER := match ds with
  | [d] => match (listD S d).bind intsD with
    | some ns => .ok (.int ns.sum) S
    | none => .bad
  | _ => .bad
end
end DL
end
section
/-! D-layer, part 3: loops, comprehensions, more assignments, defs and their calls. -/
namespace DL
open PySem L2

section
variable {G : Glb} {X : Cx} {W : WX}
/-! ### more assignments -/
/-- a, b = e1, e2 -/
def sPar (i j : Nat) (f : LM) : SM := fun e S => (f e S).bindS e fun ds S => match ds with
  | [a, b] => .nx ((e.set i (some a)).set j (some b)) S
  | _ => .bad
theorem ds_par {i j : Nat} {x y : Str} {a b : Expr} {f : LM} {px py pt pos : Pos} {kt k2 pt2} (hc : X.calm = true) (hN : X.N.Nodup) (hi : X.N[i]? = some x) (hj : X.N[j]? = some y) (hij : i ≠ j)
    (hx : X.env.scope.names.lookup x = some .local) (hy : X.env.scope.names.lookup y = some .local) (ha : DA G X W [a, b] f)
    (hw : swappedStores [.Tuple [.Name x px, .Name y py] kt pt] (.Tuple [a, b] k2 pt2) X.env = pure (some [x, y]))
    (hs : swapsWithSole [.Tuple [.Name x px, .Name y py] kt pt] (.Tuple [a, b] k2 pt2) pos.line X.env = pure false := by rfl) :
    DS G X W (.Assign [.Tuple [.Name x px, .Name y py] kt pt] (.Tuple [a, b] k2 pt2) pos) (sPar i j f) := by
  obtain ⟨t, p, q⟩ := ha
  refine ⟨_, ps_par hc hN hi hj hij hx hy p hw hs, fun σ H env φ S N s re h => ?_⟩
  refine q σ H env φ S _ s re (PostL.bindS re h fun ds S1 φ1 H1 vs e1 s1 i1 h1 => ?_)
  match ds, h1, i1 with
  | [d, d2], h1, i1 =>
    obtain ⟨v, w, rfl, k1, k2⟩ := IsL.inv2 i1
    exact ⟨v, w, rfl, h1 φ1 H1 _ .refl s1 (((re.ext e1).set k1 i).set k2 j)⟩
  | [], h1, _ => exact False.elim h1
  | [_], h1, _ => exact False.elim h1
  | _ :: _ :: _ :: _, h1, _ => exact False.elim h1
def sPar3 (i j l : Nat) (f : LM) : SM := fun e S => (f e S).bindS e fun ds S => match ds with
  | [a, b, c] => .nx (((e.set i (some a)).set j (some b)).set l (some c)) S
  | _ => .bad
/-- x op= e -/
def sAug (i : Nat) (g : D → D → Store → ER) (f : EM) : SM := fun e S => (eOp g (eVar i) f e S).bindS e fun d S => .nx (e.set i (some d)) S
/-! ### what is walked -/
structure Feeds (G : Glb) (φ0 : Fi) (H0 : Hp) (J : It) (ds : List D) : Prop where
  go : ∀ φ S H (i : Nat) d, Kept φ0 H0 φ H → SOk G φ S H → ds[i]? = some d → J.go i H ∧ ∀ x H', J.yld i H x H' → Ext φ H φ H' ∧ SOk G φ S H' ∧ Is G φ H' d x
  stop : ∀ φ S H, Kept φ0 H0 φ H → SOk G φ S H → J.stop ds.length H
theorem Kept.trans {φ φ1 φ2 : Fi} {H H1 H2 : Hp} (a : Kept φ H φ1 H1) (b : Kept φ1 H1 φ2 H2) : Kept φ H φ2 H2 :=
  ⟨fun l x q => b.get l x (a.get l x q), fun x u n r => let ⟨n1, r1⟩ := a.rd x u n r; b.rd x u n1 r1, fun x C dx fs n r => let ⟨n1, r1⟩ := a.ins x C dx fs n r; b.ins x C dx fs n1 r1, fun x o u n r => let ⟨n1, r1⟩ := a.frz x o u n r; b.frz x o u n1 r1, fun x u n r => let ⟨n1, r1⟩ := a.ext x u n r; b.ext x u n1 r1, fun x u n r => let ⟨n1, r1⟩ := a.xd x u n r; b.xd x u n1 r1⟩
def PostI (G : Glb) (W : WX) (φ : Fi) (H : Hp) (σ : St) (r : LR) (R : It → Hp → Prop) : Prop := match r with
  | .ok ds S => ∀ φ' H' J, Ext φ H φ' H' → SOk G φ' S H' → Feeds G φ' H' J ds → R J H'
  | .ex x S => ∀ φ' H' cls dx, Ext φ H φ' H' → SOk G φ' S H' → IsX G φ' H' x cls dx → W cls dx σ H'
  | .bad => False
def DI (G : Glb) (X : Cx) (W : WX) (tg e : Expr) (f : LM) : Prop :=
  ∃ wi, PI X tg e wi ∧ ∀ σ H env φ S R, SOk G φ S H → RepE G φ H σ env → PostI G W φ H σ (f env S) R → wi σ H R
theorem feeds_list {φ : Fi} {H : Hp} {a : Addr} {xs : List V} {ds : List D} (r : RdL G φ H a xs) (q : IsL G φ H ds xs) : Feeds G φ H (Itl G.K a) ds := by
  refine ⟨fun φ2 S2 H2 i d e s hd => ?_, fun φ2 S2 H2 e s => ⟨xs, (r.kept e).seq, by rw [q.length]; exact Nat.le_refl _⟩⟩
  obtain ⟨x, hx, k⟩ := q.get hd
  refine ⟨⟨xs, x, (r.kept e).seq, hx⟩, fun y H3 ⟨e3, hy⟩ => ?_⟩
  subst e3
  have z := hy xs (r.kept e).seq
  rw [hx] at z; cases z
  exact ⟨.refl, s, k.kept e⟩
theorem feeds_tup {φ : Fi} {H : Hp} {a : Addr} {xs : List V} {ds : List D} (r : RdT G φ H a xs) (q : IsL G φ H ds xs) : Feeds G φ H (Itt G.K a) ds := by
  refine ⟨fun φ2 S2 H2 i d e s hd => ?_, fun φ2 S2 H2 e s => ⟨xs, (r.kept e).seq, by rw [q.length]; exact Nat.le_refl _⟩⟩
  obtain ⟨x, hx, k⟩ := q.get hd
  refine ⟨⟨xs, x, (r.kept e).seq, hx⟩, fun y H3 ⟨e3, hy⟩ => ?_⟩
  subst e3
  have z := hy xs (r.kept e).seq
  rw [hx] at z; cases z
  exact ⟨.refl, s, k.kept e⟩
theorem PI.or {tg e : Expr} {w1 w2 : TI} (h1 : PI X tg e w1) (h2 : PI X tg e w2) : PI X tg e (fun σ H R => w1 σ H R ∨ w2 σ H R) :=
  ⟨fun pins s σ H R I h => h.elim (h1.run pins s σ H R I) (h2.run pins s σ H R I)⟩
/-- a text's signs -/
def signsD (x : Str) : List D := x.cps.toList.map fun c => .str ⟨#[c]⟩
theorem feeds_str {φ : Fi} {H : Hp} (x : Str) : Feeds G φ H (Its x) (signsD x) := by
  refine ⟨fun φ2 S2 H2 i d e s hd => ?_, fun φ2 S2 H2 e s => by show x.cps.size ≤ (signsD x).length; simp [signsD]⟩
  unfold signsD at hd
  rw [List.getElem?_map] at hd
  obtain ⟨c, e1, e2⟩ := Option.map_eq_some_iff.mp hd
  subst e2
  rw [Array.getElem?_toList] at e1
  refine ⟨(Array.getElem?_eq_some_iff.mp e1).1, fun y H3 ⟨e3, c', e4, e5⟩ => ?_⟩
  rw [e1] at e4
  cases e4
  subst e3 e5
  exact ⟨.refl, s, rfl⟩
def iSeq (f : EM) : LM := fun env S => (f env S).bindL fun d S => match d with
  | .lst ds => .ok ds S
  | .tup ds => .ok ds S
  | .str x => .ok (signsD x) S
  | _ => .bad
theorem di_seq {tg e : Expr} {f : EM} (hK : X.K = G.K) (he : DE G X W e f) : DI G X W tg e (iSeq f) := by
  obtain ⟨t, p, q⟩ := he
  refine ⟨_, PI.or (PI.or (pi_list p) (pi_tup p)) (pi_str p), fun σ H env φ S R s re h => ?_⟩
  unfold iSeq at h
  cases hr : f env S with
  | bad => rw [hr] at h; exact False.elim h
  | ex x S1 =>
    rw [hr] at h
    exact .inl (.inl (q σ H env φ S _ s re (by rw [hr]; exact h)))
  | ok d S1 =>
    rw [hr] at h
    cases d with
    | str x =>
      refine .inr (q σ H env φ S _ s re ?_)
      rw [hr]
      intro φ1 H1 v e1 s1 i1
      exact ⟨x, i1, h φ1 H1 _ e1 s1 (feeds_str x)⟩
    | lst ds =>
      refine .inl (.inl (q σ H env φ S _ s re ?_))
      rw [hr]
      intro φ1 H1 v e1 s1 i1
      obtain ⟨a, xs, rfl, r, il⟩ := i1
      refine ⟨a, rfl, ⟨xs, by rw [hK]; exact r.seq⟩, ?_⟩
      rw [hK]
      exact h φ1 H1 _ e1 s1 (feeds_list r il)
    | tup ds =>
      refine .inl (.inr (q σ H env φ S _ s re ?_))
      rw [hr]
      intro φ1 H1 v e1 s1 i1
      obtain ⟨a, xs, rfl, r, il⟩ := i1
      refine ⟨a, rfl, ⟨xs, by rw [hK]; exact r.seq⟩, ?_⟩
      rw [hK]
      exact h φ1 H1 _ e1 s1 (feeds_tup r il)
    | _ => exact False.elim h
def rangeD (lo : Int) (n : Nat) : List D := (List.range n).map fun i => .int (lo + (i : Nat))
theorem feeds_range {φ : Fi} {H : Hp} (lo : Int) (n : Nat) : Feeds G φ H (Itr lo n) (rangeD lo n) := by
  refine ⟨fun φ2 S2 H2 i d e s hd => ?_, fun φ2 S2 H2 e s => by show n ≤ (rangeD lo n).length; simp [rangeD]⟩
  unfold rangeD at hd
  rw [List.getElem?_map] at hd
  obtain ⟨j, e1, e2⟩ := Option.map_eq_some_iff.mp hd
  obtain ⟨hl, e3⟩ := List.getElem?_eq_some_iff.mp e1
  simp at hl e3
  subst e3 e2
  refine ⟨hl, fun x H3 ⟨e4, e5⟩ => ?_⟩
  subst e4 e5
  exact ⟨.refl, s, rfl⟩
def rOk (i : Int) : Prop := -4611686018427387904 ≤ i ∧ i < 4611686018427387904
noncomputable instance {i : Int} : Decidable (rOk i) := Classical.propDecidable _
theorem rOk.lo {i : Int} (h : rOk i) : -(2 ^ 62) ≤ i := by have := h.1; omega
theorem rOk.hi {i : Int} (h : rOk i) : i < 2 ^ 62 := by have := h.2; omega
noncomputable def iRange1 (f : LM) : LM := fun env S => (f env S).bind fun ds S => match ds with
  | [.int j] => if rOk j then .ok (rangeD 0 j.toNat) S else .bad
  | _ => .bad
noncomputable def iRange2 (f : LM) : LM := fun env S => (f env S).bind fun ds S => match ds with
  | [.int i, .int j] => if rOk i ∧ rOk j then .ok (rangeD i (j - i).toNat) S else .bad
  | _ => .bad
theorem PostL.toI {φ : Fi} {H : Hp} {σ : St} {r : LR} {g : List D → Store → LR} {R : It → Hp → Prop} {Q : List V → Hp → Prop} (h : PostI G W φ H σ (r.bind g) R)
    (k : ∀ d S φ' H' v, Ext φ H φ' H' → SOk G φ' S H' → IsL G φ' H' d v → PostI G W φ' H' σ (g d S) R → Q v H') : PostL G W φ H σ r Q := by
  cases r with
  | ok d S =>
    refine fun φ2 H2 v e s i => k d S φ2 H2 v e s i ?_
    have h' : PostI G W φ H σ (g d S) R := h
    cases hg : g d S with
    | ok ds S2 => rw [hg] at h'; exact fun φ3 H3 J e3 s3 f => h' φ3 H3 J (e.trans e3) s3 f
    | ex x S2 => rw [hg] at h'; exact fun φ3 H3 c dx e3 s3 f => h' φ3 H3 c dx (e.trans e3) s3 f
    | bad => rw [hg] at h'; exact h'
  | ex x S => exact h
  | bad => exact h
theorem di_range1 {tg a : Expr} {p pos : Pos} {f : LM} (hg : Gl X "range") (hm : X.mg "range" = none) (ha : DA G X W [a] f) (hs : starEach [a] X.env = [(false, eval a X.env)] := by rfl) : DI G X W tg (.Call (.Name "range" p) [a] [] pos) (iRange1 f) := by
  obtain ⟨t, pt, q⟩ := ha
  refine ⟨_, pi_range1 hg hm pt hs, fun σ H env φ S R s re h => ?_⟩
  refine q σ H env φ S _ s re (PostL.toI h fun ds S1 φ1 H1 vs e1 s1 i1 h1 => ?_)
  split at h1
  · rename_i j
    obtain ⟨x, rfl, k⟩ := IsL.inv1 i1
    cases (show x = _ from k)
    split at h1
    · rename_i hj
      exact ⟨j, rfl, hj.lo, hj.hi, h1 φ1 H1 _ .refl s1 (feeds_range 0 j.toNat)⟩
    · exact False.elim h1
  · exact False.elim h1
/-- enumerate of a list -/
def enumD : Nat → List D → List D
  | _, [] => []
  | n, d :: ds => .tup [.int (n : Nat), d] :: enumD (n + 1) ds
theorem enumD_length : ∀ (n : Nat) (ds : List D), (enumD n ds).length = ds.length
  | _, [] => rfl
  | n, d :: ds => by simp [enumD, enumD_length (n + 1) ds]
theorem enumD_get : ∀ (n : Nat) (ds : List D) (i : Nat) (d : D), (enumD n ds)[i]? = some d → ∃ e, ds[i]? = some e ∧ d = .tup [.int ((n + i : Nat) : Int), e]
  | _, [], _, _, h => by simp [enumD] at h
  | n, d :: ds, 0, d', h => by
    simp [enumD] at h
    exact ⟨d, rfl, h.symm⟩
  | n, d :: ds, i + 1, d', h => by
    obtain ⟨e, e1, e2⟩ := enumD_get (n + 1) ds i d' (by simpa [enumD] using h)
    exact ⟨e, by simpa using e1, by rw [e2, show n + 1 + i = n + (i + 1) by omega]⟩
def iEnumD (f : LM) : LM := fun env S => (f env S).bind fun ds S => match ds with
  | [.lst ds] => .ok (enumD 0 ds) S
  | _ => .bad
/-- zip of two lists -/
def zipD : List D → List D → List D
  | d :: ds, e :: es => .tup [d, e] :: zipD ds es
  | _, _ => []
def iZipD (f : LM) : LM := fun env S => (f env S).bind fun ds S => match ds with
  | [.lst ds, .lst es] => .ok (zipD ds es) S
  | _ => .bad
/-! ### for, while -/
def forD (b : D → EnvD → Option EnvD) (body : SM) : List D → SM
  | [], e, S => .nx e S
  | d :: ds, e, S => match b d e with
    | none => .bad
    | some e1 => match body e1 S with
      | .nx e2 S2 => forD b body ds e2 S2
      | .ct e2 S2 => forD b body ds e2 S2
      | .bk e2 S2 => .nx e2 S2
      | .rt d S2 => .rt d S2
      | .ex x e2 S2 => .ex x e2 S2
      | .bad => .bad
def sFor (f : LM) (b : D → EnvD → Option EnvD) (body : SM) : SM := fun e S => (f e S).bindS e fun ds S => forD b body ds e S
theorem PostI.ofS {φ : Fi} {H : Hp} {σ : St} {env : EnvD} (re : RepE G φ H σ env) {r : LR} {g : List D → Store → SR} {N : Ends} {R : It → Hp → Prop} (h : PostS G W φ H (r.bindS env g) N)
    (k : ∀ ds S φ' H' J, Ext φ H φ' H' → SOk G φ' S H' → Feeds G φ' H' J ds → PostS G W φ' H' (g ds S) N → R J H') : PostI G W φ H σ r R := by
  cases r with
  | ok d S => exact fun φ2 H2 J e s i => k d S φ2 H2 J e s i (PostS.ext (r := g d S) e h)
  | ex x S => exact fun φ2 H2 c d e s i => h φ2 H2 σ c d e s (re.ext e) i
  | bad => exact h
theorem ds_for {tg iter : Expr} {body : List Stmt} {pos : Pos} {f : LM} {b : D → EnvD → Option EnvD} {vs : List Nat} {g : SM} (hp : PassesOwn (model X.prog X.w) X.A X.env X.xe) (hc : X.calm = true) (hi : DI G X W tg iter f) (hg : DG G X tg b vs) (hb : DSs G X W body g) (hs : ∀ x, foldedSetIterable iter X.env x = pure x := by intro _; rfl) : DS G X W (.For tg iter body [] pos) (sFor f b g) := by
  obtain ⟨wi, pI, qi⟩ := hi
  obtain ⟨tgd, pg, qg⟩ := hg
  obtain ⟨tb, pb, qb⟩ := hb
  refine ⟨_, ps_for hp hc pI pg pb hs, fun σ H env φ S N s re h => ?_⟩
  refine qi σ H env φ S _ s re (PostI.ofS re h fun ds S1 φ1 H1 J e1 s1 fd h1 => ?_)
  refine ⟨fun i m σ2 H2 => m = ds.length - i ∧ i ≤ ds.length ∧ ∃ env2 φ2 S2, Ext φ1 H1 φ2 H2 ∧ SOk G φ2 S2 H2 ∧ RepE G φ2 H2 σ2 env2 ∧ PostS G W φ2 H2 (forD b g (ds.drop i) env2 S2) N,
    ⟨ds.length, by simp, Nat.zero_le _, env, φ1, S1, .refl, s1, re.ext e1, h1⟩, ?_⟩
  rintro i m σ2 H2 ⟨rfl, hi, env2, φ2, S2, e2, s2, r2, h2⟩
  by_cases hl : i < ds.length
  · right
    have hd : ds[i]? = some ds[i] := List.getElem?_eq_getElem hl
    obtain ⟨go, gy⟩ := fd.go φ2 S2 H2 i ds[i] e2.kept s2 hd
    rw [List.drop_eq_getElem_cons hl] at h2
    refine ⟨go, fun σ' H' => i + 1 ≤ ds.length ∧ ∃ env3 φ3 S3, Ext φ1 H1 φ3 H' ∧ SOk G φ3 S3 H' ∧ RepE G φ3 H' σ' env3 ∧ PostS G W φ3 H' (forD b g (ds.drop (i + 1)) env3 S3) N, fun σ' H' w => ⟨ds.length - (i + 1), by omega, rfl, w⟩, fun x H' hy => ?_⟩
    obtain ⟨e3, s3, k3⟩ := gy x H' hy
    unfold forD at h2
    cases hb1 : b ds[i] env2 with
    | none => rw [hb1] at h2; exact False.elim h2
    | some env3 =>
      rw [hb1] at h2
      refine qg x ds[i] σ2 H' env2 env3 φ2 _ k3 (r2.ext e3) hb1 fun σ3 r3 _ => ?_
      refine qb σ3 H' env3 φ2 S2 _ s3 r3 ?_
      dsimp only at h2
      cases hg1 : g env3 S2 with
      | nx e S =>
        rw [hg1] at h2
        exact fun φ4 H4 σ4 e4 s4 r4 => ⟨by omega, _, φ4, _, (e2.trans e3).trans e4, s4, r4, PostS.ext (e3.trans e4) h2⟩
      | ct e S =>
        rw [hg1] at h2
        exact fun φ4 H4 σ4 e4 s4 r4 => ⟨by omega, _, φ4, _, (e2.trans e3).trans e4, s4, r4, PostS.ext (e3.trans e4) h2⟩
      | bk e S =>
        rw [hg1] at h2
        exact fun φ4 H4 σ4 e4 s4 r4 => h2 φ4 H4 σ4 (e3.trans e4) s4 r4
      | rt d S =>
        rw [hg1] at h2
        exact fun φ4 H4 v e4 s4 r4 => h2 φ4 H4 v (e3.trans e4) s4 r4
      | ex x e S =>
        rw [hg1] at h2
        exact fun φ4 H4 σ4 c dx e4 s4 r4 ix => h2 φ4 H4 σ4 c dx (e3.trans e4) s4 r4 ix
      | bad => rw [hg1] at h2; exact False.elim h2
  · left
    have e : i = ds.length := by omega
    subst e
    rw [List.drop_length] at h2
    exact ⟨fd.stop φ2 S2 H2 e2.kept s2, h2 φ2 H2 σ2 .refl s2 r2⟩

/-- the most turns of a while -/
def bigN : Nat := 2 ^ 64
def whileD (c : EM) (body : SM) : Nat → SM
  | 0, _, _ => .bad
  | n + 1, e, S => match c e S with
    | .ok (.bl true) S1 => match body e S1 with
      | .nx e2 S2 => whileD c body n e2 S2
      | .ct e2 S2 => whileD c body n e2 S2
      | .bk e2 S2 => .nx e2 S2
      | .rt d S2 => .rt d S2
      | .ex x e2 S2 => .ex x e2 S2
      | .bad => .bad
    | .ok (.bl false) S1 => .nx e S1
    | .ex x S1 => .ex x e S1
    | _ => .bad
def sWhile (c : EM) (body : SM) : SM := whileD c body bigN
theorem ds_while {c : Expr} {body : List Stmt} {pos : Pos} {f : EM} {g : SM} (hp : PassesOwn (model X.prog X.w) X.A X.env X.xe) (hc : DT G X W c f) (hb : DSs G X W body g) : DS G X W (.While c body [] pos) (sWhile f g) := by
  obtain ⟨tc, pc, qc⟩ := hc
  obtain ⟨tb, pb, qb⟩ := hb
  refine ⟨_, ps_while hp pc pb, fun σ H env φ S N s re h => ?_⟩
  refine ⟨fun m σ2 H2 => ∃ env2 φ2 S2, Ext φ H φ2 H2 ∧ SOk G φ2 S2 H2 ∧ RepE G φ2 H2 σ2 env2 ∧ PostS G W φ2 H2 (whileD f g m env2 S2) N, ⟨bigN, env, φ, S, .refl, s, re, h⟩, ?_⟩
  rintro m σ2 H2 ⟨env2, φ2, S2, e2, s2, r2, h2⟩
  cases m with
  | zero => exact False.elim h2
  | succ m =>
    unfold whileD at h2
    refine qc σ2 H2 env2 φ2 S2 _ s2 r2 ?_
    cases hr : f env2 S2 with
    | bad => rw [hr] at h2; exact False.elim h2
    | ex x S3 =>
      rw [hr] at h2
      exact fun φ4 H4 c d e s i => h2 φ4 H4 σ2 c d e s (r2.ext e) i
    | ok d S3 =>
      rw [hr] at h2
      cases d with
      | bl k =>
        intro φ3 H3 v e3 s3 i b eb
        cases (show v = .bl k from i)
        cases eb
        cases k with
        | false => exact iteF (h2 φ3 H3 σ2 e3 s3 (r2.ext e3))
        | true =>
          refine iteT ⟨fun σ' H' => ∃ env3 φ3 S3, Ext φ H φ3 H' ∧ SOk G φ3 S3 H' ∧ RepE G φ3 H' σ' env3 ∧ PostS G W φ3 H' (whileD f g m env3 S3) N, fun σ' H' w => ⟨m, by omega, w⟩, ?_⟩
          refine qb σ2 H3 env2 φ3 S3 _ s3 (r2.ext e3) ?_
          dsimp only at h2
          cases hg1 : g env2 S3 with
          | nx e S =>
            rw [hg1] at h2
            exact fun φ4 H4 σ4 e4 s4 r4 => ⟨_, φ4, _, (e2.trans e3).trans e4, s4, r4, PostS.ext (e3.trans e4) h2⟩
          | ct e S =>
            rw [hg1] at h2
            exact fun φ4 H4 σ4 e4 s4 r4 => ⟨_, φ4, _, (e2.trans e3).trans e4, s4, r4, PostS.ext (e3.trans e4) h2⟩
          | bk e S =>
            rw [hg1] at h2
            exact fun φ4 H4 σ4 e4 s4 r4 => h2 φ4 H4 σ4 (e3.trans e4) s4 r4
          | rt d S =>
            rw [hg1] at h2
            exact fun φ4 H4 v e4 s4 r4 => h2 φ4 H4 v (e3.trans e4) s4 r4
          | ex x e S =>
            rw [hg1] at h2
            exact fun φ4 H4 σ4 c dx e4 s4 r4 ix => h2 φ4 H4 σ4 c dx (e3.trans e4) s4 r4 ix
          | bad => rw [hg1] at h2; exact False.elim h2
      | _ => exact False.elim h2

/-! ### list comprehensions -/
def DTs (G : Glb) (X : Cx) (W : WX) (ifs : List Expr) (f : EM) : Prop :=
  ∃ t, PTs X ifs t ∧ ∀ σ H env φ S Q, SOk G φ S H → RepE G φ H σ env → PostT G W φ H σ (f env S) Q → t σ H Q
def eYes : EM := fun _ S => .ok (.bl true) S
theorem dts_nil : DTs G X W [] eYes := ⟨_, pts_nil, fun σ H env φ S Q s re h => h.now s⟩
theorem dts_one {c : Expr} {f : EM} (h : DT G X W c f) : DTs G X W [c] f := let ⟨_, p, q⟩ := h; ⟨_, pts_one p, q⟩
noncomputable def lcD (b : D → EnvD → Option EnvD) (tt elt : EM) (env : EnvD) : List D → List D → Store → LR
  | acc, [], S => .ok acc S
  | acc, d :: ds, S => match b d env with
    | none => .bad
    | some e1 => match tt e1 S with
      | .ok (.bl true) S1 => match elt e1 S1 with
        | .ok y S2 => if sz (acc.length + 1) then lcD b tt elt env (acc ++ [y]) ds S2 else .bad
        | _ => .bad
      | .ok (.bl false) S1 => lcD b tt elt env acc ds S1
      | _ => .bad
noncomputable def eLc (f : LM) (b : D → EnvD → Option EnvD) (tt elt : EM) (vs : List Nat) : EM := fun env S => (f env S).bindE fun ds S => (lcD b tt elt (wipeD env vs) [] ds S).bindE fun ys S => .ok (.lst ys) S
/-- kept as a cell -/
noncomputable def eLcM (f : LM) (b : D → EnvD → Option EnvD) (tt elt : EM) (vs : List Nat) : EM := fun env S => (f env S).bindE fun ds S => (lcD b tt elt (wipeD env vs) [] ds S).bindE fun ys S => .ok (.loc S.length) (S ++ [.lst ys])
theorem wipe_at {σ : St} {j : Nat} : ∀ {vs : List Nat}, j ∈ vs → j < σ.length → (wipe σ vs)[j]? = some none
  | v :: vs, h, hl => by
    unfold L2.wipe
    by_cases q : v = j
    · subst q
      rw [List.getElem?_set_self (by rw [wipe_length]; exact hl)]
    · rw [List.getElem?_set_ne q]
      exact wipe_at ((List.mem_cons.mp h).resolve_left fun z => q z.symm) hl
theorem wipe_off {σ σ2 : St} {vs ws : List Nat} (hs : ∀ j ∈ vs, j ∈ ws) (o : Off vs (wipe σ ws) σ2) : wipe σ2 ws = wipe σ ws := by
  apply List.ext_getElem?
  intro j
  by_cases hj : j ∈ ws
  · by_cases hl : j < σ.length
    · rw [wipe_at hj hl, wipe_at hj (by rw [o.1, wipe_length]; exact hl)]
    · rw [List.getElem?_eq_none (by rw [wipe_length, o.1, wipe_length]; omega), List.getElem?_eq_none (by rw [wipe_length]; omega)]
  · rw [wipe_out hj, o.2 j fun z => hj (hs j z)]
theorem lcD_noex {b : D → EnvD → Option EnvD} {tt elt : EM} {env : EnvD} {x : Exc} {S2 : Store} : ∀ {ds acc : List D} {S : Store}, lcD b tt elt env acc ds S = .ex x S2 → False
  | [], _, _, h => by cases h
  | d :: ds, acc, S, h => by
    unfold lcD at h
    split at h
    · cases h
    · split at h
      · split at h
        · split at h
          · exact lcD_noex h
          · cases h
        · cases h
      · exact lcD_noex h
      · cases h
/-- a state of a comprehension that fills D0, from the state ahead of it -/
structure Lk (φ1 : Fi) (H1 : Hp) (D0 : Addr) (φ2 : Fi) (H2 : Hp) : Prop where
  ext : Ext φ1 H1 ⟨φ2.c, φ1.h⟩ H2
  hid : φ2.h = D0 :: φ1.h
theorem Lk.ext' {φ1 φ2 φ3 : Fi} {H1 H2 H3 : Hp} {D0 : Addr} (l : Lk φ1 H1 D0 φ2 H2) (e : Ext φ2 H2 φ3 H3) : Lk φ1 H1 D0 φ3 H3 :=
  ⟨l.ext.trans ⟨e.pre, rfl, fun a o n h => (e.keep a o n h).imp id fun ⟨od, nh, z⟩ => ⟨od, fun q => nh (by rw [l.hid]; exact List.mem_cons_of_mem _ q), z⟩⟩, e.hid.trans l.hid⟩
theorem Lk.put {φ1 φ2 : Fi} {H1 H2 : Hp} {D0 : Addr} {o : HO} (l : Lk φ1 H1 D0 φ2 H2) (hD : H1 D0 = none) : Lk φ1 H1 D0 φ2 (upd H2 D0 o) :=
  ⟨⟨l.ext.pre, rfl, fun a u n q => by rw [upd_ne (ne_of_none q hD)]; exact l.ext.keep a u n q⟩, l.hid⟩
theorem Lk.start {φ1 : Fi} {H1 : Hp} {D0 : Addr} {o : HO} (hD : H1 D0 = none) : Lk φ1 H1 D0 (φ1.hide D0) (upd H1 D0 o) := ⟨.laid hD, rfl⟩
theorem Lk.mem {φ1 φ2 : Fi} {H1 H2 : Hp} {D0 : Addr} (l : Lk φ1 H1 D0 φ2 H2) : D0 ∈ φ2.h := by rw [l.hid]; exact List.mem_cons_self
def PostLc (G : Glb) (φ1 : Fi) (H1 : Hp) (D0 : Addr) (r : LR) (Q : Hp → Prop) : Prop := match r with
  | .ok ds S => ∀ φ' H' xs, Lk φ1 H1 D0 φ' H' → SOk G φ' S H' → H' D0 = some (.lst xs) → IsL G φ' H' ds xs → Q H'
  | _ => False
theorem lc_loop {J : It} {g : TG} {tt : TT} {te : TE} {b : D → EnvD → Option EnvD} {ft fe : EM} {vs ws : List Nat} {σ : St} {env : EnvD} {φ1 : Fi} {H1 : Hp} {S1 : Store} {ds : List D} {D0 : Addr} {Qd : Hp → Prop} {WB WB' : WX}
    (qg : ∀ v d σ H env env' φ Q, Is G φ H d v → RepE G φ H σ env → b d env = some env' → (∀ σ', RepE G φ H σ' env' → Off vs σ σ' → Q σ' H) → g v σ H Q)
    (qt : ∀ σ H env φ S Q, SOk G φ S H → RepE G φ H σ env → PostT G WB φ H σ (ft env S) Q → tt σ H Q)
    (qe : ∀ σ H env φ S Q, SOk G φ S H → RepE G φ H σ env → PostE G WB' φ H σ (fe env S) Q → te σ H Q)
    (hs : ∀ j ∈ vs, j ∈ ws) (s1 : SOk G φ1 S1 H1) (re : RepE G φ1 H1 σ env) (fd : Feeds G φ1 H1 J ds) (hD : H1 D0 = none)
    (h : PostLc G φ1 H1 D0 (lcD b ft fe (wipeD env ws) [] ds S1) Qd) :
    ∃ Wt : Nat → Nat → Hp → Prop, (∃ m, Wt 0 m (upd H1 D0 (.lst []))) ∧ ∀ i m H, Wt i m H →
      (J.stop i H ∧ Qd H) ∨ (J.go i H ∧ ∃ Nx : Hp → Prop, (∀ H', Nx H' → ∃ m', m' < m ∧ Wt (i + 1) m' H') ∧ ∀ x H', J.yld i H x H' → g x (wipe σ ws) H' fun σ2 H2 => wipe σ2 ws = wipe σ ws ∧ tt σ2 H2 fun b H3 =>
        if b = true then te σ2 H3 fun y H4 => ∃ acc, H4 D0 = some (.lst acc) ∧ acc.length < sizeLine ∧ Nx (upd H4 D0 (.lst (acc ++ [y]))) else Nx H3) := by
  let Go : Nat → Hp → Prop := fun i H2 => i ≤ ds.length ∧ ∃ φ2 S2 accD acc, Kept φ1 H1 φ2 H2 ∧ Lk φ1 H1 D0 φ2 H2 ∧ SOk G φ2 S2 H2 ∧ H2 D0 = some (.lst acc) ∧ IsL G φ2 H2 accD acc ∧ PostLc G φ1 H1 D0 (lcD b ft fe (wipeD env ws) accD (ds.drop i) S2) Qd
  refine ⟨fun i m H2 => m = ds.length - i ∧ Go i H2, ⟨ds.length, by simp, Nat.zero_le _, φ1.hide D0, S1, [], [], Kept.hide hD, .start hD, s1.hide hD, upd_same, rfl, h⟩, ?_⟩
  rintro i m H2 ⟨rfl, hi, φ2, S2, accD, acc, k2, l2, s2, hacc, il, h2⟩
  by_cases hl : i < ds.length
  · right
    have hd : ds[i]? = some ds[i] := List.getElem?_eq_getElem hl
    obtain ⟨go, gy⟩ := fd.go φ2 S2 H2 i ds[i] k2 s2 hd
    rw [List.drop_eq_getElem_cons hl] at h2
    refine ⟨go, Go (i + 1), fun H' w => ⟨ds.length - (i + 1), by omega, rfl, w⟩, fun x H' hy => ?_⟩
    obtain ⟨e3, s3, k3⟩ := gy x H' hy
    have nc : D0 ∉ φ2.c := (s2.hid D0 l2.mem).1
    have r3 : RepE G φ2 H' (wipe σ ws) (wipeD env ws) := ((re.wipe ws).kept k2).ext e3
    unfold lcD at h2
    cases hb1 : b ds[i] (wipeD env ws) with
    | none => rw [hb1] at h2; exact False.elim h2
    | some env3 =>
      rw [hb1] at h2
      dsimp only at h2
      refine qg x ds[i] _ H' _ env3 φ2 _ k3 r3 hb1 fun σ3 r4 o3 => ⟨wipe_off hs o3, ?_⟩
      refine qt σ3 H' env3 φ2 S2 _ s3 r4 ?_
      cases ht : ft env3 S2 with
      | bad => rw [ht] at h2; exact False.elim h2
      | ex x S3 => rw [ht] at h2; exact False.elim h2
      | ok d S3 =>
        rw [ht] at h2
        cases d with
        | bl k =>
          intro φ4 H4 v e4 s4 i4 b' eb
          cases (show v = .bl k from i4)
          cases eb
          have e24 := e3.trans e4
          cases k with
          | false =>
            exact iteF ⟨by omega, φ4, S3, accD, acc, k2.trans e24.kept, l2.ext' e24, s4, e24.keepE nc hacc, il.ext e24, h2⟩
          | true =>
            refine iteT (qe σ3 H4 env3 φ4 S3 _ s4 (r4.ext e4) ?_)
            dsimp only at h2
            cases he : fe env3 S3 with
            | bad => rw [he] at h2; exact False.elim h2
            | ex x S5 => rw [he] at h2; exact False.elim h2
            | ok y S5 =>
              rw [he] at h2
              dsimp only at h2
              by_cases hz : sz (accD.length + 1)
              · rw [if_pos hz] at h2
                intro φ5 H5 v5 e5 s5 i5
                have e25 := e24.trans e5
                have l5 := l2.ext' e25
                have kh : Kept φ5 H5 φ5 (upd H5 D0 (.lst (acc ++ [v5]))) := .hidden l5.mem
                exact ⟨acc, e25.keepE nc hacc, by rw [← il.length, sizeLine_eq]; exact hz, by omega, φ5, S5, accD ++ [y], acc ++ [v5], (k2.trans e25.kept).trans kh, l5.put hD, s5.hidden l5.mem, upd_same, ((il.ext e25).append (.one i5)).kept kh, h2⟩
              · rw [if_neg hz] at h2; exact False.elim h2
        | _ => exact False.elim h2
  · left
    have e : i = ds.length := by omega
    subst e
    rw [List.drop_length] at h2
    exact ⟨fd.stop φ2 S2 H2 k2 s2, h2 φ2 H2 acc l2 s2 hacc il⟩
theorem PostI.ofE {φ : Fi} {H : Hp} {σ : St} {r : LR} {g : List D → Store → ER} {Q : VK} {R : It → Hp → Prop} (h : PostE G W φ H σ (r.bindE g) Q)
    (k : ∀ ds S φ' H' J, Ext φ H φ' H' → SOk G φ' S H' → Feeds G φ' H' J ds → PostE G W φ' H' σ (g ds S) Q → R J H') : PostI G W φ H σ r R := by
  cases r with
  | ok d S => exact fun φ2 H2 J e s i => k d S φ2 H2 J e s i (PostE.ext (r := g d S) e h)
  | ex x S => exact h
  | bad => exact h
/-- the finished list is no more hidden -/
theorem Lk.done {φ1 φ2 : Fi} {H1 H2 : Hp} {D0 : Addr} {S S0 : Store} {ds : List D} {xs : List V} (l : Lk φ1 H1 D0 φ2 H2) (s1 : SOk G φ1 S0 H1) (hD : H1 D0 = none) (s : SOk G φ2 S H2) (hx : H2 D0 = some (.lst xs)) (il : IsL G φ2 H2 ds xs) :
    SOk G ⟨φ2.c, φ1.h⟩ S H2 ∧ Is G ⟨φ2.c, φ1.h⟩ H2 (.lst ds) (.ref D0) := by
  have e : φ2 = (Fi.mk φ2.c φ1.h).hide D0 := by
    obtain ⟨c, h⟩ := φ2
    have := l.hid
    simp only at this
    subst this
    rfl
  have nc : D0 ∉ φ2.c := (s.hid D0 l.mem).1
  rw [e] at s il
  exact ⟨s.show_, D0, xs, rfl, .inl ⟨⟨nc, s1.freshh hD⟩, .inl hx⟩, il.kept Kept.show_⟩
/-! canonical readings: they hang on no context -/
def tOf (G : Glb) (W : WX) (f : EM) : TE := fun σ H Q => ∃ env φ S, SOk G φ S H ∧ RepE G φ H σ env ∧ PostE G W φ H σ (f env S) Q
def tOfT (G : Glb) (W : WX) (f : EM) : TT := fun σ H Q => ∃ env φ S, SOk G φ S H ∧ RepE G φ H σ env ∧ PostT G W φ H σ (f env S) Q
def gOf (G : Glb) (b : D → EnvD → Option EnvD) (vs : List Nat) : TG := fun v σ H Q => ∃ d env env' φ, Is G φ H d v ∧ RepE G φ H σ env ∧ b d env = some env' ∧ ∀ σ', RepE G φ H σ' env' → Off vs σ σ' → Q σ' H
theorem DE.can {e : Expr} {f : EM} (h : DE G X W e f) : PE X e (tOf G W f) := by
  obtain ⟨t, p, q⟩ := h
  exact ⟨fun pins s σ H Q I ⟨env, φ, S, so, r, z⟩ => p.run pins s σ H Q I (q σ H env φ S Q so r z)⟩
theorem DTs.can {e : List Expr} {f : EM} (h : DTs G X W e f) : PTs X e (tOfT G W f) := by
  obtain ⟨t, p, q⟩ := h
  exact ⟨fun pins s σ H Q I ⟨env, φ, S, so, r, z⟩ => p.run pins s σ H Q I (q σ H env φ S Q so r z)⟩
theorem DG.can {e : Expr} {b : D → EnvD → Option EnvD} {vs : List Nat} (h : DG G X e b vs) : PG X e (gOf G b vs) := by
  obtain ⟨g, p, q⟩ := h
  exact ⟨fun pins s σ H v u Q I r ⟨d, env, env', φ, i, re, z, k⟩ => p.run pins s σ H v u Q I r (q v d σ H env env' φ Q i re z k)⟩
/-- nothing leaves a comprehension -/
abbrev W0 : WX := fun _ _ _ _ => False
section
variable {elt tg iter : Expr} {ifs : List Expr} {scope : Scope} {own : List (Str × Nat)} {pos : Pos} {f : LM} {b : D → EnvD → Option EnvD} {ft fe : EM} {vs : List Nat}
theorem lc_read {wi : TI} (qi : ∀ σ H env φ S R, SOk G φ S H → RepE G φ H σ env → PostI G W φ H σ (f env S) R → wi σ H R) (hvs : ∀ j ∈ vs, j ∈ own.map (·.2)) {Q : VK} {R : ER → Prop}
    {σ : St} {H : Hp} {env : EnvD} {φ : Fi} {S : Store} (s : SOk G φ S H) (re : RepE G φ H σ env) (h : PostE G W φ H σ (eLc f b ft fe (own.map (·.2)) env S) Q) :
    tLc wi (gOf G b vs) (tOfT G W0 ft) (tOf G W0 fe) (own.map (·.2)) σ H Q := by
  refine qi σ H env φ S _ s re (PostI.ofE h fun ds S1 φ1 H1 J e1 s1 fd h1 D0 hD => ?_)
  refine lc_loop (env := env) (fun v d σ H env env' φ Q i r z k => ⟨d, env, env', φ, i, r, z, k⟩) (fun σ H env φ S Q s r z => ⟨env, φ, S, s, r, z⟩) (fun σ H env φ S Q s r z => ⟨env, φ, S, s, r, z⟩) hvs s1 (re.ext e1) fd hD ?_
  cases hr : lcD b ft fe (wipeD env (own.map (·.2))) [] ds S1 with
  | ok ys S2 =>
    rw [hr] at h1
    intro φ2 H2 xs l2 s2 hx il
    obtain ⟨s3, i3⟩ := l2.done s1 hD s2 hx il
    exact h1 _ H2 _ l2.ext s3 i3
  | ex x S2 => exact absurd hr (fun z => lcD_noex z)
  | bad => rw [hr] at h1; exact h1
theorem de_lc (hc : X.calm = true) (hN : X.N.Nodup) (hi : DI G X W tg iter f) (ok : BlkOk X.N X.env.scope scope own)
    (hg : ∀ (s : Shared) (H : Hp) (C : Addr) (cl : List (Str × Addr)) (fp : List Addr), DG G (X.blk s H scope (compEnvC scope cl C X.env) fp) tg b vs)
    (ht : ∀ (s : Shared) (H : Hp) (C : Addr) (cl : List (Str × Addr)) (fp : List Addr), DTs G (X.blk s H scope (compEnvC scope cl C X.env) fp) W0 ifs ft)
    (he : ∀ (s : Shared) (H : Hp) (C : Addr) (cl : List (Str × Addr)) (fp : List Addr), DE G (X.blk s H scope (compEnvC scope cl C X.env) fp) W0 elt fe)
    (hvs : ∀ j ∈ vs, j ∈ own.map (·.2)) (hs : ∀ x, foldedSetIterable iter X.env x = pure x := by intro _; rfl) : DE G X W (.ListComp elt [⟨tg, iter, ifs, 0⟩] scope pos) (eLc f b ft fe (own.map (·.2))) := by
  obtain ⟨wi, pI, qi⟩ := hi
  exact ⟨_, pe_lc hc hN pI ok (fun s H C cl fp => (hg s H C cl fp).can) (fun s H C cl fp => (ht s H C cl fp).can) (fun s H C cl fp => (he s H C cl fp).can) hs, fun σ H env φ S Q s re h => lc_read (R := fun _ => True) qi hvs s re h⟩
theorem ds_setLc {i : Nat} {y : Str} {py spos : Pos} (hc : X.calm = true) (hN : X.N.Nodup) (hi : DI G X W tg iter f) (ok : BlkOk X.N X.env.scope scope own)
    (hg : ∀ (s : Shared) (H : Hp) (C : Addr) (cl : List (Str × Addr)) (fp : List Addr), DG G (X.blk s H scope (compEnvC scope cl C X.env) fp) tg b vs)
    (ht : ∀ (s : Shared) (H : Hp) (C : Addr) (cl : List (Str × Addr)) (fp : List Addr), DTs G (X.blk s H scope (compEnvC scope cl C X.env) fp) W0 ifs ft)
    (he : ∀ (s : Shared) (H : Hp) (C : Addr) (cl : List (Str × Addr)) (fp : List Addr), DE G (X.blk s H scope (compEnvC scope cl C X.env) fp) W0 elt fe)
    (hvs : ∀ j ∈ vs, j ∈ own.map (·.2)) (hy : X.N[i]? = some y) (hyl : X.env.scope.names.lookup y = some .local)
    (hsw : swapsWith (.ListComp elt [⟨tg, iter, ifs, 0⟩] scope pos) (some (.Name y py)) spos.line X.env = pure true) (hs : ∀ x, foldedSetIterable iter X.env x = pure x := by intro _; rfl) :
    DS G X W (.Assign [.Name y py] (.ListComp elt [⟨tg, iter, ifs, 0⟩] scope pos) spos) (sAsg (eLc f b ft fe (own.map (·.2))) (bName i)) := by
  obtain ⟨wi, pI, qi⟩ := hi
  refine ⟨_, ps_setLc hc hN hy hyl hsw pI ok (fun s H C cl fp => (hg s H C cl fp).can) (fun s H C cl fp => (ht s H C cl fp).can) (fun s H C cl fp => (he s H C cl fp).can) hs, fun σ H env φ S N s re h => ?_⟩
  exact lc_read (R := fun _ => True) qi hvs s re (PostE.bindS re h fun d S1 φ1 H1 v e1 s1 i1 h1 => h1 φ1 H1 _ .refl s1 ((re.ext e1).set i1 i))
end
end
end DL
end
section
/-! D-layer, part 4: defs, their calls, what leaves a def; cells that are written; the law's end. -/
namespace DL
open PySem L2 PySem.Spec PyProof.Rows

/-! ### what leaves a def: new cells become plain data -/
mutual
def frzD (ρ : Nat → Option D) : D → Option D
  | .non => some .non
  | .bl b => some (.bl b)
  | .int i => some (.int i)
  | .str x => some (.str x)
  | .tup ds => (frzDs ρ ds).map .tup
  | .lst ds => (frzDs ρ ds).map .lst
  | .dic ks ds => (frzDs ρ ds).map (.dic ks)
  | .obj c ks ds => (frzDs ρ ds).map (.obj c ks)
  | .loc l => ρ l
  | .dct ks ds => (frzDs ρ ds).map (.dct ks)
  | .exn c ks ds => (frzDs ρ ds).map (.exn c ks)
  | .tpl ds => (frzDs ρ ds).map .tpl
def frzDs (ρ : Nat → Option D) : List D → Option (List D)
  | [] => some []
  | d :: ds => (frzD ρ d).bind fun a => (frzDs ρ ds).map (a :: ·)
end
def resD (n : Nat) (S : Store) : Nat → Nat → Option D
  | 0, _ => none
  | k + 1, l => if l < n then some (.loc l) else match S[l]? with
    | some (.lst ds) => (frzDs (resD n S k) ds).map .lst
    | some (.dic kvs) => (frzDs (resD n S k) (kvs.map (·.2))).map (.dic (kvs.map (·.1)))
    | some (.ins c fs) => (frzDs (resD n S k) (fs.map (·.2))).map (.obj c (fs.map (·.1)))
    | some (.dct kvs) => (frzDs (resD n S k) (kvs.map (·.2))).map (.dct (kvs.map (·.1)))
    | none => none
mutual
def belD (n : Nat) : D → Bool
  | .tup ds => belDs n ds
  | .lst ds => belDs n ds
  | .dic _ ds => belDs n ds
  | .obj _ _ ds => belDs n ds
  | .dct _ ds => belDs n ds
  | .exn _ _ ds => belDs n ds
  | .tpl ds => belDs n ds
  | .loc l => decide (l < n)
  | _ => true
def belDs (n : Nat) : List D → Bool
  | [] => true
  | d :: ds => belD n d && belDs n ds
end
def Cell.bel (n : Nat) : Cell → Bool
  | .lst ds => belDs n ds
  | .dic kvs => belDs n (kvs.map (·.2))
  | .ins _ fs => belDs n (fs.map (·.2))
  | .dct kvs => belDs n (kvs.map (·.2))
inductive Mode where
  | keep
  | pure
  | upto (k : Nat)
open Classical in
/-- the end of a def that began at S0 -/
noncomputable def exitD (m : Mode) (S0 : Store) (d : D) (S : Store) : ER := match m with
  | .keep => .ok d S
  | .pure => match frzD (resD S0.length S 12) d with
    | some d' => if S.take S0.length = S0 ∨ (S.take S0.length).all (Cell.bel S0.length) = true then .ok d' (S.take S0.length) else .bad
    | none => .bad
  | .upto k => match frzD (resD (S0.length + k) S 12) d with
    | some d' => if (S.take (S0.length + k)).all (Cell.bel (S0.length + k)) = true then .ok d' (S.take (S0.length + k)) else .bad
    | none => .bad
section
variable {G : Glb} {φ : Fi} {H : Hp} {S : Store}
def Fi.cut (φ : Fi) (n : Nat) : Fi := ⟨φ.c.take n, φ.h⟩
theorem cut_out {φ : Fi} {n : Nat} {a : Addr} (h : φ.out a) : (φ.cut n).out a := ⟨fun z => h.1 (List.mem_of_mem_take z), h.2⟩
theorem RdL.cut {n : Nat} {a : Addr} {xs : List V} (h : RdL G φ H a xs) : RdL G (φ.cut n) H a xs := h.elim (fun z => .inl ⟨cut_out z.1, z.2⟩) .inr
theorem RdT.cut {n : Nat} {a : Addr} {xs : List V} (h : RdT G φ H a xs) : RdT G (φ.cut n) H a xs := h.elim (fun z => .inl ⟨cut_out z.1, z.2⟩) .inr
mutual
theorem frz_is {n : Nat} {ρ : Nat → Option D} (hρ : ∀ l d' a, ρ l = some d' → φ.c[l]? = some a → Is G (φ.cut n) H d' (.ref a)) : ∀ {d d' : D} {v : V}, Is G φ H d v → frzD ρ d = some d' → Is G (φ.cut n) H d' v
  | .non, _, v, i, e => by cases e; exact i
  | .bl _, _, v, i, e => by cases e; exact i
  | .int _, _, v, i, e => by cases e; exact i
  | .str _, _, v, i, e => by cases e; exact i
  | .tup ds, _, v, i, e => by
    obtain ⟨a, xs, e1, r, q⟩ := i
    obtain ⟨es, e2, e3⟩ := Option.map_eq_some_iff.mp (show (frzDs ρ ds).map D.tup = some _ from e)
    subst e3
    exact ⟨a, xs, e1, r.cut, frz_isL hρ q e2⟩
  | .lst ds, _, v, i, e => by
    obtain ⟨a, xs, e1, r, q⟩ := i
    obtain ⟨es, e2, e3⟩ := Option.map_eq_some_iff.mp (show (frzDs ρ ds).map D.lst = some _ from e)
    subst e3
    exact ⟨a, xs, e1, r.cut, frz_isL hρ q e2⟩
  | .dic ks ds, _, v, i, e => by
    obtain ⟨a, kvs, e1, ⟨n1, r⟩, z, q⟩ := i
    obtain ⟨es, e2, e3⟩ := Option.map_eq_some_iff.mp (show (frzDs ρ ds).map (D.dic ks) = some _ from e)
    subst e3
    exact ⟨a, kvs, e1, ⟨cut_out n1, r⟩, z, frz_isL hρ q e2⟩
  | .obj c ks ds, _, v, i, e => by
    obtain ⟨a, C, dx, fs, e1, ⟨n1, r⟩, hc, z, q⟩ := i
    obtain ⟨es, e2, e3⟩ := Option.map_eq_some_iff.mp (show (frzDs ρ ds).map (D.obj c ks) = some _ from e)
    subst e3
    exact ⟨a, C, dx, fs, e1, ⟨cut_out n1, r⟩, hc, z, frz_isL hρ q e2⟩
  | .loc l, d', v, i, e => by
    obtain ⟨a, ha, e1⟩ := i
    subst e1
    exact hρ l d' a e ha
  | .dct ks ds, _, v, i, e => by
    obtain ⟨a, kvs, e1, ⟨n1, r⟩, z, q⟩ := i
    obtain ⟨es, e2, e3⟩ := Option.map_eq_some_iff.mp (show (frzDs ρ ds).map (D.dct ks) = some _ from e)
    subst e3
    exact ⟨a, kvs, e1, ⟨cut_out n1, r⟩, z, frz_isL hρ q e2⟩
  | .exn c ks ds, _, v, i, e => by
    obtain ⟨a, C, d, e1, ⟨n1, r⟩, hc, z⟩ := i
    obtain ⟨es, e2, e3⟩ := Option.map_eq_some_iff.mp (show (frzDs ρ ds).map (D.exn c ks) = some _ from e)
    subst e3
    refine ⟨a, C, d, e1, ⟨cut_out n1, r⟩, hc, ?_⟩
    rcases z with ⟨z0, z1, z2⟩ | ⟨b, fs, e4, ⟨n2, r2⟩, e5, q⟩
    · subst z2; cases e2; exact .inl ⟨z0, z1, rfl⟩
    · exact .inr ⟨b, fs, e4, ⟨cut_out n2, r2⟩, e5, frz_isL hρ q e2⟩
  | .tpl ds, _, v, i, e => by
    obtain ⟨a, xs, o, e1, ⟨n1, r⟩, q⟩ := i
    obtain ⟨es, e2, e3⟩ := Option.map_eq_some_iff.mp (show (frzDs ρ ds).map D.tpl = some _ from e)
    subst e3
    exact ⟨a, xs, o, e1, ⟨cut_out n1, r⟩, frz_isL hρ q e2⟩
theorem frz_isL {n : Nat} {ρ : Nat → Option D} (hρ : ∀ l d' a, ρ l = some d' → φ.c[l]? = some a → Is G (φ.cut n) H d' (.ref a)) : ∀ {ds ds' : List D} {vs : List V}, IsL G φ H ds vs → frzDs ρ ds = some ds' → IsL G (φ.cut n) H ds' vs
  | [], _, v, i, e => by cases e; exact i
  | d :: ds, _, v, i, e => by
    obtain ⟨x, r, e1, p, q⟩ := i
    obtain ⟨a, e2, e3⟩ := Option.bind_eq_some_iff.mp (show ((frzD ρ d).bind fun a => (frzDs ρ ds).map (a :: ·)) = some _ from e)
    obtain ⟨b, e4, e5⟩ := Option.map_eq_some_iff.mp e3
    subst e5
    exact ⟨x, r, e1, frz_is hρ p e2, frz_isL hρ q e4⟩
end
theorem res_is (s : SOk G φ S H) (n : Nat) : ∀ (k l : Nat) (d' : D) (a : Addr), resD n S k l = some d' → φ.c[l]? = some a → Is G (φ.cut n) H d' (.ref a)
  | 0, _, _, _, e, _ => by cases e
  | k + 1, l, d', a, e, ha => by
    unfold resD at e
    have ih := res_is s n k
    by_cases hl : l < n
    · rw [if_pos hl] at e
      cases e
      exact ⟨a, by show (φ.c.take n)[l]? = _; rw [List.getElem?_take]; rw [if_pos hl]; exact ha, rfl⟩
    · rw [if_neg hl] at e
      have nc : a ∉ (φ.cut n).c := fun z => by
        obtain ⟨j, hj, e2⟩ := List.getElem_of_mem z
        have h1 : (φ.c.take n)[j]? = some a := by rw [← e2]; exact List.getElem?_eq_getElem hj
        rw [List.getElem?_take] at h1
        split at h1
        · exact hl (by rw [nd_ix s.nd ha h1]; assumption)
        · cases h1
      have nh : a ∉ φ.h := fun z => (s.hid a z).1 (List.mem_of_getElem? ha)
      split at e
      · rename_i ds hc
        obtain ⟨xs, hx, q⟩ := s.at_ hc ha
        obtain ⟨es, e2, e3⟩ := Option.map_eq_some_iff.mp e
        subst e3
        exact ⟨a, xs, rfl, .inl ⟨⟨nc, nh⟩, .inl hx⟩, frz_isL ih q e2⟩
      · rename_i kvs hc
        obtain ⟨ws, hx, z, q⟩ := s.at_ hc ha
        obtain ⟨es, e2, e3⟩ := Option.map_eq_some_iff.mp e
        subst e3
        exact ⟨a, ws, rfl, ⟨⟨nc, nh⟩, .inl hx⟩, z, frz_isL ih q e2⟩
      · rename_i c fs hc
        obtain ⟨C, dx, ws, hC, hx, z, q⟩ := s.at_ hc ha
        obtain ⟨es, e2, e3⟩ := Option.map_eq_some_iff.mp e
        subst e3
        exact ⟨a, C, dx, ws, rfl, ⟨⟨nc, nh⟩, hx⟩, hC, z, frz_isL ih q e2⟩
      · rename_i kvs hc
        obtain ⟨ws, hx, z, q⟩ := s.at_ hc ha
        obtain ⟨es, e2, e3⟩ := Option.map_eq_some_iff.mp e
        subst e3
        exact ⟨a, ws, rfl, ⟨⟨nc, nh⟩, .inl hx⟩, z, frz_isL ih q e2⟩
      · cases e
mutual
theorem bel_of {n : Nat} (hn : φ.c.length ≤ n) : ∀ {d : D} {v : V}, Is G φ H d v → belD n d = true
  | .non, _, _ => rfl
  | .bl _, _, _ => rfl
  | .int _, _, _ => rfl
  | .str _, _, _ => rfl
  | .tup ds, _, i => by obtain ⟨a, xs, e1, r, q⟩ := i; exact bel_ofL hn q
  | .lst ds, _, i => by obtain ⟨a, xs, e1, r, q⟩ := i; exact bel_ofL hn q
  | .dic _ ds, _, i => by obtain ⟨a, xs, e1, r, z, q⟩ := i; exact bel_ofL hn q
  | .obj _ _ ds, _, i => by obtain ⟨a, C, dx, xs, e1, r, c, z, q⟩ := i; exact bel_ofL hn q
  | .dct _ ds, _, i => by obtain ⟨a, xs, e1, r, z, q⟩ := i; exact bel_ofL hn q
  | .exn _ _ ds, _, i => by
    obtain ⟨a, C, d, e1, r, c, z⟩ := i
    rcases z with ⟨_, _, z⟩ | ⟨b, fs, _, _, _, q⟩
    · subst z; rfl
    · exact bel_ofL hn q
  | .tpl ds, _, i => by obtain ⟨a, xs, o, e1, r, q⟩ := i; exact bel_ofL hn q
  | .loc l, _, i => by
    obtain ⟨a, ha, _⟩ := i
    have := (List.getElem?_eq_some_iff.mp ha).1
    show decide (l < n) = true
    exact decide_eq_true (by omega)
theorem bel_ofL {n : Nat} (hn : φ.c.length ≤ n) : ∀ {ds : List D} {vs : List V}, IsL G φ H ds vs → belDs n ds = true
  | [], _, _ => rfl
  | d :: ds, _, i => by
    obtain ⟨x, r, e1, p, q⟩ := i
    show (belD n d && belDs n ds) = true
    rw [bel_of hn p, bel_ofL hn q]; rfl
end
mutual
theorem bel_is {n : Nat} : ∀ {d : D} {v : V}, belD n d = true → Is G φ H d v → Is G (φ.cut n) H d v
  | .non, _, _, i => i
  | .bl _, _, _, i => i
  | .int _, _, _, i => i
  | .str _, _, _, i => i
  | .tup ds, _, h, i => by obtain ⟨a, xs, e1, r, q⟩ := i; exact ⟨a, xs, e1, r.cut, bel_isL h q⟩
  | .lst ds, _, h, i => by obtain ⟨a, xs, e1, r, q⟩ := i; exact ⟨a, xs, e1, r.cut, bel_isL h q⟩
  | .dic _ ds, _, h, i => by obtain ⟨a, xs, e1, ⟨n1, r⟩, z, q⟩ := i; exact ⟨a, xs, e1, ⟨cut_out n1, r⟩, z, bel_isL h q⟩
  | .obj _ _ ds, _, h, i => by obtain ⟨a, C, dx, xs, e1, ⟨n1, r⟩, c, z, q⟩ := i; exact ⟨a, C, dx, xs, e1, ⟨cut_out n1, r⟩, c, z, bel_isL h q⟩
  | .dct _ ds, _, h, i => by obtain ⟨a, xs, e1, ⟨n1, r⟩, z, q⟩ := i; exact ⟨a, xs, e1, ⟨cut_out n1, r⟩, z, bel_isL h q⟩
  | .exn _ _ ds, _, h, i => by
    obtain ⟨a, C, d, e1, ⟨n1, r⟩, c, z⟩ := i
    refine ⟨a, C, d, e1, ⟨cut_out n1, r⟩, c, ?_⟩
    rcases z with z | ⟨b, fs, e4, ⟨n2, r2⟩, e5, q⟩
    · exact .inl z
    · exact .inr ⟨b, fs, e4, ⟨cut_out n2, r2⟩, e5, bel_isL h q⟩
  | .tpl _, _, h, i => by obtain ⟨a, xs, o, e1, ⟨n1, r⟩, q⟩ := i; exact ⟨a, xs, o, e1, ⟨cut_out n1, r⟩, bel_isL h q⟩
  | .loc l, _, h, i => by
    obtain ⟨a, ha, e⟩ := i
    have hl : l < n := of_decide_eq_true h
    exact ⟨a, by show (φ.c.take n)[l]? = _; rw [List.getElem?_take, if_pos hl]; exact ha, e⟩
theorem bel_isL {n : Nat} : ∀ {ds : List D} {vs : List V}, belDs n ds = true → IsL G φ H ds vs → IsL G (φ.cut n) H ds vs
  | [], _, _, i => i
  | d :: ds, _, h, i => by
    obtain ⟨x, r, e1, p, q⟩ := i
    have h' : (belD n d && belDs n ds) = true := h
    simp only [Bool.and_eq_true] at h'
    exact ⟨x, r, e1, bel_is h'.1 p, bel_isL h'.2 q⟩
end
theorem CellOk.bel {a : Addr} {c : Cell} {n : Nat} (hn : φ.c.length ≤ n) (h : CellOk G φ H a c) : c.bel n = true := by
  cases c with
  | lst ds => obtain ⟨xs, _, q⟩ := h; exact bel_ofL hn q
  | dic kvs => obtain ⟨xs, _, _, q⟩ := h; exact bel_ofL hn q
  | ins c fs => obtain ⟨C, dx, xs, _, _, _, q⟩ := h; exact bel_ofL hn q
  | dct kvs => obtain ⟨xs, _, _, q⟩ := h; exact bel_ofL hn q
theorem CellOk.cut {a : Addr} {c : Cell} {n : Nat} (hb : c.bel n = true) (h : CellOk G φ H a c) : CellOk G (φ.cut n) H a c := by
  cases c with
  | lst ds => obtain ⟨xs, k, q⟩ := h; exact ⟨xs, k, bel_isL hb q⟩
  | dic kvs => obtain ⟨xs, k, z, q⟩ := h; exact ⟨xs, k, z, bel_isL hb q⟩
  | ins c fs => obtain ⟨C, dx, xs, k, y, z, q⟩ := h; exact ⟨C, dx, xs, k, y, z, bel_isL hb q⟩
  | dct kvs => obtain ⟨xs, k, z, q⟩ := h; exact ⟨xs, k, z, bel_isL hb q⟩
theorem SOk.cut (s : SOk G φ S H) {n : Nat} (hb : ∀ c ∈ S.take n, c.bel n = true) : SOk G (φ.cut n) (S.take n) H := by
  refine ⟨by simp [Fi.cut, s.len], s.nd.sublist (List.take_sublist _ _), fun a ha => ?_, fun l c hc => ?_⟩
  · obtain ⟨n1, q⟩ := s.hid a ha
    exact ⟨fun z => n1 (List.mem_of_mem_take z), q⟩
  · have hm := hb c (List.mem_of_getElem? hc)
    rw [List.getElem?_take] at hc
    split at hc
    · rename_i hl
      obtain ⟨a, ha, k⟩ := s.cell l c hc
      exact ⟨a, by show (φ.c.take n)[l]? = _; rw [List.getElem?_take, if_pos hl]; exact ha, k.cut hm⟩
    · cases hc
/-- the way out -/
theorem exit_ok {m : Mode} {φ0 : Fi} {H0 : Hp} {S0 : Store} {d : D} {v : V} {W : WX} {σ : L2.St} {Q : VK} (s0 : SOk G φ0 S0 H0) (e : Ext φ0 H0 φ H) (s : SOk G φ S H) (i : Is G φ H d v) (h : PostE G W φ0 H0 σ (exitD m S0 d S) Q) : Q v H := by
  cases m with
  | keep => exact h φ H v e s i
  | pure =>
    unfold exitD at h
    dsimp only at h
    cases hd : frzD (resD S0.length S 12) d with
    | none => rw [hd] at h; exact False.elim h
    | some d' =>
      rw [hd] at h
      dsimp only at h
      split at h
      · rename_i hc
        have eφ : φ.cut S0.length = φ0 := by
          obtain ⟨ψ, e1, _⟩ := e.pre
          obtain ⟨c0, h0⟩ := φ0
          obtain ⟨c1, h1⟩ := φ
          have eh := e.hid
          simp only at e1 eh
          subst e1 eh
          have hl : c0.length = S0.length := s0.len
          show Fi.mk ((c0 ++ ψ).take S0.length) h1 = Fi.mk c0 h1
          rw [← hl, List.take_left]
        have hb : ∀ c ∈ S.take S0.length, c.bel S0.length = true := by
          rcases hc with hc | hc
          · intro c hm
            rw [hc] at hm
            obtain ⟨l, hl, e1⟩ := List.getElem_of_mem hm
            obtain ⟨a, ha, k⟩ := s0.cell l c (by rw [← e1]; exact List.getElem?_eq_getElem hl)
            exact k.bel (by rw [s0.len]; exact Nat.le_refl _)
          · exact fun c hm => List.all_eq_true.mp hc c hm
        have s2 := s.cut hb
        rw [eφ] at s2
        refine h φ0 H v ⟨⟨[], by simp, fun _ z => by simp at z⟩, rfl, e.keep⟩ s2 ?_
        have i2 := frz_is (n := S0.length) (res_is s S0.length 12) i hd
        rw [eφ] at i2
        exact i2
      · exact False.elim h
  | upto k =>
    unfold exitD at h
    dsimp only at h
    cases hd : frzD (resD (S0.length + k) S 12) d with
    | none => rw [hd] at h; exact False.elim h
    | some d' =>
      rw [hd] at h
      dsimp only at h
      split at h
      · rename_i hc
        have s2 := s.cut (n := S0.length + k) fun c hm => List.all_eq_true.mp hc c hm
        refine h (φ.cut (S0.length + k)) H v ⟨?_, e.hid, e.keep⟩ s2 (frz_is (n := S0.length + k) (res_is s (S0.length + k) 12) i hd)
        obtain ⟨ψ, e1, p⟩ := e.pre
        refine ⟨ψ.take k, ?_, fun a ha => p a (List.mem_of_mem_take ha)⟩
        show φ.c.take (S0.length + k) = φ0.c ++ ψ.take k
        rw [e1, ← s0.len, List.take_append, List.take_of_length_le (by omega)]
        congr 1
        congr 1
        omega
      · exact False.elim h
end

/-! ### a def's promise -/
def spD (G : Glb) (n : Nat) (F : FD) : Sp := fun vs H Q E => vs.length = n ∧ ∃ φ S ds, SOk G φ S H ∧ IsL G φ H ds vs ∧ PostE G (fun cls dx _ H => E cls dx H) φ H [] (F ds S) Q
def startD (n : Nat) (ds : List D) : EnvD := ds.map some ++ List.replicate (n - ds.length) none
noncomputable def fnF (m : Mode) (n : Nat) (g : SM) : FD := fun ds S => match g (startD n ds) S with
  | .nx _ S1 => exitD m S .non S1
  | .rt d S1 => exitD m S d S1
  | .ex x _ S1 => .ex x S1
  | _ => .bad
theorem rep_start {G : Glb} {φ : Fi} {H : Hp} {ds : List D} {vs : List V} (N : List Str) (i : IsL G φ H ds vs) : RepE G φ H (L2.start N vs) (startD N.length ds) := by
  refine ⟨by simp [L2.start, startD, i.length], fun j d e => ?_⟩
  unfold startD at e
  by_cases hj : j < ds.length
  · rw [List.getElem?_append_left (by simpa using hj), List.getElem?_map] at e
    obtain ⟨d1, e1, e2⟩ := Option.map_eq_some_iff.mp e
    cases e2
    obtain ⟨v, hv, k⟩ := i.get e1
    refine ⟨v, ?_, k⟩
    unfold L2.start
    rw [List.getElem?_append_left (by simpa [← i.length] using hj), List.getElem?_map, hv]
    rfl
  · rw [List.getElem?_append_right (by simpa using hj), List.getElem?_replicate] at e
    split at e <;> cases e
/-- a def of the module, called by its name -/
structure Def (G : Glb) (P : Program) (w : World) (mg : Str → Option Value) (base : Heap) (k : Nat) (x : Str) (n : Nat) (F : FD) : Prop where
  ex : ∃ f fd ps, FnOk P w G.K mg base (L2.CX P w) k f fd ps (spD G n F) ∧ mg x = some (.ref f) ∧ PySem.W.keepIn G.K (.ref f) = true ∧ Binds G.K fd ps []
section
variable {G : Glb} {X : Cx} {W : WX} {k n : Nat} {x : Str} {F : FD} {p pos : Pos} {e : Expr} {es : List Expr} {fa : LM}
def eCall (F : FD) (f : LM) : EM := fun env S => (f env S).bindE F
/-- how many arguments -/
theorem la_nil : ∀ env S ds S', lNil env S = .ok ds S' → ds.length = 0 := fun env S ds S' h => by cases h; rfl
theorem la_cons {f : EM} {g : LM} {m : Nat} (h : ∀ env S ds S', g env S = .ok ds S' → ds.length = m) : ∀ env S ds S', lCons f g env S = .ok ds S' → ds.length = m + 1 := fun env S ds S' q => by
  unfold lCons at q
  cases hf : f env S with
  | ok d S1 =>
    rw [hf] at q
    have q' : ((g env S1).bind fun ds S => .ok (d :: ds) S) = .ok ds S' := q
    cases hg : g env S1 with
    | ok es S2 =>
      rw [hg] at q'
      cases q'
      simp [h _ _ _ _ hg]
    | ex x S2 => rw [hg] at q'; cases q'
    | bad => rw [hg] at q'; cases q'
  | ex x S1 => rw [hf] at q; cases q
  | bad => rw [hf] at q; cases q

/-! ### cells that are written -/
/-- xs[i] = e of a list's cell -/
def putIx (i : Int) (ds : List D) (d : D) : Option (List D) := (ixN ds.length i).map fun j => ds.set j d
def setD (o i d : D) (S : Store) : Option Store := match o, i with
  | .loc l, .int i => match S[l]? with
    | some (.lst ds) => (putIx i ds d).map fun es => S.set l (.lst es)
    | _ => none
  | _, _ => none
/-- o[i] = e: e first, then o, i -/
def sPutL (o i f : EM) : SM := fun env S => (f env S).bindS env fun d S => (o env S).bindS env fun a S => (i env S).bindS env fun b S => match setD a b d S with
  | some S' => .nx env S'
  | none => .bad
theorem set_is {φ : Fi} {S S' : Store} {H : Hp} {o i d : D} {vo vi v : V} (s : SOk G φ S H) (io : Is G φ H o vo) (ii : Is G φ H i vi) (id : Is G φ H d v) (h : setD o i d S = some S') {Q : Hp → Prop} (k : ∀ H', Ext φ H φ H' → SOk G φ S' H' → Q H') : rSetL vo vi v H Q := by
  cases o with
  | loc l =>
    cases i with
    | int i =>
      obtain ⟨a, ha, rfl⟩ := io
      cases (show vi = _ from ii)
      simp only [setD] at h
      cases hc : S[l]? with
      | none => rw [hc] at h; cases h
      | some c =>
        rw [hc] at h
        cases c with
        | lst ds =>
          obtain ⟨es, e1, e2⟩ := Option.map_eq_some_iff.mp (show (putIx i ds d).map (fun es => S.set l (.lst es)) = some S' from h)
          obtain ⟨j, e3, e4⟩ := Option.map_eq_some_iff.mp (show (ixN ds.length i).map (fun j => ds.set j d) = some es from e1)
          subst e2 e4
          obtain ⟨xs, hx, q⟩ := s.at_ hc ha
          refine ⟨a, xs, i, j, rfl, rfl, hx, by rw [← q.length]; exact e3, k _ (.put (List.mem_of_getElem? ha)) (s.put ha ⟨_, upd_same, ?_⟩)⟩
          exact (q.set j id).ext (.put (List.mem_of_getElem? ha))
        | _ => cases h
    | _ => cases h
  | _ => cases h
/-- a built-in type's method by values -/
def DMeth (G : Glb) (X : Cx) (id : String) (g : D → List D → Store → ER) : Prop :=
  ∃ r, MtR X id r ∧ ∀ W φ S H σ dx ds x xs Q, SOk G φ S H → Is G φ H dx x → IsL G φ H ds xs → PostE G W φ H σ (g dx ds S) Q → r x xs H Q
/-- the types of which methods are asked -/
def tyD (T : String) (S : Store) : D → Bool
  | .str _ => T == "str"
  | d => T == "list" && (listD S d).isSome
theorem tyD_is {φ : Fi} {S : Store} {H : Hp} {T : String} {d : D} {v : V} (hK : X.K = G.K) (s : SOk G φ S H) (i : Is G φ H d v) (h : tyD T S d = true) : tyV X.K T v H := by
  have other : (T == "list" && (listD S d).isSome) = true → tyV X.K T v H := fun h => by
    simp only [Bool.and_eq_true, beq_iff_eq] at h
    obtain ⟨ds, e⟩ := Option.isSome_iff_exists.mp h.2
    obtain ⟨a, xs, rfl, r, _⟩ := listD_sq s i e
    exact .inl ⟨h.1, xs, by rw [hK]; exact r⟩
  cases d with
  | str x =>
    cases (show v = _ from i)
    exact beq_iff_eq.mp h
  | _ => exact other h
def eMeth (T : String) (g : D → List D → Store → ER) (o : EM) (f : LM) : EM := fun env S => (o env S).bind fun a S => if tyD T S a then (f env S).bindE fun ds S => g a ds S else .bad
theorem de_meth {T id : String} {name : Str} {g : D → List D → Store → ER} {o : Expr} {fo : EM} {apos cpos : Pos} (pa : PlainAttrs T) (slot : Slot T name id) (hty : typeOf (.builtin id) = pure (.type "method_descriptor")) (hm : DMeth G X id g) (hK : X.K = G.K) (ho : DE G X W o fo) (ha : DA G X W (e :: es) fa)
    (hbase : attributeBase o name X.env (eval o X.env) = eval o X.env := by rfl)
    (hfew : ((backTo cpos (starEach (e :: es) X.env)).all (fun x => !x.1) && (backToKw cpos (keywordEach [] X.env)).all (fun x => x.1.isSome) && decide ((e :: es).length + ([] : List Keyword).length + (if ([] : List Keyword).isEmpty then 0 else 1) < 30)) = true := by rfl)
    (hline : (apos.endLine == cpos.line) = true := by rfl) (hs : starEach (e :: es) X.env = (false, eval e X.env) :: starEach es X.env := by rfl) (hplain : (backTo cpos (starEach es X.env)).any (·.1) = false := by rfl) :
    DE G X W (.Call (.Attribute o name apos) (e :: es) [] cpos) (eMeth T g fo fa) := by
  obtain ⟨r, hr, q⟩ := hm
  obtain ⟨to, po, qo⟩ := ho
  obtain ⟨t, pt, qt⟩ := ha
  refine ⟨_, pe_bm pa slot hty hr po pt hbase hfew hline hs hplain, fun σ H env φ S Q s re h => ?_⟩
  refine qo σ H env φ S _ s re (PostE.bind h fun a S1 φ1 H1 v e1 s1 i1 h1 => ?_)
  split at h1
  · rename_i ht
    refine ⟨tyD_is hK s1 i1 ht, qt σ H1 env φ1 S1 _ s1 (re.ext e1) (PostL.bindE h1 fun ds S2 φ2 H2 vs e2 s2 i2 h2 => ?_)⟩
    exact q W φ2 S2 H2 σ a ds v vs Q s2 (i1.ext e2) i2 h2
  · exact False.elim h1
theorem de_meth0 {T id : String} {name : Str} {g : D → List D → Store → ER} {o : Expr} {fo : EM} {apos cpos : Pos} (pa : PlainAttrs T) (slot : Slot T name id) (hty : typeOf (.builtin id) = pure (.type "method_descriptor")) (hm : DMeth G X id g) (hK : X.K = G.K) (ho : DE G X W o fo)
    (hbase : attributeBase o name X.env (eval o X.env) = eval o X.env := by rfl) (hline : (apos.endLine == cpos.line) = true := by rfl) : DE G X W (.Call (.Attribute o name apos) [] [] cpos) (eMeth T g fo lNil) := by
  obtain ⟨r, hr, q⟩ := hm
  obtain ⟨to, po, qo⟩ := ho
  refine ⟨_, pe_bm0 pa slot hty hr po hbase hline, fun σ H env φ S Q s re h => ?_⟩
  refine qo σ H env φ S _ s re (PostE.bind h fun a S1 φ1 H1 v e1 s1 i1 h1 => ?_)
  split at h1
  · rename_i ht
    exact ⟨tyD_is hK s1 i1 ht, q W φ1 S1 H1 σ a [] v [] Q s1 i1 rfl h1⟩
  · exact False.elim h1
/-- a list's cell changes -/
def cellL (S : Store) (d : D) (g : Nat → List D → ER) : ER := match d with
  | .loc l => match S[l]? with
    | some (.lst ds) => g l ds
    | _ => .bad
  | _ => .bad
theorem cellL_is {φ : Fi} {S : Store} {H : Hp} {σ : L2.St} {d : D} {v : V} {g : Nat → List D → ER} {Q : VK} {P : Prop} (s : SOk G φ S H) (i : Is G φ H d v) (h : PostE G W φ H σ (cellL S d g) Q)
    (k : ∀ l ds a xs, d = .loc l → S[l]? = some (.lst ds) → v = .ref a → φ.c[l]? = some a → H a = some (.lst xs) → IsL G φ H ds xs → PostE G W φ H σ (g l ds) Q → P) : P := by
  cases d with
  | loc l =>
    obtain ⟨a, ha, rfl⟩ := i
    simp only [cellL] at h
    cases hc : S[l]? with
    | none => rw [hc] at h; exact False.elim h
    | some c =>
      rw [hc] at h
      cases c with
      | lst ds =>
        obtain ⟨xs, hx, q⟩ := s.at_ hc ha
        exact k l ds a xs rfl hc rfl ha hx q h
      | _ => exact False.elim h
  | _ => exact False.elim h
theorem cell_put {φ : Fi} {S : Store} {H : Hp} {σ : L2.St} {l : Nat} {a : Addr} {ds : List D} {xs : List V} {d : D} {v : V} {Q : VK} (s : SOk G φ S H) (ha : φ.c[l]? = some a) (q : IsL G φ H ds xs) (i : Is G φ H d v) (h : PostE G W φ H σ (.ok d (S.set l (.lst ds))) Q) : Q v (upd H a (.lst xs)) :=
  have e : Ext φ H φ (upd H a (.lst xs)) := .put (List.mem_of_getElem? ha)
  h φ _ v e (s.put ha ⟨xs, upd_same, q.ext e⟩) (i.ext e)
noncomputable def mAppend (o : D) (ds : List D) (S : Store) : ER := cellL S o fun l xs => match ds with
  | [d] => if sz (xs.length + 1) then .ok .non (S.set l (.lst (xs ++ [d]))) else .bad
  | _ => .bad
theorem dm_append : DMeth G X "list.append" mAppend := by
  refine ⟨_, mt_append, fun W φ S H σ dx ds x xs Q s ix ids h => ?_⟩
  refine cellL_is s ix h fun l es a ys e1 e2 e3 ha hx q h1 => ?_
  subst e1 e3
  match ds, ids, h1 with
  | [d], ids, h1 =>
    obtain ⟨y, rfl, k⟩ := IsL.inv1 ids
    dsimp only at h1
    split at h1
    · rename_i hz
      exact ⟨a, ys, y, rfl, rfl, hx, by rw [← q.length, sizeLine_eq]; exact hz, cell_put s ha (q.append (.one k)) (show Is G φ H .non .non from rfl) h1⟩
    · exact False.elim h1
  | [], _, h1 => exact False.elim h1
  | _ :: _ :: _, _, h1 => exact False.elim h1
def mPop (o : D) (ds : List D) (S : Store) : ER := cellL S o fun l xs => match ds with
  | [] => match xs[xs.length - 1]? with
    | some d => .ok d (S.set l (.lst xs.dropLast))
    | none => .bad
  | _ => .bad
theorem IsL.dropLast {φ : Fi} {H : Hp} : ∀ {ds : List D} {xs : List V}, IsL G φ H ds xs → IsL G φ H ds.dropLast xs.dropLast := fun {ds xs} h => by
  rw [List.dropLast_eq_take, List.dropLast_eq_take, h.length]
  exact h.take _
theorem dm_pop : DMeth G X "list.pop" mPop := by
  refine ⟨_, mt_pop, fun W φ S H σ dx ds x xs Q s ix ids h => ?_⟩
  refine cellL_is s ix h fun l es a ys e1 e2 e3 ha hx q h1 => ?_
  subst e1 e3
  match ds, ids, h1 with
  | [], ids, h1 =>
    cases (show xs = [] from ids)
    dsimp only at h1
    split at h1
    · rename_i d hd
      obtain ⟨y, hy, k⟩ := q.get hd
      exact ⟨a, ys, y, rfl, rfl, hx, by rw [← q.length]; exact hy, cell_put s ha q.dropLast k h1⟩
    · exact False.elim h1
  | _ :: _, _, h1 => exact False.elim h1
end
/-! ### the law's end -/
theorem law_sp {G : Glb} {F : FD} {H : Hp} {a : Addr} {ns : List Int} (hO : Only H) (hS : SqL G.K H a (ns.map V.int)) (h : ∃ S, F [.lst (ns.map .int)] [] = .ok (.bl true) S) :
    spD G 1 F [.ref a] H (fun v _ => v = .bl true) (fun _ _ _ => False) := by
  obtain ⟨S, e⟩ := h
  refine ⟨rfl, ⟨[], []⟩, [], [.lst (ns.map .int)], ⟨rfl, List.nodup_nil, fun _ z => by simp at z, fun _ _ z => by simp at z⟩, ?_, ?_⟩
  · refine .one ⟨a, _, rfl, ?_, IsL.of_ints⟩
    rcases hS with z | z
    · exact .inl ⟨⟨by simp, by simp⟩, z⟩
    · exact .inr z
  · rw [e]
    exact fun φ' H' v _ _ i => i
theorem no_CX {P : Program} {w : World} {H : Hp} {s s' : Shared} {e : Value} (h : L2.CX P w [] H s (fun _ _ _ => False) e s') : False := by
  obtain ⟨_, _, _, _, _, _, _, _, _, _, _, _, z⟩ := h
  exact z
end DL
end
section
/-! D-layer, part 5: isinstance, chains of comparisons, constants of the module. -/
namespace DL
open PySem L2 PySem.Spec PyProof.Rows
section
variable {G : Glb} {X : Cx} {W : WX}
/-! ### isinstance of built-in types -/
inductive Ty where
  | int | bool | str | tuple | list | dict | none
  deriving DecidableEq
def Ty.nm : Ty → String
  | .int => "int" | .bool => "bool" | .str => "str" | .tuple => "tuple" | .list => "list" | .dict => "dict" | .none => "NoneType"
def Ty.isa (a b : Ty) : Bool := decide (a = b) || (decide (a = .bool) && decide (b = .int))
theorem ty_kit (a b : Ty) (h : b ≠ .none) : kitB a.nm b.nm = some (a.isa b) := by
  cases a <;> cases b <;> first | exact absurd rfl h | decide +kernel
def tyOf (S : Store) : D → Option Ty
  | .non => some .none
  | .bl _ => some .bool
  | .int _ => some .int
  | .str _ => some .str
  | .tup _ => some .tuple
  | .lst _ => some .list
  | .dic _ _ => some .dict
  | .obj _ _ _ => none
  | .dct _ _ => none
  | .exn _ _ _ => none
  | .tpl _ => some .tuple
  | .loc l => match S[l]? with
    | some (.lst _) => some .list
    | some (.dic _) => some .dict
    | some (.dct _) => some .dict
    | _ => none
theorem tyOf_is {φ : Fi} {S : Store} {H : Hp} {d : D} {v : V} {t : Ty} (s : SOk G φ S H) (i : Is G φ H d v) (e : tyOf S d = some t) : TyX G.K H v (.type t.nm) := by
  have lst : ∀ {a : Addr} {xs : List V}, SqL G.K H a xs → TyX G.K H (.ref a) (.type "list") := fun {a xs} r => by
    rcases r with (r | ⟨o, r⟩) | ⟨o, its, n, h1, h2, _⟩
    · exact .base (.lst r)
    · exact .base (.frz r)
    · exact .kList h1 h2
  cases d with
  | non => cases e; cases (show v = _ from i); exact .base .non
  | bl b => cases e; cases (show v = _ from i); exact .base (.bl b)
  | int b => cases e; cases (show v = _ from i); exact .base (.int b)
  | str b => cases e; cases (show v = _ from i); exact .base (.str b)
  | tup ds =>
    cases e
    obtain ⟨a, xs, rfl, r, _⟩ := i
    rcases r with ⟨_, r | ⟨o, r⟩⟩ | ⟨o, its, n, h1, h2, _⟩
    · exact .base (.tup r)
    · exact .fTuple r
    · exact .kTuple h1 h2
  | lst ds =>
    cases e
    obtain ⟨a, xs, rfl, r, _⟩ := i
    exact lst r.seq
  | dic ks ds =>
    cases e
    obtain ⟨a, xs, rfl, ⟨_, r | ⟨o, r⟩⟩, _⟩ := i
    · exact .base (.dK r)
    · exact .fDict r
  | obj c ks ds => cases e
  | exn c ks ds => cases e
  | tpl ds =>
    cases e
    obtain ⟨a, xs, o, rfl, ⟨_, r, _⟩, _⟩ := i
    exact .fTuple r
  | dct ks ds => cases e
  | loc l =>
    obtain ⟨a, ha, rfl⟩ := i
    simp only [tyOf] at e
    split at e
    · rename_i ds hc
      cases e
      obtain ⟨xs, hx, _⟩ := s.at_ hc ha
      exact .base (.lst hx)
    · rename_i ds hc
      cases e
      obtain ⟨xs, hx, _⟩ := s.at_ hc ha
      exact .base (.dK hx)
    · rename_i ds hc
      cases e
      obtain ⟨xs, hx, _⟩ := s.at_ hc ha
      exact .base (.dT hx)
    · cases e
def eIsi (b : Ty) (f : EM) : EM := fun env S => (f env S).bind fun d S => match tyOf S d with
  | some a => .ok (.bl (a.isa b)) S
  | none => .bad
/-- isinstance(e, (T1, T2)) -/
def eIsi2 (b c : Ty) (f : EM) : EM := fun env S => (f env S).bind fun d S => match tyOf S d with
  | some a => .ok (.bl (a.isa b || a.isa c)) S
  | none => .bad
/-! ### a < b < c -/
theorem chain_of {r r' : R2} {g g' : D → D → Store → ER} {ta tb tc : TE} {fa fb fc : EM}
    (hr : ∀ W φ S H σ dx dy x y Q, SOk G φ S H → Is G φ H dx x → Is G φ H dy y → PostE G W φ H σ (g dx dy S) Q → r x y H Q)
    (hr' : ∀ W φ S H σ dx dy x y Q, SOk G φ S H → Is G φ H dx x → Is G φ H dy y → PostE G W φ H σ (g' dx dy S) Q → r' x y H Q)
    (ha : ∀ σ H env φ S Q, SOk G φ S H → RepE G φ H σ env → PostE G W φ H σ (fa env S) Q → ta σ H Q)
    (hb : ∀ σ H env φ S Q, SOk G φ S H → RepE G φ H σ env → PostE G W φ H σ (fb env S) Q → tb σ H Q)
    (hc : ∀ σ H env φ S Q, SOk G φ S H → RepE G φ H σ env → PostE G W φ H σ (fc env S) Q → tc σ H Q) :
    ∀ σ H env φ S Q, SOk G φ S H → RepE G φ H σ env → PostE G W φ H σ (eChain g g' fa fb fc env S) Q → tChain r r' ta tb tc σ H Q := fun σ H env φ S Q s re h => by
  refine ha σ H env φ S _ s re (PostE.bind h fun d S1 φ1 H1 v e1 s1 i1 h1 => ?_)
  refine hb σ H1 env φ1 S1 _ s1 (re.ext e1) (PostE.bind h1 fun d2 S2 φ2 H2 v2 e2 s2 i2 h2 => ?_)
  refine hr W φ2 S2 H2 σ d d2 v v2 _ s2 (i1.ext e2) i2 (PostE.bind h2 fun z S3 φ3 H3 vz e3 s3 i3 h3 => ?_)
  cases z with
  | bl k =>
    refine ⟨k, i3, ?_⟩
    cases k with
    | true =>
      refine iteT (hc σ H3 env φ3 S3 _ s3 ((re.ext e1).ext (e2.trans e3)) (PostE.bind h3 fun d4 S4 φ4 H4 v4 e4 s4 i4 h4 => ?_))
      exact hr' W φ4 S4 H4 σ d2 d4 v2 v4 Q s4 (i2.ext (e3.trans e4)) i4 h4
    | false => exact iteF (h3.now s3 rfl)
  | _ => exact False.elim h3
theorem de_chain {op op' : CmpOp} {a b c : Expr} {pos : Pos} {g g' : D → D → Store → ER} {fa fb fc : EM} (ho : DOp G X (compareOp op) g) (ho' : DOp G X (compareOp op') g') (ha : DE G X W a fa) (hb : DE G X W b fb) (hc : DE G X W c fc)
    (h1 : lastMarks [op, op'] [b, c] = false := by rfl) : DE G X W (.Compare a [op, op'] [b, c] pos) (eChain g g' fa fb fc) := by
  obtain ⟨r, hr, q⟩ := ho
  obtain ⟨r', hr', q'⟩ := ho'
  obtain ⟨ta, pa, qa⟩ := ha
  obtain ⟨tb, pb, qb⟩ := hb
  obtain ⟨tc, pc, qc⟩ := hc
  exact ⟨_, pe_chain hr hr' pa pb pc h1, chain_of q q' qa qb qc⟩
theorem dt_chain {op op' : CmpOp} {a b c : Expr} {pos : Pos} {g g' : D → D → Store → ER} {fa fb fc : EM} (ho : DOp G X (compareOp op) g) (ho' : DOp G X (compareOp op') g') (ha : DE G X W a fa) (hb : DE G X W b fb) (hc : DE G X W c fc)
    (h1 : lastMarks [op, op'] [b, c] = false := by rfl) : DT G X W (.Compare a [op, op'] [b, c] pos) (eChain g g' fa fb fc) := by
  obtain ⟨r, hr, q⟩ := ho
  obtain ⟨r', hr', q'⟩ := ho'
  obtain ⟨ta, pa, qa⟩ := ha
  obtain ⟨tb, pb, qb⟩ := hb
  obtain ⟨tc, pc, qc⟩ := hc
  refine ⟨_, pt_chain hr hr' pa pb pc h1, fun σ H env φ S Q s re h => ?_⟩
  exact chain_of q q' qa qb qc σ H env φ S _ s re h.of

/-! ### what is never reached; constants of the module -/
theorem de_gInt {x : Str} {i : Int} {pos : Pos} (h : ∃ t, X.mg x = some (.int i t)) (hg : Gl X x) (hd : (x == ("__debug__" : Str)) = false := by decide) : DE G X W (.Name x pos) (eC (.int i)) :=
  let ⟨t, e⟩ := h; de_glob hg e (v := .int i) ⟨t, rfl⟩ (fun _ _ => rfl) hd
theorem de_gStr {x z : Str} {pos : Pos} (h : ∃ t, X.mg x = some (.str z t)) (hg : Gl X x) (hd : (x == ("__debug__" : Str)) = false := by decide) : DE G X W (.Name x pos) (eC (.str z)) :=
  let ⟨t, e⟩ := h; de_glob hg e (v := .str z) ⟨t, rfl⟩ (fun _ _ => rfl) hd
end

/-! ### slices -/
section
variable {G : Glb} {X : Cx} {W : WX}
inductive OR where
  | ok (o : Option Int) (S : Store)
  | ex (x : Exc) (S : Store)
  | bad
abbrev OM := EnvD → Store → OR
def OR.bindE (r : OR) (g : Option Int → Store → ER) : ER := match r with
  | .ok d S => g d S
  | .ex x S => .ex x S
  | .bad => .bad
def PostO (G : Glb) (W : WX) (φ : Fi) (H : Hp) (σ : L2.St) (r : OR) (Q : Option Int → Hp → Prop) : Prop := match r with
  | .ok d S => ∀ φ' H', Ext φ H φ' H' → SOk G φ' S H' → Q d H'
  | .ex x S => ∀ φ' H' cls dx, Ext φ H φ' H' → SOk G φ' S H' → IsX G φ' H' x cls dx → W cls dx σ H'
  | .bad => False
def DO (G : Glb) (X : Cx) (W : WX) (e : Option Expr) (f : OM) : Prop :=
  ∃ t, PO X e t ∧ ∀ σ H env φ S Q, SOk G φ S H → RepE G φ H σ env → PostO G W φ H σ (f env S) Q → t σ H Q
def oNone : OM := fun _ S => .ok none S
def oSome (f : EM) : OM := fun env S => match f env S with
  | .ok (.int i) S => .ok (some i) S
  | .ex x S => .ex x S
  | _ => .bad
theorem do_none : DO G X W none oNone := ⟨_, po_none, fun σ H env φ S Q s re h => h φ H .refl s⟩
theorem do_some {e : Expr} {f : EM} (h : DE G X W e f) : DO G X W (some e) (oSome f) := by
  obtain ⟨t, p, q⟩ := h
  refine ⟨_, po_some p, fun σ H env φ S Q s re h => ?_⟩
  refine q σ H env φ S _ s re ?_
  unfold oSome at h
  cases hr : f env S with
  | ok d S1 =>
    rw [hr] at h
    cases d with
    | int i => exact fun φ1 H1 v e1 s1 i1 => ⟨i, i1, h φ1 H1 e1 s1⟩
    | _ => exact False.elim h
  | ex x S1 => rw [hr] at h; exact h
  | bad => rw [hr] at h; exact False.elim h
theorem PostO.bindE {φ : Fi} {H : Hp} {σ : L2.St} {r : OR} {g : Option Int → Store → ER} {Q : VK} {Q' : Option Int → Hp → Prop} (h : PostE G W φ H σ (r.bindE g) Q)
    (k : ∀ d S φ' H', Ext φ H φ' H' → SOk G φ' S H' → PostE G W φ' H' σ (g d S) Q → Q' d H') : PostO G W φ H σ r Q' := by
  cases r with
  | ok d S => exact fun φ2 H2 e s => k d S φ2 H2 e s (PostE.ext (r := g d S) e h)
  | ex x S => exact h
  | bad => exact h
def cutD {α : Type} (xs : List α) (lo hi : Option Int) : List α := (xs.drop (HT.sIx xs.length 0 lo)).take (HT.sIx xs.length xs.length hi - HT.sIx xs.length 0 lo)
theorem IsL.cut {φ : Fi} {H : Hp} {ds : List D} {xs : List V} (h : IsL G φ H ds xs) (lo hi : Option Int) : IsL G φ H (cutD ds lo hi) (cutV xs lo hi) := by
  unfold cutD cutV
  rw [h.length]
  exact (h.drop _).take _
def slD (x : D) (lo hi : Option Int) (S : Store) : ER := match x with
  | .tup ds => .ok (.tup (cutD ds lo hi)) S
  | x => match listD S x with
    | some ds => .ok (.lst (cutD ds lo hi)) S
    | none => .bad
def eSlice (f : EM) (lo hi : OM) : EM := fun env S => (f env S).bind fun x S => (lo env S).bindE fun l S => (hi env S).bindE fun u S => slD x l u S
theorem cut_whole {α : Type} {xs : List α} {lo hi : Option Int} (h : HT.sIx xs.length 0 lo = 0 ∧ HT.sIx xs.length xs.length hi = xs.length) : cutD xs lo hi = xs := by
  unfold cutD
  rw [h.1, h.2]; simp
theorem de_slice {e : Expr} {lo hi : Option Expr} {p2 pos : Pos} {f : EM} {fl fh : OM} (hK : X.K = G.K) (he : DE G X W e f) (hl : DO G X W lo fl) (hh : DO G X W hi fh) : DE G X W (.Subscript e (.Slice lo hi none p2) pos) (eSlice f fl fh) := by
  obtain ⟨t, p, q⟩ := he
  obtain ⟨tl, pl, ql⟩ := hl
  obtain ⟨th, ph, qh⟩ := hh
  refine ⟨_, pe_slice (sl_list.or sl_tupA) p pl ph, fun σ H env φ S Q s re h => ?_⟩
  refine q σ H env φ S _ s re (PostE.bind h fun x S1 φ1 H1 v e1 s1 i1 h1 => ?_)
  refine ql σ H1 env φ1 S1 _ s1 (re.ext e1) (PostO.bindE h1 fun l S2 φ2 H2 e2 s2 h2 => ?_)
  refine qh σ H2 env φ2 S2 _ s2 ((re.ext e1).ext e2) (PostO.bindE h2 fun u S3 φ3 H3 e3 s3 h3 => ?_)
  have i3 := (i1.ext e2).ext e3
  unfold slD at h3
  split at h3
  · rename_i ds
    obtain ⟨a, xs, rfl, r, il⟩ := i3
    refine .inr ⟨a, xs, rfl, by rw [hK]; exact r.seq, fun hw => ?_, fun _ p hp => tup_new s3 (il.cut l u) h3 hp⟩
    rw [← il.length] at hw
    rw [cut_whole hw] at h3
    exact h3.now s3 ⟨a, xs, rfl, r, il⟩
  · split at h3
    · rename_i ds e
      obtain ⟨a, xs, rfl, r, il⟩ := listD_sq s3 i3 e
      exact .inl ⟨a, xs, rfl, by rw [hK]; exact r, fun p hp => lst_new s3 (il.cut l u) h3 hp⟩
    · exact False.elim h3
end
end DL
end
section
/-! D-layer, part 6: how the values are reckoned (by simp). -/
namespace DL
open PySem L2
section
variable {d : D} {S : Store} {x : Exc} {e env : EnvD} {i j : Int}
@[simp] theorem ER.bind_ok {g : D → Store → ER} : (ER.ok d S).bind g = g d S := rfl
@[simp] theorem ER.bind_ex {g : D → Store → ER} : (ER.ex x S).bind g = .ex x S := rfl
@[simp] theorem ER.bind_bad {g : D → Store → ER} : ER.bad.bind g = .bad := rfl
@[simp] theorem ER.bindL_ok {g : D → Store → LR} : (ER.ok d S).bindL g = g d S := rfl
@[simp] theorem ER.bindL_ex {g : D → Store → LR} : (ER.ex x S).bindL g = .ex x S := rfl
@[simp] theorem ER.bindL_bad {g : D → Store → LR} : ER.bad.bindL g = .bad := rfl
@[simp] theorem LR.bind_ok {ds : List D} {g : List D → Store → LR} : (LR.ok ds S).bind g = g ds S := rfl
@[simp] theorem LR.bind_ex {g : List D → Store → LR} : (LR.ex x S).bind g = .ex x S := rfl
@[simp] theorem LR.bind_bad {g : List D → Store → LR} : LR.bad.bind g = .bad := rfl
@[simp] theorem LR.bindE_ok {ds : List D} {g : List D → Store → ER} : (LR.ok ds S).bindE g = g ds S := rfl
@[simp] theorem LR.bindE_ex {g : List D → Store → ER} : (LR.ex x S).bindE g = .ex x S := rfl
@[simp] theorem LR.bindE_bad {g : List D → Store → ER} : LR.bad.bindE g = .bad := rfl
@[simp] theorem ER.bindS_ok {g : D → Store → SR} : (ER.ok d S).bindS e g = g d S := rfl
@[simp] theorem ER.bindS_ex {g : D → Store → SR} : (ER.ex x S).bindS e g = .ex x e S := rfl
@[simp] theorem ER.bindS_bad {g : D → Store → SR} : ER.bad.bindS e g = .bad := rfl
@[simp] theorem LR.bindS_ok {ds : List D} {g : List D → Store → SR} : (LR.ok ds S).bindS e g = g ds S := rfl
@[simp] theorem LR.bindS_ex {g : List D → Store → SR} : (LR.ex x S).bindS e g = .ex x e S := rfl
@[simp] theorem LR.bindS_bad {g : List D → Store → SR} : LR.bad.bindS e g = .bad := rfl
@[simp] theorem OR.bindE_ok {o : Option Int} {g : Option Int → Store → ER} : (OR.ok o S).bindE g = g o S := rfl
@[simp] theorem SR.seq_nx {g : EnvD → Store → SR} : (SR.nx e S).seq g = g e S := rfl
@[simp] theorem SR.seq_rt {g : EnvD → Store → SR} : (SR.rt d S).seq g = .rt d S := rfl
@[simp] theorem SR.seq_bk {g : EnvD → Store → SR} : (SR.bk e S).seq g = .bk e S := rfl
@[simp] theorem SR.seq_ct {g : EnvD → Store → SR} : (SR.ct e S).seq g = .ct e S := rfl
@[simp] theorem SR.seq_ex {g : EnvD → Store → SR} : (SR.ex x e S).seq g = .ex x e S := rfl
@[simp] theorem SR.seq_bad {g : EnvD → Store → SR} : SR.bad.seq g = .bad := rfl
@[simp] theorem eVar_at {i : Nat} (h : env[i]? = some (some d)) : eVar i env S = .ok d S := by unfold eVar; rw [h]
@[simp] theorem eC_is : eC d env S = .ok d S := rfl
@[simp] theorem lNil_is : lNil env S = .ok [] S := rfl
@[simp] theorem lCons_is {f : EM} {g : LM} : lCons f g env S = (f env S).bindL fun d S => (g env S).bind fun ds S => .ok (d :: ds) S := rfl
@[simp] theorem eOp_is {g : D → D → Store → ER} {a b : EM} : eOp g a b env S = (a env S).bind fun x S => (b env S).bind fun y S => g x y S := rfl
@[simp] theorem eCall_is {F : FD} {f : LM} : eCall F f env S = (f env S).bindE F := rfl
@[simp] theorem eCallB_is {g : List D → Store → ER} {f : LM} : eCallB g f env S = (f env S).bindE g := rfl
@[simp] theorem eTup_is {f : LM} : eTup f env S = (f env S).bindE fun ds S => if sz ds.length then .ok (.tup ds) S else .bad := rfl
@[simp] theorem eLst_is {f : LM} : eLst f env S = (f env S).bindE fun ds S => if sz ds.length then .ok (.lst ds) S else .bad := rfl
@[simp] theorem eLstM_is {f : LM} : eLstM f env S = (f env S).bindE fun ds S => if sz ds.length then .ok (.loc S.length) (S ++ [.lst ds]) else .bad := rfl
@[simp] theorem eAnd_is {a b : EM} : eAnd a b env S = (a env S).bind fun d S => match d with | .bl true => b env S | .bl false => .ok (.bl false) S | _ => .bad := rfl
@[simp] theorem eOr_is {a b : EM} : eOr a b env S = (a env S).bind fun d S => match d with | .bl true => .ok (.bl true) S | .bl false => b env S | _ => .bad := rfl
@[simp] theorem eNot_is {a : EM} : eNot a env S = (a env S).bind fun d S => match d with | .bl b => .ok (.bl (!b)) S | _ => .bad := rfl
@[simp] theorem eIf_is {c a b : EM} : eIf c a b env S = (c env S).bind fun d S => match d with | .bl true => a env S | .bl false => b env S | _ => .bad := rfl
@[simp] theorem eNeg_is {a : EM} : eNeg a env S = (a env S).bind fun d S => match d with | .int i => .ok (.int (-i)) S | _ => .bad := rfl
@[simp] theorem eChain_is {g g' : D → D → Store → ER} {a b c : EM} : eChain g g' a b c env S = (a env S).bind fun x S => (b env S).bind fun y S => (g x y S).bind fun z S => match z with
  | .bl true => (c env S).bind fun w S => g' y w S
  | .bl false => .ok (.bl false) S
  | _ => .bad := rfl
@[simp] theorem sSkip_is : sSkip e S = .nx e S := rfl
@[simp] theorem sBk_is : sBk e S = .bk e S := rfl
@[simp] theorem sCt_is : sCt e S = .ct e S := rfl
@[simp] theorem sSeq_is {a b : SM} : sSeq a b e S = (a e S).seq b := rfl
@[simp] theorem sRet_is {f : EM} : sRet f e S = (f e S).bindS e fun d S => .rt d S := rfl
@[simp] theorem sRetN_is : sRetN e S = .rt .non S := rfl
@[simp] theorem sDrop_is {f : EM} : sDrop f e S = (f e S).bindS e fun _ S => .nx e S := rfl
@[simp] theorem sIf_is {c : EM} {a b : SM} : sIf c a b e S = (c e S).bindS e fun d S => match d with | .bl true => a e S | .bl false => b e S | _ => .bad := rfl
@[simp] theorem sAsg_is {f : EM} {b : D → EnvD → Option EnvD} : sAsg f b e S = (f e S).bindS e fun d S => match b d e with | some e' => .nx e' S | none => .bad := rfl
@[simp] theorem sPar_is {i j : Nat} {f : LM} : sPar i j f e S = (f e S).bindS e fun ds S => match ds with | [a, b] => .nx ((e.set i (some a)).set j (some b)) S | _ => .bad := rfl
@[simp] theorem sPar3_is {i j l : Nat} {f : LM} : sPar3 i j l f e S = (f e S).bindS e fun ds S => match ds with | [a, b, c] => .nx (((e.set i (some a)).set j (some b)).set l (some c)) S | _ => .bad := rfl
@[simp] theorem sAug_is {i : Nat} {g : D → D → Store → ER} {f : EM} : sAug i g f e S = (eOp g (eVar i) f e S).bindS e fun d S => .nx (e.set i (some d)) S := rfl
@[simp] theorem sFor_is {f : LM} {b : D → EnvD → Option EnvD} {body : SM} : sFor f b body e S = (f e S).bindS e fun ds S => forD b body ds e S := rfl
@[simp] theorem sPutL_is {o i f : EM} : sPutL o i f env S = (f env S).bindS env fun d S => (o env S).bindS env fun a S => (i env S).bindS env fun b S => match setD a b d S with
  | some S' => .nx env S'
  | none => .bad := rfl
@[simp] theorem bName_is {i : Nat} : bName i d env = some (env.set i (some d)) := rfl
@[simp] theorem bTup_is {b : List D → EnvD → Option EnvD} {ds : List D} : bTup b (.tup ds) env = b ds env := rfl
@[simp] theorem bNil_is : bNil [] env = some env := rfl
@[simp] theorem bCons_is {b : D → EnvD → Option EnvD} {c : List D → EnvD → Option EnvD} {ds : List D} : bCons b c (d :: ds) env = (b d env).bind (c ds) := rfl
@[simp] theorem forD_nil {b : D → EnvD → Option EnvD} {body : SM} : forD b body [] e S = .nx e S := rfl
@[simp] theorem iSeq_is {f : EM} : iSeq f env S = (f env S).bindL fun d S => match d with
  | .lst ds => .ok ds S
  | .tup ds => .ok ds S
  | .str x => .ok (signsD x) S
  | _ => .bad := rfl
@[simp] theorem iRange1_is {f : LM} : iRange1 f env S = (f env S).bind fun ds S => match ds with
  | [.int j] => if rOk j then .ok (rangeD 0 j.toNat) S else .bad
  | _ => .bad := rfl
@[simp] theorem iRange2_is {f : LM} : iRange2 f env S = (f env S).bind fun ds S => match ds with
  | [.int i, .int j] => if rOk i ∧ rOk j then .ok (rangeD i (j - i).toNat) S else .bad
  | _ => .bad := rfl
theorem rOk_n {n : Nat} (h : n ≤ 1000000000) : rOk (n : Int) := ⟨by omega, by omega⟩
@[simp] theorem iEnumD_is {f : LM} : iEnumD f env S = (f env S).bind fun ds S => match ds with
  | [.lst ds] => .ok (enumD 0 ds) S
  | _ => .bad := rfl
@[simp] theorem iZipD_is {f : LM} : iZipD f env S = (f env S).bind fun ds S => match ds with
  | [.lst ds, .lst es] => .ok (zipD ds es) S
  | _ => .bad := rfl
@[simp] theorem eLc_is {f : LM} {b : D → EnvD → Option EnvD} {tt elt : EM} {vs : List Nat} : eLc f b tt elt vs env S = (f env S).bindE fun ds S => (lcD b tt elt (wipeD env vs) [] ds S).bindE fun ys S => .ok (.lst ys) S := rfl
@[simp] theorem eLcM_is {f : LM} {b : D → EnvD → Option EnvD} {tt elt : EM} {vs : List Nat} : eLcM f b tt elt vs env S = (f env S).bindE fun ds S => (lcD b tt elt (wipeD env vs) [] ds S).bindE fun ys S => .ok (.loc S.length) (S ++ [.lst ys]) := rfl
@[simp] theorem eYes_is : eYes env S = .ok (.bl true) S := rfl
@[simp] theorem wipeD_nil : wipeD env [] = env := rfl
@[simp] theorem wipeD_cons {v : Nat} {vs : List Nat} : wipeD env (v :: vs) = (wipeD env vs).set v none := rfl
@[simp] theorem lcD_nil {b : D → EnvD → Option EnvD} {tt elt : EM} {acc : List D} : lcD b tt elt env acc [] S = .ok acc S := rfl
/-! operators on known values -/
@[simp] theorem opAdd_ii : opAdd (.int i) (.int j) S = .ok (.int (i + j)) S := rfl
@[simp] theorem opAdd_tt {a b : List D} : opAdd (.tup a) (.tup b) S = if sz (a.length + b.length) then .ok (.tup (a ++ b)) S else .bad := rfl
@[simp] theorem opAdd_ll {a b : List D} : opAdd (.lst a) (.lst b) S = if sz (a.length + b.length) then .ok (.lst (a ++ b)) S else .bad := rfl
@[simp] theorem opAdd_ss {a b : Str} : opAdd (.str a) (.str b) S = if sz (a.length + b.length) then .ok (.str (a ++ b)) S else .bad := rfl
@[simp] theorem opSub_ii : opSub (.int i) (.int j) S = .ok (.int (i - j)) S := rfl
@[simp] theorem opMul_ii : opMul (.int i) (.int j) S = if mulOk i j then .ok (.int (i * j)) S else .bad := rfl
@[simp] theorem sz_is {n : Nat} (h : n ≤ 16777216) : sz n := h
@[simp] theorem mulOk_l (h : i.natAbs < 18446744073709551616) : mulOk i j := .inl h
@[simp] theorem mulOk_r (h : j.natAbs < 18446744073709551616) : mulOk i j := .inr (.inl h)
@[simp] theorem divOk_s (h0 : 0 < j) (h : j < 1073741824) : divOk j := ⟨h0, .inl h⟩
@[simp] theorem powOk_is (h0 : 0 ≤ j) (h : j ≤ 1000000) (h2 : i.natAbs < 18446744073709551616) : powOk i j := ⟨h0, h, h2⟩
@[simp] theorem mulSOk_l (h : i.natAbs < 18446744073709551616) : mulSOk i j := .inl h
@[simp] theorem mulSOk_r (h : j.natAbs < 18446744073709551616) : mulSOk i j := .inr h
@[simp] theorem opMod_ii : opMod (.int i) (.int j) S = if 0 < j then .ok (.int (i % j)) S else .bad := rfl
@[simp] theorem opFdiv_ii : opFdiv (.int i) (.int j) S = if divOk j then .ok (.int (i / j)) S else .bad := rfl
@[simp] theorem opPow_ii : opPow (.int i) (.int j) S = if powOk i j then .ok (.int (i ^ j.toNat)) S else .bad := rfl
@[simp] theorem opMulS_ii : opMulS (.int i) (.int j) S = if mulSOk i j then .ok (.int (i * j)) S else .bad := rfl
@[simp] theorem opAddI_ii : opAddI (.int i) (.int j) S = .ok (.int (i + j)) S := rfl
@[simp] theorem opLt_ii : opLt (.int i) (.int j) S = .ok (.bl (decide (i < j))) S := rfl
@[simp] theorem opLe_ii : opLe (.int i) (.int j) S = .ok (.bl (decide (i ≤ j))) S := rfl
@[simp] theorem opGt_ii : opGt (.int i) (.int j) S = .ok (.bl (decide (j < i))) S := rfl
@[simp] theorem opGe_ii : opGe (.int i) (.int j) S = .ok (.bl (decide (j ≤ i))) S := rfl
theorem shaped_int (i : Int) : SeqAt.shaped (.int i) = true := rfl
@[simp] theorem opEq_ii : opEq (.int i) (.int j) S = .ok (.bl (decide (i = j))) S := by
  unfold opEq opEqB
  simp only [D.pyO, D.py, shaped_int, Bool.and_self, if_true]
  show ER.ok (.bl (i == j)) S = _
  rw [Bool.beq_eq_decide_eq]
@[simp] theorem opNe_ii : opNe (.int i) (.int j) S = .ok (.bl (!decide (i = j))) S := by
  unfold opNe opEqB
  simp only [D.pyO, D.py, shaped_int, Bool.and_self, if_true]
  show ER.ok (.bl (!(i == j))) S = _
  rw [Bool.beq_eq_decide_eq]
@[simp] theorem opEq_ss {a b : Str} : opEq (.str a) (.str b) S = .ok (.bl (decide (a = b))) S := rfl
@[simp] theorem opNe_ss {a b : Str} : opNe (.str a) (.str b) S = .ok (.bl (!decide (a = b))) S := rfl
@[simp] theorem opEq_bb {a b : Bool} : opEq (.bl a) (.bl b) S = .ok (.bl (a == b)) S := rfl
@[simp] theorem opNe_bb {a b : Bool} : opNe (.bl a) (.bl b) S = .ok (.bl (!(a == b))) S := rfl
@[simp] theorem opIsN_non : opIsN d .non S = .ok (.bl d.isN) S := rfl
@[simp] theorem opNotN_non : opNotN d .non S = .ok (.bl (!d.isN)) S := rfl
@[simp] theorem isN_non : D.isN .non = true := rfl
@[simp] theorem isN_int : D.isN (.int i) = false := rfl
@[simp] theorem isN_str {z : Str} : D.isN (.str z) = false := rfl
@[simp] theorem isN_bl {b : Bool} : D.isN (.bl b) = false := rfl
@[simp] theorem isN_tup {ds : List D} : D.isN (.tup ds) = false := rfl
@[simp] theorem isN_lst {ds : List D} : D.isN (.lst ds) = false := rfl
@[simp] theorem isN_loc {l : Nat} : D.isN (.loc l) = false := rfl
@[simp] theorem isN_dic {ks ds} : D.isN (.dic ks ds) = false := rfl
@[simp] theorem isN_obj {c ks ds} : D.isN (.obj c ks ds) = false := rfl
@[simp] theorem atI_0 {α : Type} {a : α} {r : List α} : atI (a :: r) 0 = some a := by simp [atI, ixN]
@[simp] theorem atI_1 {α : Type} {a b : α} {r : List α} : atI (a :: b :: r) 1 = some b := by
  have : (1 : Int) < (r.length : Int) + 1 + 1 := by omega
  simp [atI, ixN, this]
@[simp] theorem atI_2 {α : Type} {a b c : α} {r : List α} : atI (a :: b :: c :: r) 2 = some c := by
  have : (2 : Int) < (r.length : Int) + 1 + 1 + 1 := by omega
  simp [atI, ixN, this]
@[simp] theorem opIx_ti {ds : List D} : opIx (.tup ds) (.int i) S = match atI ds i with | some d => .ok d S | none => .bad := rfl
@[simp] theorem opIx_li {ds : List D} : opIx (.lst ds) (.int i) S = match atI ds i with | some d => .ok d S | none => .bad := rfl
/-- a cell, by a name of its own -/
def cel (S : Store) (l : Nat) : Option Cell := S[l]?
theorem cel_lt {l : Nat} {c : Cell} (h : cel S l = some c) : l < S.length := (List.getElem?_eq_some_iff.mp h).1
@[simp] theorem cel_set_same {l : Nat} {c : Cell} (h : (cel S l).isSome = true) : cel (S.set l c) l = some c := by
  obtain ⟨c0, e⟩ := Option.isSome_iff_exists.mp h
  exact List.getElem?_set_self (cel_lt e)
@[simp] theorem cel_set_ne {l m : Nat} {c : Cell} (h : l ≠ m) : cel (S.set l c) m = cel S m := List.getElem?_set_ne h
@[simp] theorem cel_last {c : Cell} : cel (S ++ [c]) S.length = some c := by simp [cel]
@[simp] theorem opIx_c {l : Nat} : opIx (.loc l) (.int i) S = match cel S l with
  | some (.lst ds) => (match atI ds i with | some d => .ok d S | none => .bad)
  | _ => .bad := by
  simp only [opIx, listD, cel]
  cases S[l]? with
  | none => rfl
  | some c => cases c <;> first | rfl | (rename_i ds; cases atI ds i <;> rfl)
@[simp] theorem bLen_t {ds : List D} : bLen [.tup ds] S = .ok (.int ds.length) S := rfl
@[simp] theorem bLen_l {ds : List D} : bLen [.lst ds] S = .ok (.int ds.length) S := rfl
@[simp] theorem bLen_c {l : Nat} : bLen [.loc l] S = match cel S l with | some (.lst ds) => .ok (.int ds.length) S | _ => .bad := by
  simp only [bLen, seqD, listD, cel]
  cases S[l]? with
  | none => rfl
  | some c => cases c <;> rfl
@[simp] theorem bLen_s {z : Str} : bLen [.str z] S = if sz z.length then .ok (.int z.length) S else .bad := rfl
@[simp] theorem bII_is {g : Int → Int → Int} : bII g [.int i, .int j] S = .ok (.int (g i j)) S := rfl
@[simp] theorem bAbs_is : bAbs [.int i] S = .ok (.int (if i < 0 then -i else i)) S := rfl
@[simp] theorem bInt_i : bInt [.int i] S = .ok (.int i) S := rfl
@[simp] theorem bInt_b {b : Bool} : bInt [.bl b] S = .ok (.int (if b then 1 else 0)) S := rfl
@[simp] theorem bList_l {ds : List D} : bList [.lst ds] S = .ok (.lst ds) S := rfl
@[simp] theorem bList_t {ds : List D} : bList [.tup ds] S = .ok (.lst ds) S := rfl
@[simp] theorem bTuple_l {ds : List D} : bTuple [.lst ds] S = .ok (.tup ds) S := rfl
@[simp] theorem bTuple_t {ds : List D} : bTuple [.tup ds] S = .ok (.tup ds) S := rfl
@[simp] theorem bAll_is {bs : List Bool} : bAll [.lst (bs.map .bl)] S = .ok (.bl (bs.all id)) S := by simp [bAll, listD, blsD_map]
@[simp] theorem bAny_is {bs : List Bool} : bAny [.lst (bs.map .bl)] S = .ok (.bl (bs.any id)) S := by simp [bAny, listD, blsD_map]
@[simp] theorem bSum_is {ns : List Int} : bSum [.lst (ns.map .int)] S = .ok (.int ns.sum) S := by simp [bSum, listD, intsD_map]
@[simp] theorem oNone_is : oNone env S = .ok none S := rfl
@[simp] theorem oSome_is {f : EM} (h : f env S = .ok (.int i) S) : oSome f env S = .ok (some i) S := by unfold oSome; rw [h]
@[simp] theorem eSlice_is {f : EM} {lo hi : OM} : eSlice f lo hi env S = (f env S).bind fun x S => (lo env S).bindE fun l S => (hi env S).bindE fun u S => slD x l u S := rfl
@[simp] theorem slD_l {ds : List D} {a b : Option Int} : slD (.lst ds) a b S = .ok (.lst (cutD ds a b)) S := rfl
@[simp] theorem slD_t {ds : List D} {a b : Option Int} : slD (.tup ds) a b S = .ok (.tup (cutD ds a b)) S := rfl
@[simp] theorem eIsi_is {b : Ty} {f : EM} : eIsi b f env S = (f env S).bind fun d S => match tyOf S d with | some a => .ok (.bl (a.isa b)) S | none => .bad := rfl
@[simp] theorem eIsi2_is {b c : Ty} {f : EM} : eIsi2 b c f env S = (f env S).bind fun d S => match tyOf S d with | some a => .ok (.bl (a.isa b || a.isa c)) S | none => .bad := rfl
@[simp] theorem tyOf_int : tyOf S (.int i) = some .int := rfl
@[simp] theorem tyOf_bl {b : Bool} : tyOf S (.bl b) = some .bool := rfl
@[simp] theorem tyOf_str {z : Str} : tyOf S (.str z) = some .str := rfl
@[simp] theorem tyOf_non : tyOf S .non = some .none := rfl
@[simp] theorem tyOf_tup {ds : List D} : tyOf S (.tup ds) = some .tuple := rfl
@[simp] theorem tyOf_lst {ds : List D} : tyOf S (.lst ds) = some .list := rfl
@[simp] theorem tyOf_dic {ks ds} : tyOf S (.dic ks ds) = some .dict := rfl
@[simp] theorem setD_is {l : Nat} : setD (.loc l) (.int i) d S = match cel S l with | some (.lst ds) => (putIx i ds d).map fun es => S.set l (.lst es) | _ => none := rfl
@[simp] theorem putIx_0 {a : D} {r : List D} : putIx 0 (a :: r) d = some (d :: r) := by simp [putIx, ixN]
@[simp] theorem putIx_1 {a b : D} {r : List D} : putIx 1 (a :: b :: r) d = some (a :: d :: r) := by
  have : (1 : Int) < (r.length : Int) + 1 + 1 := by omega
  simp [putIx, ixN, this]
@[simp] theorem putIx_2 {a b c : D} {r : List D} : putIx 2 (a :: b :: c :: r) d = some (a :: b :: d :: r) := by
  have : (2 : Int) < (r.length : Int) + 1 + 1 + 1 := by omega
  simp [putIx, ixN, this]
@[simp] theorem fnF_is {m : Mode} {n : Nat} {g : SM} {ds : List D} : fnF m n g ds S = match g (startD n ds) S with
  | .nx _ S1 => exitD m S .non S1
  | .rt d S1 => exitD m S d S1
  | .ex x _ S1 => .ex x S1
  | _ => .bad := rfl
@[simp] theorem exitD_keep {S0 : Store} : exitD .keep S0 d S = .ok d S := rfl
theorem exit_of {S0 : Store} {d' : D} (h : frzD (resD S0.length S 12) d = some d') (h2 : S.take S0.length = S0) : exitD .pure S0 d S = .ok d' S0 := by
  unfold exitD
  simp only [h]
  rw [if_pos (.inl h2), h2]
theorem exit_same {S0 : Store} {d' : D} (h : frzD (resD S0.length S0 12) d = some d') : exitD .pure S0 d S0 = .ok d' S0 := exit_of h (by simp)
@[simp] theorem exit_int {S0 : Store} : exitD .pure S0 (.int i) S0 = .ok (.int i) S0 := exit_same rfl
@[simp] theorem exit_bl {S0 : Store} {b : Bool} : exitD .pure S0 (.bl b) S0 = .ok (.bl b) S0 := exit_same rfl
@[simp] theorem exit_str {S0 : Store} {z : Str} : exitD .pure S0 (.str z) S0 = .ok (.str z) S0 := exit_same rfl
@[simp] theorem exit_non {S0 : Store} : exitD .pure S0 .non S0 = .ok .non S0 := exit_same rfl
@[simp] theorem exit_int2 {S0 : Store} {j : Int} : exitD .pure S0 (.tup [.int i, .int j]) S0 = .ok (.tup [.int i, .int j]) S0 := exit_same rfl
@[simp] theorem startD1 {a : D} {n : Nat} : startD (n + 1) [a] = some a :: List.replicate n none := by simp [startD]
@[simp] theorem startD2 {a b : D} {n : Nat} : startD (n + 2) [a, b] = some a :: some b :: List.replicate n none := by simp [startD]
@[simp] theorem startD3 {a b c : D} {n : Nat} : startD (n + 3) [a, b, c] = some a :: some b :: some c :: List.replicate n none := by simp [startD]
end
end DL
end
section
/-! D-layer, part 7: more of sequences; dicts. -/
namespace DL
open PySem L2 PySem.Spec PyProof.Rows

/-! ### a list's cell changes -/
def w63 (i : Int) : Prop := -(2 ^ 63) ≤ i ∧ i < 2 ^ 63
noncomputable instance {i : Int} : Decidable (w63 i) := Classical.propDecidable _
section
variable {G : Glb} {X : Cx} {W : WX}
theorem IsL.eraseIdx {φ : Fi} {H : Hp} : ∀ {ds : List D} {xs : List V} (n : Nat), IsL G φ H ds xs → IsL G φ H (ds.eraseIdx n) (xs.eraseIdx n)
  | [], xs, n, h => by cases (show xs = [] from h); exact rfl
  | _ :: _, xs, 0, h => by
    obtain ⟨x, r, rfl, p, q⟩ := h
    exact q
  | _ :: _, xs, n + 1, h => by
    obtain ⟨x, r, rfl, p, q⟩ := h
    exact ⟨x, _, rfl, p, IsL.eraseIdx n q⟩
noncomputable def mPopAt (o : D) (ds : List D) (S : Store) : ER := cellL S o fun l xs => match ds with
  | [.int i] => if w63 i then (match seqIndex? i xs.length with
    | some k => (match xs[k]? with
      | some d => .ok d (S.set l (.lst (xs.eraseIdx k)))
      | none => .bad)
    | none => .bad) else .bad
  | _ => .bad
theorem dm_popAt : DMeth G X "list.pop" mPopAt := by
  refine ⟨_, mt_popAt, fun W φ S H σ dx ds x xs Q s ix ids h => ?_⟩
  refine cellL_is s ix h fun l es a ys e1 e2 e3 ha hx q h1 => ?_
  subst e1 e3
  split at h1
  · obtain ⟨y, rfl, k⟩ := IsL.inv1 ids
    cases (show y = _ from k)
    split at h1
    · rename_i hw
      split at h1
      · rename_i j hj
        split at h1
        · rename_i d hd
          obtain ⟨z, hz, iz⟩ := q.get hd
          exact ⟨a, ys, _, j, z, rfl, rfl, hx, hw.1, hw.2, by rw [← q.length]; exact hj, hz, cell_put s ha (q.eraseIdx j) iz h1⟩
        · exact False.elim h1
      · exact False.elim h1
    · exact False.elim h1
  · exact False.elim h1
noncomputable def mInsert (o : D) (ds : List D) (S : Store) : ER := cellL S o fun l xs => match ds with
  | [.int i, d] => if sz (xs.length + 1) ∧ 0 ≤ i ∧ w63 i then .ok .non (S.set l (.lst (xs.take i.toNat ++ [d] ++ xs.drop i.toNat))) else .bad
  | _ => .bad
def mClear (o : D) (ds : List D) (S : Store) : ER := cellL S o fun l xs => match ds with
  | [] => .ok .non (S.set l (.lst []))
  | _ => .bad
/-- xs.index(y): nested data -/
noncomputable def mIndex (o : D) (ds : List D) (S : Store) : ER := match ds with
  | [d] => match o.pyO S, d.pyO S with
    | some (.list ps), some p => if SeqAt.shaped (.list ps) && SeqAt.shaped p then (match ps.findIdx? fun z => PyData.eqv z p with
      | some j => .ok (.int j) S
      | none => .bad) else .bad
    | _, _ => .bad
  | _ => .bad
theorem Dp.isRef {K : PySem.W.Frag} {H : Hp} {v : V} {ps : List PyData} (h : Dp K H v (.list ps)) : ∃ a, v = .ref a := by
  cases h with
  | lst hs ha => exact ⟨_, rfl⟩
theorem dm_index (hK : X.K = G.K) (hu : X.A.units + 65 < cLine) : DMeth G X "list.index" mIndex := by
  refine ⟨_, mt_indexD hu, fun W φ S H σ dx ds x xs Q s ix ids h => ?_⟩
  unfold mIndex at h
  split at h
  · obtain ⟨y, rfl, k⟩ := IsL.inv1 ids
    split at h
    · rename_i ps p e1 e2
      split at h
      · rename_i hs
        simp only [Bool.and_eq_true] at hs
        split at h
        · rename_i j hj
          have d1 := D.pyO_dp s ix e1
          obtain ⟨a, rfl⟩ := Dp.isRef d1
          have ⟨hl, hp, hm⟩ := List.findIdx?_eq_some_iff_getElem.mp hj
          refine ⟨a, y, p, ps, j, ps[j], rfl, rfl, by rw [hK]; exact d1, by rw [hK]; exact D.pyO_dp s k e2, hs.1, hs.2, List.getElem?_eq_getElem hl, hp, fun m z hmj hz => ?_, h.now s rfl⟩
          have hml : m < ps.length := by omega
          rw [List.getElem?_eq_getElem hml] at hz
          cases hz
          have := hm m hmj
          simpa using this
        · exact False.elim h
      · exact False.elim h
    · exact False.elim h
  · exact False.elim h
def mRemove (o : D) (ds : List D) (S : Store) : ER := cellL S o fun l xs => match ds with
  | [.int k] => match intsD xs with
    | some ns => if k ∈ ns then .ok .non (S.set l (.lst ((ns.erase k).map .int))) else .bad
    | none => .bad
  | _ => .bad
/-! ### sorted -/
/-- whole numbers in order -/
def sortI (ns : List Int) : List Int := ns.mergeSort fun a b => decide (a ≤ b)
def bSorted (ds : List D) (S : Store) : ER := match ds with
  | [d] => match (listD S d).bind intsD with
    | some ns => .ok (.lst ((sortI ns).map .int)) S
    | none => .bad
  | _ => .bad
/-! ### list(range(..)) -/
/-- a range by its bounds -/
def DR (G : Glb) (X : Cx) (W : WX) (e : Expr) (f : LM) : Prop :=
  ∃ t, PRg X e t ∧ ∀ σ H env φ S (Q : Int → Int → Hp → Prop), SOk G φ S H → RepE G φ H σ env → PostL G W φ H σ (f env S) (fun vs H' => ∀ i j, vs = [.int i, .int j] → Q i j H') → t σ H Q
noncomputable def rg1 (f : EM) : LM := fun env S => (f env S).bindL fun d S => match d with
  | .int n => if rOk n ∧ sz n.toNat then .ok [.int 0, .int n] S else .bad
  | _ => .bad
noncomputable def rg2D (d d2 : D) (S : Store) : LR := match d, d2 with
  | .int i, .int j => if rOk i ∧ rOk j ∧ sz (j - i).toNat then .ok [.int i, .int j] S else .bad
  | _, _ => .bad
noncomputable def rg2 (f g : EM) : LM := fun env S => (f env S).bindL fun d S => (g env S).bindL fun d2 S => rg2D d d2 S
theorem rOk2 {i j : Int} (h1 : rOk i) (h2 : rOk j) (h3 : sz (j - i).toNat) : RgOk i j := ⟨h1.lo, h1.hi, h2.lo, h2.hi, h3⟩
/-- small bounds, for certain -/
def rgOk (f : LM) : Prop := ∀ env S ds S', f env S = .ok ds S' → ∃ i j, ds = [.int i, .int j] ∧ rOk i ∧ rOk j ∧ sz (j - i).toNat
def eLRg (f : LM) : EM := fun env S => (f env S).bindE fun ds S => match ds with
  | [.int i, .int j] => .ok (.lst (rangeD i (j - i).toNat)) S
  | _ => .bad
def eLRgM (f : LM) : EM := fun env S => (f env S).bindE fun ds S => match ds with
  | [.int i, .int j] => .ok (.loc S.length) (S ++ [.lst (rangeD i (j - i).toNat)])
  | _ => .bad
def eTRg (f : LM) : EM := fun env S => (f env S).bindE fun ds S => match ds with
  | [.int i, .int j] => .ok (.tup (rangeD i (j - i).toNat)) S
  | _ => .bad
theorem PostL.rg {φ : Fi} {H : Hp} {σ : L2.St} {f : LM} {env : EnvD} {S : Store} (ok : rgOk f) {g : List D → Store → ER} {Q : VK} {Q' : List V → Hp → Prop} (h : PostE G W φ H σ ((f env S).bindE g) Q)
    (k : ∀ i j S1 φ1 H1, Ext φ H φ1 H1 → SOk G φ1 S1 H1 → RgOk i j → PostE G W φ1 H1 σ (g [.int i, .int j] S1) Q → Q' [.int i, .int j] H1) : PostL G W φ H σ (f env S) Q' := by
  cases hf : f env S with
  | ok ds S1 =>
    rw [hf] at h
    obtain ⟨i, j, rfl, h1, h2, h3⟩ := ok _ _ _ _ hf
    intro φ1 H1 vs e s il
    obtain ⟨x, y, rfl, k1, k2⟩ := IsL.inv2 il
    cases (show x = _ from k1); cases (show y = _ from k2)
    exact k i j S1 φ1 H1 e s (rOk2 h1 h2 h3) (PostE.ext e h)
  | ex x S1 => rw [hf] at h; exact h
  | bad => rw [hf] at h; exact h
/-! ### bits, xs * n -/
def opAnd (x y : D) (S : Store) : ER := opI (fun i j => .ok (.int (Builtin.bitAnd i j)) S) x y
def opOr (x y : D) (S : Store) : ER := opI (fun i j => .ok (.int (Builtin.bitOr i j)) S) x y
def opXor (x y : D) (S : Store) : ER := opI (fun i j => .ok (.int (Builtin.bitXor i j)) S) x y
def opShr (x y : D) (S : Store) : ER := opI (fun i j => if 0 ≤ j then .ok (.int (i / 2 ^ j.toNat)) S else .bad) x y
noncomputable def opShl (x y : D) (S : Store) : ER := opI (fun i j => if powOk i j then .ok (.int (i * 2 ^ j.toNat)) S else .bad) x y
/-- xs * n (a cell's list), tuple * n -/
noncomputable def opMulX (x y : D) (S : Store) : ER := match x, y with
  | .loc l, .int k => match S[l]? with
    | some (.lst ds) => if w63 k ∧ sz (ds.length * k.toNat) then .ok (.lst (List.replicate k.toNat ds).flatten) S else .bad
    | _ => .bad
  | x, y => opMul x y S
theorem IsL.rep {φ : Fi} {H : Hp} {ds : List D} {xs : List V} (q : IsL G φ H ds xs) : ∀ n, IsL G φ H (List.replicate n ds).flatten (List.replicate n xs).flatten
  | 0 => rfl
  | n + 1 => by
    rw [List.replicate_succ, List.replicate_succ, List.flatten_cons, List.flatten_cons]
    exact q.append (IsL.rep q n)
theorem do_mulX : DOp G X (binaryOp .Mult) opMulX := by
  obtain ⟨r, hr, q⟩ := do_mul (G := G) (X := X)
  refine ⟨_, op_rep.or hr, fun W φ S H σ dx dy x y Q s ix iy h => ?_⟩
  unfold opMulX at h
  split at h
  · rename_i l k
    obtain ⟨a, ha, rfl⟩ := ix
    cases (show y = _ from iy)
    split at h
    · rename_i ds hc
      obtain ⟨xs, hx, il⟩ := s.at_ hc ha
      split at h
      · rename_i hz
        exact .inl ⟨a, k, xs, rfl, rfl, hx, hz.1.1, hz.1.2, by rw [← il.length]; exact sizeLine_is hz.2, fun p hp => lst_new s (il.rep k.toNat) h hp⟩
      · exact bad_no h
    · exact bad_no h
  · exact .inr (q W φ S H σ dx dy x y Q s ix iy h)
/-! ### dicts as data -/
def keyD : D → Option Key
  | .int i => some (.inl i)
  | .str x => some (.inr x)
  | _ => none
def dKey : Key → D
  | .inl i => .int i
  | .inr x => .str x
def dicD (S : Store) : D → Option (List (Key × D))
  | .dic ks ds => some (ks.zip ds)
  | .loc l => match S[l]? with
    | some (.dic kvs) => some kvs
    | _ => none
  | _ => none
theorem keyD_is {φ : Fi} {H : Hp} {d : D} {v : V} {k : Key} (i : Is G φ H d v) (e : keyD d = some k) : v = kV k := by
  cases d with
  | int n => cases e; exact i
  | str x => cases e; exact i
  | _ => cases e
theorem is_dKey {φ : Fi} {H : Hp} (k : Key) : Is G φ H (dKey k) (kV k) := by cases k <;> rfl
/-- keys alike, values as data say -/
def KvIs (G : Glb) (φ : Fi) (H : Hp) (kds : List (Key × D)) (kvs : List (Key × V)) : Prop := kvs.map (·.1) = kds.map (·.1) ∧ IsL G φ H (kds.map (·.2)) (kvs.map (·.2))
theorem zip_fst {α β : Type} : ∀ {ks : List α} {ds : List β}, ks.length = ds.length → (ks.zip ds).map (·.1) = ks
  | [], _, _ => by simp
  | _ :: _, [], h => by simp at h
  | k :: ks, d :: ds, h => by simp [zip_fst (ks := ks) (ds := ds) (by simpa using h)]
theorem zip_snd {α β : Type} : ∀ {ks : List α} {ds : List β}, ks.length = ds.length → (ks.zip ds).map (·.2) = ds
  | [], [], _ => by simp
  | [], _ :: _, h => by simp at h
  | _ :: _, [], h => by simp at h
  | k :: ks, d :: ds, h => by simp [zip_snd (ks := ks) (ds := ds) (by simpa using h)]
theorem dicD_is {φ : Fi} {S : Store} {H : Hp} {d : D} {v : V} {kds : List (Key × D)} (s : SOk G φ S H) (i : Is G φ H d v) (e : dicD S d = some kds) : ∃ a kvs, v = .ref a ∧ Rd H a (.dK kvs) ∧ KvIs G φ H kds kvs := by
  cases d with
  | dic ks ds =>
    cases e
    obtain ⟨a, kvs, rfl, ⟨_, r⟩, z, q⟩ := i
    have hl : ks.length = ds.length := by rw [q.length, ← z]; simp
    exact ⟨a, kvs, rfl, r, by rw [zip_fst hl]; exact z, by rw [zip_snd hl]; exact q⟩
  | loc l =>
    obtain ⟨a, ha, rfl⟩ := i
    simp only [dicD] at e
    split at e
    · rename_i kvs hc
      cases e
      obtain ⟨ws, hw, z, q⟩ := s.at_ hc ha
      exact ⟨a, ws, rfl, .inl hw, z, q⟩
    · cases e
  | _ => cases e
/-- the value of a key -/
def valD (kds : List (Key × D)) (k : Key) : Option D := (kds.find? fun kv => decide (kv.1 = k)).map (·.2)
theorem val_is {φ : Fi} {H : Hp} : ∀ {kds : List (Key × D)} {kvs : List (Key × V)} (k : Key), KvIs G φ H kds kvs → (∀ d, valD kds k = some d → ∃ v, valV kvs k = some v ∧ Is G φ H d v) ∧ (valD kds k = none → valV kvs k = none)
  | [], kvs, k, h => by
    have : kvs = [] := by simpa using h.1
    subst this
    exact ⟨fun d e => (nomatch e), fun _ => rfl⟩
  | (k0, d0) :: kds, kvs, k, h => by
    obtain ⟨h1, h2⟩ := h
    cases kvs with
    | nil => simp at h1
    | cons p r =>
      obtain ⟨kp, vp⟩ := p
      simp only [List.map_cons, List.cons.injEq] at h1
      obtain ⟨e1, e2⟩ := h1
      subst e1
      obtain ⟨x, xs, e3, i1, i2⟩ := h2
      simp only [List.map_cons, List.cons.injEq] at e3
      obtain ⟨rfl, rfl⟩ := e3
      have ih := val_is k (show KvIs G φ H kds r from ⟨e2, i2⟩)
      by_cases hk : kp = k
      · subst hk
        refine ⟨fun d e => ⟨vp, valV_pos rfl, ?_⟩, fun e => ?_⟩
        · simp [valD] at e; subst e; exact i1
        · simp [valD] at e
      · have ed : valD ((kp, d0) :: kds) k = valD kds k := by simp [valD, hk]
        rw [ed, valV_neg (p := (kp, vp)) hk]
        exact ih
/-- y in d, d[y] as operators -/
def rInDc (neg : Bool) : R2 := fun y x H Q => ∃ a o, x = .ref a ∧ DGet H a y o ∧ Q (.bl (if neg then !o.isSome else o.isSome)) H
theorem op_inDc (hu : X.A.units + 1 < cLine) : OpR X (compareOp .In) (rInDc false) := by
  intro pins s σ H y x u v Q I ry rx h
  obtain ⟨a, o, rfl, g, q⟩ := h
  cases rx
  exact d_in hu I g ry fun s3 I3 => ⟨.bl o.isSome, H, I3, rfl, q⟩
theorem op_ninDc (hu : X.A.units + 1 < cLine) : OpR X (compareOp .NotIn) (rInDc true) := by
  intro pins s σ H y x u v Q I ry rx h
  obtain ⟨a, o, rfl, g, q⟩ := h
  cases rx
  exact d_notIn hu I g ry fun s3 I3 => ⟨.bl (!o.isSome), H, I3, rfl, q⟩
def flatD : D → Bool
  | .non => true
  | .bl _ => true
  | .int _ => true
  | .str _ => true
  | _ => false
def eqF : D → D → Bool
  | .non, .non => true
  | .bl a, .bl b => a == b
  | .bl a, .int b => (if a then 1 else 0) == b
  | .int a, .bl b => a == (if b then 1 else 0)
  | .int a, .int b => a == b
  | .str a, .str b => a == b
  | _, _ => false
theorem flat_is {φ : Fi} {H : Hp} {d : D} {v : V} (i : Is G φ H d v) (h : flatD d = true) : flatV v = true := by
  cases d <;> first | (cases h; done) | (cases (show v = _ from i); rfl)
theorem eqF_is {φ : Fi} {H : Hp} {d e : D} {v u : V} (i : Is G φ H d v) (j : Is G φ H e u) (h : flatD d = true) (h2 : flatD e = true) : eqV v u = eqF d e := by
  cases d <;> first | (cases h; done) | (cases (show v = _ from i); cases e <;> first | (cases h2; done) | (cases (show u = _ from j); rfl))
theorem flats_is {φ : Fi} {H : Hp} : ∀ {ds : List D} {vs : List V}, IsL G φ H ds vs → ds.all flatD = true → vs.all flatV = true
  | [], vs, i, _ => by cases (show vs = [] from i); rfl
  | d :: ds, vs, i, h => by
    obtain ⟨x, r, rfl, p, q⟩ := i
    simp only [List.all_cons, Bool.and_eq_true] at h ⊢
    exact ⟨flat_is p h.1, flats_is q h.2⟩
theorem inF_is {φ : Fi} {H : Hp} {x : D} {v : V} (j : Is G φ H x v) (hx : flatD x = true) : ∀ {ds : List D} {vs : List V}, IsL G φ H ds vs → ds.all flatD = true → inV v vs = ds.any fun y => eqF y x
  | [], vs, i, _ => by cases (show vs = [] from i); rfl
  | d :: ds, vs, i, h => by
    obtain ⟨u, r, rfl, p, q⟩ := i
    simp only [List.all_cons, Bool.and_eq_true] at h
    have ih := inF_is j hx q h.2
    unfold inV at ih ⊢
    rw [List.any_cons, List.any_cons, ih, eqF_is p j h.1 hx]
/-- x in y: a sign in a text, a flat item in a list or tuple, an item in a list, a key in a dict -/
def opInB (neg : Bool) (x y : D) (S : Store) : ER := match y with
  | .str z => match x with
    | .str w => match w.cps.toList with
      | [c] => .ok (.bl (if neg then !decide (c ∈ z.cps.toList) else decide (c ∈ z.cps.toList))) S
      | _ => .bad
    | _ => .bad
  | y => match dicD S y with
    | some kds => match keyD x with
      | some k => .ok (.bl (if neg then !(valD kds k).isSome else (valD kds k).isSome)) S
      | none => .bad
    | none => match seqD S y with
      | some ds => if flatD x && ds.all flatD then .ok (.bl (if neg then !(ds.any fun y => eqF y x) else ds.any fun y => eqF y x)) S
        else match x.pyO S, y.pyO S with
          | some p, some (.list ps) => if SeqAt.shaped p && SeqAt.shaped (.list ps) then .ok (.bl (if neg then !(ps.any fun z => PyData.eqv z p) else ps.any fun z => PyData.eqv z p)) S else .bad
          | _, _ => .bad
      | none => .bad
def opIn := opInB false
def opNotIn := opInB true
theorem str1 {w : Str} {c : Nat} (h : w.cps.toList = [c]) : w = ⟨#[c]⟩ := by
  obtain ⟨a⟩ := w
  have : a = #[c] := by apply Array.ext'; simpa using h
  rw [this]
theorem in_is {neg : Bool} {φ : Fi} {S : Store} {H : Hp} {σ : L2.St} {dx dy : D} {x y : V} {Q : VK} (hK : X.K = G.K) (s : SOk G φ S H) (ix : Is G φ H dx x) (iy : Is G φ H dy y) (h : PostE G W φ H σ (opInB neg dx dy S) Q) :
    (∃ (c : Nat) (z : Str), x = .str ⟨#[c]⟩ ∧ y = .str z ∧ Q (.bl (if neg then !decide (c ∈ z.cps.toList) else decide (c ∈ z.cps.toList))) H) ∨ rInDc neg x y H Q ∨ rIn X.K neg x y H Q ∨
    (∃ d ds, Dp X.K H x d ∧ Dp X.K H y (.list ds) ∧ SeqAt.shaped d = true ∧ SeqAt.shaped (.list ds) = true ∧ Q (.bl (if neg then !(ds.any fun z => PyData.eqv z d) else ds.any fun z => PyData.eqv z d)) H) := by
  unfold opInB at h
  split at h
  · cases (show y = _ from iy)
    split at h
    · cases (show x = _ from ix)
      split at h
      · rename_i c hc
        rw [str1 hc]
        exact .inl ⟨_, _, rfl, rfl, h.now s rfl⟩
      · exact bad_no h
    · exact bad_no h
  · split at h
    · rename_i kds e
      split at h
      · rename_i k ek
        obtain ⟨a, kvs, rfl, r, q⟩ := dicD_is s iy e
        refine .inr (.inl ⟨a, _, rfl, .inl ⟨kvs, k, r, keyD_is ix ek, rfl⟩, ?_⟩)
        have e2 : (valV kvs k).isSome = (valD kds k).isSome := by
          have := val_is k q
          cases hd : valD kds k with
          | none => rw [this.2 hd]; rfl
          | some d => obtain ⟨v, hv, _⟩ := this.1 d hd; rw [hv]; rfl
        rw [e2]
        exact h.now s rfl
      · exact bad_no h
    · split at h
      · rename_i ds e
        obtain ⟨a, xs, rfl, r, q⟩ := seqD_sq s iy e
        split at h
        · rename_i hf
          simp only [Bool.and_eq_true] at hf
          refine .inr (.inr (.inl ⟨a, xs, rfl, by rw [hK]; exact r, flat_is ix hf.1, flats_is q hf.2, ?_⟩))
          rw [inF_is ix hf.1 q hf.2]
          exact h.now s rfl
        · split at h
          · rename_i p ps e1 e2
            split at h
            · rename_i hs
              simp only [Bool.and_eq_true] at hs
              exact .inr (.inr (.inr ⟨p, ps, by rw [hK]; exact D.pyO_dp s ix e1, by rw [hK]; exact D.pyO_dp s iy e2, hs.1, hs.2, h.now s rfl⟩))
            · exact bad_no h
          · exact bad_no h
      · exact bad_no h
theorem do_in (hK : X.K = G.K) (hu : X.A.units + 65 < cLine) : DOp G X (compareOp .In) opIn := by
  refine ⟨_, op_in_sign.or ((op_inDc (by omega)).or (op_in_seq.or (op_inD hu))), fun W φ S H σ dx dy x y Q s ix iy h => ?_⟩
  have := in_is hK s ix iy h
  simp only [Bool.false_eq_true, if_false] at this
  exact this
theorem do_notIn (hK : X.K = G.K) (hu : X.A.units + 65 < cLine) : DOp G X (compareOp .NotIn) opNotIn := by
  refine ⟨_, op_notIn_sign.or ((op_ninDc (by omega)).or (op_notIn_seq.or (op_notInD hu))), fun W φ S H σ dx dy x y Q s ix iy h => ?_⟩
  have := in_is hK s ix iy h
  simp only [if_true] at this
  exact this
end
end DL
end
section
/-! sets of keys: how many unlike items a list or tuple has -/
namespace DL
open PySem L2 PySem.Spec PyProof.Rows
open Classical in
/-- how many unlike ones -/
noncomputable def dcntR : List Key → Nat
  | [] => 0
  | k :: r => if k ∈ r then dcntR r else dcntR r + 1
noncomputable def dcnt (ks : List Key) : Nat := dcntR ks.reverse
open Classical in
/-- is it among them -/
noncomputable def memK (ks : List Key) (k : Key) : Bool := decide (k ∈ ks)
theorem memK_iff {ks : List Key} {k : Key} : memK ks k = true ↔ k ∈ ks := by unfold memK; simp
theorem dcnt_snoc (l : List Key) (k : Key) : dcnt (l ++ [k]) = if memK l k = true then dcnt l else dcnt l + 1 := by
  unfold dcnt
  rw [List.reverse_append]
  show dcntR (k :: l.reverse) = _
  rw [dcntR]
  by_cases h : k ∈ l
  · rw [if_pos (by simpa using h), if_pos (memK_iff.mpr h)]
  · rw [if_neg (by simpa using h), if_neg (fun z => h (memK_iff.mp z))]
theorem dcntR_le : ∀ (l : List Key), dcntR l ≤ l.length
  | [] => Nat.le_refl _
  | k :: r => by
    have := dcntR_le r
    unfold dcntR
    simp only [List.length_cons]
    split <;> omega
theorem dcnt_le (l : List Key) : dcnt l ≤ l.length := by have := dcntR_le l.reverse; simpa [dcnt] using this
theorem dcntR_eq : ∀ (l : List Key), dcntR l = l.length ↔ l.Nodup
  | [] => by simp [dcntR]
  | k :: r => by
    have h1 := dcntR_le r
    have ih := dcntR_eq r
    unfold dcntR
    rw [List.nodup_cons]
    simp only [List.length_cons]
    split
    · rename_i h
      exact ⟨fun e => by omega, fun e => absurd h e.1⟩
    · rename_i h
      exact ⟨fun e => ⟨h, ih.mp (by omega)⟩, fun e => by rw [ih.mpr e.2]⟩
theorem dcnt_eq (l : List Key) : dcnt l = l.length ↔ l.Nodup := by
  have := dcntR_eq l.reverse
  rw [List.length_reverse, (List.reverse_perm l).nodup_iff] at this
  exact this
theorem memK_nil (k : Key) : memK [] k = false := by
  cases h : memK [] k with
  | false => rfl
  | true => have := memK_iff.mp h; simp at this
theorem SetOf_re {P : Program} {w : World} {h : Heap} {a : Addr} {S S' : Key → Bool} {n n' : Nat} (R : h.SetOf (mixKind P w) a S n) (e : ∀ k, S k = S' k) (e2 : n = n') : h.SetOf (mixKind P w) a S' n' := by
  have : S = S' := funext e
  rw [← this, ← e2]; exact R
/-- each item a key -/
def KeysAre (P : Program) (w : World) (us : List Value) (ks : List Key) : Prop := us.length = ks.length ∧ ∀ (i : Nat) (u : Value), us[i]? = some u → ∃ k, ks[i]? = some k ∧ (mixKind P w).is k u = true ∧ u.scannable = true
section
variable {prog : Program} {w : World} {A : Around} {R : Result → Shared → Prop} {I : Addr} {fp wr : List Addr} {G : Array GenState → Array GenState → Prop} {n : Nat} {P : Nat → Value → Prop} {St : Nat → Shared → Prop}
theorem set_turns (W : WalksS prog w A.in1 I fp wr G n P St) (S : Addr) (off : S ∉ fp) (ks : List Key) (hk : ks.length = n) (small : n + 1 < scanBound)
    (each : ∀ i v, P i v → ∃ k, ks[i]? = some k ∧ (mixKind prog w).is k v = true ∧ v.scannable = true) :
    ∀ (m i : Nat) (s : Shared), n - i = m → i ≤ n → St i s → s.heap.SetOf (mixKind prog w) S (memK (ks.take i)) (dcnt (ks.take i)) →
      (∀ s', Moved (S :: wr) G s s' → s'.heap.SetOf (mixKind prog w) S (memK ks) (dcnt ks) → R (.ok (.ret .none)) s') →
      codeAny (model prog w) A (.builtin "set.update.loop" ⟨[.ref S, .ref I], []⟩) R s := by
  have away : S ∉ wr := fun z => off (W.sub _ z)
  have more : ∀ b ∈ wr, b ∈ S :: wr := fun b z => List.mem_cons_of_mem _ z
  intro m
  induction m with
  | zero =>
    intro i s hm hi hst hS fin
    obtain rfl : i = n := by omega
    refine codeAny_builtin PyProof.Rows.F.entry_set_update_loop ?_
    rw [Around.under_plainId PyProof.Rows.F.plain_set_update_loop _]
    show wpAny _ A.in1 (pyNext (.ref I) >>= _) _ _ s
    refine wpAny_bind (W.done s _ _ hst fun s' mv => ?_)
    show wpAny _ A.in1 (ret Value.none) _ _ s'
    refine wpAny_pure (fin s' (mv.mono more) ?_)
    obtain ⟨o, es, ep, t, ho, r⟩ := hS
    have R0 : s'.heap.SetOf (mixKind prog w) S (memK (ks.take i)) (dcnt (ks.take i)) := ⟨o, es, ep, t, mv.heap S _ away ho, r⟩
    rwa [List.take_of_length_le (by omega)] at R0
  | succ m ih =>
    intro i s hm hi hst hS fin
    have lt : i < n := by omega
    refine codeAny_builtin PyProof.Rows.F.entry_set_update_loop ?_
    rw [Around.under_plainId PyProof.Rows.F.plain_set_update_loop _]
    show wpAny _ A.in1 (pyNext (.ref I) >>= _) _ _ s
    refine wpAny_bind (W.item i s _ _ lt hst fun v s' hP hst' mv => ?_)
    obtain ⟨k, e1, e2, e3⟩ := each i v hP
    have hS' : s'.heap.SetOf (mixKind prog w) S (memK (ks.take i)) (dcnt (ks.take i)) := by
      obtain ⟨o, es, ep, t, ho, r⟩ := hS
      exact ⟨o, es, ep, t, mv.heap S _ away ho, r⟩
    show wpAny _ A.in1 (holding [v] (setAdd S v) >>= _) _ _ s'
    refine wpAny_bind (wpAny_holding ?_)
    unfold setAdd
    refine wpAny_holding ?_
    refine wpAny_bind ((mixKind prog w).pyHash (k := k) e2 ?_)
    have room : dcnt (ks.take i) + 1 < scanBound := by
      have h1 := dcnt_le (ks.take i)
      rw [List.length_take] at h1
      omega
    refine wpAny_setAddHashed_of (knd := mixKind prog w) (s := { s' with toks := s'.toks + 1 }) e2 e3 hS' room fun h' sb new => ?_
    have tk : ks.take (i + 1) = ks.take i ++ [k] := by rw [List.take_add_one, e1]; rfl
    have next : h'.SetOf (mixKind prog w) S (memK (ks.take (i + 1))) (dcnt (ks.take (i + 1))) := by
      refine SetOf_re new (fun j => ?_) ?_
      · rw [tk, Bool.eq_iff_iff, memK_iff]; simp [memK_iff]
      · rw [tk, dcnt_snoc]
    refine wpAny_pure ⟨plainId_quiet PyProof.Rows.F.plain_set_update_loop _, ih (i + 1) _ (by omega) lt (W.frame _ s' _ _ hst' (Nat.le_succ _) fun b hb o e => ?_) next fun s2 mv2 last => ?_⟩
    · rw [sb.2 b (fun z : b = S => off (by rw [← z]; exact hb))]; exact e
    · refine fin s2 (Moved.trans W.gtrans ((mv.mono more).then_heap (Nat.le_succ _) fun b o hb e => ?_) mv2) last
      rw [sb.2 b (fun z : b = S => hb (by rw [z]; exact List.mem_cons_self))]; exact e
end
section
variable {prog : Program} {w : World} {A : Around} {E : Value → Shared → Prop} {s : Shared}
/-- the new, empty set -/
abbrev set0 (led : Bool) : Obj := { cls := .type "set", dict := none, data := .set #[] 0 (.fresh 0 0 led) }
/-- what the set's start leaves -/
def SetMade (prog : Program) (w : World) (s : Shared) (ks : List Key) (h' : Heap) : Prop := h'.SetOf (mixKind prog w) s.heap.objs.size (memK ks) (dcnt ks) ∧ ∀ b o, b < s.heap.objs.size → s.heap.get? b = some o → h'.get? b = some o
theorem set_of_list {l : Addr} {xs : Array Value} {ks : List Key} {Q : Value → Shared → Prop} (free : A.handled = none) (hl : s.heap.IsList l xs) (each : KeysAre prog w xs.toList ks) (small : ks.length + 1 < scanBound)
    (fin : ∀ (h' : Heap) (tk : Nat), SetMade prog w s ks h' → Q (.ref s.heap.objs.size) { s with heap := h', toks := tk }) : wpAny (model prog w) A (call (.type "set") [.ref l]) Q E s := by
  obtain ⟨cl, more, order⟩ := PySem.F.called_set.mro
  have z1 := PySem.F.called_set.made
  have z2 := PySem.F.called_set.sub
  have z3 := PySem.F.called_set.notType
  have z4 := PySem.F.called_set.canCreate
  have z5 := PySem.F.typeCall_set_1 (.ref l)
  refine wpAny_call (codeAny_of_tree ?_)
  show wpAny _ _ (callAny (.type "set") _) _ _ _
  refine wpAny_pure ⟨Code.quiet_builtin _ (by decide +kernel), codeAny_builtin PySem.F.entry_type_call ?_⟩
  rw [Around.under_plain (weight_type_call_type "set" [.ref l] []) rfl]
  repeat (any_goals (first | assumption | wp_step))
  refine codeAny_mono (code_set_new_1 (.ref l) (E := E) (Q₁ := fun a s1 => ∃ led : Bool, a = .ref s.heap.objs.size ∧ s1 = { s with heap := s.heap.push (set0 led) }) fun led => ⟨led, rfl, rfl⟩) fun r s1 hr => ?_
  cases r with
  | error e => exact hr
  | ok fl =>
    cases fl with
    | ret a =>
      obtain ⟨led, rfl, rfl⟩ := hr
      have at0 : (s.heap.push (set0 led)).get? s.heap.objs.size = some (set0 led) := Heap.get?_push_size _ rfl
      have ty0 : Shared.TypeIs { s with heap := s.heap.push (set0 led) } (.ref s.heap.objs.size) "set" := ⟨_, at0, rfl⟩
      have z6 := PySem.F.called_set.init.lookup
      have z7 := PySem.F.called_set.init.bind (.ref s.heap.objs.size)
      repeat (any_goals (first | assumption | wp_step))
      refine codeAny_mono (codeAny_call_builtin (R := wants (fun r s2 => r = .none ∧ ∃ h' tk, s2 = { s with heap := h', toks := tk } ∧ SetMade prog w s ks h') E) PySem.F.called_set.init.plain PySem.F.entry_set_init (check_set_init_1 ty0 ?_)) fun r2 s2 hr2 => ?_
      · obtain ⟨⟨k1, k2, k3, k4⟩, hol, k5, nl, k6⟩ := hl
        simp only at k5 k6
        subst k5; subst k6
        have at1 : (s.heap.push (set0 led)).get? l = some { cls := .type "list", dict := k2, data := .seq xs nl, slots := k4 } := Heap.get?_push_of_some _ hol
        have z8 := PySem.F.sub_list_set
        have z9 := PySem.F.sub_list_frozenset
        have z10 : (Value.type "list" == Value.type "dict") = false := by decide
        have is1 : (s.heap.push (set0 led)).IsList l xs := ⟨_, at1, rfl, nl, rfl⟩
        unfold Builtin.«set.__init__» noKeywords Builtin.Frozenset.updateFrom
        generalize hPI : pyIter = PI
        wp_walk
        subst hPI
        refine wpAny_pyIter_list is1 ?_
        refine wpAny_bind (wpAny_runValue ?_)
        have under : l < s.heap.objs.size := Heap.lt_size hol
        have free3 : A.in1.in1.in1.handled = none := by simp [free]
        have apart : l ≠ (s.heap.push (set0 led)).objs.size := by rw [Heap.size_push]; exact Nat.ne_of_lt (Nat.lt_succ_of_lt under)
        have off : s.heap.objs.size ∉ [(s.heap.push (set0 led)).objs.size, l] := by
          rw [Heap.size_push]
          simp only [List.mem_cons, List.mem_singleton, List.not_mem_nil, or_false, not_or]
          exact ⟨Nat.ne_of_lt (Nat.lt_succ_self _), Nat.ne_of_gt under⟩
        have len : ks.length = xs.size := by rw [← each.1, Array.length_toList]
        refine set_turns ((Walks.list free3 _ l apart xs).toS) s.heap.objs.size off ks len (by rw [← len]; exact small)
          (fun i v hv => each.2 i v (by rw [Array.getElem?_toList]; exact hv)) (xs.size - 0) 0 _ (by omega) (Nat.zero_le _) ⟨⟨_, Heap.get?_push_size _ rfl, rfl, rfl⟩, (is1.push _)⟩ ?begin ?last
        case begin =>
          have at2 : ((s.heap.push (set0 led)).push { cls := .type "list_iterator", data := .fields #[.ref l, .int 0 0] }).get? s.heap.objs.size = some (set0 led) := Heap.get?_push_of_some _ at0
          have empty : ((s.heap.push (set0 led)).push { cls := .type "list_iterator", data := .fields #[.ref l, .int 0 0] }).SetOf (mixKind prog w) s.heap.objs.size (fun _ => false) 0 :=
            ⟨_, #[], 0, _, at2, ⟨rfl, rfl, rfl⟩, rfl, (fun e z => by simp at z), (fun k => by simp), (by decide), rfl, rfl⟩
          exact SetOf_re empty (fun k => (memK_nil k).symm) rfl
        case last =>
          intro s2 mv made
          obtain ⟨h2, g2, d2, tk2, os2⟩ := s2
          have e1 : g2 = s.gens := mv.gens
          have e2 : d2 = s.drawn := mv.drawn
          have e3 : os2 = s.os := mv.os
          subst e1; subst e2; subst e3
          show wpAny _ _ _ _ _ _
          refine wpAny_pure ?_
          show wpAny _ _ (ret Value.none) _ _ _
          refine wpAny_pure ⟨rfl, h2, tk2, rfl, made, fun b o hb e => ?_⟩
          refine mv.heap b o ?_ (Heap.get?_push_of_some _ (Heap.get?_push_of_some _ e))
          rw [Heap.size_push]
          simp only [List.mem_cons, List.mem_singleton, List.not_mem_nil, or_false, not_or]
          exact ⟨Nat.ne_of_lt hb, Nat.ne_of_lt (Nat.lt_succ_of_lt hb)⟩
      · cases r2 with
        | error e => exact hr2
        | ok fl2 =>
          cases fl2 with
          | ret r =>
            obtain ⟨rfl, h', tk, rfl, made⟩ := hr2
            repeat (any_goals (first | assumption | wp_step))
            exact fin _ _ made
          | _ => exact hr2.elim
    | _ => exact hr.elim
theorem set_of_tuple {l : Addr} {xs : Array Value} {ks : List Key} {Q : Value → Shared → Prop} (free : A.handled = none) (hl : s.heap.IsTuple l xs) (each : KeysAre prog w xs.toList ks) (small : ks.length + 1 < scanBound)
    (fin : ∀ (h' : Heap) (tk : Nat), SetMade prog w s ks h' → Q (.ref s.heap.objs.size) { s with heap := h', toks := tk }) : wpAny (model prog w) A (call (.type "set") [.ref l]) Q E s := by
  obtain ⟨cl, more, order⟩ := PySem.F.called_set.mro
  have z1 := PySem.F.called_set.made
  have z2 := PySem.F.called_set.sub
  have z3 := PySem.F.called_set.notType
  have z4 := PySem.F.called_set.canCreate
  have z5 := PySem.F.typeCall_set_1 (.ref l)
  refine wpAny_call (codeAny_of_tree ?_)
  show wpAny _ _ (callAny (.type "set") _) _ _ _
  refine wpAny_pure ⟨Code.quiet_builtin _ (by decide +kernel), codeAny_builtin PySem.F.entry_type_call ?_⟩
  rw [Around.under_plain (weight_type_call_type "set" [.ref l] []) rfl]
  repeat (any_goals (first | assumption | wp_step))
  refine codeAny_mono (code_set_new_1 (.ref l) (E := E) (Q₁ := fun a s1 => ∃ led : Bool, a = .ref s.heap.objs.size ∧ s1 = { s with heap := s.heap.push (set0 led) }) fun led => ⟨led, rfl, rfl⟩) fun r s1 hr => ?_
  cases r with
  | error e => exact hr
  | ok fl =>
    cases fl with
    | ret a =>
      obtain ⟨led, rfl, rfl⟩ := hr
      have at0 : (s.heap.push (set0 led)).get? s.heap.objs.size = some (set0 led) := Heap.get?_push_size _ rfl
      have ty0 : Shared.TypeIs { s with heap := s.heap.push (set0 led) } (.ref s.heap.objs.size) "set" := ⟨_, at0, rfl⟩
      have z6 := PySem.F.called_set.init.lookup
      have z7 := PySem.F.called_set.init.bind (.ref s.heap.objs.size)
      repeat (any_goals (first | assumption | wp_step))
      refine codeAny_mono (codeAny_call_builtin (R := wants (fun r s2 => r = .none ∧ ∃ h' tk, s2 = { s with heap := h', toks := tk } ∧ SetMade prog w s ks h') E) PySem.F.called_set.init.plain PySem.F.entry_set_init (check_set_init_1 ty0 ?_)) fun r2 s2 hr2 => ?_
      · obtain ⟨⟨k1, k2, k3, k4⟩, hol, k5, nl, k6⟩ := hl
        simp only at k5 k6
        subst k5; subst k6
        have at1 : (s.heap.push (set0 led)).get? l = some { cls := .type "tuple", dict := k2, data := .seq xs nl, slots := k4 } := Heap.get?_push_of_some _ hol
        have z8 := PySem.F.sub_tuple_set
        have z9 := PySem.F.sub_tuple_frozenset
        have z10 : (Value.type "tuple" == Value.type "dict") = false := by decide
        have is1 : (s.heap.push (set0 led)).IsTuple l xs := ⟨_, at1, rfl, nl, rfl⟩
        unfold Builtin.«set.__init__» noKeywords Builtin.Frozenset.updateFrom
        generalize hPI : pyIter = PI
        wp_walk
        subst hPI
        refine wpAny_pyIter_tuple is1 ?_
        refine wpAny_bind (wpAny_runValue ?_)
        have under : l < s.heap.objs.size := Heap.lt_size hol
        have free3 : A.in1.in1.in1.handled = none := by simp [free]
        have apart : l ≠ (s.heap.push (set0 led)).objs.size := by rw [Heap.size_push]; exact Nat.ne_of_lt (Nat.lt_succ_of_lt under)
        have off : s.heap.objs.size ∉ [(s.heap.push (set0 led)).objs.size, l] := by
          rw [Heap.size_push]
          simp only [List.mem_cons, List.mem_singleton, List.not_mem_nil, or_false, not_or]
          exact ⟨Nat.ne_of_lt (Nat.lt_succ_self _), Nat.ne_of_gt under⟩
        have len : ks.length = xs.size := by rw [← each.1, Array.length_toList]
        refine set_turns ((Walks.tuple free3 _ l apart xs).toS) s.heap.objs.size off ks len (by rw [← len]; exact small)
          (fun i v hv => each.2 i v (by rw [Array.getElem?_toList]; exact hv)) (xs.size - 0) 0 _ (by omega) (Nat.zero_le _) ⟨⟨_, Heap.get?_push_size _ rfl, rfl, rfl⟩, (is1.push _)⟩ ?begin ?last
        case begin =>
          have at2 : ((s.heap.push (set0 led)).push { cls := .type "tuple_iterator", data := .fields #[.ref l, .int 0 0] }).get? s.heap.objs.size = some (set0 led) := Heap.get?_push_of_some _ at0
          have empty : ((s.heap.push (set0 led)).push { cls := .type "tuple_iterator", data := .fields #[.ref l, .int 0 0] }).SetOf (mixKind prog w) s.heap.objs.size (fun _ => false) 0 :=
            ⟨_, #[], 0, _, at2, ⟨rfl, rfl, rfl⟩, rfl, (fun e z => by simp at z), (fun k => by simp), (by decide), rfl, rfl⟩
          exact SetOf_re empty (fun k => (memK_nil k).symm) rfl
        case last =>
          intro s2 mv made
          obtain ⟨h2, g2, d2, tk2, os2⟩ := s2
          have e1 : g2 = s.gens := mv.gens
          have e2 : d2 = s.drawn := mv.drawn
          have e3 : os2 = s.os := mv.os
          subst e1; subst e2; subst e3
          show wpAny _ _ _ _ _ _
          refine wpAny_pure ?_
          show wpAny _ _ (ret Value.none) _ _ _
          refine wpAny_pure ⟨rfl, h2, tk2, rfl, made, fun b o hb e => ?_⟩
          refine mv.heap b o ?_ (Heap.get?_push_of_some _ (Heap.get?_push_of_some _ e))
          rw [Heap.size_push]
          simp only [List.mem_cons, List.mem_singleton, List.not_mem_nil, or_false, not_or]
          exact ⟨Nat.ne_of_lt hb, Nat.ne_of_lt (Nat.lt_succ_of_lt hb)⟩
      · cases r2 with
        | error e => exact hr2
        | ok fl2 =>
          cases fl2 with
          | ret r =>
            obtain ⟨rfl, h', tk, rfl, made⟩ := hr2
            repeat (any_goals (first | assumption | wp_step))
            exact fin _ _ made
          | _ => exact hr2.elim
    | _ => exact hr.elim
end
end DL
end
section
/-! set comprehensions of keys -/
namespace DL
open PySem L2 PySem.Spec PyProof.Rows PpSet
section
variable {X : Cx}
end
end DL
end
section
/-! xs[::-1] of a list or a tuple -/
namespace DL
open PySem L2 PySem.Spec PyProof.Rows HT
section
variable {prog : Program} {w : World} {A : Around} {E : Value → Shared → Prop} {s : Shared}
theorem back_adjust (n : Nat) : Builtin.Slice.sliceAdjust none none (-1) (n : Int) = ((n : Int) - 1, -1) := by
  unfold Builtin.Slice.sliceAdjust
  simp
theorem back_places (n : Nat) : Builtin.Slice.slicePlaces ((n : Int) - 1) (-1) (-1) = n := by
  unfold Builtin.Slice.slicePlaces
  have h1 : ¬ ((-1 : Int) > 0) := by omega
  rw [if_neg h1, show (-(-1) : Int) = 1 by omega, Int.ediv_one]
  split <;> omega
theorem back_pick (xs : Array Value) : ((List.range xs.size).filterMap fun (m : Nat) => xs[(((xs.size : Nat) : Int) - 1 + (m : Int) * (-1)).toNat]?).toArray = xs.toList.reverse.toArray := by
  have e : ∀ m : Nat, (((xs.size : Nat) : Int) - 1 + (m : Int) * (-1)).toNat = xs.size - 1 - m := fun m => by omega
  have h : (List.range xs.size).filterMap (fun (m : Nat) => xs[(((xs.size : Nat) : Int) - 1 + (m : Int) * (-1)).toNat]?) = xs.toList.reverse := by
    have e2 : (List.range xs.size).filterMap (fun (m : Nat) => xs[(((xs.size : Nat) : Int) - 1 + (m : Int) * (-1)).toNat]?) = ((List.range xs.size).map fun k => xs.size - 1 - k).filterMap (xs[·]?) := by
      rw [List.filterMap_map]
      have e3 : (fun (m : Nat) => xs[(((xs.size : Nat) : Int) - 1 + (m : Int) * (-1)).toNat]?) = ((xs[·]?) ∘ fun k => xs.size - 1 - k) := funext fun m => by rw [e m]; rfl
      rw [e3]
    rw [e2, PySem.W.krv_range, List.filterMap_reverse, PySem.W.krv_all]
  rw [h]
theorem back_applied {sl : Addr} {vl vu vs : Value} {n : Nat} {Q : Int × Int × Nat → Shared → Prop} (hs : s.heap.IsSliceOf sl vl vu vs) (pl : IsPart vl none) (pu : IsPart vu none) (ps : IsPart vs (some (-1))) (h : Q ((n : Int) - 1, -1, n) s) :
    wpAny (model prog w) A (Builtin.Slice.sliceApplied (.ref sl) (pure (n : Int))) Q E s := by
  obtain ⟨os, hos, hcs, hds⟩ := id hs
  unfold Builtin.Slice.sliceApplied Builtin.Slice.sliceFields
  refine wpAny_bind (wpAny_bind (wpAny_field hos hds (x := vl) rfl (wpAny_bind (wpAny_field hos hds (x := vu) rfl (wpAny_bind (wpAny_field hos hds (x := vs) rfl (wpAny_pure ?_)))))))
  refine wpAny_bind (slicePart_ ps ?_)
  show wpAny _ _ (if ((-1 : Int) == 0) = true then _ else _) _ _ s
  rw [if_neg (by decide)]
  refine wpAny_bind (slicePart_ pl (wpAny_bind (slicePart_ pu (wpAny_bind (wpAny_pure ?_)))))
  show wpAny _ _ (match Builtin.Slice.sliceAdjust none none (-1) (n : Int) with | (lo, hi) => pure (lo, (-1 : Int), Builtin.Slice.slicePlaces lo hi (-1))) _ _ s
  rw [back_adjust]
  show wpAny _ _ (pure ((n : Int) - 1, (-1 : Int), Builtin.Slice.slicePlaces ((n : Int) - 1) (-1) (-1))) _ _ s
  rw [back_places]
  exact wpAny_pure h
theorem back_tuple {t sl : Addr} {xs : Array Value} {vl vu vs : Value} {Q : Value → Shared → Prop} (ht : IsTup s.heap t xs) (hs : s.heap.IsSliceOf sl vl vu vs) (pl : IsPart vl none) (pu : IsPart vu none) (ps : IsPart vs (some (-1)))
    (h : Q (.ref s.heap.objs.size) { s with heap := s.heap.push { cls := .type "tuple", data := .seq xs.toList.reverse.toArray } }) (hz : xs.size ≤ sizeLine) : wpAny (model prog w) A (getItem (.ref t) (.ref sl)) Q E s := by
  have room : sizeOk (.seq xs.toList.reverse.toArray) := by
    show xs.toList.reverse.toArray.size ≤ sizeLine
    rw [List.size_toArray, List.length_reverse, Array.length_toList]
    exact hz
  obtain ⟨os, hos, hcs, hds⟩ := id hs
  have ty : s.TypeIs (.ref sl) "slice" := ⟨os, hos, hcs⟩
  unfold getItem
  try with_reducible refine wpAny_holding ?_
  first | refine wpAny_bind (wpAny_pure ?_) | skip
  refine wpAny_bind (wpAny_sequenceKey ht.typeIs (by decide) (wpAny_bind (wpAny_callSpecial?_slot (name := Str.ofString "__getitem__") ht.typeIs PyProof.Rows.slot_tuple_getitem (wpAny_call_entry PyProof.Rows.slot_tuple_getitem ht.typeIs entry_tuple_getitem ?_ (args_tuple_getitem _ _)))))
  show wpAny _ _ (Builtin.Tuple.tupleItemsOf (.ref t) >>= _) _ _ s
  refine wpAny_bind (tupleItemsOf_ ht (wpAny_bind (wpAny_typeOf ty ?_)))
  rw [if_pos (by decide)]
  refine wpAny_bind (back_applied hs pl pu ps ?_)
  have no : ¬ ((((xs.size : Nat) : Int) - 1 == 0 && (-1 : Int) == 1 && xs.size == xs.size) = true) := by
    intro q
    rw [Bool.and_eq_true, Bool.and_eq_true] at q
    exact absurd q.1.2 (by decide)
  show wpAny _ _ (if ((((xs.size : Nat) : Int) - 1) == 0 && (-1 : Int) == 1 && xs.size == xs.size) = true then _ else _) _ _ s
  rw [if_neg no, back_pick]
  first
    | exact wpAny_bind (m := Builtin.Tuple.tupleExact _) (wpAny_newObj_type (wpAny_pure ⟨_, rfl, wpAny_pure h⟩) room)
    | exact wpAny_bind (m := Builtin.Tuple.tupleExact _) (wpAny_newObj_type (wpAny_bind (wpAny_pure (wpAny_pure ⟨_, rfl, wpAny_pure h⟩))) room)
    | exact wpAny_bind (wpAny_bind (m := Builtin.Tuple.tupleExact _) (wpAny_newObj_type (wpAny_pure (wpAny_pure ⟨_, rfl, wpAny_pure h⟩)) room))
    | exact wpAny_bind (wpAny_bind (m := Builtin.Tuple.tupleExact _) (wpAny_newObj_type (wpAny_pure ⟨_, rfl, wpAny_pure h⟩) room))
end
section
variable {G : Glb} {X : Cx} {W : WX}
def tRevT (K : PySem.W.Frag) (te : TE) : TE := fun σ H Q => te σ H fun x H1 => ∃ a xs, x = .ref a ∧ SqT K H1 a xs ∧ ∀ p, H1 p = none → Q (.ref p) (upd H1 p (.tup xs.reverse))
theorem pe_revT {e : Expr} {te : TE} {k : Nat} {p1 p2 p3 pos : Pos} (he : PE X e te) : PE X (.Subscript e (.Slice none none (some (.UnaryOp .USub (.Constant (.int 1) k p1) p2)) p3) pos) (tRevT X.K te) := by
  refine ⟨fun pins s σ H Q I h => Subscript_ (thn (he.run pins s σ H _ I h) fun v s1 ⟨x, H1, I1, r1, a, xs, ex, hx, q⟩ => ?_)⟩
  subst ex
  cases r1
  have step : PO X (some (.UnaryOp .USub (.Constant (.int 1) k p1) p2)) (tPart (tUn (rU fun i => .int (-i)) (tC (.int 1)))) := po_some (pe_un un_neg pe_int)
  refine wpAny_Slice (thn (po_none.run pins s1 σ H1 (fun o H2 => o = none ∧ H2 = H1) I1 ⟨rfl, rfl⟩) fun vl s2 ⟨_, H2, I2, pl, e1, e2⟩ => ?_)
  subst e1 e2
  refine thn (po_none.run pins s2 σ H2 (fun o H3 => o = none ∧ H3 = H2) I2 ⟨rfl, rfl⟩) fun vu s3 ⟨_, H3, I3, pu, e1, e2⟩ => ?_
  subst e1 e2
  refine thn (step.run pins s3 σ H3 (fun o H4 => o = some (-1) ∧ H4 = H3) I3 ⟨1, rfl, -1, rfl, rfl, rfl⟩) fun vs s4 ⟨_, H4, I4, ps, e1, e2⟩ => ?_
  subst e1 e2
  have I5 : Inv X pins σ H4 { s4 with heap := s4.heap.push { cls := .type "slice", data := .fields #[vl, vu, vs] } } := I4.kept (t' := s4.toks) fun b ob q => Heap.get?_push_of_some _ q
  obtain ⟨its, r, ht, hz⟩ := I5.tuple hx
  have len := r.length
  refine tail_any (ops := [.ref a, .ref s4.heap.objs.size]) ht.typeIs PyProof.Rows.slot_tuple_getitem.lookup ?_ (by with_unfolding_all rfl)
  refine back_tuple ht (Heap.IsSliceOf.new _ vl vu vs) pl pu ps ?_ (by rw [List.size_toArray]; omega)
  refine ⟨.ref _, _, I5.laid (t' := s4.toks) (o := .tup xs.reverse) (fun b ob q => Heap.get?_push_of_some _ q) (Nat.le_refl _) ?_, rfl, q _ (I5.hok.fresh (Nat.le_refl _))⟩
  exact ⟨by rw [List.length_reverse]; exact hz, _, r.reverse, IsTup.new _ _⟩
theorem PE.or {e : Expr} {t t' : TE} (h : PE X e t) (h' : PE X e t') : PE X e (fun σ H Q => t σ H Q ∨ t' σ H Q) := ⟨fun pins s σ H Q I q => q.elim (h.run pins s σ H Q I) (h'.run pins s σ H Q I)⟩
/-- backwards -/
def revD (S : Store) (d : D) : ER := match d with
  | .tup ds => .ok (.tup ds.reverse) S
  | d => match listD S d with
    | some ds => .ok (.lst ds.reverse) S
    | none => .bad
def eRev (f : EM) : EM := fun env S => (f env S).bind revD'
  where revD' (d : D) (S : Store) : ER := revD S d
theorem de_rev {e : Expr} {f : EM} {k : Nat} {p1 p2 p3 pos : Pos} (hK : X.K = G.K) (he : DE G X W e f) : DE G X W (.Subscript e (.Slice none none (some (.UnaryOp .USub (.Constant (.int 1) k p1) p2)) p3) pos) (eRev f) := by
  obtain ⟨t, p, q⟩ := he
  refine ⟨_, PE.or (pe_revL p) (pe_revT p), fun σ H env φ S Q s re h => ?_⟩
  unfold eRev at h
  cases hr : f env S with
  | bad => rw [hr] at h; exact False.elim h
  | ex x S1 =>
    rw [hr] at h
    exact .inl (q σ H env φ S _ s re (by rw [hr]; exact h))
  | ok d S1 =>
    rw [hr] at h
    have h' : PostE G W φ H σ (revD S1 d) Q := h
    unfold revD at h'
    split at h'
    · rename_i ds
      refine .inr (q σ H env φ S _ s re ?_)
      rw [hr]
      intro φ1 H1 v e1 s1 i1
      obtain ⟨a, xs, rfl, r, il⟩ := i1
      exact ⟨a, xs, rfl, by rw [hK]; exact r.seq, fun l hl => tup_new s1 il.reverse (PostE.ext e1 h') hl⟩
    · split at h'
      · rename_i ds e
        refine .inl (q σ H env φ S _ s re ?_)
        rw [hr]
        intro φ1 H1 v e1 s1 i1
        obtain ⟨a, xs, rfl, r, il⟩ := listD_sq s1 i1 e
        exact ⟨a, xs, rfl, by rw [hK]; exact r, fun l hl => lst_new s1 il.reverse (PostE.ext e1 h') hl⟩
      · exact False.elim h'
end
end DL
end
section
/-! D-layer, part 8: how many unlike ones; dicts. -/
namespace DL
open PySem L2 PySem.Spec PyProof.Rows
section
variable {G : Glb} {X : Cx} {W : WX}
def keysD : List D → Option (List Key)
  | [] => some []
  | d :: ds => (keyD d).bind fun k => (keysD ds).map (k :: ·)
theorem keysD_is {φ : Fi} {H : Hp} : ∀ {ds : List D} {vs : List V} {ks : List Key}, IsL G φ H ds vs → keysD ds = some ks → vs = ks.map kV
  | [], vs, ks, i, e => by cases e; exact i
  | d :: ds, vs, ks, i, e => by
    obtain ⟨x, r, rfl, p, q⟩ := i
    obtain ⟨k, e1, e2⟩ := Option.bind_eq_some_iff.mp (show ((keyD d).bind fun k => (keysD ds).map (k :: ·)) = some ks from e)
    obtain ⟨js, e3, e4⟩ := Option.map_eq_some_iff.mp e2
    subst e4
    rw [keysD_is q e3, keyD_is p e1]; rfl
theorem vals_keys {P : Program} {w : World} : ∀ {ks : List Key} {us : List Value}, Vals (ks.map kV) us → KeysAre P w us ks
  | [], _, h => by cases h; exact ⟨rfl, fun i u e => by simp at e⟩
  | k :: ks, _, h => by
    cases h with
    | cons r t =>
      obtain ⟨h1, h2⟩ := vals_keys (P := P) (w := w) t
      refine ⟨by simp [h1], fun i u e => ?_⟩
      cases i with
      | zero => simp at e; subst e; exact ⟨k, rfl, kV_is r, key_scan r⟩
      | succ i => simp at e; simpa using h2 i u e
/-- few keys: a set of them is scanned -/
def few (n : Nat) : Prop := n + 1 < scanBound
noncomputable instance {n : Nat} : Decidable (few n) := Classical.propDecidable _
/-! ### len(set(xs)) -/
def tLenSetK (K : PySem.W.Frag) (ta : TE) : TE := fun σ H Q => ta σ H fun x H1 => ∃ (l : Addr) (ks : List Key), x = .ref l ∧ (SqL K H1 l (ks.map kV) ∨ SqT K H1 l (ks.map kV)) ∧ few ks.length ∧ Q (.int (dcnt ks : Nat)) H1
theorem pe_lenSetK {a : Expr} {ta : TE} {p p2 q pos : Pos} (hc : X.calm = true) (hg : Gl X "len") (hm : X.mg "len" = none) (hg2 : Gl X "set") (hm2 : X.mg "set" = none) (ha : PE X a ta)
    (na : starEach [a] X.env = (false, eval a X.env) :: starEach [] X.env := by rfl) : PE X (.Call (.Name "len" p) [.Call (.Name "set" p2) [a] [] q] [] pos) (tLenSetK X.K ta) := by
  refine ⟨fun pins s σ H Q I h => Call_ (ld_blt I hg hm boot_len (PyProof.Rows.callWith_builtin1 (PyProof.Rows.args_cons (Call_ (ld_blt I hg2 hm2 boot_set (PyProof.Rows.callWith_type1 (PyProof.Rows.args_cons (thn (ha.run pins s σ H _ I h) fun v s1 ⟨x, H1, I1, r1, q1⟩ => PyProof.Rows.args_nil ?_) na) na rfl))) rfl) rfl rfl))⟩
  obtain ⟨l, ks, rfl, hq, hf, q1⟩ := q1
  cases r1
  have go : ∀ (h' : Heap) (tk : Nat), SetMade X.prog X.w s1 ks h' → wpAny (model X.prog X.w) X.A (call (.builtin "len") [.ref s1.heap.objs.size]) (EP X pins σ Q) X.xe { s1 with heap := h', toks := tk } := fun h' tk ⟨made, old⟩ => by
    obtain ⟨o, es, ep, t, ho, hex, hd, _, _, hb, hft, hn⟩ := made
    have I2 : Inv X pins σ H1 { s1 with heap := h', toks := tk } := I1.kept fun b o e => old b o (Heap.lt_size e) e
    exact call_len_set ho hex hd hft (by unfold scanBound at hb; omega) ⟨.int (dcnt ks : Nat), H1, I2.tok _, ⟨_, by rw [hn]⟩, q1⟩
  rcases hq with hq | hq
  · obtain ⟨its, r, pl, hz⟩ := I1.list hq
    exact set_of_list (I1.ok.hd hc) pl.isList (by simpa using vals_keys r) hf fun h' tk made => PyProof.Rows.args_nil (go h' tk made)
  · obtain ⟨its, r, pl, hz⟩ := I1.tuple hq
    exact set_of_tuple (I1.ok.hd hc) pl (by simpa using vals_keys r) hf fun h' tk made => PyProof.Rows.args_nil (go h' tk made)
noncomputable def eLenSet (f : EM) : EM := fun env S => (f env S).bind fun d S => match (seqD S d).bind keysD with
  | some ks => if few ks.length then .ok (.int (dcnt ks : Nat)) S else .bad
  | none => .bad
theorem de_lenSet {a : Expr} {f : EM} {p p2 q pos : Pos} (hc : X.calm = true) (hK : X.K = G.K) (hg : Gl X "len") (hm : X.mg "len" = none) (hg2 : Gl X "set") (hm2 : X.mg "set" = none) (ha : DE G X W a f)
    (na : starEach [a] X.env = (false, eval a X.env) :: starEach [] X.env := by rfl) : DE G X W (.Call (.Name "len" p) [.Call (.Name "set" p2) [a] [] q] [] pos) (eLenSet f) := by
  obtain ⟨t, pt, qt⟩ := ha
  refine ⟨_, pe_lenSetK hc hg hm hg2 hm2 pt na, fun σ H env φ S Q s re h => ?_⟩
  refine qt σ H env φ S _ s re (PostE.bind h fun d S1 φ1 H1 v e1 s1 i1 h1 => ?_)
  split at h1
  · rename_i ks e
    obtain ⟨ds, e2, e3⟩ := Option.bind_eq_some_iff.mp e
    obtain ⟨l, xs, rfl, r, il⟩ := seqD_sq s1 i1 e2
    split at h1
    · rename_i hf
      exact ⟨l, ks, rfl, by rw [← keysD_is il e3, hK]; exact r, hf, h1.now s1 rfl⟩
    · exact False.elim h1
  · exact False.elim h1
/-! ### len({e for ..}) -/
noncomputable def scD (b : D → EnvD → Option EnvD) (tt elt : EM) (env : EnvD) : List Key → List D → Store → Option (List Key × Store)
  | acc, [], S => some (acc, S)
  | acc, d :: ds, S => match b d env with
    | none => none
    | some e1 => match tt e1 S with
      | .ok (.bl true) S1 => match elt e1 S1 with
        | .ok y S2 => match keyD y with
          | some k => if few (acc.length + 1) then scD b tt elt env (acc ++ [k]) ds S2 else none
          | none => none
        | _ => none
      | .ok (.bl false) S1 => scD b tt elt env acc ds S1
      | _ => none
noncomputable def eLenSc (f : LM) (b : D → EnvD → Option EnvD) (tt elt : EM) (vs : List Nat) : EM := fun env S => (f env S).bindE fun ds S => match scD b tt elt (wipeD env vs) [] ds S with
  | some (ks, S') => .ok (.int (dcnt ks : Nat)) S'
  | none => .bad
section
variable {elt tg iter : Expr} {ifs : List Expr} {scope : Scope} {own : List (Str × Nat)} {pos : Pos} {f : LM} {b : D → EnvD → Option EnvD} {ft fe : EM} {vs : List Nat}
end
end
end DL
end
section
/-! D-layer, part 9: what is never met; dicts that are read and written. -/
namespace DL
open PySem L2 PySem.Spec PyProof.Rows
theorem units65 {k : Nat} {A : Around} (r : Room k A) : A.units + 65 < cLine := by have := r.un; omega
theorem units1 {k : Nat} {A : Around} (r : Room k A) : A.units + 1 < cLine := by have := r.un; omega
section
variable {G : Glb} {X : Cx} {W : WX}
def eNev : EM := fun _ _ => .bad
def sNev : SM := fun _ _ => .bad
theorem dss_nev {st : List Stmt} : DSs G X W st sNev := ⟨fun _ _ _ => False, ⟨fun _ _ _ _ _ _ h => False.elim h⟩, fun _ _ _ _ _ _ _ _ h => False.elim h⟩
/-! ### x[i], x a list, a tuple, a text, a dict -/
def rIxDc : R2 := fun x y H Q => ∃ a v, x = .ref a ∧ DGet H a y (some v) ∧ Q v H
theorem ix_dic (hu : X.A.units + 1 < cLine) : IxR X rIxDc := by
  intro value slice pins s σ H x y v u Q I rx ry h hs
  obtain ⟨a, d, rfl, g, q⟩ := h
  cases rx
  exact tail_any (dict_typeIs I g) PySem.F.slot_dict_getitem.lookup (d_getItem hu I g ry fun w' s3 I3 rw' => ⟨d, H, I3, rw', q⟩) hs
noncomputable def opIxX (x y : D) (S : Store) : ER := match dicD S x with
  | some kds => match keyD y with
    | some k => match valD kds k with
      | some d => .ok d S
      | none => .bad
    | none => .bad
  | none => opIx x y S
theorem ix_is {φ : Fi} {S : Store} {H : Hp} {σ : L2.St} {dx dy : D} {x y : V} {Q : VK} (hK : X.K = G.K) (s : SOk G φ S H) (ix : Is G φ H dx x) (iy : Is G φ H dy y) (h : PostE G W φ H σ (opIx dx dy S) Q) : rIx X.K x y H Q := by
  unfold opIx at h
  split at h
  · cases (show x = _ from ix); cases (show y = _ from iy)
    split at h
    · rename_i hz
      split at h
      · rename_i d hd
        obtain ⟨c, e1, e2⟩ := Option.map_eq_some_iff.mp hd
        subst e2
        exact .inr (.inr ⟨_, _, c, rfl, rfl, sizeLine_is hz, e1, h.now s rfl⟩)
      · exact bad_no h
    · exact bad_no h
  · cases (show y = _ from iy)
    split at h
    · rename_i d hd
      obtain ⟨p, xs, rfl, r, q⟩ := tupD_sq ix rfl
      obtain ⟨v, e1, k⟩ := atI_is q hd
      exact .inr (.inl ⟨p, xs, _, v, rfl, rfl, by rw [hK]; exact r, e1, h.now s k⟩)
    · exact bad_no h
  · cases (show y = _ from iy)
    split at h
    · rename_i ds e
      obtain ⟨p, xs, rfl, r, q⟩ := listD_sq s ix e
      split at h
      · rename_i d hd
        obtain ⟨v, e1, k⟩ := atI_is q hd
        exact .inl ⟨p, xs, _, v, rfl, rfl, by rw [hK]; exact r, e1, h.now s k⟩
      · exact bad_no h
    · exact bad_no h
  · exact bad_no h
theorem de_ixX {a b : Expr} {pos : Pos} {fa fb : EM} (hK : X.K = G.K) (hu : X.A.units + 1 < cLine) (ha : DE G X W a fa) (hb : DE G X W b fb) (hs : PlainIx b := by intro _ _; rfl) : DE G X W (.Subscript a b pos) (eOp opIxX fa fb) := by
  obtain ⟨ta, pa, qa⟩ := ha
  obtain ⟨tb, pb, qb⟩ := hb
  refine ⟨_, pe_ix (ix_seq.or (ix_dic hu)) pa pb hs, op_of (t := ta) qa qb fun W φ S H σ dx dy x y Q s ix iy h => ?_⟩
  unfold opIxX at h
  split at h
  · rename_i kds e
    split at h
    · rename_i k ek
      split at h
      · rename_i d hd
        obtain ⟨a, kvs, rfl, r, q⟩ := dicD_is s ix e
        obtain ⟨v, e2, i2⟩ := (val_is k q).1 d hd
        exact .inr ⟨a, v, rfl, .inl ⟨kvs, k, r, keyD_is iy ek, e2.symm⟩, h.now s i2⟩
      · exact bad_no h
    · exact bad_no h
  · exact .inl (ix_is hK s ix iy h)
/-! ### o[i] = e of a list's or dict's cell -/
theorem PSet.or {t t' : TSet} (h : PSet X t) (h' : PSet X t') : PSet X (fun o i v H Q => t o i v H Q ∨ t' o i v H Q) := fun pins s σ H o i v ov iv u Q I ro ri rv q =>
  q.elim (h pins s σ H o i v ov iv u Q I ro ri rv) (h' pins s σ H o i v ov iv u Q I ro ri rv)
def putD (kds : List (Key × D)) (k : Key) (d : D) : List (Key × D) := if kds.any (fun kv => decide (kv.1 = k)) then kds.map (fun kv => if kv.1 = k then (kv.1, d) else kv) else kds ++ [(k, d)]
noncomputable def setX (o i d : D) (S : Store) : Option Store := match o with
  | .loc l => match S[l]? with
    | some (.dic kds) => match keyD i with
      | some k => if sz (kds.length + 1) then some (S.set l (.dic (putD kds k d))) else none
      | none => none
    | _ => setD o i d S
  | _ => none
theorem KvIs.length {φ : Fi} {H : Hp} {kds : List (Key × D)} {kvs : List (Key × V)} (q : KvIs G φ H kds kvs) : kds.length = kvs.length := by
  have := congrArg List.length q.1
  simpa using this.symm
theorem map_upd {α β : Type} (ks : List (Key × α)) (k : Key) (d : α) : (ks.map fun kv => if kv.1 = k then (kv.1, d) else kv).map (·.1) = ks.map (·.1) := by
  rw [List.map_map]
  apply List.map_congr_left
  intro kv _
  simp only [Function.comp]
  split <;> rfl
theorem any_keys {α β : Type} : ∀ {ks : List (Key × α)} {js : List (Key × β)} (k : Key), ks.map (·.1) = js.map (·.1) → (ks.any fun kv => decide (kv.1 = k)) = js.any fun kv => decide (kv.1 = k)
  | [], [], _, _ => rfl
  | [], _ :: _, _, h => by simp at h
  | _ :: _, [], _, h => by simp at h
  | a :: ks, b :: js, k, h => by
    simp only [List.map_cons, List.cons.injEq] at h
    rw [List.any_cons, List.any_cons, h.1, any_keys k h.2]
theorem isL_upd {φ : Fi} {H : Hp} {d : D} {v : V} (i : Is G φ H d v) (k : Key) : ∀ {kds : List (Key × D)} {kvs : List (Key × V)}, KvIs G φ H kds kvs →
    IsL G φ H ((kds.map fun kv => if kv.1 = k then (kv.1, d) else kv).map (·.2)) ((kvs.map fun kv => if kv.1 = k then (kv.1, v) else kv).map (·.2))
  | [], kvs, h => by
    have : kvs = [] := by simpa using h.1
    subst this
    exact rfl
  | (k0, d0) :: kds, kvs, h => by
    obtain ⟨h1, h2⟩ := h
    cases kvs with
    | nil => simp at h1
    | cons p r =>
      obtain ⟨kp, vp⟩ := p
      simp only [List.map_cons, List.cons.injEq] at h1
      obtain ⟨e1, e2⟩ := h1
      subst e1
      obtain ⟨x, xs, e3, i1, i2⟩ := h2
      simp only [List.map_cons, List.cons.injEq] at e3
      obtain ⟨rfl, rfl⟩ := e3
      have ih := isL_upd i k (show KvIs G φ H kds r from ⟨e2, i2⟩)
      simp only [List.map_cons]
      by_cases hk : kp = k
      · rw [if_pos hk, if_pos hk]; exact ⟨_, _, rfl, i, ih⟩
      · rw [if_neg hk, if_neg hk]; exact ⟨_, _, rfl, i1, ih⟩
theorem put_is {φ : Fi} {H : Hp} {kds : List (Key × D)} {kvs : List (Key × V)} {d : D} {v : V} (q : KvIs G φ H kds kvs) (i : Is G φ H d v) (k : Key) : KvIs G φ H (putD kds k d) (putK kvs k v) := by
  have ea := any_keys (α := D) (β := V) k q.1.symm
  unfold putD putK
  rw [ea]
  split
  · exact ⟨by rw [map_upd (β := V), map_upd (β := V)]; exact q.1, isL_upd i k q⟩
  · refine ⟨by simp [q.1], ?_⟩
    rw [List.map_append, List.map_append]
    exact q.2.append (.one i)
theorem KvIs.ext {φ φ' : Fi} {H H' : Hp} {kds : List (Key × D)} {kvs : List (Key × V)} (e : Ext φ H φ' H') (q : KvIs G φ H kds kvs) : KvIs G φ' H' kds kvs := ⟨q.1, q.2.ext e⟩
noncomputable def sPutX (o i f : EM) : SM := fun env S => (f env S).bindS env fun d S => (o env S).bindS env fun a S => (i env S).bindS env fun b S => match setX a b d S with
  | some S' => .nx env S'
  | none => .bad
theorem setX_is {φ : Fi} {S S' : Store} {H : Hp} {o i d : D} {vo vi v : V} (s : SOk G φ S H) (io : Is G φ H o vo) (ii : Is G φ H i vi) (id : Is G φ H d v) (h : setX o i d S = some S') {Q : Hp → Prop} (k : ∀ H', Ext φ H φ H' → SOk G φ S' H' → Q H') : rSetL vo vi v H Q ∨ rSetD vo vi v H Q := by
  unfold setX at h
  split at h
  · rename_i l
    split at h
    · rename_i kds hc
      split at h
      · rename_i key ek
        split at h
        · rename_i hz
          cases h
          obtain ⟨a, ha, rfl⟩ := io
          obtain ⟨ws, hx, z, q⟩ := s.at_ hc ha
          have kv : KvIs G φ H kds ws := ⟨z, q⟩
          have e := Ext.put (φ := φ) (H := H) (o := .dK (putK ws key v)) (List.mem_of_getElem? ha)
          refine .inr ⟨a, _, rfl, .inl ⟨ws, key, hx, keyD_is ii ek, ?_, rfl⟩, k _ e (s.put ha ?_)⟩
          · have hl := kv.length
            have hz' : kds.length + 1 ≤ 16777216 := hz
            rw [sizeLine_eq]; omega
          · obtain ⟨p1, p2⟩ := (put_is kv id key).ext e
            exact ⟨_, upd_same, p1, p2⟩
        · cases h
      · cases h
    · exact .inl (set_is s io ii id h k)
  · cases h
theorem ds_putX {o i e : Expr} {pos pos' : Pos} {fo fi fe : EM} (hu : X.A.units + 1 < cLine) (he : DE G X W e fe) (ho : DE G X W o fo) (hi : DE G X W i fi) (hs : swapsWithSole [.Subscript o i pos'] e pos.line X.env = pure false := by rfl) (hw : swappedStores [.Subscript o i pos'] e X.env = pure none := by rfl)
    (h1 : List.map (fun x => x.snd) (assignEach [.Subscript o i pos'] X.env) = [assign (.Subscript o i pos') X.env] := by rfl)
    (h2 : ∀ v, assign (.Subscript o i pos') X.env v = (do let ov ← holding [v] (eval o X.env); let iv ← holding [v, ov] (eval i X.env); standAt pos'; holding [v, ov, iv] (setItem ov iv v); release [v, ov, iv] []) := by intro _; rfl) : DS G X W (.Assign [.Subscript o i pos'] e pos) (sPutX fo fi fe) := by
  obtain ⟨to, po, qo⟩ := ho
  obtain ⟨ti, pi, qi⟩ := hi
  obtain ⟨te, pe, qe⟩ := he
  refine ⟨_, ps_asg pe (pg_sub po pi (PSet.or set_list (set_dict hu)) h2) hs hw h1, fun σ H env φ S N s re h => ?_⟩
  refine qe σ H env φ S _ s re (PostE.bindS re h fun d S1 φ1 H1 v e1 s1 i1 h1 => ?_)
  have r1 := re.ext e1
  refine qo σ H1 env φ1 S1 _ s1 r1 (PostE.bindS r1 h1 fun a S2 φ2 H2 va e2 s2 i2 h2 => ?_)
  have r2 := r1.ext e2
  refine qi σ H2 env φ2 S2 _ s2 r2 (PostE.bindS r2 h2 fun b S3 φ3 H3 vb e3 s3 i3 h3 => ?_)
  cases hS : setX a b d S3 with
  | none => rw [hS] at h3; exact False.elim h3
  | some S4 =>
    rw [hS] at h3
    exact setX_is s3 (i2.ext e3) i3 ((i1.ext e2).ext e3) hS fun H' e4 s4 => h3 φ3 H' σ e4 s4 ((r2.ext e3).ext e4)
/-! ### d[k] += n -/
/-! ### a new dict -/
def eDic0 : EM := fun _ S => .ok (.dic [] []) S
def eDic0M : EM := fun _ S => .ok (.loc S.length) (S ++ [.dic []])
/-! ### len, list, dict of a dict too -/
theorem call_lenDc : CallR X (.builtin "len") (fun xs H Q => ∃ a kvs, xs = [V.ref a] ∧ Rd H a (.dK kvs) ∧ Q (.int kvs.length) H) := by
  intro pins s σ H xs us Q I r h
  obtain ⟨a, kvs, rfl, ha, q⟩ := h
  obtain ⟨u, rfl, ru⟩ := vals1 r
  cases ru
  exact d_len I ha fun t s' I' => ⟨.int kvs.length, H, I', ⟨t, rfl⟩, q⟩
noncomputable def bLenX (ds : List D) (S : Store) : ER := match ds with
  | [d] => match dicD S d with
    | some kds => .ok (.int kds.length) S
    | none => bLen ds S
  | _ => .bad
theorem dc_lenX (hK : X.K = G.K) : DCall G X (.builtin "len") bLenX := by
  obtain ⟨r, hr, q⟩ := dc_len (G := G) (X := X) hK
  refine ⟨_, hr.or call_lenDc, fun W φ S H σ ds xs Q s i h => ?_⟩
  unfold bLenX at h
  split at h
  · split at h
    · rename_i kds e
      obtain ⟨x, rfl, k⟩ := IsL.inv1 i
      obtain ⟨a, kvs, rfl, r, kv⟩ := dicD_is s k e
      exact .inr ⟨a, kvs, rfl, r, by rw [← kv.length]; exact h.now s rfl⟩
    · exact .inl (q W φ S H σ _ xs Q s i h)
  · exact bad_no h
theorem isL_keys {φ : Fi} {H : Hp} {kds : List (Key × D)} {kvs : List (Key × V)} (q : KvIs G φ H kds kvs) : IsL G φ H (kds.map fun kv => dKey kv.1) (kvs.map fun kv => kV kv.1) := by
  have e1 : kds.map (fun kv => dKey kv.1) = (kds.map (·.1)).map dKey := by rw [List.map_map]; rfl
  have e2 : kvs.map (fun kv => kV kv.1) = (kvs.map (·.1)).map kV := by rw [List.map_map]; rfl
  rw [e1, e2, q.1]
  generalize kds.map (·.1) = ks
  induction ks with
  | nil => exact rfl
  | cons k ks ih => exact ⟨_, _, rfl, is_dKey k, ih⟩
def bListX (ds : List D) (S : Store) : ER := match ds with
  | [d] => match dicD S d with
    | some kds => .ok (.lst (kds.map fun kv => dKey kv.1)) S
    | none => bList ds S
  | _ => .bad
def bListXM (ds : List D) (S : Store) : ER := match ds with
  | [d] => match dicD S d with
    | some kds => .ok (.loc S.length) (S ++ [.lst (kds.map fun kv => dKey kv.1)])
    | none => bListM ds S
  | _ => .bad
theorem dc_listX (hc : X.calm = true) (hK : X.K = G.K) : DCall G X (.type "list") bListX := by
  obtain ⟨r, hr, q⟩ := dc_list (G := G) (X := X) hK
  refine ⟨_, hr.or (call_listD hc), fun W φ S H σ ds xs Q s i h => ?_⟩
  unfold bListX at h
  split at h
  · split at h
    · rename_i kds e
      obtain ⟨x, rfl, k⟩ := IsL.inv1 i
      obtain ⟨a, kvs, rfl, r, kv⟩ := dicD_is s k e
      exact .inr ⟨a, kvs, rfl, r, fun p hp => lst_new s (isL_keys kv) h hp⟩
    · exact .inl (q W φ S H σ _ xs Q s i h)
  · exact bad_no h
theorem dc_listXM (hc : X.calm = true) (hK : X.K = G.K) : DCall G X (.type "list") bListXM := by
  obtain ⟨r, hr, q⟩ := dc_listM (G := G) (X := X) hK
  refine ⟨_, hr.or (call_listD hc), fun W φ S H σ ds xs Q s i h => ?_⟩
  unfold bListXM at h
  split at h
  · split at h
    · rename_i kds e
      obtain ⟨x, rfl, k⟩ := IsL.inv1 i
      obtain ⟨a, kvs, rfl, r, kv⟩ := dicD_is s k e
      exact .inr ⟨a, kvs, rfl, r, fun p hp => lst_newM s (isL_keys kv) h hp⟩
    · exact .inl (q W φ S H σ _ xs Q s i h)
  · exact bad_no h
def bDict (ds : List D) (S : Store) : ER := match ds with
  | [d] => match dicD S d with
    | some kds => .ok (.dic (kds.map (·.1)) (kds.map (·.2))) S
    | none => .bad
  | _ => .bad
/-! ### d.get(k), d.get(k, x) -/
def getD (o b : D) (z : D) (S : Store) : ER := match dicD S o, keyD b with
  | some kds, some k => .ok ((valD kds k).getD z) S
  | _, _ => .bad
end
end DL
end
section
/-! D-layer, part 10: how the values of parts 7 to 9 are reckoned (by simp). -/
namespace DL
open PySem L2
section
variable {d : D} {S : Store} {x : Exc} {e env : EnvD} {i j : Int}
@[simp] theorem opIxX_t {ds : List D} : opIxX (.tup ds) (.int i) S = match atI ds i with | some d => .ok d S | none => .bad := rfl
@[simp] theorem opIxX_l {ds : List D} : opIxX (.lst ds) (.int i) S = match atI ds i with | some d => .ok d S | none => .bad := rfl
@[simp] theorem opIxX_s {z : Str} : opIxX (.str z) (.int i) S = if sz z.length then (match strAt z i with | some d => .ok d S | none => .bad) else .bad := rfl
@[simp] theorem opIxX_di {ks ds} : opIxX (.dic ks ds) (.int i) S = match valD (ks.zip ds) (.inl i) with | some d => .ok d S | none => .bad := rfl
@[simp] theorem opIxX_ds {ks ds} {z : Str} : opIxX (.dic ks ds) (.str z) S = match valD (ks.zip ds) (.inr z) with | some d => .ok d S | none => .bad := rfl
@[simp] theorem opIxX_ci {l : Nat} : opIxX (.loc l) (.int i) S = match cel S l with
  | some (.lst ds) => (match atI ds i with | some d => .ok d S | none => .bad)
  | some (.dic kds) => (match valD kds (.inl i) with | some d => .ok d S | none => .bad)
  | _ => .bad := by
  simp only [opIxX, dicD, keyD, opIx, listD, cel]
  cases S[l]? with
  | none => rfl
  | some c => cases c <;> rfl
@[simp] theorem opIxX_cs {l : Nat} {z : Str} : opIxX (.loc l) (.str z) S = match cel S l with
  | some (.dic kds) => (match valD kds (.inr z) with | some d => .ok d S | none => .bad)
  | _ => .bad := by
  simp only [opIxX, dicD, keyD, opIx, listD, cel]
  cases S[l]? with
  | none => rfl
  | some c => cases c <;> rfl
@[simp] theorem bLenX_t {ds : List D} : bLenX [.tup ds] S = .ok (.int ds.length) S := rfl
@[simp] theorem bLenX_l {ds : List D} : bLenX [.lst ds] S = .ok (.int ds.length) S := rfl
@[simp] theorem bLenX_s {z : Str} : bLenX [.str z] S = if sz z.length then .ok (.int z.length) S else .bad := rfl
@[simp] theorem bLenX_d {ks ds} : bLenX [.dic ks ds] S = .ok (.int (ks.zip ds).length) S := rfl
@[simp] theorem bLenX_c {l : Nat} : bLenX [.loc l] S = match cel S l with | some (.lst ds) => .ok (.int ds.length) S | some (.dic kds) => .ok (.int kds.length) S | _ => .bad := by
  simp only [bLenX, dicD, bLen, seqD, listD, cel]
  cases S[l]? with
  | none => rfl
  | some c => cases c <;> rfl
@[simp] theorem bListX_t {ds : List D} : bListX [.tup ds] S = .ok (.lst ds) S := rfl
@[simp] theorem bListX_l {ds : List D} : bListX [.lst ds] S = .ok (.lst ds) S := rfl
@[simp] theorem bListX_d {ks ds} : bListX [.dic ks ds] S = .ok (.lst ((ks.zip ds).map fun kv => dKey kv.1)) S := rfl
@[simp] theorem bListX_c {l : Nat} : bListX [.loc l] S = match cel S l with | some (.lst ds) => .ok (.lst ds) S | some (.dic kds) => .ok (.lst (kds.map fun kv => dKey kv.1)) S | _ => .bad := by
  simp only [bListX, dicD, bList, seqD, listD, cel]
  cases S[l]? with
  | none => rfl
  | some c => cases c <;> rfl
@[simp] theorem bListXM_t {ds : List D} : bListXM [.tup ds] S = .ok (.loc S.length) (S ++ [.lst ds]) := rfl
@[simp] theorem bListXM_l {ds : List D} : bListXM [.lst ds] S = .ok (.loc S.length) (S ++ [.lst ds]) := rfl
@[simp] theorem bTuple_c {l : Nat} : bTuple [.loc l] S = match cel S l with | some (.lst ds) => .ok (.tup ds) S | _ => .bad := by
  simp only [bTuple, seqD, listD, cel]
  cases S[l]? with
  | none => rfl
  | some c => cases c <;> rfl
@[simp] theorem bSorted_l {ns : List Int} : bSorted [.lst (ns.map .int)] S = .ok (.lst ((sortI ns).map .int)) S := by simp [bSorted, listD, intsD_map]
@[simp] theorem eLenSet_is {f : EM} : eLenSet f env S = (f env S).bind fun d S => match (seqD S d).bind keysD with | some ks => if few ks.length then .ok (.int (dcnt ks : Nat)) S else .bad | none => .bad := rfl
@[simp] theorem eLenSc_is {f : LM} {b : D → EnvD → Option EnvD} {tt elt : EM} {vs : List Nat} : eLenSc f b tt elt vs env S = (f env S).bindE fun ds S => match scD b tt elt (wipeD env vs) [] ds S with | some (ks, S') => .ok (.int (dcnt ks : Nat)) S' | none => .bad := rfl
@[simp] theorem seqD_l {ds : List D} : seqD S (.lst ds) = some ds := rfl
@[simp] theorem seqD_t {ds : List D} : seqD S (.tup ds) = some ds := rfl
@[simp] theorem rg1_is {f : EM} : rg1 f env S = (f env S).bindL fun d S => match d with | .int n => if rOk n ∧ sz n.toNat then .ok [.int 0, .int n] S else .bad | _ => .bad := rfl
@[simp] theorem rg2_is {f g : EM} : rg2 f g env S = (f env S).bindL fun d S => (g env S).bindL fun d2 S => rg2D d d2 S := rfl
@[simp] theorem rg2D_is : rg2D (.int i) (.int j) S = if rOk i ∧ rOk j ∧ sz (j - i).toNat then .ok [.int i, .int j] S else .bad := rfl
@[simp] theorem eLRg_is {f : LM} : eLRg f env S = (f env S).bindE fun ds S => match ds with | [.int i, .int j] => .ok (.lst (rangeD i (j - i).toNat)) S | _ => .bad := rfl
@[simp] theorem eLRgM_is {f : LM} : eLRgM f env S = (f env S).bindE fun ds S => match ds with | [.int i, .int j] => .ok (.loc S.length) (S ++ [.lst (rangeD i (j - i).toNat)]) | _ => .bad := rfl
@[simp] theorem eTRg_is {f : LM} : eTRg f env S = (f env S).bindE fun ds S => match ds with | [.int i, .int j] => .ok (.tup (rangeD i (j - i).toNat)) S | _ => .bad := rfl
@[simp] theorem eRev_is {f : EM} : eRev f env S = (f env S).bind fun d S => revD S d := rfl
@[simp] theorem revD_t {ds : List D} : revD S (.tup ds) = .ok (.tup ds.reverse) S := rfl
@[simp] theorem revD_l {ds : List D} : revD S (.lst ds) = .ok (.lst ds.reverse) S := rfl
@[simp] theorem opAnd_ii : opAnd (.int i) (.int j) S = .ok (.int (Builtin.bitAnd i j)) S := rfl
@[simp] theorem opOr_ii : opOr (.int i) (.int j) S = .ok (.int (Builtin.bitOr i j)) S := rfl
@[simp] theorem opXor_ii : opXor (.int i) (.int j) S = .ok (.int (Builtin.bitXor i j)) S := rfl
@[simp] theorem opShr_ii : opShr (.int i) (.int j) S = if 0 ≤ j then .ok (.int (i / 2 ^ j.toNat)) S else .bad := rfl
@[simp] theorem opShl_ii : opShl (.int i) (.int j) S = if powOk i j then .ok (.int (i * 2 ^ j.toNat)) S else .bad := rfl
@[simp] theorem opMulX_ii : opMulX (.int i) (.int j) S = if mulOk i j then .ok (.int (i * j)) S else .bad := rfl
@[simp] theorem opMulX_c {l : Nat} : opMulX (.loc l) (.int i) S = match cel S l with | some (.lst ds) => if w63 i ∧ sz (ds.length * i.toNat) then .ok (.lst (List.replicate i.toNat ds).flatten) S else .bad | _ => .bad := rfl
@[simp] theorem w63_is (h : -9223372036854775808 ≤ i) (h2 : i < 9223372036854775808) : w63 i := ⟨by omega, by omega⟩
@[simp] theorem eMeth_is {T : String} {g : D → List D → Store → ER} {o : EM} {f : LM} : eMeth T g o f env S = (o env S).bind fun a S => if tyD T S a then (f env S).bindE fun ds S => g a ds S else .bad := rfl
@[simp] theorem tyD_c {l : Nat} : tyD "list" S (.loc l) = match cel S l with | some (.lst _) => true | _ => false := by
  simp only [tyD, listD, cel]
  cases S[l]? with
  | none => rfl
  | some c => cases c <;> rfl
@[simp] theorem tyD_l {ds : List D} : tyD "list" S (.lst ds) = true := rfl
@[simp] theorem cellL_c {l : Nat} {g : Nat → List D → ER} : cellL S (.loc l) g = match cel S l with | some (.lst ds) => g l ds | _ => .bad := rfl
@[simp] theorem mPopAt_is {o : D} : mPopAt o [.int i] S = cellL S o fun l xs => if w63 i then (match seqIndex? i xs.length with
    | some k => (match xs[k]? with | some d => .ok d (S.set l (.lst (xs.eraseIdx k))) | none => .bad)
    | none => .bad) else .bad := rfl
@[simp] theorem mPop_is {o : D} : mPop o [] S = cellL S o fun l xs => match xs[xs.length - 1]? with | some d => .ok d (S.set l (.lst xs.dropLast)) | none => .bad := rfl
@[simp] theorem mAppend_is {o : D} : mAppend o [d] S = cellL S o fun l xs => if sz (xs.length + 1) then .ok .non (S.set l (.lst (xs ++ [d]))) else .bad := rfl
@[simp] theorem mInsert_is {o : D} : mInsert o [.int i, d] S = cellL S o fun l xs => if sz (xs.length + 1) ∧ 0 ≤ i ∧ w63 i then .ok .non (S.set l (.lst (xs.take i.toNat ++ [d] ++ xs.drop i.toNat))) else .bad := rfl
@[simp] theorem mClear_is {o : D} : mClear o [] S = cellL S o fun l xs => .ok .non (S.set l (.lst [])) := rfl
@[simp] theorem opIn_ll {ds : List D} : opIn d (.lst ds) S = if flatD d && ds.all flatD then .ok (.bl (ds.any fun y => eqF y d)) S else match d.pyO S, (D.lst ds).pyO S with
    | some p, some (.list ps) => if SeqAt.shaped p && SeqAt.shaped (.list ps) then .ok (.bl (ps.any fun z => PyData.eqv z p)) S else .bad
    | _, _ => .bad := rfl
@[simp] theorem opIn_tt {ds : List D} : opIn d (.tup ds) S = if flatD d && ds.all flatD then .ok (.bl (ds.any fun y => eqF y d)) S else match d.pyO S, (D.tup ds).pyO S with
    | some p, some (.list ps) => if SeqAt.shaped p && SeqAt.shaped (.list ps) then .ok (.bl (ps.any fun z => PyData.eqv z p)) S else .bad
    | _, _ => .bad := rfl
@[simp] theorem opNotIn_ll {ds : List D} : opNotIn d (.lst ds) S = if flatD d && ds.all flatD then .ok (.bl (!(ds.any fun y => eqF y d))) S else match d.pyO S, (D.lst ds).pyO S with
    | some p, some (.list ps) => if SeqAt.shaped p && SeqAt.shaped (.list ps) then .ok (.bl (!(ps.any fun z => PyData.eqv z p))) S else .bad
    | _, _ => .bad := rfl
@[simp] theorem opNotIn_tt {ds : List D} : opNotIn d (.tup ds) S = if flatD d && ds.all flatD then .ok (.bl (!(ds.any fun y => eqF y d))) S else match d.pyO S, (D.tup ds).pyO S with
    | some p, some (.list ps) => if SeqAt.shaped p && SeqAt.shaped (.list ps) then .ok (.bl (!(ps.any fun z => PyData.eqv z p))) S else .bad
    | _, _ => .bad := rfl
@[simp] theorem flatD_int : flatD (.int i) = true := rfl
@[simp] theorem flatD_str {z : Str} : flatD (.str z) = true := rfl
@[simp] theorem flatD_bl {b : Bool} : flatD (.bl b) = true := rfl
@[simp] theorem flatD_non : flatD .non = true := rfl
@[simp] theorem flatD_tup {ds : List D} : flatD (.tup ds) = false := rfl
@[simp] theorem flatD_lst {ds : List D} : flatD (.lst ds) = false := rfl
@[simp] theorem flat_ints (ns : List Int) : (ns.map D.int).all flatD = true := by simp
@[simp] theorem eqF_ii : eqF (.int i) (.int j) = decide (i = j) := by show (i == j) = _; rw [Bool.beq_eq_decide_eq]
@[simp] theorem eqF_ss {a b : Str} : eqF (.str a) (.str b) = decide (a = b) := by show (a == b) = _; rw [Bool.beq_eq_decide_eq]
@[simp] theorem eDic0_is : eDic0 env S = .ok (.dic [] []) S := rfl
@[simp] theorem eDic0M_is : eDic0M env S = .ok (.loc S.length) (S ++ [.dic []]) := rfl
@[simp] theorem sPutX_is {o i f : EM} : sPutX o i f env S = (f env S).bindS env fun d S => (o env S).bindS env fun a S => (i env S).bindS env fun b S => match setX a b d S with | some S' => .nx env S' | none => .bad := rfl
@[simp] theorem setX_ci {l : Nat} : setX (.loc l) (.int i) d S = match cel S l with
  | some (.lst ds) => (putIx i ds d).map fun es => S.set l (.lst es)
  | some (.dic kds) => if sz (kds.length + 1) then some (S.set l (.dic (putD kds (.inl i) d))) else none
  | _ => none := by
  simp only [setX, setD, keyD, cel]
  cases S[l]? with
  | none => rfl
  | some c => cases c <;> rfl
@[simp] theorem setX_cs {l : Nat} {z : Str} : setX (.loc l) (.str z) d S = match cel S l with
  | some (.dic kds) => if sz (kds.length + 1) then some (S.set l (.dic (putD kds (.inr z) d))) else none
  | _ => none := by
  unfold cel
  show (match S[l]? with
    | some (.dic kds) => match keyD (.str z) with
      | some k => if sz (kds.length + 1) then some (S.set l (.dic (putD kds k d))) else none
      | none => none
    | _ => setD (.loc l) (.str z) d S) = _
  generalize S[l]? = o
  rcases o with _ | c
  · rfl
  · cases c <;> rfl
@[simp] theorem tyOf_obj {c ks ds} : tyOf S (.obj c ks ds) = none := rfl
@[simp] theorem tyOf_c {l : Nat} : tyOf S (.loc l) = match cel S l with | some (.lst _) => some .list | some (.dic _) => some .dict | some (.dct _) => some .dict | _ => none := rfl
/-- the way out where only the first cell (the draws) stays -/
theorem exit_draw {c c' : Cell} {T : Store} {d' : D} (h : frzD (resD 1 (c' :: T) 12) d = some d') (hb : c'.bel 1 = true) : exitD .pure [c] d (c' :: T) = .ok d' [c'] := by
  unfold exitD
  have e : frzD (resD [c].length (c' :: T) 12) d = some d' := h
  simp only [e]
  rw [if_pos (.inr (by simp [hb]))]
  rfl
end
end DL
end
section
/-! D-layer, part 11: dicts walked; enumerate and zip of lists and tuples in any mixture. -/
namespace DL
open PySem L2
variable {G : Glb} {X : Cx} {W : WX}

/-! ### a dict is locked for good as soon as it is walked -/
def tLockR (t : TE) : TE := fun σ H Q => t σ H fun x H1 => ∃ d kvs, x = .ref d ∧ ((∃ od, H1 d = some (.frz od (.dK kvs)) ∧ Q x H1) ∨ (H1 d = some (.dK kvs) ∧ ∀ od, Q x (upd H1 d (.frz od (.dK kvs)))))
theorem pe_lockR {e : Expr} {t : TE} (h : PE X e t) : PE X e (tLockR t) := by
  refine ⟨fun pins s σ H Q I hw => ?_⟩
  refine thn (h.run pins s σ H _ I hw) fun v s1 ⟨x, H1, I1, r, d, kvs, ex, q⟩ => ?_
  rcases q with ⟨od, hd, q⟩ | ⟨hd, q⟩
  · exact ⟨x, H1, I1, r, q⟩
  · obtain ⟨od, I2⟩ := I1.lock hd trivial
    exact ⟨x, _, I2, r, q od⟩
theorem Ext.lock {φ : Fi} {H : Hp} {d : Addr} {od : Obj} {kvs : List (Key × V)} (n : φ.out d) (h : H d = some (.dK kvs)) : Ext φ H φ (upd H d (.frz od (.dK kvs))) :=
  ⟨⟨[], by simp, fun _ q => by simp at q⟩, rfl, fun b u _ e => by
    by_cases hb : b = d
    · subst hb; rw [h] at e; cases e; exact .inr ⟨od, n.2, .inl ⟨_, rfl⟩, upd_same⟩
    · exact .inl (by rw [upd_ne hb]; exact e)⟩
theorem SOk.lock {φ : Fi} {S : Store} {H : Hp} {d : Addr} {od : Obj} {kvs : List (Key × V)} (s : SOk G φ S H) (n : φ.out d) (h : H d = some (.dK kvs)) : SOk G φ S (upd H d (.frz od (.dK kvs))) :=
  s.step (.lock n h) fun a ha => upd_ne fun z => by subst z; exact n.1 ha
def iKeysD (f : EM) : LM := fun env S => (f env S).bindL fun d S => match d with
  | .dic ks _ => .ok (ks.map dKey) S
  | _ => .bad
def iValsD (f : EM) : LM := fun env S => (f env S).bindL fun d S => match d with
  | .dic _ ds => .ok ds S
  | _ => .bad
def itemsD (ks : List Key) (ds : List D) : List D := (ks.zip ds).map fun p => .tup [dKey p.1, p.2]
def iItemsD (f : EM) : LM := fun env S => (f env S).bindL fun d S => match d with
  | .dic ks ds => .ok (itemsD ks ds) S
  | _ => .bad
theorem feeds_keys {φ : Fi} {H : Hp} {a : Addr} {od : Obj} {ks : List Key} {kvs : List (Key × V)} (n : φ.out a) (h : H a = some (.frz od (.dK kvs))) (e : kvs.map (·.1) = ks) : Feeds G φ H (Itk a od kvs) (ks.map dKey) := by
  have hl : ks.length = kvs.length := by rw [← e]; simp
  refine ⟨fun φ2 S2 H2 i d k s hd => ?_, fun φ2 S2 H2 k s => ⟨(k.frz _ _ _ n h).2, by simp [hl]⟩⟩
  obtain ⟨h1, h2⟩ := List.getElem?_eq_some_iff.mp hd
  simp at h1 h2
  refine ⟨⟨(k.frz _ _ _ n h).2, by omega⟩, fun x H3 ⟨e3, k', v', hk, ex⟩ => ?_⟩
  subst e3 ex
  have hk' : ks[i]? = some k' := by rw [← e]; simp [hk]
  have : ks[i] = k' := by rw [List.getElem?_eq_getElem h1] at hk'; exact Option.some.inj hk'
  subst h2
  rw [this]
  exact ⟨.refl, s, is_dKey k'⟩
section
variable {tg e : Expr} {f : EM} {apos cpos : Pos}
theorem lock_to {te : TE} {σ : L2.St} {H : Hp} {env : EnvD} {φ : Fi} {S : Store} {g : D → Store → LR} {R : It → Hp → Prop} {Q : VK}
    (q : ∀ σ H env φ S Q, SOk G φ S H → RepE G φ H σ env → PostE G W φ H σ (f env S) Q → te σ H Q) (s : SOk G φ S H) (re : RepE G φ H σ env) (h : PostI G W φ H σ ((f env S).bindL g) R) (hb : ∀ d S, (∀ ks ds, d ≠ .dic ks ds) → g d S = .bad)
    (k : ∀ ks ds S1 φ1 H1 a od kvs, Ext φ H φ1 H1 → SOk G φ1 S1 H1 → φ1.out a → H1 a = some (.frz od (.dK kvs)) → kvs.map (·.1) = ks → IsL G φ1 H1 ds (kvs.map (·.2)) → PostI G W φ1 H1 σ (g (.dic ks ds) S1) R → Q (.ref a) H1) : tLockR te σ H Q := by
  refine q σ H env φ S _ s re ?_
  cases hr : f env S with
  | bad => rw [hr] at h; exact False.elim h
  | ex x S1 => rw [hr] at h; exact h
  | ok d S1 =>
    rw [hr] at h
    intro φ1 H1 v e1 s1 i1
    have h' : PostI G W φ H σ (g d S1) R := h
    have hx : PostI G W φ1 H1 σ (g d S1) R := by
      cases hg : g d S1 with
      | bad => rw [hg] at h'; exact h'
      | ok ds S2 => rw [hg] at h'; exact fun φ2 H2 J e2 s2 fd => h' φ2 H2 J (e1.trans e2) s2 fd
      | ex x S2 => rw [hg] at h'; exact fun φ2 H2 c dx e2 s2 fd => h' φ2 H2 c dx (e1.trans e2) s2 fd
    by_cases hd : ∃ ks ds, d = .dic ks ds
    · obtain ⟨ks, ds, rfl⟩ := hd
      obtain ⟨a, kvs, rfl, ⟨n, r⟩, ek, il⟩ := i1
      refine ⟨a, kvs, rfl, ?_⟩
      rcases r with r | ⟨od, r⟩
      · refine .inr ⟨r, fun od => ?_⟩
        have el : Ext φ1 H1 φ1 (upd H1 a (.frz od (.dK kvs))) := .lock n r
        refine k ks ds S1 φ1 _ a od kvs (e1.trans el) (s1.lock n r) n upd_same ek (il.ext el) ?_
        cases hg : g (.dic ks ds) S1 with
        | bad => rw [hg] at hx; exact hx
        | ok ds S2 => rw [hg] at hx; exact fun φ2 H2 J e2 s2 fd => hx φ2 H2 J (el.trans e2) s2 fd
        | ex x S2 => rw [hg] at hx; exact fun φ2 H2 c dx e2 s2 fd => hx φ2 H2 c dx (el.trans e2) s2 fd
      · exact .inl ⟨od, r, k ks ds S1 φ1 H1 a od kvs e1 s1 n r ek il hx⟩
    · rw [hb d S1 fun ks ds z => hd ⟨ks, ds, z⟩] at hx
      exact False.elim hx
theorem di_keys (he : DE G X W e f) : DI G X W tg e (iKeysD f) := by
  obtain ⟨t, p, q⟩ := he
  refine ⟨_, pi_keys (pe_lockR p), fun σ H env φ S R s re h => ?_⟩
  refine lock_to q s re h (fun d S hd => ?_) fun ks ds S1 φ1 H1 a od kvs e1 s1 n r ek il hx => ⟨a, od, rfl, .inl ⟨kvs, r, hx φ1 H1 _ .refl s1 (feeds_keys n r ek)⟩⟩
  cases d with
  | dic ks ds => exact absurd rfl (hd ks ds)
  | _ => rfl
/-- a list, a tuple, or a dict by its keys -/
def iAny (f : EM) : LM := fun env S => (f env S).bindL fun d S => match d with
  | .lst ds => .ok ds S
  | .tup ds => .ok ds S
  | .str x => .ok (signsD x) S
  | .dic ks _ => .ok (ks.map dKey) S
  | _ => .bad
theorem di_any (hK : X.K = G.K) (he : DE G X W e f) : DI G X W tg e (iAny f) := by
  obtain ⟨w1, p1, q1⟩ := di_seq (W := W) (tg := tg) hK he
  obtain ⟨w2, p2, q2⟩ := di_keys (W := W) (tg := tg) he
  refine ⟨_, PI.or p1 p2, fun σ H env φ S R s re h => ?_⟩
  unfold iAny at h
  cases hr : f env S with
  | bad => rw [hr] at h; exact False.elim h
  | ex x S1 =>
    rw [hr] at h
    exact .inl (q1 σ H env φ S _ s re (by unfold iSeq; rw [hr]; exact h))
  | ok d S1 =>
    rw [hr] at h
    cases d with
    | lst ds => exact .inl (q1 σ H env φ S _ s re (by unfold iSeq; rw [hr]; exact h))
    | tup ds => exact .inl (q1 σ H env φ S _ s re (by unfold iSeq; rw [hr]; exact h))
    | str x => exact .inl (q1 σ H env φ S _ s re (by unfold iSeq; rw [hr]; exact h))
    | dic ks ds => exact .inr (q2 σ H env φ S _ s re (by unfold iKeysD; rw [hr]; exact h))
    | _ => exact False.elim h
end
end DL
end
section
/-! D-layer, part 12: enumerate and zip over lists and tuples in any mixture. -/
namespace DL
open PySem PySem.Spec PyProof.Rows L2
variable {G : Glb} {X : Cx} {W : WX}
def SqG (K : PySem.W.Frag) : Bool → Hp → Addr → List V → Prop
  | false => SqL K
  | true => SqT K
def HasG : Bool → Heap → Addr → Array Value → Prop
  | false => fun h a its => h.IsList a its
  | true => fun h a its => h.IsTuple a its
def IterG : Bool → Heap → Addr → Addr → Nat → Prop
  | false => fun h it a i => h.IsListIter it a i
  | true => fun h it a i => h.IsTupleIter it a i
def begO : Bool → Addr → Obj
  | false => fun a => { cls := .type "list_iterator", data := .fields #[.ref a, .int 0 0] }
  | true => fun a => { cls := .type "tuple_iterator", data := .fields #[.ref a, .int 0 0] }
theorem begO_at : ∀ (t : Bool) {h : Heap} {it a : Addr}, h.get? it = some (begO t a) → IterG t h it a 0
  | false, _, _, _, e => ⟨_, e, rfl, rfl⟩
  | true, _, _, _, e => ⟨_, e, rfl, rfl⟩
theorem beginsG : ∀ (t : Bool) (a : Addr) (its : Array Value), Begins (.ref a) (begO t a) fun h => HasG t h a its
  | false, a, its => begins_list a its
  | true, a, its => begins_tuple a its
theorem drawsG {prog : Program} {w : World} {A : Around} (hh : A.handled = none) : ∀ (t : Bool) (it a : Addr) (hne : a ≠ it) (its : Array Value), Draws prog w A it [it, a] its.size (fun i v => its[i]? = some v) (fun i h => IterG t h it a i ∧ HasG t h a its)
  | false, it, a, hne, its => Draws.list hh it a hne its
  | true, it, a, hne, its => Draws.tuple hh it a hne its
theorem IterG.at : ∀ {t : Bool} {h h' : Heap} {it a : Addr} {i : Nat}, IterG t h it a i → (∀ o, h.get? it = some o → h'.get? it = some o) → IterG t h' it a i
  | false, _, _, _, _, _, st, k => Heap.IsListIter.at st k
  | true, _, _, _, _, _, st, k => let ⟨o, e, r⟩ := st; ⟨o, k o e, r⟩
theorem IterG.obj : ∀ {t : Bool} {h : Heap} {it a : Addr} {i : Nat}, IterG t h it a i → ∃ o, h.get? it = some o ∧ ∀ v, o.data ≠ .cell v
  | false, _, _, _, _, ⟨o, e, _, d⟩ => ⟨o, e, fun v q => by rw [d] at q; cases q⟩
  | true, _, _, _, _, ⟨o, e, _, d⟩ => ⟨o, e, fun v q => by rw [d] at q; cases q⟩
theorem HasG.cls : ∀ {t : Bool} {h : Heap} {a : Addr} {its : Array Value}, HasG t h a its → ∃ o, h.get? a = some o ∧ o.cls = .type (if t then "tuple" else "list")
  | false, _, _, _, p => let ⟨o, e, c, _⟩ := p; ⟨o, e, c⟩
  | true, _, _, _, p => let ⟨o, e, c, _⟩ := p; ⟨o, e, c⟩
theorem IterG.cls : ∀ {t : Bool} {h : Heap} {it a : Addr} {i : Nat}, IterG t h it a i → ∃ o, h.get? it = some o ∧ o.cls = .type (if t then "tuple_iterator" else "list_iterator")
  | false, _, _, _, _, p => let ⟨o, e, c, _⟩ := p; ⟨o, e, c⟩
  | true, _, _, _, _, p => let ⟨o, e, c, _⟩ := p; ⟨o, e, c⟩
theorem HasG.ne_cls {t : Bool} {h : Heap} {a b : Addr} {its : Array Value} (p : HasG t h a its) {o : Obj} {n : String} (e : h.get? b = some o) (c : o.cls = .type n) (h1 : n ≠ "tuple") (h2 : n ≠ "list") : a ≠ b := fun z => by
  subst z
  obtain ⟨o', e', c'⟩ := p.cls
  rw [e] at e'; cases e'
  rw [c] at c'
  have q := Value.type.inj c'
  cases t
  · exact h2 q
  · exact h1 q
theorem HasG.ne_it {t t' : Bool} {h : Heap} {a it a' : Addr} {i : Nat} {its : Array Value} (p : HasG t h a its) (q : IterG t' h it a' i) : a ≠ it := by
  obtain ⟨o, e, c⟩ := q.cls
  cases t'
  · exact p.ne_cls e c (by decide) (by decide)
  · exact p.ne_cls e c (by decide) (by decide)
theorem HasG.apart {t : Bool} {h : Heap} {a e it : Addr} {i : Nat} {j : Int} {old : Value} {its : Array Value} (p : HasG t h a its) (he : IsEnum h e it j old) (q : IterG t h it a i) : a ≠ e ∧ a ≠ it :=
  ⟨p.ne_cls he rfl (by decide) (by decide), p.ne_it q⟩
section
variable {pins : List (Addr × Obj)} {σ : L2.St} {H : Hp} {s : Shared} {a : Addr} {xs : List V}
theorem seqG (I : Inv X pins σ H s) : ∀ {t : Bool}, SqG X.K t H a xs → ∃ its : List Value, Vals xs its ∧ HasG t s.heap a its.toArray ∧ a < s.heap.objs.size
  | false, h => let ⟨its, r, p, _⟩ := I.list h; ⟨its, r, p.isList, p.lt⟩
  | true, h => let ⟨its, r, p, _⟩ := I.tuple h; ⟨its, r, p, by obtain ⟨_, q, _⟩ := p; exact Heap.lt_size q⟩
theorem seqG_inj (I : Inv X pins σ H s) {ys : List V} : ∀ {t : Bool}, SqG X.K t H a xs → SqG X.K t H a ys → xs = ys
  | false, h, h' => I.list_inj h h'
  | true, h, h' => I.tuple_inj h h'
end
/-! ### enumerate -/
def IteG (K : PySem.W.Frag) (t : Bool) (a : Addr) : It :=
  ⟨fun i H => ∃ (xs : List V) (x : V), SqG K t H a xs ∧ xs[i]? = some x, fun i H v H' => ∃ T x, v = .ref T ∧ H T = none ∧ H' = upd H T (.tup [.int (i : Nat), x]) ∧ ∀ xs, SqG K t H a xs → xs[i]? = some x, fun i H => ∃ xs : List V, SqG K t H a xs ∧ xs.length = i⟩
theorem turn_enumG {P : Program} {w : World} {K : PySem.W.Frag} {elts : List Expr} {kk : Nat} {tpos : Pos} (t : Bool) (a e it : Addr) :
    Turn P w K (.Tuple elts kk tpos) (IteG K t a) [e, it] e (fun i h => (∃ old, IsEnum h e it ((i : Nat) : Int) old) ∧ IterG t h it a i ∧ e ≠ it) where
  mem := by simp
  obj := fun i h st b hb => by
    obtain ⟨⟨old, he⟩, hi, _⟩ := st
    have e' : b = e ∨ b = it := by simpa using hb
    rcases e' with z | z
    · rw [z]; exact ⟨_, he, fun v q => nomatch q⟩
    · rw [z]; exact hi.obj
  keep := fun i h h' st k => let ⟨⟨old, he⟩, hi, hne⟩ := st; ⟨⟨old, k e (by simp) _ he⟩, hi.at fun o q => k it (by simp) o q, hne⟩
  item := by
    intro X hP hw hK hc i pins s σ H E I hf st hg
    subst hP hw hK
    obtain ⟨⟨old, he⟩, hit, hne⟩ := st
    obtain ⟨xs, x, hq, hx⟩ := hg
    obtain ⟨its, rv, p, hl⟩ := seqG I hq
    obtain ⟨u, hu, ru⟩ := rv.get hx
    have hel : e < s.heap.objs.size := Heap.lt_size he
    have hil : it < s.heap.objs.size := by obtain ⟨_, q, _⟩ := hit.obj; exact Heap.lt_size q
    have hab : a ≠ e ∧ a ≠ it := p.apart he hit
    have hi : i < its.toArray.size := by
      have := (List.getElem?_eq_some_iff.mp hu).1
      simpa using this
    have D := drawsG (prog := X.prog) (w := X.w) (A := X.A.in1) (I.ok.hd hc) t it a hab.2 its.toArray
    refine wpAny_pyNext_enum_itemD D he ⟨hit, p⟩ hi hne (fun z => by
      have z' : e = it ∨ e = a := by simpa using z
      exact z'.elim hne fun z => hab.1 z.symm) fun x' h' tk hPx ho hst' hT hsz hk => ?_
    have ex : x' = u := by
      have q : its.toArray[i]? = some u := by simpa using hu
      rw [q] at hPx; exact (Option.some.inj hPx).symm
    subst ex
    refine ⟨_, rfl, wpAny_letOwnedTupleGo_enum (s := { s with heap := h', toks := tk + 1 }) ho fun h'' he' sb => ?_⟩
    have hT2 : h''.get? s.heap.objs.size = some { cls := .type "tuple", data := .seq #[.int i tk, x'] } := (sb.2 _ (Nat.ne_of_gt hel)).trans hT
    have new : ObjOk X.prog X.w (upd H s.heap.objs.size (.tup [.int (i : Nat), x])) h'' s.heap.objs.size (.tup [.int (i : Nat), x]) :=
      ⟨by show 2 ≤ sizeLine; decide, [.int i tk, x'], .cons ⟨_, rfl⟩ (.cons ru .nil), ⟨_, hT2, rfl, _, rfl⟩⟩
    have I1 : Inv X pins σ (upd H s.heap.objs.size (.tup [.int (i : Nat), x])) { s with heap := h'', toks := tk + 1 } :=
      I.turnedNew (ch := [e, it]) (fun b ob hb q => (sb.2 b (fun z => hb (by simp [z]))).trans (hk b ob (fun z => hb (by simp [z])) (fun z => hb (by simp [z])) q)) hf (Nat.le_refl _) new
    refine ⟨.ref s.heap.objs.size, _, I1, rfl, ⟨_, x, rfl, I.hok.fresh (Nat.le_refl _), rfl, fun ys hy => by rw [seqG_inj I hy hq]; exact hx⟩, ⟨⟨x', ?_⟩, hst'.1.at fun o q => (sb.2 it (Ne.symm hne)).trans q, hne⟩, fun b hb => ?_⟩
    · have e1 : ((i + 1 : Nat) : Int) = (i : Int) + 1 := by omega
      rw [e1]; exact he'
    · have hb' : b < s.heap.objs.size := by
        have e' : b = e ∨ b = it := by simpa using hb
        rcases e' with z | z
        · rw [z]; exact hel
        · rw [z]; exact hil
      rw [upd_ne (Nat.ne_of_lt hb')]
      exact (hf b hb).1
  done := by
    intro X hP hw hK hc i pins s σ H E I hf st hg
    subst hP hw hK
    obtain ⟨⟨old, he⟩, hit, hne⟩ := st
    obtain ⟨xs, hq, hx⟩ := hg
    obtain ⟨its, rv, p, hl⟩ := seqG I hq
    obtain ⟨f0, f1, f2, f3, f4, f5⟩ := hf it (by simp)
    have hl := rv.length
    have hab : a ≠ e ∧ a ≠ it := p.apart he hit
    have D := drawsG (prog := X.prog) (w := X.w) (A := X.A.in1) (I.ok.hd hc) t it a hab.2 its.toArray
    have ei : i = its.toArray.size := by simp; omega
    subst ei
    exact wpAny_pyNext_enum_endD D he ⟨hit, p⟩ fun h' eb => ⟨rfl, I.turned (t' := s.toks) (fun b o hb q => eb b o hb q) f0 f1 f3 f4 f5⟩
  self := fun A i s Q E st h => let ⟨⟨_, he⟩, _⟩ := st; wpAny_pyIter_enum he h
/-! ### the call of enumerate -/
theorem meets_enumerate_new1 {v : Value} {o : Obj} {H : Heap → Prop} (B : Begins v o H) :
    Meets (Builtin.«enumerate.__new__» ⟨[.type "enumerate", v], []⟩) (fun _ R s => H s.heap ∧
      R (.ok (.ret (.ref (s.heap.push o).objs.size))) { s with heap := (s.heap.push o).push { cls := .type "enumerate", data := .fields #[.none, .bool false, .ref s.heap.objs.size, rawInt 0, .none, .none] } }) :=
  .of_wp fun prog w A R s h => by
    obtain ⟨hp, g, d, tk, os⟩ := s; obtain ⟨h1, h⟩ := h
    have hsub := sub_enumerate
    have q1 : ∀ {A' : Around} {E : Value → Shared → Prop} {Q : Value → Shared → Prop}, Q (.ref hp.objs.size) ⟨hp.push o, g, d, tk, os⟩ → wpAny (model prog w) A' (pyIter v) Q E ⟨hp, g, d, tk, os⟩ :=
      fun q => B.iter prog w _ _ ⟨hp, g, d, tk, os⟩ _ h1 q
    wp_walk using q1
    refine wpAny_stack_any fun st => wpAny_pure ?_
    split
    · rename_i c _ _ _ _ _
      cases (c == Value.type "enumerate")
      · wp_walk using q1
        exact ⟨_, rfl, h⟩
      · wp_walk using q1
        exact ⟨_, rfl, h⟩
    · wp_walk using q1
      exact ⟨_, rfl, h⟩
theorem enum_begins1 {prog : Program} {w : World} {A : Around} {E : Value → Shared → Prop} {s : Shared} {v : Value} {o : Obj} {H : Heap → Prop} {Q : Value → Shared → Prop} (B : Begins v o H) (h1 : H s.heap)
    (h : ∀ h', IsEnum h' (s.heap.objs.size + 1) s.heap.objs.size 0 .none → h'.get? s.heap.objs.size = some o → h'.objs.size = s.heap.objs.size + 2 →
      (∀ b o, s.heap.get? b = some o → h'.get? b = some o) → Q (.ref (s.heap.objs.size + 1)) { s with heap := h' }) :
    wpAny (model prog w) A (call (.type "enumerate") [v]) Q E s := by
  refine callType_new F.called_enumerate (by decide) (F.typeCall_enumerate_1 _) (F.newCall_enumerate_1 _) (fun obj => F.args_object_init_2 obj _) F.entry_enumerate_new
    (meets_enumerate_new1 B) ⟨h1, ?_⟩
  have hz : (s.heap.push o).objs.size = s.heap.objs.size + 1 := Heap.size_push ..
  show _ ∧ _
  rw [hz]
  have he : IsEnum ((s.heap.push o).push { cls := .type "enumerate", data := .fields #[.none, .bool false, .ref s.heap.objs.size, rawInt 0, .none, .none] }) (s.heap.objs.size + 1) s.heap.objs.size 0 .none := by
    have := Heap.get?_push_size (s.heap.push o) (o := { cls := .type "enumerate", data := .fields #[.none, .bool false, .ref s.heap.objs.size, rawInt 0, .none, .none] }) rfl
    rw [hz] at this; exact this
  refine ⟨⟨_, he, rfl⟩, h _ he (Heap.get?_push_of_some _ (Heap.get?_push_size _ B.free)) (by rw [Heap.size_push, hz]) fun b o x => Heap.get?_push_of_some _ (Heap.get?_push_of_some _ x)⟩
def iEnumG (K : PySem.W.Frag) (ta : TA) : TI := fun σ H R => ta σ H fun vs H1 => ∃ t a xs, vs = [.ref a] ∧ SqG K t H1 a xs ∧ R (IteG K t a) H1
theorem pi_enumG {e : Expr} {ta : TA} {p pos tpos : Pos} {elts : List Expr} {kk : Nat} (hg : Gl X "enumerate") (hm : X.mg "enumerate" = none) (ha : PA X [e] ta) (hs : starEach [e] X.env = [(false, eval e X.env)] := by rfl) :
    PI X (.Tuple elts kk tpos) (.Call (.Name "enumerate" p) [e] [] pos) (iEnumG X.K ta) := by
  refine ⟨fun pins s σ H R I h => ?_⟩
  refine Call_ (ld_blt I hg hm boot_enumerate (PyProof.Rows.callWith_type1 (thn (ha.run pos pins s σ H _ I h) fun us s1 ⟨vs, H1, I1, r1, q1⟩ => ?_) hs rfl))
  obtain ⟨t, a, xs, ex, hq, q⟩ := q1
  subst ex
  cases r1 with
  | cons r rr =>
    cases rr
    cases r
    obtain ⟨its, rv, p', hz⟩ := seqG I1 hq
    refine enum_begins1 (beginsG t a its.toArray) p' fun h' he hit hsz hk => wpAny_pyIter_enum he ?_
    have I2 : Inv X pins σ H1 { s1 with heap := h' } := I1.kept (t' := s1.toks) hk
    refine ⟨s1.heap.objs.size + 1, [s1.heap.objs.size + 1, s1.heap.objs.size], _, _, H1, rfl, I2, turn_enumG t a (s1.heap.objs.size + 1) s1.heap.objs.size, ⟨⟨.none, he⟩, begO_at t hit, Nat.succ_ne_self _⟩, fun b hb => ?_, q⟩
    have e' : b = s1.heap.objs.size + 1 ∨ b = s1.heap.objs.size := by simpa using hb
    have hle : s1.heap.objs.size ≤ b := by
      rcases e' with z | z
      · rw [z]; exact Nat.le_add_right _ _
      · rw [z]; exact Nat.le_refl _
    exact I1.fpOk hle (I1.hok.fresh hle)
/-! ### zip of 2 -/
/-! ### zip of 3 -/
/-! ### as data -/
def RdG (G : Glb) (φ : Fi) (H : Hp) : Bool → Addr → List V → Prop
  | false => RdL G φ H
  | true => RdT G φ H
theorem RdG.kept {φ φ' : Fi} {H H' : Hp} (k : Kept φ H φ' H') : ∀ {t : Bool} {a : Addr} {xs : List V}, RdG G φ H t a xs → RdG G φ' H' t a xs
  | false, _, _, h => RdL.kept k h
  | true, _, _, h => RdT.kept k h
theorem RdG.seq {φ : Fi} {H : Hp} : ∀ {t : Bool} {a : Addr} {xs : List V}, RdG G φ H t a xs → SqG G.K t H a xs
  | false, _, _, h => RdL.seq h
  | true, _, _, h => RdT.seq h
/-- the items of a list or a tuple -/
def seqO (d : D) : Option (List D) := match d with
  | .lst ds => some ds
  | .tup ds => some ds
  | _ => none
@[simp] theorem seqO_lst {ds : List D} : seqO (.lst ds) = some ds := rfl
@[simp] theorem seqO_tup {ds : List D} : seqO (.tup ds) = some ds := rfl
theorem seqO_is {φ : Fi} {H : Hp} {d : D} {ds : List D} {v : V} (i : Is G φ H d v) (h : seqO d = some ds) : ∃ t a xs, v = .ref a ∧ RdG G φ H t a xs ∧ IsL G φ H ds xs := by
  cases d with
  | lst es => cases h; obtain ⟨a, xs, e, r, q⟩ := i; exact ⟨false, a, xs, e, r, q⟩
  | tup es => cases h; obtain ⟨a, xs, e, r, q⟩ := i; exact ⟨true, a, xs, e, r, q⟩
  | _ => cases h
theorem feeds_enumG {φ : Fi} {H : Hp} {t : Bool} {a : Addr} {xs : List V} {ds : List D} (r : RdG G φ H t a xs) (q : IsL G φ H ds xs) : Feeds G φ H (IteG G.K t a) (enumD 0 ds) := by
  refine ⟨fun φ2 S2 H2 i d e s hd => ?_, fun φ2 S2 H2 e s => ⟨xs, (r.kept e).seq, by rw [enumD_length, q.length]⟩⟩
  obtain ⟨d1, hd1, rfl⟩ := enumD_get 0 ds i d hd
  obtain ⟨x, hx, k⟩ := q.get hd1
  refine ⟨⟨xs, x, (r.kept e).seq, hx⟩, fun y H3 ⟨T, x', e3, hT, e4, hy⟩ => ?_⟩
  subst e3 e4
  have z := hy xs (r.kept e).seq
  rw [hx] at z; cases z
  refine ⟨.laid hT, s.laid hT, T, _, rfl, .inl ⟨s.fresh hT, .inl upd_same⟩, ?_⟩
  refine .cons ?_ (.one ((k.kept e).ext (.laid hT)))
  show V.int _ = V.int _
  rw [Nat.zero_add]
def iEnumX (f : LM) : LM := fun env S => (f env S).bind fun ds S => match ds with
  | [d] => match seqO d with
    | some ds => .ok (enumD 0 ds) S
    | none => .bad
  | _ => .bad
theorem di_enumX {e : Expr} {p pos tpos : Pos} {elts : List Expr} {kk : Nat} {f : LM} (hK : X.K = G.K) (hg : Gl X "enumerate") (hm : X.mg "enumerate" = none) (ha : DA G X W [e] f) (hs : starEach [e] X.env = [(false, eval e X.env)] := by rfl) : DI G X W (.Tuple elts kk tpos) (.Call (.Name "enumerate" p) [e] [] pos) (iEnumX f) := by
  obtain ⟨t, pt, q⟩ := ha
  refine ⟨_, pi_enumG hg hm pt hs, fun σ H env φ S R s re h => ?_⟩
  refine q σ H env φ S _ s re (PostL.toI h fun ds S1 φ1 H1 vs e1 s1 i1 h1 => ?_)
  split at h1
  · split at h1
    · rename_i d _ ds g1
      obtain ⟨x, rfl, k⟩ := IsL.inv1 i1
      obtain ⟨t, a, xs, rfl, rd, il⟩ := seqO_is k g1
      refine ⟨t, a, xs, rfl, by rw [hK]; exact rd.seq, ?_⟩
      rw [hK]
      exact h1 φ1 H1 _ .refl s1 (feeds_enumG rd il)
    · exact False.elim h1
  · exact False.elim h1
def iZip2X (f : LM) : LM := fun env S => (f env S).bind fun ds S => match ds with
  | [d1, d2] => match seqO d1, seqO d2 with
    | some ds1, some ds2 => .ok (zipD ds1 ds2) S
    | _, _ => .bad
  | _ => .bad
def zipD3X : List D → List D → List D → List D
  | d1 :: ds1, d2 :: ds2, d3 :: ds3 => .tup [d1, d2, d3] :: zipD3X ds1 ds2 ds3
  | _, _, _ => []
def iZip3X (f : LM) : LM := fun env S => (f env S).bind fun ds S => match ds with
  | [d1, d2, d3] => match seqO d1, seqO d2, seqO d3 with
    | some ds1, some ds2, some ds3 => .ok (zipD3X ds1 ds2 ds3) S
    | _, _, _ => .bad
  | _ => .bad
section
variable {env : EnvD} {S : Store}
@[simp] theorem iEnumX_is {f : LM} : iEnumX f env S = (f env S).bind fun ds S => match ds with
  | [d] => match seqO d with
    | some ds => .ok (enumD 0 ds) S
    | none => .bad
  | _ => .bad := rfl
@[simp] theorem iZip2X_is {f : LM} : iZip2X f env S = (f env S).bind fun ds S => match ds with
  | [d1, d2] => match seqO d1, seqO d2 with
    | some ds1, some ds2 => .ok (zipD ds1 ds2) S
    | _, _ => .bad
  | _ => .bad := rfl
@[simp] theorem iZip3X_is {f : LM} : iZip3X f env S = (f env S).bind fun ds S => match ds with
  | [d1, d2, d3] => match seqO d1, seqO d2, seqO d3 with
    | some ds1, some ds2, some ds3 => .ok (zipD3X ds1 ds2 ds3) S
    | _, _, _ => .bad
  | _ => .bad := rfl
@[simp] theorem iAny_is {f : EM} : iAny f env S = (f env S).bindL fun d S => match d with
  | .lst ds => .ok ds S
  | .tup ds => .ok ds S
  | .str x => .ok (signsD x) S
  | .dic ks _ => .ok (ks.map dKey) S
  | _ => .bad := rfl
@[simp] theorem iValsD_is {f : EM} : iValsD f env S = (f env S).bindL fun d S => match d with
  | .dic _ ds => .ok ds S
  | _ => .bad := rfl
@[simp] theorem iItemsD_is {f : EM} : iItemsD f env S = (f env S).bindL fun d S => match d with
  | .dic ks ds => .ok (itemsD ks ds) S
  | _ => .bad := rfl
end
end DL
end
section
/-! D-layer, part 13: dict comprehensions. -/
namespace DL
open PySem L2
variable {G : Glb} {X : Cx} {W : WX}
abbrev Kds := List (Key × D)
noncomputable def dcD (b : D → EnvD → Option EnvD) (tt ek ev : EM) (env : EnvD) : Kds → List D → Store → Option (Kds × Store)
  | acc, [], S => some (acc, S)
  | acc, d :: ds, S => match b d env with
    | none => none
    | some e1 => match tt e1 S with
      | .ok (.bl true) S1 => match ek e1 S1 with
        | .ok kd S2 => match ev e1 S2 with
          | .ok y S3 => match keyD kd with
            | some k => if sz (acc.length + 1) then dcD b tt ek ev env (putD acc k y) ds S3 else none
            | none => none
          | _ => none
        | _ => none
      | .ok (.bl false) S1 => dcD b tt ek ev env acc ds S1
      | _ => none
noncomputable def eDc (f : LM) (b : D → EnvD → Option EnvD) (tt ek ev : EM) (vs : List Nat) : EM := fun env S => (f env S).bindE fun ds S => match dcD b tt ek ev (wipeD env vs) [] ds S with
  | some (acc, S) => .ok (.dic (acc.map (·.1)) (acc.map (·.2))) S
  | none => .bad
noncomputable def eDcM (f : LM) (b : D → EnvD → Option EnvD) (tt ek ev : EM) (vs : List Nat) : EM := fun env S => (f env S).bindE fun ds S => match dcD b tt ek ev (wipeD env vs) [] ds S with
  | some (acc, S) => .ok (.loc S.length) (S ++ [.dic acc])
  | none => .bad
theorem KvIs.kept {φ φ' : Fi} {H H' : Hp} {kds : List (Key × D)} {kvs : List (Key × V)} (k : Kept φ H φ' H') (q : KvIs G φ H kds kvs) : KvIs G φ' H' kds kvs := ⟨q.1, q.2.kept k⟩
section
variable {kx vx tg iter : Expr} {ifs : List Expr} {scope : Scope} {own : List (PySem.Str × Nat)} {pos : Pos} {f : LM} {b : D → EnvD → Option EnvD} {ft fk fe : EM} {vs : List Nat}
end

/-! ### a dict comprehension bound to a local name -/
section
variable {kx vx tg iter : Expr} {ifs : List Expr} {scope : Scope} {own : List (PySem.Str × Nat)} {pos : Pos} {f : LM} {b : D → EnvD → Option EnvD} {ft fk fe : EM} {vs : List Nat}
end
section
variable {env : EnvD} {S : Store}
@[simp] theorem eDc_is {f : LM} {b : D → EnvD → Option EnvD} {tt ek ev : EM} {vs : List Nat} : eDc f b tt ek ev vs env S = (f env S).bindE fun ds S => match dcD b tt ek ev (wipeD env vs) [] ds S with
  | some (acc, S) => .ok (.dic (acc.map (·.1)) (acc.map (·.2))) S
  | none => .bad := rfl
@[simp] theorem eDcM_is {f : LM} {b : D → EnvD → Option EnvD} {tt ek ev : EM} {vs : List Nat} : eDcM f b tt ek ev vs env S = (f env S).bindE fun ds S => match dcD b tt ek ev (wipeD env vs) [] ds S with
  | some (acc, S) => .ok (.loc S.length) (S ++ [.dic acc])
  | none => .bad := rfl
end

/-! ### two fors in a list comprehension -/
def iOf (G : Glb) (f : LM) : TI := fun σ H R => ∃ env φ S, SOk G φ S H ∧ RepE G φ H σ env ∧ PostI G W0 φ H σ (f env S) R
theorem DI.can {tg e : Expr} {f : LM} (h : DI G X W0 tg e f) : PI X tg e (iOf G f) := by
  obtain ⟨t, p, q⟩ := h
  exact ⟨fun pins s σ H R I ⟨env, φ, S, so, r, z⟩ => p.run pins s σ H R I (q σ H env φ S R so r z)⟩
noncomputable def lc2D (b : D → EnvD → Option EnvD) (tt : EM) (f1 : LM) (b1 : D → EnvD → Option EnvD) (tt1 elt : EM) (vs1 : List Nat) (env : EnvD) : List D → List D → Store → LR
  | acc, [], S => .ok acc S
  | acc, d :: ds, S => match b d env with
    | none => .bad
    | some e1 => match tt e1 S with
      | .ok (.bl true) S1 => match f1 e1 S1 with
        | .ok ds1 S2 => match lcD b1 tt1 elt (wipeD e1 vs1) acc ds1 S2 with
          | .ok acc' S3 => lc2D b tt f1 b1 tt1 elt vs1 env acc' ds S3
          | _ => .bad
        | _ => .bad
      | .ok (.bl false) S1 => lc2D b tt f1 b1 tt1 elt vs1 env acc ds S1
      | _ => .bad
noncomputable def eLc2 (f : LM) (b : D → EnvD → Option EnvD) (tt : EM) (f1 : LM) (b1 : D → EnvD → Option EnvD) (tt1 elt : EM) (vs1 vs : List Nat) : EM := fun env S => (f env S).bindE fun ds S => (lc2D b tt f1 b1 tt1 elt vs1 (wipeD env vs) [] ds S).bindE fun ys S => .ok (.lst ys) S
noncomputable def eLc2M (f : LM) (b : D → EnvD → Option EnvD) (tt : EM) (f1 : LM) (b1 : D → EnvD → Option EnvD) (tt1 elt : EM) (vs1 vs : List Nat) : EM := fun env S => (f env S).bindE fun ds S => (lc2D b tt f1 b1 tt1 elt vs1 (wipeD env vs) [] ds S).bindE fun ys S => .ok (.loc S.length) (S ++ [.lst ys])
section
variable {elt tg iter tg1 iter1 : Expr} {ifs ifs1 : List Expr} {scope : Scope} {own : List (PySem.Str × Nat)} {pos : Pos} {f f1 : LM} {b b1 : D → EnvD → Option EnvD} {ft ft1 fe : EM} {vs vs1 ws1 : List Nat}
end
section
variable {env : EnvD} {S : Store}
@[simp] theorem eLc2_is {f f1 : LM} {b b1 : D → EnvD → Option EnvD} {tt tt1 elt : EM} {vs1 vs : List Nat} : eLc2 f b tt f1 b1 tt1 elt vs1 vs env S = (f env S).bindE fun ds S => (lc2D b tt f1 b1 tt1 elt vs1 (wipeD env vs) [] ds S).bindE fun ys S => .ok (.lst ys) S := rfl
@[simp] theorem eLc2M_is {f f1 : LM} {b b1 : D → EnvD → Option EnvD} {tt tt1 elt : EM} {vs1 vs : List Nat} : eLc2M f b tt f1 b1 tt1 elt vs1 vs env S = (f env S).bindE fun ds S => (lc2D b tt f1 b1 tt1 elt vs1 (wipeD env vs) [] ds S).bindE fun ys S => .ok (.loc S.length) (S ++ [.lst ys]) := rfl
end
end DL
end
section
/-! list(d.values()), sorted(d.values()). -/
namespace L2
open PySem PySem.Spec PyProof.Rows
section
variable {X : Cx} {e : Expr} {te : TE} {p apos cpos pos : Pos}
end
end L2
end
section
/-! D-layer, part 14: dicts as arguments: list(d.values()), sorted(d.values()), sorted(d), dict(pairs). -/
namespace DL
open PySem L2
variable {G : Glb} {X : Cx} {W : WX}
def eListVals (f : EM) : EM := fun env S => (f env S).bind fun d S => match d with
  | .dic _ ds => .ok (.lst ds) S
  | _ => .bad
def eSortVals (f : EM) : EM := fun env S => (f env S).bind fun d S => match d with
  | .dic _ ds => match intsD ds with
    | some ns => if ns.length < 64 then .ok (.lst ((sortI ns).map .int)) S else .bad
    | none => .bad
  | _ => .bad
/-- a dict's keys, whole numbers -/
def intKeys : List (Key × D) → Option (List Int)
  | [] => some []
  | (.inl i, _) :: r => (intKeys r).map (i :: ·)
  | (.inr _, _) :: _ => none
def bSortedX (ds : List D) (S : Store) : ER := match ds with
  | [d] => match dicD S d with
    | some kds => match intKeys kds with
      | some ns => if ns.length < 64 then .ok (.lst ((sortI ns).map .int)) S else .bad
      | none => .bad
    | none => bSorted [d] S
  | _ => .bad
/-- pairs, the first a key -/
def pairsD : List D → Option Kds
  | [] => some []
  | .tup [a, b] :: r => (keyD a).bind fun k => (pairsD r).map ((k, b) :: ·)
  | _ :: _ => none
def mergeD (kds more : Kds) : Kds := more.foldl (fun acc kv => putD acc kv.1 kv.2) kds
def bDictX (ds : List D) (S : Store) : ER := match ds with
  | [.lst es] => match pairsD es with
    | some kds => .ok (.dic ((mergeD [] kds).map (·.1)) ((mergeD [] kds).map (·.2))) S
    | none => .bad
  | ds => bDict ds S
section
variable {env : EnvD} {S : Store}
@[simp] theorem eListVals_is {f : EM} : eListVals f env S = (f env S).bind fun d S => match d with
  | .dic _ ds => .ok (.lst ds) S
  | _ => .bad := rfl
@[simp] theorem eSortVals_is {f : EM} : eSortVals f env S = (f env S).bind fun d S => match d with
  | .dic _ ds => match intsD ds with
    | some ns => if ns.length < 64 then .ok (.lst ((sortI ns).map .int)) S else .bad
    | none => .bad
  | _ => .bad := rfl
@[simp] theorem bSortedX_dic {ks : List Key} {ds : List D} : bSortedX [.dic ks ds] S = match intKeys (ks.zip ds) with
      | some ns => if ns.length < 64 then .ok (.lst ((sortI ns).map .int)) S else .bad
      | none => .bad := rfl
@[simp] theorem bSortedX_lst {ds : List D} : bSortedX [.lst ds] S = bSorted [.lst ds] S := rfl
@[simp] theorem bDictX_lst {es : List D} : bDictX [.lst es] S = match pairsD es with
    | some kds => .ok (.dic ((mergeD [] kds).map (·.1)) ((mergeD [] kds).map (·.2))) S
    | none => .bad := rfl
@[simp] theorem bDictX_dic {ks : List Key} {ds : List D} : bDictX [.dic ks ds] S = bDict [.dic ks ds] S := rfl
@[simp] theorem bDictX_loc {l : Nat} : bDictX [.loc l] S = bDict [.loc l] S := rfl
end
end DL
end
section
/-! D-layer, part 15: loops and comprehensions over a list that is a cell (it stays as it is while it is walked). -/
namespace DL
open PySem L2
variable {G : Glb} {X : Cx} {W : WX}
/-- the items of a list, a tuple, a list's cell; the cell that must stay -/
def itemsS (d : D) (S : Store) : Option (Option Nat × List D) := match d with
  | .lst ds => some (none, ds)
  | .tup ds => some (none, ds)
  | .loc l => match S[l]? with
    | some (.lst ds) => some (some l, ds)
    | _ => none
  | _ => none
def okW (w : Option Nat) (ds : List D) (S : Store) : Prop := match w with
  | none => True
  | some l => S[l]? = some (.lst ds)
structure FeedsX (G : Glb) (φ0 : Fi) (H0 : Hp) (J : It) (w : Option Nat) (ds : List D) : Prop where
  go : ∀ φ S H (i : Nat) d, Kept φ0 H0 φ H → SOk G φ S H → okW w ds S → ds[i]? = some d → J.go i H ∧ ∀ x H', J.yld i H x H' → Ext φ H φ H' ∧ SOk G φ S H' ∧ Is G φ H' d x
  stop : ∀ φ S H, Kept φ0 H0 φ H → SOk G φ S H → okW w ds S → J.stop ds.length H
theorem Feeds.toX {φ : Fi} {H : Hp} {J : It} {ds : List D} (f : Feeds G φ H J ds) : FeedsX G φ H J none ds := ⟨fun φ S H i d k s _ h => f.go φ S H i d k s h, fun φ S H k s _ => f.stop φ S H k s⟩
theorem feeds_cell {φ : Fi} {H : Hp} {a : Addr} {l : Nat} {ds : List D} (ha : φ.c[l]? = some a) : FeedsX G φ H (Itl G.K a) (some l) ds := by
  refine ⟨fun φ2 S2 H2 i d e s w hd => ?_, fun φ2 S2 H2 e s w => ?_⟩
  · obtain ⟨xs, hx, il⟩ := s.at_ w (e.get l a ha)
    obtain ⟨x, hi, k⟩ := il.get hd
    have sq : SqL G.K H2 a xs := .inl (.inl hx)
    refine ⟨⟨xs, x, sq, hi⟩, fun y H3 ⟨e3, hy⟩ => ?_⟩
    subst e3
    have z := hy xs sq
    rw [hi] at z; cases z
    exact ⟨.refl, s, k⟩
  · obtain ⟨xs, hx, il⟩ := s.at_ w (e.get l a ha)
    exact ⟨xs, .inl (.inl hx), by rw [il.length]; exact Nat.le_refl _⟩
def PostIX (G : Glb) (W : WX) (φ : Fi) (H : Hp) (σ : L2.St) (r : ER) (R : It → Hp → Prop) : Prop := match r with
  | .ok d S => ∃ w ds, itemsS d S = some (w, ds) ∧ ∀ φ' H' J, Ext φ H φ' H' → SOk G φ' S H' → FeedsX G φ' H' J w ds → R J H'
  | .ex x S => ∀ φ' H' cls dx, Ext φ H φ' H' → SOk G φ' S H' → IsX G φ' H' x cls dx → W cls dx σ H'
  | .bad => False
theorem seq_read {te : TE} {f : EM} (hK : X.K = G.K) (qe : ∀ σ H env φ S Q, SOk G φ S H → RepE G φ H σ env → PostE G W φ H σ (f env S) Q → te σ H Q) {σ : L2.St} {H : Hp} {env : EnvD} {φ : Fi} {S : Store} {R : It → Hp → Prop} (s : SOk G φ S H) (re : RepE G φ H σ env) (h : PostIX G W φ H σ (f env S) R) :
    iList X.K te σ H R ∨ iTup X.K te σ H R := by
  cases hr : f env S with
  | bad => rw [hr] at h; exact False.elim h
  | ex x S1 => rw [hr] at h; exact .inl (qe σ H env φ S _ s re (by rw [hr]; exact h))
  | ok d S1 =>
    rw [hr] at h
    obtain ⟨w, ds, hi, k⟩ := h
    cases d with
    | lst es =>
      cases hi
      refine .inl (qe σ H env φ S _ s re ?_)
      rw [hr]
      intro φ1 H1 v e1 s1 i1
      obtain ⟨a, xs, rfl, r, il⟩ := i1
      exact ⟨a, rfl, ⟨xs, by rw [hK]; exact r.seq⟩, by rw [hK]; exact k φ1 H1 _ e1 s1 (feeds_list r il).toX⟩
    | tup es =>
      cases hi
      refine .inr (qe σ H env φ S _ s re ?_)
      rw [hr]
      intro φ1 H1 v e1 s1 i1
      obtain ⟨a, xs, rfl, r, il⟩ := i1
      exact ⟨a, rfl, ⟨xs, by rw [hK]; exact r.seq⟩, by rw [hK]; exact k φ1 H1 _ e1 s1 (feeds_tup r il).toX⟩
    | loc l =>
      refine .inl (qe σ H env φ S _ s re ?_)
      rw [hr]
      intro φ1 H1 v e1 s1 i1
      obtain ⟨a, ha, rfl⟩ := i1
      unfold itemsS at hi
      dsimp only at hi
      cases hc : S1[l]? with
      | none => rw [hc] at hi; cases hi
      | some c =>
        rw [hc] at hi
        cases c with
        | lst es =>
          cases hi
          obtain ⟨xs, hx, il⟩ := s1.at_ hc ha
          exact ⟨a, rfl, ⟨xs, .inl (.inl hx)⟩, by rw [hK]; exact k φ1 H1 _ e1 s1 (feeds_cell ha)⟩
        | _ => cases hi
    | _ => cases hi
open Classical in
noncomputable def forDX (w : Option Nat) (ds0 : List D) (b : D → EnvD → Option EnvD) (body : SM) : List D → SM
  | [], e, S => if okW w ds0 S then .nx e S else .bad
  | d :: ds, e, S => if okW w ds0 S then (match b d e with
    | none => .bad
    | some e1 => match body e1 S with
      | .nx e2 S2 => forDX w ds0 b body ds e2 S2
      | .ct e2 S2 => forDX w ds0 b body ds e2 S2
      | .bk e2 S2 => .nx e2 S2
      | .rt d S2 => .rt d S2
      | .ex x e2 S2 => .ex x e2 S2
      | .bad => .bad) else .bad
theorem forDX_none {ds0 : List D} {b : D → EnvD → Option EnvD} {body : SM} : ∀ {ds : List D} {e : EnvD} {S : Store}, forDX none ds0 b body ds e S = forD b body ds e S
  | [], e, S => by unfold forDX forD; rw [if_pos (show okW none ds0 S from trivial)]
  | d :: ds, e, S => by
    unfold forDX forD
    rw [if_pos (show okW none ds0 S from trivial)]
    cases b d e with
    | none => rfl
    | some e1 =>
      dsimp only
      cases body e1 S <;> first | rfl | exact forDX_none
noncomputable def sForX (f : EM) (b : D → EnvD → Option EnvD) (body : SM) : SM := fun e S => (f e S).bindS e fun d S => match itemsS d S with
  | some (w, ds) => forDX w ds b body ds e S
  | none => .bad
theorem ds_forX {tg iter : Expr} {body : List Stmt} {pos : Pos} {f : EM} {b : D → EnvD → Option EnvD} {vs : List Nat} {g : SM} (hp : PassesOwn (model X.prog X.w) X.A X.env X.xe) (hc : X.calm = true) (hK : X.K = G.K) (he : DE G X W iter f) (hg : DG G X tg b vs) (hb : DSs G X W body g) (hs : ∀ x, foldedSetIterable iter X.env x = pure x := by intro _; rfl) :
    DS G X W (.For tg iter body [] pos) (sForX f b g) := by
  obtain ⟨te, pE, qe⟩ := he
  obtain ⟨tgd, pg, qg⟩ := hg
  obtain ⟨tb, pb, qb⟩ := hb
  refine ⟨_, ps_for hp hc (PI.or (pi_list pE) (pi_tup pE)) pg pb hs, fun σ H env φ S N s re h => ?_⟩
  refine seq_read hK qe s re ?_
  unfold sForX at h
  cases hr : f env S with
  | bad => rw [hr] at h; exact False.elim h
  | ex x S1 => rw [hr] at h; exact fun φ2 H2 c d e s i => h φ2 H2 σ c d e s (re.ext e) i
  | ok d S1 =>
  rw [hr] at h
  replace h : PostS G W φ H (match itemsS d S1 with
    | some (w, ds) => forDX w ds b g ds env S1
    | none => .bad) N := h
  cases hi : itemsS d S1 with
  | none => rw [hi] at h; exact False.elim h
  | some p =>
  obtain ⟨w, ds⟩ := p
  rw [hi] at h
  refine ⟨w, ds, hi, fun φ1 H1 J e1 s1 fd => ?_⟩
  have h1 : PostS G W φ1 H1 (forDX w ds b g ds env S1) N := PostS.ext e1 h
  refine ⟨fun i m σ2 H2 => m = ds.length - i ∧ i ≤ ds.length ∧ ∃ env2 φ2 S2, Ext φ1 H1 φ2 H2 ∧ SOk G φ2 S2 H2 ∧ RepE G φ2 H2 σ2 env2 ∧ PostS G W φ2 H2 (forDX w ds b g (ds.drop i) env2 S2) N,
    ⟨ds.length, by simp, Nat.zero_le _, env, φ1, S1, .refl, s1, re.ext e1, h1⟩, ?_⟩
  rintro i m σ2 H2 ⟨rfl, hi, env2, φ2, S2, e2, s2, r2, h2⟩
  by_cases hl : i < ds.length
  · right
    have hd : ds[i]? = some ds[i] := List.getElem?_eq_getElem hl
    rw [List.drop_eq_getElem_cons hl] at h2
    unfold forDX at h2
    by_cases hw : okW w ds S2
    case neg => rw [if_neg hw] at h2; exact False.elim h2
    rw [if_pos hw] at h2
    obtain ⟨go, gy⟩ := fd.go φ2 S2 H2 i ds[i] e2.kept s2 hw hd
    refine ⟨go, fun σ' H' => i + 1 ≤ ds.length ∧ ∃ env3 φ3 S3, Ext φ1 H1 φ3 H' ∧ SOk G φ3 S3 H' ∧ RepE G φ3 H' σ' env3 ∧ PostS G W φ3 H' (forDX w ds b g (ds.drop (i + 1)) env3 S3) N, fun σ' H' w => ⟨ds.length - (i + 1), by omega, rfl, w⟩, fun x H' hy => ?_⟩
    obtain ⟨e3, s3, k3⟩ := gy x H' hy
    cases hb1 : b ds[i] env2 with
    | none => rw [hb1] at h2; exact False.elim h2
    | some env3 =>
      rw [hb1] at h2
      refine qg x ds[i] σ2 H' env2 env3 φ2 _ k3 (r2.ext e3) hb1 fun σ3 r3 _ => ?_
      refine qb σ3 H' env3 φ2 S2 _ s3 r3 ?_
      dsimp only at h2
      cases hg1 : g env3 S2 with
      | nx e S =>
        rw [hg1] at h2
        exact fun φ4 H4 σ4 e4 s4 r4 => ⟨by omega, _, φ4, _, (e2.trans e3).trans e4, s4, r4, PostS.ext (e3.trans e4) h2⟩
      | ct e S =>
        rw [hg1] at h2
        exact fun φ4 H4 σ4 e4 s4 r4 => ⟨by omega, _, φ4, _, (e2.trans e3).trans e4, s4, r4, PostS.ext (e3.trans e4) h2⟩
      | bk e S =>
        rw [hg1] at h2
        exact fun φ4 H4 σ4 e4 s4 r4 => h2 φ4 H4 σ4 (e3.trans e4) s4 r4
      | rt d S =>
        rw [hg1] at h2
        exact fun φ4 H4 v e4 s4 r4 => h2 φ4 H4 v (e3.trans e4) s4 r4
      | ex x e S =>
        rw [hg1] at h2
        exact fun φ4 H4 σ4 c dx e4 s4 r4 ix => h2 φ4 H4 σ4 c dx (e3.trans e4) s4 r4 ix
      | bad => rw [hg1] at h2; exact False.elim h2
  · left
    have e : i = ds.length := by omega
    subst e
    rw [List.drop_length] at h2
    unfold forDX at h2
    by_cases hw : okW w ds S2
    case neg => rw [if_neg hw] at h2; exact False.elim h2
    rw [if_pos hw] at h2
    exact ⟨fd.stop φ2 S2 H2 e2.kept s2 hw, h2 φ2 H2 σ2 .refl s2 r2⟩

/-! ### comprehensions -/
open Classical in
noncomputable def lcDX (w : Option Nat) (ds0 : List D) (b : D → EnvD → Option EnvD) (tt elt : EM) (env : EnvD) : List D → List D → Store → LR
  | acc, [], S => if okW w ds0 S then .ok acc S else .bad
  | acc, d :: ds, S => if okW w ds0 S then (match b d env with
    | none => .bad
    | some e1 => match tt e1 S with
      | .ok (.bl true) S1 => match elt e1 S1 with
        | .ok y S2 => if sz (acc.length + 1) then lcDX w ds0 b tt elt env (acc ++ [y]) ds S2 else .bad
        | _ => .bad
      | .ok (.bl false) S1 => lcDX w ds0 b tt elt env acc ds S1
      | _ => .bad) else .bad
theorem lcDX_none {ds0 : List D} {b : D → EnvD → Option EnvD} {tt elt : EM} {env : EnvD} : ∀ {ds acc : List D} {S : Store}, lcDX none ds0 b tt elt env acc ds S = lcD b tt elt env acc ds S
  | [], acc, S => by unfold lcDX lcD; rw [if_pos (show okW none ds0 S from trivial)]
  | d :: ds, acc, S => by
    unfold lcDX lcD
    rw [if_pos (show okW none ds0 S from trivial)]
    cases b d env with
    | none => rfl
    | some e1 =>
      dsimp only
      cases tt e1 S with
      | ok k S1 =>
        cases k with
        | bl k =>
          cases k with
          | false => exact lcDX_none
          | true =>
            dsimp only
            cases elt e1 S1 with
            | ok y S2 =>
              dsimp only
              by_cases hz : sz (acc.length + 1)
              · rw [if_pos hz, if_pos hz]; exact lcDX_none
              · rw [if_neg hz, if_neg hz]
            | _ => rfl
        | _ => rfl
      | _ => rfl
noncomputable def eLcX (f : EM) (b : D → EnvD → Option EnvD) (tt elt : EM) (vs : List Nat) : EM := fun env S => (f env S).bind fun d S => match itemsS d S with
  | some (w, ds) => (lcDX w ds b tt elt (wipeD env vs) [] ds S).bindE fun ys S => .ok (.lst ys) S
  | none => .bad
noncomputable def eLcXM (f : EM) (b : D → EnvD → Option EnvD) (tt elt : EM) (vs : List Nat) : EM := fun env S => (f env S).bind fun d S => match itemsS d S with
  | some (w, ds) => (lcDX w ds b tt elt (wipeD env vs) [] ds S).bindE fun ys S => .ok (.loc S.length) (S ++ [.lst ys])
  | none => .bad
section
variable {elt tg iter : Expr} {ifs : List Expr} {scope : Scope} {own : List (PySem.Str × Nat)} {pos : Pos} {f : EM} {b : D → EnvD → Option EnvD} {ft fe : EM} {vs : List Nat}
end
section
variable {env : EnvD} {S : Store}
@[simp] theorem sForX_is {f : EM} {b : D → EnvD → Option EnvD} {body : SM} : sForX f b body env S = (f env S).bindS env fun d S => match itemsS d S with
  | some (w, ds) => forDX w ds b body ds env S
  | none => .bad := rfl
@[simp] theorem eLcX_is {f : EM} {b : D → EnvD → Option EnvD} {tt elt : EM} {vs : List Nat} : eLcX f b tt elt vs env S = (f env S).bind fun d S => match itemsS d S with
  | some (w, ds) => (lcDX w ds b tt elt (wipeD env vs) [] ds S).bindE fun ys S => .ok (.lst ys) S
  | none => .bad := rfl
@[simp] theorem eLcXM_is {f : EM} {b : D → EnvD → Option EnvD} {tt elt : EM} {vs : List Nat} : eLcXM f b tt elt vs env S = (f env S).bind fun d S => match itemsS d S with
  | some (w, ds) => (lcDX w ds b tt elt (wipeD env vs) [] ds S).bindE fun ys S => .ok (.loc S.length) (S ++ [.lst ys])
  | none => .bad := rfl
@[simp] theorem itemsS_lst {ds : List D} : itemsS (.lst ds) S = some (none, ds) := rfl
@[simp] theorem itemsS_tup {ds : List D} : itemsS (.tup ds) S = some (none, ds) := rfl
@[simp] theorem itemsS_loc {l : Nat} : itemsS (.loc l) S = match cel S l with
    | some (.lst ds) => some (some l, ds)
    | _ => none := rfl
@[simp] theorem forDX_none' {ds0 ds : List D} {b : D → EnvD → Option EnvD} {body : SM} {e : EnvD} : forDX none ds0 b body ds e S = forD b body ds e S := forDX_none
@[simp] theorem lcDX_none' {ds0 ds acc : List D} {b : D → EnvD → Option EnvD} {tt elt : EM} : lcDX none ds0 b tt elt env acc ds S = lcD b tt elt env acc ds S := lcDX_none
end
end DL
end
section
/-! D-layer, part 16: *a, b = list; d[i], d[j] = x, y. -/
namespace L2
open PySem PySem.Spec PySem.Calls PyProof.Rows PySem.W
section
variable {prog : Program} {w : World} {A : Around} {E : Value → Shared → Prop} {s : Shared}
end
section
variable {X : Cx} {pos : Pos}
theorem Paired.snoc {xs : List V} {x : V} {its : List Value} (r : Vals (xs ++ [x]) its) : ∃ us u, its = us ++ [u] ∧ Vals xs us ∧ RelV x u := by
  induction xs generalizing its with
  | nil =>
    cases r with
    | cons r t => cases t; exact ⟨[], _, rfl, .nil, r⟩
  | cons y ys ih =>
    cases r with
    | cons r t =>
      obtain ⟨us, u, rfl, a, b⟩ := ih t
      exact ⟨_ :: us, u, rfl, .cons r a, b⟩
end
end L2
namespace DL
open PySem L2
variable {G : Glb} {X : Cx} {W : WX}
/-- *a, b = a list -/
def sStar (i j : Nat) (f : EM) : SM := fun e S => (f e S).bindS e fun d S => match listD S d with
  | some ds => match ds.getLast? with
    | some x => .nx ((e.set i (some (.lst ds.dropLast))).set j (some x)) S
    | none => .bad
  | none => .bad
/-- (a, b, ..) = a tuple or a list -/
def bTupX (b : List D → EnvD → Option EnvD) : D → EnvD → Option EnvD := fun d env => match d with | .tup ds => b ds env | .lst ds => b ds env | _ => none
/-- d[i], c[j] = x, y -/
noncomputable def sPut2X (o i o2 i2 f : EM) : SM := fun env S => (f env S).bindS env fun d S => match d with
  | .tup [x, y] => (o env S).bindS env fun a S => (i env S).bindS env fun b S => match setX a b x S with
    | some S => (o2 env S).bindS env fun a S => (i2 env S).bindS env fun b S => match setX a b y S with
      | some S' => .nx env S'
      | none => .bad
    | none => .bad
  | _ => .bad
/-! ### is True, is not True -/
def opIsB (x y : D) (S : Store) : ER := match x, y with | .bl a, .bl b => .ok (.bl (decide (a = b))) S | _, _ => .bad
def opNotB (x y : D) (S : Store) : ER := match x, y with | .bl a, .bl b => .ok (.bl (!decide (a = b))) S | _, _ => .bad
@[simp] theorem opIsB_bb {S : Store} {a b : Bool} : opIsB (.bl a) (.bl b) S = .ok (.bl (decide (a = b))) S := rfl
@[simp] theorem opNotB_bb {S : Store} {a b : Bool} : opNotB (.bl a) (.bl b) S = .ok (.bl (!decide (a = b))) S := rfl
/-! ### dict(..) that is changed later -/
def bDictM (ds : List D) (S : Store) : ER := match ds with
  | [d] => match dicD S d with
    | some kds => .ok (.loc S.length) (S ++ [.dic kds])
    | none => .bad
  | _ => .bad
section
variable {S : Store} {e env : EnvD}
@[simp] theorem sStar_is {i j : Nat} {f : EM} : sStar i j f e S = (f e S).bindS e fun d S => match listD S d with
  | some ds => match ds.getLast? with
    | some x => .nx ((e.set i (some (.lst ds.dropLast))).set j (some x)) S
    | none => .bad
  | none => .bad := rfl
@[simp] theorem sPut2X_is {o i o2 i2 f : EM} : sPut2X o i o2 i2 f env S = (f env S).bindS env fun d S => match d with
  | .tup [x, y] => (o env S).bindS env fun a S => (i env S).bindS env fun b S => match setX a b x S with
    | some S => (o2 env S).bindS env fun a S => (i2 env S).bindS env fun b S => match setX a b y S with
      | some S' => .nx env S'
      | none => .bad
    | none => .bad
  | _ => .bad := rfl
@[simp] theorem bDictM_dic {ks : List Key} {ds : List D} : bDictM [.dic ks ds] S = .ok (.loc S.length) (S ++ [.dic (ks.zip ds)]) := rfl
end
end DL
end
section
/-! Defs called where no repr is under way (guards = some []): so repr of lists and tuples can be had. -/
namespace L2
open PySem PySem.Spec PyProof.Rows
/-- as FnOk, where no guard stands below -/
structure FnG (P : Program) (w : World) (K : PySem.W.Frag) (mg : Str → Option Value) (base : Heap) (CX : CXT) (k : Nat) (f : Addr) (fd : FuncData) (ps : List Str) (sp : Sp) : Prop where
  len : ∀ vs H Q E, sp vs H Q E → vs.length = ps.length
  run : ∀ (A : Around) (outer : List Env) (s : Shared) (H : Hp) (args : Args) (us : List Value) (vs : List V) (Q : VK) (E : XK), A.guards = some [] → Room k A → Env0 P w K mg base A outer s H → BindsTo s fd args (ps.zip us) → Vals vs us → sp vs H Q E →
    codeAny (model P w) A (.call (.ref f) args) (CR CX outer P w H s Q E) s
theorem FnG.of {P : Program} {w : World} {K : PySem.W.Frag} {mg : Str → Option Value} {base : Heap} {CX : CXT} {k : Nat} {f : Addr} {fd : FuncData} {ps : List Str} {sp : Sp} (F : FnOk P w K mg base CX k f fd ps sp) : FnG P w K mg base CX k f fd ps sp :=
  ⟨F.len, fun A outer s H args us vs Q E _ => F.run A outer s H args us vs Q E⟩
theorem FnG.mono {P : Program} {w : World} {K : PySem.W.Frag} {mg : Str → Option Value} {base : Heap} {CX : CXT} {j k : Nat} {f : Addr} {fd : FuncData} {ps : List Str} {sp : Sp} (F : FnG P w K mg base CX j f fd ps sp) (h : j ≤ k) : FnG P w K mg base CX k f fd ps sp :=
  ⟨F.len, fun A outer s H args us vs Q E hg hr => F.run A outer s H args us vs Q E hg (hr.mono h)⟩
section
variable {P : Program} {w : World} {K : PySem.W.Frag} {mg : Str → Option Value} {base : Heap}
theorem Fun.okG {x qual : Str} {st : Stmt} {f : Addr} {fd : FuncData} {N ps : List Str} {k : Nat} {sp : Sp} (F : Fun K x qual st f fd) (S : FnScope N ps (defScope st)) (len : ∀ vs H Q E, sp vs H Q E → vs.length = ps.length)
    (hbody : ∀ (cdv : Value) (A : Around) (outer : List Env) (s : Shared) (H : Hp) (vs : List V) (Q : VK) (E : XK), A.guards = some [] → Room k (A.deeper (envOfC qual (defScope st) s.heap.objs.size f cdv)) → sp vs H Q E →
      ∃ t, PSs (cxOf (L2.CX P w) P w K mg base N qual (defScope st) f cdv A outer s H E) (defBody st) t ∧ t { nx := fun _ H' => Q .non H', rt := Q } (start N vs) H) : FnG P w K mg base (L2.CX P w) (k + 1) f fd ps sp := by
  refine ⟨len, fun A outer s H args us vs Q E gd hr e0 hb r hsp => ?_⟩
  obtain ⟨oc, od, kV, doc, pm, an, cdv, ct, osl, rfl, lk, hcd⟩ := F.ex
  have hl := len _ _ _ _ hsp
  have KX : K.In s.heap := e0.mod.kin.keeps fun b o e => (e0.bs b o e).1
  have lim : s.heap.NoLimit := e0.mod.nolimit.keeps fun b o e => (e0.bs b o e).1
  have hkind : ∀ y ∈ ps.zip us, (defScope st).names.lookup y.1 = some .local ∨ ((defScope st).names.lookup y.1 = some .cell ∧ ((cellsFrom (s.heap.objs.size + 1) (defScope st).names []).lookup y.1).isSome = true) := fun ⟨n, v⟩ hy =>
    (S.par n (List.of_mem_zip hy).1).imp id fun q => ⟨q, PySem.W.cellsFrom_some _ _ _ (.inl q)⟩
  refine codeAny_call_function hr.depth (KX _ _ lk) rfl S.co S.gen rfl (PySem.W.codeRec_of KX hcd) (hb _ _ _ _ ?_)
  refine wpAny_newFunctionEnv_cells S.kind hkind fun env he s1 x => ?_
  subst he
  refine ⟨lim.keeps x.toInCall.keep, codeAny_func ?_⟩
  obtain ⟨t, ht, hq⟩ := hbody cdv A outer s H vs Q E gd (hr.deeper _) hsp
  have I : Inv (cxOf (L2.CX P w) P w K mg base N qual (defScope st) f cdv A outer s H E) [] (start N vs) H s1 := inv_start S hr.hd e0 hl r x
  refine wpAny_mono (ht.run [] s1 (start N vs) H _ I hq) (fun fl s' hs => ?_) fun e s' hs => hs
  cases fl with
  | ret u =>
    obtain ⟨v, σ', H', J, rv, q⟩ := hs
    exact ⟨v, H', J.os, J.bare, J.base, J.hok, rv, q⟩
  | next =>
    obtain ⟨σ', H', J, q⟩ := hs
    exact ⟨V.non, H', J.os, J.bare, J.base, J.hok, rfl, q⟩
  | brk => obtain ⟨_, _, _, q⟩ := hs; exact False.elim q
  | cont => obtain ⟨_, _, _, q⟩ := hs; exact False.elim q
end
section
variable {X : Cx} {CX : CXT} {k : Nat} {f C : Addr} {fd : FuncData} {ps : List Str} {sp : Sp} {E : St → XK} {x m : Str} {p pos apos : Pos} {e o : Expr} {es : List Expr} {ta : TE} {t : TA}
theorem run_fnG {pins : List (Addr × Obj)} {σ : St} {H : Hp} {s : Shared} {Q : VK} {us : List Value} {vs : List V} (F : FnG X.prog X.w X.K X.mg X.base CX k f fd ps sp) (gd : X.A.guards = some []) (hr : Room k X.A) (hb : Binds X.K fd ps []) (hx : PassesAt CX X σ (E σ))
    (I : Inv X pins σ H s) (r : Vals vs us) (h : sp vs H Q (E σ)) : wpAny (model X.prog X.w) X.A (call (.ref f) us) (EP X pins σ Q) X.xe s := by
  have hl : us.length = ps.length := by rw [← r.length]; exact F.len _ _ _ _ h
  have b := hb s us I.kIn (by rw [List.append_nil]; exact hl)
  rw [List.append_nil] at b
  refine wpAny_call (codeAny_mono (F.run X.A X.stack s H ⟨us, []⟩ us vs Q (E σ) gd hr I.env0 b r h) fun r s' hq => ?_)
  cases r with
  | error e => exact hx pins H s e s' I hq
  | ok fl =>
    cases fl with
    | ret u => exact I.after hq
    | next => exact False.elim hq
    | brk => exact False.elim hq
    | cont => exact False.elim hq
theorem pe_callG (F : FnG X.prog X.w X.K X.mg X.base CX k f fd ps sp) (gd : X.A.guards = some []) (hr : Room k X.A) (hg : Gl X x) (hm : X.mg x = some (.ref f)) (hk : PySem.W.keepIn X.K (.ref f) = true) (hb : Binds X.K fd ps []) (hx : ∀ σ, PassesAt CX X σ (E σ))
    (ha : PA X (e :: es) t) (hdb : (x == ("__debug__" : Str)) = false := by decide) (he : starEach (e :: es) X.env = (false, eval e X.env) :: starEach es X.env := by rfl) (hpl : (backTo pos (starEach es X.env)).any (·.1) = false := by rfl) :
    PE X (.Call (.Name x p) (e :: es) [] pos) (tCallS sp E t) := by
  refine ⟨fun pins s σ H Q I h => ?_⟩
  refine wpAny_Call_Name_kw (ld_glob I hg hm ?_ hdb)
  refine PySem.W.callWith_K (h₀ := X.base) I.ok.mod.kin hk (thn (ha.run pos pins s σ H _ I h) fun us s1 ⟨vs, H1, I1, r, q⟩ => ⟨I1.kIn, ?_⟩) he hpl
  exact run_fnG F gd hr hb (hx σ) I1 r q
end
/-- the head, for a def that wants no guard below -/
theorem law_callG {P : Program} {w : World} {K : PySem.W.Frag} {mg mb : Str → Option Value} {CX : CXT} {k : Nat} {fa a : Addr} {fd : FuncData} {x : Str} {sp : Sp} {s₁ : Shared} {vs : List Value} {ns : List Int}
    (KX : K.In s₁.heap) (hns : s₁.heap.Ns mainGlobals mg) (hb : s₁.heap.Ns builtinsNs mb) (hbb : ∀ x : Str, x ≠ "__name__" → mb x = bootBuiltins x) (hlim : s₁.heap.NoLimit) (hg : s₁.gens = #[])
    (ha : s₁.heap.get? a = some { cls := .type "list", data := .seq vs.toArray }) (hi : IntsAre vs ns) (hl : ns.length ≤ sizeLine) (hr : Room k callerA)
    (F : ∀ base : Heap, K.In base → base.Ns mainGlobals mg → FnG P w K mg base CX k fa fd [x] sp) (hbind : ∀ (s : Shared) (u : Value), BindsTo s fd ⟨[u], []⟩ [(x, u)])
    (hsp : ∀ H : Hp, Only H → SqL K H a (ns.map V.int) → sp [.ref a] H (fun v _ => v = .bl true) fun _ _ _ => False)
    (hCX : ∀ H e s', CX [] H s₁ (fun _ _ _ => False) e s' → False) :
    codeAny (model P w) callerA (.call (.ref fa) ⟨[.ref a], []⟩) (fun r s' => r = .ok (.ret (.bool true)) ∧ OldK s₁.heap s'.heap ∧ s'.os = s₁.os ∧ AllBare s'.gens) s₁ := by
  have rv := vals_ints hi
  have lenV := hi.length
  have core : ∀ H : Hp, Only H → SqL K H a (ns.map V.int) → HOk P w H s₁.heap → (∀ b, H b ≠ none → b = a) → (H a ≠ none → K.lookup a = none) →
      codeAny (model P w) callerA (.call (.ref fa) ⟨[.ref a], []⟩) (fun r s' => r = .ok (.ret (.bool true)) ∧ OldK s₁.heap s'.heap ∧ s'.os = s₁.os ∧ AllBare s'.gens) s₁ := by
    intro H hO hS hok hA hK
    have at_a : ∀ {b : Addr} {o : Obj}, s₁.heap.get? b = some o → H b ≠ none → b = a ∧ o = { cls := .type "list", data := .seq vs.toArray } := fun {b o} e z => by
      have e' := hA b z
      subst e'
      rw [ha] at e; cases e; exact ⟨rfl, rfl⟩
    have base_of : ∀ {b : Addr} {o : Obj}, s₁.heap.get? b = some o → H b = none → (hidT s₁.heap H).get? b = some o := fun e n => hidT_get e n
    have noA : ∀ {b : Addr} {o : Obj} {es : Array DictEntry} {ep : Nat}, s₁.heap.get? b = some o → o.data = .dict es ep → H b = none := fun {b o es ep} e d => by
      by_cases z : H b = none
      · exact z
      · obtain ⟨_, rfl⟩ := at_a e z
        cases d
    have nsK : ∀ {b : Addr} {m : Str → Option Value}, s₁.heap.Ns b m → (hidT s₁.heap H).Ns b m := fun {b m} ⟨o, es, ep, e, d, r⟩ => ⟨o, es, ep, base_of e (noA e d), d, r⟩
    have hKb : K.In (hidT s₁.heap H) := fun b o e => base_of (KX b o e) (by
      by_cases z : H b = none
      · exact z
      · obtain ⟨rfl, _⟩ := at_a (KX b o e) z
        rw [hK z] at e; cases e)
    have hM : Mod K mg (hidT s₁.heap H) := ⟨hKb, nsK hns, ⟨mb, nsK hb, hbb⟩, let ⟨mc, h1, h2⟩ := hlim; ⟨mc, nsK h1, h2⟩⟩
    have e0 : Env0 P w K mg (hidT s₁.heap H) callerA [] s₁ H := ⟨rfl, hM, fun b o e => of_hidT e, Nat.le_of_eq (hidT_size _ _), trivial, fun b hb => absurd (show b ∈ ([] : List Addr) from hb) (by simp), hok, .of_eq hg⟩
    refine codeAny_mono ((F _ hKb (nsK hns)).run callerA [] s₁ H ⟨[.ref a], []⟩ [.ref a] [.ref a] _ _ rfl hr e0 (hbind s₁ (.ref a)) (.cons rfl .nil) (hsp H hO hS)) fun r s' h => ?_
    match r, h with
    | .error e, h => exact (hCX H e s' h).elim
    | .ok .next, h => exact False.elim h
    | .ok .brk, h => exact False.elim h
    | .ok .cont, h => exact False.elim h
    | .ok (.ret u), h =>
      obtain ⟨v, H', os, bare, un, hok', r', q⟩ := h
      have q' : v = .bl true := q
      subst q'
      obtain rfl : u = Value.bool true := r'
      refine ⟨rfl, OldK.of_keep fun b o e => ?_, os, bare⟩
      cases q : H b with
      | none => exact un.keep b o e q (by intro z; exact absurd (show b ∈ ([] : List Addr) from z) (by simp)) (by simp)
      | some u =>
        rcases hO b with z | ⟨ob, xs, z⟩
        · rw [q] at z; cases z
        · obtain ⟨e1, _⟩ := hok b _ z
          obtain ⟨e2, _⟩ := hok' b _ (un.frzs b ob _ z)
          rw [e] at e1; cases e1
          exact e2
  cases hk : K.lookup a with
  | some o =>
    have e := KX a o hk
    rw [ha] at e
    cases e
    refine core (fun _ => none) (fun _ => .inl rfl) (.inr ⟨_, vs.toArray, _, hk, rfl, rfl, rfl, by rw [List.size_toArray, lenV]; exact hl, by simpa using rv⟩) (fun b u z => by have z' : (none : Option HO) = some u := z; cases z') (fun b z => absurd rfl z) fun z => absurd rfl z
  | none =>
    refine core (fun b => if b = a then some (.frz { cls := .type "list", data := .seq vs.toArray } (.lst (ns.map V.int))) else none) (fun b => ?_) (.inl (.inr ⟨{ cls := .type "list", data := .seq vs.toArray }, if_pos rfl⟩)) (fun b u z => ?_) (fun b z => ?_) fun _ => hk
    · by_cases hb : b = a
      · exact .inr ⟨_, _, if_pos hb⟩
      · exact .inl (if_neg hb)
    · by_cases hb : b = a
      · have z' := (if_pos hb).symm.trans z
        cases z'
        subst hb
        exact ⟨ha, by rw [List.length_map]; exact hl, vs, _, rv, ha⟩
      · have z' := (if_neg hb).symm.trans z
        cases z'
    · by_cases hb : b = a
      · exact hb
      · exact absurd (if_neg hb) z
theorem walk_ofG {l : PySem.W.OpenLaw} {n k : Nat} {q : Program} {loose : List Str} {XP : (Str → Option Value) → Heap → Prop} {YP : World → Heap → Prop} {d : DefRec} {K : Params → PySem.W.Frag} {CX : World → CXT} {sp : World → Sp} {x : Str}
    (hn : l.most = some n) (hn2 : n ≤ sizeLine) (hdf : d.params.defaults = []) (hr : Room k callerA)
    (hY : ∀ (w : World) (h : Heap), YP w h → (K w.params).In h)
    (F : ∀ (w : World) (mg : Str → Option Value) (fa : Addr) (h : Heap), (K w.params).In h → h.Ns mainGlobals mg → mg d.name = some (.ref fa) →
      ∃ fd : FuncData, (∀ (s : Shared) (u : Value), BindsTo s fd ⟨[u], []⟩ [(x, u)]) ∧ ∀ base : Heap, (K w.params).In base → base.Ns mainGlobals mg → FnG l.prog w (K w.params) mg base (CX w) k fa fd [x] (sp w))
    (hsp : ∀ (w : World) (H : Hp) (a : Addr) (ns : List Int), ns.length ≤ n → Only H → SqL (K w.params) H a (ns.map V.int) → sp w [.ref a] H (fun v _ => v = .bl true) fun _ _ _ => False)
    (hCX : ∀ (w : World) (H : Hp) (s : Shared) (e : Value) (s' : Shared), CX w [] H s (fun _ _ _ => False) e s' → False) :
    PySem.W.WalkO q loose XP YP l.row.toRowW d [] (fun f vs => PySem.call f vs) := by
  refine Att.attach_call hn hdf fun w s₀ s₁ mg mb fa o pm cd doc a vs ns G Y ho hd hcd hmg hobj hints hlen hg => ?_
  have KX := hY w _ Y
  obtain ⟨fd, hb, hF⟩ := F w mg fa _ KX G.T.g hmg
  exact law_callG KX G.T.g G.T.b G.T.builtins G.T.nolimit hg hobj hints (Nat.le_trans hlen hn2) hr hF hb (fun H hO hS => hsp w H a ns hlen hO hS) fun H e s' => hCX w H s₁ e s'
end L2
end
section
/-! D-layer: defs called with no guard below; repr. -/
namespace DL
open PySem L2 PyProof.Rows
theorem fnG {G : Glb} {P : Program} {w : World} {mg : Str → Option Value} {base : Heap} {x qual : Str} {st : Stmt} {f : Addr} {fd : FuncData} {N ps : List Str} {k : Nat} {g : SM} (m : Mode) (F : Fun G.K x qual st f fd) (S : FnScope N ps (defScope st))
    (body : ∀ (cdv : Value) (A : Around) (outer : List Env) (s : Shared) (H : Hp) (E : XK), Room k (A.deeper (envOfC qual (defScope st) s.heap.objs.size f cdv)) →
      Takes (cxOf (L2.CX P w) P w G.K mg base N qual (defScope st) f cdv A outer s H E) (fun cls d _ H => E cls d H) →
      PassesOwn (model P w) (A.deeper (envOfC qual (defScope st) s.heap.objs.size f cdv)) (envOfC qual (defScope st) s.heap.objs.size f cdv) (cxOf (L2.CX P w) P w G.K mg base N qual (defScope st) f cdv A outer s H E).xe →
      (cxOf (L2.CX P w) P w G.K mg base N qual (defScope st) f cdv A outer s H E).A.guards = some [] →
      DSs G (cxOf (L2.CX P w) P w G.K mg base N qual (defScope st) f cdv A outer s H E) (fun cls d _ H => E cls d H) (defBody st) g) :
    FnG P w G.K mg base (L2.CX P w) (k + 1) f fd ps (spD G ps.length (fnF m N.length g)) := by
  refine F.okG S (fun vs H Q E h => h.1) (fun cdv A outer s H vs Q E gd hr h => ?_)
  obtain ⟨_, φ, S0, ds, so, il, hp⟩ := h
  obtain ⟨t, pt, qt⟩ := body cdv A outer s H E hr (takes_of rfl rfl rfl rfl) (passes_of rfl) gd
  refine ⟨t, pt, qt (L2.start N vs) H (startD N.length ds) φ S0 _ so (rep_start N il) ?_⟩
  unfold fnF at hp
  cases hg : g (startD N.length ds) S0 with
  | nx e S1 => rw [hg] at hp; exact fun φ1 H1 σ1 e1 s1 r1 => exit_ok so e1 s1 (show Is G φ1 H1 .non .non from rfl) hp
  | rt d S1 => rw [hg] at hp; exact fun φ1 H1 v e1 s1 i1 => exit_ok so e1 s1 i1 hp
  | ex x e S1 => rw [hg] at hp; exact fun φ1 H1 σ1 cls dx e1 s1 r1 ix => hp φ1 H1 cls dx e1 s1 ix
  | bk e S1 => rw [hg] at hp; exact False.elim hp
  | ct e S1 => rw [hg] at hp; exact False.elim hp
  | bad => rw [hg] at hp; exact False.elim hp
structure DefG (G : Glb) (P : Program) (w : World) (mg : Str → Option Value) (base : Heap) (k : Nat) (x : Str) (n : Nat) (F : FD) : Prop where
  ex : ∃ f fd ps, FnG P w G.K mg base (L2.CX P w) k f fd ps (spD G n F) ∧ mg x = some (.ref f) ∧ PySem.W.keepIn G.K (.ref f) = true ∧ Binds G.K fd ps []
section
variable {G : Glb} {X : Cx} {W : WX} {k n : Nat} {x : Str} {F : FD} {p pos : Pos} {e : Expr} {es : List Expr} {fa : LM}
theorem de_callG (d : DefG G X.prog X.w X.mg X.base k x n F) (gd : X.A.guards = some []) (hK : X.K = G.K) (hr : Room k X.A) (hg : Gl X x) (tk : Takes X W) (ha : DA G X W (e :: es) fa) (hn : (e :: es).length = n) (hla : ∀ env S ds S', fa env S = .ok ds S' → ds.length = n)
    (hdb : (x == ("__debug__" : Str)) = false := by decide) (he : starEach (e :: es) X.env = (false, eval e X.env) :: starEach es X.env := by rfl) (hpl : (backTo pos (starEach es X.env)).any (·.1) = false := by rfl) :
    DE G X W (.Call (.Name x p) (e :: es) [] pos) (eCall F fa) := by
  obtain ⟨f, fd, ps, FO, hm, hk, hb⟩ := d.ex
  rw [← hK] at FO hk hb
  obtain ⟨t, pt, qt⟩ := ha
  refine ⟨_, pe_callG FO gd hr hg hm hk hb (fun σ => passAt tk σ) pt hdb he hpl, fun σ H env φ S Q s re h => ?_⟩
  refine qt σ H env φ S _ s re ?_
  unfold eCall at h
  cases hf : fa env S with
  | ok ds S1 =>
    rw [hf] at h
    intro φ1 H1 vs e1 s1 i1
    refine ⟨by rw [← i1.length]; exact hla _ _ _ _ hf, φ1, S1, ds, s1, i1, ?_⟩
    have h' : PostE G W φ1 H1 σ (F ds S1) Q := PostE.ext e1 h
    cases hF : F ds S1 with
    | ok d S2 => rw [hF] at h'; exact h'
    | ex x S2 => rw [hF] at h'; exact h'
    | bad => rw [hF] at h'; exact h'
  | ex x S1 => rw [hf] at h; exact h
  | bad => rw [hf] at h; exact h
/-! ### repr -/
end
def optL {α β : Type} (f : α → Option β) : List α → Option (List β)
  | [] => some []
  | a :: l => (f a).bind fun b => (optL f l).map (b :: ·)
section
variable {G : Glb} {X : Cx} {W : WX} {φ : Fi} {S : Store} {H : Hp}
end
/-! ### small data -/
structure Small (k w : Nat) (p : PyData) : Prop where
  sh : p.showable = true
  hd : p.hasDict = false
  cl : p.canLay0 = true
  dp : p.depth ≤ k
  si : p.intsShort 13 = true
  wt : p.weight ≤ w
theorem Small.mono {k w k' w' : Nat} {p : PyData} (h : Small k w p) (hk : k ≤ k') (hw : w ≤ w') : Small k' w' p := ⟨h.sh, h.hd, h.cl, Nat.le_trans h.dp hk, h.si, Nat.le_trans h.wt hw⟩
end DL
end
section
/-! sorted of a tuple of whole numbers. -/
namespace L2
open PySem PySem.Spec PyProof.Rows
section
variable {P : Program} {w : World} {A : Around} {E : Value → Shared → Prop} {s : Shared}
end
section
variable {X : Cx}
end
end L2
namespace DL
open PySem L2
variable {G : Glb} {X : Cx} {W : WX}
/-- sorted, of a tuple of whole numbers too -/
def bSortedY (ds : List D) (S : Store) : ER := match ds with
  | [.tup es] => match intsD es with
    | some ns => if ns.length < 64 then .ok (.lst ((sortI ns).map .int)) S else .bad
    | none => .bad
  | ds => bSortedX ds S
@[simp] theorem bSortedY_t {ns : List Int} {S : Store} : bSortedY [.tup (ns.map .int)] S = if ns.length < 64 then .ok (.lst ((sortI ns).map .int)) S else .bad := by
  unfold bSortedY
  dsimp only
  rw [intsD_map]
@[simp] theorem bSortedY_l {ns : List Int} {S : Store} : bSortedY [.lst (ns.map .int)] S = .ok (.lst ((sortI ns).map .int)) S := by
  show bSortedX [.lst (ns.map .int)] S = _
  exact bSortedX_lst.trans bSorted_l
end DL
end
section
/-! D-layer, part 17: attributes of instances. -/
namespace DL
open PySem L2
variable {G : Glb} {X : Cx} {W : WX}
/-- the law's classes: plain ones, none of whose names is fs -/
structure Kls (K : PySem.W.Frag) (ca : Str → Option Addr) (fs : List Str) : Prop where
  ok : ∀ c C, ca c = some C → Cls K C ∧ ∀ f ∈ fs, NoAttr K C f
theorem lookup_is {φ : Fi} {H : Hp} {f : Str} : ∀ {ks : List Str} {ds : List D} {fs : List (Str × V)} {d : D}, fs.map (·.1) = ks → IsL G φ H ds (fs.map (·.2)) → (ks.zip ds).lookup f = some d → ∃ v, fs.lookup f = some v ∧ Is G φ H d v
  | [], ds, fs, d, h, q, e => by simp at e
  | k :: ks, [], fs, d, h, q, e => by simp at e
  | k :: ks, d0 :: ds, [], d, h, q, e => by cases h
  | k :: ks, d0 :: ds, (g, v) :: fs, d, h, q, e => by
    have h1 : g = k := (List.cons.inj h).1
    have h2 : fs.map (·.1) = ks := (List.cons.inj h).2
    obtain ⟨x, r, e1, q1, q2⟩ := q
    have ex : v = x := (List.cons.inj e1).1
    have er : fs.map (·.2) = r := (List.cons.inj e1).2
    subst h1 ex
    rw [← er] at q2
    rw [List.zip_cons_cons, List.lookup_cons] at e
    rw [List.lookup_cons]
    cases hb : f == g with
    | true => rw [hb] at e; cases e; exact ⟨v, rfl, q1⟩
    | false => rw [hb] at e; exact lookup_is h2 q2 e
def fldD (S : Store) (d : D) (f : Str) : Option D := match d with
  | .obj _ ks ds => (ks.zip ds).lookup f
  | .loc l => match S[l]? with
    | some (.ins _ fs) => fs.lookup f
    | _ => none
  | _ => none
theorem zip_unzip {α β : Type} : ∀ l : List (α × β), (l.map (·.1)).zip (l.map (·.2)) = l
  | [] => rfl
  | a :: l => by simp [zip_unzip l]
/-- e.f -/
def eFld (f : Str) (e : EM) : EM := fun env S => (e env S).bind fun d S => match fldD S d f with
  | some x => .ok x S
  | none => .bad
/-! ### o.f = e -/
def putFD (f : Str) (d : D) : List (Str × D) → List (Str × D)
  | [] => [(f, d)]
  | (g, x) :: r => if g = f then (g, d) :: r else (g, x) :: putFD f d r
theorem putF_is {φ : Fi} {H : Hp} {f : Str} {d : D} {v : V} (i : Is G φ H d v) : ∀ {fs : List (Str × D)} {ws : List (Str × V)}, ws.map (·.1) = fs.map (·.1) → IsL G φ H (fs.map (·.2)) (ws.map (·.2)) →
    (putF f v ws).map (·.1) = (putFD f d fs).map (·.1) ∧ IsL G φ H ((putFD f d fs).map (·.2)) ((putF f v ws).map (·.2))
  | [], [], _, _ => ⟨rfl, v, [], rfl, i, rfl⟩
  | [], (g, x) :: ws, h, _ => by cases h
  | (g, x) :: fs, [], h, _ => by cases h
  | (g, x) :: fs, (g', y) :: ws, h, q => by
    have h1 : g' = g := (List.cons.inj h).1
    have h2 : ws.map (·.1) = fs.map (·.1) := (List.cons.inj h).2
    obtain ⟨x', r, e1, q1, q2⟩ := q
    have ex : y = x' := (List.cons.inj e1).1
    have er : ws.map (·.2) = r := (List.cons.inj e1).2
    subst h1 ex
    rw [← er] at q2
    unfold putF putFD
    by_cases hg : g' = f
    · rw [if_pos hg, if_pos hg]
      exact ⟨by simp [h2], v, _, rfl, i, q2⟩
    · rw [if_neg hg, if_neg hg]
      obtain ⟨p1, p2⟩ := putF_is i h2 q2
      exact ⟨by simp [p1], y, _, rfl, q1, p2⟩
def sFldS (f : Str) (o e : EM) : SM := fun env S => (e env S).bindS env fun d S => (o env S).bindS env fun a S => match a with
  | .loc l => match S[l]? with
    | some (.ins c fs) => if fs.length < 1000 then .nx env (S.set l (.ins c (putFD f d fs))) else .bad
    | _ => .bad
  | _ => .bad
section
variable {S : Store} {env : EnvD}
@[simp] theorem eFld_is {f : Str} {e : EM} : eFld f e env S = (e env S).bind fun d S => match fldD S d f with
  | some x => .ok x S
  | none => .bad := rfl
@[simp] theorem sFldS_is {f : Str} {o e : EM} : sFldS f o e env S = (e env S).bindS env fun d S => (o env S).bindS env fun a S => match a with
  | .loc l => match S[l]? with
    | some (.ins c fs) => if fs.length < 1000 then .nx env (S.set l (.ins c (putFD f d fs))) else .bad
    | _ => .bad
  | _ => .bad := rfl
end
end DL
end
section
/-! Instances made where no guard stands below. -/
namespace L2
open PySem PySem.Spec PyProof.Rows
section
variable {X : Cx} {k : Nat} {f C : Addr} {fd : FuncData} {ps : List Str} {sp : Sp} {E : St → XK} {x : Str} {p pos : Pos} {e : Expr} {es : List Expr} {t : TA} {CX : CXT}
theorem make_guards {A : Around} {us : List Value} {kw : List (Str × Value)} (gd : A.guards = some []) : (A.under (.builtin "type.__call__" ⟨.ref C :: us, kw⟩)).guards = some [] := by
  first
    | exact gd
    | (simpa [Around.under, Code.guards, Code.isGuard, pushGuards, guardIds] using gd)
end
end L2
namespace DL
open PySem L2
variable {G : Glb} {X : Cx} {W : WX}
/-- a class of the module; its __init__ has the value F -/
structure ClsG (G : Glb) (P : Program) (w : World) (mg : Str → Option Value) (base : Heap) (k : Nat) (x : Str) (n : Nat) (F : FD) : Prop where
  ex : ∃ C f fd ps, Mk G.K C f ∧ FnG P w G.K mg base (L2.CX P w) k f fd ps (spD G (n + 1) F) ∧ mg x = some (.ref C) ∧ G.ca x = some C ∧ Binds G.K fd ps []
def eMake (c : Str) (F : FD) (f : LM) : EM := fun env S => (f env S).bindE fun ds S1 => match F (.loc S1.length :: ds) (S1 ++ [.ins c []]) with
  | .ok .non S2 => .ok (.loc S1.length) S2
  | .ex x S2 => .ex x S2
  | _ => .bad
end DL
end
section
/-! Instances made with keywords; defs with defaults. -/
namespace L2
open PySem PySem.Spec PyProof.Rows
section
variable {P : Program} {w : World} {K : PySem.W.Frag} {mg : Str → Option Value} {base : Heap}
theorem fn_ofG {k : Nat} {f : Addr} {name qual : Str} {params : Arguments} {body : List Stmt} {scope : Scope} {dV kV doc pm cdv ct oc : Value} {an od : Option Addr} {osl : Array (Option Value)} {N ps : List Str} {sp : Sp}
    (lk : K.lookup f = some ⟨oc, od, .func (PySem.W.fnOf name qual params body scope dV kV doc pm an cdv ct), osl⟩) (hcd : PySem.W.codeIn K cdv qual = true) (S : FnScope N ps scope) (len : ∀ vs H Q E, sp vs H Q E → vs.length = ps.length)
    (hbody : ∀ (A : Around) (outer : List Env) (s : Shared) (H : Hp) (vs : List V) (Q : VK) (E : XK), A.guards = some [] → Room k (A.deeper (envOfC qual scope s.heap.objs.size f cdv)) → sp vs H Q E →
      ∃ t, PSs (cxOf (L2.CX P w) P w K mg base N qual scope f cdv A outer s H E) body t ∧ t { nx := fun _ H' => Q .non H', rt := Q } (start N vs) H) :
    FnG P w K mg base (L2.CX P w) (k + 1) f (PySem.W.fnOf name qual params body scope dV kV doc pm an cdv ct) ps sp := by
  refine ⟨len, fun A outer s H args us vs Q E gd hr e0 hb r hsp => ?_⟩
  have hl := len _ _ _ _ hsp
  have KX : K.In s.heap := e0.mod.kin.keeps fun b o e => (e0.bs b o e).1
  have lim : s.heap.NoLimit := e0.mod.nolimit.keeps fun b o e => (e0.bs b o e).1
  have hkind : ∀ y ∈ ps.zip us, scope.names.lookup y.1 = some .local ∨ (scope.names.lookup y.1 = some .cell ∧ ((cellsFrom (s.heap.objs.size + 1) scope.names []).lookup y.1).isSome = true) := fun ⟨n, v⟩ hy =>
    (S.par n (List.of_mem_zip hy).1).imp id fun q => ⟨q, PySem.W.cellsFrom_some _ _ _ (.inl q)⟩
  refine codeAny_call_function hr.depth (KX _ _ lk) rfl S.co S.gen rfl (PySem.W.codeRec_of KX hcd) (hb _ _ _ _ ?_)
  refine wpAny_newFunctionEnv_cells S.kind hkind fun env he s1 x => ?_
  subst he
  refine ⟨lim.keeps x.toInCall.keep, codeAny_func ?_⟩
  obtain ⟨t, ht, hq⟩ := hbody A outer s H vs Q E gd (hr.deeper _) hsp
  have I : Inv (cxOf (L2.CX P w) P w K mg base N qual scope f cdv A outer s H E) [] (start N vs) H s1 := inv_start S hr.hd e0 hl r x
  refine wpAny_mono (ht.run [] s1 (start N vs) H _ I hq) (fun fl s' hs => ?_) fun e s' hs => hs
  cases fl with
  | ret u =>
    obtain ⟨v, σ', H', J, rv, q⟩ := hs
    exact ⟨v, H', J.os, J.bare, J.base, J.hok, rv, q⟩
  | next =>
    obtain ⟨σ', H', J, q⟩ := hs
    exact ⟨V.non, H', J.os, J.bare, J.base, J.hok, rfl, q⟩
  | brk => obtain ⟨_, _, _, q⟩ := hs; exact False.elim q
  | cont => obtain ⟨_, _, _, q⟩ := hs; exact False.elim q
end
def tMakeKS (C : Addr) (n m : Nat) (sp : Sp) (gV : List V → List V → List V) (E : St → XK) (t tk : TA) : TE := fun σ H Q => t σ H fun vs H1 => tk σ H1 fun zs H2 => vs.length = n ∧ zs.length = m ∧ ∀ x dx, H2 x = none → H2 dx = none → dx ≠ x →
  sp (gV (.ref x :: vs) zs) (upd (upd H2 dx (.own x)) x (.ins C dx [])) (fun v H3 => v = .non ∧ Q (.ref x) H3) (E σ)
section
variable {X : Cx} {CX : CXT} {k n : Nat} {f C : Addr} {fd : FuncData} {ps ks : List Str} {sp : Sp} {E : St → XK} {x : Str} {p pos : Pos} {e : Expr} {es : List Expr} {kws : List Keyword} {t tk : TA} {g : List Value → List Value → List Value} {gV : List V → List V → List V}
theorem run_makeKG {pins : List (Addr × Obj)} {σ : St} {H : Hp} {s : Shared} {Q : VK} {us ws : List Value} {vs zs : List V} (M : Mk X.K C f) (F : FnG X.prog X.w X.K X.mg X.base CX k f fd ps sp) (gd : X.A.guards = some []) (hr : Room (k + 1) X.A) (hb : KBn X.K fd ps (n + 1) ks g gV) (hx : PassesAt CX X σ (E σ))
    (I : Inv X pins σ H s) (r : Vals vs us) (rz : Vals zs ws) (l1 : vs.length = n) (l2 : zs.length = ks.length)
    (h : ∀ x dx, H x = none → H dx = none → dx ≠ x → sp (gV (.ref x :: vs) zs) (upd (upd H dx (.own x)) x (.ins C dx [])) (fun v H2 => v = .non ∧ Q (.ref x) H2) (E σ)) :
    wpAny (model X.prog X.w) X.A (call (.ref C) us (ks.zip ws)) (EP X pins σ Q) X.xe s := by
  have hq := h (s.heap.objs.size + 1) s.heap.objs.size (I.hok.fresh (Nat.le_succ _)) (I.hok.fresh (Nat.le_refl _)) (Nat.ne_of_lt (Nat.lt_succ_self _))
  have I2 := Inv.made (C := C) I
  have r1 : Vals (V.ref (s.heap.objs.size + 1) :: vs) (Value.ref (s.heap.objs.size + 1) :: us) := .cons rfl r
  have r2 := hb.rel r1 rz
  have n1 : (Value.ref (s.heap.objs.size + 1) :: us).length = n + 1 := by rw [List.length_cons, ← r.length, l1]
  refine wpAny_call (make_map (f := f) I.kIn M.makes M.init (beq_iff_eq.mp M.fn) (codeAny_mono (F.run _ X.stack _ _ ⟨Value.ref (s.heap.objs.size + 1) :: us, ks.zip ws⟩ (g (Value.ref (s.heap.objs.size + 1) :: us) ws) _ _ (E σ) (make_guards gd) (hr.make C us (ks.zip ws))
    (I2.env0.make C us (ks.zip ws)) (hb.to _ (Value.ref (s.heap.objs.size + 1) :: us) ws I2.kIn n1 (rz.length.symm.trans l2)) r2 hq) fun r s' hq' => ?_))
  cases r with
  | error e => exact hx pins _ _ e s' I2 hq'
  | ok fl =>
    cases fl with
    | ret u =>
      obtain ⟨v, H', I3, rv, ev, q3⟩ := I2.after hq'
      subst ev
      exact ⟨rv, ⟨V.ref (s.heap.objs.size + 1), H', I3, rfl, q3⟩⟩
    | next => exact False.elim hq'
    | brk => exact False.elim hq'
    | cont => exact False.elim hq'
theorem pe_makeKG (M : Mk X.K C f) (F : FnG X.prog X.w X.K X.mg X.base CX k f fd ps sp) (gd : X.A.guards = some []) (hr : Room (k + 1) X.A) (hg : Gl X x) (hm : X.mg x = some (.ref C)) (hb : KBn X.K fd ps (n + 1) ks g gV) (hx : ∀ σ, PassesAt CX X σ (E σ)) (ha : PA X (e :: es) t) (hkw : PK X kws tk)
    (hall : (backToKw pos (keywordEach kws X.env)).all (·.1.isSome) = true := by rfl) (hks : (backToKw pos (keywordEach kws X.env)).filterMap (·.1) = ks := by rfl) (hdb : (x == ("__debug__" : Str)) = false := by decide)
    (he : starEach (e :: es) X.env = (false, eval e X.env) :: starEach es X.env := by rfl) (hpl : ((backTo pos (starEach (e :: es) X.env)).any (·.1) || (backToKw pos (keywordEach kws X.env)).any (·.1.isNone)) = false := by rfl) :
    PE X (.Call (.Name x p) (e :: es) kws pos) (tMakeKS C n ks.length sp gV E t tk) := by
  refine ⟨fun pins s σ H Q I h => ?_⟩
  refine wpAny_Call_Name_kw (ld_glob I hg hm ?_ hdb)
  refine PySem.W.callWith_KW (h₀ := X.base) I.ok.mod.kin M.kp hall (thn (ha.run pos pins s σ H _ I h) fun us s1 ⟨vs, H1, I1, r, q⟩ => ?_) hpl he
  refine thn (hkw.run pos pins s1 σ H1 _ I1 q) fun ws s2 ⟨zs, H2, I2, rz, l1, l2, q2⟩ => ⟨I2.kIn, ?_⟩
  rw [hks]
  exact run_makeKG M F gd hr hb (hx σ) I2 r rz l1 l2 q2
end
end L2
namespace DL
open PySem L2
variable {G : Glb} {X : Cx} {W : WX}
/-- values of keywords, told in the order of the parameters -/
def DK (G : Glb) (X : Cx) (W : WX) (kws : List Keyword) (f : LM) : Prop := ∃ t, PK X kws t ∧ ∀ σ H env φ S Q, SOk G φ S H → RepE G φ H σ env → PostL G W φ H σ (f env S) Q → t σ H Q
theorem dk_nil : DK G X W [] lNil := ⟨_, pk_nil, fun σ H env φ S Q s re h => h φ H [] .refl s rfl⟩
theorem dk_cons {nm : Option Str} {e : Expr} {kpos : Pos} {kws : List Keyword} {f : EM} {g : LM} (ha : DE G X W e f) (hb : DK G X W kws g) : DK G X W (⟨nm, e, kpos⟩ :: kws) (lCons f g) := by
  obtain ⟨ta, pa, qa⟩ := ha
  obtain ⟨tb, pb, qb⟩ := hb
  refine ⟨_, pk_cons pa pb, fun σ H env φ S Q s r h => ?_⟩
  refine qa σ H env φ S _ s r (PostE.bindL h fun d S1 φ1 H1 v e1 s1 i1 h1 => ?_)
  refine qb σ H1 env φ1 S1 _ s1 (r.ext e1) (PostL.bind h1 fun ds S2 φ2 H2 vs e2 s2 i2 h2 => ?_)
  exact h2.now s2 (.cons (i1.ext e2) i2)
theorem isL_append {φ : Fi} {H : Hp} : ∀ {ds es : List D} {xs ys : List V}, IsL G φ H ds xs → IsL G φ H es ys → IsL G φ H (ds ++ es) (xs ++ ys)
  | [], es, xs, ys, h, k => by cases (show xs = [] from h); exact k
  | d :: ds, es, xs, ys, h, k => by
    obtain ⟨x, r, rfl, p, q⟩ := h
    exact ⟨x, r ++ ys, rfl, p, isL_append q k⟩
/-- a class whose __init__ takes n values and keywords ks behind -/
structure ClsK (G : Glb) (P : Program) (w : World) (mg : Str → Option Value) (base : Heap) (k : Nat) (x : Str) (n : Nat) (ks : List Str) (F : FD) : Prop where
  ex : ∃ C f fd ps g, Mk G.K C f ∧ FnG P w G.K mg base (L2.CX P w) k f fd ps (spD G (n + 1 + ks.length) F) ∧ mg x = some (.ref C) ∧ G.ca x = some C ∧ KBn G.K fd ps (n + 1) ks g (fun vs zs => vs ++ zs)
end DL
end
section
/-! D-layer: a def with defaults (an __init__ with keywords), told by its value. -/
namespace DL
open PySem L2 PyProof.Rows
theorem fnGD {G : Glb} {P : Program} {w : World} {mg : Str → Option Value} {base : Heap} {x qual : Str} {params : Arguments} {bd : List Stmt} {scope : Scope} {dvs : List V} {kws : List (Str × V)} {f : Addr} {fd : FuncData} {N ps : List Str} {k : Nat} {g : SM} (m : Mode) (F : FunD G.K x qual params bd scope dvs kws f fd) (S : FnScope N ps scope)
    (body : ∀ (cdv : Value) (A : Around) (outer : List Env) (s : Shared) (H : Hp) (E : XK), Room k (A.deeper (envOfC qual scope s.heap.objs.size f cdv)) →
      Takes (cxOf (L2.CX P w) P w G.K mg base N qual scope f cdv A outer s H E) (fun cls d _ H => E cls d H) →
      PassesOwn (model P w) (A.deeper (envOfC qual scope s.heap.objs.size f cdv)) (envOfC qual scope s.heap.objs.size f cdv) (cxOf (L2.CX P w) P w G.K mg base N qual scope f cdv A outer s H E).xe →
      (cxOf (L2.CX P w) P w G.K mg base N qual scope f cdv A outer s H E).A.guards = some [] →
      DSs G (cxOf (L2.CX P w) P w G.K mg base N qual scope f cdv A outer s H E) (fun cls d _ H => E cls d H) bd g) :
    FnG P w G.K mg base (L2.CX P w) (k + 1) f fd ps (spD G ps.length (fnF m N.length g)) := by
  obtain ⟨oc, od, dV, kV, doc, pm, an, cdv, ct, osl, rfl, lk, hcd, _, _⟩ := F.ex
  refine fn_ofG lk hcd S (fun vs H Q E h => h.1) (fun A outer s H vs Q E gd hr h => ?_)
  obtain ⟨_, φ, S0, ds, so, il, hp⟩ := h
  obtain ⟨t, pt, qt⟩ := body cdv A outer s H E hr (takes_of rfl rfl rfl rfl) (passes_of rfl) gd
  refine ⟨t, pt, qt (L2.start N vs) H (startD N.length ds) φ S0 _ so (rep_start N il) ?_⟩
  unfold fnF at hp
  cases hg : g (startD N.length ds) S0 with
  | nx e S1 => rw [hg] at hp; exact fun φ1 H1 σ1 e1 s1 r1 => exit_ok so e1 s1 (show Is G φ1 H1 .non .non from rfl) hp
  | rt d S1 => rw [hg] at hp; exact fun φ1 H1 v e1 s1 i1 => exit_ok so e1 s1 i1 hp
  | ex x e S1 => rw [hg] at hp; exact fun φ1 H1 σ1 cls dx e1 s1 r1 ix => hp φ1 H1 cls dx e1 s1 ix
  | bk e S1 => rw [hg] at hp; exact False.elim hp
  | ct e S1 => rw [hg] at hp; exact False.elim hp
  | bad => rw [hg] at hp; exact False.elim hp
end DL
end
section
/-! Defs called with keywords. -/
namespace L2
open PySem PySem.Spec PyProof.Rows
section
variable {X : Cx} {CX : CXT} {k n : Nat} {f : Addr} {fd : FuncData} {ps ks : List Str} {sp : Sp} {E : St → XK} {x : Str} {p pos : Pos} {e : Expr} {es : List Expr} {kws : List Keyword} {t tk : TA} {g : List Value → List Value → List Value} {gV : List V → List V → List V}
end
end L2
namespace DL
open PySem L2
variable {G : Glb} {X : Cx} {W : WX}
/-- a def called with n values and keywords ks behind, in the parameters' order -/
structure DefK (G : Glb) (P : Program) (w : World) (mg : Str → Option Value) (base : Heap) (k : Nat) (x : Str) (n : Nat) (ks : List Str) (F : FD) : Prop where
  ex : ∃ f fd ps g, FnG P w G.K mg base (L2.CX P w) k f fd ps (spD G (n + ks.length) F) ∧ mg x = some (.ref f) ∧ PySem.W.keepIn G.K (.ref f) = true ∧ KBn G.K fd ps n ks g (fun vs zs => vs ++ zs)
end DL
end
section
/-! Defs called with keywords, some of them left out: the values in the parameters' order. -/
namespace DL
open PySem L2
variable {G : Glb} {X : Cx} {W : WX}
/-- a def called with n values and keywords ks: m parameters, their values gD -/
structure DefKN (G : Glb) (P : Program) (w : World) (mg : Str → Option Value) (base : Heap) (k : Nat) (x : Str) (n : Nat) (ks : List Str) (m : Nat) (gD : List D → List D → List D) (F : FD) : Prop where
  ex : ∃ f fd ps g gV, FnG P w G.K mg base (L2.CX P w) k f fd ps (spD G m F) ∧ mg x = some (.ref f) ∧ PySem.W.keepIn G.K (.ref f) = true ∧ KBn G.K fd ps n ks g gV ∧
    ∀ {φ : Fi} {H : Hp} {ds es : List D} {vs zs : List V}, ds.length = n → es.length = ks.length → IsL G φ H ds vs → IsL G φ H es zs → IsL G φ H (gD ds es) (gV vs zs) ∧ (gD ds es).length = m
end DL
end
section
/-! A def with keyword-only defaults, told of K; its calls by keywords. -/
namespace DL
open PySem L2 PyProof.Rows
section
variable {K : PySem.W.Frag}
def KwAt (K : PySem.W.Frag) (D : Addr) (kws : List (Str × V)) : Prop := ∀ q ∈ kws, ∃ u, PySem.W.nsIn K D q.1 = some (some u) ∧ RelV q.2 u
theorem kw_nil {D : Addr} : KwAt K D [] := fun _ h => by cases h
theorem kw_int {D : Addr} {x : Str} {i : Int} {t : Tok} {r : List (Str × V)} (h : PySem.W.nsIn K D x = some (some (.int i t))) (k : KwAt K D r) : KwAt K D ((x, .int i) :: r) := fun q hq => by
  rcases List.mem_cons.mp hq with e | hq
  · subst e; exact ⟨_, h, _, rfl⟩
  · exact k q hq
theorem kw_str {D : Addr} {x y : Str} {t : Tok} {r : List (Str × V)} (h : PySem.W.nsIn K D x = some (some (.str y t))) (k : KwAt K D r) : KwAt K D ((x, .str y) :: r) := fun q hq => by
  rcases List.mem_cons.mp hq with e | hq
  · subst e; exact ⟨_, h, _, rfl⟩
  · exact k q hq
/-- a def with keyword-only defaults (none of the others has one) -/
theorem fun_mkK {x qual : Str} {params : Arguments} {body : List Stmt} {scope : Scope} {oc : Value} {od an : Option Addr} {sl : Array (Option Value)} {D f : Addr} {dc pm cd ct : Value} {kws : List (Str × V)}
    (l : K.lookup f = some ⟨oc, od, .func (PySem.W.fnOf x qual params body scope .none (.ref D) dc pm an cd ct), sl⟩) (c : PySem.W.codeIn K cd qual = true) (k : PySem.W.keepIn K (.ref f) = true) (q : KwAt K D kws) :
    FunD K x qual params body scope [] kws f (PySem.W.fnOf x qual params body scope .none (.ref D) dc pm an cd ct) :=
  ⟨⟨_, _, _, _, _, _, _, _, _, _, rfl, l, c, .inl ⟨rfl, rfl⟩, .inr ⟨D, rfl, q⟩⟩, k⟩
end
/-- data as values: what defaults are -/
def dV : D → V
  | .non => .non
  | .bl b => .bl b
  | .int i => .int i
  | .str x => .str x
  | _ => .non
end DL
end
section
/-! A def with keyword-only defaults: what a call by keywords asks (DefKN). -/
namespace DL
open PySem L2 PyProof.Rows
/-- values in the parameters' order: inl i: the i-th default that is used, inr i: the i-th keyword's value -/
def pk {α : Type} : List (Nat ⊕ Nat) → List α → List α → List α
  | [], _, _ => []
  | .inl i :: s, b, c => (match b[i]? with
    | some x => x :: pk s b c
    | none => pk s b c)
  | .inr i :: s, b, c => (match c[i]? with
    | some x => x :: pk s b c
    | none => pk s b c)
theorem vals_none {vs : List V} {us : List Value} (r : Vals vs us) {i : Nat} (h : vs[i]? = none) : us[i]? = none := by
  rw [List.getElem?_eq_none_iff] at h ⊢
  rw [← r.length]; exact h
theorem pk_vals {b c : List V} {b' c' : List Value} (rb : Vals b b') (rc : Vals c c') : ∀ s : List (Nat ⊕ Nat), Vals (pk s b c) (pk s b' c')
  | [] => .nil
  | .inl i :: s => by
    simp only [pk]
    cases h : b[i]? with
    | none => rw [vals_none rb h]; exact pk_vals rb rc s
    | some x => obtain ⟨u, e, r⟩ := rb.get h; rw [e]; exact .cons r (pk_vals rb rc s)
  | .inr i :: s => by
    simp only [pk]
    cases h : c[i]? with
    | none => rw [vals_none rc h]; exact pk_vals rb rc s
    | some x => obtain ⟨u, e, r⟩ := rc.get h; rw [e]; exact .cons r (pk_vals rb rc s)
theorem isL_none {G : Glb} {φ : Fi} {H : Hp} {ds : List D} {vs : List V} (r : IsL G φ H ds vs) {i : Nat} (h : ds[i]? = none) : vs[i]? = none := by
  rw [List.getElem?_eq_none_iff] at h ⊢
  rw [← r.length]; exact h
theorem pk_isL {G : Glb} {φ : Fi} {H : Hp} {b c : List D} {b' c' : List V} (rb : IsL G φ H b b') (rc : IsL G φ H c c') : ∀ s : List (Nat ⊕ Nat), IsL G φ H (pk s b c) (pk s b' c')
  | [] => rfl
  | .inl i :: s => by
    simp only [pk]
    cases h : b[i]? with
    | none => rw [isL_none rb h]; exact pk_isL rb rc s
    | some x => obtain ⟨u, e, r⟩ := rb.get h; rw [e]; exact .cons r (pk_isL rb rc s)
  | .inr i :: s => by
    simp only [pk]
    cases h : c[i]? with
    | none => rw [isL_none rc h]; exact pk_isL rb rc s
    | some x => obtain ⟨u, e, r⟩ := rc.get h; rw [e]; exact .cons r (pk_isL rb rc s)
end DL
end
section
/-! D-layer, part 18: text.split(text). -/
namespace DL
open PySem L2
variable {G : Glb} {X : Cx} {W : WX}
theorem isL_strs {φ : Fi} {H : Hp} : ∀ xs : List Str, IsL G φ H (xs.map .str) (xs.map V.str)
  | [] => rfl
  | x :: xs => ⟨.str x, _, rfl, rfl, isL_strs xs⟩
def mSplit (o : D) (ds : List D) (S : Store) : ER := match o, ds with
  | .str a, [.str b] => if (b.length == 0) = false ∧ a.length ≤ 10000000 then .ok (.lst ((Txt.split a b).map .str)) S else .bad
  | _, _ => .bad
theorem dm_split : DMeth G X "str.split" mSplit := by
  refine ⟨_, mt_split, fun W φ S H σ dx ds x xs Q s ix ids h => ?_⟩
  unfold mSplit at h
  split at h
  · rename_i a b
    obtain ⟨y, rfl, k⟩ := IsL.inv1 ids
    cases (show y = _ from k)
    split at h
    · rename_i c
      refine ⟨a, b, ix, rfl, c.1, by rw [sizeLine_eq]; omega, ?_⟩
      intro p hp
      exact lst_new s (isL_strs _) h hp
    · exact bad_no h
  · exact bad_no h
end DL
end
section
/-! D-layer, part 19: list(d.items()), d a dict that may be locked. -/
namespace DL
open PySem PySem.Spec PyProof.Rows L2
section
variable {X : Cx} {e : Expr} {te : TE} {p apos cpos pos : Pos}
end
variable {G : Glb} {X : Cx} {W : WX}
end DL
end
section
/-! Own classes: isinstance with both answers, methods. -/
namespace L2
open PySem PySem.Spec PyProof.Rows
/-- types, wider still -/
inductive TyZ (K : PySem.W.Frag) (H : Hp) : V → Value → Prop where
  | x {v : V} {t : Value} (h : TyX K H v t) : TyZ K H v t
  | fT {a : Addr} {o : Obj} {kvs : List (List Key × V)} (e : H a = some (.frz o (.dT kvs))) : TyZ K H (.ref a) (.type "dict")
theorem kit_ofZ {X : Cx} {pins : List (Addr × Obj)} {σ : St} {H : Hp} {s : Shared} {v : V} {u t : Value} (I : Inv X pins σ H s) (rx : RelV v u) (ty : TyZ X.K H v t) : ∃ P : Heap → Prop, PySem.W.KitX X.K u t P ∧ P s.heap ∧ u ≠ .builtin "__main__.__loader__#opaque" := by
  cases ty with
  | x h => exact kit_of I rx h
  | @fT a ob kvs ea =>
    cases (show u = Value.ref a from rx)
    obtain ⟨_, q⟩ := I.hok a _ ea
    obtain ⟨_, _, xs, _, o, es, ep, h1, h2, _⟩ := (show ObjOk X.prog X.w H s.heap a (.dT kvs) from q)
    exact ⟨_, PySem.W.kitx_dict, ⟨o, h1, h2.1⟩, fun z => nomatch z⟩
def rIsZ (K : PySem.W.Frag) : List V → Hp → VK → Prop := fun xs H Q => ∃ (x c : V) (t u : Value) (b : Bool), xs = [x, c] ∧ ClsV c u ∧ TyZ K H x t ∧ PySem.W.kitOne K t u = some b ∧ Q (.bl b) H
def rIsZT (K : PySem.W.Frag) : List V → Hp → VK → Prop := fun xs H Q => ∃ (x : V) (tp : Addr) (cs : List V) (t : Value) (us : List Value) (b : Bool), xs = [x, .ref tp] ∧ H tp = some (.tup cs) ∧ Paired ClsV cs us ∧ TyZ K H x t ∧ PySem.W.kitAny K t us = some b ∧ Q (.bl b) H
section
variable {X : Cx}
theorem call_isZ : CallR X (.builtin "isinstance") (rIsZ X.K) := by
  intro pins s σ H xs us Q I r h
  obtain ⟨x, c, t, u, b, rfl, k, ty, e, q⟩ := h
  obtain ⟨w1, w2, rfl, p1, p2⟩ := vals2 r
  cases k.eq p2
  obtain ⟨P, Z, p, hx⟩ := kit_ofZ I p1 ty
  exact PySem.W.kia_one Z I.kIn p e hx fun tk => ⟨.bl b, H, I.tok tk, rfl, q⟩
theorem call_isZT : CallR X (.builtin "isinstance") (rIsZT X.K) := by
  intro pins s σ H xs us Q I r h
  obtain ⟨x, tp, cs, t, ws, b, rfl, hT, k, ty, e, q⟩ := h
  obtain ⟨w1, w2, rfl, p1, p2⟩ := vals2 r
  cases (show w2 = Value.ref tp from p2)
  obtain ⟨P, Z, p, hx⟩ := kit_ofZ I p1 ty
  obtain ⟨_, its, rv, o, h1, h2, n, h3⟩ := (show ObjOk X.prog X.w H s.heap tp (.tup cs) from I.hok tp _ hT)
  cases ClsV.all k rv
  obtain ⟨oc, od, dt, sl⟩ := o
  dsimp only at h2 h3
  subst h2 h3
  exact PySem.W.kia_tup Z I.kIn p h1 e hx fun tk => ⟨.bl b, H, I.tok tk, rfl, q⟩
end
/-! ### methods, where no guard stands below -/
section
variable {X : Cx} {CX : CXT} {k : Nat} {m : Str} {E : St → XK} {pos apos : Pos} {e o : Expr} {es : List Expr} {ta : TE} {t : TA} {Ok : Addr → Addr → Sp → Prop}
end
end L2
namespace DL
open PySem L2
variable {G : Glb} {X : Cx} {W : WX}
/-! ### isinstance -/
/-- built-in types, own classes, own exceptions, built-in exceptions -/
inductive TyD where
  | b (t : Ty) | o (c : Str) | x (c : Str)
def ClD (G : Glb) : TyD → Value → Prop
  | .b t, v => v = .type t.nm
  | .o c, v => ∃ C, G.ca c = some C ∧ v = .ref C
  | .x _, _ => False
/-- what isinstance asks of an own class -/
structure OwnC (K : PySem.W.Frag) (C : Addr) : Prop where
  cl : Cls K C
  ha : PySem.W.findIn K (.ref C) "__class__" = some (some (.builtin "object.__class__"))
  hn : PySem.W.specialIn K (.builtin "object.__class__") "__get__" = some (some (.builtin "getset_descriptor.__get__"))
  ht : PySem.W.takesIn K (.builtin "object.__class__") = some true
  hm : PySem.W.mroIn K C (.type "object") = some true
def tyO (S : Store) : D → Option TyD
  | .obj c _ _ => some (.o c)
  | .dct _ _ => some (.b .dict)
  | .loc l => match S[l]? with
    | some (.ins c _) => some (.o c)
    | some (.lst _) => some (.b .list)
    | some (.dic _) => some (.b .dict)
    | some (.dct _) => some (.b .dict)
    | none => none
  | d => (tyOf S d).map .b
theorem tyO_is (hc : ∀ c C, G.ca c = some C → OwnC G.K C) {φ : Fi} {S : Store} {H : Hp} {d : D} {v : V} {t : TyD} (s : SOk G φ S H) (i : Is G φ H d v) (e : tyO S d = some t) : ∃ tv, ClD G t tv ∧ TyZ G.K H v tv := by
  have old : ∀ {d : D} {v : V}, Is G φ H d v → (tyOf S d).map TyD.b = some t → ∃ tv, ClD G t tv ∧ TyZ G.K H v tv := fun i e => by
    obtain ⟨a, e1, e2⟩ := Option.map_eq_some_iff.mp e
    subst e2
    exact ⟨_, rfl, .x (tyOf_is s i e1)⟩
  have own : ∀ {c : Str} {C a dx : Addr} {fs : List (Str × V)}, G.ca c = some C → H a = some (.ins C dx fs) → ∃ tv, ClD G (.o c) tv ∧ TyZ G.K H (.ref a) tv := fun {c C a dx fs} h1 h2 => by
    have q := hc c C h1
    exact ⟨_, ⟨C, h1, rfl⟩, .x (.base (.ins h2 q.cl q.ha q.hn q.ht q.hm))⟩
  cases d with
  | obj c ks ds =>
    cases e
    obtain ⟨a, C, dx, fs, rfl, ⟨_, h⟩, h1, _⟩ := i
    exact own h1 h
  | dct ks ds =>
    cases e
    obtain ⟨a, xs, rfl, ⟨_, r | ⟨o, r⟩⟩, _⟩ := i
    · exact ⟨_, rfl, .x (.base (.dT r))⟩
    · exact ⟨_, rfl, .fT r⟩
  | loc l =>
    simp only [tyO] at e
    split at e
    · rename_i c fs hl
      cases e
      obtain ⟨a, ha, rfl⟩ := i
      obtain ⟨C, dx, ws, h1, h2, _⟩ := s.at_ hl ha
      exact own h1 h2
    all_goals first | (cases e; done) | (rename_i hl; exact old (d := .loc l) i (by simp only [tyOf]; rw [hl]; exact e))
  | exn c ks ds => cases e
  | tpl ds => exact old i e
  | non => exact old i e
  | bl b => exact old i e
  | int b => exact old i e
  | str b => exact old i e
  | tup b => exact old i e
  | lst b => exact old i e
  | dic ks b => exact old i e
/-- what a class says of things -/
structure IsT (G : Glb) (u : Value) (tab : TyD → Option Bool) : Prop where
  ok : ∀ t tv r, ClD G t tv → tab t = some r → PySem.W.kitOne G.K tv u = some r
def tabB (b : Ty) : TyD → Option Bool
  | .b t => some (t.isa b)
  | _ => some false
def tabO (c0 : Str) : TyD → Option Bool
  | .o c => some (decide (c = c0))
  | _ => some false
theorem kit_ref {K : PySem.W.Frag} {C : Addr} {t : Value} {b : Bool} (h1 : PySem.W.isClsIn K C = true) (h2 : PySem.W.typeIn K (.ref C) = some (.type "type")) (h3 : PySem.W.subIn K t (.ref C) = some b) (h4 : t = .ref C → b = true) : PySem.W.kitOne K t (.ref C) = some b := by
  unfold PySem.W.kitOne
  split
  · rename_i z
    rw [h4 (beq_iff_eq.mp z)]
  · unfold PySem.W.kitCls
    dsimp only
    rw [if_pos]
    · exact h3
    · rw [Bool.and_eq_true]
      exact ⟨h1, beq_iff_eq.mpr h2⟩
theorem kit_type {K : PySem.W.Frag} {C : Addr} {T : String} {b : Bool} (hT : PySem.W.kitMeta T = true) (h3 : PySem.W.mroIn K C (.type T) = some b) : PySem.W.kitOne K (.ref C) (.type T) = some b := by
  unfold PySem.W.kitOne
  rw [if_neg (by intro z; exact nomatch beq_iff_eq.mp z)]
  unfold PySem.W.kitCls
  dsimp only
  rw [if_pos hT]
  exact h3
theorem isT_b (b : Ty) (hb : b ≠ .none) (ho : ∀ c C, G.ca c = some C → PySem.W.mroIn G.K C (.type b.nm) = some false) : IsT G (.type b.nm) (tabB b) := by
  have hM : PySem.W.kitMeta b.nm = true := by cases b <;> first | exact absurd rfl hb | decide +kernel
  refine ⟨fun t tv r h1 h2 => ?_⟩
  cases t with
  | b t => cases (show tv = _ from h1); cases h2; exact kit_ty (ty_kit t b hb)
  | o c => obtain ⟨C, e1, rfl⟩ := h1; cases h2; exact kit_type hM (ho c C e1)
  | x c => exact False.elim h1
theorem isT_o {c0 : Str} {C0 : Addr} (h0 : G.ca c0 = some C0) (h1 : PySem.W.isClsIn G.K C0 = true) (h2 : PySem.W.typeIn G.K (.ref C0) = some (.type "type")) (ho : ∀ c C, G.ca c = some C → PySem.W.mroIn G.K C (.ref C0) = some (decide (c = c0))) :
    IsT G (.ref C0) (tabO c0) := by
  have self : PySem.W.mroIn G.K C0 (.ref C0) = some true := by rw [ho c0 C0 h0, decide_eq_true rfl]
  refine ⟨fun t tv r q1 q2 => ?_⟩
  cases t with
  | b t =>
    cases (show tv = _ from q1); cases q2
    refine kit_ref h1 h2 ?_ (fun z => nomatch z)
    cases t <;> rfl
  | o c =>
    obtain ⟨C, e1, rfl⟩ := q1; cases q2
    refine kit_ref h1 h2 (ho c C e1) fun z => ?_
    have e := Value.ref.inj z
    subst e
    have a := ho c C e1
    rw [self] at a
    exact (Option.some.inj a).symm
  | x c => exact False.elim q1
theorem ca_all {l : List (Str × Addr)} {P : Str → Addr → Prop} (h : ∀ p ∈ l, P p.1 p.2) : ∀ c C, l.lookup c = some C → P c C := by
  intro c C e
  induction l with
  | nil => cases e
  | cons p r ih =>
    obtain ⟨c1, C1⟩ := p
    rw [List.lookup_cons] at e
    cases hb : c == c1 with
    | true =>
      rw [hb] at e; cases e
      have : c = c1 := beq_iff_eq.mp hb
      subst this
      exact h _ List.mem_cons_self
    | false => rw [hb] at e; exact ih (fun p hp => h p (List.mem_cons_of_mem _ hp)) e
def eIsC (tab : TyD → Option Bool) (f : EM) : EM := fun env S => (f env S).bind fun d S => match (tyO S d).bind tab with
  | some b => .ok (.bl b) S
  | none => .bad
/-- a class, written by its name -/
structure CName (X : Cx) (x : Str) (v : V) (u : Value) : Prop where
  pe : ∀ pos : Pos, PE X (.Name x pos) (tC v)
  cv : ClsV v u
theorem cn_ty {x : Str} {T : String} (hg : Gl X x) (hm : X.mg x = none) (hv : bootBuiltins x = some (.type T)) (hn : x ≠ "__name__" := by decide) (hdb : (x == ("__debug__" : Str)) = false := by decide) : CName X x (.ty T) (.type T) :=
  ⟨fun _ => pe_bltn hg hm hv rfl hn hdb, .ty T⟩
theorem cn_own {x : Str} {C : Addr} (hg : Gl X x) (hm : X.mg x = some (.ref C)) (hd : (x == ("__debug__" : Str)) = false := by decide) : CName X x (.ref C) (.ref C) :=
  ⟨fun _ => pe_glob hg hm rfl hd, .own C⟩
theorem de_isC {x : Str} {v : V} {u : Value} {tab : TyD → Option Bool} {e : Expr} {p p2 pos : Pos} {f : EM} (hK : X.K = G.K) (hc : ∀ c C, G.ca c = some C → OwnC G.K C) (ist : IsT G u tab) (cn : CName X x v u) (hg : Gl X "isinstance") (hm : X.mg "isinstance" = none) (he : DE G X W e f)
    (hst : starEach [e, .Name x p2] X.env = (false, eval e X.env) :: starEach [.Name x p2] X.env := by rfl) (hst2 : starEach [.Name x p2] X.env = (false, eval (.Name x p2) X.env) :: starEach [] X.env := by rfl) (hpl : (backTo pos (starEach [.Name x p2] X.env)).any (·.1) = false := by rfl) :
    DE G X W (.Call (.Name "isinstance" p) [e, .Name x p2] [] pos) (eIsC tab f) := by
  obtain ⟨t, pt, qt⟩ := he
  refine ⟨_, pe_callB call_isZ hg hm (by decide +kernel) (pa_cons pt (pa_cons (cn.pe p2) pa_nil hst2) hst) (by decide) (by decide) hst hpl, fun σ H env φ S Q s re h => ?_⟩
  refine qt σ H env φ S _ s re (PostE.bind h fun d S1 φ1 H1 y e1 s1 i1 h1 => ?_)
  split at h1
  · rename_i b hb
    obtain ⟨t, ht, hb⟩ := Option.bind_eq_some_iff.mp hb
    obtain ⟨tv, c1, c2⟩ := tyO_is hc s1 i1 ht
    exact ⟨y, v, tv, u, b, rfl, cn.cv, by rw [hK]; exact c2, by rw [hK]; exact ist.ok t tv b c1 hb, h1.now s1 rfl⟩
  · exact False.elim h1
def tabF : TyD → Option Bool := fun _ => some false
def tabOr (a b : TyD → Option Bool) : TyD → Option Bool := fun t => match a t with
  | some true => some true
  | some false => b t
  | none => none
@[simp] theorem tabF_is {t : TyD} : tabF t = some false := rfl
@[simp] theorem tabOr_is {a b : TyD → Option Bool} {t : TyD} : tabOr a b t = match a t with
  | some true => some true
  | some false => b t
  | none => none := rfl
/-- isinstance(e, (A, B, ..)) -/
inductive CNames (G : Glb) (X : Cx) : List Expr → List V → List Value → (TyD → Option Bool) → Prop where
  | nil : CNames G X [] [] [] tabF
  | cons {x : Str} {pos : Pos} {v : V} {u : Value} {tab tab2 : TyD → Option Bool} {es : List Expr} {vs : List V} {us : List Value} (cn : CName X x v u) (ist : IsT G u tab) (r : CNames G X es vs us tab2)
      (hs : starEach (.Name x pos :: es) X.env = (false, eval (.Name x pos) X.env) :: starEach es X.env := by rfl) : CNames G X (.Name x pos :: es) (v :: vs) (u :: us) (tabOr tab tab2)
theorem CNames.pa {es : List Expr} {vs : List V} {us : List Value} {tab : TyD → Option Bool} (c : CNames G X es vs us tab) : ∃ t, PA X es t ∧ ∀ σ H Q, Q vs H → t σ H Q := by
  induction c with
  | nil => exact ⟨_, pa_nil, fun _ _ _ h => h⟩
  | cons cn ist r hs ih =>
    obtain ⟨t, h1, h2⟩ := ih
    exact ⟨_, pa_cons (cn.pe _) h1 hs, fun σ H Q h => h2 σ H _ h⟩
theorem CNames.vs {es : List Expr} {vs : List V} {us : List Value} {tab : TyD → Option Bool} (c : CNames G X es vs us tab) : Paired ClsV vs us := by
  induction c with
  | nil => exact .nil
  | cons cn ist r hs ih => exact .cons cn.cv ih
theorem CNames.len {es : List Expr} {vs : List V} {us : List Value} {tab : TyD → Option Bool} (c : CNames G X es vs us tab) : vs.length = es.length := by
  induction c with
  | nil => rfl
  | cons cn ist r hs ih => simp [ih]
theorem CNames.any {es : List Expr} {vs : List V} {us : List Value} {tab : TyD → Option Bool} (c : CNames G X es vs us tab) : ∀ {t : TyD} {tv : Value} {b : Bool}, ClD G t tv → tab t = some b → PySem.W.kitAny G.K tv us = some b := by
  induction c with
  | nil => intro t tv b _ h; cases h; rfl
  | @cons x pos v u tab tab2 es vs us cn ist r hs ih =>
    intro t tv b h1 h2
    unfold PySem.W.kitAny
    unfold tabOr at h2
    cases h3 : tab t with
    | none => rw [h3] at h2; cases h2
    | some b1 =>
      rw [h3] at h2
      rw [ist.ok t tv b1 h1 h3]
      cases b1 with
      | true => exact h2
      | false => exact ih h1 h2
theorem de_isCs {es : List Expr} {vs : List V} {us : List Value} {tab : TyD → Option Bool} {e : Expr} {kt} {p p4 pos : Pos} {f : EM} (hK : X.K = G.K) (hc : ∀ c C, G.ca c = some C → OwnC G.K C) (cn : CNames G X es vs us tab) (hl : es.length ≤ 16777216) (hg : Gl X "isinstance") (hm : X.mg "isinstance" = none) (he : DE G X W e f)
    (hst : starEach [e, .Tuple es kt p4] X.env = (false, eval e X.env) :: starEach [.Tuple es kt p4] X.env := by rfl)
    (hst2 : starEach [.Tuple es kt p4] X.env = (false, eval (.Tuple es kt p4) X.env) :: starEach [] X.env := by rfl) (hpl : (backTo pos (starEach [.Tuple es kt p4] X.env)).any (·.1) = false := by rfl) :
    DE G X W (.Call (.Name "isinstance" p) [e, .Tuple es kt p4] [] pos) (eIsC tab f) := by
  obtain ⟨t, pt, qt⟩ := he
  obtain ⟨tt, ptt, qtt⟩ := cn.pa
  refine ⟨_, pe_callB call_isZT hg hm (by decide +kernel) (pa_cons pt (pa_cons (pe_tup ptt) pa_nil hst2) hst) (by decide) (by decide) hst hpl, fun σ H env φ S Q s re h => ?_⟩
  refine qt σ H env φ S _ s re (PostE.bind h fun d S1 φ1 H1 y e1 s1 i1 h1 => ?_)
  split at h1
  · rename_i b hb
    obtain ⟨t, ht, hb⟩ := Option.bind_eq_some_iff.mp hb
    refine qtt _ _ _ ⟨by rw [cn.len]; exact sizeLine_is hl, fun p hp => ?_⟩
    have e2 : Ext φ1 H1 φ1 (upd H1 p (.tup vs)) := .laid hp
    have s2 := s1.laid (o := .tup vs) hp
    obtain ⟨tv, c1, c2⟩ := tyO_is hc s2 (i1.ext e2) ht
    exact ⟨y, p, vs, tv, us, b, rfl, upd_same, cn.vs, by rw [hK]; exact c2, by rw [hK]; exact cn.any c1 hb, PostE.now (PostE.ext (r := .ok (.bl b) S1) e2 h1) s2 rfl⟩
  · exact False.elim h1
section
variable {S : Store} {env : EnvD}
@[simp] theorem eIsC_is {tab : TyD → Option Bool} {f : EM} : eIsC tab f env S = (f env S).bind fun d S => match (tyO S d).bind tab with
  | some b => .ok (.bl b) S
  | none => .bad := rfl
@[simp] theorem tyO_obj {c ks ds} : tyO S (.obj c ks ds) = some (.o c) := rfl
@[simp] theorem tyO_non : tyO S .non = some (.b .none) := rfl
@[simp] theorem tyO_bl {b} : tyO S (.bl b) = some (.b .bool) := rfl
@[simp] theorem tyO_int {b} : tyO S (.int b) = some (.b .int) := rfl
@[simp] theorem tyO_str {b} : tyO S (.str b) = some (.b .str) := rfl
@[simp] theorem tyO_tup {b} : tyO S (.tup b) = some (.b .tuple) := rfl
@[simp] theorem tyO_lst {b} : tyO S (.lst b) = some (.b .list) := rfl
@[simp] theorem tyO_dic {k b} : tyO S (.dic k b) = some (.b .dict) := rfl
@[simp] theorem tyO_dct {k b} : tyO S (.dct k b) = some (.b .dict) := rfl
@[simp] theorem tyO_loc {l : Nat} : tyO S (.loc l) = match cel S l with
    | some (.ins c _) => some (.o c)
    | some (.lst _) => some (.b .list)
    | some (.dic _) => some (.b .dict)
    | some (.dct _) => some (.b .dict)
    | none => none := rfl
@[simp] theorem tabB_b {a b : Ty} : tabB b (.b a) = some (a.isa b) := rfl
@[simp] theorem tabB_o {c} {b : Ty} : tabB b (.o c) = some false := rfl
@[simp] theorem tabB_x {c} {b : Ty} : tabB b (.x c) = some false := rfl
@[simp] theorem tabO_b {a : Ty} {c} : tabO c (.b a) = some false := rfl
@[simp] theorem tabO_o {c c'} : tabO c (.o c') = some (decide (c' = c)) := rfl
@[simp] theorem tabO_x {c c'} : tabO c (.x c') = some false := rfl
end
end DL
end
section
/-! Methods of own classes and new instances, over data. -/
namespace L2
open PySem PySem.Spec PyProof.Rows
section
variable {X : Cx} {k : Nat} {f C : Addr} {fd : FuncData} {ps : List Str} {sp : Sp} {E : St → XK} {x : Str} {p pos : Pos} {CX : CXT}
end
end L2
namespace DL
open PySem L2
variable {G : Glb} {X : Cx} {W : WX}
/-! ### o.f, o.f = e where the classes are told -/
structure FldOk (G : Glb) (f : Str) (cs : List Str) : Prop where
  ok : ∀ c ∈ cs, ∀ C, G.ca c = some C → Cls G.K C ∧ NoAttr G.K C f
def fldC (S : Store) (d : D) (f : Str) : Option (Str × D) := match d with
  | .obj c ks ds => ((ks.zip ds).lookup f).map fun x => (c, x)
  | .loc l => match S[l]? with
    | some (.ins c fs) => (fs.lookup f).map fun x => (c, x)
    | _ => none
  | _ => none
theorem fldC_is {φ : Fi} {S : Store} {H : Hp} (s : SOk G φ S H) {d : D} {v : V} {f c : Str} {x : D} (i : Is G φ H d v) (h : fldC S d f = some (c, x)) : ∃ a C dx fs y, v = .ref a ∧ H a = some (.ins C dx fs) ∧ G.ca c = some C ∧ fs.lookup f = some y ∧ Is G φ H x y := by
  unfold fldC at h
  split at h
  · obtain ⟨a, C, dx, fs, rfl, ⟨_, hh⟩, hc, hk, q⟩ := i
    obtain ⟨z, e1, e2⟩ := Option.map_eq_some_iff.mp h
    cases e2
    obtain ⟨y, h1, h2⟩ := lookup_is hk q e1
    exact ⟨a, C, dx, fs, y, rfl, hh, hc, h1, h2⟩
  · split at h
    · rename_i e
      obtain ⟨a, ha, rfl⟩ := i
      obtain ⟨C, dx, ws, hc, hh, hk, q⟩ := s.at_ e ha
      obtain ⟨z, e1, e2⟩ := Option.map_eq_some_iff.mp h
      cases e2
      obtain ⟨y, h1, h2⟩ := lookup_is hk q (by rw [zip_unzip]; exact e1)
      exact ⟨a, C, dx, ws, y, rfl, hh, hc, h1, h2⟩
    · cases h
  · cases h
def eFldC (cs : List Str) (f : Str) (e : EM) : EM := fun env S => (e env S).bind fun d S => match fldC S d f with
  | some (c, x) => if c ∈ cs then .ok x S else .bad
  | none => .bad
theorem de_fldC {e : Expr} {f : Str} {pos : Pos} {fe : EM} {cs : List Str} (hK : X.K = G.K) (k : FldOk G f cs) (he : DE G X W e fe) (hb : attributeBase e f X.env (eval e X.env) = eval e X.env := by rfl) : DE G X W (.Attribute e f pos) (eFldC cs f fe) := by
  obtain ⟨t, p, q⟩ := he
  refine ⟨_, pe_fld p hb, fun σ H env φ S Q s re h => ?_⟩
  refine q σ H env φ S _ s re (PostE.bind h fun d S1 φ1 H1 v e1 s1 i1 h1 => ?_)
  split at h1
  · rename_i c x hx
    split at h1
    · rename_i hc
      obtain ⟨a, C, dx, fl, y, rfl, hh, hC, hl, iy⟩ := fldC_is s1 i1 hx
      obtain ⟨k1, k2⟩ := k.ok c hc C hC
      rw [← hK] at k1 k2
      exact ⟨a, C, dx, fl, y, rfl, hh, k1, k2, hl, h1 φ1 H1 y .refl s1 iy⟩
    · exact h1.elim
  · exact h1.elim
def sFldC (cs : List Str) (f : Str) (o e : EM) : SM := fun env S => (e env S).bindS env fun d S => (o env S).bindS env fun a S => match a with
  | .loc l => match S[l]? with
    | some (.ins c fs) => if c ∈ cs ∧ fs.length < 1000 then .nx env (S.set l (.ins c (putFD f d fs))) else .bad
    | _ => .bad
  | _ => .bad
theorem put_fld {φ : Fi} {H : Hp} {S : Store} {l : Nat} {c f : Str} {fs : List (Str × D)} {d : D} {v va : V} {cs : List Str} (k : FldOk G f cs) (s : SOk G φ S H) (hc : S[l]? = some (.ins c fs)) (hm : c ∈ cs) (hl : fs.length < 1000) (i : Is G φ H d v) (ia : Is G φ H (.loc l) va) :
    ∃ a C dx ws, va = .ref a ∧ H a = some (.ins C dx ws) ∧ Cls G.K C ∧ NoAttr G.K C f ∧ ws.length < 1000 ∧ Ext φ H φ (upd H a (.ins C dx (putF f v ws))) ∧ SOk G φ (S.set l (.ins c (putFD f d fs))) (upd H a (.ins C dx (putF f v ws))) := by
  obtain ⟨ad, ha, rfl⟩ := ia
  obtain ⟨C, dx, ws, hcl, hh, hk, q⟩ := s.at_ hc ha
  obtain ⟨k1, k2⟩ := k.ok c hm C hcl
  have wl : ws.length = fs.length := by have := congrArg List.length hk; simpa using this
  have e3 := Ext.put (φ := φ) (H := H) (o := .ins C dx (putF f v ws)) (List.mem_of_getElem? ha)
  obtain ⟨p1, p2⟩ := putF_is (f := f) i hk q
  exact ⟨ad, C, dx, ws, rfl, hh, k1, k2, by omega, e3, s.put ha ⟨C, dx, _, hcl, upd_same, p1, p2.ext e3⟩⟩
theorem ds_fldC {o e : Expr} {f : Str} {pos pos' : Pos} {fo fe : EM} {cs : List Str} (hK : X.K = G.K) (k : FldOk G f cs) (he : DE G X W e fe) (ho : DE G X W o fo) (hs : swapsWith e (some (.Attribute o f pos')) pos.line X.env = pure false := by rfl) :
    DS G X W (.Assign [.Attribute o f pos'] e pos) (sFldC cs f fo fe) := by
  obtain ⟨to, po, qo⟩ := ho
  obtain ⟨te, pe, qe⟩ := he
  refine ⟨_, ps_fld po pe hs, fun σ H env φ S N s re h => ?_⟩
  refine qe σ H env φ S _ s re (PostE.bindS re h fun d S1 φ1 H1 v e1 s1 i1 h1 => ?_)
  have r1 := re.ext e1
  refine qo σ H1 env φ1 S1 _ s1 r1 (PostE.bindS r1 h1 fun a S2 φ2 H2 va e2 s2 i2 h2 => ?_)
  have r2 := r1.ext e2
  split at h2
  · rename_i l
    split at h2
    · rename_i c fs hc
      split at h2
      · rename_i hl
        obtain ⟨a, C, dx, ws, rfl, hh, k1, k2, wl, e3, s3⟩ := put_fld k s2 hc hl.1 hl.2 (i1.ext e2) i2
        rw [← hK] at k1 k2
        exact ⟨a, C, dx, ws, rfl, hh, k1, k2, wl, h2 φ2 _ σ e3 s3 (r2.ext e3)⟩
      · exact h2.elim
    · exact h2.elim
  · exact h2.elim
/-! ### o.m(..) -/
structure MethG (G : Glb) (P : Program) (w : World) (mg : Str → Option Value) (base : Heap) (k : Nat) (c m : Str) (n : Nat) (F : FD) : Prop where
  ex : ∃ C f fd ps, G.ca c = some C ∧ Cls G.K C ∧ Meth G.K C m f ∧ FnG P w G.K mg base (L2.CX P w) k f fd ps (spD G (n + 1) F) ∧ Binds G.K fd ps []
/-- the class of an instance, its attributes' names -/
def insD (S : Store) (d : D) : Option (Str × List Str) := match d with
  | .obj c ks ds => if ks.length = ds.length then some (c, ks) else none
  | .loc l => match S[l]? with
    | some (.ins c fs) => some (c, fs.map (·.1))
    | _ => none
  | _ => none
theorem insD_is {φ : Fi} {S : Store} {H : Hp} (s : SOk G φ S H) {d : D} {v : V} {c : Str} {ks : List Str} (i : Is G φ H d v) (h : insD S d = some (c, ks)) : ∃ a C dx fs, v = .ref a ∧ H a = some (.ins C dx fs) ∧ G.ca c = some C ∧ fs.map (·.1) = ks := by
  unfold insD at h
  split at h
  · split at h
    · cases h
      obtain ⟨a, C, dx, fs, rfl, ⟨_, hh⟩, hc, hk, _⟩ := i
      exact ⟨a, C, dx, fs, rfl, hh, hc, hk⟩
    · cases h
  · split at h
    · rename_i e
      cases h
      obtain ⟨a, ha, rfl⟩ := i
      obtain ⟨C, dx, ws, hc, hh, hk, q⟩ := s.at_ e ha
      exact ⟨a, C, dx, ws, rfl, hh, hc, hk⟩
    · cases h
  · cases h
def eMethO (c m : Str) (F : FD) (o : EM) (f : LM) : EM := fun env S => (o env S).bind fun x S => match insD S x with
  | some (c', ks) => if c' = c ∧ m ∉ ks then (f env S).bindE fun ds S => F (x :: ds) S else .bad
  | none => .bad
/-! ### C() and C(.., k = v) with keywords left out -/
/-- m: how many values __init__ takes beside self; gD: these from what is written -/
structure ClsKN (G : Glb) (P : Program) (w : World) (mg : Str → Option Value) (base : Heap) (k : Nat) (x : Str) (n : Nat) (ks : List Str) (m : Nat) (gD : List D → List D → List D) (F : FD) : Prop where
  ex : ∃ C f fd ps g gV, Mk G.K C f ∧ FnG P w G.K mg base (L2.CX P w) k f fd ps (spD G m F) ∧ mg x = some (.ref C) ∧ G.ca x = some C ∧ KBn G.K fd ps (n + 1) ks g gV ∧
    ∀ {φ : Fi} {H : Hp} {ds es : List D} {vs zs : List V}, ds.length = n + 1 → es.length = ks.length → IsL G φ H ds vs → IsL G φ H es zs → IsL G φ H (gD ds es) (gV vs zs) ∧ (gD ds es).length = m
def eMakeKN (c : Str) (gD : List D → List D → List D) (F : FD) (f fk : LM) : EM := fun env S => (f env S).bindE fun ds S0 => (fk env S0).bindE fun es S1 => match F (gD (.loc S1.length :: ds) es) (S1 ++ [.ins c []]) with
  | .ok .non S2 => .ok (.loc S1.length) S2
  | .ex x S2 => .ex x S2
  | _ => .bad
theorem de_makeKN {x : Str} {k n m : Nat} {ks : List Str} {gD : List D → List D → List D} {F : FD} {p pos : Pos} {e : Expr} {es : List Expr} {kws : List Keyword} {fa fk : LM} (d : ClsKN G X.prog X.w X.mg X.base k x n ks m gD F) (gd : X.A.guards = some []) (hK : X.K = G.K) (hr : Room (k + 1) X.A) (hg : Gl X x) (tk : Takes X W) (ha : DA G X W (e :: es) fa) (hk : DK G X W kws fk)
    (hla : ∀ env S ds S', fa env S = .ok ds S' → ds.length = n) (hlk : ∀ env S ds S', fk env S = .ok ds S' → ds.length = ks.length)
    (hall : (backToKw pos (keywordEach kws X.env)).all (·.1.isSome) = true := by rfl) (hks : (backToKw pos (keywordEach kws X.env)).filterMap (·.1) = ks := by rfl) (hdb : (x == ("__debug__" : Str)) = false := by decide)
    (he : starEach (e :: es) X.env = (false, eval e X.env) :: starEach es X.env := by rfl) (hpl : ((backTo pos (starEach (e :: es) X.env)).any (·.1) || (backToKw pos (keywordEach kws X.env)).any (·.1.isNone)) = false := by rfl) :
    DE G X W (.Call (.Name x p) (e :: es) kws pos) (eMakeKN x gD F fa fk) := by
  obtain ⟨C, f, fd, ps, g, gV, M, FO, hm, hc, hb, hrel⟩ := d.ex
  rw [← hK] at FO M hb
  obtain ⟨t, pt, qt⟩ := ha
  obtain ⟨tk', pk, qk⟩ := hk
  refine ⟨_, pe_makeKG M FO gd hr hg hm hb (fun σ => passAt tk σ) pt pk hall hks hdb he hpl, fun σ H env φ S Q s re h => ?_⟩
  refine qt σ H env φ S _ s re ?_
  unfold eMakeKN at h
  cases hf : fa env S with
  | ok ds S0 =>
    rw [hf] at h
    intro φ0 H0 vs e0 s0 i0
    refine qk σ H0 env φ0 S0 _ s0 (re.ext e0) ?_
    have h := PostE.ext e0 h
    change PostE G W φ0 H0 σ ((fk env S0).bindE _) Q at h
    cases hf2 : fk env S0 with
    | ok es2 S1 =>
      rw [hf2] at h
      intro φ1 H1 zs e1 s1 i1
      have l0 := hla _ _ _ _ hf
      have l1 := hlk _ _ _ _ hf2
      refine ⟨by rw [← i0.length]; exact l0, by rw [← i1.length]; exact l1, ?_⟩
      intro a dx ha hdx hne
      have e2 : Ext φ1 H1 φ1 (upd H1 dx (.own a)) := .laid hdx
      have s2 := s1.laid (o := .own a) hdx
      have ha2 : upd H1 dx (.own a) a = none := by rw [upd_ne (Ne.symm hne)]; exact ha
      have e3 := Ext.newCell (o := .ins C dx []) s2 ha2
      have s3 := s2.newCell (c := .ins x []) ha2 ⟨C, dx, [], hc, upd_same, rfl, rfl⟩
      have le : S1.length = φ1.c.length := s1.len.symm
      have get : (φ1.add a).c[S1.length]? = some a := by rw [le]; simp [Fi.add]
      have ee := (e1.trans e2).trans e3
      have iv : IsL G (φ1.add a) (upd (upd H1 dx (.own a)) a (.ins C dx [])) (.loc S1.length :: ds) (.ref a :: vs) := .cons ⟨a, get, rfl⟩ (i0.ext ee)
      obtain ⟨i3, l3⟩ := hrel (by rw [List.length_cons, l0]) l1 iv ((i1.ext e2).ext e3)
      refine ⟨by rw [← i3.length]; exact l3, φ1.add a, _, _, s3, i3, ?_⟩
      change PostE G W φ0 H0 σ (match F (gD (.loc S1.length :: ds) es2) (S1 ++ [.ins x []]) with | .ok .non S2 => .ok (.loc S1.length) S2 | .ex x S2 => .ex x S2 | _ => .bad) Q at h
      cases hF : F (gD (.loc S1.length :: ds) es2) (S1 ++ [.ins x []]) with
      | ok d2 S2 =>
        rw [hF] at h
        cases d2 with
        | non => exact fun φ4 H4 v e4 s4 i4 => ⟨i4, h φ4 H4 (.ref a) (ee.trans e4) s4 ⟨a, e4.get get, rfl⟩⟩
        | _ => exact h.elim
      | ex x2 S2 =>
        rw [hF] at h
        exact PostE.ext (r := .ex x2 S2) ee h
      | bad => rw [hF] at h; exact h.elim
    | ex x2 S1 => rw [hf2] at h; exact h
    | bad => rw [hf2] at h; exact h
  | ex x2 S1 => rw [hf] at h; exact h
  | bad => rw [hf] at h; exact h
/-- what KBn and the class's facts give of a class with keyword-only defaults -/
theorem clsKN {P : Program} {w : World} {mg : Str → Option Value} {base : Heap} {c x qual : Str} {params : Arguments} {body : List Stmt} {scope : Scope} {kws : List (Str × V)} {f C : Addr} {fd : FuncData} {ps : List Str} {k m : Nat} {Fd : FD}
    (F : FunD G.K x qual params body scope [] kws f fd) (M : Mk G.K C f) (FO : FnG P w G.K mg base (L2.CX P w) k f fd ps (spD G m Fd)) (hm : mg c = some (.ref C)) (hc : G.ca c = some C) (n : Nat) (ks : List Str) (ms : List (Str × V)) (dfl : List D) (s : List (Nat ⊕ Nat))
    (hk : kws ≠ []) (hms : ∀ q ∈ ms, q ∈ kws) (hd : ∀ {φ : Fi} {H : Hp}, IsL G φ H dfl (ms.map (·.2)))
    (hl : ∀ es : List D, es.length = ks.length → n + 1 + (pk s dfl es).length = m)
    (h : ∀ (D : Addr) (doc pm : Value) (an : Option Addr) (cdv ct : Value) (us mv ws : List Value), us.length = n + 1 → mv.length = ms.length → ws.length = ks.length →
      KwChain D ((ms.map (·.1)).zip mv) (bindArgs (PySem.W.fnOf x qual params body scope .none (.ref D) doc pm an cdv ct) ⟨us, ks.zip ws⟩) (ps.zip (us ++ pk s mv ws))) :
    ClsKN G P w mg base k c n ks m (fun ds es => ds ++ pk s dfl es) Fd := by
  obtain ⟨mv, hb⟩ := F.kbinds0 (ps := ps) (n + 1) ks ms (fun {α} a b c => a ++ pk s b c) hk hms (fun r1 r2 r3 => r1.append (pk_vals r2 r3 s)) h
  refine ⟨C, f, fd, ps, _, _, M, FO, hm, hc, hb, fun l0 l1 i0 i1 => ⟨isL_append i0 (pk_isL hd i1 s), ?_⟩⟩
  rw [List.length_append, l0]
  exact hl _ l1
section
variable {S : Store} {env : EnvD}
@[simp] theorem eFldC_is {cs : List Str} {f : Str} {e : EM} : eFldC cs f e env S = (e env S).bind fun d S => match fldC S d f with
  | some (c, x) => if c ∈ cs then .ok x S else .bad
  | none => .bad := rfl
@[simp] theorem sFldC_is {cs : List Str} {f : Str} {o e : EM} : sFldC cs f o e env S = (e env S).bindS env fun d S => (o env S).bindS env fun a S => match a with
  | .loc l => match S[l]? with
    | some (.ins c fs) => if c ∈ cs ∧ fs.length < 1000 then .nx env (S.set l (.ins c (putFD f d fs))) else .bad
    | _ => .bad
  | _ => .bad := rfl
@[simp] theorem eMethO_is {c m : Str} {F : FD} {o : EM} {f : LM} : eMethO c m F o f env S = (o env S).bind fun x S => match insD S x with
  | some (c', ks) => if c' = c ∧ m ∉ ks then (f env S).bindE fun ds S => F (x :: ds) S else .bad
  | none => .bad := rfl
@[simp] theorem eMake_is {c : Str} {F : FD} {f : LM} : eMake c F f env S = (f env S).bindE fun ds S1 => match F (.loc S1.length :: ds) (S1 ++ [.ins c []]) with
  | .ok .non S2 => .ok (.loc S1.length) S2
  | .ex x S2 => .ex x S2
  | _ => .bad := rfl
@[simp] theorem eMakeKN_is {c : Str} {gD : List D → List D → List D} {F : FD} {f fk : LM} : eMakeKN c gD F f fk env S = (f env S).bindE fun ds S0 => (fk env S0).bindE fun es S1 => match F (gD (.loc S1.length :: ds) es) (S1 ++ [.ins c []]) with
  | .ok .non S2 => .ok (.loc S1.length) S2
  | .ex x S2 => .ex x S2
  | _ => .bad := rfl
end
end DL
end
section
/-! sorted of lists of tuples of ints and texts of one form, any number of them. -/
namespace L2
open PySem PySem.Spec PyProof.Rows
/-! the order of keys and of tuples of keys -/
def ltK1 : Key → Key → Bool
  | .inl a, .inl b => decide (a < b)
  | .inr a, .inr b => decide (a.cps.toList < b.cps.toList)
  | .inl _, .inr _ => true
  | .inr _, .inl _ => false
def ltKs : List Key → List Key → Bool
  | _, [] => false
  | [], _ :: _ => true
  | a :: as, b :: bs => if a = b then ltKs as bs else ltK1 a b
/-- a strict order of all things -/
structure Lin {α : Type} (lt : α → α → Bool) : Prop where
  irr : ∀ a, lt a a = false
  tr : ∀ a b c, lt a b = true → lt b c = true → lt a c = true
  tri : ∀ a b, lt a b = false → lt b a = false → a = b
theorem Lin.asym {α : Type} {lt : α → α → Bool} (L : Lin lt) {a b : α} (h : lt a b = true) : lt b a = false := by
  cases e : lt b a with
  | false => rfl
  | true => have := L.tr a b a h e; rw [L.irr] at this; cases this
theorem Lin.swo {α : Type} {lt : α → α → Bool} (L : Lin lt) : SrtO.Swo lt := by
  refine ⟨fun x y h => L.asym h, fun x y z h1 h2 => ?_⟩
  cases e : lt z x with
  | false => rfl
  | true =>
    cases e2 : lt x y with
    | true => rw [L.tr z x y e e2] at h2; cases h2
    | false => cases L.tri x y e2 h1; rw [e] at h2; cases h2
theorem Lin.map {α β : Type} {lt : β → β → Bool} (L : Lin lt) (f : α → β) : SrtO.Swo fun x y => lt (f x) (f y) := ⟨fun x y h => L.swo.asym _ _ h, fun x y z h1 h2 => L.swo.tr _ _ _ h1 h2⟩
/-- the kind of a key -/
def isS : Key → Bool
  | .inl _ => false
  | .inr _ => true
section
variable {prog : Program} {w : World} {A : Around} {E : Value → Shared → Prop} {s : Shared}
def IsKT (h : Heap) (v : Value) (ks : List Key) : Prop := ∃ a o its n, v = .ref a ∧ h.get? a = some o ∧ o.cls = .type "tuple" ∧ o.data = .seq its n ∧ Vals (ks.map kV) its.toList
theorem IsKT.keeps {h h' : Heap} {v : Value} {ks : List Key} (p : IsKT h v ks) (k : ∀ b o, h.get? b = some o → o.cls = .type "tuple" → h'.get? b = some o) : IsKT h' v ks := by
  obtain ⟨a, o, its, n, e, ho, hc, hd⟩ := p
  exact ⟨a, o, its, n, e, k _ _ ho hc, hc, hd⟩
end
end L2
namespace DL
open PySem L2
variable {G : Glb} {X : Cx} {W : WX}
def kysD : List D → Option (List Key)
  | [] => some []
  | d :: ds => (keyD d).bind fun k => (kysD ds).map (k :: ·)
def tupK : D → Option (List Key)
  | .tup ds => kysD ds
  | _ => none
def tK (ks : List Key) : D := .tup (ks.map dKey)
theorem keyD_d (k : Key) : keyD (dKey k) = some k := by cases k <;> rfl
theorem kysD_d : ∀ ks : List Key, kysD (ks.map dKey) = some ks
  | [] => rfl
  | k :: ks => by
    show (keyD (dKey k)).bind (fun k' => (kysD (ks.map dKey)).map (k' :: ·)) = _
    rw [keyD_d, kysD_d ks]; rfl
theorem tupK_t (ks : List Key) : tupK (tK ks) = some ks := kysD_d ks
theorem optL_map {α β : Type} {f : α → Option β} {g : β → α} (hf : ∀ b, f (g b) = some b) : ∀ m : List β, optL f (m.map g) = some m
  | [] => rfl
  | b :: m => by
    show ((f (g b)).bind fun b => (optL f (m.map g)).map (b :: ·)) = _
    rw [hf, optL_map hf m]; rfl
def leKs (a b : List Key) : Bool := !ltKs b a
def sortKs (l : List (List Key)) : List (List Key) := l.mergeSort leKs
/-- of one form, not the empty one -/
def oneForm : List (List Key) → Bool
  | [] => true
  | k :: ks => !k.isEmpty && ks.all fun l => l.map isS == k.map isS
/-- lists of tuples of keys, beside what was sorted so far -/
def bSortedZ (ds : List D) (S : Store) : ER := match ds with
  | [d] => match (listD S d).bind (optL tupK) with
    | some (k :: kss) => if oneForm (k :: kss) then .ok (.lst ((sortKs (k :: kss)).map tK)) S else .bad
    | _ => bSortedY [d] S
  | ds => bSortedY ds S
section
variable {S : Store}
@[simp] theorem bSortedZ_l {kss : List (List Key)} (h : oneForm kss = true) (h0 : kss ≠ []) : bSortedZ [.lst (kss.map tK)] S = .ok (.lst ((sortKs kss).map tK)) S := by
  unfold bSortedZ
  dsimp only
  rw [show (listD S (.lst (kss.map tK))).bind (optL tupK) = some kss from optL_map tupK_t kss]
  cases kss with
  | nil => exact absurd rfl h0
  | cons k kss => dsimp only; rw [if_pos h]
end
end DL
end
section
/-! x or y, x and y by truth; the module's own tuples and dicts. -/
namespace DL
open PySem L2 PyProof.Rows
variable {G : Glb} {X : Cx} {W : WX}
/-! ### x or y -/
/-- the truth of a thing -/
def truX (S : Store) : D → Option Bool
  | .non => some false
  | .bl b => some b
  | .int i => some (i != 0)
  | .tup ds => some (!ds.isEmpty)
  | .lst ds => some (!ds.isEmpty)
  | .loc l => match S[l]? with
    | some (.lst ds) => some (!ds.isEmpty)
    | some (.dic kvs) => some (!kvs.isEmpty)
    | _ => none
  | _ => none
def eOrT (f g : EM) : EM := fun env S => (f env S).bind fun d S => match truX S d with
  | some true => .ok d S
  | some false => g env S
  | none => .bad
def eAndT (f g : EM) : EM := fun env S => (f env S).bind fun d S => match truX S d with
  | some true => g env S
  | some false => .ok d S
  | none => .bad
/-! ### tuples of the module -/
structure KTup (K : PySem.W.Frag) (a : Addr) (xs : List V) : Prop where
  ex : ∃ (o : Obj) (its : Array Value) (n : Nat), K.lookup a = some o ∧ o.cls = .type "tuple" ∧ o.data = .seq its n ∧ its.size ≤ sizeLine ∧ Vals xs its.toList
theorem ktup {K : PySem.W.Frag} {a : Addr} {oc : Option Addr} {its : List Value} {n : Nat} {sl : Array (Option Value)} {xs : List V} (h : K.lookup a = some ⟨.type "tuple", oc, .seq its.toArray n, sl⟩) (r : Vals xs its) (hl : its.length ≤ 16777216) : KTup K a xs :=
  ⟨_, its.toArray, n, h, rfl, rfl, by rw [sizeLine_eq]; simpa using hl, by simpa using r⟩
theorem de_gTup {x : Str} {ds : List D} {pos : Pos} (h : ∃ a, X.mg x = some (.ref a) ∧ KTup G.K a (ds.map dV)) (hf : ∀ {φ : Fi} {H : Hp}, IsL G φ H ds (ds.map dV)) (hg : Gl X x) (hd : (x == ("__debug__" : Str)) = false := by decide) : DE G X W (.Name x pos) (eC (.tup ds)) := by
  obtain ⟨a, hm, ⟨o, its, n, h1, h2, h3, h4, h5⟩⟩ := h
  exact de_glob (v := .ref a) (u := .ref a) hg hm rfl (fun φ H => ⟨a, ds.map dV, rfl, .inr ⟨o, its, n, h1, h2, h3, h4, h5⟩, hf⟩) hd
/-! ### dicts of the module, by texts -/
structure KTab (K : PySem.W.Frag) (w : World) (a : Addr) (tab : List (Str × D)) : Prop where
  ex : ∃ es n, KDict K w a es n
  get : ∀ z : Str, ∃ r : Option Value, PySem.W.nsIn K a z = some r ∧ match tab.lookup z with
    | some d => ∃ u, r = some u ∧ RelV (dV d) u ∧ flatD d = true
    | none => r = none
def eGIx (tab : List (Str × D)) (f : EM) : EM := fun env S => (f env S).bind fun d S => match d with
  | .str z => match tab.lookup z with
    | some x => .ok x S
    | none => .bad
  | _ => .bad
def eGIn (neg : Bool) (tab : List (Str × D)) (f : EM) : EM := fun env S => (f env S).bind fun d S => match d with
  | .str z => .ok (.bl (if neg then !(tab.lookup z).isSome else (tab.lookup z).isSome)) S
  | _ => .bad
section
variable {S : Store} {env : EnvD}
@[simp] theorem eOrT_is {f g : EM} : eOrT f g env S = (f env S).bind fun d S => match truX S d with
  | some true => .ok d S
  | some false => g env S
  | none => .bad := rfl
@[simp] theorem eAndT_is {f g : EM} : eAndT f g env S = (f env S).bind fun d S => match truX S d with
  | some true => g env S
  | some false => .ok d S
  | none => .bad := rfl
@[simp] theorem eGIx_is {tab : List (Str × D)} {f : EM} : eGIx tab f env S = (f env S).bind fun d S => match d with
  | .str z => match tab.lookup z with
    | some x => .ok x S
    | none => .bad
  | _ => .bad := rfl
@[simp] theorem eGIn_is {neg : Bool} {tab : List (Str × D)} {f : EM} : eGIn neg tab f env S = (f env S).bind fun d S => match d with
  | .str z => .ok (.bl (if neg then !(tab.lookup z).isSome else (tab.lookup z).isSome)) S
  | _ => .bad := rfl
@[simp] theorem truX_t {ds} : truX S (.tup ds) = some (!ds.isEmpty) := rfl
@[simp] theorem truX_l {ds} : truX S (.lst ds) = some (!ds.isEmpty) := rfl
@[simp] theorem truX_c {l : Nat} : truX S (.loc l) = match cel S l with
    | some (.lst ds) => some (!ds.isEmpty)
    | some (.dic kvs) => some (!kvs.isEmpty)
    | _ => none := rfl
end
end DL
namespace DL
open PySem L2
/-- a promise for whatever classes there are -/
def spA (K : PySem.W.Frag) (n : Nat) (F : FD) : Sp := fun vs H Q E => ∀ ca ce, spD ⟨K, ca, ce⟩ n F vs H Q E
theorem fnG_all {P : Program} {w : World} {K : PySem.W.Frag} {ca ce : Str → Option Addr} {mg : Str → Option Value} {base : Heap} {CX : CXT} {k n : Nat} {f : Addr} {fd : FuncData} {ps : List Str} {F : FD} (h : FnG P w K mg base CX k f fd ps (spD ⟨K, ca, ce⟩ n F)) : FnG P w K mg base CX k f fd ps (spA K n F) :=
  ⟨fun vs H Q E s => h.len vs H Q E (s ca ce), fun A outer s H args us vs Q E gd hr e0 b r sp => h.run A outer s H args us vs Q E gd hr e0 b r (sp ca ce)⟩
/-- an own class, as k_is finds it -/
theorem own_mk {K : PySem.W.Frag} {C : Addr} (pg : PySem.W.plainGet K C Str.empty = true) (hd : PySem.W.hasDictIn K C = true) (po : PySem.W.plainOver K C = true) (sa : PySem.W.findIn K (.ref C) "__setattr__" = some (some (.builtin "object.__setattr__")))
    (ha : PySem.W.findIn K (.ref C) "__class__" = some (some (.builtin "object.__class__"))) (hn : PySem.W.specialIn K (.builtin "object.__class__") "__get__" = some (some (.builtin "getset_descriptor.__get__"))) (ht : PySem.W.takesIn K (.builtin "object.__class__") = some true)
    (hm : PySem.W.mroIn K C (.type "object") = some true) : OwnC K C := ⟨⟨pg, hd, po, sa⟩, ha, hn, ht, hm⟩
theorem mem_nil {α : Type} {P : α → Prop} : ∀ p ∈ ([] : List α), P p := fun _ h => by cases h
theorem mem_con {α : Type} {P : α → Prop} {a : α} {l : List α} (h : P a) (r : ∀ p ∈ l, P p) : ∀ p ∈ a :: l, P p := fun p hp => by
  rcases List.mem_cons.mp hp with rfl | hp
  · exact h
  · exact r p hp
theorem fld_mk {K : PySem.W.Frag} {l : List (Str × Addr)} {ce : Str → Option Addr} {f : Str} {cs : List Str} (h : ∀ p ∈ l, p.1 ∈ cs → Cls K p.2 ∧ NoAttr K p.2 f) : FldOk ⟨K, fun c => l.lookup c, ce⟩ f cs :=
  ⟨fun c hc C e => ca_all (P := fun c C => c ∈ cs → Cls K C ∧ NoAttr K C f) h c C e hc⟩
end DL
end
section
/-! list.extend, max and min of a list of whole numbers. -/
namespace DL
open PySem L2
variable {G : Glb} {X : Cx} {W : WX}
/-- xs.extend(ys): both live lists -/
noncomputable def mExtend (o : D) (ds : List D) (S : Store) : ER := cellL S o fun l xs => match ds with
  | [.loc m] => match S[m]? with
    | some (.lst ys) => if sz (xs.length + ys.length) then .ok .non (S.set l (.lst (xs ++ ys))) else .bad
    | _ => .bad
  | _ => .bad
end DL
end
section
/-! An expression that walks a dict of its own: the last cell, read as data. -/
namespace DL
open PySem L2
variable {G : Glb} {X : Cx} {W : WX}
mutual
/-- no dict stands within -/
def noD : D → Bool
  | .tup ds => noDs ds
  | .lst ds => noDs ds
  | .obj _ _ ds => noDs ds
  | .dct _ ds => noDs ds
  | .exn _ _ ds => noDs ds
  | .tpl ds => noDs ds
  | .dic _ _ => false
  | _ => true
def noDs : List D → Bool
  | [] => true
  | d :: ds => noD d && noDs ds
end
def Cell.noD : Cell → Bool
  | .lst ds => noDs ds
  | .dic kvs => noDs (kvs.map (·.2))
  | .ins _ fs => noDs (fs.map (·.2))
  | .dct kvs => noDs (kvs.map (·.2))
/-- how readings without dicts are kept -/
structure KeptN (φ : Fi) (H : Hp) (φ' : Fi) (H' : Hp) : Prop where
  get : ∀ (l : Nat) a, φ.c[l]? = some a → φ'.c[l]? = some a
  rd : ∀ a u, (∀ kvs, u ≠ .dK kvs) → (∀ o w, u ≠ .frz o w) → φ.out a → Rd H a u → φ'.out a ∧ Rd H' a u
  ins : ∀ a C dx fs, φ.out a → H a = some (.ins C dx fs) → φ'.out a ∧ H' a = some (.ins C dx fs)
  ext : ∀ a p, φ.out a → H a = some (.ext p) → φ'.out a ∧ H' a = some (.ext p)
  xd : ∀ a fs, φ.out a → H a = some (.xd fs) → φ'.out a ∧ H' a = some (.xd fs)
  frt : ∀ a o xs, φ.out a → H a = some (.frz o (.tup xs)) → φ'.out a ∧ H' a = some (.frz o (.tup xs))
section
variable {φ φ' : Fi} {H H' : Hp}
theorem RdL.keptN (k : KeptN φ H φ' H') {a : Addr} {xs : List V} (h : RdL G φ H a xs) : RdL G φ' H' a xs := by
  rcases h with ⟨n, h⟩ | h
  · exact .inl (k.rd _ _ (fun _ z => by cases z) (fun _ _ z => by cases z) n h)
  · exact .inr h
theorem RdT.keptN (k : KeptN φ H φ' H') {a : Addr} {xs : List V} (h : RdT G φ H a xs) : RdT G φ' H' a xs := by
  rcases h with ⟨n, h⟩ | h
  · exact .inl (k.rd _ _ (fun _ z => by cases z) (fun _ _ z => by cases z) n h)
  · exact .inr h
mutual
theorem Is.keptN (k : KeptN φ H φ' H') : ∀ {d : D} {v : V}, noD d = true → Is G φ H d v → Is G φ' H' d v
  | .non, v, _, h => h
  | .bl b, v, _, h => h
  | .int i, v, _, h => h
  | .str x, v, _, h => h
  | .tup ds, v, b, h => by
    obtain ⟨a, xs, e, r, q⟩ := h
    exact ⟨a, xs, e, r.keptN k, IsL.keptN k b q⟩
  | .lst ds, v, b, h => by
    obtain ⟨a, xs, e, r, q⟩ := h
    exact ⟨a, xs, e, r.keptN k, IsL.keptN k b q⟩
  | .dic ks ds, v, b, h => by cases b
  | .obj c ks ds, v, b, h => by
    obtain ⟨a, C, dx, fs, e, ⟨n, r⟩, c, z, q⟩ := h
    exact ⟨a, C, dx, fs, e, k.ins _ _ _ _ n r, c, z, IsL.keptN k b q⟩
  | .loc l, v, _, h => by
    obtain ⟨a, p, e⟩ := h
    exact ⟨a, k.get _ _ p, e⟩
  | .dct ks ds, v, b, h => by
    obtain ⟨a, kvs, e, ⟨n, r⟩, z, q⟩ := h
    exact ⟨a, kvs, e, k.rd _ _ (fun _ z => by cases z) (fun _ _ z => by cases z) n r, z, IsL.keptN k b q⟩
  | .exn c ks ds, v, b, h => by
    obtain ⟨a, C, d, e, ⟨n, r⟩, c, z⟩ := h
    refine ⟨a, C, d, e, k.ext _ _ n r, c, ?_⟩
    rcases z with z | ⟨b', fs, e1, ⟨n1, r1⟩, e2, q⟩
    · exact .inl z
    · exact .inr ⟨b', fs, e1, k.xd _ _ n1 r1, e2, IsL.keptN k b q⟩
  | .tpl ds, v, b, h => by
    obtain ⟨a, xs, o, e, ⟨n, r, r2⟩, q⟩ := h
    have z := k.frt _ _ _ n r
    exact ⟨a, xs, o, e, ⟨z.1, z.2, r2⟩, IsL.keptN k b q⟩
theorem IsL.keptN (k : KeptN φ H φ' H') : ∀ {ds : List D} {xs : List V}, noDs ds = true → IsL G φ H ds xs → IsL G φ' H' ds xs
  | [], xs, _, h => h
  | d :: ds, xs, b, h => by
    obtain ⟨x, r, e, p, q⟩ := h
    have b : (noD d && noDs ds) = true := b
    simp only [Bool.and_eq_true] at b
    exact ⟨x, r, e, Is.keptN k b.1 p, IsL.keptN k b.2 q⟩
end
theorem CellOk.keptN {a : Addr} {c : Cell} (k : KeptN φ H φ' H') (e : H' a = H a) (b : c.noD = true) (h : CellOk G φ H a c) : CellOk G φ' H' a c := by
  cases c with
  | lst ds => obtain ⟨xs, h, q⟩ := h; exact ⟨xs, by rw [e]; exact h, q.keptN k b⟩
  | dic kvs => obtain ⟨xs, h, z, q⟩ := h; exact ⟨xs, by rw [e]; exact h, z, q.keptN k b⟩
  | ins c fs => obtain ⟨C, dx, ws, z, h, y, q⟩ := h; exact ⟨C, dx, ws, z, by rw [e]; exact h, y, q.keptN k b⟩
  | dct kvs => obtain ⟨xs, h, z, q⟩ := h; exact ⟨xs, by rw [e]; exact h, z, q.keptN k b⟩
end
/-! ### dict(pairs) that is changed later -/
def bDictN (ds : List D) (S : Store) : ER := match ds with
  | [.lst es] => match pairsD es with
    | some kds => .ok (.loc S.length) (S ++ [.dic (mergeD [] kds)])
    | none => .bad
  | ds => bDictM ds S
section
variable {S : Store} {env : EnvD}
@[simp] theorem bDictN_lst {es : List D} : bDictN [.lst es] S = match pairsD es with
    | some kds => .ok (.loc S.length) (S ++ [.dic (mergeD [] kds)])
    | none => .bad := rfl
@[simp] theorem bDictN_dic {ks : List Key} {ds : List D} : bDictN [.dic ks ds] S = .ok (.loc S.length) (S ++ [.dic (ks.zip ds)]) := rfl
end
end DL
end
section
/-! list.remove of texts. -/
namespace L2
open PySem PySem.Spec PyProof.Rows
section
variable {X : Cx}
end
end L2
namespace DL
open PySem L2
variable {G : Glb} {X : Cx} {W : WX}
def strsD : List D → Option (List Str)
  | [] => some []
  | .str x :: ds => (strsD ds).map (x :: ·)
  | _ :: _ => none
theorem strsD_map : ∀ xs : List Str, strsD (xs.map .str) = some xs
  | [] => rfl
  | x :: xs => by
    show (strsD (xs.map .str)).map (x :: ·) = _
    rw [strsD_map xs]; rfl
def mRemoveS (o : D) (ds : List D) (S : Store) : ER := cellL S o fun l xs => match ds with
  | [.str k] => match strsD xs with
    | some ns => if k ∈ ns then .ok .non (S.set l (.lst ((ns.erase k).map .str))) else .bad
    | none => .bad
  | _ => .bad
section
variable {S : Store}
@[simp] theorem mRemoveS_is {o : D} {k : Str} : mRemoveS o [.str k] S = cellL S o fun l xs => match strsD xs with
    | some ns => if k ∈ ns then .ok .non (S.set l (.lst ((ns.erase k).map .str))) else .bad
    | none => .bad := rfl
end
theorem MtM.or {X : Cx} {id : String} {r1 r2 : V → List V → Hp → VK → Prop} (h1 : MtM X id r1) (h2 : MtM X id r2) : MtM X id fun x xs H Q => r1 x xs H Q ∨ r2 x xs H Q :=
  fun pins s σ H x xs v us Q I rx rxs h => h.elim (h1 pins s σ H x xs v us Q I rx rxs) (h2 pins s σ H x xs v us Q I rx rxs)
/-- o.remove(x): a text or a whole number -/
def mRemoveX (o : D) (ds : List D) (S : Store) : ER := match ds with
  | [.str k] => mRemoveS o [.str k] S
  | ds => mRemove o ds S
@[simp] theorem mRemoveX_s {S : Store} {o : D} {k : Str} : mRemoveX o [.str k] S = cellL S o fun l xs => match strsD xs with
    | some ns => if k ∈ ns then .ok .non (S.set l (.lst ((ns.erase k).map .str))) else .bad
    | none => .bad := rfl
@[simp] theorem mRemoveX_i {S : Store} {o : D} {k : Int} : mRemoveX o [.int k] S = mRemove o [.int k] S := rfl
end DL
end
section
/-! repr of nested data, dicts among them. -/
namespace L2
open PySem PySem.Spec PyProof.Rows
section
variable {X : Cx}
end
end L2
namespace DL
open PySem L2
variable {G : Glb} {X : Cx} {W : WX}
section
variable {φ : Fi} {S : Store} {H : Hp}
end
end DL
end
section
/-! x in, x not in a dict of the module, as a test; an expression that walks a dict, data or a cell. -/
namespace DL
open PySem L2
variable {G : Glb} {X : Cx} {W : WX}
end DL
end
section
/-! Tuples of which the very object is known (.tpl): tuple(a list), t.index(x); read as other tuples are. -/
namespace L2
open PySem PySem.Spec PyProof.Rows
section
variable {X : Cx}
variable {o e : Expr} {es : List Expr} {to : TE} {t : TA} {name : Str} {apos cpos : Pos} {id : String} {r : V → List V → Hp → VK → Prop}
end
end L2
namespace DL
open PySem L2 PySem.Spec PyProof.Rows
variable {G : Glb} {X : Cx} {W : WX}
mutual
/-- known tuples read as tuples -/
def unD : D → D
  | .tup ds => .tup (unDs ds)
  | .tpl ds => .tup (unDs ds)
  | d => d
def unDs : List D → List D
  | [] => []
  | d :: ds => unD d :: unDs ds
end
mutual
theorem unD_is {φ : Fi} {H : Hp} : ∀ {d : D} {v : V}, Is G φ H d v → Is G φ H (unD d) v
  | .tup ds, v, h => by
    obtain ⟨a, xs, e, r, q⟩ := h
    exact ⟨a, xs, e, r, unDs_is q⟩
  | .tpl ds, v, h => by
    obtain ⟨a, xs, o, e, ⟨n, r, _⟩, q⟩ := h
    exact ⟨a, xs, e, .inl ⟨n, .inr ⟨o, r⟩⟩, unDs_is q⟩
  | .non, v, h => h
  | .bl b, v, h => h
  | .int i, v, h => h
  | .str x, v, h => h
  | .lst ds, v, h => h
  | .dic ks ds, v, h => h
  | .obj c ks ds, v, h => h
  | .loc l, v, h => h
  | .dct ks ds, v, h => h
  | .exn c ks ds, v, h => h
theorem unDs_is {φ : Fi} {H : Hp} : ∀ {ds : List D} {xs : List V}, IsL G φ H ds xs → IsL G φ H (unDs ds) xs
  | [], xs, h => h
  | d :: ds, xs, h => by
    obtain ⟨x, r, e, p, q⟩ := h
    exact ⟨x, r, e, unD_is p, unDs_is q⟩
end
end DL
end
section
/-! Exceptions over data: raise, try .. except C as e (the exception kept as data), isinstance of them. -/
namespace L2
open PySem PySem.Spec PyProof.Rows
section
variable {X : Cx} {a : Addr} {pins : List (Addr × Obj)} {σ : St} {H : Hp} {s sI : Shared} {h1 : Heap} {cls : Value} {d : Option Addr}
/-- the caught exception is told of in the heap, from its suite on -/
theorem keepIt (J : Inv X pins σ H sI) (I : Inv X pins σ H { s with heap := h1 }) (fresh : sI.heap.get? a = none) (na : H a = none) (offL : a ≠ X.env.locals) (ok : ∃ oe vs, h1.get? a = some oe ∧ Zc cls d oe ∧ oe.data = Data.fields vs) :
    Inv (X.suite a (X.pn ++ pins)) [] σ (upd H a (DL.ExH cls d a)) { s with heap := h1 } := by
  have no : ∀ {b : Addr} {o : Obj}, sI.heap.get? b = some o → b ≠ a := fun {b o} e z => by rw [z, fresh] at e; cases e
  refine ⟨I.ok.suite _ _, I.os, I.bare, ⟨I.base.keep, I.base.slot, fun b o e n q => ?_, I.base.there, fun b xs e => ?_, fun b o u e => ?_, fun b ps e => ?_⟩, I.loc, I.cell, ?_, fun x c e => ?_, fun p hp => ?_, fun b o e => ?_, I.len⟩
  · obtain ⟨o', e'⟩ := J.base.there b o e q
    rw [upd_ne (no e')]; exact I.base.free b o e n q
  · have kept := I.base.tups _ _ e
    rw [upd_ne (ne_of_none kept na)]; exact kept
  · have kept := I.base.frzs _ _ _ e
    rw [upd_ne (ne_of_none kept na)]; exact kept
  · obtain ⟨more, kept⟩ := I.base.tbls _ _ e
    exact ⟨more, by rw [upd_ne (ne_of_none kept na)]; exact kept⟩
  · rw [upd_ne offL.symm]; exact I.free
  · obtain ⟨v, o, e', _⟩ := J.cell x c e
    rw [upd_ne (no e')]; exact I.freeC x c e
  · rw [List.append_nil] at hp
    obtain ⟨q1, _⟩ := J.pin p hp
    obtain ⟨p1, p2, p3, p4, p5⟩ := I.pin p hp
    exact ⟨p1, by rw [upd_ne (no q1)]; exact p2, p3, p4, p5⟩
  · by_cases q : b = a
    · subst q
      rw [upd_same] at e
      cases e
      obtain ⟨oe, vs, g1, g2, g3⟩ := ok
      exact ⟨⟨oe, vs, g1, g2, g3⟩, ⟨oe, g1⟩, fun _ _ ⟨o, v, q, r⟩ k => ⟨o, v, k o q, r⟩⟩
    · rw [upd_ne q] at e
      exact (I.hok b o e).stay (fun _ _ _ q => q) (fun c q => by rw [upd_ne (ne_of_none q na)]; exact q) fun c xs q => by rw [upd_ne (ne_of_none q na)]; exact q
theorem outOfSuite (I : Inv (X.suite a (X.pn ++ pins)) [] σ H s) (ok : X.Ok) : Inv X pins σ H s :=
  { I with ok := ok, os := I.os, base := I.base, loc := I.loc, cell := I.cell, free := I.free, freeC := I.freeC, pin := fun p hp => I.pin p (List.mem_append_left _ hp) }
end
/-- the ends, a slot emptied -/
def offN (i : Nat) (D : Ends) : Ends := { nx := fun σ' H' => D.nx (σ'.set i none) H', rt := D.rt, bk := fun σ' H' => D.bk (σ'.set i none) H', ct := fun σ' H' => D.ct (σ'.set i none) H' }
/-- what is wished of an exception that the clause may keep -/
def wKp (K : PySem.W.Frag) (c : Value) (i : Nat) (ts : TS) (Wout : WX) (D : Ends) : WX := fun cls d σ H =>
  ∃ b, PySem.W.exmOne K cls c = some b ∧ (b = true → ∀ a, H a = none → ts (offN i D) (σ.set i (some (.ref a))) (upd H a (DL.ExH cls d a))) ∧ (b = false → Wout cls d σ H)
section
variable {X : Cx} {x n : Str} {c : Value} {i : Nat} {body suite : List Stmt} {b₀ : Stmt} {np pos pos' : Pos} {tb : WX → TS} {ts : TS} {Wout : WX}
theorem ps_tryKeep (hs : X.stack = X.env :: X.outer) (hf : X.env.frame = some X.env.locals) (hN : X.N.Nodup) (hi : X.N[i]? = some n) (hln : X.env.kindOf n = some .local) (hc : Names X x c) (tk : Takes X Wout)
    (hb : ∀ (W : WX) (pn : List (Addr × Obj)) (xe : Value → Shared → Prop), Takes (X.tr pn xe) W → PassesOwn (model X.prog X.w) X.A X.env xe → PSs (X.tr pn xe) body (tb W))
    (hsu : ∀ (a : Addr) (pn : List (Addr × Obj)), PSs (X.suite a pn) (b₀ :: suite) ts) :
    PS X (.Try body [.ExceptHandler (some (.Name x np)) (some n) (b₀ :: suite) pos'] [] [] pos) (fun D σ H => tb (wKp X.K c i ts Wout D) D σ H) := by
  refine ⟨fun pins s σ H D I h => wpAny_Try_except ?_⟩
  have frE : X.A.frames = some (X.env :: X.outer) := by rw [I.ok.frames, hs]
  refine wpAny_mono ((hb (wKp X.K c i ts Wout D) (X.pn ++ pins) _ (fun u s' xx => ?_) PassesOwn.looking).run [] s σ H D (I.toTry _) h) (fun f s1 hsp => ?_) (fun e s1 he => he)
  rotate_left
  · match f, hsp with
    | .next, ⟨σ', H', J', q⟩ => exact wpAny_execs_nil ⟨σ', H', J'.ofTry I.ok, q⟩
    | .brk, ⟨σ', H', J', q⟩ => exact ⟨σ', H', J'.ofTry I.ok, q⟩
    | .cont, ⟨σ', H', J', q⟩ => exact ⟨σ', H', J'.ofTry I.ok, q⟩
    | .ret u, ⟨v, σ', H', J', r, q⟩ => exact ⟨v, σ', H', J'.ofTry I.ok, r, q⟩
  · obtain ⟨a, B, sI, pins', σ', H', cls, d, rfl, J', nb, up, sky, na, os, ag, b, hb1, hyes, hno⟩ := xx
    have J : Inv X pins σ' H' sI := J'.ofTry I.ok
    have skyE : Sky B (X.env :: X.outer) a (Zc cls d) X.env.locals s'.heap := by rw [← hs]; exact sky
    show wpAny (model X.prog X.w) X.A (noteFrame (.ref a) X.env) _ _ _
    refine Sky.land Zc.steady frE hf skyE fun g3 fly vp => ?_
    have Jg : Inv X pins σ' H' { s' with heap := g3 } := J.landed nb fly.1 (up.trans vp) os ag
    obtain ⟨ob, fv, hob, hZ, hF⟩ := fly.there
    have offStack : a ∉ frs (X.env :: X.outer) := fun hm => by
      obtain ⟨_, o', e', hnf⟩ := fly.2.2.1.mem hm
      rw [hob] at e'; cases e'
      exact hnf _ hF
    have offL : a ≠ X.env.locals := fun z => offStack (List.mem_filterMap.mpr ⟨X.env, List.mem_cons_self, by rw [hf, z]⟩)
    have offF : a ∉ X.fs := by
      intro hm
      obtain ⟨fr, hin, hq⟩ := List.mem_filterMap.mp hm
      exact offStack (List.mem_filterMap.mpr ⟨fr, List.mem_cons_of_mem _ hin, hq⟩)
    have fresh : sI.heap.get? a = none := by
      cases q : sI.heap.get? a with
      | none => rfl
      | some o =>
        have z := nb a o q (by rw [hs]; exact offStack)
        rw [fly.2.1] at z; cases z
    have Sg := Jg.suite hob hF na offL offF
    refine wpAny_handleBy_cons (codeAny_handlers_test ?_) (by intro q; cases q)
    have looksC : PySem.W.Looks (model X.prog X.w) g3 (typeOf (.ref a)) cls := fun A Q E s k q => wpAny_typeOf_ref (k _ _ hob) (by rw [hZ.1]; exact q)
    have looksM := PySem.W.exm_one (M := model X.prog X.w) (Jg.kIn) looksC hb1
    have named : ∀ {Q : Value → Shared → Prop} {E : Value → Shared → Prop}, Q c { s' with heap := g3 } → wpAny (model X.prog X.w) (X.A.mark (some (.ref a))) (eval (.Name x np) X.env) Q E { s' with heap := g3 } := fun {Q E} q => by
      obtain ⟨hg, nodbg, hm | ⟨hm, hv, nonm⟩⟩ := hc
      · exact ld_glob (X := X.suite a ((a, ob) :: (X.pn ++ pins))) Sg hg hm q nodbg
      · exact ld_blt (X := X.suite a ((a, ob) :: (X.pn ++ pins))) Sg hg hm hv q nonm nodbg
    refine named (looksM.here ?_)
    match b, hb1, hyes, hno with
    | true, _, hyes, _ =>
      refine codeAny_handlers_suite_as (HandSPX.lands_againZ fly fun k4 fly4 vp4 => ?_)
      have J5 : Inv X pins σ' H' { s' with heap := k4 } := J.landed nb fly4.1 ((up.trans vp).trans vp4) os ag
      have Sk := keepIt (s := s') J J5 fresh na offL fly4.there
      refine store_ok (X := X.suite a (X.pn ++ pins)) (v := .ref a) Sk hN hi (.inl hln) rfl (fun s5 S5 => ?_) (.inr hln)
      refine wpAny_mono ((hsu a (X.pn ++ pins)).run [] s5 _ _ _ S5 (hyes rfl a na)) (fun f s6 hsp => ?_) (fun _ _ z => False.elim z)
      have goOn : ∀ {σ6 : St} {H6 : Hp} {Q : Shared → Prop}, Inv (X.suite a (X.pn ++ pins)) [] σ6 H6 s6 → (∀ s7, Inv X pins (σ6.set i none) H6 s7 → Q s7) →
          wpAny (model X.prog X.w) X.A (do bindName X.env n .none; unbindBehindTheSuite X.env n pos') (fun _ s7 => Q s7) X.xe s6 := fun {σ6 H6 Q} S6 hq => gone_ok (outOfSuite S6 I.ok) hN hi hln hq
      match f, hsp with
      | .next, ⟨σ6, H6, S6, q6⟩ => exact goOn S6 fun s7 J7 => ⟨_, _, J7, q6⟩
      | .brk, ⟨σ6, H6, S6, q6⟩ => exact goOn S6 fun s7 J7 => ⟨_, _, J7, q6⟩
      | .cont, ⟨σ6, H6, S6, q6⟩ => exact goOn S6 fun s7 J7 => ⟨_, _, J7, q6⟩
      | .ret u, ⟨v6, σ6, H6, S6, r6, q6⟩ => exact goOn S6 fun s7 J7 => ⟨_, _, _, J7, r6, q6⟩
    | false, _, _, hno =>
      show wpAny _ X.A (handleBy (.ref a) X.env []) _ _ _
      obtain ⟨k1, k2, k3, oe, vs, T, oT, ts', he, hz, hd, g1, hr⟩ := id fly
      refine wpAny_handleBy_nil ?_
      unfold PySem.passOn
      refine wpAny_bind (wpAny_field he hd g1 ?_)
      rw [if_neg (show ¬ ((Value.ref T == Value.none) = true) from by simp)]
      have goOn : wpAny (model X.prog X.w) X.A (setFlight (.ref a) X.env.frame) (fun _ s4 => wpAny (model X.prog X.w) X.A (throw (.ref a) : Sem Flow) (SP X pins D) X.xe s4) X.xe { s' with heap := g3 } := by
        rw [hf]
        exact HandSPX.setFlight_upZ fly fun k4 hh4 vp4 => wpAny_throw (tk _ _ ⟨a, B, sI, pins, σ', H', cls, d, rfl, J, nb, (up.trans vp).trans vp4, .inr (.inr (by rw [hs]; exact hh4)), na, os, ag, hno rfl⟩)
      first
        | exact wpAny_bind (wpAny_pure (wpAny_bind goOn)) 
        | exact wpAny_bind goOn
end
end L2
end
section
/-! Exceptions over data, part 2: the D-layer's rules. -/
namespace L2
open PySem PySem.Spec PyProof.Rows
/-- what the class of a kept exception must say -/
structure ExcD (K : PySem.W.Frag) (D : Addr) : Prop where
  hg : PySem.W.findIn K (.ref D) "__getattribute__" = some (some (.builtin "BaseException.__getattribute__"))
  hk : PySem.W.findIn K (.ref D) "__getattr__" = some none
  hs : PySem.W.subIn K (.ref D) (.type "BaseException") = some true
  hd : PySem.W.hasDictIn K D = true
  ha : PySem.W.findIn K (.ref D) "__class__" = some (some (.builtin "object.__class__"))
  hn : PySem.W.specialIn K (.builtin "object.__class__") "__get__" = some (some (.builtin "getset_descriptor.__get__"))
  ht : PySem.W.takesIn K (.builtin "object.__class__") = some true
  hm : PySem.W.mroIn K D (.type "object") = some true
/-- types, exceptions too -/
inductive TyE (K : PySem.W.Frag) (H : Hp) : V → Value → Prop where
  | z {v : V} {t : Value} (h : TyZ K H v t) : TyE K H v t
  | x {a D : Addr} {d : Option Addr} (e : H a = some (DL.ExH (.ref D) d a)) (hd : ∀ b, d = some b → ∃ o, H b = some o) (c : ExcD K D) : TyE K H (.ref a) (.ref D)
theorem hasCls {K : PySem.W.Frag} {D : Addr} (h : PySem.W.hasDictIn K D = true) : (PySem.W.clsIn K D).isSome = true := by
  unfold PySem.W.hasDictIn at h
  cases e : PySem.W.clsIn K D with
  | none => rw [e] at h; cases h
  | some c => rfl
theorem kit_ofE {X : Cx} {pins : List (Addr × Obj)} {σ : St} {H : Hp} {s : Shared} {v : V} {u t : Value} (I : Inv X pins σ H s) (rx : RelV v u) (ty : TyE X.K H v t) : ∃ P : Heap → Prop, PySem.W.KitX X.K u t P ∧ P s.heap ∧ u ≠ .builtin "__main__.__loader__#opaque" := by
  cases ty with
  | z h => exact kit_ofZ I rx h
  | @x a D d e hd c =>
    cases (show u = Value.ref a from rx)
    obtain ⟨⟨oe, vs, g1, ⟨g2, g3⟩, g4⟩, _, _⟩ := (show ObjOk X.prog X.w H s.heap a (DL.ExH (.ref D) d a) from I.hok a _ e)
    have cl := hasCls c.hd
    cases d with
    | none => exact ⟨_, PySem.W.kitx_exc (ox := oe) (od := none) cl c.hg c.hk c.hs c.ha c.hn c.ht c.hm, ⟨g1, g2, by obtain ⟨oc, od, oda, osl⟩ := oe; dsimp only at g4; subst g4; rfl, by rw [g3]; trivial⟩, fun z => nomatch z⟩
    | some b =>
      obtain ⟨ob, hb⟩ := hd b rfl
      obtain ⟨u, gb⟩ := objOk_get (I.hok b ob hb)
      exact ⟨_, PySem.W.kitx_exc (ox := oe) (od := some u) cl c.hg c.hk c.hs c.ha c.hn c.ht c.hm, ⟨g1, g2, by obtain ⟨oc, od, oda, osl⟩ := oe; dsimp only at g4; subst g4; rfl, by rw [g3]; exact gb⟩, fun z => nomatch z⟩
def rIsX (K : PySem.W.Frag) : List V → Hp → VK → Prop := fun xs H Q => ∃ (x c : V) (t u : Value) (b : Bool), xs = [x, c] ∧ ClsV c u ∧ TyE K H x t ∧ PySem.W.kitOne K t u = some b ∧ Q (.bl b) H
section
variable {X : Cx}
theorem call_isX : CallR X (.builtin "isinstance") (rIsX X.K) := by
  intro pins s σ H xs us Q I r h
  obtain ⟨x, c, t, u, b, rfl, k, ty, e, q⟩ := h
  obtain ⟨w1, w2, rfl, p1, p2⟩ := vals2 r
  cases k.eq p2
  obtain ⟨P, Z, p, hx⟩ := kit_ofE I p1 ty
  exact PySem.W.kia_one Z I.kIn p e hx fun tk => ⟨.bl b, H, I.tok tk, rfl, q⟩
end
end L2
namespace DL
open PySem L2
variable {G : Glb} {X : Cx} {W : WX}
/-! ### isinstance, exceptions too -/
/-- classes, exceptions too -/
def ClE (G : Glb) : TyD → Value → Prop
  | .x c, v => ∃ C, G.ce c = some C ∧ v = .ref C
  | t, v => ClD G t v
def tyE (S : Store) : D → Option TyD
  | .exn c _ _ => some (.x c)
  | d => tyO S d
theorem tyE_is (hc : ∀ c C, G.ca c = some C → OwnC G.K C) (hx : ∀ c C, G.ce c = some C → ExcD G.K C) {φ : Fi} {S : Store} {H : Hp} {d : D} {v : V} {t : TyD} (s : SOk G φ S H) (i : Is G φ H d v) (e : tyE S d = some t) : ∃ tv, ClE G t tv ∧ TyE G.K H v tv := by
  have old : ∀ {d : D}, Is G φ H d v → tyO S d = some t → ∃ tv, ClE G t tv ∧ TyE G.K H v tv := fun i e => by
    obtain ⟨tv, h1, h2⟩ := tyO_is hc s i e
    refine ⟨tv, ?_, .z h2⟩
    cases t with
    | x c => exact False.elim h1
    | b t => exact h1
    | o c => exact h1
  cases d with
  | exn c ks ds =>
    cases e
    obtain ⟨a, C, d, rfl, ⟨_, h⟩, h1, h2⟩ := i
    refine ⟨_, ⟨C, h1, rfl⟩, .x h (fun b hb => ?_) (hx c C h1)⟩
    rcases h2 with ⟨z, _, _⟩ | ⟨b', fs, z, ⟨_, r⟩, _⟩
    · rw [z] at hb; cases hb
    · rw [z] at hb; cases hb; exact ⟨_, r⟩
  | non => exact old i e
  | bl b => exact old i e
  | int b => exact old i e
  | str b => exact old i e
  | tup b => exact old i e
  | lst b => exact old i e
  | dic ks b => exact old i e
  | obj c ks ds => exact old i e
  | loc l => exact old i e
  | dct ks ds => exact old i e
  | tpl ds => exact old i e
/-- a class of exceptions: which of the raised ones are of it -/
def tabX (sub : Str → Bool) : TyD → Option Bool
  | .x c => some (sub c)
  | _ => some false
/-- what a class says of things, exceptions too -/
structure IsTE (G : Glb) (u : Value) (tab : TyD → Option Bool) : Prop where
  ok : ∀ t tv r, ClE G t tv → tab t = some r → PySem.W.kitOne G.K tv u = some r
theorem isT_x {sub : Str → Bool} {C0 : Addr} (h1 : PySem.W.isClsIn G.K C0 = true) (h2 : PySem.W.typeIn G.K (.ref C0) = some (.type "type")) (self : PySem.W.mroIn G.K C0 (.ref C0) = some true) (ho : ∀ c C, G.ca c = some C → PySem.W.mroIn G.K C (.ref C0) = some false) (hx : ∀ c C, G.ce c = some C → PySem.W.mroIn G.K C (.ref C0) = some (sub c)) :
    IsTE G (.ref C0) (tabX sub) := by
  refine ⟨fun t tv r q1 q2 => ?_⟩
  cases t with
  | b t =>
    cases (show tv = _ from q1); cases q2
    refine kit_ref h1 h2 ?_ (fun z => nomatch z)
    cases t <;> rfl
  | o c =>
    obtain ⟨C, e1, rfl⟩ := (show ∃ C, G.ca c = some C ∧ tv = .ref C from q1); cases q2
    refine kit_ref h1 h2 (ho c C e1) fun z => ?_
    have e := Value.ref.inj z
    subst e
    have a := ho c C e1
    rw [self] at a
    cases a
  | x c =>
    obtain ⟨C, e1, rfl⟩ := (show ∃ C, G.ce c = some C ∧ tv = .ref C from q1); cases q2
    refine kit_ref h1 h2 (hx c C e1) fun z => ?_
    have e := Value.ref.inj z
    subst e
    have a := hx c C e1
    rw [self] at a
    exact (Option.some.inj a).symm
/-- isinstance(e, (A, B, ..)) -/
inductive CNamesE (G : Glb) (X : Cx) : List Expr → List V → List Value → (TyD → Option Bool) → Prop where
  | nil : CNamesE G X [] [] [] tabF
  | cons {x : Str} {pos : Pos} {v : V} {u : Value} {tab tab2 : TyD → Option Bool} {es : List Expr} {vs : List V} {us : List Value} (cn : CName X x v u) (ist : IsTE G u tab) (r : CNamesE G X es vs us tab2)
      (hs : starEach (.Name x pos :: es) X.env = (false, eval (.Name x pos) X.env) :: starEach es X.env := by rfl) : CNamesE G X (.Name x pos :: es) (v :: vs) (u :: us) (tabOr tab tab2)
theorem CNamesE.pa {es : List Expr} {vs : List V} {us : List Value} {tab : TyD → Option Bool} (c : CNamesE G X es vs us tab) : ∃ t, PA X es t ∧ ∀ σ H Q, Q vs H → t σ H Q := by
  induction c with
  | nil => exact ⟨_, pa_nil, fun _ _ _ h => h⟩
  | cons cn ist r hs ih =>
    obtain ⟨t, h1, h2⟩ := ih
    exact ⟨_, pa_cons (cn.pe _) h1 hs, fun σ H Q h => h2 σ H _ h⟩
theorem CNamesE.vs {es : List Expr} {vs : List V} {us : List Value} {tab : TyD → Option Bool} (c : CNamesE G X es vs us tab) : Paired ClsV vs us := by
  induction c with
  | nil => exact .nil
  | cons cn ist r hs ih => exact .cons cn.cv ih
theorem CNamesE.len {es : List Expr} {vs : List V} {us : List Value} {tab : TyD → Option Bool} (c : CNamesE G X es vs us tab) : vs.length = es.length := by
  induction c with
  | nil => rfl
  | cons cn ist r hs ih => simp [ih]
theorem CNamesE.any {es : List Expr} {vs : List V} {us : List Value} {tab : TyD → Option Bool} (c : CNamesE G X es vs us tab) : ∀ {t : TyD} {tv : Value} {b : Bool}, ClE G t tv → tab t = some b → PySem.W.kitAny G.K tv us = some b := by
  induction c with
  | nil => intro t tv b _ h; cases h; rfl
  | @cons x pos v u tab tab2 es vs us cn ist r hs ih =>
    intro t tv b h1 h2
    unfold PySem.W.kitAny
    unfold tabOr at h2
    cases h3 : tab t with
    | none => rw [h3] at h2; cases h2
    | some b1 =>
      rw [h3] at h2
      rw [ist.ok t tv b1 h1 h3]
      cases b1 with
      | true => exact h2
      | false => exact ih h1 h2
def eIsE (tab : TyD → Option Bool) (f : EM) : EM := fun env S => (f env S).bind fun d S => match (tyE S d).bind tab with
  | some b => .ok (.bl b) S
  | none => .bad
theorem de_isE {x : Str} {v : V} {u : Value} {tab : TyD → Option Bool} {e : Expr} {p p2 pos : Pos} {f : EM} (hK : X.K = G.K) (hc : ∀ c C, G.ca c = some C → OwnC G.K C) (hx : ∀ c C, G.ce c = some C → ExcD G.K C) (ist : IsTE G u tab) (cn : CName X x v u) (hg : Gl X "isinstance") (hm : X.mg "isinstance" = none) (he : DE G X W e f)
    (hst : starEach [e, .Name x p2] X.env = (false, eval e X.env) :: starEach [.Name x p2] X.env := by rfl) (hst2 : starEach [.Name x p2] X.env = (false, eval (.Name x p2) X.env) :: starEach [] X.env := by rfl) (hpl : (backTo pos (starEach [.Name x p2] X.env)).any (·.1) = false := by rfl) :
    DE G X W (.Call (.Name "isinstance" p) [e, .Name x p2] [] pos) (eIsE tab f) := by
  obtain ⟨t, pt, qt⟩ := he
  refine ⟨_, pe_callB call_isX hg hm (by decide +kernel) (pa_cons pt (pa_cons (cn.pe p2) pa_nil hst2) hst) (by decide) (by decide) hst hpl, fun σ H env φ S Q s re h => ?_⟩
  refine qt σ H env φ S _ s re (PostE.bind h fun d S1 φ1 H1 y e1 s1 i1 h1 => ?_)
  split at h1
  · rename_i b hb
    obtain ⟨t, ht, hb⟩ := Option.bind_eq_some_iff.mp hb
    obtain ⟨tv, c1, c2⟩ := tyE_is hc hx s1 i1 ht
    exact ⟨y, v, tv, u, b, rfl, cn.cv, by rw [hK]; exact c2, by rw [hK]; exact ist.ok t tv b c1 hb, h1.now s1 rfl⟩
  · exact False.elim h1
/-! ### raise -/
def sRaise (c : Str) : SM := fun e S => .ex ⟨c, none⟩ e S
/-- what raising an own class with a text asks of it -/
structure ExcR (G : Glb) (mg : Str → Option Value) (c : Str) : Prop where
  ex : ∃ C, mg c = some (.ref C) ∧ G.ce c = some C ∧ PySem.W.excIn G.K C [.type "ValueError", .type "Exception", .type "BaseException", .type "object"] "ValueError.__new__" = true ∧ PySem.W.keepIn G.K (.ref C) = true ∧
    PySem.W.subIn G.K (.ref C) (.type "BaseException") = some true ∧ PySem.W.typeIn G.K (.ref C) = some (.type "type")
theorem ds_raise {c m : Str} {j : Nat} {p p2 pos pos' : Pos} (hK : X.K = G.K) (hc : X.calm = true) (tk : Takes X W) (xr : ExcR G X.mg c) (hg : Gl X c) (hdb : (c == ("__debug__" : Str)) = false := by decide) :
    DS G X W (.Raise (some (.Call (.Name c p) [.Constant (.str m) j p2] [] pos)) none pos') (sRaise c) := by
  obtain ⟨C, h1, h2, h3, h4, h5, h6⟩ := xr.ex
  rw [← hK] at h3 h4 h5 h6
  exact ⟨_, ps_raise hc tk (pmk_own PySem.F.excBase_ValueError h3 h1 h4 (raises_own h5 h6) hg hdb), fun σ H env φ S N s re h => h φ H σ (.ref C) none .refl s re ⟨C, h2, rfl, rfl⟩⟩

/-! ### try .. except C as e: the exception is data in its suite -/
def exnD (x : Exc) : D := match x.fld with
  | none => .exn x.cls [] []
  | some (f, d) => .exn x.cls [f] [d]
def SR.off (i : Nat) : SR → SR
  | .nx e S => .nx (e.set i none) S
  | .bk e S => .bk (e.set i none) S
  | .ct e S => .ct (e.set i none) S
  | .rt d S => .rt d S
  | _ => .bad
def sTry (tab : Str → Bool) (i : Nat) (body suite : SM) : SM := fun e S => match body e S with
  | .ex x e1 S1 => if tab x.cls then (suite (e1.set i (some (exnD x))) S1).off i else .ex x e1 S1
  | r => r
theorem RepE.drop {φ : Fi} {H : Hp} {σ : St} {env : EnvD} (i : Nat) (h : RepE G φ H σ env) : RepE G φ H (σ.set i none) (env.set i none) := by
  have q := h.wipe [i]
  exact q
def tOfS (G : Glb) (W : WX) (f : SM) : TS := fun N σ H => ∃ env φ S, SOk G φ S H ∧ RepE G φ H σ env ∧ PostS G W φ H (f env S) N
theorem DSs.can {b : List Stmt} {f : SM} (h : DSs G X W b f) : PSs X b (tOfS G W f) := by
  obtain ⟨t, p, q⟩ := h
  exact ⟨fun pins s σ H D I ⟨env, φ, S, so, r, z⟩ => p.run pins s σ H D I (q σ H env φ S D so r z)⟩
/-- the body's own wish, where the clause is met -/
theorem is_exn {φ : Fi} {H : Hp} {S : Store} {x : Exc} {cls : Value} {d : Option Addr} {a : Addr} (s : SOk G φ S H) (na : H a = none) (ix : IsX G φ H x cls d) : Is G φ (upd H a (ExH cls d a)) (exnD x) (.ref a) ∧ SOk G φ S (upd H a (ExH cls d a)) ∧ Ext φ H φ (upd H a (ExH cls d a)) := by
  have e : Ext φ H φ (upd H a (ExH cls d a)) := .laid na
  refine ⟨?_, s.laid na, e⟩
  obtain ⟨C, h1, h2, h3⟩ := ix.ext e
  subst h2
  have o : φ.out a ∧ (upd H a (ExH (.ref C) d a)) a = some (ExH (.ref C) d a) := ⟨s.fresh na, upd_same⟩
  unfold exnD
  split at h3
  · rename_i q
    try rw [q]
    exact ⟨a, C, d, rfl, o, h1, .inl ⟨h3, rfl, rfl⟩⟩
  · rename_i f dd q
    try rw [q]
    obtain ⟨b, v, e1, e2, e3, e4⟩ := h3
    exact ⟨a, C, d, rfl, o, h1, .inr ⟨b, [(f, v)], e1, ⟨e2, e3⟩, rfl, .one e4⟩⟩
theorem ds_try {x n : Str} {c : Value} {i : Nat} {body suite : List Stmt} {b₀ : Stmt} {np pos pos' : Pos} {tab : Str → Bool} {f g : SM} (hK : X.K = G.K) (hs : X.stack = X.env :: X.outer) (hf : X.env.frame = some X.env.locals) (hN : X.N.Nodup) (hi : X.N[i]? = some n) (hln : X.env.kindOf n = some .local)
    (hc : Names X x c) (hx : ∀ cn C, G.ce cn = some C → PySem.W.exmOne G.K (.ref C) c = some (tab cn)) (tk : Takes X W)
    (hb : ∀ (W : WX) (pn : List (Addr × Obj)) (xe : Value → Shared → Prop), Takes (X.tr pn xe) W → PassesOwn (model X.prog X.w) X.A X.env xe → DSs G (X.tr pn xe) W body f)
    (hsu : ∀ (a : Addr) (pn : List (Addr × Obj)), DSs G (X.suite a pn) W0 (b₀ :: suite) g) :
    DS G X W (.Try body [.ExceptHandler (some (.Name x np)) (some n) (b₀ :: suite) pos'] [] [] pos) (sTry tab i f g) := by
  refine ⟨_, ps_tryKeep (tb := fun W => tOfS G W f) (ts := tOfS G W0 g) hs hf hN hi hln hc tk (fun W pn xe tk po => (hb W pn xe tk po).can) (fun a pn => (hsu a pn).can), fun σ H env φ S N s re h => ?_⟩
  refine ⟨env, φ, S, s, re, ?_⟩
  unfold sTry at h
  cases hr : f env S with
  | nx e S1 => rw [hr] at h; exact h
  | rt e S1 => rw [hr] at h; exact h
  | bk e S1 => rw [hr] at h; exact h
  | ct e S1 => rw [hr] at h; exact h
  | bad => rw [hr] at h; exact h
  | ex x1 e1 S1 =>
    rw [hr] at h
    dsimp only at h
    intro φ1 H1 σ1 cls d ext s1 re1 ix
    obtain ⟨C, ce, ec, _⟩ := id ix
    refine ⟨tab x1.cls, by rw [ec, hK]; exact hx _ _ ce, fun q a na => ?_, fun q => ?_⟩
    · rw [if_pos q] at h
      obtain ⟨i1, s2, e2⟩ := is_exn s1 na ix
      refine ⟨_, φ1, S1, s2, (re1.ext e2).set i1 i, ?_⟩
      have h' := PostS.ext (ext.trans e2) h
      cases hg : g (e1.set i (some (exnD x1))) S1 with
      | nx e S2 => rw [hg] at h'; exact fun φ3 H3 σ3 e3 s3 r3 => h' φ3 H3 _ e3 s3 (r3.drop i)
      | bk e S2 => rw [hg] at h'; exact fun φ3 H3 σ3 e3 s3 r3 => h' φ3 H3 _ e3 s3 (r3.drop i)
      | ct e S2 => rw [hg] at h'; exact fun φ3 H3 σ3 e3 s3 r3 => h' φ3 H3 _ e3 s3 (r3.drop i)
      | rt d S2 => rw [hg] at h'; exact h'
      | ex x e S2 => rw [hg] at h'; exact False.elim h'
      | bad => rw [hg] at h'; exact False.elim h'
    · rw [q] at h
      exact h φ1 H1 σ1 cls d ext s1 re1 ix
section
variable {S : Store} {env : EnvD}
@[simp] theorem eIsE_is {tab : TyD → Option Bool} {f : EM} : eIsE tab f env S = (f env S).bind fun d S => match (tyE S d).bind tab with
  | some b => .ok (.bl b) S
  | none => .bad := rfl
@[simp] theorem tyE_exn {c ks ds} : tyE S (.exn c ks ds) = some (.x c) := rfl
@[simp] theorem tyE_non : tyE S .non = some (.b .none) := rfl
@[simp] theorem tabX_b {a : Ty} {sub} : tabX sub (.b a) = some false := rfl
@[simp] theorem tabX_o {c sub} : tabX sub (.o c) = some false := rfl
@[simp] theorem tabX_x {c sub} : tabX sub (.x c) = some (sub c) := rfl
@[simp] theorem sRaise_is {c : Str} : sRaise c env S = .ex ⟨c, none⟩ env S := rfl
theorem sTry_is {tab : Str → Bool} {i : Nat} {f g : SM} : sTry tab i f g env S = match f env S with
  | .ex x e1 S1 => if tab x.cls then (g (e1.set i (some (exnD x))) S1).off i else .ex x e1 S1
  | r => r := rfl
@[simp] theorem exnD_n {c : Str} : exnD ⟨c, none⟩ = .exn c [] [] := rfl
@[simp] theorem exnD_s {c f : Str} {d : D} : exnD ⟨c, some (f, d)⟩ = .exn c [f] [d] := rfl
@[simp] theorem off_nx {i : Nat} {e : EnvD} : SR.off i (.nx e S) = .nx (e.set i none) S := rfl
@[simp] theorem off_rt {i : Nat} {d : D} : SR.off i (.rt d S) = .rt d S := rfl
end
end DL
end
section

end
section
/-! sorted, of a list of texts. -/
namespace DL
open PySem L2
variable {G : Glb} {X : Cx} {W : WX}
def leS (a b : Str) : Bool := !ltK1 (.inr b) (.inr a)
def sortS (l : List Str) : List Str := l.mergeSort leS
/-- sorted, of a list of texts alone -/
def bSortedS (ds : List D) (S : Store) : ER := match ds with
  | [d] => match (listD S d).bind strsD with
    | some ns => if ns.length < 64 then .ok (.lst ((sortS ns).map .str)) S else .bad
    | none => .bad
  | _ => .bad
@[simp] theorem bSortedS_l {ns : List Str} {S : Store} : bSortedS [.lst (ns.map .str)] S = if ns.length < 64 then .ok (.lst ((sortS ns).map .str)) S else .bad := by
  unfold bSortedS
  dsimp only
  rw [show listD S (.lst (ns.map .str)) = some (ns.map .str) from rfl, Option.bind_some, strsD_map]
end DL
end
section
/-! xs.count(y), of nested data. -/
namespace L2
open PySem PySem.Spec PyProof.Rows
def rCountD (K : PySem.W.Frag) : V → List V → Hp → VK → Prop := fun x xs H Q => ∃ (a : Addr) (y : V) (d : PyData) (ds : List PyData), x = V.ref a ∧ xs = [y] ∧ Dp K H (V.ref a) (.list ds) ∧ Dp K H y d ∧
  SeqAt.shaped (.list ds) = true ∧ SeqAt.shaped d = true ∧ Q (.int (ds.countP fun z => PyData.eqv z d : Nat)) H
theorem mt_countD {X : Cx} (hu : X.A.units + 65 < cLine) : MtR X "list.count" (rCountD X.K) := by
  intro pins s σ H x xs v us Q I rx rxs h
  obtain ⟨a, y, d, ds, rfl, rfl, hl, hy, sl, sd, q⟩ := h
  cases rx
  obtain ⟨uy, rfl, ry⟩ := rxs.one
  obtain ⟨bs, r1⟩ := Dp.reads I d y uy hy ry
  have lay : PyData.canLayAll0 ds = true := SeqAt.canLay_of_shaped sl
  have room : X.A.units + 1 + min (PyData.depthAll ds) d.depth < cLine := room_in_shaped sd hu
  cases hl with
  | lst hs ha =>
    obtain ⟨its, rv, ⟨⟨cls, dd, data, sls⟩, n, ho, hc, hdn, hdt⟩, _⟩ := I.list hs
    simp only at hc hdt
    subst hc hdt
    obtain ⟨as, rd⟩ := Dp.readsAll I ds _ its ha rv
    have said : its.map (SeqAt.readOf s.heap) = ds := SeqAt.readsAll_map ds its as lay rd
    refine call_meets PySem.F.slot_list_count ⟨_, ho, rfl⟩ PySem.F.entry_list_count (PySem.F.args_list_count_2 _ _)
      (SeqAt.list_countAt a its.toArray n dd sls uy fun u => PyData.eqv (SeqAt.readOf s.heap u) d) ⟨ho, SeqAt.items_eqAt (vs := its.toArray) (show ReadsAll s.heap its.toArray.toList ds as from rd) r1 lay (SeqAt.canLay_of_shaped sd) room, ?_⟩
    have e : (its.toArray.toList.countP fun u => PyData.eqv (SeqAt.readOf s.heap u) d) = ds.countP fun z => PyData.eqv z d := by
      rw [← said, List.countP_map]; rfl
    refine ⟨.int (ds.countP fun z => PyData.eqv z d : Nat), H, I.tok _, ⟨s.toks, ?_⟩, q⟩
    rw [e]
end L2
namespace DL
open PySem L2
variable {G : Glb} {X : Cx} {W : WX}
noncomputable def mCountD (o : D) (ds : List D) (S : Store) : ER := match ds with
  | [d] => match o.pyO S, d.pyO S with
    | some (.list ps), some p => if SeqAt.shaped (.list ps) && SeqAt.shaped p then .ok (.int (ps.countP fun z => PyData.eqv z p : Nat)) S else .bad
    | _, _ => .bad
  | _ => .bad
theorem dm_countD (hK : X.K = G.K) (hu : X.A.units + 65 < cLine) : DMeth G X "list.count" mCountD := by
  refine ⟨_, mt_countD hu, fun W φ S H σ dx ds x xs Q s ix ids h => ?_⟩
  unfold mCountD at h
  split at h
  · obtain ⟨y, rfl, k⟩ := IsL.inv1 ids
    split at h
    · rename_i ps p e1 e2
      split at h
      · rename_i hs
        simp only [Bool.and_eq_true] at hs
        have d1 := D.pyO_dp s ix e1
        obtain ⟨a, rfl⟩ := Dp.isRef d1
        exact ⟨a, y, p, ps, rfl, rfl, by rw [hK]; exact d1, by rw [hK]; exact D.pyO_dp s k e2, hs.1, hs.2, h.now s rfl⟩
      · exact False.elim h
    · exact False.elim h
  · exact False.elim h
end DL
end
section
namespace DL
open PySem L2
variable {G : Glb} {X : Cx} {W : WX}
/-- list + list, kept as a cell -/
noncomputable def opAddM (x y : D) (S : Store) : ER := match listD S x, listD S y with
  | some a, some b => if sz (a.length + b.length) then .ok (.loc S.length) (S ++ [.lst (a ++ b)]) else .bad
  | _, _ => .bad
theorem do_addM (hK : X.K = G.K) : DOp G X (binaryOp .Add) opAddM := by
  refine ⟨_, op_catL, fun W φ S H σ dx dy x y Q s ix iy h => ?_⟩
  unfold opAddM at h
  split at h
  · split at h
    · rename_i a b e1 e2 hl
      obtain ⟨p, xs, rfl, r1, q1⟩ := listD_sq s ix e1
      obtain ⟨p2, ys, rfl, r2, q2⟩ := listD_sq s iy e2
      exact ⟨p, p2, xs, ys, rfl, rfl, by rw [hK]; exact r1, by rw [hK]; exact r2, by rw [← q1.length, ← q2.length]; exact sizeLine_is hl, fun p hp => lst_newM s (q1.append q2) h hp⟩
    · exact bad_no h
  · exact bad_no h
@[simp] theorem opAddM_ll {a b : List D} {S : Store} : opAddM (.lst a) (.lst b) S = if sz (a.length + b.length) then .ok (.loc S.length) (S ++ [.lst (a ++ b)]) else .bad := rfl
end DL
end
section
namespace L2
open PySem PySem.Spec PyProof.Rows
theorem extendW (l : Addr) (items : Array Value) (n : Nat) (b : Addr) (items2 : Array Value) (n2 : Nat) (sl : Array (Option Value)) (hc0 : ¬(!items.isEmpty && Builtin.List.listTooLong (items.size + items2.size)) = true) (hc1 : items.size ≤ sizeLine) (hs2 : items.size + items2.size ≤ sizeLine + 1) :
    Meets (Builtin.«list.extend» ⟨[.ref l, .ref b], []⟩) (fun _ R s => s.heap.get? l = some { cls := .type "list", dict := none, data := .seq items n, slots := #[] } ∧ s.heap.get? b = some { cls := .type "list", dict := none, data := .seq items2 n2, slots := sl } ∧ R (.ok (.ret Value.none)) { s with heap := s.heap.update l (Obj.mapSeq fun x => x ++ items2), toks := s.toks }) :=
  .of_wp fun prog w A R s h => by
    obtain ⟨hp, g, d, tk, os⟩ := s; obtain ⟨hl, hb, h⟩ := h
    have f1 := PySem.AutoSeq1.idx_int; have f2 := PySem.AutoSeq1.sub_tuple_tuple; have f3 := PySem.AutoSeq1.sub_list_list; have f4 := PySem.AutoSeq1.sub_tuple_list; have f5 := PySem.AutoSeq1.sub_list_tuple
    have hz' : (items ++ items2).size ≤ sizeLine + 1 := by rw [Array.size_append]; exact hs2
    wp_walk using (wpAny_updateSeq hl rfl (hz := hc1) (_hz' := hz')), PySem.AutoSeq1.wpAny_loadPart' hl, PySem.AutoSeq1.wpAny_loadPart' hb; exact ⟨_, rfl, h⟩
def rExtendF (K : PySem.W.Frag) : V → List V → Hp → VK → Prop := fun x vs H Q => ∃ l b xs zs, x = .ref l ∧ vs = [.ref b] ∧ H l = some (.lst xs) ∧ SqL K H b zs ∧ xs.length + zs.length ≤ sizeLine ∧ Q .non (upd H l (.lst (xs ++ zs)))
theorem mt_extendF {X : Cx} : MtM X "list.extend" (rExtendF X.K) := by
  intro pins s σ H x vs v us Q I rx rv h
  obtain ⟨l, b, xs, zs, rfl, rfl, hH, hB, hz, q⟩ := h
  cases rx
  obtain ⟨u, rfl, ru⟩ := rv.one
  cases ru
  obtain ⟨z, its, n, r, hl, e⟩ := I.lstM hH
  obtain ⟨its2, r2, ⟨⟨c2, d2, t2, sl2⟩, n2, g2, hc2, hd2, ht2⟩, z2⟩ := I.list hB
  simp only at hc2 hd2 ht2
  subst hc2 hd2 ht2
  have hl2 := r2.length
  have hsz : its.toArray.size + its2.toArray.size ≤ sizeLine := by rw [List.size_toArray, List.size_toArray]; omega
  have hlong : ¬ (!its.toArray.isEmpty && Builtin.List.listTooLong (its.toArray.size + its2.toArray.size)) = true := by
    rw [notLongL hsz, Bool.and_false]
    exact Bool.false_ne_true
  refine call_meets F.slot_list_extend ⟨_, e, rfl⟩ F.entry_list_extend (F.args_list_extend_2 _ _)
    (extendW l its.toArray n b its2.toArray n2 sl2 hlong (by rw [List.size_toArray]; omega) (by omega)) ⟨e, g2, ?_⟩
  refine ⟨.non, _, I.lset (its' := its ++ its2) hH e (by simp) (r.append r2) ?_, rfl, q⟩
  rw [List.length_append]
  omega
end L2
namespace DL
open PySem L2
variable {G : Glb} {X : Cx} {W : WX}
/-- xs.extend(ys): ys any list -/
noncomputable def mExtendX (o : D) (ds : List D) (S : Store) : ER := cellL S o fun l xs => match ds with
  | [d] => match listD S d with
    | some ys => if sz (xs.length + ys.length) then .ok .non (S.set l (.lst (xs ++ ys))) else .bad
    | _ => .bad
  | _ => .bad
theorem dm_extendX (hK : X.K = G.K) : DMeth G X "list.extend" mExtendX := by
  refine ⟨_, mt_extendF, fun W φ S H σ dx ds x xs Q s ix ids h => ?_⟩
  refine cellL_is s ix h fun l es a ys e1 e2 e3 ha hx q h1 => ?_
  subst e1 e3
  split at h1
  · rename_i d
    obtain ⟨y, rfl, k⟩ := IsL.inv1 ids
    split at h1
    · rename_i zs hm
      obtain ⟨b, ws, rfl, hw, qw⟩ := listD_sq s k hm
      split at h1
      · rename_i hz
        exact ⟨a, b, ys, ws, rfl, rfl, hx, by rw [hK]; exact hw, by rw [← q.length, ← qw.length, sizeLine_eq]; exact hz, cell_put s ha (q.append qw) (show Is G φ H .non .non from rfl) h1⟩
      · exact False.elim h1
    · exact False.elim h1
  · exact False.elim h1
@[simp] theorem mExtendX_l {l : Nat} {ys : List D} {S : Store} : mExtendX (.loc l) [.lst ys] S = match cel S l with | some (.lst xs) => if sz (xs.length + ys.length) then .ok .non (S.set l (.lst (xs ++ ys))) else .bad | _ => .bad := by
  unfold mExtendX
  rw [cellL_c]
  rfl
end DL
end
section
/-! range(i, j, -1) -/
namespace DL
open PySem L2
variable {G : Glb} {X : Cx} {W : WX}
def downD (lo : Int) (n : Nat) : List D := (List.range n).map fun k => .int (lo + (k : Nat) * -1)
noncomputable def iRangeDn (f : LM) : LM := fun env S => (f env S).bind fun ds S => match ds with
  | [.int i, .int j, .int c] => if rOk i ∧ rOk j ∧ c = -1 then .ok (downD i (i - j).toNat) S else .bad
  | _ => .bad
@[simp] theorem iRangeDn_is {f : LM} : iRangeDn f env S = (f env S).bind fun ds S => match ds with
  | [.int i, .int j, .int c] => if rOk i ∧ rOk j ∧ c = -1 then .ok (downD i (i - j).toNat) S else .bad
  | _ => .bad := rfl
end DL
end
section
/-! isinstance(e, ValueError); e.f of an exception that is data; raise C(x), where C's own __init__ keeps x. -/
namespace L2
open PySem PySem.Spec PyProof.Rows
/-- an __init__ that keeps its one argument -/
def spI (C : Addr) (f : Str) : Sp := fun vs H Q E => ∃ a y, vs = [.ref a, y] ∧ H a = some (exo a C none) ∧ ∀ dx, H dx = none → dx ≠ a → Q .non (upd (upd H dx (exd dx [(f, y)])) a (exo a C (some dx)))
end L2
namespace DL
open PySem L2
variable {G : Glb} {X : Cx} {W : WX}
/-! ### isinstance(e, ValueError) -/
theorem isT_v {T : String} (hM : PySem.W.kitMeta T = true) (hb : ∀ t : Ty, PySem.W.kitOne G.K (.type t.nm) (.type T) = some false) (ho : ∀ c C, G.ca c = some C → PySem.W.mroIn G.K C (.type T) = some false) (hx : ∀ c C, G.ce c = some C → PySem.W.mroIn G.K C (.type T) = some true) :
    IsTE G (.type T) (tabX fun _ => true) := by
  refine ⟨fun t tv r q1 q2 => ?_⟩
  cases t with
  | b t => cases (show tv = _ from q1); cases q2; exact hb t
  | o c =>
    obtain ⟨C, e1, rfl⟩ := (show ∃ C, G.ca c = some C ∧ tv = .ref C from q1); cases q2
    exact kit_type hM (ho c C e1)
  | x c =>
    obtain ⟨C, e1, rfl⟩ := (show ∃ C, G.ce c = some C ∧ tv = .ref C from q1); cases q2
    exact kit_type hM (hx c C e1)
theorem isT_VE (ho : ∀ c C, G.ca c = some C → PySem.W.mroIn G.K C (.type "ValueError") = some false) (hx : ∀ c C, G.ce c = some C → PySem.W.mroIn G.K C (.type "ValueError") = some true) : IsTE G (.type "ValueError") (tabX fun _ => true) :=
  isT_v (by decide +kernel) (fun t => kit_ty (by cases t <;> decide +kernel)) ho hx
/-! ### e.f -/
def xFld (d : D) (f : Str) : Option D := match d with
  | .exn _ [g] [x] => if g = f then some x else none
  | _ => none
def eXFld (f : Str) (g : EM) : EM := fun env S => (g env S).bind fun d S => match xFld d f with
  | some x => .ok x S
  | none => .bad
@[simp] theorem eXFld_is {f : Str} {g : EM} {env : EnvD} {S : Store} : eXFld f g env S = (g env S).bind fun d S => match xFld d f with
  | some x => .ok x S
  | none => .bad := rfl
/-! ### raise C(x), where C's own __init__ keeps x -/
structure ExcF (G : Glb) (P : Program) (w : World) (mg : Str → Option Value) (base : Heap) (k : Nat) (c f : Str) : Prop where
  ex : ∃ C fI fd ps, mg c = some (.ref C) ∧ G.ce c = some C ∧ OexC G.K C ∧ PySem.W.findIn G.K (.ref C) "__init__" = some (some (.ref fI)) ∧ PySem.W.typeIn G.K (.ref fI) = some (.type "function") ∧ FnOk P w G.K mg base (L2.CX P w) k fI fd ps (spI C f) ∧ Binds G.K fd ps []
def sRaiseF (c f : Str) (g : EM) : SM := fun e S => (g e S).bindS e fun d S => .ex ⟨c, some (f, d)⟩ e S
@[simp] theorem sRaiseF_is {c f : Str} {g : EM} {e : EnvD} {S : Store} : sRaiseF c f g e S = (g e S).bindS e fun d S => .ex ⟨c, some (f, d)⟩ e S := rfl
end DL
end
section
namespace DL
open PySem L2
noncomputable section
def g_Person_init : SM :=
(sSeq (sFldC ["Person"] "born" (eVar 0) (eVar 1))
(sSeq (sFldC ["Person"] "home" (eVar 0) (eVar 2))
(sSeq (sFldC ["Person"] "since" (eVar 0) (eVar 3))
(sFldC ["Person"] "struck" (eVar 0) (eC (.bl false))))))
def d_Person_init : FD := fnF .pure 4 g_Person_init
def g_Person_go_to : SM :=
(sSeq (sFldC ["Person"] "home" (eVar 0) (eVar 1))
(sFldC ["Person"] "since" (eVar 0) (eVar 2)))
def d_Person_go_to : FD := fnF .pure 3 g_Person_go_to
def g_done_on : SM :=
(sSeq sNev
(sIf (eOp opEq (eVar 2) (eC (.str "enter")))
(sSeq (sAsg (eVar 4) (bTup (bCons (bName 5) (bCons (bName 6) (bCons (bName 7) bNil)))))
(sPutX (eVar 0) (eVar 3) (eMake "Person" d_Person_init (lCons (eVar 5) (lCons (eVar 6) (lCons (eVar 7) lNil))))))
(sIf (eOp opEq (eVar 2) (eC (.str "move")))
(sDrop (eMethO "Person" "go_to" d_Person_go_to (eOp opIxX (eVar 0) (eVar 3)) (lCons (eOp opIxX (eVar 4) (eC (.int 0))) (lCons (eOp opIxX (eVar 4) (eC (.int 1))) lNil))))
(sFldC ["Person"] "struck" (eOp opIxX (eVar 0) (eVar 3)) (eOp opEq (eVar 2) (eC (.str "strike")))))))
def d_done_on : FD := fnF .pure 8 g_done_on
def g_is_whole : SM :=
(sRet (eAnd (eIsC (tabB .int) (eVar 0)) (eNot (eIsC (tabB .bool) (eVar 0)))))
def d_is_whole : FD := fnF .pure 1 g_is_whole
def g_is_between : SM :=
(sRet (eAnd (eCall d_is_whole (lCons (eVar 0) lNil)) (eChain opLe opLe (eVar 1) (eVar 0) (eVar 2))))
def d_is_between : FD := fnF .pure 3 g_is_between
def g_is_one_of : SM :=
(sRet (eAnd (eIsC (tabB .str) (eVar 0)) (eOp opIn (eVar 0) (eVar 1))))
def d_is_one_of : FD := fnF .pure 2 g_is_one_of
def g_is_name_e1 : EM :=
(eOp opIn (eVar 1) (eC (.str "abcdefghijklmnopqrstuvwxyz")))
def g_is_name : SM :=
(sSeq (sIf (eOr (eNot (eIsC (tabB .str) (eVar 0))) (eNot (eChain opLe opLe (eC (.int 1)) (eCallB bLenX (lCons (eVar 0) lNil)) (eC (.int 8)))))
(sRet (eC (.bl false)))
sSkip)
(sRet (eCallB bAll (lCons (eLc (iSeq (eVar 0)) (bName 1) eYes g_is_name_e1 [1]) lNil))))
def d_is_name : FD := fnF .pure 2 g_is_name
def g_Place_init : SM :=
(sSeq (sIf (eOr (eNot (eCall d_is_name (lCons (eVar 1) lNil))) (eOr (eNot (eCall d_is_name (lCons (eVar 2) lNil))) (eNot (eCall d_is_between (lCons (eVar 4) (lCons (eC (.int 0)) (lCons (eC (.int 9999)) lNil)))))))
(sRaise "NoPlace")
sSkip)
(sSeq (sIf (eNot (eCall d_is_between (lCons (eVar 3) (lCons (eC (.int 0)) (lCons (eVar 4) lNil)))))
(sRaise "NoPlace")
sSkip)
(sSeq (sFldC ["Place", "Race"] "name" (eVar 0) (eVar 1))
(sSeq (sFldC ["Place"] "district" (eVar 0) (eVar 2))
(sSeq (sFldC ["Place"] "first" (eVar 0) (eVar 3))
(sSeq (sFldC ["Place"] "last" (eVar 0) (eVar 4))
(sSeq (sFldC ["Place"] "sent" (eVar 0) (eLstM lNil))
(sSeq (sFldC ["Place"] "is_over" (eVar 0) (eC (.bl false)))
(sFldC ["Place"] "ended" (eVar 0) (eC .non))))))))))
def d_Place_init : FD := fnF .pure 5 g_Place_init
def g_Race_eq : SM :=
(sSeq (sIf (eNot (eIsC (tabO "Race") (eVar 1)))
(sRet (eC (.bl false)))
sSkip)
(sSeq (sAsg (eTup (lCons (eFldC ["Place", "Race"] "name" (eVar 0)) (lCons (eFldC ["Race"] "kind" (eVar 0)) (lCons (eFldC ["Race"] "choices" (eVar 0)) (lCons (eFldC ["Race"] "districts" (eVar 0)) (lCons (eFldC ["Race"] "seats" (eVar 0)) (lCons (eFldC ["Race"] "by" (eVar 0)) lNil))))))) (bName 2))
(sRet (eOp opEq (eVar 2) (eTup (lCons (eFldC ["Place", "Race"] "name" (eVar 1)) (lCons (eFldC ["Race"] "kind" (eVar 1)) (lCons (eFldC ["Race"] "choices" (eVar 1)) (lCons (eFldC ["Race"] "districts" (eVar 1)) (lCons (eFldC ["Race"] "seats" (eVar 1)) (lCons (eFldC ["Race"] "by" (eVar 1)) lNil)))))))))))
def d_Race_eq : FD := fnF .pure 3 g_Race_eq
def g_are_unlike_names_e1 : EM :=
(eCall d_is_name (lCons (eVar 3) lNil))
def g_are_unlike_names : SM :=
(sSeq (sIf (eOr (eNot (eIsC (tabB .tuple) (eVar 0))) (eOr (eNot (eChain opLe opLe (eVar 1) (eCallB bLenX (lCons (eVar 0) lNil)) (eVar 2))) (eNot (eCallB bAll (lCons (eLc (iSeq (eVar 0)) (bName 3) eYes g_are_unlike_names_e1 [3]) lNil)))))
(sRet (eC (.bl false)))
sSkip)
(sRet (eOp opEq (eLenSet (eVar 0)) (eCallB bLenX (lCons (eVar 0) lNil)))))
def d_are_unlike_names : FD := fnF .pure 4 g_are_unlike_names
def g_Race_init : SM :=
(sSeq (sIf (eOr (eNot (eCall d_are_unlike_names (lCons (eTup (lCons (eVar 1) lNil)) (lCons (eC (.int 1)) (lCons (eC (.int 1)) lNil))))) (eNot (eCall d_is_one_of (lCons (eVar 2) (lCons (eC (.tup [.str "one", .str "any", .str "rank"])) lNil)))))
(sRaise "NoRace")
sSkip)
(sSeq (sIf (eOr (eNot (eCall d_are_unlike_names (lCons (eVar 3) (lCons (eC (.int 2)) (lCons (eC (.int 5)) lNil))))) (eNot (eCall d_are_unlike_names (lCons (eVar 4) (lCons (eC (.int 1)) (lCons (eC (.int 6)) lNil))))))
(sRaise "NoRace")
sSkip)
(sSeq (sIf (eOr (eNot (eCall d_is_between (lCons (eVar 5) (lCons (eC (.int 1)) (lCons (eCallB bLenX (lCons (eVar 3) lNil)) lNil))))) (eNot eNev))
(sRaise "NoRace")
sSkip)
(sSeq (sFldC ["Place", "Race"] "name" (eVar 0) (eVar 1))
(sSeq (sFldC ["Race"] "kind" (eVar 0) (eVar 2))
(sSeq (sFldC ["Race"] "choices" (eVar 0) (eVar 3))
(sSeq (sFldC ["Race"] "districts" (eVar 0) (eVar 4))
(sSeq (sFldC ["Race"] "seats" (eVar 0) (eVar 5))
(sFldC ["Race"] "by" (eVar 0) (eVar 6))))))))))
def d_Race_init : FD := fnF .pure 7 g_Race_init
def g__law_whole : SM :=
(sRet (eAnd (eIsC (tabB .int) (eVar 0)) (eNot (eIsC (tabB .bool) (eVar 0)))))
def d__law_whole : FD := fnF .pure 1 g__law_whole
def g__law_alone : SM :=
(sSeq (sAsg (eLst (lCons (eIsE (tabX (fun c => decide (c = "NoName"))) (eVar 0)) (lCons (eIsE (tabX (fun c => decide (c = "NoDay"))) (eVar 0)) (lCons (eIsE (tabX (fun c => decide (c = "NoRace"))) (eVar 0)) (lCons (eIsE (tabX (fun c => decide (c = "NoMark"))) (eVar 0)) lNil))))) (bName 1))
(sSeq (sAsg (eOp opAdd (eVar 1) (eLst (lCons (eIsE (tabX (fun c => decide (c = "NoCode"))) (eVar 0)) (lCons (eIsE (tabX (fun c => decide (c = "NoPlace"))) (eVar 0)) (lCons (eIsE (tabX (fun c => decide (c = "NoStub"))) (eVar 0)) (lCons (eIsE (tabX (fun c => decide (c = "NoWay"))) (eVar 0)) lNil)))))) (bName 1))
(sSeq (sAsg (eOp opAdd (eVar 1) (eLst (lCons (eIsE (tabX (fun c => decide (c = "NoTime"))) (eVar 0)) (lCons (eIsE (tabX (fun c => decide (c = "NoLetter"))) (eVar 0)) (lCons (eIsE (tabX (fun c => decide (c = "NotWhole"))) (eVar 0)) lNil))))) (bName 1))
(sSeq (sAsg (eOp opAdd (eVar 1) (eLst (lCons (eIsE (tabX (fun c => decide (c = "NoRuling"))) (eVar 0)) (lCons (eIsE (tabX (fun c => decide (c = "NoChain"))) (eVar 0)) (lCons (eIsE (tabX (fun c => decide (c = "NoBits"))) (eVar 0)) (lCons (eIsE (tabX (fun c => decide (c = "NoLot"))) (eVar 0)) lNil)))))) (bName 1))
(sSeq (sAsg (eOp opAdd (eVar 1) (eLst (lCons (eIsE (tabX (fun c => decide (c = "NoCount"))) (eVar 0)) (lCons (eIsE (tabX (fun c => decide (c = "NoPhase"))) (eVar 0)) (lCons (eIsE (tabX (fun c => decide (c = "Twice"))) (eVar 0)) (lCons (eIsE (tabX (fun c => decide (c = "NotThere"))) (eVar 0)) lNil)))))) (bName 1))
(sSeq (sAsg (eOp opAdd (eVar 1) (eLst (lCons (eIsE (tabX (fun c => decide (c = "NoRow"))) (eVar 0)) (lCons (eIsE (tabX (fun c => decide (c = "NoText"))) (eVar 0)) lNil)))) (bName 1))
(sSeq (sIf (eOr (eOp opNe (eMeth "list" mCountD (eVar 1) (lCons (eC (.bl true)) lNil)) (eC (.int 1))) (eOr (eNot (eIsE (tabX (fun _ => true)) (eVar 0))) (eNot (eIsE (tabX (fun _ => true)) (eVar 0)))))
(sRet (eC (.str "")))
sSkip)
(sSeq (sAsg (eC (.str "NoName NoDay NoRace NoMark NoCode NoPlace NoStub NoWay NoTime NoLetter NotWhole NoRuling")) (bName 2))
(sSeq (sAsg (eOp opAdd (eVar 2) (eC (.str " NoChain NoBits NoLot NoCount NoPhase Twice NotThere NoRow NoText"))) (bName 2))
(sRet (eOp opIxX (eMeth "str" mSplit (eVar 2) (lCons (eC (.str " ")) lNil)) (eMeth "list" mIndex (eVar 1) (lCons (eC (.bl true)) lNil)))))))))))))
def d__law_alone : FD := fnF .pure 3 g__law_alone
def g__law_next : SM :=
(sSeq (sIf (eOp opGt (eOp opIxX (eVar 0) (eC (.int 0))) (eC (.int 0)))
(sSeq (sAsg (eOp opMod (eOp opIxX (eVar 0) (eC (.int 0))) (eVar 1)) (bName 2))
(sSeq (sPutX (eVar 0) (eC (.int 0)) (eOp opFdiv (eOp opIxX (eVar 0) (eC (.int 0))) (eVar 1)))
(sRet (eVar 2))))
sSkip)
(sSeq (sPutX (eVar 0) (eC (.int 2)) (eOp opAdd (eOp opIxX (eVar 0) (eC (.int 2))) (eC (.int 1))))
(sSeq (sAsg (eOp opMod (eOp opPow (eOp opAdd (eOp opAdd (eOp opMul (eOp opIxX (eVar 0) (eC (.int 1))) (eOp opAdd (eOp opMul (eC (.int 2)) (eOp opIxX (eVar 0) (eC (.int 2)))) (eC (.int 1)))) (eOp opMul (eOp opMul (eC (.int 7919)) (eOp opIxX (eVar 0) (eC (.int 2)))) (eOp opIxX (eVar 0) (eC (.int 2))))) (eC (.int 11))) (eC (.int 5))) (eC (.int 2147483647))) (bName 3))
(sRet (eOp opMod (eOp opFdiv (eVar 3) (eC (.int 11))) (eVar 1))))))
def d__law_next : FD := fnF .keep 4 g__law_next
def g__law_pick : SM :=
(sRet (eOp opIxX (eVar 1) (eCall d__law_next (lCons (eVar 0) (lCons (eCallB bLenX (lCons (eVar 1) lNil)) lNil)))))
def d__law_pick : FD := fnF .keep 2 g__law_pick
def g__law_at_b1 : SM :=
(sAsg (eOp opIxX (eVar 0) (eVar 2)) (bName 0))
def g__law_at : SM :=
(sSeq (sFor (iSeq (eVar 1)) (bName 2) g__law_at_b1)
(sRet (eVar 0)))
def d__law_at : FD := fnF .pure 3 g__law_at
def g__law_begun : SM :=
(sSeq (sAsg (eOp opAdd (eC (.int 1)) (eOp opMod (eOp opPow (eOp opAdd (eOp opAdd (eOp opMul (eOp opMod (eVar 0) (eC (.int 2147483647))) (eC (.int 48271))) (eOp opMul (eC (.int 104729)) (eVar 1))) (eC (.int 7))) (eC (.int 3))) (eC (.int 2147483629)))) (bName 2))
(sSeq (sIf (eOp opGe (eVar 0) (eOp opPow (eC (.int 10)) (eC (.int 18))))
(sRet (eLstM (lCons (eOp opSub (eVar 0) (eOp opPow (eC (.int 10)) (eC (.int 18)))) (lCons (eVar 2) (lCons (eC (.int 0)) lNil)))))
sSkip)
(sRet (eLstM (lCons (eC (.int 0)) (lCons (eVar 2) (lCons (eC (.int 0)) lNil)))))))
def d__law_begun : FD := fnF .keep 3 g__law_begun
def g__law_strange : SM :=
(sSeq (sAsg (eLst (lCons (eC .non) (lCons (eC (.bl true)) (lCons (eC (.bl false)) (lCons (eC (.int 0)) (lCons (eC (.int 1)) (lCons (eNeg (eC (.int 1))) (lCons (eC (.str "")) (lCons (eC (.str "admit")) (lCons (eC (.str "out")) (lCons (eC (.str "A")) (lCons (eTup lNil) (lCons (eOp opPow (eC (.int 10)) (eC (.int 9))) (lCons (eC (.str "x")) lNil)))))))))))))) (bName 2))
(sSeq (sIf (eIsC (tabB .str) (eVar 1))
(sAsg (eOp opAdd (eVar 2) (eOp opMulX (eLstM (lCons (eOp opAdd (eVar 1) (eC (.str "x"))) (lCons (eSlice (eVar 1) oNone (oSome (eNeg (eC (.int 1))))) (lCons eNev (lCons (eTup (lCons (eVar 1) lNil)) (lCons (eRev (eVar 1)) lNil)))))) (eC (.int 2)))) (bName 2))
sSkip)
(sSeq (sIf (eCall d__law_whole (lCons (eVar 1) lNil))
(sAsg (eOp opAdd (eVar 2) (eOp opMulX (eLstM (lCons (eOp opAdd (eVar 1) (eC (.int 1))) (lCons (eOp opSub (eVar 1) (eC (.int 1))) (lCons (eNeg (eVar 1)) (lCons eNev (lCons (eOp opEq (eVar 1) (eC (.int 1))) (lCons (eTup (lCons (eVar 1) lNil)) (lCons (eOp opAdd (eVar 1) (eC (.int 2))) lNil)))))))) (eC (.int 3)))) (bName 2))
sSkip)
(sSeq (sIf (eIsC (tabB .tuple) (eVar 1))
(sSeq (sAsg (eOp opAdd (eVar 2) (eOp opMulX (eLstM (lCons (eCallB bListX (lCons (eVar 1) lNil)) (lCons (eOp opAdd (eVar 1) (eSlice (eVar 1) (oSome (eNeg (eC (.int 1)))) oNone)) (lCons (eSlice (eVar 1) oNone (oSome (eNeg (eC (.int 1))))) (lCons (eSlice (eVar 1) (oSome (eC (.int 1))) oNone) (lCons (eRev (eVar 1)) (lCons (eTup (lCons (eVar 1) lNil)) (lCons (eOp opAdd (eVar 1) (eTup (lCons (eC .non) lNil))) lNil)))))))) (eC (.int 4)))) (bName 2))
(sAsg (eOp opAdd (eVar 2) (eOp opMulX (eLstM (lCons (eOp opAdd (eSlice (eVar 1) (oSome (eC (.int 1))) oNone) (eSlice (eVar 1) oNone (oSome (eC (.int 1))))) (lCons (eOp opAdd (eOp opAdd (eSlice (eVar 1) (oSome (eC (.int 1))) (oSome (eC (.int 2)))) (eSlice (eVar 1) oNone (oSome (eC (.int 1))))) (eSlice (eVar 1) (oSome (eC (.int 2))) oNone)) lNil))) (eC (.int 4)))) (bName 2)))
sSkip)
(sRet (eCall d__law_pick (lCons (eVar 0) (lCons (eVar 2) lNil))))))))
def d__law_strange : FD := fnF .keep 3 g__law_strange
def g__law_with (r__law_with : FD) : SM :=
(sSeq (sIf (eOp opEq (eVar 1) (eTup lNil))
(sRet (eVar 2))
sSkip)
(sSeq (sAsg (eOp opIxX (eVar 1) (eC (.int 0))) (bName 3))
(sRet (eOp opAdd (eOp opAdd (eSlice (eVar 0) oNone (oSome (eVar 3))) (eTup (lCons (eCall r__law_with (lCons (eOp opIxX (eVar 0) (eVar 3)) (lCons (eSlice (eVar 1) (oSome (eC (.int 1))) oNone) (lCons (eVar 2) lNil)))) lNil))) (eSlice (eVar 0) (oSome (eOp opAdd (eVar 3) (eC (.int 1)))) oNone)))))
def d__law_with_n : Nat → FD
  | 0 => fnF .pure 4 sNev
  | n + 1 => fnF .pure 4 (g__law_with (d__law_with_n n))
def d__law_with : FD := d__law_with_n 12
def g__law_between : SM :=
(sRet (eAnd (eIsC (tabB .int) (eVar 0)) (eAnd (eNot (eIsC (tabB .bool) (eVar 0))) (eChain opLe opLe (eVar 1) (eVar 0) (eVar 2)))))
def d__law_between : FD := fnF .pure 3 g__law_between
def g__law_made_e1 : EM :=
(eMake "Place" d_Place_init (lCons (eVar 1) (lCons (eVar 2) (lCons (eVar 3) (lCons (eVar 4) lNil)))))
def g__law_made : SM :=
(sRet (eLc (iSeq (eVar 0)) (bTup (bCons (bName 1) (bCons (bName 2) (bCons (bName 3) (bCons (bName 4) bNil))))) eYes g__law_made_e1 [1, 2, 3, 4]))
def d__law_made : FD := fnF .pure 5 g__law_made
def g__law_like_t1 (r__law_like : FD) : EM :=
(eNot (eCall r__law_like (lCons (eOp opIxX (eVar 0) (eVar 3)) (lCons (eOp opIxX (eVar 1) (eVar 3)) lNil))))
def g__law_like_t2 (r__law_like : FD) : EM :=
(eNot (eCall r__law_like (lCons (eOp opIxX (eVar 0) (eVar 4)) (lCons (eOp opIxX (eVar 1) (eVar 4)) lNil))))
def g__law_like (r__law_like : FD) : SM :=
(sSeq (sIf (eIsC (tabOr (tabB .tuple) (tabOr (tabB .list) tabF)) (eVar 1))
(sSeq (sIf (eOr (eNot (eIsC (tabOr (tabB .tuple) (tabOr (tabB .list) tabF)) (eVar 0))) (eOp opNe (eIsC (tabB .tuple) (eVar 0)) (eIsC (tabB .tuple) (eVar 1))))
(sRet (eC (.bl false)))
sSkip)
(sSeq (sAsg (eLc (iRange1 (lCons (eCallB (bII minII) (lCons (eCallB bLenX (lCons (eVar 0) lNil)) (lCons (eCallB bLenX (lCons (eVar 1) lNil)) lNil))) lNil)) (bName 3) (g__law_like_t1 r__law_like) (eVar 3) [3]) (bName 2))
(sRet (eAnd (eOp opEq (eCallB bLenX (lCons (eVar 0) lNil)) (eCallB bLenX (lCons (eVar 1) lNil))) (eOp opEq (eVar 2) (eLst lNil))))))
sSkip)
(sSeq (sIf (eIsC (tabB .dict) (eVar 1))
(sSeq (sIf (eOr (eNot (eIsC (tabB .dict) (eVar 0))) (eOp opNe (eCallB bListX (lCons (eVar 0) lNil)) (eCallB bListX (lCons (eVar 1) lNil))))
(sRet (eC (.bl false)))
sSkip)
(sRet (eOp opEq (eLc (iAny (eVar 1)) (bName 4) (g__law_like_t2 r__law_like) (eVar 4) [4]) (eLst lNil))))
sSkip)
(sSeq (sIf (eOr (eOp opIsN (eVar 1) (eC .non)) (eOp opIsN (eVar 0) (eC .non)))
(sRet (eAnd (eOp opIsN (eVar 0) (eC .non)) (eOp opIsN (eVar 1) (eC .non))))
sSkip)
(sSeq (sIf (eIsC (tabB .str) (eVar 1))
(sRet (eAnd (eIsC (tabB .str) (eVar 0)) (eOp opEq (eVar 0) (eVar 1))))
sSkip)
(sRet (eAnd (eIsC (tabB .int) (eVar 0)) (eAnd (eOp opEq (eIsC (tabB .bool) (eVar 0)) (eIsC (tabB .bool) (eVar 1))) (eOp opEq (eVar 0) (eVar 1)))))))))
def d__law_like_n : Nat → FD
  | 0 => fnF .pure 5 sNev
  | n + 1 => fnF .pure 5 (g__law_like (d__law_like_n n))
def d__law_like : FD := d__law_like_n 12
def g__law_shuffled_e1 : EM :=
(eMeth "list" mPopAt (eVar 2) (lCons (eCall d__law_next (lCons (eVar 0) (lCons (eCallB bLenX (lCons (eVar 2) lNil)) lNil))) lNil))
def g__law_shuffled : SM :=
(sSeq (sAsg (eCallB bListXM (lCons (eVar 1) lNil)) (bName 2))
(sRet (eLc (iRange1 (lCons (eCallB bLenX (lCons (eVar 2) lNil)) lNil)) (bName 3) eYes g__law_shuffled_e1 [3])))
def d__law_shuffled : FD := fnF .pure 4 g__law_shuffled
def g__law_name_right_t1 : EM :=
(eOp opNotIn (eVar 1) (eC (.str "abcdefghijklmnopqrstuvwxyz")))
def g__law_name_right : SM :=
(sSeq (sIf (eOr (eNot (eIsC (tabB .str) (eVar 0))) (eNot (eChain opLe opLe (eC (.int 1)) (eCallB bLenX (lCons (eVar 0) lNil)) (eC (.int 8)))))
(sRet (eC (.bl false)))
sSkip)
(sRet (eOp opEq (eLc (iSeq (eVar 0)) (bName 1) g__law_name_right_t1 (eVar 1) [1]) (eLst lNil))))
def d__law_name_right : FD := fnF .pure 2 g__law_name_right
def g__law_names_e1 : EM :=
(eOp opAdd (eOp opIxX (eVar 2) (eOp opMod (eOp opAdd (eVar 3) (eOp opMul (eC (.int 5)) (eVar 5))) (eC (.int 26)))) (eOp opIxX (eVar 4) (eOp opMod (eOp opAdd (eVar 3) (eOp opMul (eVar 5) (eVar 5))) (eC (.int 6)))))
def g__law_names : SM :=
(sSeq (sAsg (eLst (lCons (eC (.str "place")) (lCons (eC (.str "letter")) (lCons (eC (.str "doubt")) (lCons (eC (.str "use")) (lCons (eC (.str "close")) (lCons (eC (.str "admit")) (lCons (eC (.str "refuse")) (lCons (eC (.str "counts")) (lCons (eC (.str "doubled")) (lCons (eC (.str "out")) (lCons (eC (.str "enter")) (lCons (eC (.str "move")) lNil))))))))))))) (bName 1))
(sSeq (sAsg (eOp opAdd (eVar 1) (eLst (lCons (eC (.str "strike")) (lCons (eC (.str "restore")) (lCons (eC (.str "one")) (lCons (eC (.str "any")) (lCons (eC (.str "rank")) (lCons (eC (.str "vote")) (lCons (eC (.str "roll")) (lCons (eC (.str "uses")) (lCons (eC (.str "settled")) (lCons (eC (.str "mixed")) (lCons (eC (.str "late")) (lCons (eC (.str "blank")) lNil)))))))))))))) (bName 1))
(sSeq (sAsg (eOp opAdd (eVar 1) (eLst (lCons (eC (.str "spoilt")) (lCons (eC (.str "stands")) lNil)))) (bName 1))
(sSeq (sAsg (eTup (lCons (eC (.str "abcdefghijklmnopqrstuvwxyz")) (lCons (eCall d__law_next (lCons (eVar 0) (lCons (eC (.int 26)) lNil))) lNil))) (bTup (bCons (bName 2) (bCons (bName 3) bNil))))
(sSeq (sIf (eOp opEq (eCall d__law_next (lCons (eVar 0) (lCons (eC (.int 4)) lNil))) (eC (.int 0)))
(sRet (eOp opAdd (eSlice (eVar 1) (oSome (eVar 3)) oNone) (eSlice (eVar 1) oNone (oSome (eVar 3)))))
sSkip)
(sSeq (sAsg (eLst (lCons (eC (.str "x")) (lCons (eC (.str "")) (lCons (eC (.str "qx")) (lCons (eC (.str "xxxqx")) (lCons (eC (.str "zq")) (lCons (eC (.str "qqqqqqq")) lNil))))))) (bName 4))
(sRet (eLc (iRange1 (lCons (eC (.int 26)) lNil)) (bName 5) eYes g__law_names_e1 [5]))))))))
def d__law_names : FD := fnF .keep 6 g__law_names
def g__law_places_e1 : EM :=
(eTup (lCons (eOp opAdd (eVar 3) (eTup (lCons (eVar 5) lNil))) (lCons (eVar 6) lNil)))
def g__law_places_c1 : EM :=
(eOp opNe (eVar 2) (eLst lNil))
def g__law_places_b1 : SM :=
(sSeq (sAsg (eMeth "list" mPop (eVar 2) lNil) (bTup (bCons (bName 3) (bCons (bName 4) bNil))))
(sSeq (sDrop (eMeth "list" mAppend (eVar 1) (lCons (eVar 3) lNil)))
(sIf (eIsC (tabB .tuple) (eVar 4))
(sDrop (eMeth "list" mExtend (eVar 2) (lCons (eLc (iEnumX (lCons (eVar 4) lNil)) (bTup (bCons (bName 5) (bCons (bName 6) bNil))) eYes g__law_places_e1 [5, 6]) lNil)))
sSkip)))
def g__law_places : SM :=
(sSeq (sPar 1 2 (lCons (eLstM lNil) (lCons (eLstM (lCons (eTup (lCons (eTup lNil) (lCons (eVar 0) lNil))) lNil)) lNil)))
(sSeq (sWhile g__law_places_c1 g__law_places_b1)
(sRet (eVar 1))))
def d__law_places : FD := fnF .pure 7 g__law_places
def g_is_way : SM :=
(sSeq (sIf (eOp opNe (eVar 0) (eC (.str "rank")))
(sRet (eAnd (eIsC (tabB .str) (eVar 1)) (eOp opEq (eVar 1) (eC (.str "")))))
sSkip)
(sRet (eAnd (eCall d_is_one_of (lCons (eVar 1) (lCons (eC (.tup [.str "runoff", .str "pairs", .str "share"])) lNil))) (eOr (eOp opEq (eVar 1) (eC (.str "share"))) (eOp opEq (eVar 2) (eC (.int 1)))))))
def d_is_way : FD := fnF .pure 3 g_is_way
end
end DL
end
section
/-! a tuple == () -/
namespace PySem.SeqAt
open AutoSeq1 (wpAny_loadPart')
section
variable {prog : Program} {w : World}
end
end PySem.SeqAt
namespace L2
open PySem PySem.Spec PyProof.Rows
end L2
namespace DL
open PySem L2
variable {G : Glb} {X : Cx} {W : WX}
/-- a tuple of anything == () -/
def opEq0 (x y : D) (S : Store) : ER := match x, y with
  | .tup ds, .tup [] => .ok (.bl (decide (ds.length = 0))) S
  | _, _ => .bad
def opNe0 (x y : D) (S : Store) : ER := match x, y with
  | .tup ds, .tup [] => .ok (.bl (!decide (ds.length = 0))) S
  | _, _ => .bad
@[simp] theorem opEq0_is {ds : List D} {S : Store} : opEq0 (.tup ds) (.tup []) S = .ok (.bl (decide (ds.length = 0))) S := rfl
@[simp] theorem opNe0_is {ds : List D} {S : Store} : opNe0 (.tup ds) (.tup []) S = .ok (.bl (!decide (ds.length = 0))) S := rfl
end DL
end
section
namespace DW
open PySem L2 DL
noncomputable section
def g_Race_init : SM :=
(sSeq (sIf (eOr (eNot (eCall d_are_unlike_names (lCons (eTup (lCons (eVar 1) lNil)) (lCons (eC (.int 1)) (lCons (eC (.int 1)) lNil))))) (eNot (eCall d_is_one_of (lCons (eVar 2) (lCons (eC (.tup [.str "one", .str "any", .str "rank"])) lNil)))))
(sRaise "NoRace")
sSkip)
(sSeq (sIf (eOr (eNot (eCall d_are_unlike_names (lCons (eVar 3) (lCons (eC (.int 2)) (lCons (eC (.int 5)) lNil))))) (eNot (eCall d_are_unlike_names (lCons (eVar 4) (lCons (eC (.int 1)) (lCons (eC (.int 6)) lNil))))))
(sRaise "NoRace")
sSkip)
(sSeq (sIf (eOr (eNot (eCall d_is_between (lCons (eVar 5) (lCons (eC (.int 1)) (lCons (eCallB bLenX (lCons (eVar 3) lNil)) lNil))))) (eNot (eCall d_is_way (lCons (eVar 2) (lCons (eVar 6) (lCons (eVar 5) lNil))))))
(sRaise "NoRace")
sSkip)
(sSeq (sFldC ["Place", "Race"] "name" (eVar 0) (eVar 1))
(sSeq (sFldC ["Race"] "kind" (eVar 0) (eVar 2))
(sSeq (sFldC ["Race"] "choices" (eVar 0) (eVar 3))
(sSeq (sFldC ["Race"] "districts" (eVar 0) (eVar 4))
(sSeq (sFldC ["Race"] "seats" (eVar 0) (eVar 5))
(sFldC ["Race"] "by" (eVar 0) (eVar 6))))))))))
def d_Race_init : FD := fnF .pure 7 g_Race_init
def g__law_shuffled_e1 : EM :=
(eMeth "list" mPopAt (eVar 2) (lCons (eCall d__law_next (lCons (eVar 0) (lCons (eCallB bLenX (lCons (eVar 2) lNil)) lNil))) lNil))
def g__law_shuffled : SM :=
(sSeq (sAsg (eCallB bListXM (lCons (eVar 1) lNil)) (bName 2))
(sRet (eLc (iRange1 (lCons (eCallB bLenX (lCons (eVar 1) lNil)) lNil)) (bName 3) eYes g__law_shuffled_e1 [3])))
def d__law_shuffled : FD := fnF .pure 4 g__law_shuffled
def g__law_names_e1 : EM :=
(eOp opAdd (eOp opIxX (eVar 3) (eOp opMod (eOp opAdd (eVar 4) (eOp opMul (eC (.int 5)) (eVar 7))) (eC (.int 26)))) (eOp opIxX (eVar 6) (eOp opMod (eOp opAdd (eVar 5) (eOp opMul (eVar 7) (eVar 7))) (eC (.int 6)))))
def g__law_names : SM :=
(sSeq (sAsg (eC (.str "place letter doubt one any rank runoff pairs share each odd admit refuse counts doubled out enter move")) (bName 2))
(sSeq (sAsg (eMeth "str" mSplit (eOp opAdd (eVar 2) (eC (.str " strike restore vote roll uses none spoilt blank"))) (lCons (eC (.str " ")) lNil)) (bName 2))
(sSeq (sAsg (eC (.str "abcdefghijklmnopqrstuvwxyz")) (bName 3))
(sSeq (sAsg (eTup (lCons (eCall d__law_next (lCons (eVar 0) (lCons (eC (.int 26)) lNil))) (lCons (eCall d__law_next (lCons (eVar 0) (lCons (eC (.int 6)) lNil))) lNil))) (bTup (bCons (bName 4) (bCons (bName 5) bNil))))
(sSeq (sIf (eOp opEq (eCall d__law_next (lCons (eVar 0) (lCons (eC (.int 4)) lNil))) (eC (.int 0)))
(sRet (eSlice (eOp opAdd (eSlice (eVar 2) (oSome (eVar 4)) oNone) (eSlice (eVar 2) oNone (oSome (eVar 4)))) oNone (oSome (eVar 1))))
sSkip)
(sSeq (sAsg (eLst (lCons (eC (.str "")) (lCons (eC (.str "x")) (lCons (eC (.str "qx")) (lCons (eC (.str "qxqqx")) (lCons (eC (.str "qxqxqxq")) (lCons (eC (.str "xxqxqxq")) lNil))))))) (bName 6))
(sRet (eLc (iRange1 (lCons (eVar 1) lNil)) (bName 7) eYes g__law_names_e1 [7]))))))))
def d__law_names : FD := fnF .keep 8 g__law_names
def g__law_race : SM :=
(sRet (eMakeKN "Race" (fun ds es => ds ++ pk [.inr 0, .inr 1] [] es) d_Race_init (lCons (eOp opIxX (eVar 0) (eC (.int 0))) (lCons (eOp opIxX (eVar 0) (eC (.int 1))) (lCons (eOp opIxX (eVar 0) (eC (.int 2))) (lCons (eOp opIxX (eVar 0) (eC (.int 3))) lNil)))) (lCons (eOp opIxX (eVar 0) (eC (.int 4))) (lCons (eOp opIxX (eVar 0) (eC (.int 5))) lNil))))
def d__law_race : FD := fnF .pure 1 g__law_race
def g__law_race_parts_t1 : EM :=
(eOp opGt (eCall d__law_next (lCons (eVar 0) (lCons (eC (.int 3)) lNil))) (eC (.int 0)))
def g__law_race_parts : SM :=
(sSeq (sAsg (eCall d__law_pick (lCons (eVar 0) (lCons (eLst (lCons (eC (.str "one")) (lCons (eC (.str "any")) (lCons (eC (.str "rank")) lNil)))) lNil))) (bName 3))
(sSeq (sAsg (eCallB bTuple (lCons (eSlice (eCall d__law_shuffled (lCons (eVar 0) (lCons (eSlice (eVar 1) (oSome (eC (.int 1))) (oSome (eC (.int 6)))) lNil))) oNone (oSome (eOp opAdd (eC (.int 2)) (eCall d__law_next (lCons (eVar 0) (lCons (eC (.int 4)) lNil)))))) lNil)) (bName 4))
(sSeq (sAsg (eLc (iSeq (eVar 2)) (bName 8) g__law_race_parts_t1 (eVar 8) [8]) (bName 5))
(sSeq (sAsg (eIf (eOp opEq (eVar 3) (eC (.str "rank"))) (eCall d__law_pick (lCons (eVar 0) (lCons (eLst (lCons (eC (.str "runoff")) (lCons (eC (.str "pairs")) (lCons (eC (.str "share")) lNil)))) lNil))) (eC (.str ""))) (bName 6))
(sSeq (sAsg (eIf (eOp opIn (eVar 6) (eLst (lCons (eC (.str "runoff")) (lCons (eC (.str "pairs")) lNil)))) (eC (.int 1)) (eOp opAdd (eC (.int 1)) (eCall d__law_next (lCons (eVar 0) (lCons (eCallB bLenX (lCons (eVar 4) lNil)) lNil))))) (bName 7))
(sRet (eTup (lCons (eOp opIxX (eVar 1) (eC (.int 0))) (lCons (eVar 3) (lCons (eVar 4) (lCons (eCallB bTuple (lCons (eIf (eOp opNe (eVar 5) (eLst lNil)) (eVar 5) (eSlice (eVar 2) oNone (oSome (eC (.int 1))))) lNil)) (lCons (eVar 7) (lCons (eVar 6) lNil)))))))))))))
def d__law_race_parts : FD := fnF .keep 9 g__law_race_parts
end
end DW
end
section
/-! str(i), str(text), text.upper() -/
namespace DL
open PySem L2
variable {G : Glb} {X : Cx} {W : WX}
def bStrX (ds : List D) (S : Store) : ER := match ds with
  | [.int i] => if i.natAbs.log2 < 1920 then .ok (.str (toString i)) S else .bad
  | _ => .bad
theorem dc_strX : DCall G X (.type "str") bStrX := by
  refine ⟨_, call_str_int, fun W φ S H σ ds xs Q s i h => ?_⟩
  unfold bStrX at h
  split at h
  · rename_i n
    split at h
    · rename_i hz
      obtain ⟨x, rfl, k⟩ := IsL.inv1 i
      cases (show x = _ from k)
      exact ⟨n, rfl, hz, h.now s rfl⟩
    · exact bad_no h
  · exact bad_no h
@[simp] theorem bStrX_i {i : Int} {S : Store} : bStrX [.int i] S = if i.natAbs.log2 < 1920 then .ok (.str (toString i)) S else .bad := rfl
def eUpper (f : EM) : EM := fun env S => (f env S).bind fun d S => match d with
  | .str a => if a.length ≤ 5592405 then .ok (.str (Txt.upper a)) S else .bad
  | _ => .bad
@[simp] theorem eUpper_is {f : EM} {env : EnvD} {S : Store} : eUpper f env S = (f env S).bind fun d S => match d with
  | .str a => if a.length ≤ 5592405 then .ok (.str (Txt.upper a)) S else .bad
  | _ => .bad := rfl
theorem de_upper {o : Expr} {f : EM} {apos pos : Pos} (ho : DE G X W o f) (hbase : attributeBase o "upper" X.env (eval o X.env) = eval o X.env := by rfl) (hline : (apos.endLine == pos.line) = true := by rfl) :
    DE G X W (.Call (.Attribute o "upper" apos) [] [] pos) (eUpper f) := by
  obtain ⟨t, p, q⟩ := ho
  refine ⟨_, pe_upper p hbase hline, fun σ H env φ S Q s re h => ?_⟩
  refine q σ H env φ S _ s re (PostE.bind h fun d S1 φ1 H1 v e1 s1 i1 h1 => ?_)
  cases d with
  | str a =>
    dsimp only at h1
    split at h1
    · rename_i hz
      cases (show v = _ from i1)
      exact ⟨⟨a, rfl⟩, a, rfl, rfl, hz, h1.now s1 rfl⟩
    · exact h1.elim
  | _ => exact h1.elim
end DL
end
section
/-! Loops, comprehensions and equality of plain lists. -/
namespace DL
open PySem L2
theorem forD_cons {b : D → EnvD → Option EnvD} {body : SM} {d : D} {ds : List D} {e : EnvD} {S : Store} : forD b body (d :: ds) e S = match b d e with
    | none => .bad
    | some e1 => match body e1 S with
      | .nx e2 S2 => forD b body ds e2 S2
      | .ct e2 S2 => forD b body ds e2 S2
      | .bk e2 S2 => .nx e2 S2
      | .rt d S2 => .rt d S2
      | .ex x e2 S2 => .ex x e2 S2
      | .bad => .bad := rfl
/-- a loop that is never left, by what holds of the turn, the slots and the store -/
theorem forD_inv {b : D → EnvD → Option EnvD} {body : SM} (P : Nat → EnvD → Store → Prop) : ∀ (ds : List D) (n : Nat) {e : EnvD} {S : Store}, P n e S →
    (∀ i d e S, ds[i]? = some d → P (n + i) e S → ∃ e1, b d e = some e1 ∧ ∃ e2 S2, (body e1 S = .nx e2 S2 ∨ body e1 S = .ct e2 S2) ∧ P (n + i + 1) e2 S2) → ∃ e' S', forD b body ds e S = .nx e' S' ∧ P (n + ds.length) e' S'
  | [], n, e, S, h0, _ => ⟨e, S, rfl, h0⟩
  | d :: ds, n, e, S, h0, st => by
    obtain ⟨e1, hb, e2, S2, hg, h1⟩ := st 0 d e S rfl h0
    obtain ⟨e', S', hf, h2⟩ := forD_inv P ds (n + 1) (e := e2) (S := S2) h1 fun i d' e S hd hp => by
      have := st (i + 1) d' e S (by simpa using hd) (by rw [show n + (i + 1) = n + 1 + i by omega]; exact hp)
      rw [show n + (i + 1) + 1 = n + 1 + i + 1 by omega] at this
      exact this
    refine ⟨e', S', ?_, by rw [show n + (d :: ds).length = n + 1 + ds.length by simp; omega]; exact h2⟩
    rw [forD_cons, hb]
    dsimp only
    rcases hg with hg | hg <;> rw [hg] <;> exact hf
theorem range_get {lo : Int} {n i : Nat} {d : D} (h : (rangeD lo n)[i]? = some d) : i < n ∧ d = .int (lo + (i : Nat)) := by
  unfold rangeD at h
  rw [List.getElem?_map] at h
  obtain ⟨j, e1, e2⟩ := Option.map_eq_some_iff.mp h
  obtain ⟨hl, e3⟩ := List.getElem?_eq_some_iff.mp e1
  simp at hl e3
  subst e3 e2
  exact ⟨hl, rfl⟩
@[simp] theorem range_len {lo : Int} {n : Nat} : (rangeD lo n).length = n := by simp [rangeD]
/-- for k in range(n) -/
theorem forD_range {b : D → EnvD → Option EnvD} {body : SM} (P : Nat → EnvD → Store → Prop) {lo : Int} {n : Nat} {e : EnvD} {S : Store} (h0 : P 0 e S)
    (st : ∀ i e S, i < n → P i e S → ∃ e1, b (.int (lo + (i : Nat))) e = some e1 ∧ ∃ e2 S2, (body e1 S = .nx e2 S2 ∨ body e1 S = .ct e2 S2) ∧ P (i + 1) e2 S2) : ∃ e' S', forD b body (rangeD lo n) e S = .nx e' S' ∧ P n e' S' := by
  obtain ⟨e', S', h1, h2⟩ := forD_inv (b := b) (body := body) P (rangeD lo n) 0 h0 fun i d e S hd hp => by
    obtain ⟨hl, rfl⟩ := range_get hd
    have := st i e S hl (by simpa using hp)
    simpa using this
  exact ⟨e', S', h1, by simpa using h2⟩
/-- a comprehension whose parts leave the store: filter, then map -/
theorem lcD_fm {b : D → EnvD → Option EnvD} {tt elt : EM} {env : EnvD} {S : Store} (p : D → Bool) (f : D → D) : ∀ (ds acc : List D),
    (∀ d ∈ ds, ∃ e1, b d env = some e1 ∧ tt e1 S = .ok (.bl (p d)) S ∧ (p d = true → elt e1 S = .ok (f d) S)) → acc.length + ds.length ≤ 16777216 → lcD b tt elt env acc ds S = .ok (acc ++ (ds.filter p).map f) S
  | [], acc, _, _ => by simp
  | d :: ds, acc, h, hl => by
    obtain ⟨e1, hb, ht, he⟩ := h d List.mem_cons_self
    have hl' : acc.length + (ds.length + 1) ≤ 16777216 := hl
    unfold lcD
    rw [hb]
    dsimp only
    rw [ht]
    cases hp : p d with
    | true =>
      dsimp only
      rw [he hp]
      dsimp only
      rw [if_pos (show sz (acc.length + 1) by unfold sz; omega), lcD_fm p f ds _ (fun d' hd => h d' (List.mem_cons_of_mem _ hd)) (by simp; omega)]
      simp [List.filter_cons, hp]
    | false =>
      dsimp only
      rw [lcD_fm p f ds acc (fun d' hd => h d' (List.mem_cons_of_mem _ hd)) (by omega)]
      simp [List.filter_cons, hp]
theorem lcD_map {b : D → EnvD → Option EnvD} {elt : EM} {env : EnvD} {S : Store} (f : D → D) (ds : List D)
    (h : ∀ d ∈ ds, ∃ e1, b d env = some e1 ∧ elt e1 S = .ok (f d) S) (hl : ds.length ≤ 16777216) : lcD b eYes elt env [] ds S = .ok (ds.map f) S := by
  rw [lcD_fm (tt := eYes) (fun _ => true) f ds [] (fun d hd => let ⟨e1, a, c⟩ := h d hd; ⟨e1, a, rfl, fun _ => c⟩) (by simpa using hl), List.nil_append, List.filter_eq_self.mpr (fun _ _ => rfl)]
/-! equality of lists and tuples of whole numbers -/
theorem pys_ints {S : Store} : ∀ ns : List Int, D.pys S (ns.map .int) = some (ns.map .int)
  | [] => rfl
  | n :: ns => by simp [D.pys, D.py, pys_ints ns]
theorem eqv_ints : ∀ as bs : List Int, PyData.eqvAll (as.map .int) (bs.map .int) = decide (as = bs)
  | [], [] => rfl
  | [], _ :: _ => rfl
  | _ :: _, [] => rfl
  | a :: as, b :: bs => by
    show (PyData.eqv (.int a) (.int b) && PyData.eqvAll (as.map .int) (bs.map .int)) = _
    rw [eqv_ints as bs]
    show ((a == b) && decide (as = bs)) = _
    by_cases h : a = b
    · subst h; simp
    · simp [h]
/-- data whose texts may be laid, not deeper than k -/
def Shp (k : Nat) (p : PyData) : Prop := p.canLay0 = true ∧ p.depth ≤ k
theorem Shp.shaped {k : Nat} {p : PyData} (h : Shp k p) (hk : k ≤ 64) : SeqAt.shaped p = true := by
  unfold SeqAt.shaped
  rw [h.1, decide_eq_true (by have := h.2; omega : p.depth ≤ 64)]; rfl
theorem Shp.mono {k m : Nat} {p : PyData} (h : Shp k p) (hk : k ≤ m) : Shp m p := ⟨h.1, Nat.le_trans h.2 hk⟩
theorem Shp.int {k : Nat} (i : Int) : Shp k (.int i) := ⟨rfl, Nat.zero_le _⟩
theorem Shp.bool {k : Nat} (i : Bool) : Shp k (.bool i) := ⟨rfl, Nat.zero_le _⟩
theorem Shp.none {k : Nat} : Shp k .none := ⟨rfl, Nat.zero_le _⟩
theorem Shp.str {k : Nat} {x : Str} (h : PyData.strOk x = true) : Shp k (.str x) := ⟨h, Nat.zero_le _⟩
theorem Shp.all {k : Nat} : ∀ {ps : List PyData}, (∀ p ∈ ps, Shp k p) → PyData.canLayAll0 ps = true ∧ PyData.depthAll ps ≤ k
  | [], _ => ⟨rfl, Nat.zero_le _⟩
  | p :: ps, h => by
    obtain ⟨h1, h2⟩ := h p List.mem_cons_self
    obtain ⟨h3, h4⟩ := Shp.all fun q hq => h q (List.mem_cons_of_mem _ hq)
    refine ⟨?_, Nat.max_le.mpr ⟨h2, h4⟩⟩
    show (p.canLay0 && PyData.canLayAll0 ps) = true
    rw [h1, h3]; rfl
theorem Shp.list {k : Nat} {ps : List PyData} (h : ∀ p ∈ ps, Shp k p) : Shp (k + 1) (.list ps) := ⟨(Shp.all h).1, Nat.succ_le_succ (Shp.all h).2⟩
theorem Shp.tuple {k : Nat} {ps : List PyData} (h : ∀ p ∈ ps, Shp k p) : Shp (k + 1) (.tuple ps) := ⟨(Shp.all h).1, Nat.succ_le_succ (Shp.all h).2⟩
theorem Shp.ints {k : Nat} {ns : List Int} : ∀ p ∈ ns.map PyData.int, Shp k p := fun p hp => by
  obtain ⟨i, _, rfl⟩ := List.mem_map.mp hp
  exact .int i
theorem opEqB_of {neg : Bool} {x y : D} {S : Store} {p q : PyData} (hx : x.pyO S = some p) (hy : y.pyO S = some q) (h1 : SeqAt.shaped p = true) (h2 : SeqAt.shaped q = true) (ns : ∀ a b, x = .str a → y = .str b → False) :
    opEqB neg x y S = .ok (.bl (if neg then !PyData.eqv p q else PyData.eqv p q)) S := by
  unfold opEqB
  split
  · exact (ns _ _ rfl rfl).elim
  · rw [hx, hy]
    simp only [h1, h2, Bool.and_self, if_true]
@[simp] theorem opEq_tints {as bs : List Int} {S : Store} : opEq (.tup (as.map .int)) (.tup (bs.map .int)) S = .ok (.bl (decide (as = bs))) S := by
  rw [opEq, opEqB_of (p := .tuple (as.map .int)) (q := .tuple (bs.map .int)) (by simp [D.pyO, D.py, pys_ints]) (by simp [D.pyO, D.py, pys_ints]) ((Shp.tuple (k := 0) Shp.ints).shaped (by decide)) ((Shp.tuple (k := 0) Shp.ints).shaped (by decide)) (fun _ _ h => by cases h), PyData.eqv, eqv_ints]
  rfl
@[simp] theorem opNe_tints {as bs : List Int} {S : Store} : opNe (.tup (as.map .int)) (.tup (bs.map .int)) S = .ok (.bl (!decide (as = bs))) S := by
  rw [opNe, opEqB_of (p := .tuple (as.map .int)) (q := .tuple (bs.map .int)) (by simp [D.pyO, D.py, pys_ints]) (by simp [D.pyO, D.py, pys_ints]) ((Shp.tuple (k := 0) Shp.ints).shaped (by decide)) ((Shp.tuple (k := 0) Shp.ints).shaped (by decide)) (fun _ _ h => by cases h), PyData.eqv, eqv_ints]
  rfl
@[simp] theorem opEq_lints {as bs : List Int} {S : Store} : opEq (.lst (as.map .int)) (.lst (bs.map .int)) S = .ok (.bl (decide (as = bs))) S := by
  rw [opEq, opEqB_of (p := .list (as.map .int)) (q := .list (bs.map .int)) (by simp [D.pyO, D.py, pys_ints]) (by simp [D.pyO, D.py, pys_ints]) ((Shp.list (k := 0) Shp.ints).shaped (by decide)) ((Shp.list (k := 0) Shp.ints).shaped (by decide)) (fun _ _ h => by cases h), PyData.eqv, eqv_ints]
  rfl
@[simp] theorem opNe_lints {as bs : List Int} {S : Store} : opNe (.lst (as.map .int)) (.lst (bs.map .int)) S = .ok (.bl (!decide (as = bs))) S := by
  rw [opNe, opEqB_of (p := .list (as.map .int)) (q := .list (bs.map .int)) (by simp [D.pyO, D.py, pys_ints]) (by simp [D.pyO, D.py, pys_ints]) ((Shp.list (k := 0) Shp.ints).shaped (by decide)) ((Shp.list (k := 0) Shp.ints).shaped (by decide)) (fun _ _ h => by cases h), PyData.eqv, eqv_ints]
  rfl
@[simp] theorem exit_bl0 {b : Bool} {S : Store} : exitD .pure [] (.bl b) S = .ok (.bl b) [] := exit_of (d' := .bl b) rfl (by simp)
theorem cut_map {α β : Type} (f : α → β) (xs : List α) (lo hi : Option Int) : cutD (xs.map f) lo hi = (cutD xs lo hi).map f := by
  simp [cutD]
theorem cut_len {α : Type} (xs : List α) (lo hi : Option Int) : (cutD xs lo hi).length ≤ xs.length := by
  unfold cutD
  rw [List.length_take, List.length_drop]; omega
/-- the law's own loop: every cell of the script, with its number -/
theorem law_loop {b : D → EnvD → Option EnvD} {body : SM} {e : EnvD} {S : Store} (P : EnvD → Prop) (ms : List Int) (h0 : P e)
    (st : ∀ (i : Nat) (c : Int) (e : EnvD), i < ms.length → P e → ∃ e1 e2, b (.tup [.int (i : Nat), .int c]) e = some e1 ∧ body e1 S = .nx e2 S ∧ P e2) : ∃ e', forD b body (enumD 0 (ms.map .int)) e S = .nx e' S := by
  obtain ⟨e', S', h, _, rfl⟩ := forD_inv (b := b) (body := body) (fun _ e S' => P e ∧ S' = S) (enumD 0 (ms.map .int)) 0 (e := e) (S := S) ⟨h0, rfl⟩ (by
    rintro i d e S' hd ⟨hp, rfl⟩
    obtain ⟨x, hx, rfl⟩ := enumD_get 0 _ i d hd
    rw [List.getElem?_map] at hx
    obtain ⟨c, hc, rfl⟩ := Option.map_eq_some_iff.mp hx
    have hi : i < ms.length := (List.getElem?_eq_some_iff.mp hc).1
    obtain ⟨e1, e2, h1, h2, h3⟩ := st i c e hi hp
    rw [Nat.zero_add]
    exact ⟨e1, h1, e2, S', .inl h2, h3, rfl⟩)
  exact ⟨e', h⟩
end DL
end
section
/-! What a refusal is: `_law_alone`, `_law_refusal`. -/
namespace DL
open PySem L2
variable {S : Store}
theorem bls_py : ∀ bs : List Bool, D.pys S (bs.map .bl) = some (bs.map .bool)
  | [] => rfl
  | b :: bs => by simp [D.pys, D.py, bls_py bs]
theorem bl_eqv (a b : Bool) : PyData.eqv (.bool a) (.bool b) = (a == b) := by cases a <;> cases b <;> rfl
theorem shp_bls (bs : List Bool) : SeqAt.shaped (.list (bs.map PyData.bool)) = true :=
  (Shp.list (k := 0) fun p hp => by obtain ⟨b, _, rfl⟩ := List.mem_map.mp hp; exact .bool b).shaped (by decide)
theorem bls_pyO (bs : List Bool) : D.pyO S (.lst (bs.map .bl)) = some (.list (bs.map .bool)) := by simp [D.pyO, D.py, bls_py]
theorem count_bls {bs : List Bool} : mCountD (.lst (bs.map .bl)) [.bl true] S = .ok (.int (bs.countP fun b => b == true : Nat)) S := by
  unfold mCountD
  dsimp only
  rw [bls_pyO, show D.pyO S (.bl true) = some (.bool true) from rfl]
  dsimp only
  rw [shp_bls, show SeqAt.shaped (.bool true) = true from rfl, if_pos (show (true && true) = true from rfl), List.countP_map]
  have e : (fun z => PyData.eqv z (.bool true)) ∘ PyData.bool = fun b => b == true := by funext b; exact bl_eqv b true
  rw [e]
theorem index_bls {bs : List Bool} (h : true ∈ bs) : mIndex (.lst (bs.map .bl)) [.bl true] S = .ok (.int (bs.idxOf true : Nat)) S := by
  unfold mIndex
  dsimp only
  rw [bls_pyO, show D.pyO S (.bl true) = some (.bool true) from rfl]
  dsimp only
  rw [shp_bls, show SeqAt.shaped (.bool true) = true from rfl]
  have g : ∀ l : List Bool, true ∈ l → (l.map PyData.bool).findIdx? (fun z => PyData.eqv z (.bool true)) = some (l.idxOf true) := fun l => by
    induction l with
    | nil => intro h; cases h
    | cons a l ih =>
      intro h
      rw [List.map_cons, List.findIdx?_cons, List.idxOf_cons, bl_eqv]
      cases a with
      | true => rfl
      | false =>
        have hb : true ∈ l := (List.mem_cons.mp h).resolve_left fun z => by cases z
        rw [ih hb]; rfl
  simp [g bs h]
def excNs : List Str := ["NoName", "NoDay", "NoRace", "NoMark", "NoCode", "NoPlace", "NoStub", "NoWay", "NoTime", "NoLetter", "NotWhole", "NoRuling", "NoChain", "NoBits", "NoLot", "NoCount", "NoPhase", "Twice", "NotThere", "NoRow", "NoText"]
theorem splA : Txt.split ("NoName NoDay NoRace NoMark NoCode NoPlace NoStub NoWay NoTime NoLetter NotWhole NoRuling" ++ " NoChain NoBits NoLot NoCount NoPhase Twice NotThere NoRow NoText" : Str) " " = excNs := by decide +kernel
theorem lenA : ("NoName NoDay NoRace NoMark NoCode NoPlace NoStub NoWay NoTime NoLetter NotWhole NoRuling" : Str).length + (" NoChain NoBits NoLot NoCount NoPhase Twice NotThere NoRow NoText" : Str).length ≤ 200 ∧ ("NoName NoDay NoRace NoMark NoCode NoPlace NoStub NoWay NoTime NoLetter NotWhole NoRuling" ++ " NoChain NoBits NoLot NoCount NoPhase Twice NotThere NoRow NoText" : Str).length ≤ 200 ∧ ((" " : Str).length == 0) = false := by decide +kernel
def isA (c : Str) : List Bool := excNs.map fun n => decide (c = n)
theorem isA_ok : ∀ c ∈ excNs, (isA c).countP (fun b => b == true) = 1 ∧ true ∈ isA c ∧ excNs[(isA c).idxOf true]? = some c ∧ (isA c).length = 21 := by decide +kernel
theorem alone_ok {c : Str} {ks : List Str} {ds : List D} (h : c ∈ excNs) : d__law_alone [.exn c ks ds] S = .ok (.str c) S := by
  obtain ⟨a1, a2, a3, a4⟩ := isA_ok c h
  have cn := count_bls (S := S) (bs := isA c)
  have ix := index_bls (S := S) a2
  rw [a1] at cn
  have at0 : atI (excNs.map D.str) ((isA c).idxOf true : Nat) = some (.str c) := atI_nat (by rw [List.getElem?_map, a3]; rfl)
  have ty : ∀ S, tyE S (.exn c ks ds) = some (.x c) := fun _ => rfl
  obtain ⟨l1, l3, l4⟩ := lenA
  have ad : ∀ S', opAdd (.str "NoName NoDay NoRace NoMark NoCode NoPlace NoStub NoWay NoTime NoLetter NotWhole NoRuling") (.str " NoChain NoBits NoLot NoCount NoPhase Twice NotThere NoRow NoText") S' = .ok (.str ("NoName NoDay NoRace NoMark NoCode NoPlace NoStub NoWay NoTime NoLetter NotWhole NoRuling" ++ " NoChain NoBits NoLot NoCount NoPhase Twice NotThere NoRow NoText" : Str)) S' := fun S' => by
    rw [opAdd_ss, if_pos (sz_is (Nat.le_trans l1 (by decide)))]
  have e : (isA c).map D.bl = [.bl (decide (c = "NoName")), .bl (decide (c = "NoDay")), .bl (decide (c = "NoRace")), .bl (decide (c = "NoMark")), .bl (decide (c = "NoCode")), .bl (decide (c = "NoPlace")), .bl (decide (c = "NoStub")), .bl (decide (c = "NoWay")), .bl (decide (c = "NoTime")), .bl (decide (c = "NoLetter")), .bl (decide (c = "NotWhole")), .bl (decide (c = "NoRuling")), .bl (decide (c = "NoChain")), .bl (decide (c = "NoBits")), .bl (decide (c = "NoLot")), .bl (decide (c = "NoCount")), .bl (decide (c = "NoPhase")), .bl (decide (c = "Twice")), .bl (decide (c = "NotThere")), .bl (decide (c = "NoRow")), .bl (decide (c = "NoText"))] := rfl
  rw [e] at cn ix
  generalize hX : D.exn c ks ds = X at *
  have sp : ∀ S', mSplit (.str ("NoName NoDay NoRace NoMark NoCode NoPlace NoStub NoWay NoTime NoLetter NotWhole NoRuling" ++ " NoChain NoBits NoLot NoCount NoPhase Twice NotThere NoRow NoText" : Str)) [.str " "] S' = .ok (.lst (excNs.map .str)) S' := fun S' => by
    unfold mSplit
    dsimp only
    rw [splA, if_pos ⟨l4, Nat.le_trans l3 (by decide)⟩]
  generalize (isA c).idxOf true = i at *
  have ts : ∀ S' (z : Str), tyD "str" S' (.str z) = true := fun _ _ => rfl
  have tl : ∀ S' (z : List D), tyD "list" S' (.lst z) = true := fun _ _ => rfl
  simp [-opAdd_ss, ts, tl, d__law_alone, g__law_alone, ty, tabX, sz_is, cn, ix, ad, sp, at0]
end DL
end
section
/-! b + n, b - n, -b, str(b) of a truth. -/
namespace L2
open PySem PySem.Spec PyProof.Rows
section
variable {X : Cx}
def bI (b : Bool) : Int := if b = true then 1 else 0
theorem op_add_bi : OpR X (binaryOp .Add) (fun x y H Q => ∃ k i, x = .bl k ∧ y = .int i ∧ Q (.int (bI k + i)) H) := by
  intro pins s σ H x y v u Q I rx ry h
  obtain ⟨k, i, rfl, rfl, q⟩ := h
  obtain ⟨t, rfl⟩ := ry
  cases rx
  exact IntBool.add_bool_int ⟨.int (bI k + i), H, I.tok _, ⟨_, rfl⟩, q⟩
theorem op_sub_bi : OpR X (binaryOp .Sub) (fun x y H Q => ∃ k i, x = .bl k ∧ y = .int i ∧ Q (.int (bI k - i)) H) := by
  intro pins s σ H x y v u Q I rx ry h
  obtain ⟨k, i, rfl, rfl, q⟩ := h
  obtain ⟨t, rfl⟩ := ry
  cases rx
  exact IntBool.sub_bool_int ⟨.int (bI k - i), H, I.tok _, ⟨_, rfl⟩, q⟩
theorem int___neg___bool (a : Bool) : Gives (Builtin.«int.__neg__» ⟨[.bool a], []⟩) (.int (-(bI a))) :=
  .of_wp fun M A E s Q h => by obtain ⟨hp, g, d, tk, os⟩ := s; wp_walk; exact ⟨_, rfl, h⟩
theorem un_negB : UnR X (unaryOp .USub) (fun x H Q => ∃ k, x = .bl k ∧ Q (.int (-(bI k))) H) := by
  intro pins s σ H x v Q I rx h
  obtain ⟨k, rfl, q⟩ := h
  cases rx
  exact unaryOp_gives (op := .USub) (PySem.typeIs_bool _ _) rfl F.slot_bool_neg F.entry_int_neg (F.args_int_neg_1 _) (int___neg___bool k) ⟨.int (-(bI k)), H, I.tok _, ⟨_, rfl⟩, q⟩
theorem call_str_bl : CallR X (.type "str") (fun xs H Q => ∃ b, xs = [.bl b] ∧ Q (.str (if b then "True" else "False")) H) := by
  intro pins s σ H xs us Q I r h
  obtain ⟨i, rfl, q⟩ := h
  obtain ⟨u, rfl, ru⟩ := vals1 r
  cases ru
  exact PySem.P.str_of_bool ⟨.str _, H, I.tok _, ⟨_, rfl⟩, q⟩
end
end L2
namespace DL
open PySem L2
variable {G : Glb} {X : Cx} {W : WX}
noncomputable def opAddB (x y : D) (S : Store) : ER := match x, y with
  | .bl b, .int i => .ok (.int (bI b + i)) S
  | x, y => opAdd x y S
theorem do_addB (hK : X.K = G.K) : DOp G X (binaryOp .Add) opAddB := by
  obtain ⟨r, hr, q⟩ := do_add (X := X) hK
  refine ⟨_, op_add_bi.or hr, fun W φ S H σ dx dy x y Q s ix iy h => ?_⟩
  unfold opAddB at h
  split at h
  · cases (show x = _ from ix); cases (show y = _ from iy)
    exact .inl ⟨_, _, rfl, rfl, h.now s rfl⟩
  · exact .inr (q W φ S H σ dx dy x y Q s ix iy h)
def opSubB (x y : D) (S : Store) : ER := match x, y with
  | .bl b, .int i => .ok (.int (bI b - i)) S
  | x, y => opSub x y S
theorem do_subB : DOp G X (binaryOp .Sub) opSubB := by
  obtain ⟨r, hr, q⟩ := do_sub (G := G) (X := X)
  refine ⟨_, op_sub_bi.or hr, fun W φ S H σ dx dy x y Q s ix iy h => ?_⟩
  unfold opSubB at h
  split at h
  · cases (show x = _ from ix); cases (show y = _ from iy)
    exact .inl ⟨_, _, rfl, rfl, h.now s rfl⟩
  · exact .inr (q W φ S H σ dx dy x y Q s ix iy h)
def eNegB (f : EM) : EM := fun env S => (f env S).bind fun d S => match d with | .int i => .ok (.int (-i)) S | .bl b => .ok (.int (-(bI b))) S | _ => .bad
theorem UnR.or {f : Value → Sem Value} {r r' : V → Hp → VK → Prop} (h : UnR X f r) (h' : UnR X f r') : UnR X f (fun x H Q => r x H Q ∨ r' x H Q) := fun pins s σ H x v Q I rx z => z.elim (h pins s σ H x v Q I rx) (h' pins s σ H x v Q I rx)
theorem de_negB {a : Expr} {pos : Pos} {f : EM} (ha : DE G X W a f) : DE G X W (.UnaryOp .USub a pos) (eNegB f) := by
  obtain ⟨ta, pa, qa⟩ := ha
  refine ⟨_, pe_un (UnR.or un_neg un_negB) pa, fun σ H env φ S Q s re h => ?_⟩
  refine qa σ H env φ S _ s re (PostE.bind h fun d S1 φ1 H1 v e1 s1 i1 h1 => ?_)
  cases d with
  | int i => exact .inl ⟨i, i1, h1.now s1 rfl⟩
  | bl i => exact .inr ⟨i, i1, h1.now s1 rfl⟩
  | _ => exact False.elim h1
def bStrB (ds : List D) (S : Store) : ER := match ds with
  | [.bl b] => .ok (.str (if b then "True" else "False")) S
  | ds => bStrX ds S
theorem dc_strB : DCall G X (.type "str") bStrB := by
  obtain ⟨r, hr, q⟩ := dc_strX (G := G) (X := X)
  refine ⟨_, call_str_bl.or hr, fun W φ S H σ ds xs Q s i h => ?_⟩
  unfold bStrB at h
  split at h
  · obtain ⟨x, rfl, k⟩ := IsL.inv1 i
    cases (show x = _ from k)
    exact .inl ⟨_, rfl, h.now s rfl⟩
  · exact .inr (q W φ S H σ ds xs Q s i h)
/-! text[a:b], too -/
noncomputable def slDS (x : D) (lo hi : Option Int) (S : Store) : ER := match x with
  | .str z => if sz z.length then .ok (.str (cutS z lo hi)) S else .bad
  | x => slD x lo hi S
noncomputable def eSliceS (f : EM) (lo hi : OM) : EM := fun env S => (f env S).bind fun x S => (lo env S).bindE fun l S => (hi env S).bindE fun u S => slDS x l u S
theorem de_sliceS {e : Expr} {lo hi : Option Expr} {p2 pos : Pos} {f : EM} {fl fh : OM} (hK : X.K = G.K) (he : DE G X W e f) (hl : DO G X W lo fl) (hh : DO G X W hi fh) : DE G X W (.Subscript e (.Slice lo hi none p2) pos) (eSliceS f fl fh) := by
  obtain ⟨t, p, q⟩ := he
  obtain ⟨tl, pl, ql⟩ := hl
  obtain ⟨th, ph, qh⟩ := hh
  refine ⟨_, pe_slice (sl_str.or (sl_list.or sl_tupA)) p pl ph, fun σ H env φ S Q s re h => ?_⟩
  refine q σ H env φ S _ s re (PostE.bind h fun x S1 φ1 H1 v e1 s1 i1 h1 => ?_)
  refine ql σ H1 env φ1 S1 _ s1 (re.ext e1) (PostO.bindE h1 fun l S2 φ2 H2 e2 s2 h2 => ?_)
  refine qh σ H2 env φ2 S2 _ s2 ((re.ext e1).ext e2) (PostO.bindE h2 fun u S3 φ3 H3 e3 s3 h3 => ?_)
  have i3 := (i1.ext e2).ext e3
  unfold slDS at h3
  split at h3
  · rename_i z
    cases (show v = _ from i3)
    split at h3
    · exact .inl ⟨z, rfl, sizeLine_is (by assumption), h3.now s3 rfl⟩
    · exact False.elim h3
  · refine .inr ?_
    unfold slD at h3
    split at h3
    · rename_i ds
      obtain ⟨a, xs, rfl, r, il⟩ := i3
      refine .inr ⟨a, xs, rfl, by rw [hK]; exact r.seq, fun hw => ?_, fun _ p hp => tup_new s3 (il.cut l u) h3 hp⟩
      rw [← il.length] at hw
      rw [cut_whole hw] at h3
      exact h3.now s3 ⟨a, xs, rfl, r, il⟩
    · split at h3
      · rename_i ds e
        obtain ⟨a, xs, rfl, r, il⟩ := listD_sq s3 i3 e
        exact .inl ⟨a, xs, rfl, by rw [hK]; exact r, fun p hp => lst_new s3 (il.cut l u) h3 hp⟩
      · exact False.elim h3
section
variable {S : Store} {env : EnvD}
theorem opAddB_bi {b : Bool} {i : Int} : opAddB (.bl b) (.int i) S = .ok (.int (bI b + i)) S := rfl
theorem opAddB_ii {j i : Int} : opAddB (.int j) (.int i) S = .ok (.int (j + i)) S := rfl
theorem opSubB_bi {b : Bool} {i : Int} : opSubB (.bl b) (.int i) S = .ok (.int (bI b - i)) S := rfl
theorem opSubB_ii {j i : Int} : opSubB (.int j) (.int i) S = .ok (.int (j - i)) S := rfl
theorem opAddB_o {x y : D} (h : ∀ b, x ≠ .bl b) : opAddB x y S = opAdd x y S := by
  unfold opAddB; split
  · exact absurd rfl (h _)
  · rfl
theorem eNegB_is {f : EM} : eNegB f env S = (f env S).bind fun d S => match d with | .int i => .ok (.int (-i)) S | .bl b => .ok (.int (-(bI b))) S | _ => .bad := rfl
theorem bStrB_b {b : Bool} : bStrB [.bl b] S = .ok (.str (if b then "True" else "False")) S := rfl
theorem bStrB_i {i : Int} : bStrB [.int i] S = if i.natAbs.log2 < 1920 then .ok (.str (toString i)) S else .bad := rfl
theorem eSliceS_is {f : EM} {lo hi : OM} : eSliceS f lo hi env S = (f env S).bind fun x S => (lo env S).bindE fun l S => (hi env S).bindE fun u S => slDS x l u S := rfl
theorem slDS_s {z : Str} {lo hi : Option Int} : slDS (.str z) lo hi S = if sz z.length then .ok (.str (cutS z lo hi)) S else .bad := rfl
end
end DL
end
section
namespace DO
open PySem L2 DL
noncomputable section
def g__law_places_e1 : EM :=
(eTup (lCons (eOp opAdd (eVar 3) (eTup (lCons (eVar 5) lNil))) (lCons (eVar 6) lNil)))
def g__law_places_c1 : EM :=
(eOp opNe (eVar 2) (eLst lNil))
def g__law_places_b1 : SM :=
(sSeq (sAsg (eMeth "list" mPop (eVar 2) lNil) (bTup (bCons (bName 3) (bCons (bName 4) bNil))))
(sSeq (sDrop (eMeth "list" mAppend (eVar 1) (lCons (eVar 3) lNil)))
(sIf (eIsC (tabB .tuple) (eVar 4))
(sDrop (eMeth "list" mExtendX (eVar 2) (lCons (eLc (iEnumX (lCons (eVar 4) lNil)) (bTup (bCons (bName 5) (bCons (bName 6) bNil))) eYes g__law_places_e1 [5, 6]) lNil)))
sSkip)))
def g__law_places : SM :=
(sSeq (sPar 1 2 (lCons (eLstM lNil) (lCons (eLstM (lCons (eTup (lCons (eTup lNil) (lCons (eVar 0) lNil))) lNil)) lNil)))
(sSeq (sWhile g__law_places_c1 g__law_places_b1)
(sRet (eVar 1))))
def d__law_places : FD := fnF .pure 7 g__law_places
def g__law_strange : SM :=
(sSeq (sAsg (eLst (lCons (eC .non) (lCons (eC (.bl true)) (lCons (eC (.bl false)) (lCons (eC (.int 0)) (lCons (eNegB (eC (.int 1))) (lCons (eC (.int 1)) (lCons (eC (.int 2)) (lCons (eC (.int 5)) (lCons (eC (.int 6)) (lCons (eC (.int 1000000)) (lCons (eC (.int 1000001)) (lCons (eC (.str "")) (lCons (eC (.str "a")) (lCons (eC (.str "abcdefghi")) (lCons (eC (.str "A")) (lCons (eC (.str "x1")) (lCons (eC (.str "?")) (lCons (eTup lNil) lNil))))))))))))))))))) (bName 2))
(sSeq (sIf (eIsC (tabB .str) (eVar 1))
(sAsg (eOp opAddB (eVar 2) (eOp opMulX (eLstM (lCons (eOp opAddB (eVar 1) (eC (.str "x"))) (lCons (eSliceS (eVar 1) oNone (oSome (eNegB (eC (.int 1))))) (lCons (eUpper (eVar 1)) (lCons (eTup (lCons (eVar 1) lNil)) (lCons (eLst (lCons (eVar 1) lNil)) (lCons (eOp opAddB (eVar 1) (eC (.str " "))) lNil))))))) (eC (.int 3)))) (bName 2))
sSkip)
(sSeq (sIf (eIsC (tabB .int) (eVar 1))
(sAsg (eOp opAddB (eVar 2) (eOp opMulX (eLstM (lCons (eOp opAddB (eVar 1) (eC (.int 1))) (lCons (eOp opSubB (eVar 1) (eC (.int 1))) (lCons (eNegB (eVar 1)) (lCons (eCallB bStrB (lCons (eVar 1) lNil)) (lCons (eOp opEq (eVar 1) (eC (.int 1))) (lCons (eTup (lCons (eVar 1) lNil)) (lCons (eLst (lCons (eVar 1) lNil)) lNil)))))))) (eC (.int 3)))) (bName 2))
sSkip)
(sSeq (sIf (eIsC (tabB .tuple) (eVar 1))
(sAsg (eOp opAddB (eVar 2) (eOp opMulX (eLstM (lCons (eCallB bListX (lCons (eVar 1) lNil)) (lCons (eOp opAddB (eVar 1) (eSliceS (eVar 1) (oSome (eNegB (eC (.int 1)))) oNone)) (lCons (eSliceS (eVar 1) oNone (oSome (eNegB (eC (.int 1))))) (lCons (eSliceS (eVar 1) (oSome (eC (.int 1))) oNone) (lCons (eRev (eVar 1)) (lCons (eTup (lCons (eVar 1) lNil)) (lCons (eOp opAddB (eVar 1) (eTup (lCons (eC .non) lNil))) lNil)))))))) (eC (.int 4)))) (bName 2))
sSkip)
(sRet (eCall d__law_pick (lCons (eVar 0) (lCons (eVar 2) lNil))))))))
def d__law_strange : FD := fnF .pure 3 g__law_strange
def g__law_spoilt_in_t1 : EM :=
(eOp opNe (eVar 3) (eTup lNil))
def g__law_spoilt_in : SM :=
(sSeq (sAsg (eLc (iSeq (eCall d__law_places (lCons (eVar 1) lNil))) (bName 3) g__law_spoilt_in_t1 (eVar 3) [3]) (bName 2))
(sSeq (sAsg (eCall d__law_pick (lCons (eVar 0) (lCons (eVar 2) lNil))) (bName 3))
(sSeq (sIf (eOp opEq (eCall d__law_next (lCons (eVar 0) (lCons (eC (.int 3)) lNil))) (eC (.int 0)))
(sRet (eCall d__law_with (lCons (eVar 1) (lCons (eVar 3) (lCons (eCall d__law_at (lCons (eVar 1) (lCons (eCall d__law_pick (lCons (eVar 0) (lCons (eVar 2) lNil))) lNil))) lNil)))))
sSkip)
(sRet (eCall d__law_with (lCons (eVar 1) (lCons (eVar 3) (lCons (eCall d__law_strange (lCons (eVar 0) (lCons (eCall d__law_at (lCons (eVar 1) (lCons (eVar 3) lNil))) lNil))) lNil))))))))
def d__law_spoilt_in : FD := fnF .keep 4 g__law_spoilt_in
end
end DO
end
section
/-! x == y of two instances of an own class with its own __eq__. -/
namespace L2
open PySem PySem.Spec PyProof.Rows
section
variable {X : Cx}
end
end L2
namespace DL
open PySem L2
variable {G : Glb} {X : Cx} {W : WX}
def opEqO (c : Str) (F : FD) (x y : D) (S : Store) : ER := match insD S x, insD S y with
  | some (c1, _), some (c2, _) => if c1 = c ∧ c2 = c then (match F [x, y] S with
    | .ok (.bl b) S1 => .ok (.bl b) S1
    | _ => .bad) else .bad
  | _, _ => .bad
@[simp] theorem opEqO_is {c : Str} {F : FD} {x y : D} {S : Store} : opEqO c F x y S = match insD S x, insD S y with
  | some (c1, _), some (c2, _) => if c1 = c ∧ c2 = c then (match F [x, y] S with
    | .ok (.bl b) S1 => .ok (.bl b) S1
    | _ => .bad) else .bad
  | _, _ => .bad := rfl
end DL
end
section
/-! x == y of an instance of an own class with its own __eq__, y of any kind. -/
namespace L2
open PySem PySem.Spec PyProof.Rows
section
variable {X : Cx}
def rEqR (K : PySem.W.Frag) (C : Addr) (sp : Sp) : R2 := fun x y H Q => ∃ a dx fs t, x = .ref a ∧ H a = some (.ins C dx fs) ∧ TyZ K H y t ∧ PySem.W.notFirst K C t = true ∧ sp [.ref a, y] H (fun v H' => (∃ c, v = .bl c) ∧ Q v H') (fun _ _ _ => False)
theorem op_eqR {C f : Addr} {fd : FuncData} {ps : List Str} {n : Nat} {sp : Sp} (F : FnG X.prog X.w X.K X.mg X.base (L2.CX X.prog X.w) n f fd ps sp) (gd : X.A.guards = some []) (hr : Room n X.A)
    (hs : PySem.W.findIn X.K (.ref C) "__eq__" = some (some (.ref f))) (hf : PySem.W.isFn X.K (.ref f) = true) (hb : Binds X.K fd ps []) : OpR X (compareOp .Eq) (rEqR X.K C sp) := by
  intro pins s σ H x y v u Q I rx ry h
  obtain ⟨a, dx, fs, t, rfl, ha, ty, nf, hq⟩ := h
  cases rx
  obtain ⟨mA, J, _⟩ := ins_get I.hok ha
  obtain ⟨od, J, _⟩ := J.look
  obtain ⟨P, Z, hp, _⟩ := kit_ofZ I ry ty
  obtain ⟨m, hF⟩ := I.fr
  show wpAny (model X.prog X.w) X.A (richCompare .Eq (.ref a) u) (EP X pins σ Q) X.xe s
  refine PySem.W.cmp_K (op := .Eq) (tb := t) (by have := hr.un; omega) hF I.ok.mod.kin J (Z.ty _ _ I.kIn hp) nf hs hf ?_
  have hx : PassesAt (L2.CX X.prog X.w) X σ (fun _ _ _ => False) := fun pins H s e s' I q => by
    obtain ⟨_, _, _, _, _, _, _, _, _, _, _, _, hE⟩ := q
    exact hE.elim
  refine wpAny_mono (run_fnG (E := fun _ _ _ _ => False) F gd hr hb (us := [.ref a, u]) (vs := [.ref a, y]) hx I (.cons rfl (.cons ry .nil)) hq) (fun r s' q => ?_) fun _ _ x => x
  obtain ⟨z, H', I', rz, ⟨c, rfl⟩, q⟩ := q
  cases rz
  exact ⟨.bl c, H', I', rfl, q⟩
end
end L2
namespace DL
open PySem L2
variable {G : Glb} {X : Cx} {W : WX}
/-- kinds whose own == isn't asked first -/
def okE (c : Str) : TyD → Bool
  | .b _ => true
  | .o c2 => decide (c2 = c)
  | .x _ => false
def opEqR (c : Str) (F : FD) (x y : D) (S : Store) : ER := match insD S x, tyO S y with
  | some (c1, _), some t => if c1 = c ∧ okE c t = true then (match F [x, y] S with
    | .ok (.bl b) S1 => .ok (.bl b) S1
    | _ => .bad) else .bad
  | _, _ => .bad
theorem do_eqR {c : Str} {k : Nat} {F : FD} (d : MethG G X.prog X.w X.mg X.base k c "__eq__" 1 F) (gd : X.A.guards = some []) (hK : X.K = G.K) (hc : ∀ c C, G.ca c = some C → OwnC G.K C) (hr : Room k X.A) : DOp G X (compareOp .Eq) (opEqR c F) := by
  obtain ⟨C, f, fd, ps, hcC, hcl, hme, FO, hb⟩ := d.ex
  rw [← hK] at FO hme hb
  refine ⟨_, op_eqR FO gd hr hme.at_ hme.fn hb, fun W φ S H σ dx dy x y Q s ix iy h => ?_⟩
  unfold opEqR at h
  split at h
  · rename_i c1 k1 t h1 h2
    split at h
    · rename_i hh
      obtain ⟨rfl, ho⟩ := hh
      obtain ⟨a, C1, d1, fs, rfl, g1, hc1, _⟩ := insD_is s ix h1
      rw [hcC] at hc1
      cases hc1
      obtain ⟨tv, cl, ty⟩ := tyO_is hc s iy h2
      have nf : PySem.W.notFirst X.K C tv = true := by
        cases t with
        | b t =>
          cases (show tv = _ from cl)
          cases t <;> rfl
        | o c2 =>
          obtain ⟨C2, e1, e2⟩ := cl
          obtain rfl : c2 = c1 := of_decide_eq_true ho
          rw [hcC] at e1
          cases e1
          subst e2
          show (Value.ref C == Value.ref C || _) = true
          rw [show (Value.ref C == Value.ref C) = true from by simp]
          rfl
        | x c2 => cases ho
      refine ⟨a, d1, fs, tv, rfl, g1, by rw [hK]; exact ty, nf, rfl, φ, S, [dx, dy], s, .cons ix (.cons iy (show IsL G φ H [] [] from rfl)), ?_⟩
      cases hF : F [dx, dy] S with
      | ok e S1 =>
        rw [hF] at h
        cases e with
        | bl v =>
          intro φ' H' w e1 s1 i1
          cases i1
          exact ⟨⟨v, rfl⟩, h φ' H' _ e1 s1 rfl⟩
        | _ => exact h.elim
      | ex x1 S1 => rw [hF] at h; exact h.elim
      | bad => rw [hF] at h; exact h.elim
    · exact h.elim
  · exact h.elim
@[simp] theorem opEqR_is {c : Str} {F : FD} {x y : D} {S : Store} : opEqR c F x y S = match insD S x, tyO S y with
  | some (c1, _), some t => if c1 = c ∧ okE c t = true then (match F [x, y] S with
    | .ok (.bl b) S1 => .ok (.bl b) S1
    | _ => .bad) else .bad
  | _, _ => .bad := rfl
end DL
end
section
namespace DW.K06
open PySem L2 DO 
open DL hiding g__law_places_e1 g__law_places_c1 g__law_places_b1 g__law_places d__law_places g__law_strange d__law_strange
noncomputable section
def g__law_made : SM :=
(sSeq (sAsg (eTup (lCons (eC .non) (lCons (eC .non) lNil))) (bTup (bCons (bName 2) (bCons (bName 3) bNil))))
(sSeq (sTry (fun _ => true) 4
(sIf (eVar 1)
(sAsg (eMakeKN "Race" (fun ds es => ds ++ pk [.inl 0, .inl 1] [.int (1), .str ""] es) d_Race_init (lCons (eOp opIxX (eVar 0) (eC (.int 0))) (lCons (eOp opIxX (eVar 0) (eC (.int 1))) (lCons (eOp opIxX (eVar 0) (eC (.int 2))) (lCons (eOp opIxX (eVar 0) (eC (.int 3))) lNil)))) lNil) (bName 2))
(sAsg (eMakeKN "Race" (fun ds es => ds ++ pk [.inr 1, .inr 0] [] es) d_Race_init (lCons (eOp opIxX (eVar 0) (eC (.int 0))) (lCons (eOp opIxX (eVar 0) (eC (.int 1))) (lCons (eOp opIxX (eVar 0) (eC (.int 2))) (lCons (eOp opIxX (eVar 0) (eC (.int 3))) lNil)))) (lCons (eOp opIxX (eVar 0) (eC (.int 5))) (lCons (eOp opIxX (eVar 0) (eC (.int 4))) lNil))) (bName 2)))
(sAsg (eVar 4) (bName 3)))
(sSeq (sIf (eOp opIsN (eVar 3) (eC .non))
(sRet (eIf (eIsC (tabO "Race") (eVar 2)) (eVar 2) (eC (.str ""))))
sSkip)
(sRet (eIf (eOp opEq (eCall d__law_alone (lCons (eVar 3) lNil)) (eC (.str "NoRace"))) (eC .non) (eC (.str "")))))))
def d__law_made : FD := fnF .pure 5 g__law_made
def g__law_names_right_t1 : EM :=
(eNot (eCall d__law_name_right (lCons (eVar 3) lNil)))
def g__law_names_right : SM :=
(sSeq (sIf (eOr (eNot (eIsC (tabB .tuple) (eVar 0))) (eNot (eChain opLe opLe (eVar 1) (eCallB bLenX (lCons (eVar 0) lNil)) (eVar 2))))
(sRet (eC (.bl false)))
sSkip)
(sRet (eAnd (eOp opEq (eLc (iSeq (eVar 0)) (bName 3) g__law_names_right_t1 (eVar 3) [3]) (eLst lNil)) (eOp opEq (eLenSet (eVar 0)) (eCallB bLenX (lCons (eVar 0) lNil))))))
def d__law_names_right : FD := fnF .pure 4 g__law_names_right
def g__law_race_right : SM :=
(sSeq (sAsg (eVar 0) (bTup (bCons (bName 1) (bCons (bName 2) (bCons (bName 3) (bCons (bName 4) (bCons (bName 5) (bCons (bName 6) bNil))))))))
(sSeq (sIf (eOr (eNot (eCall d__law_name_right (lCons (eVar 1) lNil))) (eOr (eNot (eIsC (tabB .str) (eVar 2))) (eOp opNotIn (eVar 2) (eLst (lCons (eC (.str "one")) (lCons (eC (.str "any")) (lCons (eC (.str "rank")) lNil)))))))
(sRet (eC (.bl false)))
sSkip)
(sSeq (sIf (eOr (eNot (eCall d__law_names_right (lCons (eVar 3) (lCons (eC (.int 2)) (lCons (eC (.int 5)) lNil))))) (eNot (eCall d__law_names_right (lCons (eVar 4) (lCons (eC (.int 1)) (lCons (eC (.int 6)) lNil))))))
(sRet (eC (.bl false)))
sSkip)
(sSeq (sIf (eOr (eNot (eCall d__law_between (lCons (eVar 5) (lCons (eC (.int 1)) (lCons (eCallB bLenX (lCons (eVar 3) lNil)) lNil))))) (eNot (eIsC (tabB .str) (eVar 6))))
(sRet (eC (.bl false)))
sSkip)
(sSeq (sIf (eOp opNe (eVar 2) (eC (.str "rank")))
(sRet (eOp opEq (eVar 6) (eC (.str ""))))
sSkip)
(sRet (eOr (eOp opEq (eVar 6) (eC (.str "share"))) (eAnd (eOp opIn (eVar 6) (eLst (lCons (eC (.str "runoff")) (lCons (eC (.str "pairs")) lNil)))) (eOp opEq (eVar 5) (eC (.int 1)))))))))))
def d__law_race_right : FD := fnF .pure 7 g__law_race_right
def g__law_right_e1 : EM :=
(eCall d__law_spoilt_in (lCons (eVar 2) (lCons (eVar 4) lNil)))
def g__law_right_b1 : SM :=
(sSeq (sAsg (eAnd (eCall d__law_like (lCons (eCallB bListX (lCons (eSlice (eVar 7) (oSome (eC (.int 4))) oNone) lNil)) (lCons (eLst (lCons (eC (.int 1)) (lCons (eC (.str "")) lNil))) lNil))) (eOp opEq (eCall d__law_next (lCons (eVar 2) (lCons (eC (.int 2)) lNil))) (eC (.int 0)))) (bName 8))
(sSeq (sAsg (eCall d__law_made (lCons (eVar 7) (lCons (eVar 8) lNil))) (bName 9))
(sIf (eNot (eCall d__law_race_right (lCons (eVar 7) lNil)))
(sIf (eOp opNotN (eVar 9) (eC .non))
(sRet (eC (.bl false)))
sSkip)
(sIf (eNot (eIsC (tabO "Race") (eVar 9)))
(sRet (eC (.bl false)))
(sSeq (sAsg (eLst (lCons (eFldC ["Place", "Race"] "name" (eVar 9)) (lCons (eFldC ["Race"] "kind" (eVar 9)) (lCons (eFldC ["Race"] "choices" (eVar 9)) (lCons (eFldC ["Race"] "districts" (eVar 9)) (lCons (eFldC ["Race"] "seats" (eVar 9)) (lCons (eFldC ["Race"] "by" (eVar 9)) lNil))))))) (bName 10))
(sSeq (sAsg (eLst (lCons (eOp (opEqR "Race" d_Race_eq) (eVar 9) (eVar 5)) (lCons (eOp (opEqR "Race" d_Race_eq) (eVar 5) (eVar 9)) (lCons (eOp (opEqR "Race" d_Race_eq) (eVar 9) (eVar 7)) lNil)))) (bName 11))
(sIf (eNot (eCall d__law_like (lCons (eLst (lCons (eVar 10) (lCons (eVar 11) lNil))) (lCons (eLst (lCons (eCallB bListX (lCons (eVar 7) lNil)) (lCons (eLst (lCons (eOp opEq (eVar 7) (eVar 4)) (lCons (eOp opEq (eVar 7) (eVar 4)) (lCons (eC (.bl false)) lNil)))) lNil))) lNil))))
(sRet (eC (.bl false)))
sSkip)))))))
def g__law_right : SM :=
(sSeq (sAsg (eCall d__law_begun (lCons (eVar 0) (lCons (eVar 1) lNil))) (bName 2))
(sSeq (sAsg (eCall d__law_names (lCons (eVar 2) (lCons (eC (.int 14)) lNil))) (bName 3))
(sSeq (sAsg (eCall d__law_race_parts (lCons (eVar 2) (lCons (eSlice (eVar 3) oNone (oSome (eC (.int 6)))) (lCons (eSlice (eVar 3) (oSome (eC (.int 6))) (oSome (eOp opAdd (eC (.int 7)) (eCall d__law_next (lCons (eVar 2) (lCons (eC (.int 5)) lNil)))))) lNil)))) (bName 4))
(sSeq (sAsg (eCall d__law_race (lCons (eVar 4) lNil)) (bName 5))
(sSeq (sAsg (eOp opAddM (eLst (lCons (eVar 4) lNil)) (eLc (iRange1 (lCons (eC (.int 4)) lNil)) (bName 12) eYes g__law_right_e1 [12])) (bName 6))
(sSeq (sPutX (eVar 6) (eC (.int 4)) (eCall d__law_spoilt_in (lCons (eVar 2) (lCons (eOp opIxX (eVar 6) (eC (.int 4))) lNil))))
(sSeq (sDrop (eMeth "list" mAppend (eVar 6) (lCons (eOp opAdd (eOp opAdd (eSlice (eVar 4) oNone (oSome (eC (.int 3)))) (eTup (lCons (eCallB bTuple (lCons (eSlice (eVar 3) (oSome (eC (.int 6))) (oSome (eOp opAdd (eC (.int 12)) (eCall d__law_next (lCons (eVar 2) (lCons (eC (.int 2)) lNil)))))) lNil)) lNil))) (eSlice (eVar 4) (oSome (eC (.int 4))) oNone)) lNil)))
(sSeq (sDrop (eMeth "list" mAppend (eVar 6) (lCons (eOp opAdd (eOp opAdd (eSlice (eVar 4) oNone (oSome (eC (.int 2)))) (eTup (lCons (eCallB bTuple (lCons (eSlice (eVar 3) oNone (oSome (eOp opAdd (eC (.int 5)) (eCall d__law_next (lCons (eVar 2) (lCons (eC (.int 2)) lNil)))))) lNil)) lNil))) (eSlice (eVar 4) (oSome (eC (.int 3))) oNone)) lNil)))
(sSeq (sForX (eVar 6) (bName 7) g__law_right_b1)
(sRet (eC (.bl true))))))))))))
def d__law_right : FD := fnF .pure 13 g__law_right
def g_law_b1 : SM :=
(sIf (eNot (eCall d__law_right (lCons (eVar 2) (lCons (eVar 1) lNil))))
(sRet (eC (.bl false)))
sSkip)
def g_law : SM :=
(sSeq (sFor (iEnumX (lCons (eSlice (eOp opAdd (eVar 0) (eLst (lCons (eC (.int 3)) lNil))) oNone (oSome (eCallB (bII maxII) (lCons (eC (.int 1)) (lCons (eCallB (bII minII) (lCons (eC (.int 16)) (lCons (eCallB bLenX (lCons (eVar 0) lNil)) lNil))) lNil))))) lNil)) (bTup (bCons (bName 1) (bCons (bName 2) bNil))) g_law_b1)
(sRet (eC (.bl true))))
def d_law : FD := fnF .pure 3 g_law
end
end DW.K06
end
section
/-! list(zip(a, b)), lists and tuples in any mixture: each pair that was drawn stays in the list. -/
namespace PySem
end PySem
namespace DL
open PySem PySem.Spec PyProof.Rows L2
section
variable {prog : Program} {w : World} {A : Around} {E : Value → Shared → Prop} {s : Shared} {z TI TO i1 i2 : Addr} {fp1 fp2 : List Addr} {n1 n2 i : Nat} {P1 P2 : Nat → Value → Prop} {St1 St2 : Nat → Heap → Prop} {T : Addr} {f : Bool} {oT : Obj}
end
section
variable {prog : Program} {w : World} {A : Around} {E : Value → Shared → Prop} {s : Shared} {z TI TO i1 i2 L : Addr} {fp1 fp2 : List Addr} {n1 n2 : Nat} {P1 P2 : Nat → Value → Prop} {St1 St2 : Nat → Heap → Prop}
/-- a zip that drew i times -/
structure ZAt (z TI TO i1 i2 L : Addr) (St1 St2 : Nat → Heap → Prop) (i : Nat) (h : Heap) : Prop where
  ti : IsTupOf2 h TI (.ref i1) (.ref i2)
  a : St1 i h
  b : St2 i h
  at_ : (IsZip h z TI TO .none ∧ ∃ x y, IsTupOf2 h TO x y) ∨ ∃ T f oT, IsZipHeld h z TI TO T f ∧ h.get? T = some oT ∧ L < T
/-- where it lies -/
structure ZLow (z TI TO i1 i2 L : Addr) (fp1 fp2 : List Addr) : Prop where
  z : z < L
  ti : TI < L
  to : TO < L
  f1 : ∀ b ∈ fp1, b < L
  f2 : ∀ b ∈ fp2, b < L
/-- the pairs as they lie -/
structure Prs (P1 P2 : Nat → Value → Prop) (L : Addr) (h : Heap) (as : List Addr) : Prop where
  rise : as.Pairwise (· < ·)
  above : ∀ a ∈ as, L < a
  at_ : ∀ j b, as[j]? = some b → ∃ x1 x2, P1 j x1 ∧ P2 j x2 ∧ IsTupOf2 h b x1 x2
theorem Prs.there {h : Heap} {as : List Addr} (p : Prs P1 P2 L h as) {a : Addr} (ha : a ∈ as) : a < h.objs.size := by
  obtain ⟨j, hj⟩ := List.getElem?_of_mem ha
  obtain ⟨_, _, _, _, e⟩ := p.at_ j a hj
  exact Heap.lt_size e
theorem ZAt.keep {i : Nat} {h h' : Heap} (D1 : ∀ i h h', St1 i h → (∀ b ∈ fp1, ∀ o, h.get? b = some o → h'.get? b = some o) → St1 i h') (D2 : ∀ i h h', St2 i h → (∀ b ∈ fp2, ∀ o, h.get? b = some o → h'.get? b = some o) → St2 i h') (lo : ZLow z TI TO i1 i2 L fp1 fp2)
    (q : ZAt z TI TO i1 i2 L St1 St2 i h) (k : ∀ b o, b ≠ L → h.get? b = some o → h'.get? b = some o) : ZAt z TI TO i1 i2 L St1 St2 i h' := by
  refine ⟨k _ _ (Nat.ne_of_lt lo.ti) q.ti, D1 _ _ _ q.a fun b hb o => k b o (Nat.ne_of_lt (lo.f1 b hb)), D2 _ _ _ q.b fun b hb o => k b o (Nat.ne_of_lt (lo.f2 b hb)), ?_⟩
  rcases q.at_ with ⟨e1, x, y, e2⟩ | ⟨T, f, oT, e1, e2, e3⟩
  · exact .inl ⟨k _ _ (Nat.ne_of_lt lo.z) e1, x, y, k _ _ (Nat.ne_of_lt lo.to) e2⟩
  · exact .inr ⟨T, f, oT, k _ _ (Nat.ne_of_lt lo.z) e1, k _ _ (Nat.ne_of_gt e3) e2, e3⟩
end
theorem HasG.kept {t : Bool} {h h' : Heap} {a : Addr} {its : Array Value} (p : HasG t h a its) (k : ∀ b o, h.get? b = some o → h'.get? b = some o) : HasG t h' a its := by
  cases t with
  | false => obtain ⟨o, e, r⟩ := p; exact ⟨o, k a o e, r⟩
  | true => obtain ⟨o, e, r⟩ := p; exact ⟨o, k a o e, r⟩
/-! ### what is tracked -/
section
variable {X : Cx} {pins : List (Addr × Obj)} {σ : L2.St} {H : Hp} {s : Shared}
end
variable {G : Glb} {X : Cx} {W : WX}
end DL
end
section
/-! repr of texts, None, tuples, dicts. -/
namespace L2
open PySem PySem.Spec PyProof.Rows
section
variable {X : Cx}
end
end L2
namespace DL
open PySem L2
variable {G : Glb} {X : Cx} {W : WX}
end DL
end
section
/-! == of dicts of whole numbers that hold the same, keys in any order. -/
namespace L2
open PySem PySem.Spec PyProof.Rows
section
variable {X : Cx} {pins : List (Addr × Obj)} {σ : St} {H : Hp} {s : Shared}
end
end L2
namespace DL
open PySem L2
variable {G : Glb} {X : Cx} {W : WX}
end DL
end
section
/-! == of two tuples that hold the same, dicts of whole numbers among them, keys in any order. -/
namespace PySem.SeqAt
open AutoSeq1 (wpAny_loadPart')
section
variable {prog : Program} {w : World}
end
end PySem.SeqAt
namespace L2
open PySem PySem.Spec PyProof.Rows
section
variable {X : Cx} {pins : List (Addr × Obj)} {σ : St} {H : Hp} {s : Shared}
end
end L2
namespace DL
open PySem L2
variable {G : Glb} {X : Cx} {W : WX}
end DL
end
section
/-! sorted of a dict of texts; methods called with keywords. -/
namespace L2
open PySem PySem.Spec PyProof.Rows
section
variable {X : Cx} {CX : CXT} {k n : Nat} {m : Str} {ks : List Str} {E : St → XK} {pos apos : Pos} {e o : Expr} {es : List Expr} {kws : List Keyword} {ta : TE} {t tk : TA} {Ok : Addr → Addr → Sp → Prop} {g : List Value → List Value → List Value} {gV : List V → List V → List V}
end
end L2
namespace DL
open PySem L2
variable {G : Glb} {X : Cx} {W : WX}
/-- a method called with n values (self counted) and keywords ks: l parameters -/
structure MethKN (G : Glb) (P : Program) (w : World) (mg : Str → Option Value) (base : Heap) (k : Nat) (c m : Str) (n : Nat) (ks : List Str) (l : Nat) (gD : List D → List D → List D) (F : FD) : Prop where
  ex : ∃ C f fd ps g gV, G.ca c = some C ∧ Cls G.K C ∧ Meth G.K C m f ∧ FnG P w G.K mg base (L2.CX P w) k f fd ps (spD G l F) ∧ KBn G.K fd ps n ks g gV ∧
    ∀ {φ : Fi} {H : Hp} {ds es : List D} {vs zs : List V}, ds.length = n → es.length = ks.length → IsL G φ H ds vs → IsL G φ H es zs → IsL G φ H (gD ds es) (gV vs zs) ∧ (gD ds es).length = l
def eMethKN (c m : Str) (gD : List D → List D → List D) (F : FD) (o : EM) (f fk : LM) : EM := fun env S => (o env S).bind fun x S => match insD S x with
  | some (c', ks) => if c' = c ∧ m ∉ ks then (f env S).bindE fun ds S0 => (fk env S0).bindE fun es S1 => F (gD (x :: ds) es) S1 else .bad
  | none => .bad
end DL
namespace DL
open PySem L2 PyProof.Rows
end DL
end
section
/-! a, b, *c = a tuple. -/
namespace L2
open PySem PySem.Spec PySem.Calls PyProof.Rows PySem.W
section
variable {prog : Program} {w : World} {A : Around} {E : Value → Shared → Prop} {s : Shared}
end
section
variable {X : Cx} {pos : Pos}
end
end L2
namespace DL
open PySem L2
variable {G : Glb} {X : Cx} {W : WX}
def sStar2 (i j l : Nat) (f : EM) : SM := fun e S => (f e S).bindS e fun d S => match tupD d with
  | some (x :: y :: r) => .nx (((e.set i (some x)).set j (some y)).set l (some (.lst r))) S
  | _ => .bad
@[simp] theorem sStar2_is {i j l : Nat} {f : EM} {env : EnvD} {S : Store} : sStar2 i j l f env S = (f env S).bindS env fun d S => match tupD d with
  | some (x :: y :: r) => .nx (((env.set i (some x)).set j (some y)).set l (some (.lst r))) S
  | _ => .bad := rfl
end DL
end
section
/-! dict(pairs), the pairs in a list's cell. -/
namespace DL
open PySem L2
variable {G : Glb} {X : Cx} {W : WX}
end DL
end
section
namespace DY
open PySem L2 DL
noncomputable section
def g_Person_init : SM :=
(sSeq (sFldC ["Person"] "born" (eVar 0) (eVar 1))
(sSeq (sFldC ["Person"] "home" (eVar 0) (eVar 2))
(sSeq (sFldC ["Person"] "since" (eVar 0) (eVar 3))
(sFldC ["Person"] "struck" (eVar 0) (eC (.bl false))))))
def d_Person_init : FD := fnF .keep 4 g_Person_init
def g_Person_go_to : SM :=
(sSeq (sFldC ["Person"] "home" (eVar 0) (eVar 1))
(sFldC ["Person"] "since" (eVar 0) (eVar 2)))
def d_Person_go_to : FD := fnF .keep 3 g_Person_go_to
def g_done_on : SM :=
(sSeq (sStar2 2 3 4 (eVar 1))
(sIf (eOp opEq (eVar 2) (eC (.str "enter")))
(sSeq (sAsg (eVar 4) (bTupX (bCons (bName 5) (bCons (bName 6) (bCons (bName 7) bNil)))))
(sPutX (eVar 0) (eVar 3) (eMake "Person" d_Person_init (lCons (eVar 5) (lCons (eVar 6) (lCons (eVar 7) lNil))))))
(sIf (eOp opEq (eVar 2) (eC (.str "move")))
(sDrop (eMethO "Person" "go_to" d_Person_go_to (eOp opIxX (eVar 0) (eVar 3)) (lCons (eOp opIxX (eVar 4) (eC (.int 0))) (lCons (eOp opIxX (eVar 4) (eC (.int 1))) lNil))))
(sFldC ["Person"] "struck" (eOp opIxX (eVar 0) (eVar 3)) (eOp opEq (eVar 2) (eC (.str "strike")))))))
def d_done_on : FD := fnF .keep 8 g_done_on
def g__law_names_e1 : EM :=
(eOp opAdd (eOp opIxX (eVar 3) (eOp opMod (eOp opAdd (eVar 4) (eOp opMul (eC (.int 5)) (eVar 7))) (eC (.int 26)))) (eOp opIxX (eVar 6) (eOp opMod (eOp opAdd (eVar 5) (eOp opMul (eVar 7) (eVar 7))) (eC (.int 6)))))
def g__law_names : SM :=
(sSeq (sAsg (eC (.str "place letter doubt one any rank runoff pairs share each odd admit refuse counts doubled out enter move")) (bName 2))
(sSeq (sAsg (eMeth "str" mSplit (eOp opAdd (eVar 2) (eC (.str " strike restore vote roll uses none spoilt blank"))) (lCons (eC (.str " ")) lNil)) (bName 2))
(sSeq (sAsg (eC (.str "abcdefghijklmnopqrstuvwxyz")) (bName 3))
(sSeq (sAsg (eTup (lCons (eCall d__law_next (lCons (eVar 0) (lCons (eC (.int 26)) lNil))) (lCons (eCall d__law_next (lCons (eVar 0) (lCons (eC (.int 6)) lNil))) lNil))) (bTup (bCons (bName 4) (bCons (bName 5) bNil))))
(sSeq (sIf (eOp opEq (eCall d__law_next (lCons (eVar 0) (lCons (eC (.int 4)) lNil))) (eC (.int 0)))
(sRet (eSlice (eOp opAdd (eSlice (eVar 2) (oSome (eVar 4)) oNone) (eSlice (eVar 2) oNone (oSome (eVar 4)))) oNone (oSome (eVar 1))))
sSkip)
(sSeq (sAsg (eLst (lCons (eC (.str "")) (lCons (eC (.str "x")) (lCons (eC (.str "qx")) (lCons (eC (.str "qxqqx")) (lCons (eC (.str "qxqxqxq")) (lCons (eC (.str "xxqxqxq")) lNil))))))) (bName 6))
(sRet (eLc (iRange1 (lCons (eVar 1) lNil)) (bName 7) eYes g__law_names_e1 [7]))))))))
def d__law_names : FD := fnF .keep 8 g__law_names
def g__law_strange : SM :=
(sSeq (sAsg (eLst (lCons (eC .non) (lCons (eC (.bl true)) (lCons (eC (.bl false)) (lCons (eC (.int 0)) (lCons (eNeg (eC (.int 1))) (lCons (eC (.int 1)) (lCons (eC (.int 2)) (lCons (eC (.int 5)) (lCons (eC (.int 6)) (lCons (eC (.int 1000000)) (lCons (eC (.int 1000001)) (lCons (eC (.str "")) (lCons (eC (.str "a")) (lCons (eC (.str "abcdefghi")) (lCons (eC (.str "A")) (lCons (eC (.str "x1")) (lCons (eC (.str "?")) (lCons (eTup lNil) lNil))))))))))))))))))) (bName 2))
(sSeq (sIf (eIsC (tabB .str) (eVar 1))
(sAsg (eOp opAdd (eVar 2) (eOp opMulX (eLstM (lCons (eOp opAdd (eVar 1) (eC (.str "x"))) (lCons (eSlice (eVar 1) oNone (oSome (eNeg (eC (.int 1))))) (lCons eNev (lCons (eTup (lCons (eVar 1) lNil)) (lCons (eLst (lCons (eVar 1) lNil)) (lCons (eOp opAdd (eVar 1) (eC (.str " "))) lNil))))))) (eC (.int 3)))) (bName 2))
sSkip)
(sSeq (sIf (eIsC (tabB .int) (eVar 1))
(sAsg (eOp opAdd (eVar 2) (eOp opMulX (eLstM (lCons (eOp opAdd (eVar 1) (eC (.int 1))) (lCons (eOp opSub (eVar 1) (eC (.int 1))) (lCons (eNeg (eVar 1)) (lCons eNev (lCons (eOp opEq (eVar 1) (eC (.int 1))) (lCons (eTup (lCons (eVar 1) lNil)) (lCons (eLst (lCons (eVar 1) lNil)) lNil)))))))) (eC (.int 3)))) (bName 2))
sSkip)
(sSeq (sIf (eIsC (tabB .tuple) (eVar 1))
(sAsg (eOp opAdd (eVar 2) (eOp opMulX (eLstM (lCons (eCallB bListX (lCons (eVar 1) lNil)) (lCons (eOp opAdd (eVar 1) (eSlice (eVar 1) (oSome (eNeg (eC (.int 1)))) oNone)) (lCons (eSlice (eVar 1) oNone (oSome (eNeg (eC (.int 1))))) (lCons (eSlice (eVar 1) (oSome (eC (.int 1))) oNone) (lCons (eRev (eVar 1)) (lCons (eTup (lCons (eVar 1) lNil)) (lCons (eOp opAdd (eVar 1) (eTup (lCons (eC .non) lNil))) lNil)))))))) (eC (.int 4)))) (bName 2))
sSkip)
(sRet (eCall d__law_pick (lCons (eVar 0) (lCons (eVar 2) lNil))))))))
def d__law_strange : FD := fnF .keep 3 g__law_strange
end
end DY
end
section
namespace DR
open PySem L2 DL
noncomputable section
def g_Race_init : SM :=
(sSeq (sIf (eOr (eNot (eCall d_are_unlike_names (lCons (eTup (lCons (eVar 1) lNil)) (lCons (eC (.int 1)) (lCons (eC (.int 1)) lNil))))) (eNot (eCall d_is_one_of (lCons (eVar 2) (lCons (eC (.tup [.str "one", .str "any", .str "rank"])) lNil)))))
(sRaise "NoRace")
sSkip)
(sSeq (sIf (eOr (eNot (eCall d_are_unlike_names (lCons (eVar 3) (lCons (eC (.int 2)) (lCons (eC (.int 5)) lNil))))) (eNot (eCall d_are_unlike_names (lCons (eVar 4) (lCons (eC (.int 1)) (lCons (eC (.int 6)) lNil))))))
(sRaise "NoRace")
sSkip)
(sSeq (sIf (eOr (eNot (eCall d_is_between (lCons (eVar 5) (lCons (eC (.int 1)) (lCons (eCallB bLenX (lCons (eVar 3) lNil)) lNil))))) (eNot (eCall d_is_way (lCons (eVar 2) (lCons (eVar 6) (lCons (eVar 5) lNil))))))
(sRaise "NoRace")
sSkip)
(sSeq (sFldC ["Place", "Race"] "name" (eVar 0) (eVar 1))
(sSeq (sFldC ["Race"] "kind" (eVar 0) (eVar 2))
(sSeq (sFldC ["Race"] "choices" (eVar 0) (eVar 3))
(sSeq (sFldC ["Race"] "districts" (eVar 0) (eVar 4))
(sSeq (sFldC ["Race"] "seats" (eVar 0) (eVar 5))
(sFldC ["Race"] "by" (eVar 0) (eVar 6))))))))))
def d_Race_init : FD := fnF .pure 7 g_Race_init
def g__law_names_b1 : SM :=
(sDrop (eMeth "list" mAppend (eVar 7) (lCons (eOp opAdd (eOp opIxX (eVar 3) (eOp opMod (eOp opAdd (eVar 4) (eOp opMul (eC (.int 5)) (eVar 8))) (eC (.int 26)))) (eOp opIxX (eVar 6) (eOp opMod (eOp opAdd (eVar 5) (eOp opMul (eVar 8) (eVar 8))) (eC (.int 6))))) lNil)))
def g__law_names_e1 : EM :=
(eOp opAdd (eVar 9) (eC (.str "yyy")))
def g__law_names : SM :=
(sSeq (sAsg (eMeth "str" mSplit (eC (.str "one any rank runoff pairs in out place letter doubt counts doubled admit")) (lCons (eC (.str " ")) lNil)) (bName 2))
(sSeq (sAsg (eOp opAdd (eVar 2) (eMeth "str" mSplit (eC (.str "refuse again stands counted vote roll uses mixed late result use close")) (lCons (eC (.str " ")) lNil))) (bName 2))
(sSeq (sAsg (eOp opAdd (eVar 2) (eLst (lCons (eC (.str "each")) (lCons (eC (.str "odd")) (lCons (eC (.str "spoilt")) (lCons (eC (.str "good")) (lCons (eC (.str "blank")) lNil))))))) (bName 2))
(sSeq (sAsg (eC (.str "abcdefghijklmnopqrstuvwxyz")) (bName 3))
(sSeq (sPar 4 5 (lCons (eCall d__law_next (lCons (eVar 0) (lCons (eC (.int 26)) lNil))) (lCons (eCall d__law_next (lCons (eVar 0) (lCons (eC (.int 6)) lNil))) lNil)))
(sSeq (sIf (eOp opEq (eCall d__law_next (lCons (eVar 0) (lCons (eC (.int 4)) lNil))) (eC (.int 0)))
(sRet (eSlice (eOp opAdd (eSlice (eVar 2) (oSome (eVar 4)) oNone) (eSlice (eVar 2) oNone (oSome (eVar 4)))) oNone (oSome (eVar 1))))
sSkip)
(sSeq (sAsg (eLst (lCons (eC (.str "x")) (lCons (eC (.str "")) (lCons (eC (.str "qxqxqxq")) (lCons (eC (.str "xx")) (lCons (eC (.str "qxqxq")) (lCons (eC (.str "zq")) lNil))))))) (bName 6))
(sSeq (sAsg (eLstM lNil) (bName 7))
(sSeq (sFor (iRange1 (lCons (eC (.int 26)) lNil)) (bName 8) g__law_names_b1)
(sRet (eSlice (eOp opAdd (eVar 7) (eLc (iSeq (eVar 3)) (bName 9) eYes g__law_names_e1 [9])) oNone (oSome (eVar 1)))))))))))))
def d__law_names : FD := fnF .pure 10 g__law_names
def g__law_race : SM :=
(sRet (eMakeKN "Race" (fun ds es => ds ++ pk [.inr 0, .inr 1] [] es) d_Race_init (lCons (eOp opIxX (eVar 0) (eC (.int 0))) (lCons (eOp opIxX (eVar 0) (eC (.int 1))) (lCons (eOp opIxX (eVar 0) (eC (.int 2))) (lCons (eTup (lCons (eC (.str "here")) lNil)) lNil)))) (lCons (eOp opIxX (eVar 0) (eC (.int 3))) (lCons (eOp opIxX (eVar 0) (eC (.int 4))) lNil))))
def d__law_race : FD := fnF .pure 1 g__law_race
end
end DR
end
section
/-! The laws' draws. -/
namespace DL
open PySem L2
/-- a row of draws of which at most m were drawn -/
structure Drw (c : Cell) (m : Nat) : Prop where
  ex : ∃ a s k : Int, c = .lst [.int a, .int s, .int k] ∧ 0 ≤ a ∧ 0 ≤ s ∧ s < 2147483648 ∧ 0 ≤ k ∧ k ≤ m
theorem Drw.mono {c : Cell} {m n : Nat} (d : Drw c m) (h : m ≤ n) : Drw c n := by
  obtain ⟨a, s, k, e, h1, h2, h3, h4, h5⟩ := d.ex
  exact ⟨a, s, k, e, h1, h2, h3, h4, by omega⟩
theorem next_ok {S : Store} {l : Nat} {c : Cell} {m : Nat} {n : Int} (hc : cel S l = some c) (d : Drw c m) (hm : m ≤ 100000) (hn : 0 < n) (hn2 : n < 1073741824) :
    ∃ x c', d__law_next [.loc l, .int n] S = .ok (.int x) (S.set l c') ∧ 0 ≤ x ∧ x < n ∧ Drw c' (m + 1) := by
  obtain ⟨a, s, k, rfl, ha, hs, hs2, hk, hk2⟩ := d.ex
  by_cases h0 : 0 < a
  · refine ⟨a % n, .lst [.int (a / n), .int s, .int k], ?_, Int.emod_nonneg _ (by omega), Int.emod_lt_of_pos _ hn, ⟨_, _, _, rfl, Int.ediv_nonneg ha (by omega), hs, hs2, hk, by omega⟩⟩
    simp [d__law_next, g__law_next, hc, h0, hn, hn2]
  · have e1 : (s * (2 * (k + 1) + 1) + 7919 * (k + 1) * (k + 1) + 11).natAbs < 2 ^ 64 := by
      have h1 : s * (2 * (k + 1) + 1) ≤ 2147483648 * (2 * (k + 1) + 1) := Int.mul_le_mul_of_nonneg_right (by omega) (by omega)
      have h2 : 0 ≤ s * (2 * (k + 1) + 1) := Int.mul_nonneg hs (by omega)
      have h3 : 7919 * (k + 1) * (k + 1) ≤ 7919 * 100001 * (k + 1) := Int.mul_le_mul_of_nonneg_right (by omega) (by omega)
      have h4 : 0 ≤ 7919 * (k + 1) * (k + 1) := Int.mul_nonneg (by omega) (by omega)
      omega
    refine ⟨((s * (2 * (k + 1) + 1) + 7919 * (k + 1) * (k + 1) + 11) ^ 5 % 2147483647) / 11 % n, .lst [.int a, .int s, .int (k + 1)], ?_, Int.emod_nonneg _ (by omega), Int.emod_lt_of_pos _ hn, ⟨_, _, _, rfl, ha, hs, hs2, by omega, by omega⟩⟩
    have m1 : s.natAbs < 18446744073709551616 := by omega
    have m2 : (k + 1).natAbs < 18446744073709551616 := by omega
    simp [d__law_next, g__law_next, hc, h0, hn, hn2, m1, m2, e1]
theorem begun_ok {S : Store} {a k : Int} (hk : 0 ≤ k) (hk2 : k ≤ 100000) : ∃ c, d__law_begun [.int a, .int k] S = .ok (.loc S.length) (S ++ [c]) ∧ Drw c 0 := by
  have h1 : 0 ≤ a % 2147483647 := Int.emod_nonneg _ (by omega)
  have h2 : a % 2147483647 < 2147483647 := Int.emod_lt_of_pos _ (by omega)
  have e1 : (a % 2147483647 * 48271 + 104729 * k + 7).natAbs < 2 ^ 64 := by omega
  have m1 : (a % 2147483647).natAbs < 18446744073709551616 := by omega
  have h3 : 0 ≤ (a % 2147483647 * 48271 + 104729 * k + 7) ^ 3 % 2147483629 := Int.emod_nonneg _ (by omega)
  have h4 : (a % 2147483647 * 48271 + 104729 * k + 7) ^ 3 % 2147483629 < 2147483629 := Int.emod_lt_of_pos _ (by omega)
  by_cases h : 1000000000000000000 ≤ a
  · refine ⟨.lst [.int (a - 1000000000000000000), .int (1 + (a % 2147483647 * 48271 + 104729 * k + 7) ^ 3 % 2147483629), .int 0], ?_, ⟨_, _, _, rfl, by omega, by omega, by omega, by omega, by omega⟩⟩
    simp [d__law_begun, g__law_begun, h, e1]
  · refine ⟨.lst [.int 0, .int (1 + (a % 2147483647 * 48271 + 104729 * k + 7) ^ 3 % 2147483629), .int 0], ?_, ⟨_, _, _, rfl, by omega, by omega, by omega, by omega, by omega⟩⟩
    simp [d__law_begun, g__law_begun, h, e1]
theorem atI_mem {α : Type} {ds : List α} {i : Int} (h0 : 0 ≤ i) (h1 : i < ds.length) : ∃ d ∈ ds, atI ds i = some d := by
  obtain ⟨j, rfl⟩ := Int.eq_ofNat_of_zero_le h0
  have hj : j < ds.length := by omega
  exact ⟨ds[j], List.getElem_mem hj, atI_nat (List.getElem?_eq_getElem hj)⟩
theorem pick_ok {S : Store} {l : Nat} {c : Cell} {m : Nat} {ds : List D} (hc : cel S l = some c) (d : Drw c m) (hm : m ≤ 100000) (hn : ds ≠ []) (hn2 : ds.length < 1073741824) :
    ∃ x ∈ ds, ∃ c', d__law_pick [.loc l, .lst ds] S = .ok x (S.set l c') ∧ Drw c' (m + 1) := by
  have hp : 0 < ds.length := List.length_pos_iff.mpr hn
  obtain ⟨i, c', e, h0, h1, d'⟩ := next_ok (n := ds.length) hc d hm (by omega) (by omega)
  obtain ⟨x, hx, e2⟩ := atI_mem h0 h1
  refine ⟨x, hx, c', ?_, d'⟩
  simp [d__law_pick, g__law_pick, e, e2]
end DL
namespace DL
open PySem L2
/-! the same where the draws' cell stands alone -/
theorem next1 {c : Cell} {m : Nat} (n : Int) (d : Drw c m) (hm : m ≤ 100000) (hn : 0 < n) (hn2 : n < 1073741824) :
    ∃ x c', d__law_next [.loc 0, .int n] [c] = .ok (.int x) [c'] ∧ 0 ≤ x ∧ x < n ∧ Drw c' (m + 1) := next_ok (S := [c]) (l := 0) rfl d hm hn hn2
theorem begun1 (a : Int) {k : Int} (hk : 0 ≤ k) (hk2 : k ≤ 100000) : ∃ c, d__law_begun [.int a, .int k] [] = .ok (.loc 0) [c] ∧ Drw c 0 := begun_ok (S := []) hk hk2
theorem pick1 {c : Cell} {m : Nat} (ds : List D) (d : Drw c m) (hm : m ≤ 100000) (hn : ds ≠ []) (hn2 : ds.length < 1073741824) :
    ∃ x ∈ ds, ∃ c', d__law_pick [.loc 0, .lst ds] [c] = .ok x [c'] ∧ Drw c' (m + 1) := pick_ok (S := [c]) (l := 0) rfl d hm hn hn2
end DL
end
section
/-! Shares in lowest terms: the program's own lowest and the laws'. -/
namespace DL
open PySem L2
@[simp] theorem sWhile_is {c : EM} {b : SM} {e : EnvD} {S : Store} : sWhile c b e S = whileD c b bigN e S := rfl
theorem whileD_succ {c : EM} {b : SM} {n : Nat} {e : EnvD} {S : Store} : whileD c b (n + 1) e S = match c e S with
    | .ok (.bl true) S1 => match b e S1 with
      | .nx e2 S2 => whileD c b n e2 S2
      | .ct e2 S2 => whileD c b n e2 S2
      | .bk e2 S2 => .nx e2 S2
      | .rt d S2 => .rt d S2
      | .ex x e2 S2 => .ex x e2 S2
      | .bad => .bad
    | .ok (.bl false) S1 => .nx e S1
    | .ex x S1 => .ex x e S1
    | _ => .bad := rfl
/-- the share x / y in lowest terms -/
def lowD (x y : Nat) : D := .tup [.int ((x / Nat.gcd x y : Nat) : Int), .int ((y / Nat.gcd x y : Nat) : Int)]
/-- n / d is x / y in lowest terms -/
structure IsLow (n d x y : Nat) : Prop where
  eq : n * y = x * d
  cop : Nat.gcd n d = 1
  pos : 0 < d
theorem isLow_of {x y : Nat} (hy : 0 < y) : IsLow (x / Nat.gcd x y) (y / Nat.gcd x y) x y := by
  have g0 : 0 < Nat.gcd x y := Nat.gcd_pos_of_pos_right _ hy
  refine ⟨?_, Nat.gcd_div_gcd_div_gcd_of_pos_right hy, Nat.div_pos (Nat.gcd_le_right _ hy) g0⟩
  have h1 := Nat.div_mul_cancel (Nat.gcd_dvd_left x y)
  have h2 := Nat.div_mul_cancel (Nat.gcd_dvd_right x y)
  generalize Nat.gcd x y = g at *
  generalize x / g = a at *
  generalize y / g = b at *
  rw [← h1, ← h2, Nat.mul_assoc, Nat.mul_comm b g]
theorem IsLow.unique {n d n' d' x y : Nat} (h : IsLow n d x y) (h' : IsLow n' d' x y) (hy : 0 < y) : n = n' ∧ d = d' := by
  have e : n * d' = n' * d := by
    have h1 := h.eq
    have h2 := h'.eq
    have : (n * d') * y = (n' * d) * y := by
      calc (n * d') * y = (n * y) * d' := by rw [Nat.mul_assoc, Nat.mul_comm d' y, ← Nat.mul_assoc]
        _ = (x * d) * d' := by rw [h1]
        _ = (x * d') * d := by rw [Nat.mul_assoc, Nat.mul_comm d d', ← Nat.mul_assoc]
        _ = (n' * y) * d := by rw [h2]
        _ = (n' * d) * y := by rw [Nat.mul_assoc, Nat.mul_comm y d, ← Nat.mul_assoc]
    exact Nat.eq_of_mul_eq_mul_right hy this
  have d1 : d ∣ d' := by
    have : d ∣ n * d' := by rw [e]; exact Nat.dvd_mul_left _ _
    exact Nat.Coprime.dvd_of_dvd_mul_left (show Nat.Coprime d n by rw [Nat.Coprime, Nat.gcd_comm]; exact h.cop) this
  have d2 : d' ∣ d := by
    have : d' ∣ n' * d := by rw [← e]; exact Nat.dvd_mul_left _ _
    exact Nat.Coprime.dvd_of_dvd_mul_left (show Nat.Coprime d' n' by rw [Nat.Coprime, Nat.gcd_comm]; exact h'.cop) this
  have ed := Nat.dvd_antisymm d1 d2
  subst ed
  exact ⟨Nat.eq_of_mul_eq_mul_right h.pos e, rfl⟩
theorem IsLow.low {n d x y : Nat} (h : IsLow n d x y) (hy : 0 < y) : lowD x y = .tup [.int n, .int d] := by
  obtain ⟨e1, e2⟩ := (isLow_of (x := x) hy).unique h hy
  unfold lowD
  rw [e1, e2]
theorem IsLow.le {n d x y : Nat} (h : IsLow n d x y) (hy : 0 < y) : d ≤ y := by
  have : d ∣ n * y := by rw [h.eq]; exact Nat.dvd_mul_left _ _
  exact Nat.le_of_dvd hy (Nat.Coprime.dvd_of_dvd_mul_left (show Nat.Coprime d n by rw [Nat.Coprime, Nat.gcd_comm]; exact h.cop) this)
end DL
end
section
/-! numbers modulo 2147483647; polynomials through points -/
namespace Mp
abbrev p : Int := 2147483647
/-- alike modulo p -/
def E (a b : Int) : Prop := a % 2147483647 = b % 2147483647
theorem E.refl (a : Int) : E a a := rfl
theorem E.symm {a b : Int} (h : E a b) : E b a := Eq.symm h
theorem E.trans {a b c : Int} (h : E a b) (k : E b c) : E a c := Eq.trans h k
theorem E.of {a b : Int} (h : a = b) : E a b := by rw [h]; exact E.refl b
theorem E.mod (a : Int) : E (a % 2147483647) a := by unfold E; omega
theorem E.add {a b c d : Int} (h : E a b) (k : E c d) : E (a + c) (b + d) := by unfold E at *; omega
theorem E.sub {a b c d : Int} (h : E a b) (k : E c d) : E (a - c) (b - d) := by unfold E at *; omega
theorem E.neg {a b : Int} (h : E a b) : E (-a) (-b) := by unfold E at *; omega
theorem E.mul {a b c d : Int} (h : E a b) (k : E c d) : E (a * c) (b * d) := by
  unfold E at *
  rw [Int.mul_emod, h, k, ← Int.mul_emod]
theorem E.pow {a b : Int} (h : E a b) : ∀ n : Nat, E (a ^ n) (b ^ n)
  | 0 => by rw [Int.pow_zero, Int.pow_zero]; exact E.refl 1
  | n + 1 => by rw [Int.pow_succ, Int.pow_succ]; exact (E.pow h n).mul h
theorem E.eq {a b : Int} (h : E a b) (h0 : 0 ≤ a) (h1 : a < 2147483647) (h2 : 0 ≤ b) (h3 : b < 2147483647) : a = b := by unfold E at h; omega
theorem mod_lt (a : Int) : 0 ≤ a % 2147483647 ∧ a % 2147483647 < 2147483647 := by omega
/-- a number with an inverse -/
def Inv (a : Int) : Prop := ∃ b, E (a * b) 1
theorem Inv.mul {a b : Int} (h : Inv a) (k : Inv b) : Inv (a * b) := by
  obtain ⟨c, hc⟩ := h
  obtain ⟨d, hd⟩ := k
  refine ⟨c * d, (E.of (by grind : a * b * (c * d) = (a * c) * (b * d))).trans ?_⟩
  exact (hc.mul hd).trans (E.of (by decide))
theorem Inv.cancel {a b : Int} (h : Inv a) (z : E (a * b) 0) : E b 0 := by
  obtain ⟨c, hc⟩ := h
  have h1 : E (c * (a * b)) (c * 0) := (E.refl c).mul z
  have h2 : E (c * (a * b)) (1 * b) := (E.of (by grind : c * (a * b) = (a * c) * b)).trans (hc.mul (E.refl b))
  have h3 := h2.symm.trans h1
  rw [Int.one_mul, Int.mul_zero] at h3
  exact h3
/-! ### powers -/
/-- the exponent p - 1, bit by bit -/
def eb : List Bool := [true, true, true, true, true, true, true, true, true, true, true, true, true, true, true, true, true, true, true, true, true, true, true, true, true, true, true, true, true, true, false]
end Mp
end
section
namespace Mp
/-! ### polynomials: lists of coefficients, the least power first -/
def ev : List Int → Int → Int
  | [], _ => 0
  | a :: c, x => a + x * ev c x
/-- one step of a product with X - x, b ahead -/
def less (x : Int) : Int → List Int → List Int
  | b, [] => [b % 2147483647]
  | b, a :: c => (b - x * a) % 2147483647 :: less x a c
/-! ### as many roots as coefficients: all are 0 -/
def zeros (c : List Int) : Prop := ∀ a ∈ c, E a 0
/-- division by X - x -/
def quo (x : Int) : List Int → List Int
  | [] => []
  | [_] => []
  | _ :: b :: c => ev (b :: c) x :: quo x (b :: c)
theorem quo_len (x : Int) : ∀ c : List Int, (quo x c).length = c.length - 1
  | [] => rfl
  | [_] => rfl
  | _ :: b :: c => by simp [quo, quo_len x (b :: c)]
theorem quo_ev (x t : Int) : ∀ c : List Int, ev c t = ev c x + (t - x) * ev (quo x c) t
  | [] => by show (0 : Int) = 0 + (t - x) * 0; grind
  | [a] => by show a + t * 0 = a + x * 0 + (t - x) * 0; grind
  | a :: b :: c => by
    have ih := quo_ev x t (b :: c)
    show a + t * ev (b :: c) t = a + x * ev (b :: c) x + (t - x) * (ev (b :: c) x + t * ev (quo x (b :: c)) t)
    rw [ih]
    grind
theorem quo_zeros (x : Int) : ∀ c : List Int, zeros (quo x c) → E (ev c x) 0 → zeros c
  | [], _, _ => fun a h => by simp at h
  | [a], _, h => fun b hb => by
    simp at hb; subst hb
    have : ev [b] x = b := by show b + x * 0 = b; grind
    rw [this] at h; exact h
  | a :: b :: c, hz, h => by
    have h1 : E (ev (b :: c) x) 0 := hz _ (by simp [quo])
    have h2 := quo_zeros x (b :: c) (fun z hz' => hz z (by simp [quo, hz'])) h1
    intro z hm
    rcases List.mem_cons.mp hm with e | hm
    · subst e
      have h3 : E (z + x * ev (b :: c) x) 0 := h
      have h4 : E (x * ev (b :: c) x) (x * 0) := (E.refl x).mul h1
      have h5 := h3.sub h4
      have e1 : z + x * ev (b :: c) x - x * ev (b :: c) x = z := by grind
      have e2 : (0 : Int) - x * 0 = 0 := by grind
      rw [e1, e2] at h5
      exact h5
    · exact h2 z hm
/-- numbers that differ by what has an inverse -/
def Apart : List Int → Prop
  | [] => True
  | x :: xs => (∀ y ∈ xs, Inv (y - x)) ∧ Apart xs
theorem roots : ∀ (xs c : List Int), Apart xs → c.length ≤ xs.length → (∀ x ∈ xs, E (ev c x) 0) → zeros c
  | [], c, _, hl, _ => by
    have : c = [] := List.length_eq_zero_iff.mp (by simpa using hl)
    subst this
    intro a h; simp at h
  | x :: xs, c, ha, hl, hr => by
    have h0 := hr x (by simp)
    refine quo_zeros x c (roots xs (quo x c) ha.2 (by rw [quo_len]; simp at hl; omega) fun y hy => ?_) h0
    have h1 := hr y (by simp [hy])
    rw [quo_ev x y c] at h1
    have h2 := h1.sub h0
    have e1 : ev c x + (y - x) * ev (quo x c) y - ev c x = (y - x) * ev (quo x c) y := by grind
    have e2 : (0 : Int) - 0 = 0 := by decide
    rw [e1, e2] at h2
    exact (ha.1 y hy).cancel h2
/-- the differences of coefficients, and of worths -/
def dif : List Int → List Int → List Int
  | a :: c, b :: d => (a - b) :: dif c d
  | c, [] => c
  | [], d => d.map (fun b => -b)
theorem ev_neg (t : Int) : ∀ d : List Int, ev (d.map fun b => -b) t = -ev d t
  | [] => by show (0 : Int) = -0; decide
  | b :: d => by
    show -b + t * ev (d.map fun b => -b) t = -(b + t * ev d t)
    rw [ev_neg t d]; grind
theorem dif_ev (t : Int) : ∀ c d : List Int, ev (dif c d) t = ev c t - ev d t
  | [], [] => by show (0 : Int) = 0 - 0; decide
  | a :: c, [] => by show a + t * ev c t = a + t * ev c t - 0; grind
  | [], b :: d => by
    show ev ((b :: d).map fun b => -b) t = 0 - ev (b :: d) t
    rw [ev_neg]; grind
  | a :: c, b :: d => by
    show a - b + t * ev (dif c d) t = a + t * ev c t - (b + t * ev d t)
    rw [dif_ev t c d]; grind
theorem dif_len : ∀ c d : List Int, (dif c d).length = max c.length d.length
  | [], [] => rfl
  | _ :: _, [] => by simp [dif]
  | [], _ :: _ => by simp [dif]
  | a :: c, b :: d => by simp [dif, dif_len c d]
/-- two polynomials of few coefficients, alike at as many places: alike at every place, and in their first coefficients -/
theorem same {xs c d : List Int} (ha : Apart xs) (hc : c.length ≤ xs.length) (hd : d.length ≤ xs.length) (h : ∀ x ∈ xs, E (ev c x) (ev d x)) (t : Int) : E (ev c t) (ev d t) := by
  have hz := roots xs (dif c d) ha (by rw [dif_len]; omega) fun x hx => by
    rw [dif_ev]
    have := (h x hx).sub (E.refl (ev d x))
    have e : ev d x - ev d x = 0 := by omega
    rw [e] at this
    exact this
  have : ∀ l : List Int, zeros l → E (ev l t) 0 := fun l => by
    induction l with
    | nil => intro _; exact E.refl 0
    | cons a l ih =>
      intro hl
      have h1 := hl a (by simp)
      have h2 := ih fun b hb => hl b (by simp [hb])
      have h3 := h1.add ((E.refl t).mul h2)
      have e : (0 : Int) + t * 0 = 0 := by grind
      rw [e] at h3
      exact h3
  have h1 := this _ hz
  rw [dif_ev] at h1
  have h2 := h1.add (E.refl (ev d t))
  have e1 : ev c t - ev d t + ev d t = ev c t := by omega
  have e2 : (0 : Int) + ev d t = ev d t := by omega
  rw [e1, e2] at h2
  exact h2
end Mp
end
section
namespace Mp
/-! ### the polynomial through points -/
def backI (a : Int) : Int := a ^ 2147483645 % 2147483647
abbrev Pts := List (Int × Int)
def ownStep (x : Int) (o : List Int × Int) (q : Int × Int) : List Int × Int := if q.1 ≠ x then (less q.1 0 o.1, o.2 * (x - q.1) % 2147483647) else o
def own (pts : Pts) (x : Int) : List Int × Int := pts.foldl (ownStep x) ([1], 1)
def part (pts : Pts) (q : Int × Int) : Int := q.2 * backI (own pts q.1).2 % 2147483647
/-- a number times its back is 1 -/
def Good (s : Int) : Prop := E (s * s ^ 2147483645) 1
theorem Good.one : Good 1 := by unfold Good; rw [Int.one_pow]; exact E.of (by decide)
theorem Good.mul {a b : Int} (h : Good a) (k : Good b) : Good (a * b) := by
  unfold Good at *
  rw [Int.mul_pow]
  exact (E.of (by grind : a * b * (a ^ 2147483645 * b ^ 2147483645) = a * a ^ 2147483645 * (b * b ^ 2147483645))).trans ((h.mul k).trans (E.of (by decide)))
theorem Good.mod {a : Int} (h : Good a) : Good (a % 2147483647) := by
  unfold Good at *
  exact ((E.mod a).mul ((E.mod a).pow _)).trans h
theorem Good.inv {a : Int} (h : Good a) : Inv a := ⟨_, h⟩
/-- points of unlike keepers, whose differences are good -/
structure Fine (pts : Pts) : Prop where
  nd : (pts.map (·.1)).Nodup
  good : ∀ q ∈ pts, ∀ r ∈ pts, r.1 ≠ q.1 → Good (q.1 - r.1)
theorem Fine.apart : ∀ {pts : Pts}, Fine pts → Apart (pts.map (·.1))
  | [], _ => trivial
  | q :: pts, f => by
    have nd := f.nd
    rw [List.map_cons, List.nodup_cons] at nd
    refine ⟨fun y hy => ?_, Fine.apart ⟨nd.2, fun a ha b hb => f.good a (by simp [ha]) b (by simp [hb])⟩⟩
    obtain ⟨r, hr, rfl⟩ := List.mem_map.mp hy
    exact (f.good r (by simp [hr]) q (by simp) fun e => nd.1 (by rw [e]; exact List.mem_map.mpr ⟨r, hr, rfl⟩)).inv
end Mp
end
section
/-! Keepers' numbers: what the program's defs reckon. -/
namespace DL
open PySem L2 Mp
variable {S : Store}
theorem whole_ok (i : Int) : d_is_whole [.int i] S = .ok (.bl true) S := by simp [d_is_whole, g_is_whole, Ty.isa]
theorem between_ok (i a b : Int) : d_is_between [.int i, .int a, .int b] S = .ok (.bl (decide (a ≤ i ∧ i ≤ b))) S := by
  by_cases h1 : a ≤ i <;> by_cases h2 : i ≤ b <;> simp [d_is_between, g_is_between, whole_ok, h1, h2]
end DL
end
section
namespace DL
open PySem L2 Mp
variable {S : Store}
/-- pairs of whole numbers -/
def prD (q : Int × Int) : D := .tup [.int q.1, .int q.2]
/-- points, a list or a tuple -/
def PtsD (pts : Pts) (pd : D) : Prop := pd = .lst (pts.map prD) ∨ pd = .tup (pts.map prD)
theorem PtsD.seq {pts : Pts} {pd : D} (h : PtsD pts pd) {env : EnvD} {f : EM} (hf : f env S = .ok pd S) : iSeq f env S = .ok (pts.map prD) S := by
  rcases h with rfl | rfl <;> simp [hf]
theorem PtsD.len {pts : Pts} {pd : D} (h : PtsD pts pd) : bLenX [pd] S = .ok (.int pts.length) S := by
  rcases h with rfl | rfl <;> simp
/-- points that may be told -/
structure Sane (pts : Pts) : Prop where
  x : ∀ q ∈ pts, 1 ≤ q.1 ∧ q.1 ≤ 9
  v : ∀ q ∈ pts, 0 ≤ q.2 ∧ q.2 < 2147483647
  len : pts.length ≤ 100
end DL
end
section
namespace DL
open PySem L2 Mp
variable {S : Store}
end DL
end
section
/-! The laws' helpers: like, shuffled, low. -/
namespace DL
open PySem L2 Mp
variable {S : Store}
theorem opEq_nil : opEq (.lst []) (.lst []) S = .ok (.bl true) S := by
  have := opEq_lints (as := []) (bs := []) (S := S)
  simpa using this
theorem filter_no (l : List D) : (l.filter fun _ => false) = [] := List.filter_eq_nil_iff.mpr (by simp)
theorem atI_ofNat {α : Type} {l : List α} {i : Nat} (h : i < l.length) : atI l (i : Int) = some l[i] := by
  have : (i : Int) < l.length := by omega
  simp [atI, ixN, this, h]
theorem Drw.bel {c : Cell} {m n : Nat} (d : Drw c m) : c.bel n = true := by
  obtain ⟨a, s, k, rfl, _⟩ := d.ex
  rfl
theorem frzDs_map {α : Type} {ρ : Nat → Option D} {f : α → D} (hf : ∀ a, frzD ρ (f a) = some (f a)) : ∀ l : List α, frzDs ρ (l.map f) = some (l.map f)
  | [] => rfl
  | a :: l => by simp [frzDs, hf a, frzDs_map hf l]
theorem seqIndex_nat {i n : Nat} (h : i < n) : seqIndex? (i : Int) n = some i := by
  unfold seqIndex?
  have h0 : ¬ ((i : Int) < 0) := by omega
  simp [h0, h]
theorem eraseIdx_mapD {α : Type} (f : α → D) : ∀ (l : List α) (j : Nat), (l.map f).eraseIdx j = (l.eraseIdx j).map f
  | [], _ => rfl
  | _ :: _, 0 => rfl
  | a :: l, j + 1 => by
    show f a :: (l.map f).eraseIdx j = f a :: (l.eraseIdx j).map f
    rw [eraseIdx_mapD f l j]
theorem perm_out {α : Type} : ∀ (l : List α) (j : Nat) (h : j < l.length), (l[j] :: l.eraseIdx j).Perm l
  | _ :: _, 0, _ => .refl _
  | a :: l, j + 1, h => (List.Perm.swap _ _ _).trans ((perm_out l j (by simpa using h)).cons a)
/-- one by one taken out -/
theorem shuffle_loop {α : Type} (f : α → D) {elt : EM} {env : EnvD} (he : ∀ (k : D) (S : Store), elt (env.set 3 (some k)) S = (eMeth "list" mPopAt (eC (.loc 1)) (lCons (eCall d__law_next (lCons (eC (.loc 0)) (lCons (eCallB bLenX (lCons (eC (.loc 1)) lNil)) lNil))) lNil)) env S) :
    ∀ (n : Nat) (ds : List D) (l : List α) (acc : List D) (c : Cell) (m : Nat), l.length = n → ds.length = n → acc.length + n ≤ 1000 → Drw c m → m + n ≤ 90000 →
      ∃ (l' : List α) (c' : Cell), lcD (bName 3) eYes elt env acc ds [c, .lst (l.map f)] = .ok (acc ++ l'.map f) [c', .lst []] ∧ l'.Perm l ∧ Drw c' (m + n) := by
  intro n
  induction n with
  | zero =>
    intro ds l acc c m hl hd _ d _
    have e1 := List.length_eq_zero_iff.mp hl
    have e2 := List.length_eq_zero_iff.mp hd
    subst e1 e2
    exact ⟨[], c, by simp, .refl _, d⟩
  | succ n ih =>
    intro ds l acc c m hl hd ha d hm
    cases ds with
    | nil => simp at hd
    | cons k ds =>
      obtain ⟨i, c1, n1, i0, i1, d1⟩ := next_ok (S := [c, .lst (l.map f)]) (l := 0) (c := c) (n := (l.length : Int)) rfl d (by omega) (by omega) (by omega)
      obtain ⟨j, rfl⟩ := Int.eq_ofNat_of_zero_le i0
      have hj : j < l.length := by omega
      obtain ⟨l', c', h1, h2, h3⟩ := ih ds (l.eraseIdx j) (acc ++ [f l[j]]) c1 (m + 1) (by rw [List.length_eraseIdx_of_lt hj]; omega) (by simpa using hd) (by simp; omega) d1 (by omega)
      refine ⟨l[j] :: l', c', ?_, ?_, by rw [show m + (n + 1) = m + 1 + n by omega]; exact h3⟩
      · unfold lcD
        dsimp only [bName, eYes]
        rw [he]
        have w : w63 ((j : Nat) : Int) := w63_is (by omega) (by omega)
        have q := seqIndex_nat (i := j) (n := l.length) hj
        have n1' : d__law_next [.loc 0, .int (l.length : Int)] [c, .lst (l.map f)] = .ok (.int (j : Nat)) [c1, .lst (l.map f)] := n1
        have ee : (eMeth "list" mPopAt (eC (.loc 1)) (lCons (eCall d__law_next (lCons (eC (.loc 0)) (lCons (eCallB bLenX (lCons (eC (.loc 1)) lNil)) lNil))) lNil)) env [c, .lst (l.map f)] = .ok (f l[j]) [c1, .lst ((l.eraseIdx j).map f)] := by
          have c0 : cel [c, .lst (l.map f)] 1 = some (.lst (l.map f)) := rfl
          have c2 : cel [c1, .lst (l.map f)] 1 = some (.lst (l.map f)) := rfl
          have em : (l.map f).eraseIdx j = (l.eraseIdx j).map f := eraseIdx_mapD f l j
          simp [c0, c2, n1', w, q, hj, em]
        rw [ee]
        dsimp only
        rw [if_pos (show sz (acc.length + 1) from sz_is (by omega)), h1]
        simp
      · exact (List.Perm.cons _ h2).trans (perm_out l j hj)
end DL
end
section
/-! Names, as the laws with races draw them; what the program's forms say of them. -/
namespace DR
open PySem L2 DL
variable {S : Store}
def abc : Str := "abcdefghijklmnopqrstuvwxyz"
theorem opIn_sg {c : Nat} {z : Str} : opIn (.str ⟨#[c]⟩) (.str z) S = .ok (.bl (decide (c ∈ z.cps.toList))) S := rfl
/-- a good name -/
def goodN (s : Str) : Bool := (decide (1 ≤ s.length) && (decide (s ≠ "zz") && decide (s ≠ "zzzzzzzz"))) && decide (s.length ≤ 8) && s.cps.toList.all fun c => decide (c ∈ abc.cps.toList)
theorem mapTrue (ds : List D) : ds.map (fun _ => D.bl true) = (ds.map fun _ => true).map D.bl := by simp
theorem allTr {α : Type} (l : List α) : (l.all fun _ => true) = true := by simp
theorem isName_ok {s : Str} (h : goodN s = true) : d_is_name [.str s] S = .ok (.bl true) S := by
  unfold goodN at h
  simp only [Bool.and_eq_true, decide_eq_true_eq, List.all_eq_true] at h
  obtain ⟨⟨h1, h2⟩, h3⟩ := h
  have sl : (signsD s).length = s.length := by simp [signsD, Str.length]
  have e := lcD_map (S := S) (b := bName 1) (elt := g_is_name_e1) (env := [some (.str s), none]) (fun _ => .bl true) (signsD s) (fun d hd => by
    unfold signsD at hd
    obtain ⟨c, hc, rfl⟩ := List.mem_map.mp hd
    have q : (c ∈ (Str.ofString "abcdefghijklmnopqrstuvwxyz").cps.toList) := h3 c hc
    refine ⟨_, rfl, ?_⟩
    simp only [g_is_name_e1, eOp_is, eC_is]
    rw [eVar_at (d := .str ⟨#[c]⟩) (by rfl)]
    simp only [ER.bind_ok, opIn_sg, q, decide_true]) (by omega)
  rw [mapTrue] at e
  have z : sz s.length := sz_is (by omega)
  have i1 : (1 : Int) ≤ s.length := by have := h1.1; omega
  have i2 : (s.length : Int) ≤ 8 := by omega
  simp [d_is_name, g_is_name, Ty.isa, z, i1, i2, e, allTr, -List.map_map, -List.map_const]
theorem keysD_strs : ∀ ns : List Str, keysD (ns.map .str) = some (ns.map Sum.inr)
  | [] => rfl
  | n :: ns => by
    show ((keyD (.str n)).bind fun k => (keysD (ns.map .str)).map (k :: ·)) = _
    rw [keysD_strs ns]; rfl
theorem dcnt_strs {ns : List Str} (nd : ns.Nodup) : dcnt (ns.map fun i => (.inr i : Key)) = ns.length := by
  have e : (ns.map fun i => (.inr i : Key)).length = ns.length := by simp
  rw [← e]
  exact (dcnt_eq _).mpr (nd.map _ (fun a b h z => h (Sum.inr.inj z)))
theorem few_s {n : Nat} (h : n ≤ 1000) : few n := by
  unfold few
  have : 1002 < scanBound := by decide
  omega
theorem unlike_ok {ns : List Str} {a b : Int} (hg : ∀ n ∈ ns, goodN n = true) (nd : ns.Nodup) (h1 : a ≤ ns.length) (h2 : (ns.length : Int) ≤ b) (hl : ns.length ≤ 1000) :
    d_are_unlike_names [.tup (ns.map .str), .int a, .int b] S = .ok (.bl true) S := by
  have e := lcD_map (S := S) (b := bName 3) (elt := g_are_unlike_names_e1) (env := [some (.tup (ns.map .str)), some (.int a), some (.int b), none]) (fun _ => .bl true) (ns.map .str) (fun d hd => by
    obtain ⟨n, hn, rfl⟩ := List.mem_map.mp hd
    exact ⟨_, rfl, by simp [g_are_unlike_names_e1, isName_ok (hg n hn)]⟩) (by simp; omega)
  rw [mapTrue] at e
  have f := few_s (n := ns.length) hl
  simp [d_are_unlike_names, g_are_unlike_names, Ty.isa, h1, h2, e, keysD_strs, dcnt_strs nd, f, allTr, -List.map_map, -List.map_const]
theorem flat_strs (ns : List Str) : (ns.map D.str).all flatD = true := by simp
theorem any_strs (s : Str) (ns : List Str) : ((ns.map D.str).any fun y => eqF y (.str s)) = decide (s ∈ ns) := by
  rw [Bool.eq_iff_iff]
  simp
theorem in_strs {s : Str} {ns : List Str} : opIn (.str s) (.tup (ns.map .str)) S = .ok (.bl (decide (s ∈ ns))) S := by
  rw [opIn_tt, flat_strs, any_strs]; simp
theorem in_strsL {s : Str} {ns : List Str} : opIn (.str s) (.lst (ns.map .str)) S = .ok (.bl (decide (s ∈ ns))) S := by
  rw [opIn_ll, flat_strs, any_strs]; simp
theorem oneOf_s {s : Str} {ns : List Str} : d_is_one_of [.str s, .tup (ns.map .str)] S = .ok (.bl (decide (s ∈ ns))) S := by
  simp only [d_is_one_of, g_is_one_of]
  by_cases h : s ∈ ns <;> simp [Ty.isa, in_strs, h, -opIn_tt]
/-! what is drawn -/
def sgs : List Str := ["a", "b", "c", "d", "e", "f", "g", "h", "i", "j", "k", "l", "m", "n", "o", "p", "q", "r", "s", "t", "u", "v", "w", "x", "y", "z"]
def tls : List Str := ["x", "", "qxqxqxq", "xx", "qxqxq", "zq"]
def own1 : List Str := ["one", "any", "rank", "runoff", "pairs", "in", "out", "place", "letter", "doubt", "counts", "doubled", "admit"]
def own2 : List Str := ["refuse", "again", "stands", "counted", "vote", "roll", "uses", "mixed", "late", "result", "use", "close"]
def own3 : List Str := ["each", "odd", "spoilt", "good", "blank"]
def own : List Str := own1 ++ own2 ++ own3
theorem split1 : Txt.split "one any rank runoff pairs in out place letter doubt counts doubled admit" " " = own1 := by decide +kernel
theorem split2 : Txt.split "refuse again stands counted vote roll uses mixed late result use close" " " = own2 := by decide +kernel
theorem signs_abc : signsD abc = sgs.map .str := by
  have : abc.cps.toList.map (fun c => (⟨#[c]⟩ : Str)) = sgs := by decide +kernel
  rw [← this]; simp [signsD]
def nmB (i t k : Nat) : Str := sgs.getD ((i + 5 * k) % 26) "" ++ tls.getD ((t + k * k) % 6) ""
def namesA (i : Nat) : List Str := (own.drop i ++ own.take i).take 8
def namesB (i t : Nat) : List Str := (List.range 8).map (nmB i t)
/-- eight unlike good names -/
structure Names (ns : List Str) : Prop where
  len : ns.length = 8
  good : ∀ n ∈ ns, goodN n = true
  nd : ns.Nodup
def okNames (ns : List Str) : Bool := decide (ns.length = 8) && ns.all goodN && decide ns.Nodup
theorem okNames_is {ns : List Str} (h : okNames ns = true) : Names ns := by
  unfold okNames at h
  simp only [Bool.and_eq_true, decide_eq_true_eq, List.all_eq_true] at h
  exact ⟨h.1.1, h.1.2, h.2⟩
theorem okA : ∀ i, i < 26 → okNames (namesA i) = true := by decide +kernel
theorem okB : ∀ i, i < 26 → ∀ t, t < 6 → okNames (namesB i t) = true := by decide +kernel
end DR
end
section
/-! The names drawn. -/
namespace DR
open PySem L2 DL
variable {S : Store}
theorem opAdd_locL {l : Nat} {a b : List D} (h : cel S l = some (.lst a)) : opAdd (.loc l) (.lst b) S = if sz (a.length + b.length) then .ok (.lst (a ++ b)) S else .bad := by
  unfold cel at h
  show (match listD S (.loc l), listD S (.lst b) with
    | some a, some b => if sz (a.length + b.length) then ER.ok (.lst (a ++ b)) S else .bad
    | _, _ => .bad) = _
  have e : listD S (.loc l) = some a := by
    unfold listD
    dsimp only
    rw [h]
  rw [e]; rfl
theorem sIx_n (n L d : Nat) : HT.sIx L d (some (n : Int)) = min n L := HT.sIx_nat L d n
theorem cut_hi {α : Type} (xs : List α) (n : Nat) : cutD xs none (some (n : Int)) = xs.take n := by
  unfold cutD
  rw [sIx_n]
  show (xs.drop 0).take (min n xs.length - 0) = _
  rw [List.drop_zero, Nat.sub_zero]
  by_cases h : n ≤ xs.length
  · rw [Nat.min_eq_left h]
  · rw [Nat.min_eq_right (by omega), List.take_length, List.take_of_length_le (by omega)]
theorem cut_lo {α : Type} (xs : List α) (n : Nat) : cutD xs (some (n : Int)) none = xs.drop n := by
  unfold cutD
  rw [sIx_n]
  show (xs.drop (min n xs.length)).take (xs.length - min n xs.length) = _
  by_cases h : n ≤ xs.length
  · rw [Nat.min_eq_left h, List.take_of_length_le (by simp)]
  · rw [Nat.min_eq_right (by omega), List.drop_length, List.drop_of_length_le (by omega)]; simp
theorem sg_at {j : Nat} (h : j < 26) : strAt abc (j : Int) = some (.str (sgs.getD j "")) := by
  have hl : abc.cps.toList.length = 26 := by decide +kernel
  have e : ∀ j, j < 26 → (⟨#[abc.cps.toList.getD j 0]⟩ : Str) = sgs.getD j "" := by decide +kernel
  unfold strAt
  rw [atI_ofNat (by omega), ← e j h]
  simp [List.getD, List.getElem?_eq_getElem (by omega : j < abc.cps.toList.length)]
theorem tl_at {j : Nat} (h : j < 6) : atI ([.str "x", .str "", .str "qxqxqxq", .str "xx", .str "qxqxq", .str "zq"] : List D) (j : Int) = some (.str (tls.getD j "")) := by
  have : ([.str "x", .str "", .str "qxqxqxq", .str "xx", .str "qxqxq", .str "zq"] : List D) = tls.map .str := rfl
  rw [this, atI_ofNat (by simp [tls]; omega)]
  simp [List.getD, List.getElem?_eq_getElem (by simp [tls]; omega : j < tls.length)]
theorem nmB_sz {i t k : Nat} : (sgs.getD ((i + 5 * k) % 26) "").length + (tls.getD ((t + k * k) % 6) "").length ≤ 8 := by
  have h1 : ∀ j, j < 26 → (sgs.getD j "").length = 1 := by decide +kernel
  have h2 : ∀ j, j < 6 → (tls.getD j "").length ≤ 7 := by decide +kernel
  have := h1 ((i + 5 * k) % 26) (Nat.mod_lt _ (by decide))
  have := h2 ((t + k * k) % 6) (Nat.mod_lt _ (by decide))
  omega
theorem loop_b0 {c : Cell} {i t k : Nat} {a b s w : Option D} {A T : D} {x y : Str} {acc : List D} (hk : k < 26) (hA : ∀ S, opIxX A (.int (((i + 5 * k) % 26 : Nat) : Int)) S = .ok (.str x) S) (hT : ∀ S, opIxX T (.int (((t + k * k) % 6 : Nat) : Int)) S = .ok (.str y) S) (hz : x.length + y.length ≤ 8) (hl : acc.length ≤ 1000) :
    g__law_names_b1 [a, b, s, some A, some (.int (i : Nat)), some (.int (t : Nat)), some T, some (.loc 1), some (.int (k : Nat)), w] [c, .lst acc] =
      .nx [a, b, s, some A, some (.int (i : Nat)), some (.int (t : Nat)), some T, some (.loc 1), some (.int (k : Nat)), w] [c, .lst (acc ++ [.str (x ++ y)])] := by
  have c1 : cel [c, .lst acc] 1 = some (.lst acc) := rfl
  have m1 : mulOk (5 : Int) (k : Int) := mulOk_l (by decide)
  have m2 : mulOk (k : Int) (k : Int) := mulOk_l (by omega)
  have e1 : ((i : Int) + 5 * (k : Int)) % 26 = (((i + 5 * k) % 26 : Nat) : Int) := by omega
  have e2 : ((t : Int) + (k : Int) * (k : Int)) % 6 = (((t + k * k) % 6 : Nat) : Int) := by
    rw [← Int.natCast_mul]; omega
  have z1 := sz_is (n := x.length + y.length) (by omega)
  have z2 : sz (acc.length + 1) := sz_is (by omega)
  simp [g__law_names_b1, c1, m1, m2, e1, e2, hA, hT, z1, z2, -Int.natCast_emod, -Int.natCast_add, -Int.natCast_mul]
theorem loop_b1 {c : Cell} {i t k : Nat} {a b s w : Option D} (hk : k < 26) :
    g__law_names_b1 [a, b, s, some (.str abc), some (.int (i : Nat)), some (.int (t : Nat)), some (.lst [.str "x", .str "", .str "qxqxqxq", .str "xx", .str "qxqxq", .str "zq"]), some (.loc 1), some (.int (k : Nat)), w] [c, .lst (((List.range k).map (nmB i t)).map .str)] =
      .nx [a, b, s, some (.str abc), some (.int (i : Nat)), some (.int (t : Nat)), some (.lst [.str "x", .str "", .str "qxqxqxq", .str "xx", .str "qxqxq", .str "zq"]), some (.loc 1), some (.int (k : Nat)), w] [c, .lst (((List.range (k + 1)).map (nmB i t)).map .str)] := by
  have z0 : sz abc.length := sz_is (by decide +kernel)
  have s1 := sg_at (j := (i + 5 * k) % 26) (Nat.mod_lt _ (by decide))
  have s2 := tl_at (j := (t + k * k) % 6) (Nat.mod_lt _ (by decide))
  have e := loop_b0 (c := c) (i := i) (t := t) (a := a) (b := b) (s := s) (w := w) (A := .str abc) (T := .lst [.str "x", .str "", .str "qxqxqxq", .str "xx", .str "qxqxq", .str "zq"]) (acc := ((List.range k).map (nmB i t)).map .str) hk
    (x := sgs.getD ((i + 5 * k) % 26) "") (y := tls.getD ((t + k * k) % 6) "") (fun S => by rw [opIxX_s, if_pos z0, s1]) (fun S => by rw [opIxX_l, s2]) nmB_sz (by simp; omega)
  rw [e, List.range_succ, List.map_append, List.map_append]
  rfl
end DR
end
section
namespace DR
open PySem L2 DL
variable {S : Store}
theorem frz_strs {ρ : Nat → Option D} (l : List Str) : frzDs ρ (l.map .str) = some (l.map .str) := frzDs_map (fun _ => rfl) l
theorem sp1 {c : Cell} : mSplit (.str "one any rank runoff pairs in out place letter doubt counts doubled admit") [.str " "] [c] = .ok (.lst (own1.map .str)) [c] := by
    show (if ((" " : Str).length == 0) = false ∧ ("one any rank runoff pairs in out place letter doubt counts doubled admit" : Str).length ≤ 10000000 then ER.ok (D.lst ((Txt.split "one any rank runoff pairs in out place letter doubt counts doubled admit" " ").map D.str)) [c] else ER.bad) = _
    rw [split1]
    exact if_pos ⟨by decide +kernel, by decide +kernel⟩
theorem sp2 {c : Cell} : mSplit (.str "refuse again stands counted vote roll uses mixed late result use close") [.str " "] [c] = .ok (.lst (own2.map .str)) [c] := by
    show (if ((" " : Str).length == 0) = false ∧ ("refuse again stands counted vote roll uses mixed late result use close" : Str).length ≤ 10000000 then ER.ok (D.lst ((Txt.split "refuse again stands counted vote roll uses mixed late result use close" " ").map D.str)) [c] else ER.bad) = _
    rw [split2]
    exact if_pos ⟨by decide +kernel, by decide +kernel⟩
theorem ad1 {c : Cell} : opAdd (.lst (own1.map .str)) (.lst (own2.map .str)) [c] = .ok (.lst ((own1 ++ own2).map .str)) [c] := by
    have l1 : own1.length = 13 := rfl
    have l2 : own2.length = 12 := rfl
    rw [opAdd_ll, if_pos (sz_is (by rw [List.length_map, List.length_map, l1, l2]; decide)), List.map_append]
theorem ad2 {c : Cell} : opAdd (.lst ((own1 ++ own2).map .str)) (.lst (own3.map .str)) [c] = .ok (.lst (own.map .str)) [c] := by
    have l1 : own1.length = 13 := rfl
    have l2 : own2.length = 12 := rfl
    have l3 : own3.length = 5 := rfl
    rw [opAdd_ll, if_pos (sz_is (by rw [List.length_map, List.length_map, List.length_append, l1, l2, l3]; decide)), ← List.map_append]; rfl

theorem namesA_run {c c1 c2 c3 : Cell} {i t n : Nat} (hn : n ≤ 8) (hi : i < 26) (n1 : d__law_next [.loc 0, .int 26] [c] = .ok (.int (i : Nat)) [c1]) (n2 : d__law_next [.loc 0, .int 6] [c1] = .ok (.int (t : Nat)) [c2]) (n3 : d__law_next [.loc 0, .int 4] [c2] = .ok (.int 0) [c3]) :
    g__law_names [some (.loc 0), some (.int (n : Nat)), none, none, none, none, none, none, none, none] [c] = .rt (.lst (((namesA i).take n).map .str)) [c3] := by
  have ty : ∀ s, tyD "str" [c] (.str s) = true := fun _ => rfl
  have ad1 := ad1 (c := c)
  have ad2 := ad2 (c := c)
  have sp1 := sp1 (c := c)
  have sp2 := sp2 (c := c)
  have ad3 : opAdd (.lst ((own.drop i).map .str)) (.lst ((own.take i).map .str)) [c3] = .ok (.lst ((own.drop i ++ own.take i).map .str)) [c3] := by
      have : own.length = 30 := rfl
      rw [opAdd_ll, if_pos (sz_is (by simp; omega)), List.map_append]
  have k1 : cutD (own.map D.str) (some (i : Int)) none = (own.drop i).map .str := by rw [cut_lo, List.map_drop]
  have k2 : cutD (own.map D.str) none (some (i : Int)) = (own.take i).map .str := by rw [cut_hi, List.map_take]
  have k3 : cutD ((own.drop i ++ own.take i).map D.str) none (some (n : Int)) = ((namesA i).take n).map .str := by
      rw [cut_hi, namesA, List.take_take, Nat.min_eq_left hn, List.map_take]
  have e3 : eLst (lCons (eC (.str "each")) (lCons (eC (.str "odd")) (lCons (eC (.str "spoilt")) (lCons (eC (.str "good")) (lCons (eC (.str "blank")) lNil))))) = fun env S => .ok (.lst (own3.map .str)) S := by
    funext env S
    simp [own3]
  unfold g__law_names
  rw [e3]
  generalize hL1 : own1.map D.str = L1 at *
  generalize hL2 : own2.map D.str = L2 at *
  generalize hL3 : own3.map D.str = L3 at *
  generalize hL12 : (own1 ++ own2).map D.str = L12 at *
  generalize hO : own.map D.str = O at *
  generalize hd : (own.drop i).map D.str = O1 at *
  generalize ht : (own.take i).map D.str = O2 at *
  generalize hdt : (own.drop i ++ own.take i).map D.str = O3 at *
  generalize hna : ((namesA i).take n).map D.str = NA at *
  simp [oSome, oNone, ty, sp1, sp2, ad1, ad2, n1, n2, n3, k1, k2, ad3, k3, -opAdd_ll]

def yyy (s : Str) : D := .str (s ++ "yyy")
abbrev tl6 : D := .lst [.str "x", .str "", .str "qxqxqxq", .str "xx", .str "qxqxq", .str "zq"]
theorem namesB_loop {c : Cell} {i t n : Nat} {O : D} : ∃ k, forD (bName 8) g__law_names_b1 (rangeD 0 26) [some (.loc 0), some (.int (n : Nat)), some O, some (.str abc), some (.int (i : Nat)), some (.int (t : Nat)), some tl6, some (.loc 1), none, none] [c, .lst []] =
    .nx [some (.loc 0), some (.int (n : Nat)), some O, some (.str abc), some (.int (i : Nat)), some (.int (t : Nat)), some tl6, some (.loc 1), k, none] [c, .lst (((List.range 26).map (nmB i t)).map .str)] := by
  obtain ⟨e', S', hf, k, rfl, rfl⟩ := forD_range (b := bName 8) (body := g__law_names_b1)
      (fun q e S => ∃ k, e = [some (.loc 0), some (.int (n : Nat)), some O, some (.str abc), some (.int (i : Nat)), some (.int (t : Nat)), some tl6, some (.loc 1), k, none] ∧ S = [c, .lst (((List.range q).map (nmB i t)).map .str)])
      (lo := 0) (n := 26) (e := [some (.loc 0), some (.int (n : Nat)), some O, some (.str abc), some (.int (i : Nat)), some (.int (t : Nat)), some tl6, some (.loc 1), none, none]) (S := [c, .lst []]) ⟨none, rfl, rfl⟩ (by
        rintro q e S hn ⟨k, rfl, rfl⟩
        have e := loop_b1 (c := c) (i := i) (t := t) (k := q) (a := some (.loc 0)) (b := some (.int (n : Nat))) (s := some O) (w := none) hn
        rw [Int.zero_add]
        exact ⟨_, rfl, _, _, .inl e, _, rfl, rfl⟩)
  exact ⟨k, hf⟩
theorem namesB_lc {S : Store} {env : EnvD} (he : env.length = 10) : lcD (bName 9) eYes g__law_names_e1 env [] (sgs.map .str) S = .ok (sgs.map yyy) S :=
  by
    have h := lcD_map (S := S) (b := bName 9) (elt := g__law_names_e1) (env := env) (fun d => match d with | .str s => yyy s | d => d) (sgs.map .str) (fun d hd => by
        obtain ⟨s, hs, rfl⟩ := List.mem_map.mp hd
        have l1 : s.length = 1 := by
          have h : ∀ s ∈ sgs, s.length = 1 := by decide +kernel
          exact h s hs
        have l2 : ("yyy" : Str).length = 3 := by decide +kernel
        have zz : sz (s.length + ("yyy" : Str).length) := sz_is (by omega)
        refine ⟨_, rfl, ?_⟩
        have ev : eVar 9 (env.set 9 (some (.str s))) S = .ok (.str s) S := eVar_at (List.getElem?_set_self (by omega))
        show (eOp opAdd (eVar 9) (eC (.str "yyy"))) (env.set 9 (some (.str s))) S = _
        rw [eOp_is, ev]
        simp only [ER.bind_ok, eC_is, opAdd_ss]
        rw [if_pos zz]; rfl) (by decide)
    rw [List.map_map] at h
    exact h
theorem namesB_run {c c1 c2 c3 : Cell} {i t n : Nat} {z : Int} (hn : n ≤ 8) (hz : z ≠ 0) (n1 : d__law_next [.loc 0, .int 26] [c] = .ok (.int (i : Nat)) [c1]) (n2 : d__law_next [.loc 0, .int 6] [c1] = .ok (.int (t : Nat)) [c2]) (n3 : d__law_next [.loc 0, .int 4] [c2] = .ok (.int z) [c3]) :
    g__law_names [some (.loc 0), some (.int (n : Nat)), none, none, none, none, none, none, none, none] [c] = .rt (.lst (((namesB i t).take n).map .str)) [c3, .lst (((List.range 26).map (nmB i t)).map .str)] := by
  have ty : ∀ s, tyD "str" [c] (.str s) = true := fun _ => rfl
  have ad1 := ad1 (c := c)
  have ad2 := ad2 (c := c)
  have sp1 := sp1 (c := c)
  have sp2 := sp2 (c := c)
  have e3 : eLst (lCons (eC (.str "each")) (lCons (eC (.str "odd")) (lCons (eC (.str "spoilt")) (lCons (eC (.str "good")) (lCons (eC (.str "blank")) lNil))))) = fun env S => .ok (.lst (own3.map .str)) S := by
    funext env S
    simp [own3]
  have e6 : eLst (lCons (eC (.str "x")) (lCons (eC (.str "")) (lCons (eC (.str "qxqxqxq")) (lCons (eC (.str "xx")) (lCons (eC (.str "qxqxq")) (lCons (eC (.str "zq")) lNil)))))) = fun env S => .ok tl6 S := by
    funext env S
    simp
  have ea : eC (.str "abcdefghijklmnopqrstuvwxyz") = eC (.str abc) := rfl
  obtain ⟨k, hf⟩ := namesB_loop (c := c3) (i := i) (t := t) (n := n) (O := .lst (own.map .str))
  have lc := namesB_lc (S := [c3, .lst (((List.range 26).map (nmB i t)).map .str)]) (env := [some (.loc 0), some (.int (n : Nat)), some (.lst (own.map .str)), some (.str abc), some (.int (i : Nat)), some (.int (t : Nat)), some tl6, some (.loc 1), k, none]) rfl
  have ad4 := opAdd_locL (S := [c3, .lst (((List.range 26).map (nmB i t)).map D.str)]) (l := 1) (a := ((List.range 26).map (nmB i t)).map .str) (b := sgs.map yyy) rfl
  rw [if_pos (sz_is (by simp [sgs]))] at ad4
  have k3 : cutD (((List.range 26).map (nmB i t)).map D.str ++ sgs.map yyy) none (some (n : Int)) = ((namesB i t).take n).map .str := by
      rw [cut_hi, List.take_append_of_le_length (by simp; omega), namesB, ← List.map_take, ← List.map_take, ← List.map_take, List.take_range, List.take_range, Nat.min_eq_left (by omega), Nat.min_eq_left (by omega)]
  have sa := signs_abc
  unfold g__law_names
  rw [e3, e6, ea]
  generalize hL1 : own1.map D.str = L1 at *
  generalize hL2 : own2.map D.str = L2 at *
  generalize hL3 : own3.map D.str = L3 at *
  generalize hL12 : (own1 ++ own2).map D.str = L12 at *
  generalize hO : own.map D.str = O at *
  generalize hna : ((namesB i t).take n).map D.str = NA at *
  generalize hfo : ((List.range 26).map (nmB i t)).map D.str = FO at *
  generalize hy : sgs.map yyy = Y at *
  generalize hs : sgs.map D.str = SG at *
  generalize tl6 = T at *
  have r26 : rOk (26 : Int) := ⟨by decide, by decide⟩
  simp [oSome, oNone, ty, sp1, sp2, ad1, ad2, n1, n2, n3, hz, r26, -opAdd_ll]
  rw [hf]
  simp [oSome, oNone, sa, lc, ad4, k3, -opAdd_ll]
theorem names_okN {c : Cell} {m n : Nat} (hn : n ≤ 8) (d : Drw c m) (hm : m ≤ 90000) : ∃ ns c', d__law_names [.loc 0, .int (n : Nat)] [c] = .ok (.lst ((ns.take n).map .str)) [c'] ∧ Names ns ∧ Drw c' (m + 3) := by
  obtain ⟨x, c1, n1, x0, x1, d1⟩ := next1 26 d (by omega) (by decide) (by decide)
  obtain ⟨y, c2, n2, y0, y1, d2⟩ := next1 6 d1 (by omega) (by decide) (by decide)
  obtain ⟨z, c3, n3, z0, z1, d3⟩ := next1 4 d2 (by omega) (by decide) (by decide)
  obtain ⟨i, rfl⟩ := Int.eq_ofNat_of_zero_le x0
  obtain ⟨t, rfl⟩ := Int.eq_ofNat_of_zero_le y0
  have hi : i < 26 := by omega
  have ht : t < 6 := by omega
  by_cases hz : z = 0
  · subst hz
    refine ⟨namesA i, c3, ?_, okNames_is (okA i hi), d3⟩
    have ex := exit_draw (c := c) (c' := c3) (T := []) (d := .lst (((namesA i).take n).map .str)) (d' := .lst (((namesA i).take n).map .str)) (by simp [frzD, frz_strs, -List.map_take]) d3.bel
    have r := namesA_run hn hi n1 n2 n3
    show (match g__law_names [some (.loc 0), some (.int (n : Nat)), none, none, none, none, none, none, none, none] [c] with
      | .nx _ S1 => exitD .pure [c] .non S1
      | .rt d S1 => exitD .pure [c] d S1
      | .ex x _ S1 => .ex x S1
      | _ => .bad) = _
    rw [r]
    exact ex
  · refine ⟨namesB i t, c3, ?_, okNames_is (okB i hi t ht), d3⟩
    have ex := exit_draw (c := c) (c' := c3) (T := [.lst (((List.range 26).map (nmB i t)).map .str)]) (d := .lst (((namesB i t).take n).map .str)) (d' := .lst (((namesB i t).take n).map .str)) (by simp [frzD, frz_strs, -List.map_take]) d3.bel
    have r := namesB_run hn hz n1 n2 n3
    show (match g__law_names [some (.loc 0), some (.int (n : Nat)), none, none, none, none, none, none, none, none] [c] with
      | .nx _ S1 => exitD .pure [c] .non S1
      | .rt d S1 => exitD .pure [c] d S1
      | .ex x _ S1 => .ex x S1
      | _ => .bad) = _
    rw [r]
    exact ex
theorem names_ok {c : Cell} {m : Nat} (d : Drw c m) (hm : m ≤ 90000) : ∃ ns c', d__law_names [.loc 0, .int 8] [c] = .ok (.lst (ns.map .str)) [c'] ∧ Names ns ∧ Drw c' (m + 3) := by
  obtain ⟨ns, c', h1, h2, h3⟩ := names_okN (n := 8) (Nat.le_refl _) d hm
  exact ⟨ns, c', by rw [List.take_of_length_le (Nat.le_of_eq h2.len)] at h1; exact h1, h2, h3⟩
end DR
end
section
/-! Races told and made; marks; what the program says of marks. -/
namespace DR
open PySem L2 DL
variable {S : Store}
abbrev tupS (l : List Str) : D := .tup (l.map .str)
abbrev toldD (nm kd : Str) (cs : List Str) (seats : Int) (way : Str) : D := .tup [.str nm, .str kd, tupS cs, .int seats, .str way]
abbrev raceD (nm kd : Str) (cs : List Str) (seats : Int) (way : Str) : D := .obj "Race" ["name", "kind", "choices", "districts", "seats", "by"] [.str nm, .str kd, tupS cs, .tup [.str "here"], .int seats, .str way]
/-- what a race may be made of -/
structure Told (nm kd : Str) (cs : List Str) (seats : Int) (way : Str) : Prop where
  nm : goodN nm = true
  good : ∀ n ∈ cs, goodN n = true
  nd : cs.Nodup
  l2 : 2 ≤ cs.length
  l5 : cs.length ≤ 5
  kdOk : kd = "one" ∨ kd = "any" ∨ kd = "rank"
  s1 : 1 ≤ seats
  s2 : seats ≤ cs.length
  w : (kd ≠ "rank" ∧ way = "") ∨ (kd = "rank" ∧ (way = "runoff" ∨ way = "pairs" ∨ way = "share") ∧ (way = "share" ∨ seats = 1))
theorem Told.as {nm kd : Str} {cs : List Str} {seats seats' : Int} {way way' : Str} (t : Told nm kd cs seats way) (s1 : 1 ≤ seats') (s2 : seats' ≤ cs.length) (w : (kd ≠ "rank" ∧ way' = "") ∨ (kd = "rank" ∧ (way' = "runoff" ∨ way' = "pairs" ∨ way' = "share") ∧ (way' = "share" ∨ seats' = 1))) : Told nm kd cs seats' way' :=
  ⟨t.nm, t.good, t.nd, t.l2, t.l5, t.kdOk, s1, s2, w⟩
theorem here_good : goodN "here" = true := by decide +kernel
theorem kinds_in {kd : Str} (h : kd = "one" ∨ kd = "any" ∨ kd = "rank") : kd ∈ (["one", "any", "rank"] : List Str) := by
  rcases h with h | h | h <;> simp [h]
theorem way_ok {kd way : Str} {seats : Int} (w : (kd ≠ "rank" ∧ way = "") ∨ (kd = "rank" ∧ (way = "runoff" ∨ way = "pairs" ∨ way = "share") ∧ (way = "share" ∨ seats = 1))) : d_is_way [.str kd, .str way, .int seats] S = .ok (.bl true) S := by
  have e : ∀ s : Str, d_is_one_of [.str s, .tup [.str "runoff", .str "pairs", .str "share"]] S = .ok (.bl (decide (s ∈ (["runoff", "pairs", "share"] : List Str)))) S := fun s => oneOf_s (ns := ["runoff", "pairs", "share"])
  rcases w with ⟨h1, h2⟩ | ⟨h1, h2, h3⟩
  · subst h2
    simp [d_is_way, g_is_way, h1, Ty.isa]
  · subst h1
    have q : way ∈ (["runoff", "pairs", "share"] : List Str) := by rcases h2 with h | h | h <;> simp [h]
    have e2 := e way
    rw [decide_eq_true q] at e2
    by_cases h4 : way = "share"
    · subst h4
      simp only [d_is_way, g_is_way, fnF]
      simp [e2]
    · have h5 : seats = 1 := h3.resolve_left h4
      simp only [d_is_way, g_is_way, fnF]
      simp [e2, h4, h5]
theorem unlike1 {nm : Str} (h : goodN nm = true) : d_are_unlike_names [.tup [.str nm], .int 1, .int 1] S = .ok (.bl true) S :=
  unlike_ok (ns := [nm]) (fun n hn => by simp at hn; subst hn; exact h) (by simp) (by simp) (by simp) (by simp)
theorem unlikeHere : d_are_unlike_names [.tup [.str "here"], .int 1, .int 6] S = .ok (.bl true) S :=
  unlike_ok (ns := ["here"]) (fun n hn => by simp at hn; subst hn; exact here_good) (by simp) (by simp) (by simp) (by simp)
theorem ne_name_kind : ((Str.ofString "name" : Str) = Str.ofString "kind") = False := by simp only [eq_iff_iff, iff_false]; decide +kernel
theorem ne_name_choices : ((Str.ofString "name" : Str) = Str.ofString "choices") = False := by simp only [eq_iff_iff, iff_false]; decide +kernel
theorem ne_name_districts : ((Str.ofString "name" : Str) = Str.ofString "districts") = False := by simp only [eq_iff_iff, iff_false]; decide +kernel
theorem ne_name_seats : ((Str.ofString "name" : Str) = Str.ofString "seats") = False := by simp only [eq_iff_iff, iff_false]; decide +kernel
theorem ne_name_by : ((Str.ofString "name" : Str) = Str.ofString "by") = False := by simp only [eq_iff_iff, iff_false]; decide +kernel
theorem ne_kind_choices : ((Str.ofString "kind" : Str) = Str.ofString "choices") = False := by simp only [eq_iff_iff, iff_false]; decide +kernel
theorem ne_kind_districts : ((Str.ofString "kind" : Str) = Str.ofString "districts") = False := by simp only [eq_iff_iff, iff_false]; decide +kernel
theorem ne_kind_seats : ((Str.ofString "kind" : Str) = Str.ofString "seats") = False := by simp only [eq_iff_iff, iff_false]; decide +kernel
theorem ne_kind_by : ((Str.ofString "kind" : Str) = Str.ofString "by") = False := by simp only [eq_iff_iff, iff_false]; decide +kernel
theorem ne_choices_districts : ((Str.ofString "choices" : Str) = Str.ofString "districts") = False := by simp only [eq_iff_iff, iff_false]; decide +kernel
theorem ne_choices_seats : ((Str.ofString "choices" : Str) = Str.ofString "seats") = False := by simp only [eq_iff_iff, iff_false]; decide +kernel
theorem ne_choices_by : ((Str.ofString "choices" : Str) = Str.ofString "by") = False := by simp only [eq_iff_iff, iff_false]; decide +kernel
theorem ne_districts_seats : ((Str.ofString "districts" : Str) = Str.ofString "seats") = False := by simp only [eq_iff_iff, iff_false]; decide +kernel
theorem ne_districts_by : ((Str.ofString "districts" : Str) = Str.ofString "by") = False := by simp only [eq_iff_iff, iff_false]; decide +kernel
theorem ne_seats_by : ((Str.ofString "seats" : Str) = Str.ofString "by") = False := by simp only [eq_iff_iff, iff_false]; decide +kernel
theorem init_ok {nm kd : Str} {cs : List Str} {seats : Int} {way : Str} {c : Cell} (t : Told nm kd cs seats way) (hb : c.bel 2 = true) :
    d_Race_init [.loc 1, .str nm, .str kd, tupS cs, .tup [.str "here"], .int seats, .str way] [c, .ins "Race" []] = .ok .non [c, .ins "Race" [("name", .str nm), ("kind", .str kd), ("choices", tupS cs), ("districts", .tup [.str "here"]), ("seats", .int seats), ("by", .str way)]] := by
  have e1 := unlike1 (S := [c, .ins "Race" []]) t.nm
  have e2 : d_is_one_of [.str kd, .tup [.str "one", .str "any", .str "rank"]] [c, .ins "Race" []] = .ok (.bl true) [c, .ins "Race" []] := by
    have := oneOf_s (S := [c, .ins "Race" []]) (s := kd) (ns := ["one", "any", "rank"])
    rw [decide_eq_true (kinds_in t.kdOk)] at this
    exact this
  have e3 := unlike_ok (S := [c, .ins "Race" []]) (a := 2) (b := 5) t.good t.nd (by have := t.l2; omega) (by have := t.l5; omega) (by have := t.l5; omega)
  have e4 := unlikeHere (S := [c, .ins "Race" []])
  have e5 := between_ok (S := [c, .ins "Race" []]) seats 1 cs.length
  rw [decide_eq_true ⟨t.s1, t.s2⟩] at e5
  have e6 := way_ok (S := [c, .ins "Race" []]) t.w
  have nn : (cs.map D.str).length = cs.length := List.length_map _
  have ex : exitD .pure [c, .ins "Race" []] .non [c, .ins "Race" [("name", .str nm), ("kind", .str kd), ("choices", tupS cs), ("districts", .tup [.str "here"]), ("seats", .int seats), ("by", .str way)]] = .ok .non [c, .ins "Race" [("name", .str nm), ("kind", .str kd), ("choices", tupS cs), ("districts", .tup [.str "here"]), ("seats", .int seats), ("by", .str way)]] := by
    have b : ∀ l : List Str, belDs 2 (l.map .str) = true := fun l => by
      induction l with
      | nil => rfl
      | cons a l ih => show (true && belDs 2 (l.map .str)) = true; rw [ih]; rfl
    have rb : Cell.bel 2 (.ins "Race" [("name", .str nm), ("kind", .str kd), ("choices", tupS cs), ("districts", .tup [.str "here"]), ("seats", .int seats), ("by", .str way)]) = true := by
      simp [Cell.bel, belDs, belD, b]
    unfold exitD
    simp only [frzD]
    rw [if_pos (.inr (by
      show (Cell.bel 2 c && (Cell.bel 2 _ && true)) = true
      rw [hb, rb]; rfl))]
    rfl
  simp only [d_Race_init, g_Race_init, fnF]
  simp [e1, e2, e3, e4, e5, e6, putFD, startD, ex, ne_name_kind, ne_name_choices, ne_name_districts, ne_name_seats, ne_name_by, ne_kind_choices, ne_kind_districts, ne_kind_seats, ne_kind_by, ne_choices_districts, ne_choices_seats, ne_choices_by, ne_districts_seats, ne_districts_by, ne_seats_by]
theorem race_ok {nm kd : Str} {cs : List Str} {seats : Int} {way : Str} {c : Cell} (t : Told nm kd cs seats way) (hb : c.bel 2 = true) :
    d__law_race [toldD nm kd cs seats way] [c] = .ok (raceD nm kd cs seats way) [c] := by
  have e := init_ok t hb
  have ex : exitD .pure [c] (.loc 1) [c, .ins "Race" [("name", .str nm), ("kind", .str kd), ("choices", tupS cs), ("districts", .tup [.str "here"]), ("seats", .int seats), ("by", .str way)]] = .ok (raceD nm kd cs seats way) [c] := by
    have f : ∀ (ρ : Nat → Option D) (l : List Str), frzDs ρ (l.map .str) = some (l.map .str) := fun ρ l => frz_strs l
    refine exit_of ?_ rfl
    have step : ∀ k, resD 1 [c, .ins "Race" [("name", .str nm), ("kind", .str kd), ("choices", tupS cs), ("districts", .tup [.str "here"]), ("seats", .int seats), ("by", .str way)]] (k + 1) 1 = (frzDs (resD 1 [c, .ins "Race" [("name", .str nm), ("kind", .str kd), ("choices", tupS cs), ("districts", .tup [.str "here"]), ("seats", .int seats), ("by", .str way)]] k) [.str nm, .str kd, tupS cs, .tup [.str "here"], .int seats, .str way]).map (.obj "Race" ["name", "kind", "choices", "districts", "seats", "by"]) := fun k => rfl
    have st := step 11
    rw [show (11 + 1 : Nat) = 12 from rfl] at st
    rw [show [c].length = 1 from rfl, frzD, st]
    generalize resD 1 _ 11 = ρ
    simp [frzDs, frzD, f ρ cs]
  have a3 : ∀ a b c d e : D, atI [a, b, c, d, e] 3 = some d := fun _ _ _ _ _ => rfl
  have a4 : ∀ a b c d e : D, atI [a, b, c, d, e] 4 = some e := fun _ _ _ _ _ => rfl
  simp only [d__law_race, g__law_race, fnF]
  simp [pk, a3, a4, e, ex]
end DR
end
section
/-! A race told, drawn. -/
namespace DR
open PySem L2 DL
theorem cut_mid {α : Type} (xs : List α) (a b : Nat) (h : a ≤ b) (hb : b ≤ xs.length) : cutD xs (some (a : Int)) (some (b : Int)) = (xs.take b).drop a := by
  unfold cutD
  rw [sIx_n, sIx_n, Nat.min_eq_left (show a ≤ xs.length by omega), Nat.min_eq_left hb, List.drop_take]
end DR
end
section
/-! Dicts by names: what stands in them. -/
namespace DR
open PySem L2 DL
variable {S : Store}
theorem putD_len' (kds : Kds) (k : Key) (d : D) : (putD kds k d).length ≤ kds.length + 1 := by
  unfold putD
  split
  · simp
  · simp
/-- all new keys -/
theorem fold_put {α : Type} (k : α → Key) (v : α → D) : ∀ (l : List α) (acc : Kds), (l.map k).Nodup → (∀ a ∈ l, ∀ kv ∈ acc, kv.1 ≠ k a) → l.foldl (fun acc a => putD acc (k a) (v a)) acc = acc ++ l.map fun a => (k a, v a)
  | [], acc, _, _ => by simp
  | a :: l, acc, nd, h => by
    rw [List.map_cons, List.nodup_cons] at nd
    have e : putD acc (k a) (v a) = acc ++ [(k a, v a)] := by
      unfold putD
      rw [if_neg]
      intro z
      obtain ⟨kv, h1, h2⟩ := List.any_eq_true.mp z
      exact h a List.mem_cons_self kv h1 (of_decide_eq_true h2)
    rw [List.foldl_cons, e, fold_put k v l _ nd.2 (fun b hb kv hkv => by
      rcases List.mem_append.mp hkv with q | q
      · exact h b (List.mem_cons_of_mem _ hb) kv q
      · simp at q
        subst q
        intro z
        exact nd.1 (List.mem_map.mpr ⟨b, hb, z.symm⟩))]
    simp
theorem dcD_fold {α : Type} {b : D → EnvD → Option EnvD} {ek ev : EM} {env : EnvD} (h : α → D) (kd : α → D) (k : α → Key) (v : α → D) : ∀ (l : List α) (acc : Kds), (∀ a ∈ l, ∃ e1, b (h a) env = some e1 ∧ ek e1 S = .ok (kd a) S ∧ keyD (kd a) = some (k a) ∧ ev e1 S = .ok (v a) S) → acc.length + l.length ≤ 1000000 →
    dcD b eYes ek ev env acc (l.map h) S = some (l.foldl (fun acc a => putD acc (k a) (v a)) acc, S)
  | [], acc, _, _ => rfl
  | a :: l, acc, st, hl => by
    obtain ⟨e1, h1, h2, h3, h4⟩ := st a (by simp)
    have hl' : acc.length + (l.length + 1) ≤ 1000000 := hl
    have pl := putD_len' acc (k a) (v a)
    rw [List.map_cons]
    unfold dcD
    rw [h1]
    dsimp only [eYes]
    rw [h2]
    dsimp only
    rw [h4]
    dsimp only
    rw [h3]
    dsimp only
    rw [if_pos (show sz (acc.length + 1) from sz_is (by omega)), dcD_fold h kd k v l _ (fun c hc => st c (by simp [hc])) (by omega)]
    rfl
/-- a dict comprehension of unlike keys -/
theorem dcD_new {α : Type} {b : D → EnvD → Option EnvD} {ek ev : EM} {env : EnvD} (h : α → D) (kd : α → D) (k : α → Key) (v : α → D) (l : List α) (st : ∀ a ∈ l, ∃ e1, b (h a) env = some e1 ∧ ek e1 S = .ok (kd a) S ∧ keyD (kd a) = some (k a) ∧ ev e1 S = .ok (v a) S) (nd : (l.map k).Nodup) (hl : l.length ≤ 1000) :
    dcD b eYes ek ev env [] (l.map h) S = some (l.map fun a => (k a, v a), S) := by
  rw [dcD_fold h kd k v l [] st (by simp; omega), fold_put k v l [] nd (fun _ _ _ h => by simp at h)]
  simp
theorem nd_inr {cs : List Str} (nd : cs.Nodup) : (cs.map fun c => (.inr c : Key)).Nodup := nd.map _ (fun a b h z => h (Sum.inr.inj z))
/-- enumerate of names -/
theorem enum_strs (l : List Str) : enumD 0 (l.map D.str) = (l.zipIdx).map fun p => .tup [.int (p.2 : Nat), .str p.1] := by
  have : ∀ (l : List Str) (n : Nat), enumD n (l.map D.str) = (l.zipIdx n).map fun p => .tup [.int (p.2 : Nat), .str p.1] := by
    intro l
    induction l with
    | nil => intro n; rfl
    | cons a l ih => intro n; simp [enumD, List.zipIdx_cons] at ih ⊢; exact ih (n + 1)
  exact this l 0
end DR
end
section
/-! Marks drawn; good ones. -/
namespace DR
open PySem L2 DL
variable {S : Store}
/-- a filter by draws -/
theorem lc_pick {elt tt : EM} {env : EnvD} {i : Nat} (he : ∀ (s : Str) (c : Cell) (m : Nat), Drw c m → m ≤ 90000 → ∃ (b : Bool) (c' : Cell), tt (env.set i (some (.str s))) [c] = .ok (.bl b) [c'] ∧ Drw c' (m + 1)) (hv : ∀ (s : Str) (S : Store), elt (env.set i (some (.str s))) S = .ok (.str s) S) :
    ∀ (ss : List Str) (acc : List Str) (c : Cell) (m : Nat), Drw c m → m + ss.length ≤ 90000 → acc.length + ss.length ≤ 100000 →
      ∃ (l : List Str) (c' : Cell), lcD (bName i) tt elt env (acc.map .str) (ss.map .str) [c] = .ok ((acc ++ l).map .str) [c'] ∧ l.Sublist ss ∧ Drw c' (m + ss.length)
  | [], acc, c, m, d, _, _ => ⟨[], c, by simp, .slnil, d⟩
  | s :: ss, acc, c, m, d, hm, hl => by
    have hl' : acc.length + (ss.length + 1) ≤ 100000 := hl
    have hm' : m + (ss.length + 1) ≤ 90000 := hm
    obtain ⟨b, c1, h1, h3⟩ := he s c m d (by omega)
    cases b with
    | true =>
      obtain ⟨l, c2, h4, h5, h7⟩ := lc_pick he hv ss (acc ++ [s]) c1 (m + 1) h3 (by omega) (by simp; omega)
      refine ⟨s :: l, c2, ?_, h5.cons₂ s, ?_⟩
      · rw [List.map_cons]
        unfold lcD
        dsimp only [bName]
        rw [h1]
        dsimp only
        rw [hv]
        dsimp only
        rw [if_pos (show sz ((acc.map D.str).length + 1) from sz_is (by simp; omega))]
        have e : acc.map D.str ++ [D.str s] = (acc ++ [s]).map D.str := by simp
        rw [e, h4]
        simp
      · rw [show m + (s :: ss).length = m + 1 + ss.length by simp; omega]; exact h7
    | false =>
      obtain ⟨l, c2, h4, h5, h7⟩ := lc_pick he hv ss acc c1 (m + 1) h3 (by omega) (by omega)
      refine ⟨l, c2, ?_, h5.cons s, ?_⟩
      · rw [List.map_cons]
        unfold lcD
        dsimp only [bName]
        rw [h1]
        dsimp only
        rw [h4]
      · rw [show m + (s :: ss).length = m + 1 + ss.length by simp; omega]; exact h7
/-- what stands on a paper: nothing, the sign of spoilt ones, or choices -/
inductive Mk where
  | no | odd | good (l : List Str)
def Mk.D (one : Bool) : Mk → PySem.Str → D
  | .no, _ => .non
  | .odd, _ => .str "?"
  | .good l, _ => if one then .str (l.headD "") else .tup (l.map .str)
def mkD (one : Bool) : Mk → D
  | .no => .non
  | .odd => .str "?"
  | .good l => if one then .str (l.headD "") else .tup (l.map .str)
structure MkOk (one : Bool) (cs : List Str) (mk : Mk) : Prop where
  ok : ∀ l, mk = .good l → l ≠ [] ∧ l.Nodup ∧ (∀ c ∈ l, c ∈ cs) ∧ (one = true → l.length = 1)
theorem shuf_ok {α : Type} (f : α → D) (hf : ∀ ρ a, frzD ρ (f a) = some (f a)) (l : List α) {c : Cell} {m : Nat} (d : Drw c m) (hm : m + l.length ≤ 90000) (hl : l.length ≤ 900) :
    ∃ (l' : List α) (c' : Cell), d__law_shuffled [.loc 0, .lst (l.map f)] [c] = .ok (.lst (l'.map f)) [c'] ∧ l'.Perm l ∧ Drw c' (m + l.length) := by
  obtain ⟨l', c', h1, h2, h3⟩ := shuffle_loop f (elt := g__law_shuffled_e1) (env := [some (.loc 0), some (.lst (l.map f)), some (.loc 1), none]) (fun k S => rfl) l.length (rangeD 0 l.length) l [] c m rfl (by simp) (by simp; omega) d hm
  refine ⟨l', c', ?_, h2, h3⟩
  have r : rOk (l.length : Int) := rOk_n (by omega)
  have ex := exit_draw (c := c) (c' := c') (T := [.lst []]) (d := .lst (l'.map f)) (d' := .lst (l'.map f)) (by simp [frzD, frzDs_map (hf _)]) h3.bel
  simp only [List.nil_append] at h1
  have c0 : cel [c, .lst (l.map f)] 1 = some (.lst (l.map f)) := rfl
  simp [d__law_shuffled, g__law_shuffled, r, c0, h1, ex]
end DR
end
section
/-! What the program and the laws say of marks. -/
namespace DR
open PySem L2 DL
variable {S : Store}
/-! the program's words -/
@[simp] theorem fld_kind {nm kd : Str} {cs : List Str} {seats : Int} {way : Str} : fldC S (raceD nm kd cs seats way) "kind" = some (("Race" : Str), D.str kd) := rfl
@[simp] theorem fld_choices {nm kd : Str} {cs : List Str} {seats : Int} {way : Str} : fldC S (raceD nm kd cs seats way) "choices" = some (("Race" : Str), tupS cs) := rfl
@[simp] theorem fld_seats {nm kd : Str} {cs : List Str} {seats : Int} {way : Str} : fldC S (raceD nm kd cs seats way) "seats" = some (("Race" : Str), D.int seats) := rfl
theorem goodN_ok {s : Str} (h : goodN s = true) : PyData.strOk s = true := by
  unfold goodN at h
  simp only [Bool.and_eq_true, decide_eq_true_eq, List.all_eq_true] at h
  obtain ⟨_, h3⟩ := h
  have q : ∀ c ∈ abc.cps.toList, c < 0x110000 := by decide +kernel
  unfold PyData.strOk
  rw [Array.all_eq_true']
  intro c hc
  exact decide_eq_true (q c (h3 c (by simpa using hc)))
theorem pys_strs : ∀ l : List Str, D.pys S (l.map .str) = some (l.map .str)
  | [] => rfl
  | n :: ns => by simp [D.pys, D.py, pys_strs ns]
theorem eqv_strs : ∀ as bs : List Str, PyData.eqvAll (as.map .str) (bs.map .str) = decide (as = bs)
  | [], [] => rfl
  | [], _ :: _ => rfl
  | _ :: _, [] => rfl
  | a :: as, b :: bs => by
    show (PyData.eqv (.str a) (.str b) && PyData.eqvAll (as.map .str) (bs.map .str)) = _
    rw [eqv_strs as bs]
    show ((a == b) && decide (as = bs)) = _
    by_cases h : a = b
    · subst h; simp
    · simp [h]
theorem shp_strs {l : List Str} {k : Nat} (h : ∀ n ∈ l, PyData.strOk n = true) : ∀ p ∈ l.map PyData.str, Shp k p := fun p hp => by
  obtain ⟨s, hs, rfl⟩ := List.mem_map.mp hp
  exact .str (h s hs)
end DR
end
section
/-! Good marks; counting loops. -/
namespace DR
open PySem L2 DL
variable {S : Store}
theorem lcD_fa {α : Type} {b : D → EnvD → Option EnvD} {tt elt : EM} {env : EnvD} (h : α → D) (p : α → Bool) (f : α → D) : ∀ (l : List α) (acc : List D),
    (∀ a ∈ l, ∃ e1, b (h a) env = some e1 ∧ tt e1 S = .ok (.bl (p a)) S ∧ (p a = true → elt e1 S = .ok (f a) S)) → acc.length + l.length ≤ 16777216 → lcD b tt elt env acc (l.map h) S = .ok (acc ++ (l.filter p).map f) S
  | [], acc, _, _ => by simp
  | a :: l, acc, st, hl => by
    obtain ⟨e1, hb, ht, he⟩ := st a List.mem_cons_self
    have hl' : acc.length + (l.length + 1) ≤ 16777216 := hl
    rw [List.map_cons]
    unfold lcD
    rw [hb]
    dsimp only
    rw [ht]
    cases hp : p a with
    | true =>
      dsimp only
      rw [he hp]
      dsimp only
      rw [if_pos (show sz (acc.length + 1) by unfold sz; omega), lcD_fa h p f l _ (fun d' hd => st d' (List.mem_cons_of_mem _ hd)) (by simp; omega)]
      simp [List.filter_cons, hp]
    | false =>
      dsimp only
      rw [lcD_fa h p f l acc (fun d' hd => st d' (List.mem_cons_of_mem _ hd)) (by omega)]
      simp [List.filter_cons, hp]
theorem lcD_ma {α : Type} {b : D → EnvD → Option EnvD} {elt : EM} {env : EnvD} (h : α → D) (f : α → D) (l : List α) (st : ∀ a ∈ l, ∃ e1, b (h a) env = some e1 ∧ elt e1 S = .ok (f a) S) (hl : l.length ≤ 16777216) : lcD b eYes elt env [] (l.map h) S = .ok (l.map f) S := by
  rw [lcD_fa (tt := eYes) h (fun _ => true) f l [] (fun a ha => let ⟨e1, x, y⟩ := st a ha; ⟨e1, x, rfl, fun _ => y⟩) (by simpa using hl), List.nil_append, List.filter_eq_self.mpr (fun _ _ => rfl)]
section
variable {nm kd : Str} {cs : List Str} {seats : Int} {way : Str}
end
end DR
end
section
/-! The first of the greatest, one after the other: the sorted row. No program. -/
namespace DR
variable {α : Type} [DecidableEq α]
end DR
end
section
/-! The order of names: more first, as much by the lot. -/
namespace DR
open PySem L2 DL
variable {S : Store}
/-- the places in the lot -/
def plc (lot : List Str) : Kds := lot.zipIdx.map fun p => ((.inr p.1 : Key), D.int (p.2 : Nat))
theorem zipIdx_keys : ∀ (lot : List Str) (n : Nat), (lot.zipIdx n).map (fun p => (.inr p.1 : Key)) = lot.map fun c => (.inr c : Key)
  | [], _ => rfl
  | a :: l, n => by rw [List.zipIdx_cons, List.map_cons, zipIdx_keys l (n + 1)]; rfl
theorem places_ok {lot : List Str} {env : EnvD} (nd : lot.Nodup) (hl : lot.length ≤ 1000) (he : env.length = 8) : dcD (bTup (bCons (bName 4) (bCons (bName 5) bNil))) eYes (eVar 5) (eVar 4) env [] (enumD 0 (lot.map .str)) S = some (plc lot, S) := by
  rw [enum_strs]
  refine dcD_new (fun p : Str × Nat => D.tup [.int (p.2 : Nat), .str p.1]) (fun p => .str p.1) (fun p => .inr p.1) (fun p => .int (p.2 : Nat)) lot.zipIdx (fun p _ => ?_) ?_ (by simpa using hl)
  · refine ⟨_, rfl, ?_, rfl, ?_⟩
    · exact eVar_at (by simp [he])
    · exact eVar_at (by rw [List.getElem?_set_ne (by decide), List.getElem?_set_self (by omega)])
  · rw [zipIdx_keys]; exact nd_inr nd
end DR
end
section
/-! Counting names; things that are like themselves. -/
namespace DR
open PySem L2 DL
variable {S : Store}
structure Sm (k : Nat) (p : PyData) : Prop where
  shp : Shp k p
  refl : PyData.eqv p p = true
theorem Sm.int {k : Nat} (i : Int) : Sm k (.int i) := ⟨.int i, by show (i == i) = true; simp⟩
theorem Sm.none {k : Nat} : Sm k .none := ⟨.none, rfl⟩
theorem Sm.str {k : Nat} {x : Str} (h : PyData.strOk x = true) : Sm k (.str x) := ⟨.str h, by show (x == x) = true; simp⟩
theorem Sm.all {k : Nat} : ∀ {ps : List PyData}, (∀ p ∈ ps, Sm k p) → PyData.eqvAll ps ps = true
  | [], _ => rfl
  | p :: ps, h => by
    show (PyData.eqv p p && PyData.eqvAll ps ps) = true
    rw [(h p List.mem_cons_self).refl, Sm.all fun q hq => h q (List.mem_cons_of_mem _ hq)]; rfl
theorem Sm.list {k : Nat} {ps : List PyData} (h : ∀ p ∈ ps, Sm k p) : Sm (k + 1) (.list ps) := ⟨.list fun p hp => (h p hp).shp, Sm.all h⟩
theorem Sm.tuple {k : Nat} {ps : List PyData} (h : ∀ p ∈ ps, Sm k p) : Sm (k + 1) (.tuple ps) := ⟨.tuple fun p hp => (h p hp).shp, Sm.all h⟩
/-! counting -/
def part (rank : Bool) (l : List Str) : List Str := if rank then l.take 1 else l
end DR
end
section
/-! Marks of one and any: names in the order of choices; all parts of a row of names. -/
namespace DR
open PySem L2 DL
variable {S : Store}
/-! all parts -/
def subStep (acc : List (List Str)) (c : Str) : List (List Str) := acc ++ acc.map (· ++ [c])
def subsL (cs : List Str) : List (List Str) := cs.foldl subStep [[]]
structure SubsOk (cs : List Str) : Prop where
  hd : ∃ T, subsL cs = [] :: T ∧ ∀ l ∈ T, l ≠ []
  len : (subsL cs).length = 2 ^ cs.length
  mem : ∀ l, l ∈ subsL cs ↔ l.Sublist cs
/-! marks beside one another -/
instance : DecidableEq Mk := fun a b => match a, b with
  | .no, .no => isTrue rfl
  | .odd, .odd => isTrue rfl
  | .good l, .good m => if h : l = m then isTrue (by rw [h]) else isFalse fun z => h (by cases z; rfl)
  | .no, .odd => isFalse fun z => by cases z
  | .no, .good _ => isFalse fun z => by cases z
  | .odd, .no => isFalse fun z => by cases z
  | .odd, .good _ => isFalse fun z => by cases z
  | .good _, .no => isFalse fun z => by cases z
  | .good _, .odd => isFalse fun z => by cases z
end DR
end
section
/-! Names, drawn (parts, codes). -/
namespace DW
open PySem L2 DL DR
variable {S : Store}
def ownW : List Str := ["place", "letter", "doubt", "one", "any", "rank", "runoff", "pairs", "share", "each", "odd", "admit", "refuse", "counts", "doubled", "out", "enter", "move", "strike", "restore", "vote", "roll", "uses", "none", "spoilt", "blank"]
def tlW : List Str := ["", "x", "qx", "qxqqx", "qxqxqxq", "xxqxqxq"]
def txW : Str := "place letter doubt one any rank runoff pairs share each odd admit refuse counts doubled out enter move" ++ " strike restore vote roll uses none spoilt blank"
theorem splitW : Txt.split txW " " = ownW := by decide +kernel
theorem spW {c : Cell} : mSplit (.str txW) [.str " "] [c] = .ok (.lst (ownW.map .str)) [c] := by
  show (if ((" " : Str).length == 0) = false ∧ txW.length ≤ 10000000 then ER.ok (D.lst ((Txt.split txW " ").map D.str)) [c] else ER.bad) = _
  rw [splitW]
  exact if_pos ⟨by decide +kernel, by decide +kernel⟩
theorem adW : opAdd (.str "place letter doubt one any rank runoff pairs share each odd admit refuse counts doubled out enter move") (.str " strike restore vote roll uses none spoilt blank") S = .ok (.str txW) S := by
  rw [opAdd_ss, if_pos (sz_is (by decide +kernel))]; rfl
def nmW (i t k : Nat) : Str := sgs.getD ((i + 5 * k) % 26) "" ++ tlW.getD ((t + k * k) % 6) ""
def namesA (i n : Nat) : List Str := (ownW.drop i ++ ownW.take i).take n
def namesB (i t n : Nat) : List Str := (List.range n).map (nmW i t)
/-- unlike good names -/
structure NamesN (n : Nat) (ns : List Str) : Prop where
  len : ns.length = n
  good : ∀ n ∈ ns, goodN n = true
  nd : ns.Nodup
theorem NamesN.take {n m : Nat} {ns : List Str} (h : NamesN n ns) (hm : m ≤ n) : NamesN m (ns.take m) :=
  ⟨by rw [List.length_take, h.len]; omega, fun x hx => h.good x (List.mem_of_mem_take hx), h.nd.sublist (List.take_sublist _ _)⟩
def okN (ns : List Str) : Bool := decide (ns.length = 26) && ns.all goodN && decide ns.Nodup
theorem okN_is {ns : List Str} (h : okN ns = true) : NamesN 26 ns := by
  unfold okN at h
  simp only [Bool.and_eq_true, decide_eq_true_eq, List.all_eq_true] at h
  exact ⟨h.1.1, h.1.2, h.2⟩
theorem okN_of {ns : List Str} (h : NamesN 26 ns) : okN ns = true := by
  unfold okN
  rw [decide_eq_true h.len, decide_eq_true h.nd, Bool.true_and, Bool.and_true, List.all_eq_true]
  exact h.good
theorem ownW_ok : NamesN 26 ownW := ⟨by decide, by
  have : ownW.all goodN = true := by decide +kernel
  exact List.all_eq_true.mp this, by decide +kernel⟩
theorem okA : ∀ i, i < 26 → okN (namesA i 26) = true := fun i hi => by
  have p : (ownW.drop i ++ ownW.take i).Perm ownW := by
    have := List.perm_append_comm (l₁ := ownW.drop i) (l₂ := ownW.take i)
    rw [List.take_append_drop] at this
    exact this
  have e : namesA i 26 = ownW.drop i ++ ownW.take i := by
    unfold namesA
    exact List.take_of_length_le (by rw [p.length_eq, ownW_ok.len]; exact Nat.le_refl _)
  rw [e]
  exact okN_of ⟨by rw [p.length_eq, ownW_ok.len], fun x hx => ownW_ok.good x (p.subset hx), p.nodup_iff.mpr ownW_ok.nd⟩
theorem nm_good : ∀ j, j < 26 → ∀ u, u < 6 → goodN (sgs.getD j "" ++ tlW.getD u "") = true := by decide +kernel
theorem nm_head : ∀ j, j < 26 → ∀ u, u < 6 → (sgs.getD j "" ++ tlW.getD u "").cps[0]? = some (97 + j) := by decide +kernel
theorem okB : ∀ i, i < 26 → ∀ t, t < 6 → okN (namesB i t 26) = true := fun i hi t ht => by
  refine okN_of ⟨by unfold namesB; rw [List.length_map, List.length_range], fun x hx => ?_, ?_⟩
  · obtain ⟨k, _, rfl⟩ := List.mem_map.mp hx
    exact nm_good _ (Nat.mod_lt _ (by decide)) _ (Nat.mod_lt _ (by decide))
  · unfold namesB
    refine List.pairwise_map.mpr ((List.nodup_range (n := 26)).imp_of_mem fun {a b} ha hb hab e => hab ?_)
    have ha := List.mem_range.mp ha
    have hb := List.mem_range.mp hb
    have h1 := nm_head ((i + 5 * a) % 26) (Nat.mod_lt _ (by decide)) ((t + a * a) % 6) (Nat.mod_lt _ (by decide))
    have h2 := nm_head ((i + 5 * b) % 26) (Nat.mod_lt _ (by decide)) ((t + b * b) % 6) (Nat.mod_lt _ (by decide))
    unfold nmW at e
    rw [e, h2] at h1
    have h3 := Option.some.inj h1
    omega
theorem takeA {i n : Nat} (h : n ≤ 26) : namesA i n = (namesA i 26).take n := by
  unfold namesA; rw [List.take_take, Nat.min_eq_left h]
theorem takeB {i t n : Nat} (h : n ≤ 26) : namesB i t n = (namesB i t 26).take n := by
  unfold namesB; rw [← List.map_take, List.take_range, Nat.min_eq_left h]
theorem tl_atW {j : Nat} (h : j < 6) : atI ([.str "", .str "x", .str "qx", .str "qxqqx", .str "qxqxqxq", .str "xxqxqxq"] : List D) (j : Int) = some (.str (tlW.getD j "")) := by
  have : ([.str "", .str "x", .str "qx", .str "qxqqx", .str "qxqxqxq", .str "xxqxqxq"] : List D) = tlW.map .str := rfl
  rw [this, atI_ofNat (by simp [tlW]; omega)]
  simp [List.getD, List.getElem?_eq_getElem (by simp [tlW]; omega : j < tlW.length)]
theorem nmW_sz {i t k : Nat} : (sgs.getD ((i + 5 * k) % 26) "").length + (tlW.getD ((t + k * k) % 6) "").length ≤ 8 := by
  have h1 : ∀ j, j < 26 → (sgs.getD j "").length = 1 := by decide +kernel
  have h2 : ∀ j, j < 6 → (tlW.getD j "").length ≤ 7 := by decide +kernel
  have := h1 ((i + 5 * k) % 26) (Nat.mod_lt _ (by decide))
  have := h2 ((t + k * k) % 6) (Nat.mod_lt _ (by decide))
  omega
theorem lc_names {i t n : Nat} {a b s w : Option D} (hn : n ≤ 26) : lcD (bName 7) eYes g__law_names_e1 [a, b, s, some (.str abc), some (.int (i : Nat)), some (.int (t : Nat)), some (.lst [.str "", .str "x", .str "qx", .str "qxqqx", .str "qxqxqxq", .str "xxqxqxq"]), none] [] (rangeD 0 n) S = .ok ((namesB i t n).map .str) S := by
  have e := lcD_ma (S := S) (b := bName 7) (elt := g__law_names_e1) (env := [a, b, s, some (.str abc), some (.int (i : Nat)), some (.int (t : Nat)), some (.lst [.str "", .str "x", .str "qx", .str "qxqqx", .str "qxqxqxq", .str "xxqxqxq"]), none]) (fun k : Nat => D.int (0 + (k : Int))) (fun k => .str (nmW i t k)) (List.range n) (fun k hk => by
    have hk' : k < n := List.mem_range.mp hk
    refine ⟨_, rfl, ?_⟩
    have z0 : sz abc.length := sz_is (by decide +kernel)
    have s1 := sg_at (j := (i + 5 * k) % 26) (Nat.mod_lt _ (by decide))
    have s2 := tl_atW (j := (t + k * k) % 6) (Nat.mod_lt _ (by decide))
    have m1 : mulOk (5 : Int) (k : Int) := mulOk_l (by decide)
    have m2 : mulOk (k : Int) (k : Int) := mulOk_l (by omega)
    have e1 : ((i : Int) + 5 * (k : Int)) % 26 = (((i + 5 * k) % 26 : Nat) : Int) := by omega
    have e2 : ((t : Int) + (k : Int) * (k : Int)) % 6 = (((t + k * k) % 6 : Nat) : Int) := by
      rw [← Int.natCast_mul]; omega
    have z1 := sz_is (n := (sgs.getD ((i + 5 * k) % 26) "").length + (tlW.getD ((t + k * k) % 6) "").length) (by have := nmW_sz (i := i) (t := t) (k := k); omega)
    have hs : ∀ S, opIxX (.str abc) (.int (((i + 5 * k) % 26 : Nat) : Int)) S = .ok (.str (sgs.getD ((i + 5 * k) % 26) "")) S := fun S => by rw [opIxX_s, if_pos z0, s1]
    have ht : ∀ S, opIxX (.lst [.str "", .str "x", .str "qx", .str "qxqqx", .str "qxqxqxq", .str "xxqxqxq"]) (.int (((t + k * k) % 6 : Nat) : Int)) S = .ok (.str (tlW.getD ((t + k * k) % 6) "")) S := fun S => by rw [opIxX_l, s2]
    have k0 : (0 : Int) + (k : Int) = (k : Int) := Int.zero_add _
    have res : D.str (nmW i t k) = .str (sgs.getD ((i + 5 * k) % 26) "" ++ tlW.getD ((t + k * k) % 6) "") := rfl
    rw [res]
    generalize sgs.getD ((i + 5 * k) % 26) "" = x at *
    generalize tlW.getD ((t + k * k) % 6) "" = y at *
    generalize (D.lst [.str "", .str "x", .str "qx", .str "qxqqx", .str "qxqxqxq", .str "xxqxqxq"]) = T at *
    generalize (D.str abc) = A at *
    simp [g__law_names_e1, m1, m2, e1, e2, hs, ht, z1, k0, -Int.natCast_emod, -Int.natCast_add, -Int.natCast_mul]) (by simp; omega)
  have r1 : (List.range n).map (fun k : Nat => D.int (0 + (k : Int))) = rangeD 0 n := rfl
  have r2 : (List.range n).map (fun k => D.str (nmW i t k)) = (namesB i t n).map .str := by unfold namesB; rw [List.map_map]; rfl
  rw [r1, r2] at e
  exact e
theorem names_ok {c : Cell} {m n : Nat} (hn : n ≤ 26) (d : Drw c m) (hm : m ≤ 90000) : ∃ ns c', d__law_names [.loc 0, .int (n : Nat)] [c] = .ok (.lst (ns.map .str)) [c'] ∧ NamesN n ns ∧ Drw c' (m + 3) := by
  obtain ⟨x, c1, n1, x0, x1, d1⟩ := next1 26 d (by omega) (by decide) (by decide)
  obtain ⟨y, c2, n2, y0, y1, d2⟩ := next1 6 d1 (by omega) (by decide) (by decide)
  obtain ⟨z, c3, n3, z0, z1, d3⟩ := next1 4 d2 (by omega) (by decide) (by decide)
  obtain ⟨i, rfl⟩ := Int.eq_ofNat_of_zero_le x0
  obtain ⟨t, rfl⟩ := Int.eq_ofNat_of_zero_le y0
  have hi : i < 26 := by omega
  have ht : t < 6 := by omega
  have ty : ∀ s, tyD "str" [c] (.str s) = true := fun _ => rfl
  have ad := adW (S := [c])
  have sp := spW (c := c)
  have st : ∀ a b : D, startD 8 [a, b] = [some a, some b, none, none, none, none, none, none] := fun _ _ => rfl
  have ol : ownW.length = 26 := rfl
  have ty' : tyD "str" [c] (.str txW) = true := rfl
  by_cases hz : z = 0
  · subst hz
    refine ⟨namesA i n, c3, ?_, by rw [takeA hn]; exact (okN_is (okA i hi)).take hn, d3⟩
    have ad3 : opAdd (.lst ((ownW.drop i).map .str)) (.lst ((ownW.take i).map .str)) [c3] = .ok (.lst ((ownW.drop i ++ ownW.take i).map .str)) [c3] := by
      rw [opAdd_ll, if_pos (sz_is (by simp; omega)), List.map_append]
    have k1 : cutD (ownW.map D.str) (some (i : Int)) none = (ownW.drop i).map .str := by rw [cut_lo, List.map_drop]
    have k2 : cutD (ownW.map D.str) none (some (i : Int)) = (ownW.take i).map .str := by rw [cut_hi, List.map_take]
    have k3 : cutD ((ownW.drop i ++ ownW.take i).map D.str) none (some (n : Int)) = (namesA i n).map .str := by rw [cut_hi, namesA, List.map_take]
    have ex : exitD .keep [c] (.lst ((namesA i n).map .str)) [c3] = .ok (.lst ((namesA i n).map .str)) [c3] := rfl
    generalize (ownW.drop i ++ ownW.take i).map D.str = O3 at *
    generalize (ownW.drop i).map D.str = O1 at *
    generalize (ownW.take i).map D.str = O2 at *
    generalize ownW.map D.str = O at *
    generalize (namesA i n).map D.str = NA at *
    generalize (D.str txW) = TX at *
    simp [d__law_names, g__law_names, st, oSome, oNone, ty, ty', sp, ad, n1, n2, n3, k1, k2, ad3, k3, ex, -opAdd_ll, -opAdd_ss]
  · refine ⟨namesB i t n, c3, ?_, by rw [takeB hn]; exact (okN_is (okB i hi t ht)).take hn, d3⟩
    have lc := lc_names (S := [c3]) (i := i) (t := t) (n := n) (a := some (.loc 0)) (b := some (.int (n : Nat))) (s := some (.lst (ownW.map .str))) (w := none) hn
    have ex : exitD .keep [c] (.lst ((namesB i t n).map .str)) [c3] = .ok (.lst ((namesB i t n).map .str)) [c3] := rfl
    have rk : rOk (n : Int) := rOk_n (by omega)
    have ea : (Str.ofString "abcdefghijklmnopqrstuvwxyz") = abc := rfl
    have z6 : sz 6 := sz_is (by decide)
    generalize ownW.map D.str = O at *
    generalize (namesB i t n).map D.str = NA at *
    simp [d__law_names, g__law_names, st, oSome, oNone, ty, ty', sp, ad, n1, n2, n3, hz, rk, z6, ea, lc, ex, -opAdd_ll, -opAdd_ss]
end DW
end
section
/-! Things in a drawn order; races by their parts. -/
namespace DW
open PySem L2 DL DR
variable {S : Store}
theorem shuf_ok {α : Type} (f : α → D) (hf : ∀ ρ a, frzD ρ (f a) = some (f a)) (l : List α) {c : Cell} {m : Nat} (d : Drw c m) (hm : m + l.length ≤ 90000) (hl : l.length ≤ 900) :
    ∃ (l' : List α) (c' : Cell), d__law_shuffled [.loc 0, .lst (l.map f)] [c] = .ok (.lst (l'.map f)) [c'] ∧ l'.Perm l ∧ Drw c' (m + l.length) := by
  obtain ⟨l', c', h1, h2, h3⟩ := shuffle_loop f (elt := g__law_shuffled_e1) (env := [some (.loc 0), some (.lst (l.map f)), some (.loc 1), none]) (fun k S => rfl) l.length (rangeD 0 l.length) l [] c m rfl (by simp) (by simp; omega) d hm
  refine ⟨l', c', ?_, h2, h3⟩
  have r : rOk (l.length : Int) := rOk_n (by omega)
  have ex := exit_draw (c := c) (c' := c') (T := [.lst []]) (d := .lst (l'.map f)) (d' := .lst (l'.map f)) (by simp [frzD, frzDs_map (hf _)]) h3.bel
  simp only [List.nil_append] at h1
  have z : sz l.length := sz_is (by omega)
  simp [d__law_shuffled, g__law_shuffled, r, z, h1, ex]
abbrev toldW (nm kd : Str) (cs ds : List Str) (seats : Int) (way : Str) : D := .tup [.str nm, .str kd, tupS cs, tupS ds, .int seats, .str way]
abbrev raceW (nm kd : Str) (cs ds : List Str) (seats : Int) (way : Str) : D := .obj "Race" ["name", "kind", "choices", "districts", "seats", "by"] [.str nm, .str kd, tupS cs, tupS ds, .int seats, .str way]
structure Dst (ds : List Str) : Prop where
  good : ∀ n ∈ ds, goodN n = true
  nd : ds.Nodup
  l1 : 1 ≤ ds.length
  l6 : ds.length ≤ 6
theorem init_ok {nm kd : Str} {cs ds : List Str} {seats : Int} {way : Str} {c : Cell} (t : Told nm kd cs seats way) (td : Dst ds) (hb : c.bel 2 = true) :
    d_Race_init [.loc 1, .str nm, .str kd, tupS cs, tupS ds, .int seats, .str way] [c, .ins "Race" []] = .ok .non [c, .ins "Race" [("name", .str nm), ("kind", .str kd), ("choices", tupS cs), ("districts", tupS ds), ("seats", .int seats), ("by", .str way)]] := by
  have e1 := unlike1 (S := [c, .ins "Race" []]) t.nm
  have e2 : d_is_one_of [.str kd, .tup [.str "one", .str "any", .str "rank"]] [c, .ins "Race" []] = .ok (.bl true) [c, .ins "Race" []] := by
    have := oneOf_s (S := [c, .ins "Race" []]) (s := kd) (ns := ["one", "any", "rank"])
    rw [decide_eq_true (kinds_in t.kdOk)] at this
    exact this
  have e3 := unlike_ok (S := [c, .ins "Race" []]) (a := 2) (b := 5) t.good t.nd (by have := t.l2; omega) (by have := t.l5; omega) (by have := t.l5; omega)
  have e4 := unlike_ok (S := [c, .ins "Race" []]) (a := 1) (b := 6) td.good td.nd (by have := td.l1; omega) (by have := td.l6; omega) (by have := td.l6; omega)
  have e5 := between_ok (S := [c, .ins "Race" []]) seats 1 cs.length
  rw [decide_eq_true ⟨t.s1, t.s2⟩] at e5
  have e6 := way_ok (S := [c, .ins "Race" []]) t.w
  have nn : (cs.map D.str).length = cs.length := List.length_map _
  have ex : exitD .pure [c, .ins "Race" []] .non [c, .ins "Race" [("name", .str nm), ("kind", .str kd), ("choices", tupS cs), ("districts", tupS ds), ("seats", .int seats), ("by", .str way)]] = .ok .non [c, .ins "Race" [("name", .str nm), ("kind", .str kd), ("choices", tupS cs), ("districts", tupS ds), ("seats", .int seats), ("by", .str way)]] := by
    have b : ∀ l : List Str, belDs 2 (l.map .str) = true := fun l => by
      induction l with
      | nil => rfl
      | cons a l ih => show (true && belDs 2 (l.map .str)) = true; rw [ih]; rfl
    have rb : Cell.bel 2 (.ins "Race" [("name", .str nm), ("kind", .str kd), ("choices", tupS cs), ("districts", tupS ds), ("seats", .int seats), ("by", .str way)]) = true := by
      simp [Cell.bel, belDs, belD, b]
    unfold exitD
    simp only [frzD]
    rw [if_pos (.inr (by
      show (Cell.bel 2 c && (Cell.bel 2 _ && true)) = true
      rw [hb, rb]; rfl))]
    rfl
  simp only [d_Race_init, g_Race_init, fnF]
  simp [e1, e2, e3, e4, e5, e6, putFD, startD, ex, ne_name_kind, ne_name_choices, ne_name_districts, ne_name_seats, ne_name_by, ne_kind_choices, ne_kind_districts, ne_kind_seats, ne_kind_by, ne_choices_districts, ne_choices_seats, ne_choices_by, ne_districts_seats, ne_districts_by, ne_seats_by]
end DW
end
section
namespace DW
open PySem L2 DL DR
variable {S : Store}
theorem race_ok {nm kd : Str} {cs ds : List Str} {seats : Int} {way : Str} {c : Cell} (t : Told nm kd cs seats way) (td : Dst ds) (hb : c.bel 2 = true) :
    d__law_race [toldW nm kd cs ds seats way] [c] = .ok (raceW nm kd cs ds seats way) [c] := by
  have e := init_ok t td hb
  have ex : exitD .pure [c] (.loc 1) [c, .ins "Race" [("name", .str nm), ("kind", .str kd), ("choices", tupS cs), ("districts", tupS ds), ("seats", .int seats), ("by", .str way)]] = .ok (raceW nm kd cs ds seats way) [c] := by
    have f : ∀ (ρ : Nat → Option D) (l : List Str), frzDs ρ (l.map .str) = some (l.map .str) := fun ρ l => frz_strs l
    refine exit_of ?_ rfl
    have step : ∀ k, resD 1 [c, .ins "Race" [("name", .str nm), ("kind", .str kd), ("choices", tupS cs), ("districts", tupS ds), ("seats", .int seats), ("by", .str way)]] (k + 1) 1 = (frzDs (resD 1 [c, .ins "Race" [("name", .str nm), ("kind", .str kd), ("choices", tupS cs), ("districts", tupS ds), ("seats", .int seats), ("by", .str way)]] k) [.str nm, .str kd, tupS cs, tupS ds, .int seats, .str way]).map (.obj "Race" ["name", "kind", "choices", "districts", "seats", "by"]) := fun k => rfl
    have st := step 11
    rw [show (11 + 1 : Nat) = 12 from rfl] at st
    rw [show [c].length = 1 from rfl, frzD, st]
    generalize resD 1 _ 11 = ρ
    simp [frzDs, frzD, f ρ cs, f ρ ds]
  have ai : atI [D.str nm, .str kd, tupS cs, tupS ds, .int seats, .str way] 0 = some (.str nm) ∧ atI [D.str nm, .str kd, tupS cs, tupS ds, .int seats, .str way] 1 = some (.str kd) ∧ atI [D.str nm, .str kd, tupS cs, tupS ds, .int seats, .str way] 2 = some (tupS cs) ∧ atI [D.str nm, .str kd, tupS cs, tupS ds, .int seats, .str way] 3 = some (tupS ds) ∧ atI [D.str nm, .str kd, tupS cs, tupS ds, .int seats, .str way] 4 = some (.int seats) ∧ atI [D.str nm, .str kd, tupS cs, tupS ds, .int seats, .str way] 5 = some (.str way) := ⟨rfl, rfl, rfl, rfl, rfl, rfl⟩
  simp only [d__law_race, g__law_race, fnF]
  simp [pk, ai, e, ex]
theorem parts_ok {ns da : List Str} {k m : Nat} {c : Cell} (N : NamesN 6 ns) (Na : NamesN k da) (k1 : 1 ≤ k) (k6 : k ≤ 6) (d : Drw c m) (hm : m ≤ 80000) :
    ∃ nm kd cs ds seats way c', d__law_race_parts [.loc 0, .lst (ns.map .str), .lst (da.map .str)] [c] = .ok (toldW nm kd cs ds seats way) [c'] ∧ Told nm kd cs seats way ∧ Dst ds ∧ (∀ x ∈ ds, x ∈ da) ∧ ns[0]? = some nm ∧ (∀ x ∈ cs, x ∈ ns.drop 1) ∧ Drw c' (m + 40) := by
  obtain ⟨x, hx, c1, p1, d1⟩ := pick1 [.str "one", .str "any", .str "rank"] d (by omega) (by simp) (by simp)
  have hx' : ∃ kd : Str, x = .str kd ∧ (kd = "one" ∨ kd = "any" ∨ kd = "rank") := by
    simp at hx
    rcases hx with rfl | rfl | rfl
    · exact ⟨_, rfl, .inl rfl⟩
    · exact ⟨_, rfl, .inr (.inl rfl)⟩
    · exact ⟨_, rfl, .inr (.inr rfl)⟩
  obtain ⟨kd, rfl, hkd⟩ := hx'
  have ln : ns.length = 6 := N.len
  have lna : (ns.drop 1).length = 5 := by rw [List.length_drop, ln]
  obtain ⟨l', c2, p2, lp, d2⟩ := shuf_ok D.str (fun _ _ => rfl) (ns.drop 1) d1 (by omega) (by omega)
  have ll : l'.length = 5 := by rw [lp.length_eq, lna]
  rw [lna] at d2
  obtain ⟨y, c3, n3, y0, y1, d3⟩ := next1 4 d2 (by omega) (by decide) (by decide)
  obtain ⟨j, rfl⟩ := Int.eq_ofNat_of_zero_le y0
  obtain ⟨cs, hcs⟩ : ∃ cs, cs = l'.take (2 + j) := ⟨_, rfl⟩
  have lcs : cs.length = 2 + j := by rw [hcs, List.length_take]; omega
  have csub : ∀ x ∈ cs, x ∈ ns.drop 1 := fun x h => by rw [hcs] at h; exact lp.mem_iff.mp (List.mem_of_mem_take h)
  have cnd : cs.Nodup := by rw [hcs]; exact (lp.nodup_iff.mpr (N.nd.sublist (List.drop_sublist _ _))).sublist (List.take_sublist _ _)
  have cgood : ∀ n ∈ cs, goodN n = true := fun n hn => N.good n (List.mem_of_mem_drop (csub n hn))
  obtain ⟨nm, hnm⟩ : ∃ nm, ns[0]? = some nm := ⟨_, List.getElem?_eq_getElem (by omega)⟩
  have gnm : goodN nm = true := N.good nm (List.mem_of_getElem? hnm)
  have la : da.length = k := Na.len
  obtain ⟨ds0, c4, e4, sl, d4⟩ := lc_pick (tt := g__law_race_parts_t1) (elt := eVar 8) (env := [some (.loc 0), some (.lst (ns.map .str)), some (.lst (da.map .str)), some (.str kd), some (tupS cs), none, none, none, none]) (i := 8) (fun s c m d hm => by
    obtain ⟨b, c', q, _, _, d'⟩ := next1 3 d (by omega) (by decide) (by decide)
    exact ⟨decide (0 < b), c', by simp [g__law_race_parts_t1, q], d'⟩) (fun s S => by simp) da [] c3 _ d3 (by omega) (by simp; omega)
  simp only [List.map_nil, List.nil_append] at e4
  rw [la] at d4
  obtain ⟨ds, hds⟩ : ∃ ds, ds = (if ds0 = [] then da.take 1 else ds0) := ⟨_, rfl⟩
  have dsub : ds.Sublist da := by rw [hds]; split; exact List.take_sublist _ _; exact sl
  have td : Dst ds := ⟨fun n hn => Na.good n (dsub.subset hn), Na.nd.sublist dsub, by
    rw [hds]; split
    · rw [List.length_take]; omega
    · rename_i h
      exact List.length_pos_iff.mpr h, by have := dsub.length_le; omega⟩
  have a0 : atI (ns.map D.str) 0 = some (.str nm) := by
    have := atI_nat (xs := ns.map D.str) (j := 0) (v := .str nm) (by rw [List.getElem?_map, hnm]; rfl)
    exact this
  have ct1 : cutD (ns.map D.str) (some 1) (some 6) = (ns.drop 1).map .str := by
    have e := cut_mid (ns.map D.str) 1 6 (by omega) (by rw [List.length_map]; omega)
    rw [show ((1 : Nat) : Int) = 1 from rfl, show ((6 : Nat) : Int) = 6 from rfl] at e
    rw [e, List.take_of_length_le (by simp; omega), List.map_drop]
  have ct2 : cutD (l'.map D.str) none (some (2 + (j : Int))) = cs.map .str := by
    have := cut_hi (l'.map D.str) (2 + j)
    rw [show ((2 + j : Nat) : Int) = 2 + (j : Int) by omega] at this
    rw [this, hcs, List.map_take]
  have ct3 := cut_hi (da.map D.str) 1
  rw [← List.map_take, show ((1 : Nat) : Int) = 1 from rfl] at ct3
  have bt : ∀ l : List D, ∀ S, bTuple [.lst l] S = .ok (.tup l) S := fun _ _ => rfl
  have st : ∀ a b c : D, startD 9 [a, b, c] = [some a, some b, some c, none, none, none, none, none, none] := fun _ _ _ => rfl
  have on : ∀ env S, oNone env S = .ok none S := fun _ _ => rfl
  have o1 : ∀ env S, oSome (eC (.int 1)) env S = .ok (some 1) S := fun _ _ => rfl
  have o6 : ∀ env S, oSome (eC (.int 6)) env S = .ok (some 6) S := fun _ _ => rfl
  have oj : ∀ (r : EnvD), oSome (eOp opAdd (eC (.int 2)) (eCall d__law_next (lCons (eVar 0) (lCons (eC (.int 4)) lNil)))) (some (.loc 0) :: r) [c2] = .ok (some (2 + (j : Int))) [c3] := fun r => by
    unfold oSome
    simp [n3]
  have so : ∀ n ∈ ds0, PyData.strOk n = true := fun n hn => goodN_ok (Na.good n (sl.subset hn))
  have ne : ∀ S, opNe (.lst (ds0.map .str)) (.lst []) S = .ok (.bl (!decide (ds0 = []))) S := fun S => by
    have := opEqB_of (S := S) (neg := true) (x := .lst (ds0.map .str)) (y := .lst []) (p := .list (ds0.map .str)) (q := .list []) (by simp [D.pyO, D.py, pys_strs]) rfl ((Shp.list (k := 0) (shp_strs so)).shaped (by decide)) ((Shp.list (k := 0) (ps := []) (fun p hp => by cases hp)).shaped (by decide)) (fun _ _ h => by cases h)
    have q : PyData.eqv (.list (ds0.map .str)) (.list []) = decide (ds0 = []) := eqv_strs ds0 []
    rw [q] at this
    exact this
  obtain ⟨b, nb, hb⟩ : ∃ b : Bool, (∀ S, opNe (.lst (ds0.map .str)) (.lst []) S = .ok (.bl b) S) ∧ (if b then ds0 else da.take 1) = ds := by
    refine ⟨!decide (ds0 = []), ne, ?_⟩
    rw [hds]
    by_cases h : ds0 = [] <;> simp [h]
  clear ne
  have inl : ∀ (s : Str) S, opIn (.str s) (.lst [.str "runoff", .str "pairs"]) S = .ok (.bl (decide (s ∈ (["runoff", "pairs"] : List Str)))) S := fun s S => in_strsL (ns := ["runoff", "pairs"])
  have zc : sz cs.length := sz_is (by omega)
  have z2 : sz 2 := sz_is (by decide)
  have z6 : sz 6 := sz_is (by decide)
  have z3 : sz 3 := sz_is (by decide)
  have z0 : sz 0 := sz_is (by decide)
  by_cases hr : kd = "rank"
  · obtain ⟨w, hw, c5, p5, d5⟩ := pick1 [.str "runoff", .str "pairs", .str "share"] d4 (by omega) (by simp) (by simp)
    have hw' : ∃ way : Str, w = .str way ∧ (way = "runoff" ∨ way = "pairs" ∨ way = "share") := by
      simp at hw
      rcases hw with rfl | rfl | rfl
      · exact ⟨_, rfl, .inl rfl⟩
      · exact ⟨_, rfl, .inr (.inl rfl)⟩
      · exact ⟨_, rfl, .inr (.inr rfl)⟩
    obtain ⟨way, rfl, hway⟩ := hw'
    by_cases hs : way = "share"
    · obtain ⟨z, c6, n6, z0', z1, d6⟩ := next1 (cs.length : Int) d5 (by omega) (by omega) (by omega)
      have i1 := inl way
      have nin : decide (way ∈ (["runoff", "pairs"] : List Str)) = false := by rw [hs]; decide +kernel
      rw [nin] at i1
      refine ⟨nm, kd, cs, ds, 1 + z, way, c6, ?_, ⟨gnm, cgood, cnd, by omega, by omega, hkd, by omega, by omega, .inr ⟨hr, hway, .inl hs⟩⟩, td, fun x h => dsub.subset h, hnm, csub, d6.mono (by omega)⟩
      have ex : ∀ q, exitD .keep [c] q [c6] = .ok q [c6] := fun _ => rfl
      generalize (ns.drop 1).map D.str = ND at *
      generalize ns.map D.str = NS at *
      generalize l'.map D.str = L at *
      have lC : (cs.map D.str).length = cs.length := by simp
      subst hr
      rw [← hb]
      cases b <;> simp [-opIn_ll, d__law_race_parts, g__law_race_parts, st, p1, on, o1, o6, ct1, p2, oj, ct2, bt, e4, p5, i1, lC, zc, n6, a0, nb, ct3, toldW, tupS, z2, z6, z3, z0, ex]
    · have i1 := inl way
      have nin : decide (way ∈ (["runoff", "pairs"] : List Str)) = true := by
        rcases hway with h | h | h
        · rw [h]; decide +kernel
        · rw [h]; decide +kernel
        · exact absurd h hs
      rw [nin] at i1
      refine ⟨nm, kd, cs, ds, 1, way, c5, ?_, ⟨gnm, cgood, cnd, by omega, by omega, hkd, by omega, by omega, .inr ⟨hr, hway, .inr rfl⟩⟩, td, fun x h => dsub.subset h, hnm, csub, d5.mono (by omega)⟩
      have ex : ∀ q, exitD .keep [c] q [c5] = .ok q [c5] := fun _ => rfl
      generalize (ns.drop 1).map D.str = ND at *
      generalize ns.map D.str = NS at *
      generalize l'.map D.str = L at *
      subst hr
      rw [← hb]
      cases b <;> simp [-opIn_ll, d__law_race_parts, g__law_race_parts, st, p1, on, o1, o6, ct1, p2, oj, ct2, bt, e4, p5, i1, a0, nb, ct3, toldW, tupS, z2, z6, z3, z0, ex]
  · obtain ⟨z, c6, n6, z0', z1, d6⟩ := next1 (cs.length : Int) d4 (by omega) (by omega) (by omega)
    have i1 := inl ""
    have nin : decide (("" : Str) ∈ (["runoff", "pairs"] : List Str)) = false := by decide +kernel
    rw [nin] at i1
    refine ⟨nm, kd, cs, ds, 1 + z, "", c6, ?_, ⟨gnm, cgood, cnd, by omega, by omega, hkd, by omega, by omega, .inl ⟨hr, rfl⟩⟩, td, fun x h => dsub.subset h, hnm, csub, d6.mono (by omega)⟩
    have ex : ∀ q, exitD .keep [c] q [c6] = .ok q [c6] := fun _ => rfl
    generalize (ns.drop 1).map D.str = ND at *
    generalize ns.map D.str = NS at *
    generalize l'.map D.str = L at *
    have lC : (cs.map D.str).length = cs.length := by simp
    rw [← hb]
    cases b <;> simp [-opIn_ll, d__law_race_parts, g__law_race_parts, st, p1, on, o1, o6, ct1, p2, oj, ct2, bt, e4, hr, i1, lC, zc, n6, a0, nb, ct3, toldW, tupS, z2, z6, z3, z0, ex]
end DW
end
section
/-! like, of nice data -/
namespace DL
open PySem L2
variable {S : Store}
structure SeqV (S : Store) (x : D) (t : Ty) (ds : List D) : Prop where
  ty : tyO S x = some (.b t)
  len : bLenX [x] S = .ok (.int ds.length) S
  ix : ∀ (i : Nat) d, ds[i]? = some d → opIxX x (.int (i : Int)) S = .ok d S
theorem seq_tup {ds : List D} (hl : ds.length ≤ 100000) : SeqV S (.tup ds) .tuple ds := by
  refine ⟨rfl, by simp, fun i d h => ?_⟩
  have e := atI_nat (xs := ds) (j := i) (v := d) h
  simp [e]
theorem seq_lst {ds : List D} (hl : ds.length ≤ 100000) : SeqV S (.lst ds) .list ds := by
  refine ⟨rfl, by simp, fun i d h => ?_⟩
  have e := atI_nat (xs := ds) (j := i) (v := d) h
  simp [e]
theorem like_seq (n : Nat) {x y : D} {t : Ty} {ds : List D} (vx : SeqV S x t ds) (vy : SeqV S y t ds) (ht : t = .tuple ∨ t = .list) (h : ∀ d ∈ ds, d__law_like_n n [d, d] S = .ok (.bl true) S) (hl : ds.length ≤ 100000) : d__law_like_n (n + 1) [x, y] S = .ok (.bl true) S := by
  have lc := lcD_fm (S := S) (b := bName 3) (tt := g__law_like_t1 (d__law_like_n n)) (elt := eVar 3) (env := [some x, some y, none, none, none]) (fun _ => false) id (rangeD 0 ds.length) [] (fun d hd => by
    obtain ⟨i, hi, he⟩ := List.getElem_of_mem hd
    have hg := range_get (lo := 0) (n := ds.length) (i := i) (d := d) (by rw [List.getElem?_eq_getElem hi, he])
    obtain ⟨h1, rfl⟩ := hg
    refine ⟨_, rfl, ?_, fun z => by cases z⟩
    have ex := vx.ix i ds[i] (List.getElem?_eq_getElem h1)
    have ey := vy.ix i ds[i] (List.getElem?_eq_getElem h1)
    have el := h ds[i] (List.getElem_mem h1)
    simp only [Int.zero_add] at *
    simp [g__law_like_t1, ex, ey, el]) (by simp; omega)
  have r1 : rOk (ds.length : Int) := rOk_n (by omega)
  have mi : minII (ds.length : Int) ds.length = ds.length := by unfold minII; simp
  simp only [filter_no, List.map_nil, List.nil_append] at lc
  have lx := vx.len
  have ly := vy.len
  have tx := vx.ty
  have ty := vy.ty
  show fnF .pure 5 (g__law_like (d__law_like_n n)) _ S = _
  generalize d__law_like_n n = r at lc ⊢
  rcases ht with rfl | rfl <;> simp [g__law_like, tx, ty, lx, ly, Ty.isa, mi, r1, lc, opEq_nil]
inductive Nice : Nat → D → Prop
  | non {k} : Nice k .non
  | bl {k b} : Nice k (.bl b)
  | int {k i} : Nice k (.int i)
  | str {k s} : Nice k (.str s)
  | tup {k ds} (h : ∀ d ∈ ds, Nice k d) (hl : ds.length ≤ 100000) : Nice (k + 1) (.tup ds)
  | lst {k ds} (h : ∀ d ∈ ds, Nice k d) (hl : ds.length ≤ 100000) : Nice (k + 1) (.lst ds)
theorem like_nice : ∀ {k : Nat} {d : D}, Nice k d → ∀ n, k < n → d__law_like_n n [d, d] S = .ok (.bl true) S
  | _, _, .non, 0, h => absurd h (Nat.not_lt_zero _)
  | _, _, .non, n + 1, _ => by simp [d__law_like_n, g__law_like, Ty.isa]
  | _, _, .bl, 0, h => absurd h (Nat.not_lt_zero _)
  | _, _, .bl, n + 1, _ => by simp [d__law_like_n, g__law_like, Ty.isa]
  | _, _, .int, 0, h => absurd h (Nat.not_lt_zero _)
  | _, _, .int, n + 1, _ => by simp [d__law_like_n, g__law_like, Ty.isa]
  | _, _, .str, 0, h => absurd h (Nat.not_lt_zero _)
  | _, _, .str, n + 1, _ => by simp [d__law_like_n, g__law_like, Ty.isa]
  | _, _, .tup _ _, 0, h => absurd h (Nat.not_lt_zero _)
  | _, _, .tup h hl, n + 1, hn => like_seq n (seq_tup hl) (seq_tup hl) (.inl rfl) (fun d hd => like_nice (h d hd) n (by omega)) hl
  | _, _, .lst _ _, 0, h => absurd h (Nat.not_lt_zero _)
  | _, _, .lst h hl, n + 1, hn => like_seq n (seq_lst hl) (seq_lst hl) (.inr rfl) (fun d hd => like_nice (h d hd) n (by omega)) hl
theorem like_ok {k : Nat} {d : D} (h : Nice k d) (hk : k < 12 := by decide) : d__law_like [d, d] S = .ok (.bl true) S := like_nice h 12 hk
end DL
end
section
/-! Names, drawn. -/
namespace DY
open PySem L2 DL DR
open DW (NamesN okN okN_is okN_of nmW txW ownW tlW okA okB takeA takeB nmW_sz tl_atW adW)
variable {S : Store}
theorem nextT {T : Store} {c : Cell} {m : Nat} (n : Int) (d : Drw c m) (hm : m ≤ 100000) (hn : 0 < n) (hn2 : n < 1073741824) :
    ∃ x c', d__law_next [.loc 0, .int n] (c :: T) = .ok (.int x) (c' :: T) ∧ 0 ≤ x ∧ x < n ∧ Drw c' (m + 1) := next_ok (S := c :: T) (l := 0) rfl d hm hn hn2
theorem pickT {T : Store} {c : Cell} {m : Nat} (ds : List D) (d : Drw c m) (hm : m ≤ 100000) (hn : ds ≠ []) (hn2 : ds.length < 1073741824) :
    ∃ x ∈ ds, ∃ c', d__law_pick [.loc 0, .lst ds] (c :: T) = .ok x (c' :: T) ∧ Drw c' (m + 1) := pick_ok (S := c :: T) (l := 0) rfl d hm hn hn2
theorem spT {T : Store} {c : Cell} : mSplit (.str txW) [.str " "] (c :: T) = .ok (.lst (ownW.map .str)) (c :: T) := by
  show (if ((" " : Str).length == 0) = false ∧ txW.length ≤ 10000000 then ER.ok (D.lst ((Txt.split txW " ").map D.str)) (c :: T) else ER.bad) = _
  rw [DW.splitW]
  exact if_pos ⟨by decide +kernel, by decide +kernel⟩
theorem lc_names {i t n : Nat} {a b s w : Option D} (hn : n ≤ 26) : lcD (bName 7) eYes g__law_names_e1 [a, b, s, some (.str abc), some (.int (i : Nat)), some (.int (t : Nat)), some (.lst [.str "", .str "x", .str "qx", .str "qxqqx", .str "qxqxqxq", .str "xxqxqxq"]), none] [] (rangeD 0 n) S = .ok ((DW.namesB i t n).map .str) S := by
  have e := lcD_ma (S := S) (b := bName 7) (elt := g__law_names_e1) (env := [a, b, s, some (.str abc), some (.int (i : Nat)), some (.int (t : Nat)), some (.lst [.str "", .str "x", .str "qx", .str "qxqqx", .str "qxqxqxq", .str "xxqxqxq"]), none]) (fun k : Nat => D.int (0 + (k : Int))) (fun k => .str (nmW i t k)) (List.range n) (fun k hk => by
    have hk' : k < n := List.mem_range.mp hk
    refine ⟨_, rfl, ?_⟩
    have z0 : sz abc.length := sz_is (by decide +kernel)
    have s1 := sg_at (j := (i + 5 * k) % 26) (Nat.mod_lt _ (by decide))
    have s2 := tl_atW (j := (t + k * k) % 6) (Nat.mod_lt _ (by decide))
    have m1 : mulOk (5 : Int) (k : Int) := mulOk_l (by decide)
    have m2 : mulOk (k : Int) (k : Int) := mulOk_l (by omega)
    have e1 : ((i : Int) + 5 * (k : Int)) % 26 = (((i + 5 * k) % 26 : Nat) : Int) := by omega
    have e2 : ((t : Int) + (k : Int) * (k : Int)) % 6 = (((t + k * k) % 6 : Nat) : Int) := by
      rw [← Int.natCast_mul]; omega
    have z1 := sz_is (n := (sgs.getD ((i + 5 * k) % 26) "").length + (tlW.getD ((t + k * k) % 6) "").length) (by have := nmW_sz (i := i) (t := t) (k := k); omega)
    have hs : ∀ S, opIxX (.str abc) (.int (((i + 5 * k) % 26 : Nat) : Int)) S = .ok (.str (sgs.getD ((i + 5 * k) % 26) "")) S := fun S => by rw [opIxX_s, if_pos z0, s1]
    have ht : ∀ S, opIxX (.lst [.str "", .str "x", .str "qx", .str "qxqqx", .str "qxqxqxq", .str "xxqxqxq"]) (.int (((t + k * k) % 6 : Nat) : Int)) S = .ok (.str (tlW.getD ((t + k * k) % 6) "")) S := fun S => by rw [opIxX_l, s2]
    have k0 : (0 : Int) + (k : Int) = (k : Int) := Int.zero_add _
    have res : D.str (nmW i t k) = .str (sgs.getD ((i + 5 * k) % 26) "" ++ tlW.getD ((t + k * k) % 6) "") := rfl
    rw [res]
    generalize sgs.getD ((i + 5 * k) % 26) "" = x at *
    generalize tlW.getD ((t + k * k) % 6) "" = y at *
    generalize (D.lst [.str "", .str "x", .str "qx", .str "qxqqx", .str "qxqxqxq", .str "xxqxqxq"]) = T at *
    generalize (D.str abc) = A at *
    simp [g__law_names_e1, m1, m2, e1, e2, hs, ht, z1, k0, -Int.natCast_emod, -Int.natCast_add, -Int.natCast_mul]) (by simp; omega)
  have r1 : (List.range n).map (fun k : Nat => D.int (0 + (k : Int))) = rangeD 0 n := rfl
  have r2 : (List.range n).map (fun k => D.str (nmW i t k)) = (DW.namesB i t n).map .str := by unfold DW.namesB; rw [List.map_map]; rfl
  rw [r1, r2] at e
  exact e
theorem names_ok {T : Store} {c : Cell} {m n : Nat} (hn : n ≤ 26) (d : Drw c m) (hm : m ≤ 90000) : ∃ ns c', d__law_names [.loc 0, .int (n : Nat)] (c :: T) = .ok (.lst (ns.map .str)) (c' :: T) ∧ NamesN n ns ∧ Drw c' (m + 3) := by
  obtain ⟨x, c1, n1, x0, x1, d1⟩ := nextT (T := T) 26 d (by omega) (by decide) (by decide)
  obtain ⟨y, c2, n2, y0, y1, d2⟩ := nextT (T := T) 6 d1 (by omega) (by decide) (by decide)
  obtain ⟨z, c3, n3, z0, z1, d3⟩ := nextT (T := T) 4 d2 (by omega) (by decide) (by decide)
  obtain ⟨i, rfl⟩ := Int.eq_ofNat_of_zero_le x0
  obtain ⟨t, rfl⟩ := Int.eq_ofNat_of_zero_le y0
  have hi : i < 26 := by omega
  have ht : t < 6 := by omega
  have ty : ∀ s, tyD "str" (c :: T) (.str s) = true := fun _ => rfl
  have ad := adW (S := c :: T)
  have sp := spT (c := c) (T := T)
  have st : ∀ a b : D, startD 8 [a, b] = [some a, some b, none, none, none, none, none, none] := fun _ _ => rfl
  have ol : ownW.length = 26 := rfl
  have ty' : tyD "str" (c :: T) (.str txW) = true := rfl
  by_cases hz : z = 0
  · subst hz
    refine ⟨DW.namesA i n, c3, ?_, by rw [takeA hn]; exact (okN_is (okA i hi)).take hn, d3⟩
    have ad3 : opAdd (.lst ((ownW.drop i).map .str)) (.lst ((ownW.take i).map .str)) (c3 :: T) = .ok (.lst ((ownW.drop i ++ ownW.take i).map .str)) (c3 :: T) := by
      rw [opAdd_ll, if_pos (sz_is (by simp; omega)), List.map_append]
    have k1 : cutD (ownW.map D.str) (some (i : Int)) none = (ownW.drop i).map .str := by rw [cut_lo, List.map_drop]
    have k2 : cutD (ownW.map D.str) none (some (i : Int)) = (ownW.take i).map .str := by rw [cut_hi, List.map_take]
    have k3 : cutD ((ownW.drop i ++ ownW.take i).map D.str) none (some (n : Int)) = (DW.namesA i n).map .str := by rw [cut_hi, DW.namesA, List.map_take]
    have ex : exitD .keep (c :: T) (.lst ((DW.namesA i n).map .str)) (c3 :: T) = .ok (.lst ((DW.namesA i n).map .str)) (c3 :: T) := rfl
    generalize (ownW.drop i ++ ownW.take i).map D.str = O3 at *
    generalize (ownW.drop i).map D.str = O1 at *
    generalize (ownW.take i).map D.str = O2 at *
    generalize ownW.map D.str = O at *
    generalize (DW.namesA i n).map D.str = NA at *
    generalize (D.str txW) = TX at *
    simp [d__law_names, g__law_names, st, oSome, oNone, ty, ty', sp, ad, n1, n2, n3, k1, k2, ad3, k3, ex, -opAdd_ll, -opAdd_ss]
  · refine ⟨DW.namesB i t n, c3, ?_, by rw [takeB hn]; exact (okN_is (okB i hi t ht)).take hn, d3⟩
    have lc := lc_names (S := (c3 :: T)) (i := i) (t := t) (n := n) (a := some (.loc 0)) (b := some (.int (n : Nat))) (s := some (.lst (ownW.map .str))) (w := none) hn
    have ex : exitD .keep (c :: T) (.lst ((DW.namesB i t n).map .str)) (c3 :: T) = .ok (.lst ((DW.namesB i t n).map .str)) (c3 :: T) := rfl
    have rk : rOk (n : Int) := rOk_n (by omega)
    have ea : (Str.ofString "abcdefghijklmnopqrstuvwxyz") = abc := rfl
    have z6 : sz 6 := sz_is (by decide)
    generalize ownW.map D.str = O at *
    generalize (DW.namesB i t n).map D.str = NA at *
    simp [d__law_names, g__law_names, st, oSome, oNone, ty, ty', sp, ad, n1, n2, n3, hz, rk, z6, ea, lc, ex, -opAdd_ll, -opAdd_ss]

/-- a name -/
def isNm (s : Str) : Bool := decide (1 ≤ s.length) && decide (s.length ≤ 8) && s.cps.toList.all fun c => decide (c ∈ abc.cps.toList)
theorem isNm_of {s : Str} (h : goodN s = true) : isNm s = true := by
  unfold goodN at h
  unfold isNm
  simp only [Bool.and_eq_true, decide_eq_true_eq] at h ⊢
  exact ⟨⟨h.1.1.1, h.1.2⟩, h.2⟩
theorem isNm_ok {s : Str} (h : isNm s = true) : PyData.strOk s = true := by
  unfold isNm at h
  simp only [Bool.and_eq_true, decide_eq_true_eq, List.all_eq_true] at h
  obtain ⟨_, h3⟩ := h
  have q : ∀ c ∈ abc.cps.toList, c < 0x110000 := by decide +kernel
  unfold PyData.strOk
  rw [Array.all_eq_true']
  intro c hc
  exact decide_eq_true (q c (h3 c (by simpa using hc)))
/-- any thing: is it a name? -/
def nmOk : D → Bool
  | .str s => isNm s
  | _ => false
/-- what may be asked -/
def Ask : D → Prop
  | .str s => s.length ≤ 4000000 ∧ PyData.strOk s = true
  | .non => True
  | .bl _ => True
  | .int _ => True
  | .tup _ => True
  | .lst _ => True
  | _ => False
theorem isName_any {d : D} (h : Ask d) : d_is_name [d] S = .ok (.bl (nmOk d)) S := by
  cases d with
  | str s =>
    have hl : s.length ≤ 4000000 := h.1
    have z : sz s.length := sz_is (by omega)
    have sl : (signsD s).length = s.length := by simp [signsD, Str.length]
    have e := lcD_map (S := S) (b := bName 1) (elt := g_is_name_e1) (env := [some (.str s), none]) (fun d => match d with | .str c => .bl (c.cps.toList.all fun c => decide (c ∈ abc.cps.toList)) | _ => .non) (signsD s) (fun d hd => by
      unfold signsD at hd
      obtain ⟨c, hc, rfl⟩ := List.mem_map.mp hd
      refine ⟨_, rfl, ?_⟩
      simp only [g_is_name_e1, eOp_is, eC_is]
      rw [eVar_at (d := .str ⟨#[c]⟩) (by rfl)]
      simp only [ER.bind_ok, opIn_sg]
      simp
      exact Iff.rfl) (by omega)
    have m : (signsD s).map (fun d => match d with | .str c => D.bl (c.cps.toList.all fun c => decide (c ∈ abc.cps.toList)) | _ => .non) = (s.cps.toList.map fun c => decide (c ∈ abc.cps.toList)).map D.bl := by
      unfold signsD
      rw [List.map_map, List.map_map]
      refine List.map_congr_left fun c _ => ?_
      simp
    rw [m] at e
    have al : (s.cps.toList.map fun c => decide (c ∈ abc.cps.toList)).all id = s.cps.toList.all fun c => decide (c ∈ abc.cps.toList) := by
      rw [List.all_map]; rfl
    generalize s.cps.toList.map (fun c => decide (c ∈ abc.cps.toList)) = bs at *
    by_cases h1 : 1 ≤ s.length
    · by_cases h2 : s.length ≤ 8
      · have i1 : (1 : Int) ≤ s.length := by omega
        have i2 : (s.length : Int) ≤ 8 := by omega
        have r : nmOk (.str s) = s.cps.toList.all fun c => decide (c ∈ abc.cps.toList) := by simp [nmOk, isNm, h1, h2]
        rw [r, ← al]
        simp [d_is_name, g_is_name, Ty.isa, z, i1, i2, e, -List.map_map]
      · have i1 : (1 : Int) ≤ s.length := by omega
        have i2 : ¬ (s.length : Int) ≤ 8 := by omega
        simp [d_is_name, g_is_name, Ty.isa, z, i1, i2, nmOk, isNm, h2]
    · have i1 : ¬ (1 : Int) ≤ s.length := by omega
      simp [d_is_name, g_is_name, Ty.isa, z, i1, nmOk, isNm, h1]
  | non => simp [d_is_name, g_is_name, Ty.isa, nmOk]
  | bl b => simp [d_is_name, g_is_name, Ty.isa, nmOk]
  | int i => simp [d_is_name, g_is_name, Ty.isa, nmOk]
  | tup l => simp [d_is_name, g_is_name, Ty.isa, nmOk]
  | lst l => simp [d_is_name, g_is_name, Ty.isa, nmOk]
  | _ => exact h.elim
theorem isName_ok {s : Str} (h : isNm s = true) : d_is_name [.str s] S = .ok (.bl true) S := by
  have hl : s.length ≤ 8 := by
    unfold isNm at h
    simp only [Bool.and_eq_true, decide_eq_true_eq] at h
    exact h.1.2
  have := isName_any (S := S) (d := .str s) ⟨by omega, isNm_ok h⟩
  rw [this]
  show ER.ok (.bl (isNm s)) S = _
  rw [h]
end DY
end
section
/-! What may stand for a paper: subsets by numbers, orders. -/
namespace DW
open PySem L2 DL DR
variable {S : Store}
/-! subsets -/
def pickN (cs : List Str) (k : Nat) : List Str := ((List.range cs.length).filter fun i => k.testBit i).map fun i => cs.getD i ""
def subsN (cs : List Str) : List (List Str) := (List.range (2 ^ cs.length - 1)).map fun j => pickN cs (j + 1)
theorem pow_le {n : Nat} (h : n ≤ 5) : 2 ^ n ≤ 32 := by
  have : ∀ n, n ≤ 5 → 2 ^ n ≤ 32 := by decide
  exact this n h
/-! orders -/
def stepO (cs : List Str) (hs : List (List Str)) : List (List Str) := hs.flatMap fun h => (cs.filter fun c => !decide (c ∈ h)).map fun c => h ++ [c]
def ordK (cs : List Str) : Nat → List (List Str)
  | 0 => [[]]
  | k + 1 => stepO cs (ordK cs k)
def ordsTo (cs : List Str) (n : Nat) : List (List Str) := (List.range n).flatMap fun k => ordK cs (k + 1)
theorem flat_le {α β : Type} (g : α → List β) (m : Nat) : ∀ (l : List α), (∀ a ∈ l, (g a).length ≤ m) → (l.flatMap g).length ≤ l.length * m
  | [], _ => by simp
  | a :: l, h => by
    have h1 := h a (by simp)
    have h2 := flat_le g m l fun b hb => h b (by simp [hb])
    rw [List.flatMap_cons, List.length_append, List.length_cons, Nat.succ_mul]
    omega
theorem stepO_len (cs : List Str) (hs : List (List Str)) : (stepO cs hs).length ≤ hs.length * cs.length :=
  flat_le _ _ hs fun h _ => by rw [List.length_map]; exact List.length_filter_le _ _
theorem ordK_len {cs : List Str} (h5 : cs.length ≤ 5) : ∀ k, k ≤ 5 → (ordK cs k).length ≤ 5 ^ k
  | 0, _ => by simp [ordK]
  | k + 1, h => by
    have h1 := ordK_len h5 k (by omega)
    have h2 := stepO_len cs (ordK cs k)
    have h3 : (ordK cs k).length * cs.length ≤ 5 ^ k * 5 := Nat.mul_le_mul h1 h5
    show (stepO cs (ordK cs k)).length ≤ _
    rw [Nat.pow_succ]; omega
theorem pow5 : ∀ k, k ≤ 5 → 5 ^ k ≤ 3125 := by decide
theorem ordK_len' {cs : List Str} (h5 : cs.length ≤ 5) {k : Nat} (hk : k ≤ 5) : (ordK cs k).length ≤ 3125 := Nat.le_trans (ordK_len h5 k hk) (pow5 k hk)
theorem ordsTo_len {cs : List Str} (h5 : cs.length ≤ 5) {n : Nat} (hn : n ≤ 5) : (ordsTo cs n).length ≤ n * 3125 := by
  have := flat_le (fun k => ordK cs (k + 1)) 3125 (List.range n) fun k hk => ordK_len' h5 (by have := List.mem_range.mp hk; omega)
  simpa [ordsTo] using this
end DW
end
section
/-! The law's own orders. -/
namespace DW
open PySem L2 DL DR
variable {S : Store}
end DW
end
section
/-! The law's own ways, and the program's. -/
namespace DW
open PySem L2 DL DR
variable {S : Store}
def goodL (kd : Str) (cs : List Str) : List (List Str) := if kd = "one" then cs.map fun c => [c] else if kd = "any" then subsN cs else ordsTo cs cs.length
def waysM (kd : Str) (cs : List Str) : List Mk := [.no] ++ (goodL kd cs).map .good ++ [.odd]
def goodD (kd : Str) (cs : List Str) : List D := if kd = "one" then cs.map .str else if kd = "any" then (subsN cs).map tupS else (ordsTo cs cs.length).map tupS
theorem ways_map (kd : Str) (cs : List Str) : (waysM kd cs).map (mkD (decide (kd = "one"))) = [.non] ++ goodD kd cs ++ [.str "?"] := by
  unfold waysM goodL goodD
  by_cases h : kd = "one"
  · simp [h, mkD]
  · by_cases h2 : kd = "any"
    · rw [if_neg h, if_pos h2, if_neg h, if_pos h2, decide_eq_false h]; simp [mkD]
    · rw [if_neg h, if_neg h2, if_neg h, if_neg h2, decide_eq_false h]; simp [mkD]
theorem subsN_len {cs : List Str} (h5 : cs.length ≤ 5) : (subsN cs).length ≤ 31 := by
  have := pow_le h5
  rw [subsN, List.length_map, List.length_range]; omega
theorem goodD_len {kd : Str} {cs : List Str} (h5 : cs.length ≤ 5) : (goodD kd cs).length ≤ 20000 := by
  unfold goodD
  split
  · rw [List.length_map]; omega
  · split
    · rw [List.length_map]; have := subsN_len h5; omega
    · rw [List.length_map]; have := ordsTo_len h5 (n := cs.length) h5; have : cs.length * 3125 ≤ 5 * 3125 := Nat.mul_le_mul_right _ h5; omega
@[simp] theorem fldW_kind {nm kd : Str} {cs ds : List Str} {seats : Int} {way : Str} : fldC S (raceW nm kd cs ds seats way) "kind" = some (("Race" : Str), D.str kd) := rfl
@[simp] theorem fldW_choices {nm kd : Str} {cs ds : List Str} {seats : Int} {way : Str} : fldC S (raceW nm kd cs ds seats way) "choices" = some (("Race" : Str), tupS cs) := rfl
end DW
end
section
/-! The word of any mark. -/
namespace DW
open PySem L2 DL DR
variable {S : Store}
/-- what may be asked as a mark -/
inductive An where
  | non | tupN | dic
  | str (s : Str) | tup (l : List Str) | tupT (l : List Str) | lst (l : List Str) | int (i : Int) | bl (b : Bool)
def An.D : An → D
  | .non => .non
  | .tupN => .tup [.non]
  | .dic => .dic [] []
  | .str s => .str s
  | .tup l => tupS l
  | .tupT l => .tup [tupS l]
  | .lst l => .lst (l.map .str)
  | .int i => .int i
  | .bl b => .bl b
theorem shp_l {k : Nat} {l : List PyData} (h : ∀ p ∈ l, Shp k p) (hk : k + 1 < 60 := by decide) : SeqAt.shaped (.list l) = true := (Shp.list (k := k) h).shaped (by omega)
theorem shp_nil {k : Nat} : ∀ p ∈ ([] : List PyData), Shp k p := fun p hp => by cases hp
theorem eq_nilL {l : List Str} (h : ∀ n ∈ l, PyData.strOk n = true) {neg : Bool} : opEqB neg (.lst (l.map .str)) (.lst []) S = .ok (.bl (if neg then !decide (l = []) else decide (l = []))) S := by
  have := opEqB_of (S := S) (neg := neg) (x := .lst (l.map .str)) (y := .lst []) (p := .list (l.map .str)) (q := .list []) (by simp [D.pyO, D.py, pys_strs]) rfl (shp_l (shp_strs (k := 0) h)) (shp_l (k := 0) shp_nil) (fun _ _ h => by cases h)
  have q : PyData.eqv (.list (l.map .str)) (.list []) = decide (l = []) := eqv_strs l []
  rw [q] at this
  exact this
theorem opEq_nilL {l : List Str} (h : ∀ n ∈ l, PyData.strOk n = true) : opEq (.lst (l.map .str)) (.lst []) S = .ok (.bl (decide (l = []))) S := eq_nilL (neg := false) h
end DW
end
section
/-! Deeds of several people, and the people they tell of. -/
namespace DY
open PySem L2 DL DR
variable {S : Store}
inductive Dn where
  | enter (n : Str) (b : Int) (h : Str) (d : Int)
  | move (n : Str) (h : Str) (d : Int)
  | strike (n : Str) (d : Int)
  | restore (n : Str) (d : Int)
def Dn.D : Dn → D
  | .enter n b h d => .tup [.str "enter", .str n, .int b, .str h, .int d]
  | .move n h d => .tup [.str "move", .str n, .str h, .int d]
  | .strike n d => .tup [.str "strike", .str n, .int d]
  | .restore n d => .tup [.str "restore", .str n, .int d]
def Dn.nm : Dn → Str
  | .enter n _ _ _ => n
  | .move n _ _ => n
  | .strike n _ => n
  | .restore n _ => n
def Dn.day : Dn → Int
  | .enter _ _ _ d => d
  | .move _ _ d => d
  | .strike _ d => d
  | .restore _ d => d
/-- no entry -/
def Dn.later : Dn → Bool
  | .enter _ _ _ _ => false
  | _ => true
def Dn.mark : Dn → Bool
  | .strike _ _ => true
  | .restore _ _ => true
  | _ => false
/-- names that are names -/
def Dn.good : Dn → Prop
  | .enter n _ h _ => isNm n = true ∧ isNm h = true
  | .move n h _ => isNm n = true ∧ isNm h = true
  | .strike n _ => isNm n = true
  | .restore n _ => isNm n = true
structure Sta where
  born : Int
  home : Str
  since : Int
  struck : Bool
/-- what a deed makes of its person -/
def Sta.go (s : Sta) : Dn → Sta
  | .enter _ b h d => ⟨b, h, d, false⟩
  | .move _ h d => ⟨s.born, h, d, s.struck⟩
  | .strike _ _ => ⟨s.born, s.home, s.since, true⟩
  | .restore _ _ => ⟨s.born, s.home, s.since, false⟩
abbrev Pl := List (Str × Sta)
def s0 : Sta := ⟨0, "", 0, false⟩
/-- a deed, done on the people -/
def act (P : Pl) (x : Dn) : Pl := if x.later then P.map (fun p => if p.1 = x.nm then (p.1, p.2.go x) else p) else P ++ [(x.nm, s0.go x)]
def Fit (P : Pl) (x : Dn) : Prop := if x.later then x.nm ∈ P.map (·.1) else x.nm ∉ P.map (·.1)
theorem act_keys (P : Pl) (x : Dn) : (act P x).map (·.1) = if x.later then P.map (·.1) else P.map (·.1) ++ [x.nm] := by
  unfold act
  split
  · rw [List.map_map]
    refine List.map_congr_left fun p _ => ?_
    show (if p.1 = x.nm then (p.1, p.2.go x) else p).1 = p.1
    split <;> rfl
  · simp
def insP (s : Sta) : List (Str × D) := [("born", .int s.born), ("home", .str s.home), ("since", .int s.since), ("struck", .bl s.struck)]
def persC (s : Sta) : Cell := .ins "Person" (insP s)
theorem last_at {l : Nat} {L : List Dn} {x : Dn} (hc : S[l]? = some (.lst ((L ++ [x]).map Dn.D))) : opIxX (.loc l) (.int (-1)) S = .ok x.D S := by
  have hc' : cel S l = some (.lst (L.map Dn.D ++ [x.D])) := by rw [← List.map_singleton, ← List.map_append]; exact hc
  have a : atI (L.map Dn.D ++ [x.D]) (-1) = some x.D := by
    have e : ixN (L.length + 1) (-1) = some L.length := by simp [ixN]; omega
    simp [atI, e]
  have dn : dicD S (.loc l) = none := by simp [dicD, hc]
  unfold opIxX
  rw [dn]
  simp [hc', a]
end DY
end
section
/-! What Y1 and W10 hold, by themselves. -/
namespace DY
open PySem L2 DL DR DW
variable {S : Store}
end DY
end
section
/-! Deeds done on people in the store. -/
namespace DY
open PySem L2 DL DR
variable {S : Store}
theorem seqN {a b : SM} {env e : EnvD} {S' : Store} (h : a env S = .nx e S') : sSeq a b env S = b e S' := by simp [h]
/-- the dict of f over some names -/
def kd (ns : List Str) (f : Str → D) : Kds := ns.map fun n => ((.inr n : Key), f n)
theorem kd_len {ns : List Str} {f : Str → D} : (kd ns f).length = ns.length := by simp [kd]
theorem val_kd {ns : List Str} {f : Str → D} {n : Str} (h : n ∈ ns) : valD (kd ns f) (.inr n) = some (f n) := by
  induction ns with
  | nil => simp at h
  | cons a ns ih =>
    unfold valD kd
    rw [List.map_cons, List.find?_cons]
    by_cases e : a = n
    · subst e; simp
    · have : decide ((Sum.inr a : Key) = Sum.inr n) = false := decide_eq_false fun z => e (Sum.inr.inj z)
      rw [this]
      exact ih ((List.mem_cons.mp h).resolve_left (fun z => e z.symm))
theorem any_kd {ns : List Str} {f : Str → D} {n : Str} : ((kd ns f).any fun kv => decide (kv.1 = (.inr n : Key))) = decide (n ∈ ns) := by
  rw [Bool.eq_iff_iff]
  simp only [List.any_eq_true, decide_eq_true_eq]
  constructor
  · rintro ⟨⟨k, d⟩, h1, h2⟩
    obtain ⟨a, ha, e⟩ := List.mem_map.mp h1
    cases e
    cases h2
    exact ha
  · intro h
    exact ⟨(.inr n, f n), List.mem_map.mpr ⟨n, h, rfl⟩, rfl⟩
theorem put_new {ns : List Str} {f g : Str → D} {n : Str} {d : D} (h : n ∉ ns) (hg : ∀ m ∈ ns, g m = f m) (hn : g n = d) : putD (kd ns f) (.inr n) d = kd (ns ++ [n]) g := by
  unfold putD
  rw [any_kd, if_neg (by simpa using h)]
  unfold kd
  rw [List.map_append, List.map_singleton, hn]
  congr 1
  exact List.map_congr_left fun m hm => by rw [hg m hm]
/-- the people, in the store -/
structure Rep (S : Store) (p : Nat) (P : Pl) (lc : Str → Nat) : Prop where
  dic : S[p]? = some (.dic (kd (P.map (·.1)) fun n => .loc (lc n)))
  at_ : ∀ x ∈ P, S[lc x.1]? = some (persC x.2)
  inj : ∀ x ∈ P, ∀ y ∈ P, lc x.1 = lc y.1 → x.1 = y.1
  nd : (P.map (·.1)).Nodup
theorem uniq {P : Pl} (nd : (P.map (·.1)).Nodup) {x y : Str × Sta} (hx : x ∈ P) (hy : y ∈ P) (e : x.1 = y.1) : x = y := by
  induction P with
  | nil => simp at hx
  | cons a P ih =>
    rw [List.map_cons, List.nodup_cons] at nd
    rcases List.mem_cons.mp hx with rfl | hx'
    · rcases List.mem_cons.mp hy with rfl | hy'
      · rfl
      · exact absurd (List.mem_map.mpr ⟨y, hy', e.symm⟩) nd.1
    · rcases List.mem_cons.mp hy with rfl | hy'
      · exact absurd (List.mem_map.mpr ⟨x, hx', e⟩) nd.1
      · exact ih nd.2 hx' hy'
theorem Rep.get {p : Nat} {P : Pl} {lc : Str → Nat} (r : Rep S p P lc) {n : Str} (hn : n ∈ P.map (·.1)) : opIxX (.loc p) (.str n) S = .ok (.loc (lc n)) S := by
  have : dicD S (.loc p) = some (kd (P.map (·.1)) fun n => .loc (lc n)) := by simp only [dicD, r.dic]
  unfold opIxX
  rw [this]
  simp only [keyD]
  rw [val_kd hn]
theorem Rep.ne {p : Nat} {P : Pl} {lc : Str → Nat} (r : Rep S p P lc) {x : Str × Sta} (hx : x ∈ P) : lc x.1 ≠ p := fun e => by
  have := r.at_ x hx
  rw [e, r.dic] at this
  cases this
theorem Rep.lt {p : Nat} {P : Pl} {lc : Str → Nat} (r : Rep S p P lc) {x : Str × Sta} (hx : x ∈ P) : lc x.1 < S.length := (List.getElem?_eq_some_iff.mp (r.at_ x hx)).1
theorem Rep.ltp {p : Nat} {P : Pl} {lc : Str → Nat} (r : Rep S p P lc) : p < S.length := (List.getElem?_eq_some_iff.mp r.dic).1
theorem Rep.later {p : Nat} {P : Pl} {lc : Str → Nat} (r : Rep S p P lc) {x : Dn} (hx : x.later = true) {s : Sta} (hs : (x.nm, s) ∈ P) : Rep (S.set (lc x.nm) (persC (s.go x))) p (act P x) lc := by
  have ek := act_keys P x
  rw [if_pos hx] at ek
  have ea : act P x = P.map (fun p => if p.1 = x.nm then (p.1, p.2.go x) else p) := by unfold act; rw [if_pos hx]
  have ll : lc x.nm < S.length := r.lt hs
  refine ⟨?_, ?_, ?_, ?_⟩
  · rw [ek, List.getElem?_set_ne (r.ne hs)]; exact r.dic
  · intro y hy
    rw [ea] at hy
    obtain ⟨z, hz, rfl⟩ := List.mem_map.mp hy
    by_cases e : z.1 = x.nm
    · rw [if_pos e]
      have : z = (x.nm, s) := uniq r.nd hz hs e
      rw [this]
      exact List.getElem?_set_self ll
    · rw [if_neg e]
      have ne : lc x.nm ≠ lc z.1 := fun q => e (r.inj z hz (x.nm, s) hs q.symm)
      rw [List.getElem?_set_ne ne]
      exact r.at_ z hz
  · intro y hy z hz q
    have k : ∀ y ∈ act P x, ∃ y' ∈ P, y'.1 = y.1 := fun y hy => by
      rw [ea] at hy
      obtain ⟨z, hz, rfl⟩ := List.mem_map.mp hy
      exact ⟨z, hz, by split <;> rfl⟩
    obtain ⟨y', h1, e1⟩ := k y hy
    obtain ⟨z', h2, e2⟩ := k z hz
    rw [← e1, ← e2] at q ⊢
    exact r.inj y' h1 z' h2 q
  · rw [ek]; exact r.nd
theorem Rep.enter {p : Nat} {P : Pl} {lc : Str → Nat} (r : Rep S p P lc) {x : Dn} (hx : x.later = false) (hn : x.nm ∉ P.map (·.1)) :
    Rep ((S ++ [persC (s0.go x)]).set p (.dic (kd (P.map (·.1) ++ [x.nm]) fun n => .loc (if n = x.nm then S.length else lc n)))) p (act P x) (fun n => if n = x.nm then S.length else lc n) := by
  have ek := act_keys P x
  rw [if_neg (by rw [hx]; simp)] at ek
  have ea : act P x = P ++ [(x.nm, s0.go x)] := by unfold act; rw [if_neg (by rw [hx]; simp)]
  have pl := r.ltp
  have old : ∀ y ∈ P, y.1 ≠ x.nm := fun y hy e => hn (e ▸ List.mem_map.mpr ⟨y, hy, rfl⟩)
  refine ⟨?_, ?_, ?_, ?_⟩
  · rw [ek]; exact List.getElem?_set_self (by rw [List.length_append]; omega)
  · intro y hy
    rw [ea] at hy
    rcases List.mem_append.mp hy with hy | hy
    · rw [if_neg (old y hy), List.getElem?_set_ne (r.ne hy).symm, List.getElem?_append_left (r.lt hy)]
      exact r.at_ y hy
    · rw [List.mem_singleton.mp hy, if_pos rfl, List.getElem?_set_ne (by omega)]
      simp
  · intro y hy z hz q
    rw [ea] at hy hz
    rcases List.mem_append.mp hy with hy | hy <;> rcases List.mem_append.mp hz with hz | hz
    · rw [if_neg (old y hy), if_neg (old z hz)] at q
      exact r.inj y hy z hz q
    · rw [List.mem_singleton.mp hz, if_neg (old y hy), if_pos rfl] at q
      have := r.lt hy; omega
    · rw [List.mem_singleton.mp hy, if_neg (old z hz), if_pos rfl] at q
      have := r.lt hz; omega
    · rw [List.mem_singleton.mp hy, List.mem_singleton.mp hz]
  · rw [ek]
    exact List.nodup_append.mpr ⟨r.nd, by simp, fun a ha b hb => by
      rw [List.mem_singleton.mp hb]; exact fun e => hn (e ▸ ha)⟩
theorem fld_at {cs : List Str} {f c : Str} {o e : EM} {env : EnvD} {d : D} {q : Nat} {fs : List (Str × D)} (he : e env S = .ok d S) (ho : o env S = .ok (.loc q) S) (hq : S[q]? = some (.ins c fs)) (hc : c ∈ cs) (hl : fs.length < 1000) : sFldC cs f o e env S = .nx env (S.set q (.ins c (putFD f d fs))) := by
  unfold sFldC
  rw [he]
  simp only [ER.bindS_ok]
  rw [ho]
  simp only [ER.bindS_ok]
  rw [hq]
  exact if_pos ⟨hc, hl⟩
theorem set_get {q : Nat} {c c' : Cell} (h : S[q]? = some c) : (S.set q c')[q]? = some c' := List.getElem?_set_self (List.getElem?_eq_some_iff.mp h).1
theorem n_bh : (("born" : Str) = "home") = False := eq_false (by decide +kernel)
theorem n_bs : (("born" : Str) = "since") = False := eq_false (by decide +kernel)
theorem n_bt : (("born" : Str) = "struck") = False := eq_false (by decide +kernel)
theorem n_hs : (("home" : Str) = "since") = False := eq_false (by decide +kernel)
theorem n_ht : (("home" : Str) = "struck") = False := eq_false (by decide +kernel)
theorem n_st : (("since" : Str) = "struck") = False := eq_false (by decide +kernel)
theorem n_me : (("move" : Str) = "enter") = False := eq_false (by decide +kernel)
theorem n_se : (("strike" : Str) = "enter") = False := eq_false (by decide +kernel)
theorem n_re : (("restore" : Str) = "enter") = False := eq_false (by decide +kernel)
theorem n_sm : (("strike" : Str) = "move") = False := eq_false (by decide +kernel)
theorem n_rm : (("restore" : Str) = "move") = False := eq_false (by decide +kernel)
theorem n_rs : (("restore" : Str) = "strike") = False := eq_false (by decide +kernel)
theorem nd_go : ("go_to" : Str) ∉ (["born", "home", "since", "struck"] : List Str) := by decide +kernel
theorem methO_at {env : EnvD} {c m : Str} {F : FD} {o : EM} {f : LM} {x : D} {ds : List D} {ks : List Str} (ho : o env S = .ok x S) (hi : insD S x = some (c, ks)) (hm : m ∉ ks) (hf : f env S = .ok ds S) : eMethO c m F o f env S = F (x :: ds) S := by
  have e : eMethO c m F o f env S = (o env S).bind fun x S => match insD S x with
    | some (c', ks) => if c' = c ∧ m ∉ ks then (f env S).bindE fun ds S => F (x :: ds) S else .bad
    | none => .bad := rfl
  rw [e, ho]
  show (match insD S x with
    | some (c', ks) => if c' = c ∧ m ∉ ks then (f env S).bindE fun ds S => F (x :: ds) S else .bad
    | none => .bad) = _
  rw [hi]
  show (if c = c ∧ m ∉ ks then (f env S).bindE fun ds S => F (x :: ds) S else .bad) = _
  rw [if_pos ⟨rfl, hm⟩, hf]
  rfl
theorem drop_at {env : EnvD} {f : EM} {d : D} {S' : Store} (h : f env S = .ok d S') : sDrop f env S = .nx env S' := by rw [sDrop_is, h]; rfl
theorem insPers {q : Nat} {s : Sta} (h : S[q]? = some (persC s)) : insD S (.loc q) = some (("Person" : Str), (["born", "home", "since", "struck"] : List Str)) := by
  have h' : S[q]? = some (.ins "Person" (insP s)) := h
  simp [insD, h', insP]
theorem done_later {p q : Nat} {s : Sta} {x : Dn} (hx : x.later = true) (g : opIxX (.loc p) (.str x.nm) S = .ok (.loc q) S) (hq : S[q]? = some (persC s)) : d_done_on [.loc p, x.D] S = .ok .non (S.set q (persC (s.go x))) := by
  have st : ∀ a b : D, startD 8 [a, b] = [some a, some b, none, none, none, none, none, none] := fun _ _ => rfl
  have hq' : S[q]? = some (.ins "Person" (insP s)) := hq
  have i := insPers hq
  unfold d_done_on g_done_on fnF
  rw [st]
  cases x with
  | enter _ _ _ _ => cases hx
  | move n h d =>
    have g : opIxX (.loc p) (.str n) S = .ok (.loc q) S := g
    have go : d_Person_go_to [.loc q, .str h, .int d] S = .ok .non (S.set q (persC (s.go (.move n h d)))) := by
      have st : ∀ a b c : D, startD 3 [a, b, c] = [some a, some b, some c] := fun _ _ _ => rfl
      unfold d_Person_go_to g_Person_go_to fnF
      rw [st, seqN (fld_at (eVar_at rfl) (eVar_at rfl) hq' (by simp) (by simp [insP])), fld_at (eVar_at rfl) (eVar_at rfl) (set_get hq') (by simp) (by simp [insP, putFD, n_bh, n_bs, n_bt, n_hs, n_ht, n_st]), List.set_set]
      rfl
    rw [seqN (e := [some (.loc p), some (.tup [.str "move", .str n, .str h, .int d]), some (.str "move"), some (.str n), some (.lst [.str h, .int d]), none, none, none]) (S' := S) (by simp [sStar2, Dn.D, tupD])]
    have a0 : atI [D.str h, D.int d] 0 = some (.str h) := rfl
    have a1 : atI [D.str h, D.int d] 1 = some (.int d) := rfl
    have gx : eOp opIxX (eVar 0) (eVar 3) [some (.loc p), some (.tup [.str "move", .str n, .str h, .int d]), some (.str "move"), some (.str n), some (.lst [.str h, .int d]), none, none, none] S = .ok (.loc q) S := by
      rw [eOp_is, eVar_at (d := .loc p) rfl]
      simp only [ER.bind_ok]
      rw [eVar_at (d := .str n) rfl]
      exact g
    rw [sIf_is, show eOp opEq (eVar 2) (eC (.str "enter")) [some (.loc p), some (.tup [.str "move", .str n, .str h, .int d]), some (.str "move"), some (.str n), some (.lst [.str h, .int d]), none, none, none] S = .ok (.bl false) S by simp [n_me]]
    simp only [ER.bindS_ok]
    rw [sIf_is, show eOp opEq (eVar 2) (eC (.str "move")) [some (.loc p), some (.tup [.str "move", .str n, .str h, .int d]), some (.str "move"), some (.str n), some (.lst [.str h, .int d]), none, none, none] S = .ok (.bl true) S by simp]
    simp only [ER.bindS_ok]
    rw [drop_at ((methO_at (ds := [.str h, .int d]) gx i nd_go (by simp [a0, a1])).trans go)]
    rfl
  | strike n d =>
    have g : opIxX (.loc p) (.str n) S = .ok (.loc q) S := g
    rw [seqN (e := [some (.loc p), some (.tup [.str "strike", .str n, .int d]), some (.str "strike"), some (.str n), some (.lst [.int d]), none, none, none]) (S' := S) (by simp [sStar2, Dn.D, tupD])]
    have fe := fld_at (cs := ["Person"]) (f := "struck") (o := eOp opIxX (eVar 0) (eVar 3)) (e := eOp opEq (eVar 2) (eC (.str "strike"))) (env := [some (.loc p), some (.tup [.str "strike", .str n, .int d]), some (.str "strike"), some (.str n), some (.lst [.int d]), none, none, none]) (d := .bl true) (by simp) (by simp [g, -opIxX_cs]) hq' (by simp) (by simp [insP])
    have z : putFD "struck" (.bl true) (insP s) = insP (s.go (.strike n d)) := by simp [putFD, insP, Sta.go, n_bh, n_bs, n_bt, n_hs, n_ht, n_st]
    rw [z] at fe
    simp [fe, persC, n_se, n_re, n_sm, n_rm, -sFldC_is]
  | restore n d =>
    have g : opIxX (.loc p) (.str n) S = .ok (.loc q) S := g
    rw [seqN (e := [some (.loc p), some (.tup [.str "restore", .str n, .int d]), some (.str "restore"), some (.str n), some (.lst [.int d]), none, none, none]) (S' := S) (by simp [sStar2, Dn.D, tupD])]
    have fe := fld_at (cs := ["Person"]) (f := "struck") (o := eOp opIxX (eVar 0) (eVar 3)) (e := eOp opEq (eVar 2) (eC (.str "strike"))) (env := [some (.loc p), some (.tup [.str "restore", .str n, .int d]), some (.str "restore"), some (.str n), some (.lst [.int d]), none, none, none]) (d := .bl false) (by simp [n_rs]) (by simp [g, -opIxX_cs]) hq' (by simp) (by simp [insP])
    have z : putFD "struck" (.bl false) (insP s) = insP (s.go (.restore n d)) := by simp [putFD, insP, Sta.go, n_bh, n_bs, n_bt, n_hs, n_ht, n_st]
    rw [z] at fe
    simp [fe, persC, n_se, n_re, n_sm, n_rm, -sFldC_is]
theorem done_enter {p : Nat} {x : Dn} {kds : Kds} (hx : x.later = false) (hp : S[p]? = some (.dic kds)) (hk : kds.length ≤ 1000) :
    d_done_on [.loc p, x.D] S = .ok .non ((S ++ [persC (s0.go x)]).set p (.dic (putD kds (.inr x.nm) (.loc S.length)))) := by
  have st : ∀ a b : D, startD 8 [a, b] = [some a, some b, none, none, none, none, none, none] := fun _ _ => rfl
  have pl : p < S.length := (List.getElem?_eq_some_iff.mp hp).1
  cases x with
  | move _ _ _ => cases hx
  | strike _ _ => cases hx
  | restore _ _ => cases hx
  | enter n b h d =>
    unfold d_done_on g_done_on fnF
    rw [st]
    rw [seqN (e := [some (.loc p), some (.tup [.str "enter", .str n, .int b, .str h, .int d]), some (.str "enter"), some (.str n), some (.lst [.int b, .str h, .int d]), none, none, none]) (S' := S) (by simp [sStar2, Dn.D, tupD])]
    have mk : d_Person_init [.loc S.length, .int b, .str h, .int d] (S ++ [.ins "Person" []]) = .ok .non (S ++ [persC ⟨b, h, d, false⟩]) := by
      have st : ∀ a b c e : D, startD 4 [a, b, c, e] = [some a, some b, some c, some e] := fun _ _ _ _ => rfl
      unfold d_Person_init g_Person_init fnF
      rw [st]
      have gl : (S ++ [Cell.ins "Person" []])[S.length]? = some (.ins "Person" []) := by simp
      have z : putFD "struck" (.bl false) (putFD "since" (.int d) (putFD "home" (.str h) (putFD "born" (.int b) []))) = insP ⟨b, h, d, false⟩ := by simp [putFD, insP, n_bh, n_bs, n_bt, n_hs, n_ht, n_st]
      rw [seqN (fld_at (eVar_at rfl) (eVar_at rfl) gl (by simp) (by simp)), seqN (fld_at (eVar_at rfl) (eVar_at rfl) (set_get gl) (by simp) (by simp [putFD])), List.set_set, seqN (fld_at (eVar_at rfl) (eVar_at rfl) (set_get gl) (by simp) (by simp [putFD, n_bh, n_bs, n_hs])), List.set_set, fld_at (d := .bl false) eC_is (eVar_at rfl) (set_get gl) (by simp) (by simp [putFD, n_bh, n_bs, n_hs]), List.set_set, z]
      simp [persC]
    have pp : (S ++ [persC ⟨b, h, d, false⟩])[p]? = some (.dic kds) := by rw [List.getElem?_append_left pl]; exact hp
    have hz : sz (kds.length + 1) := sz_is (by omega)
    simp [bTupX, eMake, mk, sPutX, setX, pp, keyD, hz, Sta.go, Dn.nm]
/-- a deed done on people -/
theorem done_ok {p : Nat} {P : Pl} {lc : Str → Nat} (r : Rep S p P lc) {x : Dn} (f : Fit P x) (hP : P.length ≤ 900) :
    ∃ S' lc', d_done_on [.loc p, x.D] S = .ok .non S' ∧ Rep S' p (act P x) lc' ∧ S.length ≤ S'.length ∧ (∀ l, l ≠ p → (∀ y ∈ P, lc y.1 ≠ l) → l < S.length → S'[l]? = S[l]?) ∧ (∀ y ∈ act P x, lc' y.1 = S.length ∨ ∃ z ∈ P, lc' y.1 = lc z.1) := by
  unfold Fit at f
  cases hx : x.later
  · rw [if_neg (by rw [hx]; simp)] at f
    have e := done_enter (x := x) hx r.dic (by rw [kd_len, List.length_map]; omega)
    have pn : putD (kd (P.map (·.1)) fun n => .loc (lc n)) (.inr x.nm) (.loc S.length) = kd (P.map (·.1) ++ [x.nm]) fun n => .loc (if n = x.nm then S.length else lc n) := put_new f (fun m hm => by
      have ne : m ≠ x.nm := fun e => f (by rw [← e]; exact hm)
      rw [if_neg ne]) (by rw [if_pos rfl])
    rw [pn] at e
    refine ⟨_, _, e, r.enter hx f, by simp, fun l h1 h2 h3 => ?_, fun y hy => ?_⟩
    · rw [List.getElem?_set_ne h1.symm, List.getElem?_append_left h3]
    · have ea : act P x = P ++ [(x.nm, s0.go x)] := by unfold act; rw [if_neg (by rw [hx]; simp)]
      rw [ea] at hy
      rcases List.mem_append.mp hy with hy | hy
      · exact .inr ⟨y, hy, by
          have ne : y.1 ≠ x.nm := fun e => f (by rw [← e]; exact List.mem_map.mpr ⟨y, hy, rfl⟩)
          rw [if_neg ne]⟩
      · rw [List.mem_singleton.mp hy]; exact .inl (by rw [if_pos rfl])
  · rw [if_pos hx] at f
    obtain ⟨⟨n, s⟩, hs, e⟩ := List.mem_map.mp f
    have e : n = x.nm := e
    subst e
    refine ⟨_, _, done_later (s := s) hx (r.get f) (r.at_ _ hs), r.later hx hs, by simp, fun l h1 h2 h3 => ?_, fun y hy => ?_⟩
    · exact List.getElem?_set_ne (h2 _ hs)
    · have ea : act P x = P.map (fun p => if p.1 = x.nm then (p.1, p.2.go x) else p) := by unfold act; rw [if_pos hx]
      rw [ea] at hy
      obtain ⟨z, hz, rfl⟩ := List.mem_map.mp hy
      exact .inr ⟨z, hz, by split <;> rfl⟩
end DY
end
section
/-! rights, of several people. -/
namespace DY
open PySem L2 DL DR
variable {S : Store}
def upto (day : Int) (L : List Dn) : List Dn := L.filter fun x => decide (x.day ≤ day)
variable {r l : Nat} {day age stay : Int} {n6 : Option D}
/-- people behind a store -/
structure Beh (S T : Store) (P : Pl) (lc : Str → Nat) : Prop where
  tk : T.take S.length = S
  rep : Rep T S.length P lc
  ge : ∀ y ∈ P, S.length < lc y.1
theorem Beh.low {T : Store} {P : Pl} {lc : Str → Nat} (b : Beh S T P lc) {i : Nat} (hi : i < S.length) : T[i]? = S[i]? := by
  have e : (T.take S.length)[i]? = T[i]? := by rw [List.getElem?_take, if_pos hi]
  rw [← e, b.tk]
theorem Beh.step {T : Store} {P : Pl} {lc : Str → Nat} (b : Beh S T P lc) {x : Dn} (f : Fit P x) (hP : P.length ≤ 900) : ∃ T' lc', d_done_on [.loc S.length, x.D] T = .ok .non T' ∧ Beh S T' (act P x) lc' := by
  obtain ⟨T', lc', e, r', l', k, g⟩ := done_ok b.rep f hP
  have tl := b.rep.ltp
  refine ⟨T', lc', e, ?_, r', fun y hy => ?_⟩
  · apply List.ext_getElem?
    intro i
    rw [List.getElem?_take]
    by_cases hi : i < S.length
    · rw [if_pos hi, k i (by omega) (fun y hy => by have := b.ge y hy; omega) (by omega), b.low hi]
    · rw [if_neg hi, List.getElem?_eq_none (by omega)]
  · rcases g y hy with q | ⟨z, hz, q⟩
    · rw [q]; exact tl
    · rw [q]; exact b.ge z hz
/-- the people on a day -/
def on (day : Int) (L : List Dn) : Pl := (upto day L).foldl act []
end DY
end
section
/-! What is due to a deed. -/
namespace DY
open PySem L2 DL DR
variable {S : Store}
theorem opEq_nil2 {bad : List Nat} (h : ∀ c ∈ bad, c < 0x110000) : opEq (.lst (bad.map fun c => D.str ⟨#[c]⟩)) (.lst []) S = .ok (.bl (decide (bad = []))) S := by
  have := DW.opEq_nilL (S := S) (l := bad.map fun c => (⟨#[c]⟩ : Str)) (fun n hn => by
    obtain ⟨c, hc, rfl⟩ := List.mem_map.mp hn
    unfold PyData.strOk
    simp [h c hc])
  rw [List.map_map] at this
  rw [show (bad.map fun c => D.str ⟨#[c]⟩) = bad.map (D.str ∘ fun c => (⟨#[c]⟩ : Str)) from rfl, this]
  simp
theorem nameR_any {d : D} (h : Ask d) : d__law_name_right [d] S = .ok (.bl (nmOk d)) S := by
  cases d with
  | str s =>
    have hl : s.length ≤ 4000000 := h.1
    have sl : (signsD s).length = s.length := by simp [signsD, Str.length]
    have z : sz s.length := sz_is (by omega)
    have z0 : sz 0 := sz_is (by omega)
    have lc := lcD_fa (S := S) (b := bName 1) (tt := g__law_name_right_t1) (elt := eVar 1) (env := [some (.str s), none]) (fun c : Nat => D.str ⟨#[c]⟩) (fun c => !decide (c ∈ (Str.ofString "abcdefghijklmnopqrstuvwxyz").cps.toList)) (fun c => D.str ⟨#[c]⟩) s.cps.toList [] (fun c hc => by
      refine ⟨_, rfl, ?_, fun _ => rfl⟩
      unfold g__law_name_right_t1
      rw [eOp_is, eVar_at (d := .str ⟨#[c]⟩) rfl]
      simp only [ER.bind_ok, eC_is]
      rfl) (by
        have q : s.cps.toList.length = s.length := by simp [Str.length]
        simp only [List.length_nil]; omega)
    rw [List.nil_append] at lc
    obtain ⟨bad, hbad⟩ : ∃ bad, s.cps.toList.filter (fun c => !decide (c ∈ (Str.ofString "abcdefghijklmnopqrstuvwxyz").cps.toList)) = bad := ⟨_, rfl⟩
    rw [hbad] at lc
    have e0 : opEq (.lst (bad.map fun c => D.str ⟨#[c]⟩)) (.lst []) S = .ok (.bl (decide (bad = []))) S := opEq_nil2 fun c hc => by
      rw [← hbad] at hc
      have hc := (List.mem_filter.mp hc).1
      have q := h.2
      unfold PyData.strOk at q
      rw [Array.all_eq_true'] at q
      exact of_decide_eq_true (q c (by simpa using hc))
    have al : (s.cps.toList.all fun c => decide (c ∈ abc.cps.toList)) = decide (bad = []) := by
      rw [← hbad, Bool.eq_iff_iff]
      simp only [List.all_eq_true, decide_eq_true_eq, List.filter_eq_nil_iff, Bool.not_eq_true', decide_eq_false_iff_not, Classical.not_not]
      exact Iff.rfl
    have st : startD 2 [D.str s] = [some (.str s), none] := rfl
    unfold d__law_name_right g__law_name_right fnF
    rw [st]
    by_cases h1 : 1 ≤ s.length
    · by_cases h2 : s.length ≤ 8
      · have i1 : (1 : Int) ≤ s.length := by omega
        have i2 : (s.length : Int) ≤ 8 := by omega
        have r : nmOk (.str s) = decide (bad = []) := by
          rw [← al]; simp [nmOk, isNm, h1, h2]
        rw [seqN (e := [some (.str s), none]) (S' := S) (by simp [Ty.isa, z, i1, i2])]
        rw [sRet_is, eOp_is, eLc_is]
        have it : iSeq (eVar 0) [some (.str s), none] S = .ok (signsD s) S := by simp
        rw [it]
        simp only [LR.bindE_ok, wipeD_cons, wipeD_nil]
        rw [show ([some (D.str s), none] : EnvD).set 1 none = [some (.str s), none] from rfl, show signsD s = s.cps.toList.map (fun c => D.str ⟨#[c]⟩) from rfl, lc, r]
        simp only [LR.bindE_ok, ER.bind_ok]
        rw [show eLst lNil [some (.str s), none] S = .ok (.lst []) S by simp [z0]]
        simp only [ER.bind_ok]
        rw [e0]
        exact exit_bl
      · have i1 : (1 : Int) ≤ s.length := by omega
        have i2 : ¬ (s.length : Int) ≤ 8 := by omega
        simp [Ty.isa, z, i1, i2, nmOk, isNm, h2]
    · have i1 : ¬ (1 : Int) ≤ s.length := by omega
      simp [Ty.isa, z, i1, nmOk, isNm, h1]
  | non => simp [d__law_name_right, g__law_name_right, Ty.isa, nmOk]
  | bl b => simp [d__law_name_right, g__law_name_right, Ty.isa, nmOk]
  | int i => simp [d__law_name_right, g__law_name_right, Ty.isa, nmOk]
  | tup l => simp [d__law_name_right, g__law_name_right, Ty.isa, nmOk]
  | lst l => simp [d__law_name_right, g__law_name_right, Ty.isa, nmOk]
  | _ => exact h.elim
/-- a day that is drawn: any whole number, True or None -/
inductive Dy where
  | int (i : Int)
  | tru
  | non
def Dy.D : Dy → D
  | .int i => .int i
  | .tru => .bl true
  | .non => .non
theorem betw {x a b : Int} : d__law_between [.int x, .int a, .int b] S = .ok (.bl (decide (a ≤ x) && decide (x ≤ b))) S := by
  have st : ∀ u v w : D, startD 3 [u, v, w] = [some u, some v, some w] := fun _ _ _ => rfl
  unfold d__law_between g__law_between fnF
  rw [st]
  by_cases h : a ≤ x
  · by_cases h2 : x ≤ b <;> simp [Ty.isa, h, h2]
  · simp [Ty.isa, h]
def Dy.ok : Dy → Bool
  | .int i => decide (0 ≤ i) && decide (i ≤ 1000000)
  | _ => false
/-- a deed as drawn -/
inductive Rw where
  | enter (n : Str) (b : Int) (h : Str)
  | move (n : Str) (h : Str)
  | strike (n : Str)
  | restore (n : Str)
def Rw.D (y : D) : Rw → D
  | .enter n b h => .tup [.str "enter", .str n, .int b, .str h, y]
  | .move n h => .tup [.str "move", .str n, .str h, y]
  | .strike n => .tup [.str "strike", .str n, y]
  | .restore n => .tup [.str "restore", .str n, y]
def Rw.at (i : Int) : Rw → Dn
  | .enter n b h => .enter n b h i
  | .move n h => .move n h i
  | .strike n => .strike n i
  | .restore n => .restore n i
def Rw.good : Rw → Prop
  | .enter n _ h => isNm n = true ∧ isNm h = true
  | .move n h => isNm n = true ∧ isNm h = true
  | .strike n => isNm n = true
  | .restore n => isNm n = true
def Rw.nm : Rw → Str
  | .enter n _ _ => n
  | .move n _ => n
  | .strike n => n
  | .restore n => n
end DY
end
section
/-! Steps: a def is walked statement by statement, what stands behind each is reckoned by simp only. -/
namespace DL
open PySem L2
variable {S S' S1 : Store} {env e : EnvD} {r : SR} {d x : D}
theorem stN {a b : SM} (h : a env S = .nx e S') (k : b e S' = r) : sSeq a b env S = r := by rw [sSeq_is, h]; exact k
theorem stR {a b : SM} (h : a env S = .rt d S') (k : .rt d S' = r) : sSeq a b env S = r := by rw [sSeq_is, h]; exact k
theorem stX {a b : SM} {q : Exc} (h : a env S = .ex q e S') (k : .ex q e S' = r) : sSeq a b env S = r := by rw [sSeq_is, h]; exact k
theorem fnRt {m : Mode} {n : Nat} {g : SM} {ds : List D} {R : ER} (h : g (startD n ds) S = .rt d S') (k : exitD m S d S' = R) : fnF m n g ds S = R := by rw [fnF_is, h]; exact k
theorem fnNx {m : Mode} {n : Nat} {g : SM} {ds : List D} {R : ER} (h : g (startD n ds) S = .nx e S') (k : exitD m S .non S' = R) : fnF m n g ds S = R := by rw [fnF_is, h]; exact k
theorem fnEx {m : Mode} {n : Nat} {g : SM} {ds : List D} {q : Exc} (h : g (startD n ds) S = .ex q e S') : fnF m n g ds S = .ex q S' := by rw [fnF_is, h]
theorem eV0 {o : Option D} : eVar 0 (some d :: env) S = .ok d S := rfl
theorem eVs {n : Nat} {o : Option D} : eVar (n + 1) (o :: env) S = eVar n env S := by simp only [eVar, List.getElem?_cons_succ]
theorem startD_n {n : Nat} : startD n [] = List.replicate n none := by simp [startD]
theorem startD_c {n : Nat} {ds : List D} : startD (n + 1) (d :: ds) = some d :: startD n ds := by simp [startD]
theorem eMethKN_is {c m : Str} {gD : List D → List D → List D} {F : FD} {o : EM} {f fk : LM} : eMethKN c m gD F o f fk env S = (o env S).bind fun x S => match insD S x with
  | some (c', ks) => if c' = c ∧ m ∉ ks then (f env S).bindE fun ds S0 => (fk env S0).bindE fun es S1 => F (gD (x :: ds) es) S1 else .bad
  | none => .bad := rfl
theorem ifTB {c : EM} {a b : SM} (h : c env S = .ok (.bl true) S') (k : a env S' = r) : sIf c a b env S = r := by rw [sIf_is, h]; exact k
theorem ifFB {c : EM} {a b : SM} (h : c env S = .ok (.bl false) S') (k : b env S' = r) : sIf c a b env S = r := by rw [sIf_is, h]; exact k
/-- a for, one turn; what ends it -/
theorem forC {b : D → EnvD → Option EnvD} {body : SM} {ds : List D} {e1 e2 : EnvD} (h1 : b d env = some e1) (h2 : body e1 S = .nx e2 S') (k : forD b body ds e2 S' = r) : forD b body (d :: ds) env S = r := by
  conv => lhs; unfold forD
  rw [h1]; dsimp only; rw [h2]; exact k
/-- a list's cell that is walked -/
theorem forXc {w : Option Nat} {ds0 : List D} {b : D → EnvD → Option EnvD} {body : SM} {ds : List D} {e1 e2 : EnvD} (hw : okW w ds0 S) (h1 : b d env = some e1) (h2 : body e1 S = .nx e2 S') (k : forDX w ds0 b body ds e2 S' = r) : forDX w ds0 b body (d :: ds) env S = r := by
  conv => lhs; unfold forDX
  rw [if_pos hw, h1]; dsimp only; rw [h2]; exact k
theorem forXn {w : Option Nat} {ds0 : List D} {b : D → EnvD → Option EnvD} {body : SM} (hw : okW w ds0 S) : forDX w ds0 b body [] env S = .nx env S := by
  unfold forDX; rw [if_pos hw]
end DL
end
section
/-! Things of any kind, nested; places in them. -/
namespace DY
open PySem L2 DL DR
variable {S T : Store} {c : Cell} {m : Nat}
def AscS (s : Str) : Prop := s.length ≤ 3900000 ∧ ∀ k ∈ s.cps.toList, k < 128
theorem AscS.ok {s : Str} (h : AscS s) : PyData.strOk s = true := by
  unfold PyData.strOk
  rw [Array.all_eq_true']
  intro k hk
  have := h.2 k (by simpa using hk)
  exact decide_eq_true (by omega)
theorem capp_cps (a b : Str) : (a ++ b).cps.toList = a.cps.toList ++ b.cps.toList := by
  show (a.cps ++ b.cps).toList = _
  simp
theorem clen_cps (a : Str) : a.length = a.cps.toList.length := by simp [Str.length]
theorem AscS.app {a b : Str} (ha : AscS a) (hb : AscS b) (hl : a.length + b.length ≤ 3900000) : AscS (a ++ b) := by
  refine ⟨?_, fun k hk => ?_⟩
  · rw [clen_cps, capp_cps, List.length_append, ← clen_cps, ← clen_cps]; exact hl
  · rw [capp_cps] at hk
    rcases List.mem_append.mp hk with h | h
    · exact ha.2 k h
    · exact hb.2 k h
theorem AscS.cut {a : Str} (ha : AscS a) (lo hi : Option Int) : AscS (cutS a lo hi) := by
  refine ⟨Nat.le_trans (cutS_length a lo hi) ha.1, fun k hk => ha.2 k ?_⟩
  unfold cutS at hk
  exact List.mem_of_mem_drop (List.mem_of_mem_take (by simpa using hk))
theorem up1_ltS : ∀ k, k < 128 → PyProof.Rows.up1 k < 128 := by decide +kernel
theorem up_lenS {a : Str} (ha : AscS a) : (Txt.upper a).length = a.length := by
  rw [PyProof.Rows.upper_ascii ha.2]
  simp [Str.length]
theorem AscS.up {a : Str} (ha : AscS a) : AscS (Txt.upper a) := by
  refine ⟨by rw [up_lenS ha]; exact ha.1, fun k hk => ?_⟩
  rw [PyProof.Rows.upper_ascii ha.2] at hk
  have hk : k ∈ (a.cps.map PyProof.Rows.up1).toList := hk
  rw [Array.toList_map] at hk
  obtain ⟨j, hj, rfl⟩ := List.mem_map.mp hk
  exact up1_ltS j (ha.2 j hj)
theorem abc_ltS : ∀ k ∈ abc.cps.toList, k < 128 := by decide +kernel
theorem AscS.nm {s : Str} (h : isNm s = true) : AscS s := by
  unfold isNm at h
  simp only [Bool.and_eq_true, decide_eq_true_eq, List.all_eq_true] at h
  exact ⟨by omega, fun k hk => abc_ltS k (h.2 k hk)⟩
theorem AscS.int {i : Int} (h : i.natAbs ≤ 3800000) : AscS (toString i : String) := by
  have l := PyProof.Rows.len_str_of_int i
  refine ⟨by omega, fun k hk => ?_⟩
  have a := PySem.int_ascii i
  have hk : k ∈ (Str.ofString (toString i)).cps.toList := hk
  rw [Str.ofString_eq_toList] at hk
  have hk : k ∈ ((toString i).toList.map Char.toNat) := by simpa using hk
  obtain ⟨ch, hc, rfl⟩ := List.mem_map.mp hk
  exact a ch hc
/-- things, nested below n, rows of w at most -/
inductive Od : Nat → Nat → D → Prop
  | non {n w : Nat} : Od n w .non
  | bl {n w : Nat} (b : Bool) : Od n w (.bl b)
  | int {n w : Nat} (i : Int) (h : i.natAbs ≤ 1000100 + w) : Od n w (.int i)
  | str {n w : Nat} (s : Str) (a : AscS s) (h : s.length ≤ 2000000 + w) : Od n w (.str s)
  | tup {n w : Nat} (ds : List D) (hl : ds.length ≤ w) (h : ∀ d ∈ ds, Od n w d) : Od (n + 1) w (.tup ds)
  | lst {n w : Nat} (ds : List D) (hl : ds.length ≤ w) (h : ∀ d ∈ ds, Od n w d) : Od (n + 1) w (.lst ds)
theorem Od.mono {n w : Nat} {d : D} (h : Od n w d) : ∀ {n' w' : Nat}, n ≤ n' → w ≤ w' → Od n' w' d := by
  induction h with
  | non => intro _ _ _ _; exact .non
  | bl b => intro _ _ _ _; exact .bl b
  | int i h => intro _ w' _ hw; exact .int i (by omega)
  | str s a h => intro _ w' _ hw; exact .str s a (by omega)
  | tup ds hl _ ih =>
    intro n' w' hn hw
    obtain ⟨k, rfl⟩ : ∃ k, n' = k + 1 := ⟨n' - 1, by omega⟩
    exact .tup ds (by omega) fun d hd => ih d hd (by omega) hw
  | lst ds hl _ ih =>
    intro n' w' hn hw
    obtain ⟨k, rfl⟩ : ∃ k, n' = k + 1 := ⟨n' - 1, by omega⟩
    exact .lst ds (by omega) fun d hd => ih d hd (by omega) hw
theorem frzDs_allS {ρ : Nat → Option D} : ∀ {ds : List D}, (∀ d ∈ ds, frzD ρ d = some d) → frzDs ρ ds = some ds
  | [], _ => rfl
  | d :: ds, h => by
    show (frzD ρ d).bind (fun a => (frzDs ρ ds).map (a :: ·)) = _
    rw [h d List.mem_cons_self, frzDs_allS fun x hx => h x (List.mem_cons_of_mem _ hx)]; rfl
theorem belDs_allS {k : Nat} : ∀ {ds : List D}, (∀ d ∈ ds, belD k d = true) → belDs k ds = true
  | [], _ => rfl
  | d :: ds, h => by
    show (belD k d && belDs k ds) = true
    rw [h d List.mem_cons_self, belDs_allS fun x hx => h x (List.mem_cons_of_mem _ hx)]; rfl
theorem Od.frz {n w : Nat} {d : D} (h : Od n w d) (ρ : Nat → Option D) : frzD ρ d = some d := by
  induction h with
  | non => rfl
  | bl b => rfl
  | int i h => rfl
  | str x a h => rfl
  | tup ds hl _ ih => show (frzDs ρ ds).map D.tup = _; rw [frzDs_allS ih]; rfl
  | lst ds hl _ ih => show (frzDs ρ ds).map D.lst = _; rw [frzDs_allS ih]; rfl
theorem Od.bel {n w : Nat} {d : D} (h : Od n w d) (k : Nat) : belD k d = true := by
  induction h with
  | non => rfl
  | bl b => rfl
  | int i h => rfl
  | str x a h => rfl
  | tup ds hl _ ih => exact belDs_allS ih
  | lst ds hl _ ih => exact belDs_allS ih
theorem Od.ask {n w : Nat} {d : D} (h : Od n w d) (hw : w ≤ 1000000) : Ask d := by
  cases h with
  | str s a h => exact ⟨by have := a.1; omega, a.ok⟩
  | _ => trivial
theorem pys_allS {k : Nat} : ∀ {ds : List D}, (∀ d ∈ ds, ∃ p, (∀ S, D.py S d = some p) ∧ Shp k p) → ∃ ps, (∀ S, D.pys S ds = some ps) ∧ (∀ p ∈ ps, Shp k p) ∧ ps.length = ds.length
  | [], _ => ⟨[], fun _ => rfl, fun _ h => (nomatch h), rfl⟩
  | d :: ds, h => by
    obtain ⟨p, h1, h2⟩ := h d List.mem_cons_self
    obtain ⟨ps, g1, g2, g3⟩ := pys_allS (ds := ds) fun x hx => h x (List.mem_cons_of_mem _ hx)
    refine ⟨p :: ps, fun S => ?_, fun q hq => ?_, by simp [g3]⟩
    · show ((D.py S d).bind fun b => (D.pys S ds).map (b :: ·)) = _
      rw [h1 S, g1 S]; rfl
    · rcases List.mem_cons.mp hq with rfl | hq
      · exact h2
      · exact g2 q hq
theorem Od.py {n w : Nat} {d : D} (h : Od n w d) : ∃ p, (∀ S, D.py S d = some p) ∧ Shp n p := by
  induction h with
  | non => exact ⟨.none, fun _ => rfl, .none⟩
  | bl b => exact ⟨.bool b, fun _ => rfl, .bool b⟩
  | int i h => exact ⟨.int i, fun _ => rfl, .int i⟩
  | str x a h => exact ⟨.str x, fun _ => rfl, .str a.ok⟩
  | tup ds hl _ ih =>
    obtain ⟨ps, g1, g2, _⟩ := pys_allS ih
    exact ⟨.tuple ps, fun S => by show (D.pys S ds).map PyData.tuple = _; rw [g1 S]; rfl, .tuple g2⟩
  | lst ds hl _ ih =>
    obtain ⟨ps, g1, g2, _⟩ := pys_allS ih
    exact ⟨.list ps, fun S => by show (D.pys S ds).map PyData.list = _; rw [g1 S]; rfl, .list g2⟩
/-! ### how many parts -/
mutual
def nodesS : D → Nat
  | .tup ds => nodesSL ds + 1
  | _ => 1
def nodesSL : List D → Nat
  | [] => 0
  | d :: ds => nodesS d + nodesSL ds
end
theorem nodesSL_le {B : Nat} : ∀ {ds : List D}, (∀ d ∈ ds, nodesS d ≤ B) → nodesSL ds ≤ ds.length * B
  | [], _ => by simp [nodesSL]
  | d :: ds, h => by
    have h1 := h d List.mem_cons_self
    have h2 := nodesSL_le (ds := ds) fun x hx => h x (List.mem_cons_of_mem _ hx)
    rw [nodesSL, List.length_cons, Nat.add_mul]; omega
theorem Od.nodes {n w : Nat} {d : D} (h : Od n w d) : nodesS d ≤ (w + 1) ^ n := by
  induction h with
  | non => exact Nat.pow_pos (by omega)
  | bl b => exact Nat.pow_pos (by omega)
  | int i h => exact Nat.pow_pos (by omega)
  | str x a h => exact Nat.pow_pos (by omega)
  | lst ds hl _ ih => exact Nat.pow_pos (by omega)
  | @tup n w ds hl _ ih =>
    have := nodesSL_le ih
    have p : 0 < (w + 1) ^ n := Nat.pow_pos (by omega)
    rw [nodesS, Nat.pow_succ, Nat.mul_comm _ (w + 1), Nat.add_mul]
    have : ds.length * (w + 1) ^ n ≤ w * (w + 1) ^ n := Nat.mul_le_mul_right _ hl
    omega
/-! ### places -/
inductive Pth : D → List Nat → D → Prop
  | nil {d : D} : Pth d [] d
  | cons {ds : List D} {i : Nat} {e x : D} {p : List Nat} (h : ds[i]? = some e) (r : Pth e p x) : Pth (.tup ds) (i :: p) x
theorem Pth.snoc {d x : D} {p : List Nat} {i : Nat} {ds : List D} (h : Pth d p (.tup ds)) (hi : ds[i]? = some x) : Pth d (p ++ [i]) x := by
  generalize hq : D.tup ds = q at h
  induction h with
  | nil => subst hq; exact .cons hi .nil
  | cons h1 _ ih => exact .cons h1 (ih hq)
theorem Pth.od {d x : D} {p : List Nat} (h : Pth d p x) : ∀ {n w : Nat}, Od n w d → p.length ≤ n ∧ Od (n - p.length) w x := by
  induction h with
  | nil => intro n w o; exact ⟨Nat.zero_le _, o⟩
  | cons h1 _ ih =>
    intro n w o
    cases o with
    | tup ds hl ho =>
      obtain ⟨h2, h3⟩ := ih (ho _ (List.mem_of_getElem? h1))
      refine ⟨by simp; omega, ?_⟩
      rw [List.length_cons, Nat.add_sub_add_right]; exact h3
abbrev pD (p : List Nat) : D := .tup (p.map fun i => .int (i : Nat))
abbrev rD (r : List Nat × D) : D := .tup [pD r.1, r.2]
theorem pD_ints (p : List Nat) : pD p = .tup ((p.map fun i : Nat => (i : Int)).map .int) := by simp
theorem frz_p {ρ : Nat → Option D} (p : List Nat) : frzD ρ (pD p) = some (pD p) := by
  show (frzDs ρ _).map D.tup = _
  rw [frzDs_allS fun d hd => by obtain ⟨i, _, rfl⟩ := List.mem_map.mp hd; rfl]; rfl
theorem ne_p (p : List Nat) : opNe (pD p) (.tup []) S = .ok (.bl (!decide (p = []))) S := by
  have := opNe_tints (as := p.map fun i : Nat => (i : Int)) (bs := []) (S := S)
  rw [pD_ints]
  simpa using this
theorem eq_p (p : List Nat) : opEq (pD p) (.tup []) S = .ok (.bl (decide (p = []))) S := by
  have := opEq_tints (as := p.map fun i : Nat => (i : Int)) (bs := []) (S := S)
  rw [pD_ints]
  simpa using this
theorem py_r {n w : Nat} {r : List Nat × D} (h : Od n w r.2) : ∃ p, (∀ S, D.py S (rD r) = some p) ∧ Shp (n + 2) p := by
  obtain ⟨q, h1, h2⟩ := h.py
  refine ⟨.tuple [.tuple (r.1.map fun i => .int (i : Nat)), q], fun S => ?_, ?_⟩
  · have a : D.pys S (r.1.map fun i => D.int (i : Nat)) = some (r.1.map fun i => PyData.int (i : Nat)) := by
      have := pys_ints (S := S) (r.1.map fun i : Nat => (i : Int))
      rw [List.map_map, List.map_map] at this
      exact this
    simp [D.py, D.pys, a, h1]
  · refine Shp.tuple (k := n + 1) fun p hp => ?_
    simp only [List.mem_cons, List.not_mem_nil, or_false] at hp
    rcases hp with rfl | rfl
    · exact Shp.mono (Shp.tuple (k := 0) fun p hp => by obtain ⟨i, _, rfl⟩ := List.mem_map.mp hp; exact .int _) (by omega)
    · exact h2.mono (by omega)
/-- a list's cell of places that is asked whether it is empty -/
theorem ne_rest {n w l : Nat} {R : List (List Nat × D)} (hn : n ≤ 50) (hR : ∀ r ∈ R, Od n w r.2) (hc : S[l]? = some (.lst (R.map rD))) : opNe (.loc l) (.lst []) S = .ok (.bl (!decide (R = []))) S := by
  obtain ⟨ps, g1, g2, g3⟩ := pys_allS (k := n + 2) (ds := R.map rD) fun d hd => by obtain ⟨r, hr, rfl⟩ := List.mem_map.mp hd; exact py_r (hR r hr)
  have e : D.pyO S (.loc l) = some (.list ps) := by
    show (match S[l]? with | some (.lst ds) => (D.pys S ds).map PyData.list | _ => none) = _
    rw [hc]
    dsimp only
    rw [g1 S]; rfl
  have := opEqB_of (S := S) (neg := true) (x := .loc l) (y := .lst []) (p := .list ps) (q := .list []) e rfl ((Shp.list g2).shaped (by omega)) rfl (fun _ _ h => by cases h)
  show opEqB true _ _ _ = _
  rw [this]
  have q : PyData.eqv (.list ps) (.list []) = decide (R = []) := by
    cases R with
    | nil =>
      have : ps = [] := List.eq_nil_of_length_eq_zero (by simpa using g3)
      subst this; rfl
    | cons a R =>
      cases ps with
      | nil => simp at g3
      | cons b ps => rfl
  rw [q]; rfl
end DY
end
section
/-! Places in a thing: all of them, what stands there, another thing there. -/
namespace DO
open PySem L2 DL DR DY
variable {S T : Store} {c : Cell} {m : Nat}
theorem is_atO {t : Ty} {d : D} {u : Ty} {env : EnvD} {i : Nat} (h : env[i]? = some (some d)) (hu : tyO S d = some (.b u)) : eIsC (tabB t) (eVar i) env S = .ok (.bl (u.isa t)) S := by
  rw [eIsC_is, eVar_at h]
  simp only [ER.bind_ok, hu]
  rfl
theorem od_ty {n w : Nat} {d : D} (h : Od n w d) : ∃ u, (∀ S, tyO S d = some (.b u)) ∧ (u = .tuple → ∃ ds, d = .tup ds) ∧ (u.isa .tuple = true → u = .tuple) := by
  cases h with
  | non => exact ⟨.none, fun _ => rfl, (fun h => nomatch h), (fun h => nomatch h)⟩
  | bl b => exact ⟨.bool, fun _ => rfl, (fun h => nomatch h), (fun h => nomatch h)⟩
  | int i h => exact ⟨.int, fun _ => rfl, (fun h => nomatch h), (fun h => nomatch h)⟩
  | str s a h => exact ⟨.str, fun _ => rfl, (fun h => nomatch h), (fun h => nomatch h)⟩
  | tup ds hl h => exact ⟨.tuple, fun _ => rfl, fun _ => ⟨ds, rfl⟩, fun _ => rfl⟩
  | lst ds hl h => exact ⟨.list, fun _ => rfl, (fun h => nomatch h), (fun h => nomatch h)⟩
def kids (p : List Nat) (ds : List D) : List (List Nat × D) := ds.zipIdx.map fun a => (p ++ [a.2], a.1)
theorem enum_kids : ∀ (ds : List D) (k : Nat), (ds.zipIdx k).map (fun a => D.tup [.int (a.2 : Nat), a.1]) = enumD k ds
  | [], _ => rfl
  | d :: ds, k => by
    rw [List.zipIdx_cons, List.map_cons, enum_kids ds (k + 1)]; rfl
theorem kids_nodes (p : List Nat) : ∀ (ds : List D) (k : Nat), nodesSL (((ds.zipIdx k).map fun a => (p ++ [a.2], a.1)).map (·.2)) = nodesSL ds
  | [], _ => rfl
  | d :: ds, k => by
    rw [List.zipIdx_cons, List.map_cons, List.map_cons, nodesSL, kids_nodes p ds (k + 1)]; rfl
theorem nodesSL_app : ∀ a b : List D, nodesSL (a ++ b) = nodesSL a + nodesSL b
  | [], b => by simp [nodesSL]
  | x :: a, b => by rw [List.cons_append, nodesSL, nodesSL_app a b, nodesSL]; omega
theorem nodes_pos (d : D) : 1 ≤ nodesS d := by cases d <;> simp [nodesS]
theorem nodesSL_len : ∀ a : List D, a.length ≤ nodesSL a
  | [] => Nat.zero_le _
  | x :: a => by have := nodes_pos x; have := nodesSL_len a; rw [List.length_cons, nodesSL]; omega
theorem kids_mem {p : List Nat} {ds : List D} {r : List Nat × D} (h : r ∈ kids p ds) : ∃ i, r.1 = p ++ [i] ∧ ds[i]? = some r.2 := by
  unfold kids at h
  obtain ⟨a, ha, rfl⟩ := List.mem_map.mp h
  exact ⟨a.2, rfl, List.mem_zipIdx_iff_getElem?.mp ha⟩
/-- places found, places left -/
structure PInv (d0 : D) (F : List (List Nat)) (R : List (List Nat × D)) : Prop where
  rt : ∀ r ∈ R, Pth d0 r.1 r.2
  pt : ∀ p ∈ F, ∃ x, Pth d0 p x
  some : (∃ p ∈ F, p ≠ []) ∨ ∃ r ∈ R, r.1 ≠ [] ∨ ∃ d ds, r.2 = .tup (d :: ds)
theorem places_step {d0 : D} {N w : Nat} {F : List (List Nat)} {R : List (List Nat × D)} {r : List Nat × D} {a0 a3 a4 : Option D} (o0 : Od N w d0) (h : PInv d0 F (R ++ [r])) (hN : N ≤ 1000) (hF : F.length ≤ 1000000) (hR : R.length ≤ 1000000) (hw : w ≤ 1000000) :
    ∃ (R' : List (List Nat × D)), g__law_places_b1 [a0, some (.loc S.length), some (.loc (S.length + 1)), a3, a4, none, none] (S ++ [.lst (F.map pD), .lst ((R ++ [r]).map rD)]) =
      .nx [a0, some (.loc S.length), some (.loc (S.length + 1)), some (pD r.1), some r.2, none, none] (S ++ [.lst ((F ++ [r.1]).map pD), .lst (R'.map rD)]) ∧ PInv d0 (F ++ [r.1]) R' ∧ nodesSL (R'.map (·.2)) + 1 = nodesSL ((R ++ [r]).map (·.2)) := by
  obtain ⟨p, d⟩ := r
  have c1 : ∀ a b : Cell, cel (S ++ [a, b]) S.length = some a := fun a b => by simp [cel]
  have c2 : ∀ a b : Cell, cel (S ++ [a, b]) (S.length + 1) = some b := fun a b => by simp [cel]
  have s1 : ∀ a b x : Cell, (S ++ [a, b]).set S.length x = S ++ [x, b] := fun a b x => by simp
  have s2 : ∀ a b x : Cell, (S ++ [a, b]).set (S.length + 1) x = S ++ [a, x] := fun a b x => by simp [List.set_append]
  have z1 : sz (F.length + 1) := sz_is (by omega)
  have pt : Pth d0 p d := h.rt (p, d) (by simp)
  obtain ⟨pl, od⟩ := pt.od o0
  obtain ⟨u, hu, hu2, hu3⟩ := od_ty od
  have g1 : ((R ++ [(p, d)]).map rD)[((R ++ [(p, d)]).map rD).length - 1]? = some (rD (p, d)) := by simp
  have g2 : ((R ++ [(p, d)]).map rD).dropLast = R.map rD := by simp
  have fm : (F ++ [p]).map pD = F.map pD ++ [pD p] := by simp
  have hp : PInv d0 (F ++ [p]) R ∨ ∃ d1 ds, d = .tup (d1 :: ds) := by
    by_cases hh : ∃ d1 ds, d = .tup (d1 :: ds)
    · exact .inr hh
    · refine .inl ⟨fun r hr => h.rt r (by simp [hr]), fun q hq => ?_, ?_⟩
      · rcases List.mem_append.mp hq with hq | hq
        · exact h.pt q hq
        · simp at hq; subst hq; exact ⟨d, pt⟩
      · rcases h.some with ⟨q, hq, hne⟩ | ⟨r, hr, hr2⟩
        · exact .inl ⟨q, by simp [hq], hne⟩
        · rcases List.mem_append.mp hr with hr | hr
          · exact .inr ⟨r, hr, hr2⟩
          · simp at hr; subst hr
            rcases hr2 with hr2 | hr2
            · exact .inl ⟨p, by simp, hr2⟩
            · exact absurd hr2 hh
  have first : ∀ X : Store → SM → SR, True := fun _ => trivial
  have e1 : (sAsg (eMeth "list" mPop (eVar 2) lNil) (bTup (bCons (bName 3) (bCons (bName 4) bNil)))) [a0, some (.loc S.length), some (.loc (S.length + 1)), a3, a4, none, none] (S ++ [.lst (F.map pD), .lst ((R ++ [(p, d)]).map rD)]) =
      .nx [a0, some (.loc S.length), some (.loc (S.length + 1)), some (pD p), some d, none, none] (S ++ [.lst (F.map pD), .lst (R.map rD)]) := by
    generalize (R ++ [(p, d)]).map rD = RR at *
    rw [show rD (p, d) = .tup [pD p, d] from rfl] at g1
    generalize pD p = PP at *
    simp [c2, s2, g1, g2]
  have e2 : (sDrop (eMeth "list" mAppend (eVar 1) (lCons (eVar 3) lNil))) [a0, some (.loc S.length), some (.loc (S.length + 1)), some (pD p), some d, none, none] (S ++ [.lst (F.map pD), .lst (R.map rD)]) =
      .nx [a0, some (.loc S.length), some (.loc (S.length + 1)), some (pD p), some d, none, none] (S ++ [.lst ((F ++ [p]).map pD), .lst (R.map rD)]) := by
    rw [fm]
    generalize pD p = PP at *
    simp [c1, s1, z1]
  have ia := is_atO (t := .tuple) (S := S ++ [.lst ((F ++ [p]).map pD), .lst (R.map rD)]) (env := [a0, some (.loc S.length), some (.loc (S.length + 1)), some (pD p), some d, none, none]) (i := 4) rfl (hu _)
  by_cases ht : u = .tuple
  · obtain ⟨ds, rfl⟩ := hu2 ht
    subst ht
    have hds : ds.length ≤ w := by
      generalize N - p.length = K at od
      cases od with
      | tup _ hl _ => exact hl
    have zk : ((kids p ds).map rD).length = ds.length := by simp [kids]
    have lc := lcD_ma (S := S ++ [.lst ((F ++ [p]).map pD), .lst (R.map rD)]) (b := bTup (bCons (bName 5) (bCons (bName 6) bNil))) (elt := g__law_places_e1) (env := [a0, some (.loc S.length), some (.loc (S.length + 1)), some (pD p), some (.tup ds), none, none]) (fun a : D × Nat => D.tup [.int (a.2 : Nat), a.1]) (fun a => rD (p ++ [a.2], a.1)) ds.zipIdx (fun a ha => by
      refine ⟨_, rfl, ?_⟩
      have za : ∀ S, opAdd (pD p) (.tup [.int (a.2 : Nat)]) S = .ok (pD (p ++ [a.2])) S := fun S => by
        show (if sz ((p.map fun i => D.int (i : Nat)).length + 1) then ER.ok (.tup (p.map (fun i => D.int (i : Nat)) ++ [.int (a.2 : Nat)])) S else .bad) = _
        rw [if_pos (sz_is (by simp; omega)), pD, List.map_append]; rfl
      have z2 : sz 2 := sz_is (by omega)
      have z1 : sz 1 := sz_is (by omega)
      generalize pD p = PP at *
      show _ = ER.ok (.tup [pD (p ++ [a.2]), a.1]) _
      generalize pD (p ++ [a.2]) = PQ at *
      simp [g__law_places_e1, za, z1, z2]) (by rw [List.length_zipIdx]; omega)
    rw [enum_kids] at lc
    have ek : ds.zipIdx.map (fun a => rD (p ++ [a.2], a.1)) = (kids p ds).map rD := by unfold kids; rw [List.map_map]; rfl
    rw [ek] at lc
    refine ⟨R ++ kids p ds, ?_, ?_, ?_⟩
    · unfold g__law_places_b1
      refine stN e1 (stN e2 (ifTB ia ?_))
      have z3 : sz ((R.map rD).length + ((kids p ds).map rD).length) := sz_is (by rw [zk, List.length_map]; omega)
      have rm : (R ++ kids p ds).map rD = R.map rD ++ (kids p ds).map rD := by simp
      rw [rm]
      generalize (F ++ [p]).map pD = FF at *
      generalize (kids p ds).map rD = KK at *
      generalize R.map rD = RR at *
      generalize pD p = PP at *
      have ld : ∀ S, listD S (.lst KK) = some KK := fun _ => rfl
      simp [lc, c2, s2, mExtendX, z3, ld]
    · refine ⟨fun r hr => ?_, fun q hq => ?_, ?_⟩
      · rcases List.mem_append.mp hr with hr | hr
        · exact h.rt r (by simp [hr])
        · obtain ⟨i, h1, h2⟩ := kids_mem hr
          rw [h1]
          exact pt.snoc h2
      · rcases List.mem_append.mp hq with hq | hq
        · exact h.pt q hq
        · simp at hq; subst hq; exact ⟨_, pt⟩
      · rcases hp with hp | ⟨d1, ds', hd⟩
        · rcases hp.some with hh | ⟨r, hr, hr2⟩
          · exact .inl hh
          · exact .inr ⟨r, by simp [hr], hr2⟩
        · cases hd
          exact .inr ⟨(p ++ [0], d1), by simp [kids, List.zipIdx_cons], .inl (by simp)⟩
    · rw [List.map_append, nodesSL_app, List.map_append, nodesSL_app]
      have := kids_nodes p ds 0
      unfold kids
      rw [this]
      simp [nodesSL, nodesS]; omega
  · have hf : u.isa .tuple = false := by
      cases hx : u.isa .tuple with
      | true => exact absurd (hu3 hx) ht
      | false => rfl
    rw [hf] at ia
    refine ⟨R, ?_, ?_, ?_⟩
    · unfold g__law_places_b1
      exact stN e1 (stN e2 (ifFB ia rfl))
    · rcases hp with hp | ⟨d1, ds, hd⟩
      · exact hp
      · subst hd
        have := hu S
        cases this
        exact absurd rfl ht
    · rw [List.map_append, nodesSL_app]
      have : nodesS d = 1 := by
        cases d with
        | tup ds =>
          have := hu S
          cases this
          exact absurd rfl ht
        | _ => rfl
      simp [nodesSL, this]
theorem places_loop {d0 : D} {N w : Nat} {a0 : Option D} (o0 : Od N w d0) (hN : N ≤ 50) (hw : w ≤ 1000000) : ∀ (k fuel : Nat) (F : List (List Nat)) (R : List (List Nat × D)) (a3 a4 : Option D), PInv d0 F R → nodesSL (R.map (·.2)) ≤ k → k < fuel → F.length + k ≤ 1000000 →
    ∃ (F' : List (List Nat)) (a3' a4' : Option D), whileD g__law_places_c1 g__law_places_b1 fuel [a0, some (.loc S.length), some (.loc (S.length + 1)), a3, a4, none, none] (S ++ [.lst (F.map pD), .lst (R.map rD)]) = .nx [a0, some (.loc S.length), some (.loc (S.length + 1)), a3', a4', none, none] (S ++ [.lst (F'.map pD), .lst []]) ∧ (∀ p ∈ F', ∃ x, Pth d0 p x) ∧ (∃ p ∈ F', p ≠ []) ∧ F'.length ≤ 1000000 := by
  intro k
  induction k with
  | zero =>
    intro fuel F R a3 a4 h hk hf hl
    obtain ⟨f, rfl⟩ : ∃ f, fuel = f + 1 := ⟨fuel - 1, by omega⟩
    have lr := nodesSL_len (R.map (·.2))
    have hR : R = [] := List.eq_nil_of_length_eq_zero (by simp at lr; omega)
    subst hR
    have ne := ne_rest (S := S ++ [.lst (F.map pD), .lst (([] : List (List Nat × D)).map rD)]) (n := N) (w := w) (l := S.length + 1) (R := []) hN (fun _ h => by cases h) (by simp)
    refine ⟨F, a3, a4, ?_, h.pt, ?_, by omega⟩
    · rw [whileD_succ]
      have z0 : sz 0 := sz_is (by omega)
      have : g__law_places_c1 [a0, some (.loc S.length), some (.loc (S.length + 1)), a3, a4, none, none] (S ++ [.lst (F.map pD), .lst (([] : List (List Nat × D)).map rD)]) = .ok (.bl false) (S ++ [.lst (F.map pD), .lst (([] : List (List Nat × D)).map rD)]) := by
        unfold g__law_places_c1
        rw [eOp_is, eVar_at (d := .loc (S.length + 1)) rfl]
        simp only [ER.bind_ok, eLst_is, lNil_is, LR.bindE_ok, List.length_nil, z0, if_true, ne]
        rfl
      rw [this]; rfl
    · rcases h.some with hh | ⟨r, hr, _⟩
      · exact hh
      · cases hr
  | succ k ih =>
    intro fuel F R a3 a4 h hk hf hl
    obtain ⟨f, rfl⟩ : ∃ f, fuel = f + 1 := ⟨fuel - 1, by omega⟩
    have lr := nodesSL_len (R.map (·.2))
    rw [List.length_map] at lr
    by_cases hR : R = []
    · subst hR
      exact ih (f + 1) F [] a3 a4 h (by simp [nodesSL]) (by omega) (by omega)
    · have ne := ne_rest (S := S ++ [.lst (F.map pD), .lst (R.map rD)]) (n := N) (w := w) (l := S.length + 1) (R := R) hN (fun r hr => ((h.rt r hr).od o0).2.mono (by omega) (Nat.le_refl _)) (by simp)
      obtain ⟨R0, r, rfl⟩ : ∃ R0 r, R = R0 ++ [r] := ⟨R.dropLast, R.getLast hR, (List.dropLast_concat_getLast hR).symm⟩
      have l0 : R0.length + 1 ≤ k + 1 := by rw [List.length_append] at lr; simp only [List.length_cons, List.length_nil] at lr; omega
      obtain ⟨R', e1, hi, hn⟩ := places_step (S := S) (a0 := a0) (a3 := a3) (a4 := a4) o0 h (by omega) (by omega) (by omega) hw
      obtain ⟨F', a3', a4', e2, h1, h2, h3⟩ := ih f (F ++ [r.1]) R' (some (pD r.1)) (some r.2) hi (by omega) (by omega) (by simp; omega)
      refine ⟨F', a3', a4', ?_, h1, h2, h3⟩
      rw [whileD_succ]
      have z0 : sz 0 := sz_is (by omega)
      have : g__law_places_c1 [a0, some (.loc S.length), some (.loc (S.length + 1)), a3, a4, none, none] (S ++ [.lst (F.map pD), .lst ((R0 ++ [r]).map rD)]) = .ok (.bl true) (S ++ [.lst (F.map pD), .lst ((R0 ++ [r]).map rD)]) := by
        unfold g__law_places_c1
        rw [eOp_is, eVar_at (d := .loc (S.length + 1)) rfl]
        simp only [ER.bind_ok, eLst_is, lNil_is, LR.bindE_ok, List.length_nil, z0, if_true, ne]
        simp
      rw [this]
      dsimp only
      rw [e1]
      exact e2
theorem places_ok {d0 d1 : D} {ds : List D} {N w : Nat} (hd : d0 = .tup (d1 :: ds)) (o0 : Od N w d0) (hN : N ≤ 50) (hw : w ≤ 1000000) (hn : nodesS d0 ≤ 100000) :
    ∃ F : List (List Nat), d__law_places [d0] S = .ok (.lst (F.map pD)) S ∧ (∀ p ∈ F, ∃ x, Pth d0 p x) ∧ (∃ p ∈ F, p ≠ []) ∧ F.length ≤ 1000000 := by
  obtain ⟨F, a3, a4, e, h1, h2, h3⟩ := places_loop (S := S) (a0 := some d0) o0 hN hw (nodesS d0) bigN [] [([], d0)] none none ⟨fun r hr => by simp at hr; subst hr; exact .nil, (fun _ h => nomatch h), .inr ⟨([], d0), by simp, .inr ⟨d1, ds, hd⟩⟩⟩ (by simp [nodesSL]) (Nat.lt_of_le_of_lt hn (by unfold bigN; decide)) (by simp; omega)
  refine ⟨F, ?_, h1, h2, h3⟩
  have ex : exitD .pure S (.loc S.length) (S ++ [.lst (F.map pD), .lst []]) = .ok (.lst (F.map pD)) S := by
    refine exit_of ?_ (by simp)
    rw [frzD]
    show (if S.length < S.length then some (D.loc S.length) else match (S ++ [Cell.lst (F.map pD), Cell.lst []])[S.length]? with
      | some (Cell.lst ds) => (frzDs (resD S.length (S ++ [Cell.lst (F.map pD), Cell.lst []]) 11) ds).map D.lst
      | some (Cell.dic kvs) => (frzDs (resD S.length (S ++ [Cell.lst (F.map pD), Cell.lst []]) 11) (kvs.map (·.2))).map (D.dic (kvs.map (·.1)))
      | some (Cell.ins c fs) => (frzDs (resD S.length (S ++ [Cell.lst (F.map pD), Cell.lst []]) 11) (fs.map (·.2))).map (D.obj c (fs.map (·.1)))
      | some (Cell.dct kvs) => (frzDs (resD S.length (S ++ [Cell.lst (F.map pD), Cell.lst []]) 11) (kvs.map (·.2))).map (D.dct (kvs.map (·.1)))
      | none => none) = _
    rw [if_neg (by omega), show (S ++ [Cell.lst (F.map pD), .lst []])[S.length]? = some (.lst (F.map pD)) from by simp]
    dsimp only
    rw [frzDs_allS fun d hd => by obtain ⟨p, _, rfl⟩ := List.mem_map.mp hd; exact frz_p p]; rfl
  unfold d__law_places g__law_places
  refine fnRt (d := .loc S.length) (S' := S ++ [.lst (F.map pD), .lst []]) ?_ ex
  refine stN (e := [some d0, some (.loc S.length), some (.loc (S.length + 1)), none, none, none, none]) (S' := S ++ [.lst [], .lst [rD ([], d0)]]) ?_ ?_
  · have z0 : sz 0 := sz_is (by omega)
    have z1 : sz 1 := sz_is (by omega)
    have z2 : sz 2 := sz_is (by omega)
    have st : startD 7 [d0] = [some d0, none, none, none, none, none, none] := rfl
    rw [st]
    simp [z0, z1, z2, pD]
  · refine stN (S' := S ++ [Cell.lst (F.map pD), Cell.lst []]) (e := [some d0, some (.loc S.length), some (.loc (S.length + 1)), a3, a4, none, none]) (show whileD _ _ bigN _ _ = _ from e) ?_
    rw [sRet_is, eVar_at (d := .loc S.length) rfl]; rfl
end DO
end
section
namespace DO
open PySem L2 DL DR DY
variable {S T : Store} {c : Cell} {m : Nat}
theorem at_loop {a1 : Option D} {d x : D} {p : List Nat} (h : Pth d p x) : ∀ (a2 : Option D), ∃ b2, forD (bName 2) g__law_at_b1 (p.map fun i => .int (i : Nat)) [some d, a1, a2] S = .nx [some x, a1, b2] S := by
  induction h with
  | nil => intro a2; exact ⟨a2, rfl⟩
  | @cons ds i e x p hi r ih =>
    intro a2
    obtain ⟨b2, hb⟩ := ih (some (.int (i : Nat)))
    refine ⟨b2, ?_⟩
    rw [List.map_cons]
    refine forC (e1 := [some (.tup ds), a1, some (.int (i : Nat))]) (e2 := [some e, a1, some (.int (i : Nat))]) (S' := S) rfl ?_ hb
    have hx : opIxX (.tup ds) (.int ((i : Nat) : Int)) S = .ok e S := by
      rw [opIxX_t, atI_nat hi]
    unfold g__law_at_b1
    rw [sAsg_is, eOp_is, eVar_at (d := .tup ds) rfl]
    simp only [ER.bind_ok]
    rw [eVar_at (d := .int (i : Nat)) rfl]
    simp only [ER.bind_ok, hx]
    rfl
theorem at_ok {d x : D} {p : List Nat} {n w : Nat} (h : Pth d p x) (o : Od n w d) : d__law_at [d, pD p] S = .ok x S := by
  obtain ⟨b2, hb⟩ := at_loop (S := S) (a1 := some (pD p)) h none
  have ox := (h.od o).2
  unfold d__law_at g__law_at
  refine fnRt (d := x) (S' := S) ?_ (exit_of (ox.frz _) (by simp))
  refine stN (e := [some x, some (pD p), b2]) (S' := S) ?_ ?_
  · have st : startD 3 [d, pD p] = [some d, some (pD p), none] := rfl
    rw [st]
    have sq : iSeq (eVar 1) [some d, some (pD p), none] S = .ok (p.map fun i => .int (i : Nat)) S := by simp
    rw [sFor_is, sq]
    exact hb
  · rw [sRet_is, eVar_at (d := x) rfl]; rfl
/-- the thing with another one at a place -/
theorem with_ok {y : D} {M w : Nat} (oy : Od M w y) {d x : D} {p : List Nat} (h : Pth d p x) : ∀ {n k : Nat}, Od n w d → p.length < k → w ≤ 10000000 → ∃ r, d__law_with_n k [d, pD p, y] S = .ok r S ∧ Od (n + M) w r ∧ (p ≠ [] → ∃ ds rs, d = .tup ds ∧ r = .tup rs ∧ rs.length = ds.length) := by
  induction h with
  | nil =>
    intro n k o hk hw
    obtain ⟨k, rfl⟩ : ∃ j, k = j + 1 := ⟨k - 1, by omega⟩
    refine ⟨y, ?_, oy.mono (by omega) (Nat.le_refl _), fun h => absurd rfl h⟩
    have e := eq_p (S := S) []
    have z0 : sz 0 := sz_is (by omega)
    unfold d__law_with_n g__law_with
    refine fnRt (d := y) (S' := S) ?_ (exit_of (oy.frz _) (by simp))
    refine stR (d := y) (S' := S) (ifTB (S' := S) ?_ ?_) rfl
    · rw [eOp_is, eVar_at (d := pD []) rfl]
      simp only [ER.bind_ok, eTup_is, lNil_is, LR.bindE_ok, List.length_nil, z0, if_true, e]
      simp
    · rw [sRet_is, eVar_at (d := y) rfl]; rfl
  | @cons ds i e x p hi r ih =>
    intro n k o hk hw
    obtain ⟨k, rfl⟩ : ∃ j, k = j + 1 := ⟨k - 1, by omega⟩
    cases o with
    | @tup n _ _ hl ho =>
      obtain ⟨q, h1, h2, _⟩ := ih (n := n) (k := k) (ho e (List.mem_of_getElem? hi)) (by simp at hk; omega) hw
      have il := (List.getElem?_eq_some_iff.mp hi).1
      have mm : Od (n + 1 + M) w (.tup (ds.take i ++ [q] ++ ds.drop (i + 1))) := by
        rw [show n + 1 + M = (n + M) + 1 by omega]
        refine .tup _ (by simp; omega) fun d hd => ?_
        rcases List.mem_append.mp hd with hd | hd
        · rcases List.mem_append.mp hd with hd | hd
          · exact (ho d (List.mem_of_mem_take hd)).mono (by omega) (Nat.le_refl _)
          · simp at hd; subst hd; exact h2
        · exact (ho d (List.mem_of_mem_drop hd)).mono (by omega) (Nat.le_refl _)
      refine ⟨.tup (ds.take i ++ [q] ++ ds.drop (i + 1)), ?_, mm, fun _ => ⟨ds, _, rfl, rfl, by simp; omega⟩⟩
      have e0 := eq_p (S := S) (i :: p)
      have z0 : sz 0 := sz_is (by omega)
      have z1 : sz 1 := sz_is (by omega)
      have ix : opIxX (.tup ds) (.int ((i : Nat) : Int)) S = .ok e S := by rw [opIxX_t, atI_nat hi]
      have ip : opIxX (pD (i :: p)) (.int 0) S = .ok (.int (i : Nat)) S := by
        have q := atI_nat (xs := (i :: p).map fun i => D.int (i : Nat)) (j := 0) (v := .int (i : Nat)) rfl
        rw [opIxX_t]
        show (match atI ((i :: p).map fun i => D.int (i : Nat)) ((0 : Nat) : Int) with | some d => ER.ok d S | none => .bad) = _
        rw [q]
      have k1 : cutD ds none (some ((i : Nat) : Int)) = ds.take i := cut_hi ds i
      have k2 : cutD ds (some ((i : Nat) + 1 : Int)) none = ds.drop (i + 1) := by
        have := cut_lo ds (i + 1)
        push_cast at this
        exact this
      have k3 : cutD ((i :: p).map fun i => D.int (i : Nat)) (some 1) none = p.map fun i => .int (i : Nat) := by
        have := cut_lo ((i :: p).map fun i => D.int (i : Nat)) 1
        simpa using this
      have lt : (ds.take i).length = i := by simp; omega
      have ad1 : opAdd (.tup (ds.take i)) (.tup [q]) S = .ok (.tup (ds.take i ++ [q])) S := by
        show (if sz ((ds.take i).length + 1) then ER.ok (.tup (ds.take i ++ [q])) S else .bad) = _
        rw [if_pos (sz_is (by omega))]
      have ad2 : opAdd (.tup (ds.take i ++ [q])) (.tup (ds.drop (i + 1))) S = .ok (.tup (ds.take i ++ [q] ++ ds.drop (i + 1))) S := by
        show (if sz ((ds.take i ++ [q]).length + (ds.drop (i + 1)).length) then ER.ok (.tup (ds.take i ++ [q] ++ ds.drop (i + 1))) S else .bad) = _
        rw [if_pos (sz_is (by simp; omega))]
      unfold d__law_with_n g__law_with
      refine fnRt (d := .tup (ds.take i ++ [q] ++ ds.drop (i + 1))) (S' := S) ?_ (exit_of (mm.frz _) (by simp))
      generalize ds.take i ++ [q] ++ ds.drop (i + 1) = RR at *
      generalize ds.take i ++ [q] = RQ at *
      generalize ds.take i = RT at *
      generalize ds.drop (i + 1) = RD at *
      rw [show startD 4 [D.tup ds, pD (i :: p), y] = [some (.tup ds), some (pD (i :: p)), some y, none] from rfl]
      refine stN (e := [some (.tup ds), some (pD (i :: p)), some y, none]) (S' := S) (ifFB (S' := S) ?_ rfl) ?_
      · rw [eOp_is, eVar_at (d := pD (i :: p)) rfl]
        simp only [ER.bind_ok, eTup_is, lNil_is, LR.bindE_ok, List.length_nil, z0, if_true, e0]
        simp
      refine stN (e := [some (.tup ds), some (pD (i :: p)), some y, some (.int (i : Nat))]) (S' := S) ?_ ?_
      · rw [sAsg_is, eOp_is, eVar_at (d := pD (i :: p)) rfl]
        simp only [ER.bind_ok, eC_is, ip]
        rfl
      · have on : ∀ env S, oNone env S = .ok none S := fun _ _ => rfl
        have pp : pD (i :: p) = .tup ((i :: p).map fun i => D.int (i : Nat)) := rfl
        rw [pp] at ip ⊢
        have h1' : d__law_with_n k [e, .tup (p.map fun i => .int (i : Nat)), y] S = .ok q S := h1
        generalize ((i :: p).map fun i => D.int (i : Nat)) = IP at *
        generalize (p.map fun i => D.int (i : Nat)) = PP at *
        have ai : atI ds ((i : Nat) : Int) = some e := atI_nat hi
        simp [on, oSome, k1, k2, k3, ai, h1', ad1, ad2, z1]
end DO
end
section
/-! Something near to a thing. -/
namespace DO
open PySem L2 DL DR DY
local macro_rules
  | `(tactic| rwa [$rs,*]) => do
    let ts := rs.getElems.map fun r => (⟨r.raw[1]⟩ : Lean.TSyntax `term)
    `(tactic| first
      | refine stN (by simp only [eV0, eVs, startD_n, startD_c, sSeq_is, sSkip_is, sBk_is, sCt_is, sRet_is, sRetN_is, sDrop_is, sIf_is, sAsg_is, sPar_is, sPar3_is, sAug_is, sFor_is, sForX_is, sPutX_is, sFldC_is, sStar2_is, eC_is, lNil_is, lCons_is, eOp_is, eCall_is, eCallB_is, eTup_is, eLst_is, eLstM_is, eAnd_is, eOr_is, eNot_is, eIf_is, eNeg_is, eChain_is, eMeth_is, eFldC_is, eIsC_is, eMethO_is, eMethKN_is, eMake_is, eSlice_is, oNone_is, eDic0_is, eDic0M_is, iSeq_is, iAny_is, iEnumX_is, iRange1_is, iRange2_is, eLc_is, eLcM_is, eLcX_is, eLcXM_is, eYes_is, wipeD_nil, wipeD_cons, bName_is, bTup_is, bNil_is, bCons_is, Option.bind_some, Option.bind_none, ER.bind_ok, ER.bind_ex, ER.bindL_ok, ER.bindL_ex, ER.bindS_ok, ER.bindS_ex, LR.bind_ok, LR.bind_ex, LR.bindE_ok, LR.bindE_ex, LR.bindS_ok, LR.bindS_ex, OR.bindE_ok, SR.seq_nx, SR.seq_rt, SR.seq_ex, SR.seq_bk, SR.seq_ct, List.set_cons_zero, List.set_cons_succ, List.replicate_succ, List.replicate_zero, Bool.not_true, Bool.not_false, if_true, if_false, ite_true, ite_false, ↓reduceIte, $[$ts:term],*] <;> rfl) ?_
      | (simp only [eV0, eVs, startD_n, startD_c, sSeq_is, sSkip_is, sBk_is, sCt_is, sRet_is, sRetN_is, sDrop_is, sIf_is, sAsg_is, sPar_is, sPar3_is, sAug_is, sFor_is, sForX_is, sPutX_is, sFldC_is, sStar2_is, eC_is, lNil_is, lCons_is, eOp_is, eCall_is, eCallB_is, eTup_is, eLst_is, eLstM_is, eAnd_is, eOr_is, eNot_is, eIf_is, eNeg_is, eChain_is, eMeth_is, eFldC_is, eIsC_is, eMethO_is, eMethKN_is, eMake_is, eSlice_is, oNone_is, eDic0_is, eDic0M_is, iSeq_is, iAny_is, iEnumX_is, iRange1_is, iRange2_is, eLc_is, eLcM_is, eLcX_is, eLcXM_is, eYes_is, wipeD_nil, wipeD_cons, bName_is, bTup_is, bNil_is, bCons_is, Option.bind_some, Option.bind_none, ER.bind_ok, ER.bind_ex, ER.bindL_ok, ER.bindL_ex, ER.bindS_ok, ER.bindS_ex, LR.bind_ok, LR.bind_ex, LR.bindE_ok, LR.bindE_ex, LR.bindS_ok, LR.bindS_ex, OR.bindE_ok, SR.seq_nx, SR.seq_rt, SR.seq_ex, SR.seq_bk, SR.seq_ct, List.set_cons_zero, List.set_cons_succ, List.replicate_succ, List.replicate_zero, Bool.not_true, Bool.not_false, if_true, if_false, ite_true, ite_false, ↓reduceIte, $[$ts:term],*] <;> rfl))
variable {S T : Store} {c : Cell} {m : Nat}
/-- cells that hold no others -/
def FlatO (T : Store) : Prop := ∀ n, T.all (Cell.bel n) = true
theorem exit_drawO {c c' : Cell} {T T2 : Store} {d : D} (h : ∀ ρ, frzD ρ d = some d) (hb : c'.bel (T.length + 1) = true) (fT : FlatO T) : exitD .pure (c :: T) d (c' :: (T ++ T2)) = .ok d (c' :: T) := by
  have tk : (c' :: (T ++ T2)).take (T.length + 1) = c' :: T := by simp
  unfold exitD
  rw [show (c :: T).length = T.length + 1 from rfl, h]
  dsimp only
  rw [tk, if_pos (.inr (by rw [List.all_cons, hb, fT]; rfl))]
def B0 : List D := [.non, .bl true, .bl false, .int 0, .int (-1), .int 1, .int 2, .int 5, .int 6, .int 1000000, .int 1000001, .str "", .str "a", .str "abcdefghi", .str "A", .str "x1", .str "?", .tup []]
theorem B0_od {n w : Nat} : ∀ d ∈ B0, Od (n + 1) w d := by
  have k : ∀ s : Str, s ∈ (["", "a", "abcdefghi", "A", "x1", "?"] : List Str) → s.length ≤ 100 ∧ ∀ k ∈ s.cps.toList, k < 128 := by decide +kernel
  have st : ∀ s : Str, s ∈ (["", "a", "abcdefghi", "A", "x1", "?"] : List Str) → Od (n + 1) w (.str s) := fun s hs => by
    obtain ⟨h1, h2⟩ := k s hs
    exact .str s ⟨by omega, h2⟩ (by omega)
  intro d hd
  unfold B0 at hd
  simp only [List.mem_cons, List.not_mem_nil, or_false] at hd
  rcases hd with rfl | rfl | rfl | rfl | rfl | rfl | rfl | rfl | rfl | rfl | rfl | rfl | rfl | rfl | rfl | rfl | rfl | rfl <;> first | exact .non | exact .bl _ | exact .int _ (by omega) | exact st _ (by simp) | exact .tup [] (by simp) (fun _ h => by cases h)
abbrev rE (x b : D) : EnvD := [some (.loc 0), some x, some b]
theorem base_at {x : D} : sAsg (eLst (lCons (eC .non) (lCons (eC (.bl true)) (lCons (eC (.bl false)) (lCons (eC (.int 0)) (lCons (eNegB (eC (.int 1))) (lCons (eC (.int 1)) (lCons (eC (.int 2)) (lCons (eC (.int 5)) (lCons (eC (.int 6)) (lCons (eC (.int 1000000)) (lCons (eC (.int 1000001)) (lCons (eC (.str "")) (lCons (eC (.str "a")) (lCons (eC (.str "abcdefghi")) (lCons (eC (.str "A")) (lCons (eC (.str "x1")) (lCons (eC (.str "?")) (lCons (eTup lNil) lNil))))))))))))))))))) (bName 2) [some (.loc 0), some x, none] S = .nx (rE x (.lst B0)) S := by
  have z0 : sz 0 := sz_is (by omega)
  have z : sz 18 := sz_is (by omega)
  rwa [eNegB_is, List.length_nil, z0, List.length_cons, Nat.zero_add, Nat.reduceAdd, z]
/-- the draw at last -/
theorem last_at {x : D} {l : List D} (h : l ≠ []) (hl : l.length ≤ 100000) (d : Drw c m) (hm : m ≤ 90000) : ∃ y ∈ l, ∃ c', sRet (eCall d__law_pick (lCons (eVar 0) (lCons (eVar 2) lNil))) (rE x (.lst l)) (c :: T) = .rt y (c' :: T) ∧ Drw c' (m + 1) := by
  obtain ⟨y, hy, c', e, d'⟩ := pickT (T := T) l d (by omega) h (by omega)
  exact ⟨y, hy, c', by simp [e], d'⟩
/-- the base and as often more -/
theorem more_at {x : D} {E : List D} {e1 : EM} {k : Nat} (e : e1 (rE x (.lst B0)) (c :: T) = .ok (.loc (c :: T).length) ((c :: T) ++ [.lst E])) (hE : E.length ≤ 10) (hk : k ≤ 4) :
    sAsg (eOp opAddB (eVar 2) (eOp opMulX e1 (eC (.int (k : Nat))))) (bName 2) (rE x (.lst B0)) (c :: T) = .nx (rE x (.lst (B0 ++ (List.replicate k E).flatten))) (c :: (T ++ [.lst E])) := by
  have lb : B0.length = 18 := rfl
  have cl : cel (c :: (T ++ [.lst E])) (c :: T).length = some (.lst E) := by
    show ((c :: T) ++ [Cell.lst E])[(c :: T).length]? = _
    simp
  have kk : E.length * k ≤ 10 * 4 := Nat.mul_le_mul hE hk
  have w : w63 ((k : Nat) : Int) ∧ sz (E.length * ((k : Nat) : Int).toNat) := ⟨w63_is (by omega) (by omega), sz_is (by rw [Int.toNat_natCast]; omega)⟩
  have mu : opMulX (.loc (c :: T).length) (.int (k : Nat)) (c :: (T ++ [.lst E])) = .ok (.lst (List.replicate k E).flatten) (c :: (T ++ [.lst E])) := by
    rw [opMulX_c, cl]
    dsimp only
    rw [if_pos w, Int.toNat_natCast]
  have zz : sz (B0.length + ((List.replicate k E).flatten).length) := sz_is (by
    rw [lb]; simp only [List.length_flatten, List.map_replicate, List.sum_replicate_nat]; rw [Nat.mul_comm]; omega)
  rw [sAsg_is, eOp_is, eVar_at (i := 2) (d := .lst B0) rfl]
  simp only [ER.bind_ok]
  rw [eOp_is, e]
  simp only [ER.bind_ok, eC_is]
  rw [show (c :: T) ++ [Cell.lst E] = c :: (T ++ [.lst E]) from rfl, mu]
  simp only [ER.bind_ok]
  rw [opAddB_o (fun _ h => by cases h), opAdd_ll, if_pos zz]
  rfl
theorem more_od {n w k : Nat} {E : List D} (hE : ∀ d ∈ E, Od (n + 1) w d) : ∀ d ∈ B0 ++ (List.replicate k E).flatten, Od (n + 1) w d := fun d hd => by
  rcases List.mem_append.mp hd with h | h
  · exact B0_od d h
  · obtain ⟨l, hl, hd⟩ := List.mem_flatten.mp h
    rw [List.eq_of_mem_replicate hl] at hd
    exact hE d hd
theorem more_len {k : Nat} {E : List D} (hE : E.length ≤ 10) (hk : k ≤ 4) : (B0 ++ (List.replicate k E).flatten).length ≤ 100 := by
  have kk : k * E.length ≤ 4 * 10 := Nat.mul_le_mul hk hE
  have lb : B0.length = 18 := rfl
  simp only [List.length_append, List.length_flatten, List.map_replicate, List.sum_replicate_nat, lb]; omega
theorem more_ne {l : List D} : B0 ++ l ≠ [] := by unfold B0; simp
noncomputable abbrev eS : EM := (eLstM (lCons (eOp opAddB (eVar 1) (eC (.str "x"))) (lCons (eSliceS (eVar 1) oNone (oSome (eNegB (eC (.int 1))))) (lCons (eUpper (eVar 1)) (lCons (eTup (lCons (eVar 1) lNil)) (lCons (eLst (lCons (eVar 1) lNil)) (lCons (eOp opAddB (eVar 1) (eC (.str " "))) lNil)))))))
noncomputable abbrev eI : EM := (eLstM (lCons (eOp opAddB (eVar 1) (eC (.int 1))) (lCons (eOp opSubB (eVar 1) (eC (.int 1))) (lCons (eNegB (eVar 1)) (lCons (eCallB bStrB (lCons (eVar 1) lNil)) (lCons (eOp opEq (eVar 1) (eC (.int 1))) (lCons (eTup (lCons (eVar 1) lNil)) (lCons (eLst (lCons (eVar 1) lNil)) lNil))))))))
noncomputable abbrev eT : EM := (eLstM (lCons (eCallB bListX (lCons (eVar 1) lNil)) (lCons (eOp opAddB (eVar 1) (eSliceS (eVar 1) (oSome (eNegB (eC (.int 1)))) oNone)) (lCons (eSliceS (eVar 1) oNone (oSome (eNegB (eC (.int 1))))) (lCons (eSliceS (eVar 1) (oSome (eC (.int 1))) oNone) (lCons (eRev (eVar 1)) (lCons (eTup (lCons (eVar 1) lNil)) (lCons (eOp opAddB (eVar 1) (eTup (lCons (eC .non) lNil))) lNil))))))))
theorem strange_ok {x : D} {n w : Nat} (o : Od n w x) (fT : FlatO T) (d : Drw c m) (hm : m ≤ 80000) (hw : w ≤ 100) : ∃ (y : D) (c' : Cell), d__law_strange [.loc 0, x] (c :: T) = .ok y (c' :: T) ∧ Od (n + 1) (w + 1) y ∧ Drw c' (m + 1) := by
  have st : startD 3 [.loc 0, x] = [some (.loc 0), some x, none] := rfl
  have ex : ∀ (y : D) (c' : Cell) (T2 : Store), Od (n + 1) (w + 1) y → Drw c' (m + 1) → exitD .pure (c :: T) y (c' :: (T ++ T2)) = .ok y (c' :: T) := fun y c' T2 oy d' => exit_drawO (oy.frz) d'.bel fT
  have o' : Od (n + 1) (w + 1) x := o.mono (by omega) (by omega)
  have isx : ∀ (t : Ty) {u : Ty} (S : Store) (b : D), tyO S x = some (.b u) → eIsC (tabB t) (eVar 1) (rE x b) S = .ok (.bl (u.isa t)) S := fun t u S b hu => is_atO (i := 1) rfl hu
  have z1 : sz 1 := sz_is (by omega)
  have z6 : sz 6 := sz_is (by omega)
  have z7 : sz 7 := sz_is (by omega)
  have as1 : AscS "x" := ⟨by decide +kernel, by decide +kernel⟩
  have as2 : AscS " " := ⟨by decide +kernel, by decide +kernel⟩
  have l1 : ("x" : Str).length = 1 := by decide +kernel
  have l2 : (" " : Str).length = 1 := by decide +kernel
  unfold d__law_strange g__law_strange
  have plain : ∀ u : Ty, (∀ S, tyO S x = some (.b u)) → u.isa .str = false → u.isa .int = false → u.isa .tuple = false → ∃ (y : D) (c' : Cell), fnF .pure 3 g__law_strange [.loc 0, x] (c :: T) = .ok y (c' :: T) ∧ Od (n + 1) (w + 1) y ∧ Drw c' (m + 1) := fun u hu h1 h2 h3 => by
    obtain ⟨y, hy, c', e, d'⟩ := last_at (T := T) (x := x) (l := B0) (by unfold B0; simp) (by decide) d (by omega)
    refine ⟨y, c', ?_, B0_od y hy, d'⟩
    have i1 := isx .str (c :: T) (.lst B0) (hu _)
    have i2 := isx .int (c :: T) (.lst B0) (hu _)
    have i3 := isx .tuple (c :: T) (.lst B0) (hu _)
    rw [h1] at i1; rw [h2] at i2; rw [h3] at i3
    refine fnRt (S' := c' :: T) (d := y) ?_ (by have := ex y c' [] (B0_od y hy) d'; rwa [List.append_nil] at this)
    rw [st]
    unfold g__law_strange
    exact stN base_at (stN (ifFB i1 rfl) (stN (ifFB i2 rfl) (stN (ifFB i3 rfl) e)))
  cases o with
  | non => exact plain .none (fun _ => rfl) rfl rfl rfl
  | lst ds hl h => exact plain .list (fun _ => rfl) rfl rfl rfl
  | str s as hl =>
    have os : ∀ s' : Str, AscS s' → s'.length ≤ 2000000 + (w + 1) → Od (n + 1) (w + 1) (.str s') := fun s' a h => .str s' a h
    have la := as.1
    obtain ⟨E, hE⟩ : ∃ E : List D, E = [.str (s ++ "x"), .str (cutS s none (some (-1))), .str (Txt.upper s), .tup [.str s], .lst [.str s], .str (s ++ " ")] := ⟨_, rfl⟩
    have lE : E.length ≤ 10 := by rw [hE]; simp
    have aE : ∀ d ∈ E, Od (n + 1) (w + 1) d := fun d hd => by
      subst hE
      simp only [List.mem_cons, List.not_mem_nil, or_false] at hd
      have one : ∀ d' ∈ [D.str s], Od n (w + 1) d' := fun d' hd' => by simp at hd'; subst hd'; exact .str s as (by omega)
      rcases hd with rfl | rfl | rfl | rfl | rfl | rfl
      · exact os _ (as.app as1 (by omega)) (by rw [clen_cps, capp_cps, List.length_append, ← clen_cps, ← clen_cps]; omega)
      · exact os _ (as.cut _ _) (Nat.le_trans (cutS_length s _ _) (by omega))
      · exact os _ as.up (by rw [up_lenS as]; omega)
      · exact .tup _ (by simp) one
      · exact .lst _ (by simp) one
      · exact os _ (as.app as2 (by omega)) (by rw [clen_cps, capp_cps, List.length_append, ← clen_cps, ← clen_cps]; omega)
    have e : eS (rE (.str s) (.lst B0)) (c :: T) = .ok (.loc (c :: T).length) ((c :: T) ++ [.lst E]) := by
      rw [hE]
      have q1 : opAddB (.str s) (.str "x") (c :: T) = .ok (.str (s ++ "x")) (c :: T) := by
        rw [opAddB_o (fun _ h => by cases h), opAdd_ss]; exact if_pos (sz_is (by omega))
      have q2 : opAddB (.str s) (.str " ") (c :: T) = .ok (.str (s ++ " ")) (c :: T) := by
        rw [opAddB_o (fun _ h => by cases h), opAdd_ss]; exact if_pos (sz_is (by omega))
      have zs : sz s.length := sz_is (by omega)
      have osm : oSome (eNegB (eC (.int 1))) (rE (.str s) (.lst B0)) (c :: T) = .ok (some (-1)) (c :: T) := oSome_is rfl
      have up : s.length ≤ 5592405 := by omega
      generalize B0 = B at *
      rwa [q1, q2, eSliceS_is, slDS_s, zs, osm, eUpper_is, up, List.length_cons, List.length_nil, Nat.zero_add, Nat.reduceAdd, z1, z6]
    obtain ⟨y, hy, c', e2, d'⟩ := last_at (T := T ++ [.lst E]) (x := .str s) (l := B0 ++ (List.replicate 3 E).flatten) more_ne (by have := more_len (k := 3) lE (by omega); omega) d (by omega)
    refine ⟨y, c', ?_, more_od aE y hy, d'⟩
    have i1 := isx .str (c :: T) (.lst B0) (u := .str) rfl
    have i2 := isx .int (c :: (T ++ [.lst E])) (.lst (B0 ++ (List.replicate 3 E).flatten)) (u := .str) rfl
    have i3 := isx .tuple (c :: (T ++ [.lst E])) (.lst (B0 ++ (List.replicate 3 E).flatten)) (u := .str) rfl
    refine fnRt (S' := c' :: (T ++ [.lst E])) (d := y) ?_ (ex y c' _ (more_od aE y hy) d')
    rw [st]
    exact stN base_at (stN (ifTB i1 (more_at (k := 3) e lE (by omega))) (stN (ifFB i2 rfl) (stN (ifFB i3 rfl) e2)))
  | int i hi =>
    obtain ⟨E, hE⟩ : ∃ E : List D, E = [.int (i + 1), .int (i - 1), .int (-i), .str (toString i : String), .bl (decide (i = 1)), .tup [.int i], .lst [.int i]] := ⟨_, rfl⟩
    have lE : E.length ≤ 10 := by rw [hE]; simp
    have ls := PyProof.Rows.len_str_of_int i
    have aE : ∀ d ∈ E, Od (n + 1) (w + 1) d := fun d hd => by
      subst hE
      simp only [List.mem_cons, List.not_mem_nil, or_false] at hd
      have one : ∀ d' ∈ [D.int i], Od n (w + 1) d' := fun d' hd' => by simp at hd'; subst hd'; exact .int i (by omega)
      rcases hd with rfl | rfl | rfl | rfl | rfl | rfl | rfl
      · exact .int _ (by omega)
      · exact .int _ (by omega)
      · exact .int _ (by omega)
      · exact .str _ (AscS.int (by omega)) (by omega)
      · exact .bl _
      · exact .tup _ (by simp) one
      · exact .lst _ (by simp) one
    have e : eI (rE (.int i) (.lst B0)) (c :: T) = .ok (.loc (c :: T).length) ((c :: T) ++ [.lst E]) := by
      rw [hE]
      have lg : i.natAbs.log2 < 1920 := by
        rcases Nat.eq_zero_or_pos i.natAbs with h0 | h0
        · rw [h0]; decide
        · have := (Nat.log2_lt (by omega)).mpr (show i.natAbs < 2 ^ 22 by omega)
          omega
      generalize B0 = B at *
      rwa [opAddB_ii, opSubB_ii, eNegB_is, bStrB_i, lg, opEq_ii, List.length_cons, List.length_nil, Nat.zero_add, Nat.reduceAdd, z1, z7]
    obtain ⟨y, hy, c', e2, d'⟩ := last_at (T := T ++ [.lst E]) (x := .int i) (l := B0 ++ (List.replicate 3 E).flatten) more_ne (by have := more_len (k := 3) lE (by omega); omega) d (by omega)
    refine ⟨y, c', ?_, more_od aE y hy, d'⟩
    have i1 := isx .str (c :: T) (.lst B0) (u := .int) rfl
    have i2 := isx .int (c :: T) (.lst B0) (u := .int) rfl
    have i3 := isx .tuple (c :: (T ++ [.lst E])) (.lst (B0 ++ (List.replicate 3 E).flatten)) (u := .int) rfl
    refine fnRt (S' := c' :: (T ++ [.lst E])) (d := y) ?_ (ex y c' _ (more_od aE y hy) d')
    rw [st]
    exact stN base_at (stN (ifFB i1 rfl) (stN (ifTB i2 (more_at (k := 3) e lE (by omega))) (stN (ifFB i3 rfl) e2)))
  | bl b =>
    obtain ⟨E, hE⟩ : ∃ E : List D, E = [.int (bI b + 1), .int (bI b - 1), .int (-(bI b)), .str (if b then "True" else "False"), .bl b, .tup [.bl b], .lst [.bl b]] := ⟨_, rfl⟩
    have lE : E.length ≤ 10 := by rw [hE]; simp
    have bb : 0 ≤ bI b ∧ bI b ≤ 1 := by cases b <;> decide
    have aE : ∀ d ∈ E, Od (n + 1) (w + 1) d := fun d hd => by
      subst hE
      simp only [List.mem_cons, List.not_mem_nil, or_false] at hd
      have one : ∀ d' ∈ [D.bl b], Od n (w + 1) d' := fun d' hd' => by simp at hd'; subst hd'; exact .bl b
      rcases hd with rfl | rfl | rfl | rfl | rfl | rfl | rfl
      · exact .int _ (by omega)
      · exact .int _ (by omega)
      · exact .int _ (by omega)
      · cases b
        · exact .str _ ⟨by decide +kernel, by decide +kernel⟩ (Nat.le_trans (by decide +kernel : _ ≤ 10) (by omega))
        · exact .str _ ⟨by decide +kernel, by decide +kernel⟩ (Nat.le_trans (by decide +kernel : _ ≤ 10) (by omega))
      · exact .bl _
      · exact .tup _ (by simp) one
      · exact .lst _ (by simp) one
    have e : eI (rE (.bl b) (.lst B0)) (c :: T) = .ok (.loc (c :: T).length) ((c :: T) ++ [.lst E]) := by
      rw [hE]
      have e4 : opEq (.bl b) (.int 1) (c :: T) = .ok (.bl b) (c :: T) := by
        have := opEqB_of (S := c :: T) (neg := false) (x := .bl b) (y := .int 1) (p := .bool b) (q := .int 1) rfl rfl rfl rfl (fun _ _ h => by cases h)
        cases b <;> exact this
      generalize B0 = B at *
      rwa [opAddB_bi, opSubB_bi, eNegB_is, bStrB_b, e4, List.length_cons, List.length_nil, Nat.zero_add, Nat.reduceAdd, z1, z7]
    obtain ⟨y, hy, c', e2, d'⟩ := last_at (T := T ++ [.lst E]) (x := .bl b) (l := B0 ++ (List.replicate 3 E).flatten) more_ne (by have := more_len (k := 3) lE (by omega); omega) d (by omega)
    refine ⟨y, c', ?_, more_od aE y hy, d'⟩
    have i1 := isx .str (c :: T) (.lst B0) (u := .bool) rfl
    have i2 := isx .int (c :: T) (.lst B0) (u := .bool) rfl
    have i3 := isx .tuple (c :: (T ++ [.lst E])) (.lst (B0 ++ (List.replicate 3 E).flatten)) (u := .bool) rfl
    refine fnRt (S' := c' :: (T ++ [.lst E])) (d := y) ?_ (ex y c' _ (more_od aE y hy) d')
    rw [st]
    exact stN base_at (stN (ifFB i1 rfl) (stN (ifTB i2 (more_at (k := 3) e lE (by omega))) (stN (ifFB i3 rfl) e2)))
  | @tup n _ ds hl h =>
    obtain ⟨E, hE⟩ : ∃ E : List D, E = [.lst ds, .tup (ds ++ cutD ds (some (-1)) none), .tup (cutD ds none (some (-1))), .tup (cutD ds (some 1) none), .tup ds.reverse, .tup [.tup ds], .tup (ds ++ [.non])] := ⟨_, rfl⟩
    have lE : E.length ≤ 10 := by rw [hE]; simp
    have hi : ∀ d ∈ ds, Od (n + 1) (w + 1) d := fun d hd => (h d hd).mono (by omega) (by omega)
    have lc1 : (cutD ds (some (-1)) none).length ≤ 1 := by
      unfold cutD
      simp only [List.length_take, List.length_drop, HT.sIx]
      split <;> simp <;> omega
    have cm : ∀ {lo hi : Option Int} {d : D}, d ∈ cutD ds lo hi → d ∈ ds := fun hd => by
      unfold cutD at hd
      exact List.mem_of_mem_drop (List.mem_of_mem_take hd)
    have aE : ∀ d ∈ E, Od (n + 1 + 1) (w + 1) d := fun d hd => by
      subst hE
      simp only [List.mem_cons, List.not_mem_nil, or_false] at hd
      rcases hd with rfl | rfl | rfl | rfl | rfl | rfl | rfl
      · exact .lst _ (by omega) hi
      · refine .tup _ (by rw [List.length_append]; omega) fun d hd => ?_
        rcases List.mem_append.mp hd with hd | hd
        · exact hi d hd
        · exact hi d (cm hd)
      · exact .tup _ (Nat.le_trans (cut_len _ _ _) (by omega)) fun d hd => hi d (cm hd)
      · exact .tup _ (Nat.le_trans (cut_len _ _ _) (by omega)) fun d hd => hi d (cm hd)
      · exact .tup _ (by rw [List.length_reverse]; omega) fun d hd => hi d (List.mem_reverse.mp hd)
      · exact .tup _ (by simp) fun d hd => by simp at hd; subst hd; exact .tup _ (by omega) fun d hd => (h d hd).mono (by omega) (by omega)
      · refine .tup _ (by simp; omega) fun d hd => ?_
        rcases List.mem_append.mp hd with hd | hd
        · exact hi d hd
        · simp at hd; subst hd; exact .non
    have e : eT (rE (.tup ds) (.lst B0)) (c :: T) = .ok (.loc (c :: T).length) ((c :: T) ++ [.lst E]) := by
      rw [hE]
      have osm : oSome (eNegB (eC (.int 1))) (rE (.tup ds) (.lst B0)) (c :: T) = .ok (some (-1)) (c :: T) := oSome_is rfl
      have os1 : oSome (eC (.int 1)) (rE (.tup ds) (.lst B0)) (c :: T) = .ok (some 1) (c :: T) := oSome_is rfl
      have sl : ∀ lo hi, slDS (.tup ds) lo hi (c :: T) = .ok (.tup (cutD ds lo hi)) (c :: T) := fun _ _ => rfl
      have q1 : opAddB (.tup ds) (.tup (cutD ds (some (-1)) none)) (c :: T) = .ok (.tup (ds ++ cutD ds (some (-1)) none)) (c :: T) := by
        rw [opAddB_o (fun _ h => by cases h)]
        exact if_pos (sz_is (by omega))
      have q2 : opAddB (.tup ds) (.tup [.non]) (c :: T) = .ok (.tup (ds ++ [.non])) (c :: T) := by
        rw [opAddB_o (fun _ h => by cases h)]
        exact if_pos (sz_is (by simp; omega))
      generalize B0 = B at *
      rwa [q1, q2, eSliceS_is, sl, osm, os1, bListX_t, eRev_is, revD_t, List.length_cons, List.length_nil, Nat.zero_add, Nat.reduceAdd, z1, z7]
    obtain ⟨y, hy, c', e2, d'⟩ := last_at (T := T ++ [.lst E]) (x := .tup ds) (l := B0 ++ (List.replicate 4 E).flatten) more_ne (by have := more_len (k := 4) lE (by omega); omega) d (by omega)
    refine ⟨y, c', ?_, more_od aE y hy, d'⟩
    have i1 := isx .str (c :: T) (.lst B0) (u := .tuple) rfl
    have i2 := isx .int (c :: T) (.lst B0) (u := .tuple) rfl
    have i3 := isx .tuple (c :: T) (.lst B0) (u := .tuple) rfl
    refine fnRt (S' := c' :: (T ++ [.lst E])) (d := y) ?_ (ex y c' _ (more_od aE y hy) d')
    rw [st]
    exact stN base_at (stN (ifFB i1 rfl) (stN (ifFB i2 rfl) (stN (ifTB i3 (more_at (k := 4) e lE (by omega))) e2)))
end DO
end
section
/-! A thing with one part otherwise. -/
namespace DO
open PySem L2 DL DR DY
variable {S T : Store} {c : Cell} {m : Nat}
theorem spoilt_ok {d0 d1 : D} {ds : List D} {n w : Nat} (hd : d0 = .tup (d1 :: ds)) (o : Od n w d0) (hn : n ≤ 11) (hw : w ≤ 100) (hN : nodesS d0 ≤ 100000) (fT : FlatO T) (d : Drw c m) (hm : m ≤ 70000) :
    ∃ (rs : List D) (c' : Cell), d__law_spoilt_in [.loc 0, d0] (c :: T) = .ok (.tup rs) (c' :: T) ∧ rs.length = ds.length + 1 ∧ Od (n + (n + 1)) (w + 1) (.tup rs) ∧ Drw c' (m + 3) := by
  obtain ⟨F, e1, h1, ⟨q, hq, hq2⟩, h3⟩ := places_ok (S := c :: T) hd o (by omega) (by omega) hN
  have lc := lcD_fa (S := c :: T) (b := bName 3) (tt := g__law_spoilt_in_t1) (elt := eVar 3) (env := [some (.loc 0), some d0, none, none]) pD (fun p => !decide (p = [])) pD F [] (fun p hp => by
    refine ⟨_, rfl, ?_, fun _ => rfl⟩
    have z0 : sz 0 := sz_is (by omega)
    have e := ne_p (S := c :: T) p
    unfold g__law_spoilt_in_t1
    rw [eOp_is, eVar_at (d := pD p) rfl]
    simp only [ER.bind_ok, eTup_is, lNil_is, LR.bindE_ok, List.length_nil, z0, if_true, e]) (by simp; omega)
  rw [List.nil_append] at lc
  obtain ⟨F2, hF2⟩ : ∃ F2, F.filter (fun p => !decide (p = [])) = F2 := ⟨_, rfl⟩
  rw [hF2] at lc
  have f2 : ∀ p ∈ F2, p ≠ [] ∧ ∃ x, Pth d0 p x := fun p hp => by
    rw [← hF2] at hp
    obtain ⟨a, b⟩ := List.mem_filter.mp hp
    exact ⟨by simpa using b, h1 p a⟩
  have n2 : F2.map pD ≠ [] := by
    have : q ∈ F2 := by rw [← hF2]; exact List.mem_filter.mpr ⟨hq, by simpa using hq2⟩
    intro h
    rw [List.map_eq_nil_iff] at h
    rw [h] at this; cases this
  have l2 : (F2.map pD).length ≤ 1000000 := by
    rw [List.length_map, ← hF2]
    exact Nat.le_trans (List.length_filter_le _ _) h3
  obtain ⟨y, hy, c1, p1, d1'⟩ := pickT (T := T) (F2.map pD) d (by omega) n2 (by omega)
  obtain ⟨p, hp, rfl⟩ := List.mem_map.mp hy
  obtain ⟨hp2, x, px⟩ := f2 p hp
  obtain ⟨z, c2, z1, z0, z2, d2⟩ := nextT (T := T) 3 d1' (by omega) (by decide) (by decide)
  have pl := (px.od o).1
  have st : startD 4 [D.loc 0, d0] = [some (.loc 0), some d0, none, none] := rfl
  have sn1 : sAsg (eLc (iSeq (eCall d__law_places (lCons (eVar 1) lNil))) (bName 3) g__law_spoilt_in_t1 (eVar 3) [3]) (bName 2) [some (.loc 0), some d0, none, none] (c :: T) = .nx [some (.loc 0), some d0, some (.lst (F2.map pD)), none] (c :: T) := by
    simp [e1, lc]
  have sn2 : sAsg (eCall d__law_pick (lCons (eVar 0) (lCons (eVar 2) lNil))) (bName 3) [some (.loc 0), some d0, some (.lst (F2.map pD)), none] (c :: T) = .nx [some (.loc 0), some d0, some (.lst (F2.map pD)), some (pD p)] (c1 :: T) := by
    generalize F2.map pD = FF at *
    simp [p1]
  have cond : (eOp opEq (eCall d__law_next (lCons (eVar 0) (lCons (eC (.int 3)) lNil))) (eC (.int 0))) [some (.loc 0), some d0, some (.lst (F2.map pD)), some (pD p)] (c1 :: T) = .ok (.bl (decide (z = 0))) (c2 :: T) := by
    generalize F2.map pD = FF at *
    simp [z1]
  by_cases hz : z = 0
  · obtain ⟨y2, hy2, c3, p3, d3⟩ := pickT (T := T) (F2.map pD) d2 (by omega) n2 (by omega)
    obtain ⟨p', hp', rfl⟩ := List.mem_map.mp hy2
    obtain ⟨hp2', x', px'⟩ := f2 p' hp'
    have a3 := at_ok (S := c3 :: T) px' o
    have ox := (px'.od o).2
    obtain ⟨r, w1, w2, w3⟩ := with_ok (S := c3 :: T) (M := n - p'.length) (w := w + 1) (ox.mono (Nat.le_refl _) (by omega)) px (n := n) (k := 12) (o.mono (Nat.le_refl _) (by omega)) (by omega) (by omega)
    obtain ⟨es, rs, g1, rfl, g3⟩ := w3 hp2
    rw [hd] at g1
    cases g1
    refine ⟨rs, c3, ?_, by simpa using g3, w2.mono (by omega) (Nat.le_refl _), d3⟩
    unfold d__law_spoilt_in g__law_spoilt_in
    refine fnRt (d := .tup rs) (S' := c3 :: T) ?_ rfl
    rw [st]
    refine stN sn1 (stN sn2 ?_)
    refine stR (d := .tup rs) (S' := c3 :: T) (ifTB (S' := c2 :: T) (by rw [cond, decide_eq_true hz]) ?_) rfl
    have w1' : d__law_with [d0, pD p, x'] (c3 :: T) = .ok (.tup rs) (c3 :: T) := w1
    generalize F2.map pD = FF at *
    generalize pD p = PP at *
    generalize pD p' = PQ at *
    simp [p3, a3, w1']
  · obtain ⟨y3, c3, q1, q2, d3⟩ := strange_ok (T := T) (px.od o).2 fT d2 (by omega) hw
    obtain ⟨r, w1, w2, w3⟩ := with_ok (S := c3 :: T) (w := w + 1) q2 px (n := n) (k := 12) (o.mono (Nat.le_refl _) (by omega)) (by omega) (by omega)
    obtain ⟨es, rs, g1, rfl, g3⟩ := w3 hp2
    rw [hd] at g1
    cases g1
    refine ⟨rs, c3, ?_, by simpa using g3, w2.mono (by omega) (Nat.le_refl _), d3⟩
    have a3 := at_ok (S := c2 :: T) px o
    unfold d__law_spoilt_in g__law_spoilt_in
    refine fnRt (d := .tup rs) (S' := c3 :: T) ?_ rfl
    rw [st]
    refine stN sn1 (stN sn2 ?_)
    refine stN (e := [some (.loc 0), some d0, some (.lst (F2.map pD)), some (pD p)]) (S' := c2 :: T) (ifFB (S' := c2 :: T) (by rw [cond, decide_eq_false hz]) rfl) ?_
    have w1' : d__law_with [d0, pD p, y3] (c3 :: T) = .ok (.tup rs) (c3 :: T) := w1
    generalize F2.map pD = FF at *
    generalize pD p = PP at *
    simp [a3, q1, w1']
end DO
end
section
/-! Draws beside other cells; marks drawn. -/
namespace DW
open PySem L2 DL DR
variable {S : Store}
theorem nextT {c : Cell} {m : Nat} {T : Store} (n : Int) (d : Drw c m) (hm : m ≤ 100000) (hn : 0 < n) (hn2 : n < 1073741824) :
    ∃ x c', d__law_next [.loc 0, .int n] (c :: T) = .ok (.int x) (c' :: T) ∧ 0 ≤ x ∧ x < n ∧ Drw c' (m + 1) := next_ok (S := c :: T) (l := 0) rfl d hm hn hn2
theorem pickT {c : Cell} {m : Nat} {T : Store} (ds : List D) (d : Drw c m) (hm : m ≤ 100000) (hn : ds ≠ []) (hn2 : ds.length < 1073741824) :
    ∃ x ∈ ds, ∃ c', d__law_pick [.loc 0, .lst ds] (c :: T) = .ok x (c' :: T) ∧ Drw c' (m + 1) := pick_ok (S := c :: T) (l := 0) rfl d hm hn hn2
/-- cells that hold no others -/
def Flat (T : Store) : Prop := ∀ n, T.all (Cell.bel n) = true
theorem lc_drawT {α : Type} (T : Store) (f : α → D) (P : α → Prop) (st i M : Nat) {elt : EM} {env : EnvD} (he : ∀ (k : D) (c : Cell) (m : Nat), Drw c m → m ≤ M → ∃ a c', elt (env.set i (some k)) (c :: T) = .ok (f a) (c' :: T) ∧ P a ∧ Drw c' (m + st)) :
    ∀ (ds : List D) (acc : List D) (c : Cell) (m : Nat), Drw c m → m + st * ds.length ≤ M → acc.length + ds.length ≤ 100000 →
      ∃ (l : List α) (c' : Cell), lcD (bName i) eYes elt env acc ds (c :: T) = .ok (acc ++ l.map f) (c' :: T) ∧ l.length = ds.length ∧ (∀ a ∈ l, P a) ∧ Drw c' (m + st * ds.length)
  | [], acc, c, m, d, _, _ => ⟨[], c, by simp, rfl, fun _ h => by simp at h, d⟩
  | k :: ds, acc, c, m, d, hm, hl => by
    have hl' : acc.length + (ds.length + 1) ≤ 100000 := hl
    have hm' : m + st * (ds.length + 1) ≤ M := hm
    rw [Nat.mul_succ] at hm'
    obtain ⟨a, c1, h1, h2, h3⟩ := he k c m d (by omega)
    obtain ⟨l, c2, h4, h5, h6, h7⟩ := lc_drawT T f P st i M he ds (acc ++ [f a]) c1 (m + st) h3 (by omega) (by simp; omega)
    refine ⟨a :: l, c2, ?_, by simp [h5], fun b hb => ?_, ?_⟩
    · unfold lcD
      dsimp only [bName, eYes]
      rw [h1]
      dsimp only
      rw [if_pos (show sz (acc.length + 1) from sz_is (by omega)), h4]
      simp
    · rcases List.mem_cons.mp hb with e | hb
      · subst e; exact h2
      · exact h6 b hb
    · have e : m + st * (k :: ds).length = m + st + st * ds.length := by
        rw [List.length_cons, Nat.mul_succ]; omega
      rw [e]; exact h7
end DW
end
section
/-! Each way's word; all that may stand is nice. -/
namespace DW
open PySem L2 DL DR
variable {S : Store}
theorem waysM_len {kd : Str} {cs : List Str} (h5 : cs.length ≤ 5) : (waysM kd cs).length ≤ 20002 := by
  have h := goodD_len (kd := kd) h5
  have e := congrArg List.length (ways_map kd cs)
  simp at e
  omega
theorem Flat.snoc {T : Store} {ds : List D} (h : Flat T) (hd : ∀ n, belDs n ds = true) : Flat (T ++ [.lst ds]) := fun n => by
  rw [List.all_append, h n]
  show (true && (Cell.bel n (.lst ds) && true)) = true
  rw [show Cell.bel n (.lst ds) = belDs n ds from rfl, hd n]; rfl
end DW
end
section
/-! How many ways. -/
namespace DW
open PySem L2 DL DR
variable {S : Store}
end DW
end
section
/-! Races together: asked, product_of, are_races. -/
namespace DW
open PySem L2 DL DR
variable {S : Store}
/-- a race by its parts -/
structure Rc where
  nm : Str
  kd : Str
  cs : List Str
  ds : List Str
  seats : Int
  way : Str
abbrev Rc.race (r : Rc) : D := raceW r.nm r.kd r.cs r.ds r.seats r.way
abbrev Rc.told (r : Rc) : D := toldW r.nm r.kd r.cs r.ds r.seats r.way
abbrev Rc.one (r : Rc) : Bool := decide (r.kd = "one")
abbrev Rc.n (r : Rc) : Nat := (waysM r.kd r.cs).length
structure RcOk (r : Rc) : Prop where
  t : Told r.nm r.kd r.cs r.seats r.way
  d : Dst r.ds
theorem Rc.n2 (r : Rc) : 2 ≤ r.n := by simp [Rc.n, waysM]
theorem RcOk.nl {r : Rc} (h : RcOk r) : r.n ≤ 20002 := waysM_len h.t.l5
def prodN (rs : List Rc) : Nat := rs.foldr (fun r a => r.n * a) 1
def askedL (rs : List Rc) (dn : Str) : List Rc := rs.filter fun r => decide (dn ∈ r.ds)
/-- races that go together -/
structure Rcs (rs : List Rc) : Prop where
  ok : ∀ r ∈ rs, RcOk r
  l1 : 1 ≤ rs.length
  l4 : rs.length ≤ 4
  nd : (rs.map Rc.nm).Nodup
  few : ∀ dn, prodN (askedL rs dn) ≤ 1000000000
end DW
end
section
/-! Races drawn, beside other cells. -/
namespace DW
open PySem L2 DL DR
variable {S : Store}
end DW
end
section
/-! Races drawn that go together. -/
namespace DW
open PySem L2 DL DR
variable {S : Store}
/-- what is drawn: races, of names at places below i -/
structure Got (ns da : List Str) (i : Nat) (rs : List Rc) : Prop where
  ok : ∀ r ∈ rs, RcOk r
  sub : ∀ r ∈ rs, ∀ x ∈ r.ds, x ∈ da
  at_ : ∀ r ∈ rs, ∃ j, j < i ∧ ns[j]? = some r.nm
  nd : (rs.map Rc.nm).Nodup
  few : prodN rs ≤ 1000000000
  len : rs.length ≤ i
  one : 0 < i → 0 < rs.length
theorem Got.add {ns da : List Str} {i : Nat} {rs : List Rc} {r : Rc} (g : Got ns da i rs) (nd : ns.Nodup) (ok : RcOk r) (sub : ∀ x ∈ r.ds, x ∈ da) (hn : ns[i]? = some r.nm) (few : prodN (rs ++ [r]) ≤ 1000000000) : Got ns da (i + 1) (rs ++ [r]) := by
  refine ⟨fun x hx => ?_, fun x hx => ?_, fun x hx => ?_, ?_, few, by simp; exact g.len, fun _ => by simp⟩
  · rcases List.mem_append.mp hx with h | h
    · exact g.ok x h
    · simp at h; subst h; exact ok
  · rcases List.mem_append.mp hx with h | h
    · exact g.sub x h
    · simp at h; subst h; exact sub
  · rcases List.mem_append.mp hx with h | h
    · obtain ⟨j, h1, h2⟩ := g.at_ x h; exact ⟨j, by omega, h2⟩
    · simp at h; subst h; exact ⟨i, by omega, hn⟩
  · rw [List.map_append, List.nodup_append]
    refine ⟨g.nd, by simp, fun a ha b hb => ?_⟩
    simp at hb
    subst hb
    obtain ⟨q, hq, rfl⟩ := List.mem_map.mp ha
    obtain ⟨j, h1, h2⟩ := g.at_ q hq
    intro z
    rw [← z, ← h2] at hn
    have e := (List.getElem?_inj (List.getElem?_eq_some_iff.mp h2).1 nd).mp hn.symm
    omega
theorem Got.skip {ns da : List Str} {i : Nat} {rs : List Rc} (g : Got ns da i rs) (h : 0 < rs.length) : Got ns da (i + 1) rs :=
  ⟨g.ok, g.sub, fun r hr => by obtain ⟨j, h1, h2⟩ := g.at_ r hr; exact ⟨j, by omega, h2⟩, g.nd, g.few, by have := g.len; omega, fun _ => h⟩
end DW
end
section
namespace DW
open PySem L2 DL DR
variable {S : Store}
end DW
end
section
namespace DW
open PySem L2 DL DR
variable {S : Store}
end DW
end
section
/-! What a race is made of, of any kind: when a race comes of it. -/
namespace DW.K06
open PySem L2 DL DR DY DO
variable {S T : Store} {c : Cell} {m : Nat}
noncomputable def unq (ds : List D) : Bool := match keysD ds with
  | some ks => decide (dcnt ks = ds.length)
  | none => false
noncomputable def namesOk (lo hi : Int) : D → Bool
  | .tup ds => (decide (lo ≤ ds.length) && decide ((ds.length : Int) ≤ hi)) && (ds.all nmOk && unq ds)
  | _ => false
theorem nm_strs : ∀ {ds : List D}, ds.all nmOk = true → ∃ l : List Str, ds = l.map .str ∧ ∀ s ∈ l, isNm s = true
  | [], _ => ⟨[], rfl, (fun _ h => nomatch h)⟩
  | d :: ds, h => by
    rw [List.all_cons, Bool.and_eq_true] at h
    obtain ⟨l, rfl, h2⟩ := nm_strs h.2
    cases d with
    | str s => exact ⟨s :: l, rfl, fun x hx => by
        rcases List.mem_cons.mp hx with rfl | hx
        · exact h.1
        · exact h2 x hx⟩
    | _ => cases h.1
theorem unq_strs {l : List Str} : unq (l.map .str) = decide (dcnt (l.map fun s => (.inr s : Key)) = l.length) := by
  unfold unq
  rw [keysD_strs]
  dsimp only
  rw [List.length_map]
theorem lenset {ds : List D} {env : EnvD} {i : Nat} (he : env[i]? = some (some (.tup ds))) (h : ds.all nmOk = true) (hl : ds.length ≤ 1000) :
    eOp opEq (eLenSet (eVar i)) (eCallB bLenX (lCons (eVar i) lNil)) env S = .ok (.bl (unq ds)) S := by
  obtain ⟨l, rfl, _⟩ := nm_strs h
  have q : seqD S (.tup (l.map .str)) = some (l.map .str) := rfl
  have fw : few (l.map (Sum.inr : Str → Key)).length := by rw [List.length_map]; exact few_s (by simpa using hl)
  rw [unq_strs, eOp_is, eLenSet_is, eVar_at he]
  simp only [ER.bind_ok, q, Option.bind_some, keysD_strs]
  rw [if_pos fw]
  simp only [ER.bind_ok, eCallB_is, lCons_is, lNil_is]
  rw [eVar_at he]
  simp
  exact Int.natCast_inj
theorem namesOk_t {lo hi : Int} {ds : List D} : namesOk lo hi (.tup ds) = ((decide (lo ≤ ds.length) && decide ((ds.length : Int) ≤ hi)) && (ds.all nmOk && unq ds)) := rfl
theorem unlike_any {d : D} {n w : Nat} (o : Od n w d) (hw : w ≤ 1000) {lo hi : Int} : d_are_unlike_names [d, .int lo, .int hi] S = .ok (.bl (namesOk lo hi d)) S := by
  cases o with
  | tup ds hl ho =>
    have lc := lcD_map (S := S) (b := bName 3) (elt := g_are_unlike_names_e1) (env := [some (.tup ds), some (.int lo), some (.int hi), none]) (fun d => .bl (nmOk d)) ds (fun d hd => by
      refine ⟨_, rfl, ?_⟩
      have q := isName_any (S := S) ((ho d hd).ask (by omega))
      simp [g_are_unlike_names_e1, q]) (by omega)
    have e : ds.map (fun d => D.bl (nmOk d)) = (ds.map nmOk).map .bl := by rw [List.map_map]; rfl
    rw [e] at lc
    have al : (ds.map nmOk).all id = ds.all nmOk := by rw [List.all_map]; rfl
    have ls := lenset (S := S) (ds := ds) (env := [some (.tup ds), some (.int lo), some (.int hi), none]) (i := 0) rfl
    unfold d_are_unlike_names g_are_unlike_names
    rw [namesOk_t, ← al]
    have al' := al.symm
    generalize hb : ds.map nmOk = bs at *
    by_cases h1 : lo ≤ ds.length
    · by_cases h2 : (ds.length : Int) ≤ hi
      · by_cases h3 : bs.all id = true
        · have ls := ls (by rw [al', h3]) (by omega)
          rw [h3, decide_eq_true h1, decide_eq_true h2]
          refine fnRt (d := .bl (unq ds)) (S' := S) ?_ exit_bl
          refine stN (e := [some (.tup ds), some (.int lo), some (.int hi), none]) (S' := S) ?_ ?_
          · simp [startD, Ty.isa, h1, h2, lc, h3]
          · rw [sRet_is, ls]; rfl
        · have h3 : bs.all id = false := by simpa using h3
          rw [h3]
          simp [startD, Ty.isa, h1, h2, lc, h3]
      · rw [decide_eq_false h2]
        simp [startD, Ty.isa, h1, h2]
    · rw [decide_eq_false h1]
      simp [startD, Ty.isa, h1]
  | _ => simp [d_are_unlike_names, g_are_unlike_names, Ty.isa, namesOk]
theorem eq_nilO {n w : Nat} {l : List D} (hn : n ≤ 50) (h : ∀ d ∈ l, Od n w d) : opEq (.lst l) (.lst []) S = .ok (.bl (decide (l = []))) S := by
  obtain ⟨ps, g1, g2, g3⟩ := pys_allS (k := n) (ds := l) fun d hd => (h d hd).py
  have e : D.pyO S (.lst l) = some (.list ps) := by
    show (D.pys S l).map PyData.list = _
    rw [g1 S]; rfl
  have := opEqB_of (S := S) (neg := false) (x := .lst l) (y := .lst []) (p := .list ps) (q := .list []) e rfl ((Shp.list g2).shaped (by omega)) rfl (fun _ _ h => by cases h)
  show opEqB false _ _ _ = _
  rw [this]
  cases l with
  | nil =>
    have : ps = [] := List.eq_nil_of_length_eq_zero (by simpa using g3)
    subst this; rfl
  | cons a l =>
    cases ps with
    | nil => simp at g3
    | cons b ps => rfl
theorem namesR_any {d : D} {n w : Nat} (o : Od n w d) (hn : n ≤ 50) (hw : w ≤ 1000) {lo hi : Int} : d__law_names_right [d, .int lo, .int hi] S = .ok (.bl (namesOk lo hi d)) S := by
  cases o with
  | @tup n _ ds hl ho =>
    have lc := lcD_fa (S := S) (b := bName 3) (tt := g__law_names_right_t1) (elt := eVar 3) (env := [some (.tup ds), some (.int lo), some (.int hi), none]) id (fun d => !nmOk d) id ds [] (fun d hd => by
      refine ⟨_, rfl, ?_, fun _ => rfl⟩
      have q := nameR_any (S := S) ((ho d hd).ask (by omega))
      simp [g__law_names_right_t1, q]) (by simp; omega)
    rw [List.map_id, List.map_id, List.nil_append] at lc
    have z0 : sz 0 := sz_is (by omega)
    have en : opEq (.lst (ds.filter fun d => !nmOk d)) (.lst []) S = .ok (.bl (decide ((ds.filter fun d => !nmOk d) = []))) S := eq_nilO (n := n) (w := w) (by omega) fun d hd => ho d (List.mem_filter.mp hd).1
    have al : decide ((ds.filter fun d => !nmOk d) = []) = ds.all nmOk := by
      rw [Bool.eq_iff_iff]
      simp [List.filter_eq_nil_iff]
    rw [al] at en
    have ls := lenset (S := S) (ds := ds) (env := [some (.tup ds), some (.int lo), some (.int hi), none]) (i := 0) rfl
    unfold d__law_names_right g__law_names_right
    rw [namesOk_t]
    generalize ds.filter (fun d => !nmOk d) = BAD at *
    by_cases h1 : lo ≤ ds.length
    · by_cases h2 : (ds.length : Int) ≤ hi
      · rw [decide_eq_true h1, decide_eq_true h2]
        by_cases h3 : ds.all nmOk = true
        · have ls := ls h3 (by omega)
          rw [h3] at en ⊢
          refine fnRt (d := .bl (unq ds)) (S' := S) ?_ exit_bl
          refine stN (e := [some (.tup ds), some (.int lo), some (.int hi), none]) (S' := S) ?_ ?_
          · simp [startD, Ty.isa, h1, h2]
          · rw [sRet_is, eAnd_is, eOp_is]
            have e1 : eLc (iSeq (eVar 0)) (bName 3) g__law_names_right_t1 (eVar 3) [3] [some (.tup ds), some (.int lo), some (.int hi), none] S = .ok (.lst BAD) S := by simp [lc]
            have e2 : eLst lNil [some (.tup ds), some (.int lo), some (.int hi), none] S = .ok (.lst []) S := by simp [z0]
            simp only [e1, e2, ER.bind_ok, en]
            rw [ls]; rfl
        · have h3 : ds.all nmOk = false := by simpa using h3
          rw [h3] at en ⊢
          refine fnRt (d := .bl false) (S' := S) ?_ exit_bl
          refine stN (e := [some (.tup ds), some (.int lo), some (.int hi), none]) (S' := S) ?_ ?_
          · simp [startD, Ty.isa, h1, h2]
          · rw [sRet_is, eAnd_is, eOp_is]
            have e1 : eLc (iSeq (eVar 0)) (bName 3) g__law_names_right_t1 (eVar 3) [3] [some (.tup ds), some (.int lo), some (.int hi), none] S = .ok (.lst BAD) S := by simp [lc]
            have e2 : eLst lNil [some (.tup ds), some (.int lo), some (.int hi), none] S = .ok (.lst []) S := by simp [z0]
            simp only [e1, e2, ER.bind_ok, en]
            rfl
      · rw [decide_eq_false h2]
        simp [startD, Ty.isa, h1, h2]
    · rw [decide_eq_false h1]
      simp [startD, Ty.isa, h1]
  | _ => simp [d__law_names_right, g__law_names_right, Ty.isa, namesOk]
/-! ### the other parts -/
def inS (l : List Str) : D → Bool
  | .str s => decide (s ∈ l)
  | _ => false
def betw (lo hi : Int) : D → Bool
  | .int i => decide (lo ≤ i ∧ i ≤ hi)
  | _ => false
def isS (s : Str) : D → Bool
  | .str x => decide (x = s)
  | _ => false
def is1 : D → Bool
  | .int i => decide (i = 1)
  | _ => false
def wayR (a1 a4 a5 : D) : Bool := if isS "rank" a1 then inS ["runoff", "pairs", "share"] a5 && (isS "share" a5 || is1 a4) else isS "" a5
def lenR : D → Int
  | .tup ds => ds.length
  | _ => 0
noncomputable def raceOk (a0 a1 a2 a3 a4 a5 : D) : Bool := nmOk a0 && inS ["one", "any", "rank"] a1 && (namesOk 2 5 a2 && namesOk 1 6 a3) && (betw 1 (lenR a2) a4 && wayR a1 a4 a5)
theorem oneOf_any {n w : Nat} {d : D} (o : Od n w d) {ns : List Str} : d_is_one_of [d, .tup (ns.map .str)] S = .ok (.bl (inS ns d)) S := by
  cases o with
  | str s a h => exact oneOf_s
  | _ => simp [d_is_one_of, g_is_one_of, Ty.isa, inS]
theorem between_any {n w : Nat} {d : D} (o : Od n w d) {lo hi : Int} : d_is_between [d, .int lo, .int hi] S = .ok (.bl (betw lo hi d)) S := by
  cases o with
  | int i h =>
    by_cases h1 : lo ≤ i <;> by_cases h2 : i ≤ hi <;> simp [d_is_between, g_is_between, d_is_whole, g_is_whole, Ty.isa, betw, h1, h2]
  | _ => simp [d_is_between, g_is_between, d_is_whole, g_is_whole, Ty.isa, betw]
theorem lbetween_any {n w : Nat} {d : D} (o : Od n w d) {lo hi : Int} : d__law_between [d, .int lo, .int hi] S = .ok (.bl (betw lo hi d)) S := by
  cases o with
  | int i h =>
    by_cases h1 : lo ≤ i <;> by_cases h2 : i ≤ hi <;> simp [d__law_between, g__law_between, Ty.isa, betw, h1, h2]
  | _ => simp [d__law_between, g__law_between, Ty.isa, betw]
end DW.K06
end
section
/-! A race of parts of any kind, or the refusal. -/
namespace DW.K06
open PySem L2 DL DR DY DO
variable {S T : Store} {c : Cell} {m : Nat} {n w : Nat} {a0 a1 a2 a3 a4 a5 : D}
theorem way_any {kd : Str} {i : Int} (o : Od n w a5) : d_is_way [.str kd, a5, .int i] S = .ok (.bl (wayR (.str kd) (.int i) a5)) S := by
  have e := oneOf_any (S := S) o (ns := ["runoff", "pairs", "share"])
  have e : d_is_one_of [a5, .tup [.str "runoff", .str "pairs", .str "share"]] S = .ok (.bl (inS ["runoff", "pairs", "share"] a5)) S := e
  by_cases hk : kd = "rank"
  · subst hk
    have r : wayR (.str "rank") (.int i) a5 = (inS ["runoff", "pairs", "share"] a5 && (isS "share" a5 || decide (i = 1))) := rfl
    rw [r]
    cases o with
    | str s a h =>
      have q : inS ["runoff", "pairs", "share"] (.str s) = decide (s ∈ (["runoff", "pairs", "share"] : List Str)) := rfl
      have q2 : isS "share" (.str s) = decide (s = "share") := rfl
      have e2 : opEq (.str s) (.str "share") S = .ok (.bl (isS "share" (.str s))) S := opEq_ss
      have e3 : opEq (.int i) (.int 1) S = .ok (.bl (decide (i = 1))) S := opEq_ii
      generalize inS ["runoff", "pairs", "share"] (.str s) = b at *
      generalize isS "share" (.str s) = b2 at *
      generalize decide (i = 1) = b3 at *
      unfold d_is_way g_is_way
      refine fnRt (d := .bl (b && (b2 || b3))) (S' := S) ?_ exit_bl
      refine stN (e := [some (.str "rank"), some (.str s), some (.int i)]) (S' := S) (ifFB (S' := S) (by simp [startD]) (by simp [startD])) ?_
      cases b <;> cases b2 <;> cases b3 <;> simp [e, e2, e3, -opEq_ss, -opEq_ii]
    | _ => simp [d_is_way, g_is_way, e, inS]
  · have r : wayR (.str kd) (.int i) a5 = isS "" a5 := by
      unfold wayR
      rw [show isS "rank" (.str kd) = decide (kd = "rank") from rfl, decide_eq_false hk]; rfl
    rw [r]
    cases o with
    | str s a h =>
      have q2 : isS "" (.str s) = decide (s = "") := rfl
      rw [q2]
      by_cases h1 : s = "" <;> simp [d_is_way, g_is_way, hk, h1, Ty.isa]
    | _ => simp [d_is_way, g_is_way, hk, isS, Ty.isa]
abbrev raceF (a0 a1 a2 a3 a4 a5 : D) : List (Str × D) := [("name", a0), ("kind", a1), ("choices", a2), ("districts", a3), ("seats", a4), ("by", a5)]
structure Six (n w : Nat) (a0 a1 a2 a3 a4 a5 : D) : Prop where
  o0 : Od n w a0
  o1 : Od n w a1
  o2 : Od n w a2
  o3 : Od n w a3
  o4 : Od n w a4
  o5 : Od n w a5
theorem names1 (o : Od n w a0) (hw : w ≤ 1000) (hw1 : 1 ≤ w) : d_are_unlike_names [.tup [a0], .int 1, .int 1] S = .ok (.bl (nmOk a0)) S := by
  have t : Od (n + 1) w (.tup [a0]) := .tup [a0] (by simpa using hw1) (fun d hd => by simp at hd; subst hd; exact o)
  have e := unlike_any (S := S) t hw (lo := 1) (hi := 1)
  rw [e]
  have : namesOk 1 1 (.tup [a0]) = nmOk a0 := by
    rw [namesOk_t]
    cases a0 with
    | str s =>
      have u := unq_strs (l := [s])
      rw [show unq [D.str s] = unq ([s].map .str) from rfl, u]
      have : dcnt ([s].map fun s => (.inr s : Key)) = 1 := by have := dcnt_strs (ns := [s]) (by simp); simpa using this
      rw [this]
      simp
    | _ => simp [nmOk]
  rw [this]
theorem six_bel {k : Nat} (x : Six n w a0 a1 a2 a3 a4 a5) : Cell.bel k (.ins "Race" (raceF a0 a1 a2 a3 a4 a5)) = true := by
  simp [Cell.bel, belDs, x.o0.bel, x.o1.bel, x.o2.bel, x.o3.bel, x.o4.bel, x.o5.bel]
theorem init_any (x : Six n w a0 a1 a2 a3 a4 a5) (hw : w ≤ 1000) (hw1 : 1 ≤ w) (fS : FlatO S) :
    d_Race_init [.loc S.length, a0, a1, a2, a3, a4, a5] (S ++ [.ins "Race" []]) = if raceOk a0 a1 a2 a3 a4 a5 = true then .ok .non (S ++ [.ins "Race" (raceF a0 a1 a2 a3 a4 a5)]) else .ex ⟨"NoRace", none⟩ (S ++ [.ins "Race" []]) := by
  obtain ⟨U, hU⟩ : ∃ U, S ++ [Cell.ins "Race" []] = U := ⟨_, rfl⟩
  have e1 := names1 (S := U) x.o0 hw hw1
  have e2 := oneOf_any (S := U) x.o1 (ns := ["one", "any", "rank"])
  have e2 : d_is_one_of [a1, .tup [.str "one", .str "any", .str "rank"]] U = .ok (.bl (inS ["one", "any", "rank"] a1)) U := e2
  have e3 := unlike_any (S := U) x.o2 hw (lo := 2) (hi := 5)
  have e4 := unlike_any (S := U) x.o3 hw (lo := 1) (hi := 6)
  have st : startD 7 [.loc S.length, a0, a1, a2, a3, a4, a5] = [some (.loc S.length), some a0, some a1, some a2, some a3, some a4, some a5] := rfl
  have z1 : sz 1 := sz_is (by omega)
  have ex : exitD .pure U .non (S ++ [.ins "Race" (raceF a0 a1 a2 a3 a4 a5)]) = .ok .non (S ++ [.ins "Race" (raceF a0 a1 a2 a3 a4 a5)]) := by
    subst hU
    have l : (S ++ [Cell.ins "Race" []]).length = (S ++ [Cell.ins "Race" (raceF a0 a1 a2 a3 a4 a5)]).length := by simp
    unfold exitD
    simp only [frzD]
    rw [l, List.take_length, if_pos (.inr (by
      rw [List.all_append, fS _]
      show (true && (Cell.bel _ _ && true)) = true
      rw [six_bel x]; rfl))]
  have set_at : ∀ fs fs', (S ++ [Cell.ins "Race" fs])[S.length]? = some (.ins "Race" fs) ∧ (S ++ [Cell.ins "Race" fs]).set S.length (.ins "Race" fs') = S ++ [.ins "Race" fs'] := fun fs fs' => by simp
  unfold d_Race_init g_Race_init raceOk
  rw [hU]
  by_cases c1 : (nmOk a0 && inS ["one", "any", "rank"] a1) = true
  · rw [c1]
    rw [Bool.and_eq_true] at c1
    have g1 : eOr (eNot (eCall d_are_unlike_names (lCons (eTup (lCons (eVar 1) lNil)) (lCons (eC (.int 1)) (lCons (eC (.int 1)) lNil))))) (eNot (eCall d_is_one_of (lCons (eVar 2) (lCons (eC (.tup [.str "one", .str "any", .str "rank"])) lNil)))) [some (.loc S.length), some a0, some a1, some a2, some a3, some a4, some a5] U = .ok (.bl false) U := by
      simp [e1, e2, c1, z1]
    by_cases c2 : (namesOk 2 5 a2 && namesOk 1 6 a3) = true
    · rw [c2]
      rw [Bool.and_eq_true] at c2
      obtain ⟨cs, rfl⟩ : ∃ cs, a2 = .tup cs := by
        have := c2.1
        cases a2 with
        | tup cs => exact ⟨cs, rfl⟩
        | _ => cases this
      obtain ⟨kd, rfl⟩ : ∃ kd, a1 = .str kd := by
        have := c1.2
        cases a1 with
        | str cs => exact ⟨cs, rfl⟩
        | _ => cases this
      have g2 : eOr (eNot (eCall d_are_unlike_names (lCons (eVar 3) (lCons (eC (.int 2)) (lCons (eC (.int 5)) lNil))))) (eNot (eCall d_are_unlike_names (lCons (eVar 4) (lCons (eC (.int 1)) (lCons (eC (.int 6)) lNil))))) [some (.loc S.length), some a0, some (.str kd), some (.tup cs), some a3, some a4, some a5] U = .ok (.bl false) U := by
        simp [e3, e4, c2]
      have e5 := between_any (S := U) x.o4 (lo := 1) (hi := cs.length)
      have lr : lenR (.tup cs) = cs.length := rfl
      rw [lr]
      have done : (betw 1 cs.length a4 && wayR (.str kd) a4 a5) = true → fnF .pure 7 g_Race_init [.loc S.length, a0, .str kd, .tup cs, a3, a4, a5] U = .ok .non (S ++ [.ins "Race" (raceF a0 (.str kd) (.tup cs) a3 a4 a5)]) := fun c3 => by
        rw [Bool.and_eq_true] at c3
        obtain ⟨i, rfl⟩ : ∃ i, a4 = .int i := by
          have := c3.1
          cases a4 with
          | int i => exact ⟨i, rfl⟩
          | _ => cases this
        have e6 := way_any (S := U) (kd := kd) (i := i) x.o5
        have g3 : eOr (eNot (eCall d_is_between (lCons (eVar 5) (lCons (eC (.int 1)) (lCons (eCallB bLenX (lCons (eVar 3) lNil)) lNil))))) (eNot (eCall d_is_way (lCons (eVar 2) (lCons (eVar 6) (lCons (eVar 5) lNil))))) [some (.loc S.length), some a0, some (.str kd), some (.tup cs), some a3, some (.int i), some a5] U = .ok (.bl false) U := by
          simp [e5, e6, c3]
        refine fnNx (S' := S ++ [.ins "Race" (raceF a0 (.str kd) (.tup cs) a3 (.int i) a5)]) (e := [some (.loc S.length), some a0, some (.str kd), some (.tup cs), some a3, some (.int i), some a5]) ?_ ex
        rw [st]
        unfold g_Race_init
        refine stN (ifFB g1 rfl) (stN (ifFB g2 rfl) (stN (ifFB g3 rfl) ?_))
        subst hU
        simp [putFD, set_at, ne_name_kind, ne_name_choices, ne_name_districts, ne_name_seats, ne_name_by, ne_kind_choices, ne_kind_districts, ne_kind_seats, ne_kind_by, ne_choices_districts, ne_choices_seats, ne_choices_by, ne_districts_seats, ne_districts_by, ne_seats_by]
      by_cases c3 : (betw 1 cs.length a4 && wayR (.str kd) a4 a5) = true
      · rw [c3]
        exact done c3
      · have c3' : (betw 1 cs.length a4 && wayR (.str kd) a4 a5) = false := by simpa using c3
        rw [c3']
        have g3 : eOr (eNot (eCall d_is_between (lCons (eVar 5) (lCons (eC (.int 1)) (lCons (eCallB bLenX (lCons (eVar 3) lNil)) lNil))))) (eNot (eCall d_is_way (lCons (eVar 2) (lCons (eVar 6) (lCons (eVar 5) lNil))))) [some (.loc S.length), some a0, some (.str kd), some (.tup cs), some a3, some a4, some a5] U = .ok (.bl true) U := by
          by_cases c4 : betw 1 cs.length a4 = true
          · obtain ⟨i, rfl⟩ : ∃ i, a4 = .int i := by
              cases a4 with
              | int i => exact ⟨i, rfl⟩
              | _ => cases c4
            have e6 := way_any (S := U) (kd := kd) (i := i) x.o5
            rw [c4] at c3' e5
            have c5 : wayR (.str kd) (.int i) a5 = false := by simpa using c3'
            simp [e5, e6, c5]
          · have c4 : betw 1 cs.length a4 = false := by simpa using c4
            simp [e5, c4]
        refine fnEx (S' := U) (e := [some (.loc S.length), some a0, some (.str kd), some (.tup cs), some a3, some a4, some a5]) ?_
        rw [st]
        refine stN (ifFB g1 rfl) (stN (ifFB g2 rfl) (stX (ifTB g3 rfl) rfl))
    · have c2' : (namesOk 2 5 a2 && namesOk 1 6 a3) = false := by simpa using c2
      rw [c2']
      have g2 : eOr (eNot (eCall d_are_unlike_names (lCons (eVar 3) (lCons (eC (.int 2)) (lCons (eC (.int 5)) lNil))))) (eNot (eCall d_are_unlike_names (lCons (eVar 4) (lCons (eC (.int 1)) (lCons (eC (.int 6)) lNil))))) [some (.loc S.length), some a0, some a1, some a2, some a3, some a4, some a5] U = .ok (.bl true) U := by
        by_cases c4 : namesOk 2 5 a2 = true
        · have c5 : namesOk 1 6 a3 = false := by rw [c4] at c2'; simpa using c2'
          simp [e3, e4, c4, c5]
        · have c4 : namesOk 2 5 a2 = false := by simpa using c4
          simp [e3, c4]
      refine fnEx (S' := U) (e := [some (.loc S.length), some a0, some a1, some a2, some a3, some a4, some a5]) ?_
      rw [st]
      refine stN (ifFB g1 rfl) (stX (ifTB g2 rfl) rfl)
  · have c1' : (nmOk a0 && inS ["one", "any", "rank"] a1) = false := by simpa using c1
    rw [c1']
    have g1 : eOr (eNot (eCall d_are_unlike_names (lCons (eTup (lCons (eVar 1) lNil)) (lCons (eC (.int 1)) (lCons (eC (.int 1)) lNil))))) (eNot (eCall d_is_one_of (lCons (eVar 2) (lCons (eC (.tup [.str "one", .str "any", .str "rank"])) lNil)))) [some (.loc S.length), some a0, some a1, some a2, some a3, some a4, some a5] U = .ok (.bl true) U := by
      by_cases c4 : nmOk a0 = true
      · have c5 : inS ["one", "any", "rank"] a1 = false := by rw [c4] at c1'; simpa using c1'
        simp [e1, e2, c4, c5, z1]
      · have c4 : nmOk a0 = false := by simpa using c4
        simp [e1, c4, z1]
    refine fnEx (S' := U) (e := [some (.loc S.length), some a0, some a1, some a2, some a3, some a4, some a5]) ?_
    rw [st]
    refine stX (ifTB g1 rfl) rfl
end DW.K06
end
section
/-! The law's own look at the parts; the race made, or refused. -/
namespace DW.K06
open PySem L2 DL DR DY DO
variable {S T : Store} {c : Cell} {m : Nat} {n w : Nat} {a0 a1 a2 a3 a4 a5 : D}
theorem wayR_no (h : ∀ s, a5 ≠ .str s) : wayR a1 a4 a5 = false := by
  cases a5 with
  | str s => exact absurd rfl (h s)
  | _ => unfold wayR; simp [isS, inS]
theorem race_right_ok (x : Six n w a0 a1 a2 a3 a4 a5) (hn : n ≤ 50) (hw : w ≤ 1000) : d__law_race_right [.tup [a0, a1, a2, a3, a4, a5]] S = .ok (.bl (raceOk a0 a1 a2 a3 a4 a5)) S := by
  have e1 := nameR_any (S := S) (x.o0.ask (by omega))
  have e3 := namesR_any (S := S) x.o2 hn hw (lo := 2) (hi := 5)
  have e4 := namesR_any (S := S) x.o3 hn hw (lo := 1) (hi := 6)
  have z2 : sz 2 := sz_is (by omega)
  have z3 : sz 3 := sz_is (by omega)
  have k1 : ∀ s : Str, opNotIn (.str s) (.lst [.str "one", .str "any", .str "rank"]) S = .ok (.bl (!inS ["one", "any", "rank"] (.str s))) S := fun s => by
    have : opNotIn (.str s) (.lst ((["one", "any", "rank"] : List Str).map .str)) S = .ok (.bl (!decide (s ∈ (["one", "any", "rank"] : List Str)))) S := by
      rw [opNotIn_ll, DR.flat_strs, any_strs]; simp
    exact this
  have k2 : ∀ s : Str, opIn (.str s) (.lst [.str "runoff", .str "pairs"]) S = .ok (.bl (decide (s ∈ (["runoff", "pairs"] : List Str)))) S := fun s => in_strsL (ns := ["runoff", "pairs"])
  have env0 : startD 7 [.tup [a0, a1, a2, a3, a4, a5]] = [some (.tup [a0, a1, a2, a3, a4, a5]), none, none, none, none, none, none] := rfl
  unfold d__law_race_right g__law_race_right
  refine fnRt (d := .bl (raceOk a0 a1 a2 a3 a4 a5)) (S' := S) ?_ exit_bl
  rw [env0]
  refine stN (e := [some (.tup [a0, a1, a2, a3, a4, a5]), some a0, some a1, some a2, some a3, some a4, some a5]) (S' := S) (by simp) ?_
  unfold raceOk
  by_cases c1 : (nmOk a0 && inS ["one", "any", "rank"] a1) = true
  · rw [c1]
    rw [Bool.and_eq_true] at c1
    obtain ⟨kd, rfl⟩ : ∃ kd, a1 = .str kd := by
      have := c1.2
      cases a1 with
      | str cs => exact ⟨cs, rfl⟩
      | _ => cases this
    have k1' := k1 kd
    rw [c1.2] at k1'
    refine stN (e := [some (.tup [a0, .str kd, a2, a3, a4, a5]), some a0, some (.str kd), some a2, some a3, some a4, some a5]) (S' := S) (ifFB (S' := S) ?_ rfl) ?_
    · simp [e1, c1, Ty.isa, k1', z3, -opNotIn_ll]
    by_cases c2 : (namesOk 2 5 a2 && namesOk 1 6 a3) = true
    · rw [c2]
      rw [Bool.and_eq_true] at c2
      obtain ⟨cs, rfl⟩ : ∃ cs, a2 = .tup cs := by
        have := c2.1
        cases a2 with
        | tup cs => exact ⟨cs, rfl⟩
        | _ => cases this
      have e5 := lbetween_any (S := S) x.o4 (lo := 1) (hi := cs.length)
      have lr : lenR (.tup cs) = cs.length := rfl
      rw [lr]
      refine stN (e := [some (.tup [a0, .str kd, .tup cs, a3, a4, a5]), some a0, some (.str kd), some (.tup cs), some a3, some a4, some a5]) (S' := S) (ifFB (S' := S) ?_ rfl) ?_
      · simp [e3, e4, c2]
      by_cases c3 : betw 1 cs.length a4 = true
      · rw [c3] at e5 ⊢
        obtain ⟨i, rfl⟩ : ∃ i, a4 = .int i := by
          cases a4 with
          | int i => exact ⟨i, rfl⟩
          | _ => cases c3
        have o5 := x.o5
        cases o5 with
        | str s as hl =>
          refine stN (e := [some (.tup [a0, .str kd, .tup cs, a3, .int i, .str s]), some a0, some (.str kd), some (.tup cs), some a3, some (.int i), some (.str s)]) (S' := S) (ifFB (S' := S) ?_ rfl) ?_
          · simp [e5, Ty.isa]
          have q2 := k2 s
          have m1 : (decide (s ∈ (["runoff", "pairs", "share"] : List Str))) = (decide (s = "share") || decide (s ∈ (["runoff", "pairs"] : List Str))) := by
            rw [Bool.eq_iff_iff]
            simp only [Bool.or_eq_true, decide_eq_true_eq, List.mem_cons, List.not_mem_nil, or_false]
            constructor
            · rintro (h | h | h)
              · exact .inr (.inl h)
              · exact .inr (.inr h)
              · exact .inl h
            · rintro (h | h | h)
              · exact .inr (.inr h)
              · exact .inl h
              · exact .inr (.inl h)
          have e7 : opEq (.str s) (.str "share") S = .ok (.bl (decide (s = "share"))) S := opEq_ss
          have e8 : opEq (.int i) (.int 1) S = .ok (.bl (decide (i = 1))) S := opEq_ii
          have e9 : opEq (.str s) (.str "") S = .ok (.bl (decide (s = ""))) S := opEq_ss
          by_cases hk : kd = "rank"
          · have r : wayR (.str kd) (.int i) (.str s) = (decide (s ∈ (["runoff", "pairs", "share"] : List Str)) && (decide (s = "share") || decide (i = 1))) := by
              subst hk; rfl
            rw [r, m1]
            refine stN (e := [some (.tup [a0, .str kd, .tup cs, a3, .int i, .str s]), some a0, some (.str kd), some (.tup cs), some a3, some (.int i), some (.str s)]) (S' := S) (ifFB (S' := S) (by simp [hk]) rfl) ?_
            generalize decide (s = "share") = b1 at *
            generalize decide (s ∈ (["runoff", "pairs"] : List Str)) = b2 at *
            generalize decide (i = 1) = b3 at *
            cases b1 <;> cases b2 <;> cases b3 <;> simp [e7, q2, e8, z2, -opEq_ss, -opEq_ii, -opIn_ll]
          · have r : wayR (.str kd) (.int i) (.str s) = decide (s = "") := by
              unfold wayR
              rw [show isS "rank" (.str kd) = decide (kd = "rank") from rfl, decide_eq_false hk]; rfl
            rw [r]
            refine stR (d := .bl (decide (s = ""))) (S' := S) (ifTB (S' := S) (by simp [hk]) ?_) rfl
            simp [e9, -opEq_ss]
        | _ =>
          rw [wayR_no (fun s h => by cases h)]
          refine stR (d := .bl false) (S' := S) (ifTB (S' := S) ?_ ?_) rfl
          · simp [e5, Ty.isa]
          · simp
      · have c3 : betw 1 cs.length a4 = false := by simpa using c3
        rw [c3] at e5 ⊢
        refine stR (d := .bl false) (S' := S) (ifTB (S' := S) ?_ ?_) rfl
        · simp [e5]
        · simp
    · have c2' : (namesOk 2 5 a2 && namesOk 1 6 a3) = false := by simpa using c2
      rw [c2']
      refine stR (d := .bl false) (S' := S) (ifTB (S' := S) ?_ ?_) rfl
      · by_cases c4 : namesOk 2 5 a2 = true
        · have c5 : namesOk 1 6 a3 = false := by rw [c4] at c2'; simpa using c2'
          simp [e3, e4, c4, c5]
        · have c4 : namesOk 2 5 a2 = false := by simpa using c4
          simp [e3, c4]
      · simp
  · have c1' : (nmOk a0 && inS ["one", "any", "rank"] a1) = false := by simpa using c1
    rw [c1']
    refine stR (d := .bl false) (S' := S) (ifTB (S' := S) ?_ ?_) rfl
    · by_cases c4 : nmOk a0 = true
      · have c5 : inS ["one", "any", "rank"] a1 = false := by rw [c4] at c1'; simpa using c1'
        have o1 := x.o1
        cases o1 with
        | str s as hl =>
          have k1' := k1 s
          rw [c5] at k1'
          simp [e1, c4, k1', Ty.isa, z3, -opNotIn_ll]
        | _ => simp [e1, c4, Ty.isa]
      · have c4 : nmOk a0 = false := by simpa using c4
        simp [e1, c4]
    · simp
abbrev raceO (a0 a1 a2 a3 a4 a5 : D) : D := .obj "Race" ["name", "kind", "choices", "districts", "seats", "by"] [a0, a1, a2, a3, a4, a5]
theorem exit_raceO (x : Six n w a0 a1 a2 a3 a4 a5) : exitD .pure S (.loc S.length) (S ++ [.ins "Race" (raceF a0 a1 a2 a3 a4 a5)]) = .ok (raceO a0 a1 a2 a3 a4 a5) S := by
  refine exit_of ?_ (by simp)
  have step : ∀ k, resD S.length (S ++ [.ins "Race" (raceF a0 a1 a2 a3 a4 a5)]) (k + 1) S.length = (frzDs (resD S.length (S ++ [.ins "Race" (raceF a0 a1 a2 a3 a4 a5)]) k) [a0, a1, a2, a3, a4, a5]).map (.obj "Race" ["name", "kind", "choices", "districts", "seats", "by"]) := fun k => by
    show (if S.length < S.length then some (D.loc S.length) else match (S ++ [Cell.ins "Race" (raceF a0 a1 a2 a3 a4 a5)])[S.length]? with
      | some (Cell.lst ds) => (frzDs (resD S.length (S ++ [.ins "Race" (raceF a0 a1 a2 a3 a4 a5)]) k) ds).map D.lst
      | some (Cell.dic kvs) => (frzDs (resD S.length (S ++ [.ins "Race" (raceF a0 a1 a2 a3 a4 a5)]) k) (kvs.map (·.2))).map (D.dic (kvs.map (·.1)))
      | some (Cell.ins c fs) => (frzDs (resD S.length (S ++ [.ins "Race" (raceF a0 a1 a2 a3 a4 a5)]) k) (fs.map (·.2))).map (D.obj c (fs.map (·.1)))
      | some (Cell.dct kvs) => (frzDs (resD S.length (S ++ [.ins "Race" (raceF a0 a1 a2 a3 a4 a5)]) k) (kvs.map (·.2))).map (D.dct (kvs.map (·.1)))
      | none => none) = _
    rw [if_neg (by omega), show (S ++ [Cell.ins "Race" (raceF a0 a1 a2 a3 a4 a5)])[S.length]? = some (.ins "Race" (raceF a0 a1 a2 a3 a4 a5)) from by simp]
    rfl
  have st := step 11
  rw [show (11 + 1 : Nat) = 12 from rfl] at st
  rw [frzD, st]
  generalize resD S.length _ 11 = ρ
  simp [frzDs, x.o0.frz, x.o1.frz, x.o2.frz, x.o3.frz, x.o4.frz, x.o5.frz]
open Classical in
theorem made_ok (x : Six n w a0 a1 a2 a3 a4 a5) (hw : w ≤ 1000) (hw1 : 1 ≤ w) (fS : FlatO S) {pl : Bool} (hp : pl = true → a4 = .int 1 ∧ a5 = .str "") :
    d__law_made [.tup [a0, a1, a2, a3, a4, a5], .bl pl] S = .ok (if raceOk a0 a1 a2 a3 a4 a5 = true then raceO a0 a1 a2 a3 a4 a5 else .non) S := by
  have z2 : sz 2 := sz_is (by omega)
  have ii := init_any x hw hw1 fS
  have ai : atI [a0, a1, a2, a3, a4, a5] 0 = some a0 ∧ atI [a0, a1, a2, a3, a4, a5] 1 = some a1 ∧ atI [a0, a1, a2, a3, a4, a5] 2 = some a2 ∧ atI [a0, a1, a2, a3, a4, a5] 3 = some a3 ∧ atI [a0, a1, a2, a3, a4, a5] 4 = some a4 ∧ atI [a0, a1, a2, a3, a4, a5] 5 = some a5 := ⟨rfl, rfl, rfl, rfl, rfl, rfl⟩
  have st : startD 5 [.tup [a0, a1, a2, a3, a4, a5], .bl pl] = [some (.tup [a0, a1, a2, a3, a4, a5]), some (.bl pl), none, none, none] := rfl
  have s0 : sAsg (eTup (lCons (eC .non) (lCons (eC .non) lNil))) (bTup (bCons (bName 2) (bCons (bName 3) bNil))) [some (.tup [a0, a1, a2, a3, a4, a5]), some (.bl pl), none, none, none] S = .nx [some (.tup [a0, a1, a2, a3, a4, a5]), some (.bl pl), some .non, some .non, none] S := by simp [z2]
  unfold d__law_made g__law_made
  by_cases hr : raceOk a0 a1 a2 a3 a4 a5 = true
  · rw [if_pos hr] at ii ⊢
    refine fnRt (d := .loc S.length) (S' := S ++ [.ins "Race" (raceF a0 a1 a2 a3 a4 a5)]) ?_ (exit_raceO x)
    rw [st]
    refine stN s0 ?_
    refine stN (e := [some (.tup [a0, a1, a2, a3, a4, a5]), some (.bl pl), some (.loc S.length), some .non, none]) (S' := S ++ [.ins "Race" (raceF a0 a1 a2 a3 a4 a5)]) ?_ ?_
    · rw [sTry_is]
      cases pl with
      | true =>
        obtain ⟨rfl, rfl⟩ := hp rfl
        simp [ai, pk, ii]
      | false => simp [ai, pk, ii]
    · have ty : tyO (S ++ [.ins "Race" (raceF a0 a1 a2 a3 a4 a5)]) (.loc S.length) = some (.o "Race") := by simp [tyO]
      simp [ty, tabO]
  · rw [if_neg hr] at ii ⊢
    have ex : exitD .pure S .non (S ++ [.ins "Race" []]) = .ok .non S := exit_of rfl (by simp)
    refine fnRt (d := .non) (S' := S ++ [.ins "Race" []]) ?_ ex
    rw [st]
    refine stN s0 ?_
    refine stN (e := [some (.tup [a0, a1, a2, a3, a4, a5]), some (.bl pl), some .non, some (.exn "NoRace" [] []), none]) (S' := S ++ [.ins "Race" []]) ?_ ?_
    · rw [sTry_is]
      cases pl with
      | true =>
        obtain ⟨rfl, rfl⟩ := hp rfl
        simp [ai, pk, ii]
      | false => simp [ai, pk, ii]
    · have al := alone_ok (S := S ++ [.ins "Race" []]) (c := "NoRace") (ks := []) (ds := []) (by unfold excNs; simp)
      have isn : (D.exn "NoRace" [] []).isN = false := rfl
      simp [al, isn]
end DW.K06
end
section
/-! One race's parts: what is told, what is due. -/
namespace DW.K06
open PySem L2 DL DR DY DO
variable {S T : Store} {c : Cell} {m : Nat} {n w : Nat} {a0 a1 a2 a3 a4 a5 : D}
/-- parts of which a race comes -/
structure Rp where
  nm : Str
  kd : Str
  cs : List Str
  ds : List Str
  i : Int
  way : Str
abbrev Rp.told (r : Rp) : D := .tup [.str r.nm, .str r.kd, tupS r.cs, tupS r.ds, .int r.i, .str r.way]
abbrev Rp.race (r : Rp) : D := raceO (.str r.nm) (.str r.kd) (tupS r.cs) (tupS r.ds) (.int r.i) (.str r.way)
structure RpOk (r : Rp) : Prop where
  nm : PyData.strOk r.nm = true
  kd : PyData.strOk r.kd = true
  cs : (∀ s ∈ r.cs, PyData.strOk s = true) ∧ r.cs.length ≤ 100
  ds : (∀ s ∈ r.ds, PyData.strOk s = true) ∧ r.ds.length ≤ 100
  way : PyData.strOk r.way = true
theorem names_of {lo hi : Int} {d : D} (h : namesOk lo hi d = true) (hh : hi ≤ 100) : ∃ l : List Str, d = tupS l ∧ (∀ s ∈ l, PyData.strOk s = true) ∧ l.length ≤ 100 := by
  cases d with
  | tup ds =>
    rw [namesOk_t] at h
    simp only [Bool.and_eq_true, decide_eq_true_eq] at h
    obtain ⟨l, rfl, hl⟩ := nm_strs h.2.1
    exact ⟨l, rfl, fun s hs => isNm_ok (hl s hs), by have := h.1.2; simp at this; omega⟩
  | _ => cases h
theorem good_of (x : Six n w a0 a1 a2 a3 a4 a5) (h : raceOk a0 a1 a2 a3 a4 a5 = true) : ∃ r : Rp, RpOk r ∧ a0 = .str r.nm ∧ a1 = .str r.kd ∧ a2 = tupS r.cs ∧ a3 = tupS r.ds ∧ a4 = .int r.i ∧ a5 = .str r.way := by
  unfold raceOk at h
  simp only [Bool.and_eq_true] at h
  obtain ⟨⟨⟨h0, h1⟩, h2, h3⟩, h4, h5⟩ := h
  obtain ⟨cs, rfl, c1, c2⟩ := names_of h2 (by omega)
  obtain ⟨ds, rfl, d1, d2⟩ := names_of h3 (by omega)
  obtain ⟨nm, rfl⟩ : ∃ s, a0 = .str s := by
    cases a0 with
    | str s => exact ⟨s, rfl⟩
    | _ => cases h0
  obtain ⟨kd, rfl⟩ : ∃ s, a1 = .str s := by
    cases a1 with
    | str s => exact ⟨s, rfl⟩
    | _ => cases h1
  obtain ⟨i, rfl⟩ : ∃ s, a4 = .int s := by
    cases a4 with
    | int s => exact ⟨s, rfl⟩
    | _ => cases h4
  obtain ⟨way, rfl⟩ : ∃ s, a5 = .str s := by
    cases a5 with
    | str s => exact ⟨s, rfl⟩
    | _ => rw [wayR_no (fun s h => by cases h)] at h5; cases h5
  refine ⟨⟨nm, kd, cs, ds, i, way⟩, ⟨isNm_ok h0, ?_, ⟨c1, c2⟩, ⟨d1, d2⟩, ?_⟩, rfl, rfl, rfl, rfl, rfl, rfl⟩
  · have := x.o1; cases this with | str s a h => exact a.ok
  · have := x.o5; cases this with | str s a h => exact a.ok
def eqP (r q : Rp) : Bool := (r.nm == q.nm) && ((r.kd == q.kd) && (decide (r.cs = q.cs) && (decide (r.ds = q.ds) && ((r.i == q.i) && ((r.way == q.way) && true)))))
theorem eqP_comm (r q : Rp) : eqP r q = eqP q r := by
  unfold eqP
  rw [Bool.beq_comm (a := r.nm), Bool.beq_comm (a := r.kd), Bool.beq_comm (a := r.i), Bool.beq_comm (a := r.way)]
  rw [show decide (r.cs = q.cs) = decide (q.cs = r.cs) from by rw [decide_eq_decide]; exact eq_comm, show decide (r.ds = q.ds) = decide (q.ds = r.ds) from by rw [decide_eq_decide]; exact eq_comm]
def pyR (r : Rp) : PyData := .tuple [.str r.nm, .str r.kd, .tuple (r.cs.map .str), .tuple (r.ds.map .str), .int r.i, .str r.way]
theorem py_strs (l : List Str) : D.pys S (l.map .str) = some (l.map .str) := by
  induction l with
  | nil => rfl
  | cons a l ih => simp [D.pys, D.py, ih]
theorem py_told (r : Rp) : D.pyO S r.told = some (pyR r) := by
  simp [D.pyO, D.py, D.pys, py_strs, pyR]
theorem shp_told {r : Rp} (h : RpOk r) : SeqAt.shaped (pyR r) = true := by
  refine (Shp.tuple (k := 1) fun p hp => ?_).shaped (by decide)
  have st : ∀ l : List Str, (∀ s ∈ l, PyData.strOk s = true) → Shp 1 (.tuple (l.map .str)) := fun l hl => Shp.tuple (k := 0) fun p hp => by
    obtain ⟨s, hs, rfl⟩ := List.mem_map.mp hp
    exact .str (hl s hs)
  simp only [List.mem_cons, List.not_mem_nil, or_false] at hp
  rcases hp with rfl | rfl | rfl | rfl | rfl | rfl
  · exact .str h.nm
  · exact .str h.kd
  · exact st _ h.cs.1
  · exact st _ h.ds.1
  · exact .int _
  · exact .str h.way
theorem eqv_told (r q : Rp) : PyData.eqv (pyR r) (pyR q) = eqP r q := by
  have t : ∀ a b : List Str, PyData.eqv (.tuple (a.map .str)) (.tuple (b.map .str)) = decide (a = b) := fun a b => eqv_strs a b
  unfold pyR eqP
  show (PyData.eqv (.str r.nm) (.str q.nm) && (PyData.eqv (.str r.kd) (.str q.kd) && (PyData.eqv (.tuple (r.cs.map .str)) (.tuple (q.cs.map .str)) && (PyData.eqv (.tuple (r.ds.map .str)) (.tuple (q.ds.map .str)) && (PyData.eqv (.int r.i) (.int q.i) && (PyData.eqv (.str r.way) (.str q.way) && true)))))) = _
  rw [t, t]; rfl
theorem eq_told {r q : Rp} (hr : RpOk r) (hq : RpOk q) : opEq r.told q.told S = .ok (.bl (eqP r q)) S := by
  have := opEqB_of (S := S) (neg := false) (py_told (S := S) r) (py_told q) (shp_told hr) (shp_told hq) (fun _ _ h => by cases h)
  rw [eqv_told] at this
  exact this
theorem fl (r : Rp) : fldC S r.race "name" = some (("Race" : Str), .str r.nm) ∧ fldC S r.race "kind" = some (("Race" : Str), .str r.kd) ∧ fldC S r.race "choices" = some (("Race" : Str), tupS r.cs) ∧ fldC S r.race "districts" = some (("Race" : Str), tupS r.ds) ∧ fldC S r.race "seats" = some (("Race" : Str), .int r.i) ∧ fldC S r.race "by" = some (("Race" : Str), .str r.way) := ⟨rfl, rfl, rfl, rfl, rfl, rfl⟩
theorem eq_race {r q : Rp} (hr : RpOk r) (hq : RpOk q) : opEqR "Race" d_Race_eq r.race q.race S = .ok (.bl (eqP r q)) S := by
  have e := eq_told (S := S) hr hq
  have z6 : sz 6 := sz_is (by omega)
  have hd : d_Race_eq [r.race, q.race] S = .ok (.bl (eqP r q)) S := by
    unfold d_Race_eq g_Race_eq
    refine fnRt (d := .bl (eqP r q)) (S' := S) ?_ exit_bl
    rw [show startD 3 [r.race, q.race] = [some r.race, some q.race, none] from rfl]
    refine stN (e := [some r.race, some q.race, none]) (S' := S) (ifFB (S' := S) (by simp [tyO, tabO]) rfl) ?_
    refine stN (e := [some r.race, some q.race, some r.told]) (S' := S) ?_ ?_
    · simp [z6, fl r]
    · generalize hT : r.told = RT at *
      have q1 : eTup (lCons (eFldC ["Place", "Race"] "name" (eVar 1)) (lCons (eFldC ["Race"] "kind" (eVar 1)) (lCons (eFldC ["Race"] "choices" (eVar 1)) (lCons (eFldC ["Race"] "districts" (eVar 1)) (lCons (eFldC ["Race"] "seats" (eVar 1)) (lCons (eFldC ["Race"] "by" (eVar 1)) lNil)))))) [some r.race, some q.race, some RT] S = .ok q.told S := by
        simp [z6, fl q]
      rw [sRet_is, eOp_is, eVar_at (d := RT) rfl]
      simp only [ER.bind_ok, q1, e]
      rfl
  rw [opEqR_is, hd]
  simp [insD, tyO, okE]
theorem ne_race {r : Rp} {ds : List D} : opEqR "Race" d_Race_eq r.race (.tup ds) S = .ok (.bl false) S := by
  have hd : d_Race_eq [r.race, .tup ds] S = .ok (.bl false) S := by
    unfold d_Race_eq g_Race_eq
    refine fnRt (d := .bl false) (S' := S) ?_ exit_bl
    rw [show startD 3 [r.race, .tup ds] = [some r.race, some (.tup ds), none] from rfl]
    exact stR (d := .bl false) (S' := S) (ifTB (S' := S) (by simp [tyO, tabO]) rfl) rfl
  rw [opEqR_is, hd]
  simp [insD, tyO, okE]
end DW.K06
end
section
/-! One thing: whether a race comes of it. -/
namespace DW.K06
open PySem L2 DL DR DY DO
variable {S T : Store} {c : Cell} {m : Nat} {n w : Nat} {a0 a1 a2 a3 a4 a5 : D}
theorem like_int1 {k : Nat} {d : D} (o : Od n w d) : d__law_like_n (k + 1) [d, .int 1] S = .ok (.bl (is1 d)) S := by
  cases o with
  | int i h => by_cases hi : i = 1 <;> simp [d__law_like_n, g__law_like, Ty.isa, is1, hi]
  | _ => simp [d__law_like_n, g__law_like, Ty.isa, is1]
theorem like_str0 {k : Nat} {d : D} (o : Od n w d) : d__law_like_n (k + 1) [d, .str ""] S = .ok (.bl (isS "" d)) S := by
  cases o with
  | str s a h => by_cases hi : s = "" <;> simp [d__law_like_n, g__law_like, Ty.isa, isS, hi]
  | _ => simp [d__law_like_n, g__law_like, Ty.isa, isS]
theorem like_two (o4 : Od n w a4) (o5 : Od n w a5) : d__law_like [.lst [a4, a5], .lst [.int 1, .str ""]] S = .ok (.bl (is1 a4 && isS "" a5)) S := by
  have l4 := like_int1 (S := S) (k := 10) o4
  have l5 := like_str0 (S := S) (k := 10) o5
  have r2 : rOk 2 := rOk_n (n := 2) (by omega)
  have z0 : sz 0 := sz_is (by omega)
  have z1 : sz 1 := sz_is (by omega)
  have z2 : sz 2 := sz_is (by omega)
  have rg : rangeD 0 2 = [.int 0, .int 1] := rfl
  have i0 : ∀ (a b : D), atI [a, b] 0 = some a ∧ atI [a, b] 1 = some b := fun a b => ⟨rfl, rfl⟩
  have e0 := opEq_lints (S := S) (as := []) (bs := [])
  have e1 := opEq_lints (S := S) (as := [0]) (bs := [])
  have e2 := opEq_lints (S := S) (as := [1]) (bs := [])
  have e3 := opEq_lints (S := S) (as := [0, 1]) (bs := [])
  simp only [List.map_cons, List.map_nil] at e0 e1 e2 e3
  unfold d__law_like
  rw [show (12 : Nat) = 11 + 1 from rfl]
  unfold d__law_like_n
  have mi : minII 2 2 = 2 := rfl
  generalize d__law_like_n (10 + 1) = F at *
  generalize is1 a4 = b4 at *
  generalize isS "" a5 = b5 at *
  cases b4 <;> cases b5 <;> simp [g__law_like, g__law_like_t1, Ty.isa, r2, z0, z1, z2, rg, i0, lcD, l4, l5, e0, e1, e2, e3, mi]
abbrev bE (v0 v1 v3 : Option D) (f : Rp) (v6 v7 v8 v9 v10 v11 : Option D) : EnvD := [v0, v1, some (.loc 0), v3, some f.told, some f.race, v6, v7, v8, v9, v10, v11, none]
theorem body_ok {f : Rp} (hf : RpOk f) (x : Six n w a0 a1 a2 a3 a4 a5) (hn : n ≤ 50) (hw : w ≤ 1000) (hw1 : 1 ≤ w) {L : List D} (fL : FlatO [.lst L]) (d : Drw c m) (hm : m ≤ 80000) {v0 v1 v3 v6 v8 v9 v10 v11 : Option D} :
    ∃ (b8 b9 b10 b11 : Option D) (c' : Cell), g__law_right_b1 (bE v0 v1 v3 f v6 (some (.tup [a0, a1, a2, a3, a4, a5])) v8 v9 v10 v11) [c, .lst L] = .nx (bE v0 v1 v3 f v6 (some (.tup [a0, a1, a2, a3, a4, a5])) b8 b9 b10 b11) [c', .lst L] ∧ Drw c' (m + 1) := by
  obtain ⟨z, c1, n1, _, _, d1⟩ := nextT (T := [.lst L]) 2 d (by omega) (by decide) (by decide)
  have lk := like_two (S := [c, .lst L]) x.o4 x.o5
  have z2 : sz 2 := sz_is (by omega)
  have z3 : sz 3 := sz_is (by omega)
  have z6 : sz 6 := sz_is (by omega)
  -- the first step
  obtain ⟨pl, c2, e1, hp, d2⟩ : ∃ (pl : Bool) (c2 : Cell), sAsg (eAnd (eCall d__law_like (lCons (eCallB bListX (lCons (eSlice (eVar 7) (oSome (eC (.int 4))) oNone) lNil)) (lCons (eLst (lCons (eC (.int 1)) (lCons (eC (.str "")) lNil))) lNil))) (eOp opEq (eCall d__law_next (lCons (eVar 2) (lCons (eC (.int 2)) lNil))) (eC (.int 0)))) (bName 8) (bE v0 v1 v3 f v6 (some (.tup [a0, a1, a2, a3, a4, a5])) v8 v9 v10 v11) [c, .lst L] = .nx (bE v0 v1 v3 f v6 (some (.tup [a0, a1, a2, a3, a4, a5])) (some (.bl pl)) v9 v10 v11) [c2, .lst L] ∧ (pl = true → a4 = .int 1 ∧ a5 = .str "") ∧ Drw c2 (m + 1) := by
    have on : ∀ env S, oNone env S = .ok none S := fun _ _ => rfl
    have os : ∀ env S, oSome (eC (.int 4)) env S = .ok (some 4) S := fun _ _ => rfl
    have ct : cutD [a0, a1, a2, a3, a4, a5] (some 4) none = [a4, a5] := by
      have := cut_lo [a0, a1, a2, a3, a4, a5] 4
      exact this
    have le : eCall d__law_like (lCons (eCallB bListX (lCons (eSlice (eVar 7) (oSome (eC (.int 4))) oNone) lNil)) (lCons (eLst (lCons (eC (.int 1)) (lCons (eC (.str "")) lNil))) lNil)) (bE v0 v1 v3 f v6 (some (.tup [a0, a1, a2, a3, a4, a5])) v8 v9 v10 v11) [c, .lst L] = .ok (.bl (is1 a4 && isS "" a5)) [c, .lst L] := by
      simp [on, os, ct, z2, lk]
    cases hb : (is1 a4 && isS "" a5) with
    | false =>
      rw [hb] at le
      refine ⟨false, c, ?_, (fun h => by cases h), d.mono (by omega)⟩
      rw [sAsg_is, eAnd_is, le]; rfl
    | true =>
      rw [hb] at le
      refine ⟨decide (z = 0), c1, ?_, fun _ => ?_, d1⟩
      · have ne : eOp opEq (eCall d__law_next (lCons (eVar 2) (lCons (eC (.int 2)) lNil))) (eC (.int 0)) (bE v0 v1 v3 f v6 (some (.tup [a0, a1, a2, a3, a4, a5])) v8 v9 v10 v11) [c, .lst L] = .ok (.bl (decide (z = 0))) [c1, .lst L] := by
          simp [n1]
        rw [sAsg_is, eAnd_is, le]
        simp only [ER.bind_ok, ne]
        cases decide (z = 0) <;> rfl
      · rw [Bool.and_eq_true] at hb
        constructor
        · cases a4 with
          | int i => simp [is1] at hb; rw [hb.1]
          | _ => simp [is1] at hb
        · cases a5 with
          | str i => simp [isS] at hb; rw [hb.2]
          | _ => simp [isS] at hb
  have fS : FlatO [c2, .lst L] := fun k => by
    show (Cell.bel k c2 && ([Cell.lst L].all (Cell.bel k))) = true
    rw [d2.bel, fL k]; rfl
  have mk := made_ok (S := [c2, .lst L]) x hw hw1 fS hp
  have rr := race_right_ok (S := [c2, .lst L]) x hn hw
  unfold g__law_right_b1
  by_cases hr : raceOk a0 a1 a2 a3 a4 a5 = true
  · rw [if_pos hr] at mk
    rw [hr] at rr
    obtain ⟨r, ro, rfl, rfl, rfl, rfl, rfl, rfl⟩ := good_of x hr
    have er := eq_race (S := [c2, .lst L]) ro hf
    have er2 := eq_race (S := [c2, .lst L]) hf ro
    rw [eqP_comm f r] at er2
    have en := ne_race (S := [c2, .lst L]) (r := r) (ds := [.str r.nm, .str r.kd, tupS r.cs, tupS r.ds, .int r.i, .str r.way])
    have et := eq_told (S := [c2, .lst L]) ro hf
    obtain ⟨b, hb⟩ : ∃ b, eqP r f = b := ⟨_, rfl⟩
    rw [hb] at er er2 et
    have nice : Nice 4 (.lst [.lst [.str r.nm, .str r.kd, tupS r.cs, tupS r.ds, .int r.i, .str r.way], .lst [.bl b, .bl b, .bl false]]) := by
      have st : ∀ l : List Str, l.length ≤ 100 → Nice 1 (tupS l) := fun l hl => .tup (fun d hd => by obtain ⟨s, _, rfl⟩ := List.mem_map.mp hd; exact .str) (by rw [List.length_map]; omega)
      refine .lst (k := 3) (fun d hd => ?_) (by simp)
      simp only [List.mem_cons, List.not_mem_nil, or_false] at hd
      rcases hd with rfl | rfl
      · refine .lst (k := 2) (fun d hd => ?_) (by simp)
        simp only [List.mem_cons, List.not_mem_nil, or_false] at hd
        rcases hd with rfl | rfl | rfl | rfl | rfl | rfl
        · exact .str
        · exact .str
        · exact .tup (k := 1) (fun d hd => by obtain ⟨s, _, rfl⟩ := List.mem_map.mp hd; exact .str) (by rw [List.length_map]; have := ro.cs.2; omega)
        · exact .tup (k := 1) (fun d hd => by obtain ⟨s, _, rfl⟩ := List.mem_map.mp hd; exact .str) (by rw [List.length_map]; have := ro.ds.2; omega)
        · exact .int
        · exact .str
      · refine .lst (k := 2) (fun d hd => ?_) (by simp)
        simp only [List.mem_cons, List.not_mem_nil, or_false] at hd
        rcases hd with rfl | rfl | rfl <;> exact .bl
    have li := like_ok (S := [c2, .lst L]) nice
    refine ⟨some (.bl pl), some r.race, some (.lst [.str r.nm, .str r.kd, tupS r.cs, tupS r.ds, .int r.i, .str r.way]), some (.lst [.bl b, .bl b, .bl false]), c2, ?_, d2⟩
    refine stN e1 ?_
    have rt : D.tup [.str r.nm, .str r.kd, tupS r.cs, tupS r.ds, .int r.i, .str r.way] = r.told := rfl
    refine stN (S' := [c2, .lst L]) (e := bE v0 v1 v3 f v6 (some r.told) (some (.bl pl)) (some r.race) v10 v11) ?_ ?_
    · rw [← rt]
      generalize d__law_made = F at *
      simp [mk]
    have lt : ∀ S, bListX [r.told] S = .ok (.lst [.str r.nm, .str r.kd, tupS r.cs, tupS r.ds, .int r.i, .str r.way]) S := fun _ => rfl
    rw [rt] at en rr
    refine (ifFB (S' := [c2, .lst L]) ?_ (ifFB (S' := [c2, .lst L]) ?_ ?_))
    · generalize r.told = RT at *
      simp [rr]
    · have ty : tyO [c2, .lst L] r.race = some (.o "Race") := rfl
      generalize r.race = RR at *
      simp [ty, tabO]
    have sf := fl (S := [c2, .lst L]) r
    obtain ⟨PP, hP⟩ : ∃ PP : List D, PP = [.str r.nm, .str r.kd, tupS r.cs, tupS r.ds, .int r.i, .str r.way] := ⟨_, rfl⟩
    refine stN (S' := [c2, .lst L]) (e := bE v0 v1 v3 f v6 (some r.told) (some (.bl pl)) (some r.race) (some (.lst PP)) v11) ?_ ?_
    · rw [hP]
      generalize r.told = RT at *
      generalize r.race = RR at *
      simp [sf, z6]
    rw [← hP] at lt li ⊢
    rw [show D.tup PP = r.told from by rw [hP]]
    refine stN (S' := [c2, .lst L]) (e := bE v0 v1 v3 f v6 (some r.told) (some (.bl pl)) (some r.race) (some (.lst PP)) (some (.lst [.bl b, .bl b, .bl false]))) ?_ ?_
    · generalize r.told = RT at *
      generalize r.race = RR at *
      simp [er, er2, en, z3, -opEqR_is]
    · refine ifFB (S' := [c2, .lst L]) ?_ rfl
      generalize r.told = RT at *
      generalize r.race = RR at *
      simp [lt, et, z2, z3, li]
  · have hr' : raceOk a0 a1 a2 a3 a4 a5 = false := by simpa using hr
    rw [if_neg hr] at mk
    rw [hr'] at rr
    refine ⟨some (.bl pl), some .non, v10, v11, c2, ?_, d2⟩
    refine stN e1 ?_
    refine stN (S' := [c2, .lst L]) (e := bE v0 v1 v3 f v6 (some (.tup [a0, a1, a2, a3, a4, a5])) (some (.bl pl)) (some .non) v10 v11) ?_ ?_
    · generalize D.tup [a0, a1, a2, a3, a4, a5] = RT at *
      simp [mk]
    · refine ifTB (S' := [c2, .lst L]) ?_ (ifFB (S' := [c2, .lst L]) ?_ rfl)
      · generalize D.tup [a0, a1, a2, a3, a4, a5] = RT at *
        simp [rr]
      · simp [D.isN]
end DW.K06
end
section
namespace DW.K06
open PySem L2 DL DR DY DO
variable {S T : Store} {c : Cell} {m : Nat} {n w : Nat}
def IsSix (n w : Nat) (d : D) : Prop := ∃ a0 a1 a2 a3 a4 a5, d = .tup [a0, a1, a2, a3, a4, a5] ∧ Six n w a0 a1 a2 a3 a4 a5
theorem six_of {rs : List D} {n w : Nat} (hl : rs.length = 6) (o : Od (n + 1) w (.tup rs)) : IsSix n w (.tup rs) := by
  match rs, hl, o with
  | [a0, a1, a2, a3, a4, a5], _, o =>
    cases o with
    | tup _ hl ho => exact ⟨a0, a1, a2, a3, a4, a5, rfl, ho _ (by simp), ho _ (by simp), ho _ (by simp), ho _ (by simp), ho _ (by simp), ho _ (by simp)⟩
theorem loop_ok {f : Rp} (hf : RpOk f) (hn : n ≤ 50) (hw : w ≤ 1000) (hw1 : 1 ≤ w) {L0 : List D} (fL : FlatO [.lst L0]) {v0 v1 v3 v6 : Option D} : ∀ (L : List D) (c : Cell) (m : Nat) (v7 v8 v9 v10 v11 : Option D), (∀ d ∈ L, IsSix n w d) → Drw c m → m + L.length ≤ 80000 →
    ∃ (b7 b8 b9 b10 b11 : Option D) (c' : Cell), forDX (some 1) L0 (bName 7) g__law_right_b1 L (bE v0 v1 v3 f v6 v7 v8 v9 v10 v11) [c, .lst L0] = .nx (bE v0 v1 v3 f v6 b7 b8 b9 b10 b11) [c', .lst L0]
  | [], c, m, v7, v8, v9, v10, v11, _, d, _ => ⟨v7, v8, v9, v10, v11, c, forXn rfl⟩
  | x :: L, c, m, v7, v8, v9, v10, v11, h, d, hm => by
    obtain ⟨a0, a1, a2, a3, a4, a5, rfl, sx⟩ := h x List.mem_cons_self
    obtain ⟨b8, b9, b10, b11, c1, e1, d1⟩ := body_ok hf sx hn hw hw1 fL d (by simp at hm; omega) (v0 := v0) (v1 := v1) (v3 := v3) (v6 := v6) (v8 := v8) (v9 := v9) (v10 := v10) (v11 := v11)
    obtain ⟨q7, q8, q9, q10, q11, c2, e2⟩ := loop_ok hf hn hw hw1 fL L c1 (m + 1) (some (.tup [a0, a1, a2, a3, a4, a5])) b8 b9 b10 b11 (fun d hd => h d (List.mem_cons_of_mem _ hd)) d1 (by simp at hm; omega)
    exact ⟨q7, q8, q9, q10, q11, c2, forXc rfl rfl e1 e2⟩
theorem od_str {s : Str} (h : goodN s = true) : Od n w (.str s) := by
  have a := AscS.nm (isNm_of h)
  have l : s.length ≤ 8 := by
    have := isNm_of h
    unfold isNm at this
    simp only [Bool.and_eq_true, decide_eq_true_eq] at this
    exact this.1.2
  exact .str s a (by omega)
theorem od_lit {s : Str} (h : s ∈ (["one", "any", "rank", "", "runoff", "pairs", "share"] : List Str)) : Od n w (.str s) ∧ PyData.strOk s = true := by
  have k : ∀ s : Str, s ∈ (["one", "any", "rank", "", "runoff", "pairs", "share"] : List Str) → s.length ≤ 100 ∧ ∀ k ∈ s.cps.toList, k < 128 := by decide +kernel
  obtain ⟨h1, h2⟩ := k s h
  have a : AscS s := ⟨by omega, h2⟩
  exact ⟨.str s a (by omega), a.ok⟩
theorem od_tupS {l : List Str} (h : ∀ s ∈ l, goodN s = true) (hl : l.length ≤ w) : Od (n + 1) w (tupS l) :=
  .tup _ (by simpa using hl) fun d hd => by obtain ⟨s, hs, rfl⟩ := List.mem_map.mp hd; exact od_str (h s hs)
theorem bel_od {l : List D} (h : ∀ d ∈ l, ∃ n w, Od n w d) : FlatO [.lst l] := fun k => by
  show (belDs k l && true) = true
  rw [belDs_allS fun d hd => let ⟨_, _, o⟩ := h d hd; o.bel k]; rfl
theorem right_ok (cell : Int) {k0 : Nat} (hk : k0 ≤ 100) : d__law_right [.int cell, .int (k0 : Nat)] [] = .ok (.bl true) [] := by
  obtain ⟨c0, p0, d0⟩ := begun1 cell (k := (k0 : Int)) (by omega) (by omega)
  obtain ⟨ns, c1, p1, N, d1⟩ := names_ok (n := 14) (by omega) d0 (by omega)
  obtain ⟨x, c2, n2, x0, x1, d2⟩ := nextT (T := []) 5 d1 (by omega) (by decide) (by decide)
  obtain ⟨j, rfl⟩ := Int.eq_ofNat_of_zero_le x0
  have nl := N.len
  have Na : NamesN (1 + j) ((ns.take (7 + j)).drop 6) := ⟨by rw [List.length_drop, List.length_take]; omega, fun s hs => N.good s (List.mem_of_mem_take (List.mem_of_mem_drop hs)), (N.nd.sublist (List.take_sublist _ _)).sublist (List.drop_sublist _ _)⟩
  obtain ⟨nm, kd, cs, ds, seats, way, c3, p3, t, td, _, _, _, d3⟩ := parts_ok (N.take (m := 6) (by omega)) Na (by omega) (by omega) d2 (by omega)
  have rc := race_ok (c := c3) t td (d3.bel)
  obtain ⟨f, hf⟩ : ∃ f : Rp, f = ⟨nm, kd, cs, ds, seats, way⟩ := ⟨_, rfl⟩
  have w7 : way ∈ (["one", "any", "rank", "", "runoff", "pairs", "share"] : List Str) := by
    rcases t.w with ⟨_, h⟩ | ⟨_, h, _⟩
    · subst h; simp
    · rcases h with h | h | h <;> subst h <;> simp
  have k7 : kd ∈ (["one", "any", "rank", "", "runoff", "pairs", "share"] : List Str) := by
    rcases t.kdOk with h | h | h <;> subst h <;> simp
  have l5 := t.l5
  have l6 := td.l6
  have s1 := t.s1
  have s2 := t.s2
  have fok : RpOk f := by
    subst hf
    exact ⟨isNm_ok (isNm_of t.nm), (od_lit (n := 0) (w := 0) k7).2, ⟨fun s hs => isNm_ok (isNm_of (t.good s hs)), by show cs.length ≤ 100; omega⟩, ⟨fun s hs => isNm_ok (isNm_of (td.good s hs)), by show ds.length ≤ 100; omega⟩, (od_lit (n := 0) (w := 0) w7).2⟩
  have six : ∀ (cs' ds' : List Str), (∀ s ∈ cs', goodN s = true) → (∀ s ∈ ds', goodN s = true) → cs'.length ≤ 7 → ds'.length ≤ 7 → Six 1 7 (.str nm) (.str kd) (tupS cs') (tupS ds') (.int seats) (.str way) := fun cs' ds' h1 h2 h3 h4 =>
    ⟨od_str t.nm, (od_lit k7).1, od_tupS h1 h3, od_tupS h2 h4, .int _ (by omega), (od_lit w7).1⟩
  have tod : ∀ (cs' ds' : List Str), (∀ s ∈ cs', goodN s = true) → (∀ s ∈ ds', goodN s = true) → cs'.length ≤ 7 → ds'.length ≤ 7 → Od 2 7 (.tup [.str nm, .str kd, tupS cs', tupS ds', .int seats, .str way]) := fun cs' ds' h1 h2 h3 h4 => by
    have x := six cs' ds' h1 h2 h3 h4
    refine .tup _ (by simp) fun d hd => ?_
    simp only [List.mem_cons, List.not_mem_nil, or_false] at hd
    rcases hd with rfl | rfl | rfl | rfl | rfl | rfl
    · exact x.o0
    · exact x.o1
    · exact x.o2
    · exact x.o3
    · exact x.o4
    · exact x.o5
  have fod := tod cs ds t.good td.good (by omega) (by omega)
  have ft : toldW nm kd cs ds seats way = f.told := by rw [hf]
  have fr : raceW nm kd cs ds seats way = f.race := by rw [hf]
  -- four with a part otherwise
  obtain ⟨l, c4, p4, l4, pl, d4⟩ := lc_drawT [] (D.tup) (fun rs => rs.length = 6 ∧ Od 5 8 (.tup rs)) 3 12 60000 (elt := g__law_right_e1) (env := [some (.int cell), some (.int (k0 : Nat)), some (.loc 0), some (.lst (ns.map .str)), some f.told, some f.race, none, none, none, none, none, none, none]) (fun k c m d hm => by
    obtain ⟨rs, c', e1, e2, e3, e4⟩ := spoilt_ok (T := []) (d0 := f.told) (d1 := .str f.nm) (ds := [.str f.kd, tupS f.cs, tupS f.ds, .int f.i, .str f.way]) rfl (by rw [hf]; exact fod) (by omega) (by omega) (Nat.le_trans (by rw [hf]; exact fod.nodes) (by decide)) (fun k => rfl) d (by omega)
    refine ⟨rs, c', ?_, ⟨by simpa using e2, e3⟩, e4⟩
    generalize f.told = FT at *
    generalize f.race = FR at *
    simp [g__law_right_e1, e1]) (rangeD 0 4) [] c3 _ d3 (by simp) (by simp)
  simp only [range_len] at l4 d4
  match l, l4, pl, p4 with
  | [q1, q2, q3, q4], _, pl, p4 =>
    obtain ⟨h1, o1⟩ := pl q1 (by simp)
    obtain ⟨h2, o2⟩ := pl q2 (by simp)
    obtain ⟨h3, o3⟩ := pl q3 (by simp)
    obtain ⟨h4, o4⟩ := pl q4 (by simp)
    have fod' : Od 2 7 f.told := by rw [hf]; exact fod
    have fl0 : FlatO [.lst [f.told, .tup q1, .tup q2, .tup q3, .tup q4]] := bel_od fun d hd => by
      simp only [List.mem_cons, List.not_mem_nil, or_false] at hd
      rcases hd with rfl | rfl | rfl | rfl | rfl
      · exact ⟨_, _, fod'⟩
      · exact ⟨_, _, o1⟩
      · exact ⟨_, _, o2⟩
      · exact ⟨_, _, o3⟩
      · exact ⟨_, _, o4⟩
    obtain ⟨y, ys, hy⟩ : ∃ y ys, q4 = y :: ys := by
      cases q4 with
      | nil => cases h4
      | cons y ys => exact ⟨y, ys, rfl⟩
    obtain ⟨q5, c5, p5, h5, o5, d5⟩ := spoilt_ok (T := [.lst [f.told, .tup q1, .tup q2, .tup q3, .tup q4]]) (d0 := .tup q4) (by rw [hy]) o4 (by omega) (by omega) (Nat.le_trans o4.nodes (by decide)) fl0 d4 (by omega)
    have h5 : q5.length = 6 := by rw [hy] at h4; simp at h4; omega
    obtain ⟨x6, c6, n6, x60, x61, d6⟩ := nextT (T := [.lst [f.told, .tup q1, .tup q2, .tup q3, .tup q5]]) 2 d5 (by omega) (by decide) (by decide)
    obtain ⟨j6, rfl⟩ := Int.eq_ofNat_of_zero_le x60
    obtain ⟨D6, hD6⟩ : ∃ D6, D6 = (ns.take (12 + j6)).drop 6 := ⟨_, rfl⟩
    obtain ⟨P6, hP6⟩ : ∃ P6 : List D, P6 = [.str nm, .str kd, tupS cs, tupS D6, .int seats, .str way] := ⟨_, rfl⟩
    obtain ⟨x7, c7, n7, x70, x71, d7⟩ := nextT (T := [.lst [f.told, .tup q1, .tup q2, .tup q3, .tup q5, .tup P6]]) 2 d6 (by omega) (by decide) (by decide)
    obtain ⟨j7, rfl⟩ := Int.eq_ofNat_of_zero_le x70
    obtain ⟨D7, hD7⟩ : ∃ D7, D7 = ns.take (5 + j7) := ⟨_, rfl⟩
    obtain ⟨P7, hP7⟩ : ∃ P7 : List D, P7 = [.str nm, .str kd, tupS D7, tupS ds, .int seats, .str way] := ⟨_, rfl⟩
    have g6 : ∀ s ∈ D6, goodN s = true := fun s hs => N.good s (List.mem_of_mem_take (List.mem_of_mem_drop (by rw [hD6] at hs; exact hs)))
    have g7 : ∀ s ∈ D7, goodN s = true := fun s hs => N.good s (List.mem_of_mem_take (by rw [hD7] at hs; exact hs))
    have ld6 : D6.length ≤ 7 := by rw [hD6, List.length_drop, List.length_take]; omega
    have ld7 : D7.length ≤ 7 := by rw [hD7, List.length_take]; omega
    have od6 : Od 2 7 (.tup P6) := by rw [hP6]; exact tod cs D6 t.good g6 (by omega) ld6
    have od7 : Od 2 7 (.tup P7) := by rw [hP7]; exact tod D7 ds g7 td.good ld7 (by omega)
    obtain ⟨L, hL⟩ : ∃ L, L = [f.told, .tup q1, .tup q2, .tup q3, .tup q5, .tup P6, .tup P7] := ⟨_, rfl⟩
    have hS : ∀ d ∈ L, IsSix 10 9 d := fun d hd => by
      have up : ∀ {n w : Nat} {rs : List D}, rs.length = 6 → Od n w (.tup rs) → n ≤ 11 → w ≤ 9 → IsSix 10 9 (.tup rs) := fun h o h1 h2 => six_of h (o.mono (by omega) h2)
      rw [hL] at hd
      simp only [List.mem_cons, List.not_mem_nil, or_false] at hd
      rcases hd with rfl | rfl | rfl | rfl | rfl | rfl | rfl
      · exact up rfl fod' (by omega) (by omega)
      · exact up h1 o1 (by omega) (by omega)
      · exact up h2 o2 (by omega) (by omega)
      · exact up h3 o3 (by omega) (by omega)
      · exact up h5 o5 (by omega) (by omega)
      · exact up (by rw [hP6]; rfl) od6 (by omega) (by omega)
      · exact up (by rw [hP7]; rfl) od7 (by omega) (by omega)
    have fL : FlatO [.lst L] := bel_od fun d hd => by
      rw [hL] at hd
      simp only [List.mem_cons, List.not_mem_nil, or_false] at hd
      rcases hd with rfl | rfl | rfl | rfl | rfl | rfl | rfl
      · exact ⟨_, _, fod'⟩
      · exact ⟨_, _, o1⟩
      · exact ⟨_, _, o2⟩
      · exact ⟨_, _, o3⟩
      · exact ⟨_, _, o5⟩
      · exact ⟨_, _, od6⟩
      · exact ⟨_, _, od7⟩
    obtain ⟨b7, b8, b9, b10, b11, c8, e8⟩ := loop_ok (n := 10) (w := 9) fok (by omega) (by omega) (by omega) fL (v0 := some (.int cell)) (v1 := some (.int (k0 : Nat))) (v3 := some (.lst (ns.map .str))) (v6 := some (.loc 1)) L c7 _ none none none none none hS d7 (by rw [hL]; simp)
    have on : ∀ env S, oNone env S = .ok none S := fun _ _ => rfl
    have oc : ∀ i env S, oSome (eC (.int i)) env S = .ok (some i) S := fun _ _ _ => rfl
    have bt : ∀ l : List D, ∀ S, bTuple [.lst l] S = .ok (.tup l) S := fun _ _ => rfl
    have k1 : cutD (ns.map D.str) none (some 6) = (ns.take 6).map .str := by
      have := cut_hi (ns.map D.str) 6
      rw [List.map_take]; exact this
    have k2 : cutD (ns.map D.str) (some 6) (some (7 + (j : Int))) = ((ns.take (7 + j)).drop 6).map .str := by
      have := cut_mid (ns.map D.str) 6 (7 + j) (by omega) (by simp; omega)
      rw [List.map_drop, List.map_take]
      push_cast at this
      exact this
    have k6 : cutD (ns.map D.str) (some 6) (some (12 + (j6 : Int))) = D6.map .str := by
      have := cut_mid (ns.map D.str) 6 (12 + j6) (by omega) (by simp; omega)
      rw [hD6, List.map_drop, List.map_take]
      push_cast at this
      exact this
    have k7 : cutD (ns.map D.str) none (some (5 + (j7 : Int))) = D7.map .str := by
      have := cut_hi (ns.map D.str) (5 + j7)
      rw [hD7, List.map_take]
      push_cast at this
      exact this
    have z1 : sz 1 := sz_is (by omega)
    have z5 : sz 5 := sz_is (by omega)
    have z6 : sz 6 := sz_is (by omega)
    have z7 : sz 7 := sz_is (by omega)
    have z14 : sz (1 + 4) := sz_is (by omega)
    have r4 : rOk 4 := rOk_n (n := 4) (by omega)
    rw [ft] at p3 rc
    rw [fr] at rc
    have sl : ∀ lo hi S, slD f.told lo hi S = .ok (.tup (cutD [.str nm, .str kd, tupS cs, tupS ds, .int seats, .str way] lo hi)) S := fun lo hi S => by rw [← ft]; rfl
    have t3 : cutD [D.str nm, .str kd, tupS cs, tupS ds, .int seats, .str way] none (some 3) = [.str nm, .str kd, tupS cs] := by have := cut_hi [D.str nm, .str kd, tupS cs, tupS ds, .int seats, .str way] 3; exact this
    have t4 : cutD [D.str nm, .str kd, tupS cs, tupS ds, .int seats, .str way] (some 4) none = [.int seats, .str way] := by have := cut_lo [D.str nm, .str kd, tupS cs, tupS ds, .int seats, .str way] 4; exact this
    have t2 : cutD [D.str nm, .str kd, tupS cs, tupS ds, .int seats, .str way] none (some 2) = [.str nm, .str kd] := by have := cut_hi [D.str nm, .str kd, tupS cs, tupS ds, .int seats, .str way] 2; exact this
    have t33 : cutD [D.str nm, .str kd, tupS cs, tupS ds, .int seats, .str way] (some 3) none = [tupS ds, .int seats, .str way] := by have := cut_lo [D.str nm, .str kd, tupS cs, tupS ds, .int seats, .str way] 3; exact this
    have ad : ∀ a b : List D, a.length + b.length ≤ 10 → ∀ S, opAdd (.tup a) (.tup b) S = .ok (.tup (a ++ b)) S := fun a b h S => if_pos (sz_is (by omega))
    have a1 := ad [.str nm, .str kd, tupS cs] [tupS D6] (by simp)
    have a2 := ad [.str nm, .str kd, tupS cs, tupS D6] [.int seats, .str way] (by simp)
    have a3 := ad [.str nm, .str kd] [tupS D7] (by simp)
    have a4 := ad [.str nm, .str kd, tupS D7] [tupS ds, .int seats, .str way] (by simp)
    simp only [List.cons_append, List.nil_append] at a1 a2 a3 a4
    rw [← hP6] at a2
    rw [← hP7] at a4
    have td6 : D.tup (D6.map .str) = tupS D6 := rfl
    have td7 : D.tup (D7.map .str) = tupS D7 := rfl
    rw [← td6] at a1
    rw [← td7] at a3
    have cc : ∀ (a b : Cell), cel [a, b] 1 = some b := fun _ _ => rfl
    have at4 : atI [f.told, .tup q1, .tup q2, .tup q3, .tup q4] 4 = some (.tup q4) := rfl
    have pu : putIx 4 [f.told, .tup q1, .tup q2, .tup q3, .tup q4] (.tup q5) = some [f.told, .tup q1, .tup q2, .tup q3, .tup q5] := rfl
    have part1 : g__law_right [some (.int cell), some (.int (k0 : Nat)), none, none, none, none, none, none, none, none, none, none, none] [] = .rt (.bl true) [c8, .lst L] := by
      generalize hFT : f.told = FT at *
      generalize hFR : f.race = FR at *
      have eb : bE (some (.int cell)) (some (.int (k0 : Nat))) (some (.lst (ns.map .str))) f (some (.loc 1)) none none none none none = [some (.int cell), some (.int (k0 : Nat)), some (.loc 0), some (.lst (ns.map .str)), some FT, some FR, some (.loc 1), none, none, none, none, none, none] := by rw [← hFT, ← hFR]
      rw [eb] at e8
      unfold g__law_right
      refine stN (S' := [c0]) (e := [some (.int cell), some (.int (k0 : Nat)), some (.loc 0), none, none, none, none, none, none, none, none, none, none]) ?_ ?_
      · simp [p0]
      refine stN (S' := [c1]) (e := [some (.int cell), some (.int (k0 : Nat)), some (.loc 0), some (.lst (ns.map .str)), none, none, none, none, none, none, none, none, none]) ?_ ?_
      · have p1' : d__law_names [.loc 0, .int 14] [c0] = .ok (.lst (ns.map .str)) [c1] := p1
        simp [p1']
      refine stN (S' := [c3]) (e := [some (.int cell), some (.int (k0 : Nat)), some (.loc 0), some (.lst (ns.map .str)), some FT, none, none, none, none, none, none, none, none]) ?_ ?_
      · have os : oSome (eOp opAdd (eC (.int 7)) (eCall d__law_next (lCons (eVar 2) (lCons (eC (.int 5)) lNil)))) [some (.int cell), some (.int (k0 : Nat)), some (.loc 0), some (.lst (ns.map .str)), none, none, none, none, none, none, none, none, none] [c1] = .ok (some (7 + (j : Int))) [c2] := by
          unfold oSome
          simp [n2]
        generalize (ns.take 6).map D.str = N6 at *
        generalize ((ns.take (7 + j)).drop 6).map D.str = N7 at *
        simp [on, oc, os, k1, k2, p3]
      refine stN (S' := [c3]) (e := [some (.int cell), some (.int (k0 : Nat)), some (.loc 0), some (.lst (ns.map .str)), some FT, some FR, none, none, none, none, none, none, none]) ?_ ?_
      · simp [rc]
      refine stN (S' := [c4, .lst [FT, .tup q1, .tup q2, .tup q3, .tup q4]]) (e := [some (.int cell), some (.int (k0 : Nat)), some (.loc 0), some (.lst (ns.map .str)), some FT, some FR, some (.loc 1), none, none, none, none, none, none]) ?_ ?_
      · simp only [List.nil_append, List.map_cons, List.map_nil] at p4
        simp [z1, r4, p4, z5]
      refine stN (S' := [c5, .lst [FT, .tup q1, .tup q2, .tup q3, .tup q5]]) (e := [some (.int cell), some (.int (k0 : Nat)), some (.loc 0), some (.lst (ns.map .str)), some FT, some FR, some (.loc 1), none, none, none, none, none, none]) ?_ ?_
      · simp [cc, at4, p5, pu]
      refine stN (S' := [c6, .lst [FT, .tup q1, .tup q2, .tup q3, .tup q5, .tup P6]]) (e := [some (.int cell), some (.int (k0 : Nat)), some (.loc 0), some (.lst (ns.map .str)), some FT, some FR, some (.loc 1), none, none, none, none, none, none]) ?_ ?_
      · have os : oSome (eOp opAdd (eC (.int 12)) (eCall d__law_next (lCons (eVar 2) (lCons (eC (.int 2)) lNil)))) [some (.int cell), some (.int (k0 : Nat)), some (.loc 0), some (.lst (ns.map .str)), some FT, some FR, some (.loc 1), none, none, none, none, none, none] [c5, .lst [FT, .tup q1, .tup q2, .tup q3, .tup q5]] = .ok (some (12 + (j6 : Int))) [c6, .lst [FT, .tup q1, .tup q2, .tup q3, .tup q5]] := by
          unfold oSome
          simp [n6]
        have hQ := hP6
        rw [← td6] at hQ
        generalize D6.map D.str = M6 at *
        simp [on, oc, os, k6, sl, t3, t4, bt, z1, a1, a2, cc, z6, ← hQ]
      refine stN (S' := [c7, .lst L]) (e := [some (.int cell), some (.int (k0 : Nat)), some (.loc 0), some (.lst (ns.map .str)), some FT, some FR, some (.loc 1), none, none, none, none, none, none]) ?_ ?_
      · have os : oSome (eOp opAdd (eC (.int 5)) (eCall d__law_next (lCons (eVar 2) (lCons (eC (.int 2)) lNil)))) [some (.int cell), some (.int (k0 : Nat)), some (.loc 0), some (.lst (ns.map .str)), some FT, some FR, some (.loc 1), none, none, none, none, none, none] [c6, .lst [FT, .tup q1, .tup q2, .tup q3, .tup q5, .tup P6]] = .ok (some (5 + (j7 : Int))) [c7, .lst [FT, .tup q1, .tup q2, .tup q3, .tup q5, .tup P6]] := by
          unfold oSome
          simp [n7]
        rw [hL]
        have hQ := hP7
        rw [← td7] at hQ
        generalize D7.map D.str = M7 at *
        simp [on, oc, os, k7, sl, t2, t33, bt, z1, a3, a4, cc, z7, ← hQ]
      refine stN (S' := [c8, .lst L]) (e := bE (some (.int cell)) (some (.int (k0 : Nat))) (some (.lst (ns.map .str))) f (some (.loc 1)) b7 b8 b9 b10 b11) ?_ ?_
      · have it : itemsS (.loc 1) [c7, .lst L] = some (some 1, L) := rfl
        rw [sForX_is, eVar_at (d := .loc 1) rfl]
        simp only [ER.bindS_ok, it]
        exact e8
      · rfl
    unfold d__law_right
    simp [part1, startD]
theorem law_true (ns : List Int) (h : ns.length ≤ 63) : ∃ S, d_law [.lst (ns.map .int)] [] = .ok (.bl true) S := by
  have e3 : (ns.map D.int ++ [.int 3]) = (ns ++ [3]).map D.int := by simp
  have hl : (cutD (ns ++ [3]) none (some (maxII 1 (minII 16 (ns.length : Int))))).length ≤ 100 := Nat.le_trans (cut_len _ _ _) (by simp; omega)
  obtain ⟨e', he⟩ := law_loop (S := []) (b := bTup (bCons (bName 1) (bCons (bName 2) bNil))) (body := g_law_b1) (e := [some (.lst (ns.map D.int)), none, none])
    (fun e => ∃ a b, e = [some (.lst (ns.map D.int)), a, b]) (cutD (ns ++ [3]) none (some (maxII 1 (minII 16 (ns.length : Int))))) ⟨_, _, rfl⟩ (by
      rintro i c e hi ⟨a, b, rfl⟩
      have hr := right_ok c (k0 := i) (by omega)
      refine ⟨[some (.lst (ns.map D.int)), some (.int (i : Nat)), some (.int c)], [some (.lst (ns.map D.int)), some (.int (i : Nat)), some (.int c)], rfl, ?_, _, _, rfl⟩
      simp [g_law_b1, hr])
  unfold d_law g_law
  refine ⟨[], ?_⟩
  have e4 : cutD (ns.map D.int ++ [.int 3]) none (some (maxII 1 (minII 16 (ns.length : Int)))) = (cutD (ns ++ [3]) none (some (maxII 1 (minII 16 (ns.length : Int))))).map D.int := by rw [e3, cut_map]
  have hz : sz (ns.length + 1) := sz_is (by omega)
  simp [hz, e4, he]
end DW.K06
end
section
namespace DW.K06
open PySem L2 DO 
open DL hiding g__law_places_e1 g__law_places_c1 g__law_places_b1 g__law_places d__law_places g__law_strange d__law_strange
def top (i : Nat) : Stmt := PySem.Challenge.pw_rolltally_k06_races_changed_anywhere.main.body.getD i (.Pass ⟨0, 0, 0, 0⟩)
structure Txt (K : PySem.W.Frag) (mg : Str → Option Value) (ca ce : Str → Option Addr) (w : World) : Prop where
  own : ∀ c C, ca c = some C → OwnC K C
  b_ValueError : mg "ValueError" = none
  b_all : mg "all" = none
  b_bool : mg "bool" = none
  b_dict : mg "dict" = none
  b_enumerate : mg "enumerate" = none
  b_int : mg "int" = none
  b_isinstance : mg "isinstance" = none
  b_len : mg "len" = none
  b_list : mg "list" = none
  b_max : mg "max" = none
  b_min : mg "min" = none
  b_range : mg "range" = none
  b_set : mg "set" = none
  b_str : mg "str" = none
  b_tuple : mg "tuple" = none
  g_LETTERS : ∃ t, mg "LETTERS" = some (.str "abcdefghijklmnopqrstuvwxyz" t)
  g_MOST_CHOICES : ∃ t, mg "MOST_CHOICES" = some (.int (5) t)
  g_MOST_DISTRICTS : ∃ t, mg "MOST_DISTRICTS" = some (.int (6) t)
  g_MOST_LETTERS : ∃ t, mg "MOST_LETTERS" = some (.int (8) t)
  g_KINDS : ∃ a, mg "KINDS" = some (.ref a) ∧ KTup K a (([.str "one", .str "any", .str "rank"] : List D).map dV)
  g_RANK_WAYS : ∃ a, mg "RANK_WAYS" = some (.ref a) ∧ KTup K a (([.str "runoff", .str "pairs", .str "share"] : List D).map dV)
  fl_by : FldOk ⟨K, ca, ce⟩ "by" ["Race"]
  fl_choices : FldOk ⟨K, ca, ce⟩ "choices" ["Race"]
  fl_districts : FldOk ⟨K, ca, ce⟩ "districts" ["Race"]
  fl_kind : FldOk ⟨K, ca, ce⟩ "kind" ["Race"]
  fl_name : FldOk ⟨K, ca, ce⟩ "name" ["Place", "Race"]
  fl_seats : FldOk ⟨K, ca, ce⟩ "seats" ["Race"]
  is_bool : IsT ⟨K, ca, ce⟩ (.type "bool") (tabB .bool)
  is_dict : IsT ⟨K, ca, ce⟩ (.type "dict") (tabB .dict)
  is_int : IsT ⟨K, ca, ce⟩ (.type "int") (tabB .int)
  is_list : IsT ⟨K, ca, ce⟩ (.type "list") (tabB .list)
  is_str : IsT ⟨K, ca, ce⟩ (.type "str") (tabB .str)
  is_tuple : IsT ⟨K, ca, ce⟩ (.type "tuple") (tabB .tuple)
  is_Race : ∃ C, mg "Race" = some (.ref C) ∧ IsT ⟨K, ca, ce⟩ (.ref C) (tabO "Race")
  x_NoRace : ExcR ⟨K, ca, ce⟩ mg "NoRace"
  t_VoteError : ∃ C, mg "VoteError" = some (.ref C) ∧ ∀ cn C1, ce cn = some C1 → PySem.W.exmOne K (.ref C1) (.ref C) = some ((fun _ => true) cn)
  e_NoBits : ∃ C, mg "NoBits" = some (.ref C) ∧ IsTE ⟨K, ca, ce⟩ (.ref C) (tabX (fun c => decide (c = "NoBits")))
  e_NoChain : ∃ C, mg "NoChain" = some (.ref C) ∧ IsTE ⟨K, ca, ce⟩ (.ref C) (tabX (fun c => decide (c = "NoChain")))
  e_NoCode : ∃ C, mg "NoCode" = some (.ref C) ∧ IsTE ⟨K, ca, ce⟩ (.ref C) (tabX (fun c => decide (c = "NoCode")))
  e_NoCount : ∃ C, mg "NoCount" = some (.ref C) ∧ IsTE ⟨K, ca, ce⟩ (.ref C) (tabX (fun c => decide (c = "NoCount")))
  e_NoDay : ∃ C, mg "NoDay" = some (.ref C) ∧ IsTE ⟨K, ca, ce⟩ (.ref C) (tabX (fun c => decide (c = "NoDay")))
  e_NoLetter : ∃ C, mg "NoLetter" = some (.ref C) ∧ IsTE ⟨K, ca, ce⟩ (.ref C) (tabX (fun c => decide (c = "NoLetter")))
  e_NoLot : ∃ C, mg "NoLot" = some (.ref C) ∧ IsTE ⟨K, ca, ce⟩ (.ref C) (tabX (fun c => decide (c = "NoLot")))
  e_NoMark : ∃ C, mg "NoMark" = some (.ref C) ∧ IsTE ⟨K, ca, ce⟩ (.ref C) (tabX (fun c => decide (c = "NoMark")))
  e_NoName : ∃ C, mg "NoName" = some (.ref C) ∧ IsTE ⟨K, ca, ce⟩ (.ref C) (tabX (fun c => decide (c = "NoName")))
  e_NoPhase : ∃ C, mg "NoPhase" = some (.ref C) ∧ IsTE ⟨K, ca, ce⟩ (.ref C) (tabX (fun c => decide (c = "NoPhase")))
  e_NoPlace : ∃ C, mg "NoPlace" = some (.ref C) ∧ IsTE ⟨K, ca, ce⟩ (.ref C) (tabX (fun c => decide (c = "NoPlace")))
  e_NoRace : ∃ C, mg "NoRace" = some (.ref C) ∧ IsTE ⟨K, ca, ce⟩ (.ref C) (tabX (fun c => decide (c = "NoRace")))
  e_NoRow : ∃ C, mg "NoRow" = some (.ref C) ∧ IsTE ⟨K, ca, ce⟩ (.ref C) (tabX (fun c => decide (c = "NoRow")))
  e_NoRuling : ∃ C, mg "NoRuling" = some (.ref C) ∧ IsTE ⟨K, ca, ce⟩ (.ref C) (tabX (fun c => decide (c = "NoRuling")))
  e_NoStub : ∃ C, mg "NoStub" = some (.ref C) ∧ IsTE ⟨K, ca, ce⟩ (.ref C) (tabX (fun c => decide (c = "NoStub")))
  e_NoText : ∃ C, mg "NoText" = some (.ref C) ∧ IsTE ⟨K, ca, ce⟩ (.ref C) (tabX (fun c => decide (c = "NoText")))
  e_NoTime : ∃ C, mg "NoTime" = some (.ref C) ∧ IsTE ⟨K, ca, ce⟩ (.ref C) (tabX (fun c => decide (c = "NoTime")))
  e_NoWay : ∃ C, mg "NoWay" = some (.ref C) ∧ IsTE ⟨K, ca, ce⟩ (.ref C) (tabX (fun c => decide (c = "NoWay")))
  e_NotThere : ∃ C, mg "NotThere" = some (.ref C) ∧ IsTE ⟨K, ca, ce⟩ (.ref C) (tabX (fun c => decide (c = "NotThere")))
  e_NotWhole : ∃ C, mg "NotWhole" = some (.ref C) ∧ IsTE ⟨K, ca, ce⟩ (.ref C) (tabX (fun c => decide (c = "NotWhole")))
  e_Twice : ∃ C, mg "Twice" = some (.ref C) ∧ IsTE ⟨K, ca, ce⟩ (.ref C) (tabX (fun c => decide (c = "Twice")))
  e_VoteError : ∃ C, mg "VoteError" = some (.ref C) ∧ IsTE ⟨K, ca, ce⟩ (.ref C) (tabX (fun _ => true))
  xd : ∀ c C, ce c = some C → ExcD K C
  v_ValueError : IsTE ⟨K, ca, ce⟩ (.type "ValueError") (tabX (fun _ => true))
section
variable {P : Program} {w : World} {K : PySem.W.Frag} {ca ce : Str → Option Addr} {mg : Str → Option Value} {base : Heap}
abbrev s__law_begun : Stmt := top 39
theorem sc__law_begun : FnScope ["_law_cell", "_law_k", "_law_seed"] ["_law_cell", "_law_k"] (defScope s__law_begun) := ⟨rfl, rfl, rfl, by decide +kernel, rfl, by decide +kernel, by decide +kernel⟩
theorem ok__law_begun {f : Addr} {fd : FuncData} (F : Fun K "_law_begun" "_law_begun" s__law_begun f fd) (T : Txt K mg ca ce w)  : FnG P w K mg base (L2.CX P w) 1 f fd ["_law_cell", "_law_k"] (spD ⟨K, ca, ce⟩ 2 d__law_begun) :=
fnG (G := ⟨K, ca, ce⟩) (N := ["_law_cell", "_law_k", "_law_seed"]) .keep F sc__law_begun fun cdv A outer s H E hr tk po gd =>
(dss_cons (ds_set (i := 2) sc__law_begun.nd rfl (Or.inl rfl) (de_op (do_add rfl) de_int (de_op do_mod (de_op do_pow (de_op (do_add rfl) (de_op (do_add rfl) (de_op do_mul (de_op do_mod (de_var 0) de_int) de_int) (de_op do_mul de_int (de_var 1))) de_int) de_int) de_int)))
(dss_cons (ds_if (dt_cmp do_ge (de_var 0) (de_op do_pow de_int de_int))
(dss_one (ds_ret (de_lstM (da_cons (de_op do_sub (de_var 0) (de_op do_pow de_int de_int)) (da_cons (de_var 2) (da_cons de_int da_nil))))))
dss_nil)
(dss_one (ds_ret (de_lstM (da_cons de_int (da_cons (de_var 2) (da_cons de_int da_nil))))))))

abbrev s__law_next : Stmt := top 40
theorem sc__law_next : FnScope ["_law_draw", "_law_size", "_law_found", "_law_mixed"] ["_law_draw", "_law_size"] (defScope s__law_next) := ⟨rfl, rfl, rfl, by decide +kernel, rfl, by decide +kernel, by decide +kernel⟩
theorem ok__law_next {f : Addr} {fd : FuncData} (F : Fun K "_law_next" "_law_next" s__law_next f fd) (T : Txt K mg ca ce w)  : FnG P w K mg base (L2.CX P w) 1 f fd ["_law_draw", "_law_size"] (spD ⟨K, ca, ce⟩ 2 d__law_next) :=
fnG (G := ⟨K, ca, ce⟩) (N := ["_law_draw", "_law_size", "_law_found", "_law_mixed"]) .keep F sc__law_next fun cdv A outer s H E hr tk po gd =>
(dss_cons (ds_if (dt_cmp do_gt (de_ixX rfl (units1 hr) (de_var 0) de_int) de_int)
(dss_cons (ds_set (i := 2) sc__law_next.nd rfl (Or.inl rfl) (de_op do_mod (de_ixX rfl (units1 hr) (de_var 0) de_int) (de_var 1)))
(dss_cons (ds_putX (units1 hr) (de_op do_fdiv (de_ixX rfl (units1 hr) (de_var 0) de_int) (de_var 1)) (de_var 0) de_int)
(dss_one (ds_ret (de_var 2)))))
dss_nil)
(dss_cons (ds_putX (units1 hr) (de_op (do_add rfl) (de_ixX rfl (units1 hr) (de_var 0) de_int) de_int) (de_var 0) de_int)
(dss_cons (ds_set (i := 3) sc__law_next.nd rfl (Or.inl rfl) (de_op do_mod (de_op do_pow (de_op (do_add rfl) (de_op (do_add rfl) (de_op do_mul (de_ixX rfl (units1 hr) (de_var 0) de_int) (de_op (do_add rfl) (de_op do_mul de_int (de_ixX rfl (units1 hr) (de_var 0) de_int)) de_int)) (de_op do_mul (de_op do_mul de_int (de_ixX rfl (units1 hr) (de_var 0) de_int)) (de_ixX rfl (units1 hr) (de_var 0) de_int))) de_int) de_int) de_int))
(dss_one (ds_ret (de_op do_mod (de_op do_fdiv (de_var 3) de_int) (de_var 1)))))))

abbrev s__law_names : Stmt := top 49
theorem sc__law_names : FnScope ["_law_draw", "_law_many", "_law_own", "_law_small", "_law_lead", "_law_turn", "_law_tails", "_law_k"] ["_law_draw", "_law_many"] (defScope s__law_names) := ⟨rfl, rfl, rfl, by decide +kernel, rfl, by decide +kernel, by decide +kernel⟩
theorem ok__law_names {f : Addr} {fd : FuncData} (F : Fun K "_law_names" "_law_names" s__law_names f fd) (T : Txt K mg ca ce w) (c__law_next : DefG ⟨K, ca, ce⟩ P w mg base 1 "_law_next" 2 d__law_next) : FnG P w K mg base (L2.CX P w) 2 f fd ["_law_draw", "_law_many"] (spD ⟨K, ca, ce⟩ 2 d__law_names) :=
fnG (G := ⟨K, ca, ce⟩) (N := ["_law_draw", "_law_many", "_law_own", "_law_small", "_law_lead", "_law_turn", "_law_tails", "_law_k"]) .keep F sc__law_names fun cdv A outer s H E hr tk po gd =>
(dss_cons (ds_set (i := 2) sc__law_names.nd rfl (Or.inl rfl) de_str)
(dss_cons (ds_set (i := 2) sc__law_names.nd rfl (Or.inl rfl) (de_meth PySem.F.plainAttrs_str PySem.F.slot_str_split PySem.F.type_str_split dm_split rfl (de_op (do_add rfl) (de_var 2) de_str) (da_cons de_str da_nil)))
(dss_cons (ds_set (i := 3) sc__law_names.nd rfl (Or.inr rfl) de_str)
(dss_cons (ds_asg (de_tup (da_cons (de_callG c__law_next gd rfl (hr.mono (by omega)) rfl tk (da_cons (de_var 0) (da_cons de_int da_nil)) rfl (la_cons (la_cons la_nil))) (da_cons (de_callG c__law_next gd rfl (hr.mono (by omega)) rfl tk (da_cons (de_var 0) (da_cons de_int da_nil)) rfl (la_cons (la_cons la_nil))) da_nil))) (dg_tup rfl rfl (dgs_cons (dg_name sc__law_names.nd rfl (by first | exact Or.inl rfl | exact Or.inr rfl)) (dgs_cons (dg_name sc__law_names.nd rfl (by first | exact Or.inl rfl | exact Or.inr rfl)) dgs_nil)) (blen_cons (blen_cons blen_nil))))
(dss_cons (ds_if (dt_cmp (do_eq rfl (units100 hr)) (de_callG c__law_next gd rfl (hr.mono (by omega)) rfl tk (da_cons (de_var 0) (da_cons de_int da_nil)) rfl (la_cons (la_cons la_nil))) de_int)
(dss_one (ds_ret (de_slice rfl (de_op (do_add rfl) (de_slice rfl (de_var 2) (do_some (de_var 4)) do_none) (de_slice rfl (de_var 2) do_none (do_some (de_var 4)))) do_none (do_some (de_var 1)))))
dss_nil)
(dss_cons (ds_set (i := 6) sc__law_names.nd rfl (Or.inr rfl) (de_lst (da_cons de_str (da_cons de_str (da_cons de_str (da_cons de_str (da_cons de_str (da_cons de_str da_nil))))))))
(dss_one (ds_ret (de_lc (own := [("_law_k", 7)]) rfl sc__law_names.nd (di_range1 rfl T.b_range (da_cons (de_var 1) da_nil)) (blkOk_by (N := ["_law_draw", "_law_many", "_law_own", "_law_small", "_law_lead", "_law_turn", "_law_tails", "_law_k"]) (sc := defScope s__law_names) (own := [("_law_k", 7)]) (by decide +kernel)) (fun _ _ _ _ _ => (dg_name sc__law_names.nd rfl (by first | exact Or.inl rfl | exact Or.inr rfl))) (fun _ _ _ _ _ => dts_nil) (fun _ _ _ _ _ => (de_op (do_add rfl) (de_ixX rfl (units1 hr) (de_var 3) (de_op do_mod (de_op (do_add rfl) (de_var 4) (de_op do_mul de_int (de_var 7))) de_int)) (de_ixX rfl (units1 hr) (de_var 6) (de_op do_mod (de_op (do_add rfl) (de_var 5) (de_op do_mul (de_var 7) (de_var 7))) de_int)))) (by decide))))))))))

abbrev s__law_pick : Stmt := top 41
theorem sc__law_pick : FnScope ["_law_draw", "_law_some"] ["_law_draw", "_law_some"] (defScope s__law_pick) := ⟨rfl, rfl, rfl, by decide +kernel, rfl, by decide +kernel, by decide +kernel⟩
theorem ok__law_pick {f : Addr} {fd : FuncData} (F : Fun K "_law_pick" "_law_pick" s__law_pick f fd) (T : Txt K mg ca ce w) (c__law_next : DefG ⟨K, ca, ce⟩ P w mg base 1 "_law_next" 2 d__law_next) : FnG P w K mg base (L2.CX P w) 2 f fd ["_law_draw", "_law_some"] (spD ⟨K, ca, ce⟩ 2 d__law_pick) :=
fnG (G := ⟨K, ca, ce⟩) (N := ["_law_draw", "_law_some"]) .keep F sc__law_pick fun cdv A outer s H E hr tk po gd =>
(dss_one (ds_ret (de_ixX rfl (units1 hr) (de_var 1) (de_callG c__law_next gd rfl (hr.mono (by omega)) rfl tk (da_cons (de_var 0) (da_cons (de_callB (dc_lenX rfl) rfl T.b_len (by decide +kernel) (da_cons (de_var 1) da_nil)) da_nil)) rfl (la_cons (la_cons la_nil))))))

abbrev s__law_shuffled : Stmt := top 42
theorem sc__law_shuffled : FnScope ["_law_draw", "_law_some", "_law_left", "_law_k"] ["_law_draw", "_law_some"] (defScope s__law_shuffled) := ⟨rfl, rfl, rfl, by decide +kernel, rfl, by decide +kernel, by decide +kernel⟩
theorem ok__law_shuffled {f : Addr} {fd : FuncData} (F : Fun K "_law_shuffled" "_law_shuffled" s__law_shuffled f fd) (T : Txt K mg ca ce w) (c__law_next : DefG ⟨K, ca, ce⟩ P w mg base 1 "_law_next" 2 d__law_next) : FnG P w K mg base (L2.CX P w) 2 f fd ["_law_draw", "_law_some"] (spD ⟨K, ca, ce⟩ 2 d__law_shuffled) :=
fnG (G := ⟨K, ca, ce⟩) (N := ["_law_draw", "_law_some", "_law_left", "_law_k"]) .pure F sc__law_shuffled fun cdv A outer s H E hr tk po gd =>
(dss_cons (ds_set (i := 2) sc__law_shuffled.nd rfl (Or.inr rfl) (de_callTy (dc_listXM rfl rfl) rfl T.b_list (by decide +kernel) (da_cons (de_var 1) da_nil)))
(dss_one (ds_ret (de_lc (own := [("_law_k", 3)]) rfl sc__law_shuffled.nd (di_range1 rfl T.b_range (da_cons (de_callB (dc_lenX rfl) rfl T.b_len (by decide +kernel) (da_cons (de_var 1) da_nil)) da_nil)) (blkOk_by (N := ["_law_draw", "_law_some", "_law_left", "_law_k"]) (sc := defScope s__law_shuffled) (own := [("_law_k", 3)]) (by decide +kernel)) (fun _ _ _ _ _ => (dg_name sc__law_shuffled.nd rfl (by first | exact Or.inl rfl | exact Or.inr rfl))) (fun _ _ _ _ _ => dts_nil) (fun _ _ _ _ _ => (de_meth PySem.F.plainAttrs_list PySem.F.slot_list_pop PySem.F.type_list_pop dm_popAt rfl (de_var 2) (da_cons (de_callG c__law_next gd rfl (hr.mono (by omega)) rfl takes0 (da_cons (de_var 0) (da_cons (de_callB (dc_lenX rfl) rfl T.b_len (by decide +kernel) (da_cons (de_var 2) da_nil)) da_nil)) rfl (la_cons (la_cons la_nil))) da_nil))) (by decide)))))

abbrev s__law_race_parts : Stmt := top 53
theorem sc__law_race_parts : FnScope ["_law_draw", "_law_names_here", "_law_districts", "_law_kind", "_law_choices", "_law_some", "_law_chosen", "_law_seats_many", "_law_one"] ["_law_draw", "_law_names_here", "_law_districts"] (defScope s__law_race_parts) := ⟨rfl, rfl, rfl, by decide +kernel, rfl, by decide +kernel, by decide +kernel⟩
theorem ok__law_race_parts {f : Addr} {fd : FuncData} (F : Fun K "_law_race_parts" "_law_race_parts" s__law_race_parts f fd) (T : Txt K mg ca ce w) (c__law_next : DefG ⟨K, ca, ce⟩ P w mg base 1 "_law_next" 2 d__law_next) (c__law_pick : DefG ⟨K, ca, ce⟩ P w mg base 2 "_law_pick" 2 d__law_pick) (c__law_shuffled : DefG ⟨K, ca, ce⟩ P w mg base 2 "_law_shuffled" 2 d__law_shuffled) : FnG P w K mg base (L2.CX P w) 3 f fd ["_law_draw", "_law_names_here", "_law_districts"] (spD ⟨K, ca, ce⟩ 3 d__law_race_parts) :=
fnG (G := ⟨K, ca, ce⟩) (N := ["_law_draw", "_law_names_here", "_law_districts", "_law_kind", "_law_choices", "_law_some", "_law_chosen", "_law_seats_many", "_law_one"]) .keep F sc__law_race_parts fun cdv A outer s H E hr tk po gd =>
(dss_cons (ds_set (i := 3) sc__law_race_parts.nd rfl (Or.inl rfl) (de_callG c__law_pick gd rfl (hr.mono (by omega)) rfl tk (da_cons (de_var 0) (da_cons (de_lst (da_cons de_str (da_cons de_str (da_cons de_str da_nil)))) da_nil)) rfl (la_cons (la_cons la_nil))))
(dss_cons (ds_set (i := 4) sc__law_race_parts.nd rfl (Or.inl rfl) (de_callTy (dc_tuple rfl) rfl T.b_tuple (by decide +kernel) (da_cons (de_slice rfl (de_callG c__law_shuffled gd rfl (hr.mono (by omega)) rfl tk (da_cons (de_var 0) (da_cons (de_slice rfl (de_var 1) (do_some de_int) (do_some de_int)) da_nil)) rfl (la_cons (la_cons la_nil))) do_none (do_some (de_op (do_add rfl) de_int (de_callG c__law_next gd rfl (hr.mono (by omega)) rfl tk (da_cons (de_var 0) (da_cons de_int da_nil)) rfl (la_cons (la_cons la_nil)))))) da_nil)))
(dss_cons (ds_setLc (own := [("_law_one", 8)]) (i := 5) rfl sc__law_race_parts.nd (di_seq rfl (de_var 2)) (blkOk_by (N := ["_law_draw", "_law_names_here", "_law_districts", "_law_kind", "_law_choices", "_law_some", "_law_chosen", "_law_seats_many", "_law_one"]) (sc := defScope s__law_race_parts) (own := [("_law_one", 8)]) (by decide +kernel)) (fun _ _ _ _ _ => (dg_name sc__law_race_parts.nd rfl (by first | exact Or.inl rfl | exact Or.inr rfl))) (fun _ _ _ _ _ => (dts_one (dt_cmp do_gt (de_callG c__law_next gd rfl (hr.mono (by omega)) rfl takes0 (da_cons (de_var 0) (da_cons de_int da_nil)) rfl (la_cons (la_cons la_nil))) de_int))) (fun _ _ _ _ _ => (de_var 8)) (by decide) rfl rfl (sw_true rfl rfl rfl (by decide +kernel)))
(dss_cons (ds_set (i := 6) sc__law_race_parts.nd rfl (Or.inl rfl) (de_if (dt_cmp (do_eq rfl (units100 hr)) (de_var 3) de_str) (de_callG c__law_pick gd rfl (hr.mono (by omega)) rfl tk (da_cons (de_var 0) (da_cons (de_lst (da_cons de_str (da_cons de_str (da_cons de_str da_nil)))) da_nil)) rfl (la_cons (la_cons la_nil))) de_str))
(dss_cons (ds_set (i := 7) sc__law_race_parts.nd rfl (Or.inl rfl) (de_if (dt_cmp (do_in rfl (units65 hr)) (de_var 6) (de_lst (da_cons de_str (da_cons de_str da_nil)))) de_int (de_op (do_add rfl) de_int (de_callG c__law_next gd rfl (hr.mono (by omega)) rfl tk (da_cons (de_var 0) (da_cons (de_callB (dc_lenX rfl) rfl T.b_len (by decide +kernel) (da_cons (de_var 4) da_nil)) da_nil)) rfl (la_cons (la_cons la_nil))))))
(dss_one (ds_ret (de_tup (da_cons (de_ixX rfl (units1 hr) (de_var 1) de_int) (da_cons (de_var 3) (da_cons (de_var 4) (da_cons (de_callTy (dc_tuple rfl) rfl T.b_tuple (by decide +kernel) (da_cons (de_if (dt_cmp (do_ne rfl (units100 hr)) (de_var 5) (de_lst da_nil)) (de_var 5) (de_slice rfl (de_var 2) do_none (do_some de_int))) da_nil)) (da_cons (de_var 7) (da_cons (de_var 6) da_nil))))))))))))))

abbrev s_is_name : Stmt := top 26
theorem sc_is_name : FnScope ["thing", "sign"] ["thing"] (defScope s_is_name) := ⟨rfl, rfl, rfl, by decide +kernel, rfl, by decide +kernel, by decide +kernel⟩
theorem ok_is_name {f : Addr} {fd : FuncData} (F : Fun K "is_name" "is_name" s_is_name f fd) (T : Txt K mg ca ce w)  : FnG P w K mg base (L2.CX P w) 1 f fd ["thing"] (spD ⟨K, ca, ce⟩ 1 d_is_name) :=
fnG (G := ⟨K, ca, ce⟩) (N := ["thing", "sign"]) .pure F sc_is_name fun cdv A outer s H E hr tk po gd =>
(dss_cons (ds_if (DW.t (dw_or (dt_not (dt_val (de_isC rfl T.own T.is_str (cn_ty rfl T.b_str (by decide +kernel)) rfl T.b_isinstance (de_var 0)))) (dw_or1 (dt_not (dt_chain do_le do_le de_int (de_callB (dc_lenX rfl) rfl T.b_len (by decide +kernel) (da_cons (de_var 0) da_nil)) (de_gInt T.g_MOST_LETTERS rfl))))))
(dss_one (ds_ret de_bl))
dss_nil)
(dss_one (ds_ret (de_callB (dc_all rfl rfl) rfl T.b_all (by decide +kernel) (da_cons (de_lc (own := [("sign", 1)]) rfl sc_is_name.nd (di_seq rfl (de_var 0)) (blkOk_by (N := ["thing", "sign"]) (sc := defScope s_is_name) (own := [("sign", 1)]) (by decide +kernel)) (fun _ _ _ _ _ => (dg_name sc_is_name.nd rfl (by first | exact Or.inl rfl | exact Or.inr rfl))) (fun _ _ _ _ _ => dts_nil) (fun _ _ _ _ _ => (de_cmp (do_in rfl (units65 hr)) (de_var 1) (de_gStr T.g_LETTERS rfl))) (by decide)) da_nil)))))

abbrev s_are_unlike_names : Stmt := top 29
theorem sc_are_unlike_names : FnScope ["thing", "least", "most", "one"] ["thing", "least", "most"] (defScope s_are_unlike_names) := ⟨rfl, rfl, rfl, by decide +kernel, rfl, by decide +kernel, by decide +kernel⟩
theorem ok_are_unlike_names {f : Addr} {fd : FuncData} (F : Fun K "are_unlike_names" "are_unlike_names" s_are_unlike_names f fd) (T : Txt K mg ca ce w) (c_is_name : DefG ⟨K, ca, ce⟩ P w mg base 1 "is_name" 1 d_is_name) : FnG P w K mg base (L2.CX P w) 2 f fd ["thing", "least", "most"] (spD ⟨K, ca, ce⟩ 3 d_are_unlike_names) :=
fnG (G := ⟨K, ca, ce⟩) (N := ["thing", "least", "most", "one"]) .pure F sc_are_unlike_names fun cdv A outer s H E hr tk po gd =>
(dss_cons (ds_if (DW.t (dw_or (dt_not (dt_val (de_isC rfl T.own T.is_tuple (cn_ty rfl T.b_tuple (by decide +kernel)) rfl T.b_isinstance (de_var 0)))) (dw_or (dt_not (dt_chain do_le do_le (de_var 1) (de_callB (dc_lenX rfl) rfl T.b_len (by decide +kernel) (da_cons (de_var 0) da_nil)) (de_var 2))) (dw_or1 (dt_not (dt_val (de_callB (dc_all rfl rfl) rfl T.b_all (by decide +kernel) (da_cons (de_lc (own := [("one", 3)]) rfl sc_are_unlike_names.nd (di_seq rfl (de_var 0)) (blkOk_by (N := ["thing", "least", "most", "one"]) (sc := defScope s_are_unlike_names) (own := [("one", 3)]) (by decide +kernel)) (fun _ _ _ _ _ => (dg_name sc_are_unlike_names.nd rfl (by first | exact Or.inl rfl | exact Or.inr rfl))) (fun _ _ _ _ _ => dts_nil) (fun _ _ _ _ _ => (de_callG c_is_name gd rfl (hr.mono (by omega)) rfl takes0 (da_cons (de_var 3) da_nil) rfl (la_cons la_nil))) (by decide)) da_nil))))))))
(dss_one (ds_ret de_bl))
dss_nil)
(dss_one (ds_ret (de_cmp (do_eq rfl (units100 hr)) (de_lenSet rfl rfl rfl T.b_len rfl T.b_set (de_var 0)) (de_callB (dc_lenX rfl) rfl T.b_len (by decide +kernel) (da_cons (de_var 0) da_nil))))))

abbrev s_is_one_of : Stmt := top 35
theorem sc_is_one_of : FnScope ["thing", "some"] ["thing", "some"] (defScope s_is_one_of) := ⟨rfl, rfl, rfl, by decide +kernel, rfl, by decide +kernel, by decide +kernel⟩
theorem ok_is_one_of {f : Addr} {fd : FuncData} (F : Fun K "is_one_of" "is_one_of" s_is_one_of f fd) (T : Txt K mg ca ce w)  : FnG P w K mg base (L2.CX P w) 1 f fd ["thing", "some"] (spD ⟨K, ca, ce⟩ 2 d_is_one_of) :=
fnG (G := ⟨K, ca, ce⟩) (N := ["thing", "some"]) .pure F sc_is_one_of fun cdv A outer s H E hr tk po gd =>
(dss_one (ds_ret (de_and (de_isC rfl T.own T.is_str (cn_ty rfl T.b_str (by decide +kernel)) rfl T.b_isinstance (de_var 0)) (de_one (de_cmp (do_in rfl (units65 hr)) (de_var 0) (de_var 1))))))

abbrev s_is_whole : Stmt := top 27
theorem sc_is_whole : FnScope ["thing"] ["thing"] (defScope s_is_whole) := ⟨rfl, rfl, rfl, by decide +kernel, rfl, by decide +kernel, by decide +kernel⟩
theorem ok_is_whole {f : Addr} {fd : FuncData} (F : Fun K "is_whole" "is_whole" s_is_whole f fd) (T : Txt K mg ca ce w)  : FnG P w K mg base (L2.CX P w) 1 f fd ["thing"] (spD ⟨K, ca, ce⟩ 1 d_is_whole) :=
fnG (G := ⟨K, ca, ce⟩) (N := ["thing"]) .pure F sc_is_whole fun cdv A outer s H E hr tk po gd =>
(dss_one (ds_ret (de_and (de_isC rfl T.own T.is_int (cn_ty rfl T.b_int (by decide +kernel)) rfl T.b_isinstance (de_var 0)) (de_one (de_not (de_isC rfl T.own T.is_bool (cn_ty rfl T.b_bool (by decide +kernel)) rfl T.b_isinstance (de_var 0)))))))

abbrev s_is_between : Stmt := top 28
theorem sc_is_between : FnScope ["thing", "least", "most"] ["thing", "least", "most"] (defScope s_is_between) := ⟨rfl, rfl, rfl, by decide +kernel, rfl, by decide +kernel, by decide +kernel⟩
theorem ok_is_between {f : Addr} {fd : FuncData} (F : Fun K "is_between" "is_between" s_is_between f fd) (T : Txt K mg ca ce w) (c_is_whole : DefG ⟨K, ca, ce⟩ P w mg base 1 "is_whole" 1 d_is_whole) : FnG P w K mg base (L2.CX P w) 2 f fd ["thing", "least", "most"] (spD ⟨K, ca, ce⟩ 3 d_is_between) :=
fnG (G := ⟨K, ca, ce⟩) (N := ["thing", "least", "most"]) .pure F sc_is_between fun cdv A outer s H E hr tk po gd =>
(dss_one (ds_ret (de_and (de_callG c_is_whole gd rfl (hr.mono (by omega)) rfl tk (da_cons (de_var 0) da_nil) rfl (la_cons la_nil)) (de_one (de_chain do_le do_le (de_var 1) (de_var 0) (de_var 2))))))

abbrev s_is_way : Stmt := top 36
theorem sc_is_way : FnScope ["kind", "by", "seats"] ["kind", "by", "seats"] (defScope s_is_way) := ⟨rfl, rfl, rfl, by decide +kernel, rfl, by decide +kernel, by decide +kernel⟩
theorem ok_is_way {f : Addr} {fd : FuncData} (F : Fun K "is_way" "is_way" s_is_way f fd) (T : Txt K mg ca ce w) (c_is_one_of : DefG ⟨K, ca, ce⟩ P w mg base 1 "is_one_of" 2 d_is_one_of) : FnG P w K mg base (L2.CX P w) 2 f fd ["kind", "by", "seats"] (spD ⟨K, ca, ce⟩ 3 d_is_way) :=
fnG (G := ⟨K, ca, ce⟩) (N := ["kind", "by", "seats"]) .pure F sc_is_way fun cdv A outer s H E hr tk po gd =>
(dss_cons (ds_if (dt_cmp (do_ne rfl (units100 hr)) (de_var 0) de_str)
(dss_one (ds_ret (de_and (de_isC rfl T.own T.is_str (cn_ty rfl T.b_str (by decide +kernel)) rfl T.b_isinstance (de_var 1)) (de_one (de_cmp (do_eq rfl (units100 hr)) (de_var 1) de_str)))))
dss_nil)
(dss_one (ds_ret (de_and (de_callG c_is_one_of gd rfl (hr.mono (by omega)) rfl tk (da_cons (de_var 1) (da_cons (de_gTup T.g_RANK_WAYS (.cons rfl (.cons rfl (.one rfl))) rfl) da_nil)) rfl (la_cons (la_cons la_nil))) (de_one (de_or (de_cmp (do_eq rfl (units100 hr)) (de_var 1) de_str) (de_one (de_cmp (do_eq rfl (units100 hr)) (de_var 2) de_int))))))))

abbrev s_Race_init : Stmt := inClass (top 37) 0
theorem sc_Race_init : FnScope ["self", "name", "kind", "choices", "districts", "seats", "by"] ["self", "name", "kind", "choices", "districts", "seats", "by"] (defScope s_Race_init) := ⟨rfl, rfl, rfl, by decide +kernel, rfl, by decide +kernel, by decide +kernel⟩
theorem ok_Race_init {f : Addr} {fd : FuncData} (F : FunD K "__init__" "Race.__init__" (defArgs s_Race_init) (defBody s_Race_init) (defScope s_Race_init) [] [("seats", .int (1)), ("by", .str "")] f fd) (T : Txt K mg ca ce w) (c_are_unlike_names : DefG ⟨K, ca, ce⟩ P w mg base 2 "are_unlike_names" 3 d_are_unlike_names) (c_is_one_of : DefG ⟨K, ca, ce⟩ P w mg base 1 "is_one_of" 2 d_is_one_of) (c_is_between : DefG ⟨K, ca, ce⟩ P w mg base 2 "is_between" 3 d_is_between) (c_is_way : DefG ⟨K, ca, ce⟩ P w mg base 2 "is_way" 3 d_is_way) : FnG P w K mg base (L2.CX P w) 3 f fd ["self", "name", "kind", "choices", "districts", "seats", "by"] (spD ⟨K, ca, ce⟩ 7 d_Race_init) :=
fnGD (G := ⟨K, ca, ce⟩) (N := ["self", "name", "kind", "choices", "districts", "seats", "by"]) (k := 2) (g := g_Race_init) .pure F sc_Race_init fun cdv A outer s H E hr tk po gd =>
(dss_cons (ds_if (DW.t (dw_or (dt_not (dt_val (de_callG c_are_unlike_names gd rfl (hr.mono (by omega)) rfl tk (da_cons (de_tup (da_cons (de_var 1) da_nil)) (da_cons de_int (da_cons de_int da_nil))) rfl (la_cons (la_cons (la_cons la_nil)))))) (dw_or1 (dt_not (dt_val (de_callG c_is_one_of gd rfl (hr.mono (by omega)) rfl tk (da_cons (de_var 2) (da_cons (de_gTup T.g_KINDS (.cons rfl (.cons rfl (.one rfl))) rfl) da_nil)) rfl (la_cons (la_cons la_nil))))))))
(dss_one (ds_raise rfl rfl tk T.x_NoRace (by rfl)))
dss_nil)
(dss_cons (ds_if (DW.t (dw_or (dt_not (dt_val (de_callG c_are_unlike_names gd rfl (hr.mono (by omega)) rfl tk (da_cons (de_var 3) (da_cons de_int (da_cons (de_gInt T.g_MOST_CHOICES rfl) da_nil))) rfl (la_cons (la_cons (la_cons la_nil)))))) (dw_or1 (dt_not (dt_val (de_callG c_are_unlike_names gd rfl (hr.mono (by omega)) rfl tk (da_cons (de_var 4) (da_cons de_int (da_cons (de_gInt T.g_MOST_DISTRICTS rfl) da_nil))) rfl (la_cons (la_cons (la_cons la_nil)))))))))
(dss_one (ds_raise rfl rfl tk T.x_NoRace (by rfl)))
dss_nil)
(dss_cons (ds_if (DW.t (dw_or (dt_not (dt_val (de_callG c_is_between gd rfl (hr.mono (by omega)) rfl tk (da_cons (de_var 5) (da_cons de_int (da_cons (de_callB (dc_lenX rfl) rfl T.b_len (by decide +kernel) (da_cons (de_var 3) da_nil)) da_nil))) rfl (la_cons (la_cons (la_cons la_nil)))))) (dw_or1 (dt_not (dt_val (de_callG c_is_way gd rfl (hr.mono (by omega)) rfl tk (da_cons (de_var 2) (da_cons (de_var 6) (da_cons (de_var 5) da_nil))) rfl (la_cons (la_cons (la_cons la_nil)))))))))
(dss_one (ds_raise rfl rfl tk T.x_NoRace (by rfl)))
dss_nil)
(dss_cons (ds_fldC rfl T.fl_name (de_var 1) (de_var 0))
(dss_cons (ds_fldC rfl T.fl_kind (de_var 2) (de_var 0))
(dss_cons (ds_fldC rfl T.fl_choices (de_var 3) (de_var 0))
(dss_cons (ds_fldC rfl T.fl_districts (de_var 4) (de_var 0))
(dss_cons (ds_fldC rfl T.fl_seats (de_var 5) (de_var 0))
(dss_one (ds_fldC rfl T.fl_by (de_var 6) (de_var 0)))))))))))

abbrev s__law_race : Stmt := top 54
theorem sc__law_race : FnScope ["_law_parts"] ["_law_parts"] (defScope s__law_race) := ⟨rfl, rfl, rfl, by decide +kernel, rfl, by decide +kernel, by decide +kernel⟩
theorem ok__law_race {f : Addr} {fd : FuncData} (F : Fun K "_law_race" "_law_race" s__law_race f fd) (T : Txt K mg ca ce w) (c_Race__mk4_seats_by : ClsKN ⟨K, ca, ce⟩ P w mg base 3 "Race" 4 ["seats", "by"] 7 (fun ds es => ds ++ pk [.inr 0, .inr 1] [] es) d_Race_init) : FnG P w K mg base (L2.CX P w) 5 f fd ["_law_parts"] (spD ⟨K, ca, ce⟩ 1 d__law_race) :=
fnG (G := ⟨K, ca, ce⟩) (N := ["_law_parts"]) .pure F sc__law_race fun cdv A outer s H E hr tk po gd =>
(dss_one (ds_ret (de_makeKN c_Race__mk4_seats_by gd rfl (hr.mono (by omega)) rfl tk (da_cons (de_ixX rfl (units1 hr) (de_var 0) de_int) (da_cons (de_ixX rfl (units1 hr) (de_var 0) de_int) (da_cons (de_ixX rfl (units1 hr) (de_var 0) de_int) (da_cons (de_ixX rfl (units1 hr) (de_var 0) de_int) da_nil)))) (dk_cons (de_ixX rfl (units1 hr) (de_var 0) de_int) (dk_cons (de_ixX rfl (units1 hr) (de_var 0) de_int) dk_nil)) (la_cons (la_cons (la_cons (la_cons la_nil)))) (la_cons (la_cons la_nil)))))

abbrev s__law_with : Stmt := top 46
theorem sc__law_with : FnScope ["_law_thing", "_law_place", "_law_other", "_law_k"] ["_law_thing", "_law_place", "_law_other"] (defScope s__law_with) := ⟨rfl, rfl, rfl, by decide +kernel, rfl, by decide +kernel, by decide +kernel⟩
theorem ok__law_with {f : Addr} {fd : FuncData} (F : Fun K "_law_with" "_law_with" s__law_with f fd) (T : Txt K mg ca ce w) (hm : mg "_law_with" = some (.ref f)) (hk : PySem.W.keepIn K (.ref f) = true) (hb : Binds K fd ["_law_thing", "_law_place", "_law_other"] [])  : ∀ n : Nat, FnG P w K mg base (L2.CX P w) (n + 1) f fd ["_law_thing", "_law_place", "_law_other"] (spD ⟨K, ca, ce⟩ 3 (d__law_with_n n))
  | 0 => fnG (G := ⟨K, ca, ce⟩) (N := ["_law_thing", "_law_place", "_law_other", "_law_k"]) (k := 0) .pure F sc__law_with fun cdv A outer s H E hr tk po gd => dss_nev
  | n + 1 => by
    have c__law_with : DefG ⟨K, ca, ce⟩ P w mg base (n + 1) "_law_with" 3 (d__law_with_n n) := ⟨⟨f, fd, ["_law_thing", "_law_place", "_law_other"], ok__law_with F T hm hk hb  n, hm, hk, hb⟩⟩
    exact fnG (G := ⟨K, ca, ce⟩) (N := ["_law_thing", "_law_place", "_law_other", "_law_k"]) (k := n + 1) .pure F sc__law_with fun cdv A outer s H E hr tk po gd =>
(dss_cons (ds_if (dt_cmp (do_eq rfl (units100 hr)) (de_var 1) (de_tup da_nil))
(dss_one (ds_ret (de_var 2)))
dss_nil)
(dss_cons (ds_set (i := 3) sc__law_with.nd rfl (Or.inl rfl) (de_ixX rfl (units1 hr) (de_var 1) de_int))
(dss_one (ds_ret (de_op (do_add rfl) (de_op (do_add rfl) (de_slice rfl (de_var 0) do_none (do_some (de_var 3))) (de_tup (da_cons (de_callG c__law_with gd rfl (hr.mono (by omega)) rfl tk (da_cons (de_ixX rfl (units1 hr) (de_var 0) (de_var 3)) (da_cons (de_slice rfl (de_var 1) (do_some de_int) do_none) (da_cons (de_var 2) da_nil))) rfl (la_cons (la_cons (la_cons la_nil)))) da_nil))) (de_slice rfl (de_var 0) (do_some (de_op (do_add rfl) (de_var 3) de_int)) do_none))))))

abbrev s__law_strange : Stmt := top 51
theorem sc__law_strange : FnScope ["_law_draw", "_law_one", "_law_some"] ["_law_draw", "_law_one"] (defScope s__law_strange) := ⟨rfl, rfl, rfl, by decide +kernel, rfl, by decide +kernel, by decide +kernel⟩
theorem ok__law_strange {f : Addr} {fd : FuncData} (F : Fun K "_law_strange" "_law_strange" s__law_strange f fd) (T : Txt K mg ca ce w) (c__law_pick : DefG ⟨K, ca, ce⟩ P w mg base 2 "_law_pick" 2 d__law_pick) : FnG P w K mg base (L2.CX P w) 3 f fd ["_law_draw", "_law_one"] (spD ⟨K, ca, ce⟩ 2 d__law_strange) :=
fnG (G := ⟨K, ca, ce⟩) (N := ["_law_draw", "_law_one", "_law_some"]) .pure F sc__law_strange fun cdv A outer s H E hr tk po gd =>
(dss_cons (ds_set (i := 2) sc__law_strange.nd rfl (Or.inl rfl) (de_lst (da_cons de_non (da_cons de_bl (da_cons de_bl (da_cons de_int (da_cons (de_negB de_int) (da_cons de_int (da_cons de_int (da_cons de_int (da_cons de_int (da_cons de_int (da_cons de_int (da_cons de_str (da_cons de_str (da_cons de_str (da_cons de_str (da_cons de_str (da_cons de_str (da_cons (de_tup da_nil) da_nil))))))))))))))))))))
(dss_cons (ds_if (dt_val (de_isC rfl T.own T.is_str (cn_ty rfl T.b_str (by decide +kernel)) rfl T.b_isinstance (de_var 1)))
(dss_one (ds_set (i := 2) sc__law_strange.nd rfl (Or.inl rfl) (de_op (do_addB rfl) (de_var 2) (de_op do_mulX (de_lstM (da_cons (de_op (do_addB rfl) (de_var 1) de_str) (da_cons (de_sliceS rfl (de_var 1) do_none (do_some (de_negB de_int))) (da_cons (de_upper (de_var 1)) (da_cons (de_tup (da_cons (de_var 1) da_nil)) (da_cons (de_lst (da_cons (de_var 1) da_nil)) (da_cons (de_op (do_addB rfl) (de_var 1) de_str) da_nil))))))) de_int))))
dss_nil)
(dss_cons (ds_if (dt_val (de_isC rfl T.own T.is_int (cn_ty rfl T.b_int (by decide +kernel)) rfl T.b_isinstance (de_var 1)))
(dss_one (ds_set (i := 2) sc__law_strange.nd rfl (Or.inl rfl) (de_op (do_addB rfl) (de_var 2) (de_op do_mulX (de_lstM (da_cons (de_op (do_addB rfl) (de_var 1) de_int) (da_cons (de_op do_subB (de_var 1) de_int) (da_cons (de_negB (de_var 1)) (da_cons (de_callTy dc_strB rfl T.b_str (by decide +kernel) (da_cons (de_var 1) da_nil)) (da_cons (de_cmp (do_eq rfl (units100 hr)) (de_var 1) de_int) (da_cons (de_tup (da_cons (de_var 1) da_nil)) (da_cons (de_lst (da_cons (de_var 1) da_nil)) da_nil)))))))) de_int))))
dss_nil)
(dss_cons (ds_if (dt_val (de_isC rfl T.own T.is_tuple (cn_ty rfl T.b_tuple (by decide +kernel)) rfl T.b_isinstance (de_var 1)))
(dss_one (ds_set (i := 2) sc__law_strange.nd rfl (Or.inl rfl) (de_op (do_addB rfl) (de_var 2) (de_op do_mulX (de_lstM (da_cons (de_callTy (dc_listX rfl rfl) rfl T.b_list (by decide +kernel) (da_cons (de_var 1) da_nil)) (da_cons (de_op (do_addB rfl) (de_var 1) (de_sliceS rfl (de_var 1) (do_some (de_negB de_int)) do_none)) (da_cons (de_sliceS rfl (de_var 1) do_none (do_some (de_negB de_int))) (da_cons (de_sliceS rfl (de_var 1) (do_some de_int) do_none) (da_cons (de_rev rfl (de_var 1)) (da_cons (de_tup (da_cons (de_var 1) da_nil)) (da_cons (de_op (do_addB rfl) (de_var 1) (de_tup (da_cons de_non da_nil))) da_nil)))))))) de_int))))
dss_nil)
(dss_one (ds_ret (de_callG c__law_pick gd rfl (hr.mono (by omega)) rfl tk (da_cons (de_var 0) (da_cons (de_var 2) da_nil)) rfl (la_cons (la_cons la_nil)))))))))

abbrev s__law_places : Stmt := top 44
theorem sc__law_places : FnScope ["_law_thing", "_law_found", "_law_rest", "_law_at_here", "_law_one", "_law_k", "_law_inner"] ["_law_thing"] (defScope s__law_places) := ⟨rfl, rfl, rfl, by decide +kernel, rfl, by decide +kernel, by decide +kernel⟩
theorem ok__law_places {f : Addr} {fd : FuncData} (F : Fun K "_law_places" "_law_places" s__law_places f fd) (T : Txt K mg ca ce w)  : FnG P w K mg base (L2.CX P w) 1 f fd ["_law_thing"] (spD ⟨K, ca, ce⟩ 1 d__law_places) :=
fnG (G := ⟨K, ca, ce⟩) (N := ["_law_thing", "_law_found", "_law_rest", "_law_at_here", "_law_one", "_law_k", "_law_inner"]) .pure F sc__law_places fun cdv A outer s H E hr tk po gd =>
(dss_cons (ds_par (i := 1) (j := 2) rfl sc__law_places.nd rfl rfl (by decide) rfl rfl (da_cons (de_lstM da_nil) (da_cons (de_lstM (da_cons (de_tup (da_cons (de_tup da_nil) (da_cons (de_var 0) da_nil))) da_nil)) da_nil)) (by rfl))
(dss_cons (ds_while po (dt_cmp (do_ne rfl (units100 hr)) (de_var 2) (de_lst da_nil))
(dss_cons (ds_asg (de_meth0 PySem.F.plainAttrs_list PySem.F.slot_list_pop PySem.F.type_list_pop dm_pop rfl (de_var 2)) (dg_tup rfl rfl (dgs_cons (dg_name sc__law_places.nd rfl (by first | exact Or.inl rfl | exact Or.inr rfl)) (dgs_cons (dg_name sc__law_places.nd rfl (by first | exact Or.inl rfl | exact Or.inr rfl)) dgs_nil)) (blen_cons (blen_cons blen_nil))))
(dss_cons (ds_expr (de_meth PySem.F.plainAttrs_list PySem.F.slot_list_append PySem.F.type_list_append dm_append rfl (de_var 1) (da_cons (de_var 3) da_nil)))
(dss_one (ds_if (dt_val (de_isC rfl T.own T.is_tuple (cn_ty rfl T.b_tuple (by decide +kernel)) rfl T.b_isinstance (de_var 4)))
(dss_one (ds_expr (de_meth PySem.F.plainAttrs_list PySem.F.slot_list_extend PySem.F.type_list_extend (dm_extendX rfl) rfl (de_var 2) (da_cons (de_lc (own := [("_law_k", 5), ("_law_inner", 6)]) rfl sc__law_places.nd (di_enumX rfl rfl T.b_enumerate (da_cons (de_var 4) da_nil)) (blkOk_by (N := ["_law_thing", "_law_found", "_law_rest", "_law_at_here", "_law_one", "_law_k", "_law_inner"]) (sc := defScope s__law_places) (own := [("_law_k", 5), ("_law_inner", 6)]) (by decide +kernel)) (fun _ _ _ _ _ => (dg_tup rfl rfl (dgs_cons (dg_name sc__law_places.nd rfl (by first | exact Or.inl rfl | exact Or.inr rfl)) (dgs_cons (dg_name sc__law_places.nd rfl (by first | exact Or.inl rfl | exact Or.inr rfl)) dgs_nil)) (blen_cons (blen_cons blen_nil)))) (fun _ _ _ _ _ => dts_nil) (fun _ _ _ _ _ => (de_tup (da_cons (de_op (do_add rfl) (de_var 3) (de_tup (da_cons (de_var 5) da_nil))) (da_cons (de_var 6) da_nil)))) (by decide)) da_nil))))
dss_nil)))))
(dss_one (ds_ret (de_var 1)))))

abbrev s__law_at : Stmt := top 45
theorem sc__law_at : FnScope ["_law_thing", "_law_place", "_law_key"] ["_law_thing", "_law_place"] (defScope s__law_at) := ⟨rfl, rfl, rfl, by decide +kernel, rfl, by decide +kernel, by decide +kernel⟩
theorem ok__law_at {f : Addr} {fd : FuncData} (F : Fun K "_law_at" "_law_at" s__law_at f fd) (T : Txt K mg ca ce w)  : FnG P w K mg base (L2.CX P w) 1 f fd ["_law_thing", "_law_place"] (spD ⟨K, ca, ce⟩ 2 d__law_at) :=
fnG (G := ⟨K, ca, ce⟩) (N := ["_law_thing", "_law_place", "_law_key"]) .pure F sc__law_at fun cdv A outer s H E hr tk po gd =>
(dss_cons (ds_for po rfl (di_seq rfl (de_var 1)) (dg_name sc__law_at.nd rfl (by first | exact Or.inl rfl | exact Or.inr rfl))
(dss_one (ds_set (i := 0) sc__law_at.nd rfl (Or.inl rfl) (de_ixX rfl (units1 hr) (de_var 0) (de_var 2)))))
(dss_one (ds_ret (de_var 0))))

abbrev s__law_spoilt_in : Stmt := top 47
theorem sc__law_spoilt_in : FnScope ["_law_draw", "_law_thing", "_law_places_here", "_law_place"] ["_law_draw", "_law_thing"] (defScope s__law_spoilt_in) := ⟨rfl, rfl, rfl, by decide +kernel, rfl, by decide +kernel, by decide +kernel⟩
theorem ok__law_spoilt_in {f : Addr} {fd : FuncData} (F : Fun K "_law_spoilt_in" "_law_spoilt_in" s__law_spoilt_in f fd) (T : Txt K mg ca ce w) (c__law_next : DefG ⟨K, ca, ce⟩ P w mg base 1 "_law_next" 2 d__law_next) (c__law_pick : DefG ⟨K, ca, ce⟩ P w mg base 2 "_law_pick" 2 d__law_pick) (c__law_with : DefG ⟨K, ca, ce⟩ P w mg base 13 "_law_with" 3 d__law_with) (c__law_strange : DefG ⟨K, ca, ce⟩ P w mg base 3 "_law_strange" 2 d__law_strange) (c__law_places : DefG ⟨K, ca, ce⟩ P w mg base 1 "_law_places" 1 d__law_places) (c__law_at : DefG ⟨K, ca, ce⟩ P w mg base 1 "_law_at" 2 d__law_at) : FnG P w K mg base (L2.CX P w) 14 f fd ["_law_draw", "_law_thing"] (spD ⟨K, ca, ce⟩ 2 d__law_spoilt_in) :=
fnG (G := ⟨K, ca, ce⟩) (N := ["_law_draw", "_law_thing", "_law_places_here", "_law_place"]) .keep F sc__law_spoilt_in fun cdv A outer s H E hr tk po gd =>
(dss_cons (ds_setLc (own := [("_law_place", 3)]) (i := 2) rfl sc__law_spoilt_in.nd (di_seq rfl (de_callG c__law_places gd rfl (hr.mono (by omega)) rfl tk (da_cons (de_var 1) da_nil) rfl (la_cons la_nil))) (blkOk_by (N := ["_law_draw", "_law_thing", "_law_places_here", "_law_place"]) (sc := defScope s__law_spoilt_in) (own := [("_law_place", 3)]) (by decide +kernel)) (fun _ _ _ _ _ => (dg_name sc__law_spoilt_in.nd rfl (by first | exact Or.inl rfl | exact Or.inr rfl))) (fun _ _ _ _ _ => (dts_one (dt_cmp (do_ne rfl (units100 hr)) (de_var 3) (de_tup da_nil)))) (fun _ _ _ _ _ => (de_var 3)) (by decide) rfl rfl (sw_true rfl rfl rfl (by decide +kernel)))
(dss_cons (ds_set (i := 3) sc__law_spoilt_in.nd rfl (Or.inl rfl) (de_callG c__law_pick gd rfl (hr.mono (by omega)) rfl tk (da_cons (de_var 0) (da_cons (de_var 2) da_nil)) rfl (la_cons (la_cons la_nil))))
(dss_cons (ds_if (dt_cmp (do_eq rfl (units100 hr)) (de_callG c__law_next gd rfl (hr.mono (by omega)) rfl tk (da_cons (de_var 0) (da_cons de_int da_nil)) rfl (la_cons (la_cons la_nil))) de_int)
(dss_one (ds_ret (de_callG c__law_with gd rfl (hr.mono (by omega)) rfl tk (da_cons (de_var 1) (da_cons (de_var 3) (da_cons (de_callG c__law_at gd rfl (hr.mono (by omega)) rfl tk (da_cons (de_var 1) (da_cons (de_callG c__law_pick gd rfl (hr.mono (by omega)) rfl tk (da_cons (de_var 0) (da_cons (de_var 2) da_nil)) rfl (la_cons (la_cons la_nil))) da_nil)) rfl (la_cons (la_cons la_nil))) da_nil))) rfl (la_cons (la_cons (la_cons la_nil))))))
dss_nil)
(dss_one (ds_ret (de_callG c__law_with gd rfl (hr.mono (by omega)) rfl tk (da_cons (de_var 1) (da_cons (de_var 3) (da_cons (de_callG c__law_strange gd rfl (hr.mono (by omega)) rfl tk (da_cons (de_var 0) (da_cons (de_callG c__law_at gd rfl (hr.mono (by omega)) rfl tk (da_cons (de_var 1) (da_cons (de_var 3) da_nil)) rfl (la_cons (la_cons la_nil))) da_nil)) rfl (la_cons (la_cons la_nil))) da_nil))) rfl (la_cons (la_cons (la_cons la_nil)))))))))

abbrev s__law_alone : Stmt := top 52
theorem sc__law_alone : FnScope ["_law_e", "_law_kinds", "_law_words"] ["_law_e"] (defScope s__law_alone) := ⟨rfl, rfl, rfl, by decide +kernel, rfl, by decide +kernel, by decide +kernel⟩
theorem ok__law_alone {f : Addr} {fd : FuncData} (F : Fun K "_law_alone" "_law_alone" s__law_alone f fd) (T : Txt K mg ca ce w)  : FnG P w K mg base (L2.CX P w) 1 f fd ["_law_e"] (spD ⟨K, ca, ce⟩ 1 d__law_alone) :=
fnG (G := ⟨K, ca, ce⟩) (N := ["_law_e", "_law_kinds", "_law_words"]) .pure F sc__law_alone fun cdv A outer s H E hr tk po gd =>
(dss_cons (ds_set (i := 1) sc__law_alone.nd rfl (Or.inl rfl) (de_lst (da_cons (let ⟨_, q0, r0⟩ := T.e_NoName; de_isE rfl T.own T.xd r0 (cn_own rfl q0) rfl T.b_isinstance (de_var 0)) (da_cons (let ⟨_, q0, r0⟩ := T.e_NoDay; de_isE rfl T.own T.xd r0 (cn_own rfl q0) rfl T.b_isinstance (de_var 0)) (da_cons (let ⟨_, q0, r0⟩ := T.e_NoRace; de_isE rfl T.own T.xd r0 (cn_own rfl q0) rfl T.b_isinstance (de_var 0)) (da_cons (let ⟨_, q0, r0⟩ := T.e_NoMark; de_isE rfl T.own T.xd r0 (cn_own rfl q0) rfl T.b_isinstance (de_var 0)) da_nil))))))
(dss_cons (ds_set (i := 1) sc__law_alone.nd rfl (Or.inl rfl) (de_op (do_add rfl) (de_var 1) (de_lst (da_cons (let ⟨_, q0, r0⟩ := T.e_NoCode; de_isE rfl T.own T.xd r0 (cn_own rfl q0) rfl T.b_isinstance (de_var 0)) (da_cons (let ⟨_, q0, r0⟩ := T.e_NoPlace; de_isE rfl T.own T.xd r0 (cn_own rfl q0) rfl T.b_isinstance (de_var 0)) (da_cons (let ⟨_, q0, r0⟩ := T.e_NoStub; de_isE rfl T.own T.xd r0 (cn_own rfl q0) rfl T.b_isinstance (de_var 0)) (da_cons (let ⟨_, q0, r0⟩ := T.e_NoWay; de_isE rfl T.own T.xd r0 (cn_own rfl q0) rfl T.b_isinstance (de_var 0)) da_nil)))))))
(dss_cons (ds_set (i := 1) sc__law_alone.nd rfl (Or.inl rfl) (de_op (do_add rfl) (de_var 1) (de_lst (da_cons (let ⟨_, q0, r0⟩ := T.e_NoTime; de_isE rfl T.own T.xd r0 (cn_own rfl q0) rfl T.b_isinstance (de_var 0)) (da_cons (let ⟨_, q0, r0⟩ := T.e_NoLetter; de_isE rfl T.own T.xd r0 (cn_own rfl q0) rfl T.b_isinstance (de_var 0)) (da_cons (let ⟨_, q0, r0⟩ := T.e_NotWhole; de_isE rfl T.own T.xd r0 (cn_own rfl q0) rfl T.b_isinstance (de_var 0)) da_nil))))))
(dss_cons (ds_set (i := 1) sc__law_alone.nd rfl (Or.inl rfl) (de_op (do_add rfl) (de_var 1) (de_lst (da_cons (let ⟨_, q0, r0⟩ := T.e_NoRuling; de_isE rfl T.own T.xd r0 (cn_own rfl q0) rfl T.b_isinstance (de_var 0)) (da_cons (let ⟨_, q0, r0⟩ := T.e_NoChain; de_isE rfl T.own T.xd r0 (cn_own rfl q0) rfl T.b_isinstance (de_var 0)) (da_cons (let ⟨_, q0, r0⟩ := T.e_NoBits; de_isE rfl T.own T.xd r0 (cn_own rfl q0) rfl T.b_isinstance (de_var 0)) (da_cons (let ⟨_, q0, r0⟩ := T.e_NoLot; de_isE rfl T.own T.xd r0 (cn_own rfl q0) rfl T.b_isinstance (de_var 0)) da_nil)))))))
(dss_cons (ds_set (i := 1) sc__law_alone.nd rfl (Or.inl rfl) (de_op (do_add rfl) (de_var 1) (de_lst (da_cons (let ⟨_, q0, r0⟩ := T.e_NoCount; de_isE rfl T.own T.xd r0 (cn_own rfl q0) rfl T.b_isinstance (de_var 0)) (da_cons (let ⟨_, q0, r0⟩ := T.e_NoPhase; de_isE rfl T.own T.xd r0 (cn_own rfl q0) rfl T.b_isinstance (de_var 0)) (da_cons (let ⟨_, q0, r0⟩ := T.e_Twice; de_isE rfl T.own T.xd r0 (cn_own rfl q0) rfl T.b_isinstance (de_var 0)) (da_cons (let ⟨_, q0, r0⟩ := T.e_NotThere; de_isE rfl T.own T.xd r0 (cn_own rfl q0) rfl T.b_isinstance (de_var 0)) da_nil)))))))
(dss_cons (ds_set (i := 1) sc__law_alone.nd rfl (Or.inl rfl) (de_op (do_add rfl) (de_var 1) (de_lst (da_cons (let ⟨_, q0, r0⟩ := T.e_NoRow; de_isE rfl T.own T.xd r0 (cn_own rfl q0) rfl T.b_isinstance (de_var 0)) (da_cons (let ⟨_, q0, r0⟩ := T.e_NoText; de_isE rfl T.own T.xd r0 (cn_own rfl q0) rfl T.b_isinstance (de_var 0)) da_nil)))))
(dss_cons (ds_if (DW.t (dw_or (dt_cmp (do_ne rfl (units100 hr)) (de_meth PySem.F.plainAttrs_list PySem.F.slot_list_count PySem.F.type_list_count (dm_countD rfl (units65 hr)) rfl (de_var 1) (da_cons de_bl da_nil)) de_int) (dw_or (dt_not (dt_val (let ⟨_, q0, r0⟩ := T.e_VoteError; de_isE rfl T.own T.xd r0 (cn_own rfl q0) rfl T.b_isinstance (de_var 0)))) (dw_or1 (dt_not (dt_val (de_isE rfl T.own T.xd T.v_ValueError (cn_ty rfl T.b_ValueError (by decide +kernel)) rfl T.b_isinstance (de_var 0))))))))
(dss_one (ds_ret de_str))
dss_nil)
(dss_cons (ds_set (i := 2) sc__law_alone.nd rfl (Or.inl rfl) de_str)
(dss_cons (ds_set (i := 2) sc__law_alone.nd rfl (Or.inl rfl) (de_op (do_add rfl) (de_var 2) de_str))
(dss_one (ds_ret (de_ixX rfl (units1 hr) (de_meth PySem.F.plainAttrs_str PySem.F.slot_str_split PySem.F.type_str_split dm_split rfl (de_var 2) (da_cons de_str da_nil)) (de_meth PySem.F.plainAttrs_list PySem.F.slot_list_index PySem.F.type_list_index (dm_index rfl (units65 hr)) rfl (de_var 1) (da_cons de_bl da_nil))))))))))))))

abbrev s__law_made : Stmt := top 57
theorem sc__law_made : FnScope ["_law_parts", "_law_plain", "_law_found", "_law_refused", "_law_e"] ["_law_parts", "_law_plain"] (defScope s__law_made) := ⟨rfl, rfl, rfl, by decide +kernel, rfl, by decide +kernel, by decide +kernel⟩
theorem ok__law_made {f : Addr} {fd : FuncData} (F : Fun K "_law_made" "_law_made" s__law_made f fd) (T : Txt K mg ca ce w) (c_Race__mk4_ : ClsKN ⟨K, ca, ce⟩ P w mg base 3 "Race" 4 [] 7 (fun ds es => ds ++ pk [.inl 0, .inl 1] [.int (1), .str ""] es) d_Race_init) (c_Race__mk4_by_seats : ClsKN ⟨K, ca, ce⟩ P w mg base 3 "Race" 4 ["by", "seats"] 7 (fun ds es => ds ++ pk [.inr 1, .inr 0] [] es) d_Race_init) (c__law_alone : DefG ⟨K, ca, ce⟩ P w mg base 1 "_law_alone" 1 d__law_alone) : FnG P w K mg base (L2.CX P w) 5 f fd ["_law_parts", "_law_plain"] (spD ⟨K, ca, ce⟩ 2 d__law_made) :=
fnG (G := ⟨K, ca, ce⟩) (N := ["_law_parts", "_law_plain", "_law_found", "_law_refused", "_law_e"]) .pure F sc__law_made fun cdv A outer s H E hr tk po gd =>
(dss_cons (ds_asg (de_tup (da_cons de_non (da_cons de_non da_nil))) (dg_tup rfl rfl (dgs_cons (dg_name sc__law_made.nd rfl (by first | exact Or.inl rfl | exact Or.inr rfl)) (dgs_cons (dg_name sc__law_made.nd rfl (by first | exact Or.inl rfl | exact Or.inr rfl)) dgs_nil)) (blen_cons (blen_cons blen_nil))))
(dss_cons (let ⟨_, q1, q2⟩ := T.t_VoteError; ds_try (i := 4) rfl rfl rfl sc__law_made.nd rfl rfl ⟨by rfl, by decide, .inl q1⟩ q2 tk (fun W pn xe tk po =>
(dss_one (ds_if (dt_val (de_var 1))
(dss_one (ds_set (i := 2) sc__law_made.nd rfl (Or.inl rfl) (de_makeKN c_Race__mk4_ gd rfl (hr.mono (by omega)) rfl tk (da_cons (de_ixX rfl (units1 hr) (de_var 0) de_int) (da_cons (de_ixX rfl (units1 hr) (de_var 0) de_int) (da_cons (de_ixX rfl (units1 hr) (de_var 0) de_int) (da_cons (de_ixX rfl (units1 hr) (de_var 0) de_int) da_nil)))) dk_nil (la_cons (la_cons (la_cons (la_cons la_nil)))) la_nil)))
(dss_one (ds_set (i := 2) sc__law_made.nd rfl (Or.inl rfl) (de_makeKN c_Race__mk4_by_seats gd rfl (hr.mono (by omega)) rfl tk (da_cons (de_ixX rfl (units1 hr) (de_var 0) de_int) (da_cons (de_ixX rfl (units1 hr) (de_var 0) de_int) (da_cons (de_ixX rfl (units1 hr) (de_var 0) de_int) (da_cons (de_ixX rfl (units1 hr) (de_var 0) de_int) da_nil)))) (dk_cons (de_ixX rfl (units1 hr) (de_var 0) de_int) (dk_cons (de_ixX rfl (units1 hr) (de_var 0) de_int) dk_nil)) (la_cons (la_cons (la_cons (la_cons la_nil)))) (la_cons (la_cons la_nil)))))))) (fun a pn => (dss_one (ds_set (i := 3) sc__law_made.nd rfl (Or.inl rfl) (de_var 4)))))
(dss_cons (ds_if (dt_cmp do_isN (de_var 3) de_non)
(dss_one (ds_ret (de_if (dt_val (let ⟨_, q1, q2⟩ := T.is_Race; de_isC rfl T.own q2 (cn_own rfl q1) rfl T.b_isinstance (de_var 2))) (de_var 2) de_str)))
dss_nil)
(dss_one (ds_ret (de_if (dt_cmp (do_eq rfl (units100 hr)) (de_callG c__law_alone gd rfl (hr.mono (by omega)) rfl tk (da_cons (de_var 3) da_nil) rfl (la_cons la_nil)) de_str) de_non de_str))))))

abbrev s__law_like : Stmt := top 48
theorem sc__law_like : FnScope ["_law_found", "_law_due", "_law_wrong", "_law_k", "_law_key"] ["_law_found", "_law_due"] (defScope s__law_like) := ⟨rfl, rfl, rfl, by decide +kernel, rfl, by decide +kernel, by decide +kernel⟩
theorem ok__law_like {f : Addr} {fd : FuncData} (F : Fun K "_law_like" "_law_like" s__law_like f fd) (T : Txt K mg ca ce w) (hm : mg "_law_like" = some (.ref f)) (hk : PySem.W.keepIn K (.ref f) = true) (hb : Binds K fd ["_law_found", "_law_due"] [])  : ∀ n : Nat, FnG P w K mg base (L2.CX P w) (n + 1) f fd ["_law_found", "_law_due"] (spD ⟨K, ca, ce⟩ 2 (d__law_like_n n))
  | 0 => fnG (G := ⟨K, ca, ce⟩) (N := ["_law_found", "_law_due", "_law_wrong", "_law_k", "_law_key"]) (k := 0) .pure F sc__law_like fun cdv A outer s H E hr tk po gd => dss_nev
  | n + 1 => by
    have c__law_like : DefG ⟨K, ca, ce⟩ P w mg base (n + 1) "_law_like" 2 (d__law_like_n n) := ⟨⟨f, fd, ["_law_found", "_law_due"], ok__law_like F T hm hk hb  n, hm, hk, hb⟩⟩
    exact fnG (G := ⟨K, ca, ce⟩) (N := ["_law_found", "_law_due", "_law_wrong", "_law_k", "_law_key"]) (k := n + 1) .pure F sc__law_like fun cdv A outer s H E hr tk po gd =>
(dss_cons (ds_if (dt_val (de_isCs rfl T.own (CNames.cons (cn_ty rfl T.b_tuple (by decide +kernel)) T.is_tuple (CNames.cons (cn_ty rfl T.b_list (by decide +kernel)) T.is_list CNames.nil)) (by decide) rfl T.b_isinstance (de_var 1)))
(dss_cons (ds_if (DW.t (dw_or (dt_not (dt_val (de_isCs rfl T.own (CNames.cons (cn_ty rfl T.b_tuple (by decide +kernel)) T.is_tuple (CNames.cons (cn_ty rfl T.b_list (by decide +kernel)) T.is_list CNames.nil)) (by decide) rfl T.b_isinstance (de_var 0)))) (dw_or1 (dt_cmp (do_ne rfl (units100 hr)) (de_isC rfl T.own T.is_tuple (cn_ty rfl T.b_tuple (by decide +kernel)) rfl T.b_isinstance (de_var 0)) (de_isC rfl T.own T.is_tuple (cn_ty rfl T.b_tuple (by decide +kernel)) rfl T.b_isinstance (de_var 1))))))
(dss_one (ds_ret de_bl))
dss_nil)
(dss_cons (ds_setLc (own := [("_law_k", 3)]) (i := 2) rfl sc__law_like.nd (di_range1 rfl T.b_range (da_cons (de_callB (dc_min2 rfl) rfl T.b_min (by decide +kernel) (da_cons (de_callB (dc_lenX rfl) rfl T.b_len (by decide +kernel) (da_cons (de_var 0) da_nil)) (da_cons (de_callB (dc_lenX rfl) rfl T.b_len (by decide +kernel) (da_cons (de_var 1) da_nil)) da_nil))) da_nil)) (blkOk_by (N := ["_law_found", "_law_due", "_law_wrong", "_law_k", "_law_key"]) (sc := defScope s__law_like) (own := [("_law_k", 3)]) (by decide +kernel)) (fun _ _ _ _ _ => (dg_name sc__law_like.nd rfl (by first | exact Or.inl rfl | exact Or.inr rfl))) (fun _ _ _ _ _ => (dts_one (dt_not (dt_val (de_callG c__law_like gd rfl (hr.mono (by omega)) rfl takes0 (da_cons (de_ixX rfl (units1 hr) (de_var 0) (de_var 3)) (da_cons (de_ixX rfl (units1 hr) (de_var 1) (de_var 3)) da_nil)) rfl (la_cons (la_cons la_nil))))))) (fun _ _ _ _ _ => (de_var 3)) (by decide) rfl rfl (sw_true rfl rfl rfl (by decide +kernel)))
(dss_one (ds_ret (de_and (de_cmp (do_eq rfl (units100 hr)) (de_callB (dc_lenX rfl) rfl T.b_len (by decide +kernel) (da_cons (de_var 0) da_nil)) (de_callB (dc_lenX rfl) rfl T.b_len (by decide +kernel) (da_cons (de_var 1) da_nil))) (de_one (de_cmp (do_eq rfl (units100 hr)) (de_var 2) (de_lst da_nil))))))))
dss_nil)
(dss_cons (ds_if (dt_val (de_isC rfl T.own T.is_dict (cn_ty rfl T.b_dict (by decide +kernel)) rfl T.b_isinstance (de_var 1)))
(dss_cons (ds_if (DW.t (dw_or (dt_not (dt_val (de_isC rfl T.own T.is_dict (cn_ty rfl T.b_dict (by decide +kernel)) rfl T.b_isinstance (de_var 0)))) (dw_or1 (dt_cmp (do_ne rfl (units100 hr)) (de_callTy (dc_listX rfl rfl) rfl T.b_list (by decide +kernel) (da_cons (de_var 0) da_nil)) (de_callTy (dc_listX rfl rfl) rfl T.b_list (by decide +kernel) (da_cons (de_var 1) da_nil))))))
(dss_one (ds_ret de_bl))
dss_nil)
(dss_one (ds_ret (de_cmp (do_eq rfl (units100 hr)) (de_lc (own := [("_law_key", 4)]) rfl sc__law_like.nd (di_any rfl (de_var 1)) (blkOk_by (N := ["_law_found", "_law_due", "_law_wrong", "_law_k", "_law_key"]) (sc := defScope s__law_like) (own := [("_law_key", 4)]) (by decide +kernel)) (fun _ _ _ _ _ => (dg_name sc__law_like.nd rfl (by first | exact Or.inl rfl | exact Or.inr rfl))) (fun _ _ _ _ _ => (dts_one (dt_not (dt_val (de_callG c__law_like gd rfl (hr.mono (by omega)) rfl takes0 (da_cons (de_ixX rfl (units1 hr) (de_var 0) (de_var 4)) (da_cons (de_ixX rfl (units1 hr) (de_var 1) (de_var 4)) da_nil)) rfl (la_cons (la_cons la_nil))))))) (fun _ _ _ _ _ => (de_var 4)) (by decide)) (de_lst da_nil)))))
dss_nil)
(dss_cons (ds_if (DW.t (dw_or (dt_cmp do_isN (de_var 1) de_non) (dw_or1 (dt_cmp do_isN (de_var 0) de_non))))
(dss_one (ds_ret (de_and (de_cmp do_isN (de_var 0) de_non) (de_one (de_cmp do_isN (de_var 1) de_non)))))
dss_nil)
(dss_cons (ds_if (dt_val (de_isC rfl T.own T.is_str (cn_ty rfl T.b_str (by decide +kernel)) rfl T.b_isinstance (de_var 1)))
(dss_one (ds_ret (de_and (de_isC rfl T.own T.is_str (cn_ty rfl T.b_str (by decide +kernel)) rfl T.b_isinstance (de_var 0)) (de_one (de_cmp (do_eq rfl (units100 hr)) (de_var 0) (de_var 1))))))
dss_nil)
(dss_one (ds_ret (de_and (de_isC rfl T.own T.is_int (cn_ty rfl T.b_int (by decide +kernel)) rfl T.b_isinstance (de_var 0)) (de_and (de_cmp (do_eq rfl (units100 hr)) (de_isC rfl T.own T.is_bool (cn_ty rfl T.b_bool (by decide +kernel)) rfl T.b_isinstance (de_var 0)) (de_isC rfl T.own T.is_bool (cn_ty rfl T.b_bool (by decide +kernel)) rfl T.b_isinstance (de_var 1))) (de_one (de_cmp (do_eq rfl (units100 hr)) (de_var 0) (de_var 1)))))))))))

abbrev s__law_name_right : Stmt := top 50
theorem sc__law_name_right : FnScope ["_law_thing", "_law_sign"] ["_law_thing"] (defScope s__law_name_right) := ⟨rfl, rfl, rfl, by decide +kernel, rfl, by decide +kernel, by decide +kernel⟩
theorem ok__law_name_right {f : Addr} {fd : FuncData} (F : Fun K "_law_name_right" "_law_name_right" s__law_name_right f fd) (T : Txt K mg ca ce w)  : FnG P w K mg base (L2.CX P w) 1 f fd ["_law_thing"] (spD ⟨K, ca, ce⟩ 1 d__law_name_right) :=
fnG (G := ⟨K, ca, ce⟩) (N := ["_law_thing", "_law_sign"]) .pure F sc__law_name_right fun cdv A outer s H E hr tk po gd =>
(dss_cons (ds_if (DW.t (dw_or (dt_not (dt_val (de_isC rfl T.own T.is_str (cn_ty rfl T.b_str (by decide +kernel)) rfl T.b_isinstance (de_var 0)))) (dw_or1 (dt_not (dt_chain do_le do_le de_int (de_callB (dc_lenX rfl) rfl T.b_len (by decide +kernel) (da_cons (de_var 0) da_nil)) de_int)))))
(dss_one (ds_ret de_bl))
dss_nil)
(dss_one (ds_ret (de_cmp (do_eq rfl (units100 hr)) (de_lc (own := [("_law_sign", 1)]) rfl sc__law_name_right.nd (di_seq rfl (de_var 0)) (blkOk_by (N := ["_law_thing", "_law_sign"]) (sc := defScope s__law_name_right) (own := [("_law_sign", 1)]) (by decide +kernel)) (fun _ _ _ _ _ => (dg_name sc__law_name_right.nd rfl (by first | exact Or.inl rfl | exact Or.inr rfl))) (fun _ _ _ _ _ => (dts_one (dt_cmp (do_notIn rfl (units65 hr)) (de_var 1) de_str))) (fun _ _ _ _ _ => (de_var 1)) (by decide)) (de_lst da_nil)))))

abbrev s__law_names_right : Stmt := top 55
theorem sc__law_names_right : FnScope ["_law_thing", "_law_low", "_law_high", "_law_one"] ["_law_thing", "_law_low", "_law_high"] (defScope s__law_names_right) := ⟨rfl, rfl, rfl, by decide +kernel, rfl, by decide +kernel, by decide +kernel⟩
theorem ok__law_names_right {f : Addr} {fd : FuncData} (F : Fun K "_law_names_right" "_law_names_right" s__law_names_right f fd) (T : Txt K mg ca ce w) (c__law_name_right : DefG ⟨K, ca, ce⟩ P w mg base 1 "_law_name_right" 1 d__law_name_right) : FnG P w K mg base (L2.CX P w) 2 f fd ["_law_thing", "_law_low", "_law_high"] (spD ⟨K, ca, ce⟩ 3 d__law_names_right) :=
fnG (G := ⟨K, ca, ce⟩) (N := ["_law_thing", "_law_low", "_law_high", "_law_one"]) .pure F sc__law_names_right fun cdv A outer s H E hr tk po gd =>
(dss_cons (ds_if (DW.t (dw_or (dt_not (dt_val (de_isC rfl T.own T.is_tuple (cn_ty rfl T.b_tuple (by decide +kernel)) rfl T.b_isinstance (de_var 0)))) (dw_or1 (dt_not (dt_chain do_le do_le (de_var 1) (de_callB (dc_lenX rfl) rfl T.b_len (by decide +kernel) (da_cons (de_var 0) da_nil)) (de_var 2))))))
(dss_one (ds_ret de_bl))
dss_nil)
(dss_one (ds_ret (de_and (de_cmp (do_eq rfl (units100 hr)) (de_lc (own := [("_law_one", 3)]) rfl sc__law_names_right.nd (di_seq rfl (de_var 0)) (blkOk_by (N := ["_law_thing", "_law_low", "_law_high", "_law_one"]) (sc := defScope s__law_names_right) (own := [("_law_one", 3)]) (by decide +kernel)) (fun _ _ _ _ _ => (dg_name sc__law_names_right.nd rfl (by first | exact Or.inl rfl | exact Or.inr rfl))) (fun _ _ _ _ _ => (dts_one (dt_not (dt_val (de_callG c__law_name_right gd rfl (hr.mono (by omega)) rfl takes0 (da_cons (de_var 3) da_nil) rfl (la_cons la_nil)))))) (fun _ _ _ _ _ => (de_var 3)) (by decide)) (de_lst da_nil)) (de_one (de_cmp (do_eq rfl (units100 hr)) (de_lenSet rfl rfl rfl T.b_len rfl T.b_set (de_var 0)) (de_callB (dc_lenX rfl) rfl T.b_len (by decide +kernel) (da_cons (de_var 0) da_nil))))))))

abbrev s__law_between : Stmt := top 43
theorem sc__law_between : FnScope ["_law_thing", "_law_low", "_law_high"] ["_law_thing", "_law_low", "_law_high"] (defScope s__law_between) := ⟨rfl, rfl, rfl, by decide +kernel, rfl, by decide +kernel, by decide +kernel⟩
theorem ok__law_between {f : Addr} {fd : FuncData} (F : Fun K "_law_between" "_law_between" s__law_between f fd) (T : Txt K mg ca ce w)  : FnG P w K mg base (L2.CX P w) 1 f fd ["_law_thing", "_law_low", "_law_high"] (spD ⟨K, ca, ce⟩ 3 d__law_between) :=
fnG (G := ⟨K, ca, ce⟩) (N := ["_law_thing", "_law_low", "_law_high"]) .pure F sc__law_between fun cdv A outer s H E hr tk po gd =>
(dss_one (ds_ret (de_and (de_isC rfl T.own T.is_int (cn_ty rfl T.b_int (by decide +kernel)) rfl T.b_isinstance (de_var 0)) (de_and (de_not (de_isC rfl T.own T.is_bool (cn_ty rfl T.b_bool (by decide +kernel)) rfl T.b_isinstance (de_var 0))) (de_one (de_chain do_le do_le (de_var 1) (de_var 0) (de_var 2)))))))

abbrev s__law_race_right : Stmt := top 56
theorem sc__law_race_right : FnScope ["_law_parts", "_law_name", "_law_kind", "_law_choices", "_law_districts", "_law_seats_many", "_law_chosen"] ["_law_parts"] (defScope s__law_race_right) := ⟨rfl, rfl, rfl, by decide +kernel, rfl, by decide +kernel, by decide +kernel⟩
theorem ok__law_race_right {f : Addr} {fd : FuncData} (F : Fun K "_law_race_right" "_law_race_right" s__law_race_right f fd) (T : Txt K mg ca ce w) (c__law_name_right : DefG ⟨K, ca, ce⟩ P w mg base 1 "_law_name_right" 1 d__law_name_right) (c__law_names_right : DefG ⟨K, ca, ce⟩ P w mg base 2 "_law_names_right" 3 d__law_names_right) (c__law_between : DefG ⟨K, ca, ce⟩ P w mg base 1 "_law_between" 3 d__law_between) : FnG P w K mg base (L2.CX P w) 3 f fd ["_law_parts"] (spD ⟨K, ca, ce⟩ 1 d__law_race_right) :=
fnG (G := ⟨K, ca, ce⟩) (N := ["_law_parts", "_law_name", "_law_kind", "_law_choices", "_law_districts", "_law_seats_many", "_law_chosen"]) .pure F sc__law_race_right fun cdv A outer s H E hr tk po gd =>
(dss_cons (ds_asg (de_var 0) (dg_tup rfl rfl (dgs_cons (dg_name sc__law_race_right.nd rfl (by first | exact Or.inl rfl | exact Or.inr rfl)) (dgs_cons (dg_name sc__law_race_right.nd rfl (by first | exact Or.inl rfl | exact Or.inr rfl)) (dgs_cons (dg_name sc__law_race_right.nd rfl (by first | exact Or.inl rfl | exact Or.inr rfl)) (dgs_cons (dg_name sc__law_race_right.nd rfl (by first | exact Or.inl rfl | exact Or.inr rfl)) (dgs_cons (dg_name sc__law_race_right.nd rfl (by first | exact Or.inl rfl | exact Or.inr rfl)) (dgs_cons (dg_name sc__law_race_right.nd rfl (by first | exact Or.inl rfl | exact Or.inr rfl)) dgs_nil)))))) (blen_cons (blen_cons (blen_cons (blen_cons (blen_cons (blen_cons blen_nil))))))))
(dss_cons (ds_if (DW.t (dw_or (dt_not (dt_val (de_callG c__law_name_right gd rfl (hr.mono (by omega)) rfl tk (da_cons (de_var 1) da_nil) rfl (la_cons la_nil)))) (dw_or (dt_not (dt_val (de_isC rfl T.own T.is_str (cn_ty rfl T.b_str (by decide +kernel)) rfl T.b_isinstance (de_var 2)))) (dw_or1 (dt_cmp (do_notIn rfl (units65 hr)) (de_var 2) (de_lst (da_cons de_str (da_cons de_str (da_cons de_str da_nil)))))))))
(dss_one (ds_ret de_bl))
dss_nil)
(dss_cons (ds_if (DW.t (dw_or (dt_not (dt_val (de_callG c__law_names_right gd rfl (hr.mono (by omega)) rfl tk (da_cons (de_var 3) (da_cons de_int (da_cons de_int da_nil))) rfl (la_cons (la_cons (la_cons la_nil)))))) (dw_or1 (dt_not (dt_val (de_callG c__law_names_right gd rfl (hr.mono (by omega)) rfl tk (da_cons (de_var 4) (da_cons de_int (da_cons de_int da_nil))) rfl (la_cons (la_cons (la_cons la_nil)))))))))
(dss_one (ds_ret de_bl))
dss_nil)
(dss_cons (ds_if (DW.t (dw_or (dt_not (dt_val (de_callG c__law_between gd rfl (hr.mono (by omega)) rfl tk (da_cons (de_var 5) (da_cons de_int (da_cons (de_callB (dc_lenX rfl) rfl T.b_len (by decide +kernel) (da_cons (de_var 3) da_nil)) da_nil))) rfl (la_cons (la_cons (la_cons la_nil)))))) (dw_or1 (dt_not (dt_val (de_isC rfl T.own T.is_str (cn_ty rfl T.b_str (by decide +kernel)) rfl T.b_isinstance (de_var 6)))))))
(dss_one (ds_ret de_bl))
dss_nil)
(dss_cons (ds_if (dt_cmp (do_ne rfl (units100 hr)) (de_var 2) de_str)
(dss_one (ds_ret (de_cmp (do_eq rfl (units100 hr)) (de_var 6) de_str)))
dss_nil)
(dss_one (ds_ret (de_or (de_cmp (do_eq rfl (units100 hr)) (de_var 6) de_str) (de_one (de_and (de_cmp (do_in rfl (units65 hr)) (de_var 6) (de_lst (da_cons de_str (da_cons de_str da_nil)))) (de_one (de_cmp (do_eq rfl (units100 hr)) (de_var 5) de_int))))))))))))

abbrev s_Race_eq : Stmt := inClass (top 37) 1
theorem sc_Race_eq : FnScope ["self", "other", "mine"] ["self", "other"] (defScope s_Race_eq) := ⟨rfl, rfl, rfl, by decide +kernel, rfl, by decide +kernel, by decide +kernel⟩
theorem ok_Race_eq {f : Addr} {fd : FuncData} (F : Fun K "__eq__" "Race.__eq__" s_Race_eq f fd) (T : Txt K mg ca ce w)  : FnG P w K mg base (L2.CX P w) 1 f fd ["self", "other"] (spD ⟨K, ca, ce⟩ 2 d_Race_eq) :=
fnG (G := ⟨K, ca, ce⟩) (N := ["self", "other", "mine"]) .pure F sc_Race_eq fun cdv A outer s H E hr tk po gd =>
(dss_cons (ds_if (dt_not (dt_val (let ⟨_, q1, q2⟩ := T.is_Race; de_isC rfl T.own q2 (cn_own rfl q1) rfl T.b_isinstance (de_var 1))))
(dss_one (ds_ret de_bl))
dss_nil)
(dss_cons (ds_set (i := 2) sc_Race_eq.nd rfl (Or.inl rfl) (de_tup (da_cons (de_fldC rfl T.fl_name (de_var 0)) (da_cons (de_fldC rfl T.fl_kind (de_var 0)) (da_cons (de_fldC rfl T.fl_choices (de_var 0)) (da_cons (de_fldC rfl T.fl_districts (de_var 0)) (da_cons (de_fldC rfl T.fl_seats (de_var 0)) (da_cons (de_fldC rfl T.fl_by (de_var 0)) da_nil))))))))
(dss_one (ds_ret (de_cmp (do_eq rfl (units100 hr)) (de_var 2) (de_tup (da_cons (de_fldC rfl T.fl_name (de_var 1)) (da_cons (de_fldC rfl T.fl_kind (de_var 1)) (da_cons (de_fldC rfl T.fl_choices (de_var 1)) (da_cons (de_fldC rfl T.fl_districts (de_var 1)) (da_cons (de_fldC rfl T.fl_seats (de_var 1)) (da_cons (de_fldC rfl T.fl_by (de_var 1)) da_nil))))))))))))

abbrev s__law_right : Stmt := top 58
theorem sc__law_right : FnScope ["_law_cell", "_law_k", "_law_draw", "_law_names_here", "_law_first", "_law_whole", "_law_some", "_law_parts", "_law_plain", "_law_found", "_law_told", "_law_same", "_law_turn"] ["_law_cell", "_law_k"] (defScope s__law_right) := ⟨rfl, rfl, rfl, by decide +kernel, rfl, by decide +kernel, by decide +kernel⟩
theorem ok__law_right {f : Addr} {fd : FuncData} (F : Fun K "_law_right" "_law_right" s__law_right f fd) (T : Txt K mg ca ce w) (c__law_begun : DefG ⟨K, ca, ce⟩ P w mg base 1 "_law_begun" 2 d__law_begun) (c__law_next : DefG ⟨K, ca, ce⟩ P w mg base 1 "_law_next" 2 d__law_next) (c__law_names : DefG ⟨K, ca, ce⟩ P w mg base 2 "_law_names" 2 d__law_names) (c__law_race_parts : DefG ⟨K, ca, ce⟩ P w mg base 3 "_law_race_parts" 3 d__law_race_parts) (c__law_race : DefG ⟨K, ca, ce⟩ P w mg base 5 "_law_race" 1 d__law_race) (c__law_spoilt_in : DefG ⟨K, ca, ce⟩ P w mg base 14 "_law_spoilt_in" 2 d__law_spoilt_in) (c__law_made : DefG ⟨K, ca, ce⟩ P w mg base 5 "_law_made" 2 d__law_made) (c__law_like : DefG ⟨K, ca, ce⟩ P w mg base 13 "_law_like" 2 d__law_like) (c__law_race_right : DefG ⟨K, ca, ce⟩ P w mg base 3 "_law_race_right" 1 d__law_race_right) (c_Race__m___eq__ : MethG ⟨K, ca, ce⟩ P w mg base 1 "Race" "__eq__" 1 d_Race_eq) : FnG P w K mg base (L2.CX P w) 15 f fd ["_law_cell", "_law_k"] (spD ⟨K, ca, ce⟩ 2 d__law_right) :=
fnG (G := ⟨K, ca, ce⟩) (N := ["_law_cell", "_law_k", "_law_draw", "_law_names_here", "_law_first", "_law_whole", "_law_some", "_law_parts", "_law_plain", "_law_found", "_law_told", "_law_same", "_law_turn"]) .pure F sc__law_right fun cdv A outer s H E hr tk po gd =>
(dss_cons (ds_set (i := 2) sc__law_right.nd rfl (Or.inr rfl) (de_callG c__law_begun gd rfl (hr.mono (by omega)) rfl tk (da_cons (de_var 0) (da_cons (de_var 1) da_nil)) rfl (la_cons (la_cons la_nil))))
(dss_cons (ds_set (i := 3) sc__law_right.nd rfl (Or.inl rfl) (de_callG c__law_names gd rfl (hr.mono (by omega)) rfl tk (da_cons (de_var 2) (da_cons de_int da_nil)) rfl (la_cons (la_cons la_nil))))
(dss_cons (ds_set (i := 4) sc__law_right.nd rfl (Or.inr rfl) (de_callG c__law_race_parts gd rfl (hr.mono (by omega)) rfl tk (da_cons (de_var 2) (da_cons (de_slice rfl (de_var 3) do_none (do_some de_int)) (da_cons (de_slice rfl (de_var 3) (do_some de_int) (do_some (de_op (do_add rfl) de_int (de_callG c__law_next gd rfl (hr.mono (by omega)) rfl tk (da_cons (de_var 2) (da_cons de_int da_nil)) rfl (la_cons (la_cons la_nil)))))) da_nil))) rfl (la_cons (la_cons (la_cons la_nil)))))
(dss_cons (ds_set (i := 5) sc__law_right.nd rfl (Or.inl rfl) (de_callG c__law_race gd rfl (hr.mono (by omega)) rfl tk (da_cons (de_var 4) da_nil) rfl (la_cons la_nil)))
(dss_cons (ds_set (i := 6) sc__law_right.nd rfl (Or.inl rfl) (de_op (do_addM rfl) (de_lst (da_cons (de_var 4) da_nil)) (de_lc (own := [("_law_turn", 12)]) rfl sc__law_right.nd (di_range1 rfl T.b_range (da_cons de_int da_nil)) (blkOk_by (N := ["_law_cell", "_law_k", "_law_draw", "_law_names_here", "_law_first", "_law_whole", "_law_some", "_law_parts", "_law_plain", "_law_found", "_law_told", "_law_same", "_law_turn"]) (sc := defScope s__law_right) (own := [("_law_turn", 12)]) (by decide +kernel)) (fun _ _ _ _ _ => (dg_name sc__law_right.nd rfl (by first | exact Or.inl rfl | exact Or.inr rfl))) (fun _ _ _ _ _ => dts_nil) (fun _ _ _ _ _ => (de_callG c__law_spoilt_in gd rfl (hr.mono (by omega)) rfl takes0 (da_cons (de_var 2) (da_cons (de_var 4) da_nil)) rfl (la_cons (la_cons la_nil)))) (by decide))))
(dss_cons (ds_putX (units1 hr) (de_callG c__law_spoilt_in gd rfl (hr.mono (by omega)) rfl tk (da_cons (de_var 2) (da_cons (de_ixX rfl (units1 hr) (de_var 6) de_int) da_nil)) rfl (la_cons (la_cons la_nil))) (de_var 6) de_int)
(dss_cons (ds_expr (de_meth PySem.F.plainAttrs_list PySem.F.slot_list_append PySem.F.type_list_append dm_append rfl (de_var 6) (da_cons (de_op (do_add rfl) (de_op (do_add rfl) (de_slice rfl (de_var 4) do_none (do_some de_int)) (de_tup (da_cons (de_callTy (dc_tuple rfl) rfl T.b_tuple (by decide +kernel) (da_cons (de_slice rfl (de_var 3) (do_some de_int) (do_some (de_op (do_add rfl) de_int (de_callG c__law_next gd rfl (hr.mono (by omega)) rfl tk (da_cons (de_var 2) (da_cons de_int da_nil)) rfl (la_cons (la_cons la_nil)))))) da_nil)) da_nil))) (de_slice rfl (de_var 4) (do_some de_int) do_none)) da_nil)))
(dss_cons (ds_expr (de_meth PySem.F.plainAttrs_list PySem.F.slot_list_append PySem.F.type_list_append dm_append rfl (de_var 6) (da_cons (de_op (do_add rfl) (de_op (do_add rfl) (de_slice rfl (de_var 4) do_none (do_some de_int)) (de_tup (da_cons (de_callTy (dc_tuple rfl) rfl T.b_tuple (by decide +kernel) (da_cons (de_slice rfl (de_var 3) do_none (do_some (de_op (do_add rfl) de_int (de_callG c__law_next gd rfl (hr.mono (by omega)) rfl tk (da_cons (de_var 2) (da_cons de_int da_nil)) rfl (la_cons (la_cons la_nil)))))) da_nil)) da_nil))) (de_slice rfl (de_var 4) (do_some de_int) do_none)) da_nil)))
(dss_cons (ds_forX po rfl rfl (de_var 6) (dg_name sc__law_right.nd rfl (by first | exact Or.inl rfl | exact Or.inr rfl))
(dss_cons (ds_set (i := 8) sc__law_right.nd rfl (Or.inl rfl) (de_and (de_callG c__law_like gd rfl (hr.mono (by omega)) rfl tk (da_cons (de_callTy (dc_listX rfl rfl) rfl T.b_list (by decide +kernel) (da_cons (de_slice rfl (de_var 7) (do_some de_int) do_none) da_nil)) (da_cons (de_lst (da_cons de_int (da_cons de_str da_nil))) da_nil)) rfl (la_cons (la_cons la_nil))) (de_one (de_cmp (do_eq rfl (units100 hr)) (de_callG c__law_next gd rfl (hr.mono (by omega)) rfl tk (da_cons (de_var 2) (da_cons de_int da_nil)) rfl (la_cons (la_cons la_nil))) de_int))))
(dss_cons (ds_set (i := 9) sc__law_right.nd rfl (Or.inl rfl) (de_callG c__law_made gd rfl (hr.mono (by omega)) rfl tk (da_cons (de_var 7) (da_cons (de_var 8) da_nil)) rfl (la_cons (la_cons la_nil))))
(dss_one (ds_if (dt_not (dt_val (de_callG c__law_race_right gd rfl (hr.mono (by omega)) rfl tk (da_cons (de_var 7) da_nil) rfl (la_cons la_nil))))
(dss_one (ds_if (dt_cmp do_notN (de_var 9) de_non)
(dss_one (ds_ret de_bl))
dss_nil))
(dss_one (ds_if (dt_not (dt_val (let ⟨_, q1, q2⟩ := T.is_Race; de_isC rfl T.own q2 (cn_own rfl q1) rfl T.b_isinstance (de_var 9))))
(dss_one (ds_ret de_bl))
(dss_cons (ds_set (i := 10) sc__law_right.nd rfl (Or.inl rfl) (de_lst (da_cons (de_fldC rfl T.fl_name (de_var 9)) (da_cons (de_fldC rfl T.fl_kind (de_var 9)) (da_cons (de_fldC rfl T.fl_choices (de_var 9)) (da_cons (de_fldC rfl T.fl_districts (de_var 9)) (da_cons (de_fldC rfl T.fl_seats (de_var 9)) (da_cons (de_fldC rfl T.fl_by (de_var 9)) da_nil))))))))
(dss_cons (ds_set (i := 11) sc__law_right.nd rfl (Or.inl rfl) (de_lst (da_cons (de_cmp (do_eqR c_Race__m___eq__ gd rfl T.own (hr.mono (by omega))) (de_var 9) (de_var 5)) (da_cons (de_cmp (do_eqR c_Race__m___eq__ gd rfl T.own (hr.mono (by omega))) (de_var 5) (de_var 9)) (da_cons (de_cmp (do_eqR c_Race__m___eq__ gd rfl T.own (hr.mono (by omega))) (de_var 9) (de_var 7)) da_nil)))))
(dss_one (ds_if (dt_not (dt_val (de_callG c__law_like gd rfl (hr.mono (by omega)) rfl tk (da_cons (de_lst (da_cons (de_var 10) (da_cons (de_var 11) da_nil))) (da_cons (de_lst (da_cons (de_callTy (dc_listX rfl rfl) rfl T.b_list (by decide +kernel) (da_cons (de_var 7) da_nil)) (da_cons (de_lst (da_cons (de_cmp (do_eq rfl (units100 hr)) (de_var 7) (de_var 4)) (da_cons (de_cmp (do_eq rfl (units100 hr)) (de_var 7) (de_var 4)) (da_cons de_bl da_nil)))) da_nil))) da_nil)) rfl (la_cons (la_cons la_nil)))))
(dss_one (ds_ret de_bl))
dss_nil)))))))))))
(dss_one (ds_ret de_bl)))))))))))

abbrev s_law : Stmt := top 59
theorem sc_law : FnScope ["_law_script", "_law_k", "_law_cell"] ["_law_script"] (defScope s_law) := ⟨rfl, rfl, rfl, by decide +kernel, rfl, by decide +kernel, by decide +kernel⟩
theorem ok_law {f : Addr} {fd : FuncData} (F : Fun K "law" "law" s_law f fd) (T : Txt K mg ca ce w) (c__law_right : DefG ⟨K, ca, ce⟩ P w mg base 15 "_law_right" 2 d__law_right) : FnG P w K mg base (L2.CX P w) 16 f fd ["_law_script"] (spD ⟨K, ca, ce⟩ 1 d_law) :=
fnG (G := ⟨K, ca, ce⟩) (N := ["_law_script", "_law_k", "_law_cell"]) .pure F sc_law fun cdv A outer s H E hr tk po gd =>
(dss_cons (ds_for po rfl (di_enumX rfl rfl T.b_enumerate (da_cons (de_slice rfl (de_op (do_add rfl) (de_var 0) (de_lst (da_cons de_int da_nil))) do_none (do_some (de_callB (dc_max2 rfl) rfl T.b_max (by decide +kernel) (da_cons de_int (da_cons (de_callB (dc_min2 rfl) rfl T.b_min (by decide +kernel) (da_cons de_int (da_cons (de_callB (dc_lenX rfl) rfl T.b_len (by decide +kernel) (da_cons (de_var 0) da_nil)) da_nil))) da_nil))))) da_nil)) (dg_tup rfl rfl (dgs_cons (dg_name sc_law.nd rfl (by first | exact Or.inl rfl | exact Or.inr rfl)) (dgs_cons (dg_name sc_law.nd rfl (by first | exact Or.inl rfl | exact Or.inr rfl)) dgs_nil)) (blen_cons (blen_cons blen_nil)))
(dss_one (ds_if (dt_not (dt_val (de_callG c__law_right gd rfl (hr.mono (by omega)) rfl tk (da_cons (de_var 2) (da_cons (de_var 1) da_nil)) rfl (la_cons (la_cons la_nil)))))
(dss_one (ds_ret de_bl))
dss_nil)))
(dss_one (ds_ret de_bl)))
end
end DW.K06
end
section
namespace DW.K06
open PySem L2 DO 
open DL hiding g__law_places_e1 g__law_places_c1 g__law_places_b1 g__law_places d__law_places g__law_strange d__law_strange
theorem all_mk {l : PySem.W.OpenLaw} {w : World} {K : PySem.W.Frag} {h : Heap} {mg : Str → Option Value} (X : K.In h) (G : h.Ns mainGlobals mg) {fa C1 f1 f2 f3 f4 f5 f6 f7 f8 f9 f10 f11 f12 f13 kD13 f14 f15 f16 f17 f18 f19 f20 f21 f22 f23 f24 f25 f26 f27 f28 f29 X_NoBits X_NoChain X_NoCode X_NoCount X_NoDay X_NoLetter X_NoLot X_NoMark X_NoName X_NoPhase X_NoPlace X_NoRace X_NoRow X_NoRuling X_NoStub X_NoText X_NoTime X_NoWay X_NotThere X_NotWhole X_Twice X_VoteError aG_KINDS aG_RANK_WAYS : Addr} {od1 an1 od2 an2 od3 an3 od4 an4 od5 an5 od6 an6 od7 an7 od8 an8 od9 an9 od10 an10 od11 an11 od12 an12 od13 an13 od14 an14 od15 an15 od16 an16 od17 an17 od18 an18 od19 an19 od20 an20 od21 an21 od22 an22 od23 an23 od24 an24 od25 an25 od26 an26 od27 an27 od28 an28 od29 an29 oG_KINDS oG_RANK_WAYS : Option Addr} {sl1 sl2 sl3 sl4 sl5 sl6 sl7 sl8 sl9 sl10 sl11 sl12 sl13 sl14 sl15 sl16 sl17 sl18 sl19 sl20 sl21 sl22 sl23 sl24 sl25 sl26 sl27 sl28 sl29 sG_KINDS sG_RANK_WAYS : Array (Option Value)} {oc1 dc1 pm1 cd1 ct1 kV1 oc2 dc2 pm2 cd2 ct2 kV2 oc3 dc3 pm3 cd3 ct3 kV3 oc4 dc4 pm4 cd4 ct4 kV4 oc5 dc5 pm5 cd5 ct5 kV5 oc6 dc6 pm6 cd6 ct6 kV6 oc7 dc7 pm7 cd7 ct7 kV7 oc8 dc8 pm8 cd8 ct8 kV8 oc9 dc9 pm9 cd9 ct9 kV9 oc10 dc10 pm10 cd10 ct10 kV10 oc11 dc11 pm11 cd11 ct11 kV11 oc12 dc12 pm12 cd12 ct12 kV12 oc13 dc13 pm13 cd13 ct13 oc14 dc14 pm14 cd14 ct14 kV14 oc15 dc15 pm15 cd15 ct15 kV15 oc16 dc16 pm16 cd16 ct16 kV16 oc17 dc17 pm17 cd17 ct17 kV17 oc18 dc18 pm18 cd18 ct18 kV18 oc19 dc19 pm19 cd19 ct19 kV19 oc20 dc20 pm20 cd20 ct20 kV20 oc21 dc21 pm21 cd21 ct21 kV21 oc22 dc22 pm22 cd22 ct22 kV22 oc23 dc23 pm23 cd23 ct23 kV23 oc24 dc24 pm24 cd24 ct24 kV24 oc25 dc25 pm25 cd25 ct25 kV25 oc26 dc26 pm26 cd26 ct26 kV26 oc27 dc27 pm27 cd27 ct27 kV27 oc28 dc28 pm28 cd28 ct28 kV28 oc29 dc29 pm29 cd29 ct29 kV29 : Value} {tq13_0 tq13_1 t_LETTERS t_MOST_CHOICES t_MOST_DISTRICTS t_MOST_LETTERS tG0_KINDS tG1_KINDS tG2_KINDS tG0_RANK_WAYS tG1_RANK_WAYS tG2_RANK_WAYS : Tok} {nG_KINDS nG_RANK_WAYS : Nat} (hfa : mg "law" = some (.ref fa))
    (A1 : PySem.W.nsIn K mainGlobals "Race" = some (some (.ref C1)))
    (pg1 : PySem.W.plainGet K C1 Str.empty = true)
    (hd1 : PySem.W.hasDictIn K C1 = true)
    (po1 : PySem.W.plainOver K C1 = true)
    (sa1 : PySem.W.findIn K (.ref C1) "__setattr__" = some (some (.builtin "object.__setattr__")))
    (ha1 : PySem.W.findIn K (.ref C1) "__class__" = some (some (.builtin "object.__class__")))
    (hn1 : PySem.W.specialIn K (.builtin "object.__class__") "__get__" = some (some (.builtin "getset_descriptor.__get__")))
    (ht1 : PySem.W.takesIn K (.builtin "object.__class__") = some true)
    (hm1 : PySem.W.mroIn K C1 (.type "object") = some true)
    (ic1 : PySem.W.isClsIn K C1 = true)
    (tc1 : PySem.W.typeIn K (.ref C1) = some (.type "type"))
    (n1_by : PySem.W.findIn K (.ref C1) "by" = some none)
    (n1_choices : PySem.W.findIn K (.ref C1) "choices" = some none)
    (n1_districts : PySem.W.findIn K (.ref C1) "districts" = some none)
    (n1_kind : PySem.W.findIn K (.ref C1) "kind" = some none)
    (n1_name : PySem.W.findIn K (.ref C1) "name" = some none)
    (n1_seats : PySem.W.findIn K (.ref C1) "seats" = some none)
    (m1_bool : PySem.W.mroIn K C1 (.type "bool") = some false)
    (m1_dict : PySem.W.mroIn K C1 (.type "dict") = some false)
    (m1_int : PySem.W.mroIn K C1 (.type "int") = some false)
    (m1_list : PySem.W.mroIn K C1 (.type "list") = some false)
    (m1_str : PySem.W.mroIn K C1 (.type "str") = some false)
    (m1_tuple : PySem.W.mroIn K C1 (.type "tuple") = some false)
    (m1_1 : PySem.W.mroIn K C1 (.ref C1) = some (decide (("Race" : Str) = "Race")))
    (mk1 : PySem.W.makesIn K C1 = true)
    (kc1 : PySem.W.keepIn K (.ref C1) = true)
    (a1 : PySem.W.nsIn K mainGlobals "_law_begun" = some (some (.ref f1)))
    (l1 : K.lookup f1 = some ⟨oc1, od1, .func (PySem.W.fnOf "_law_begun" "_law_begun" (defArgs s__law_begun) (defBody s__law_begun) (defScope s__law_begun) .none kV1 dc1 pm1 an1 cd1 ct1), sl1⟩)
    (c1 : PySem.W.codeIn K cd1 "_law_begun" = true)
    (k1 : PySem.W.keepIn K (.ref f1) = true)
    (a2 : PySem.W.nsIn K mainGlobals "_law_next" = some (some (.ref f2)))
    (l2 : K.lookup f2 = some ⟨oc2, od2, .func (PySem.W.fnOf "_law_next" "_law_next" (defArgs s__law_next) (defBody s__law_next) (defScope s__law_next) .none kV2 dc2 pm2 an2 cd2 ct2), sl2⟩)
    (c2 : PySem.W.codeIn K cd2 "_law_next" = true)
    (k2 : PySem.W.keepIn K (.ref f2) = true)
    (a3 : PySem.W.nsIn K mainGlobals "_law_names" = some (some (.ref f3)))
    (l3 : K.lookup f3 = some ⟨oc3, od3, .func (PySem.W.fnOf "_law_names" "_law_names" (defArgs s__law_names) (defBody s__law_names) (defScope s__law_names) .none kV3 dc3 pm3 an3 cd3 ct3), sl3⟩)
    (c3 : PySem.W.codeIn K cd3 "_law_names" = true)
    (k3 : PySem.W.keepIn K (.ref f3) = true)
    (a4 : PySem.W.nsIn K mainGlobals "_law_pick" = some (some (.ref f4)))
    (l4 : K.lookup f4 = some ⟨oc4, od4, .func (PySem.W.fnOf "_law_pick" "_law_pick" (defArgs s__law_pick) (defBody s__law_pick) (defScope s__law_pick) .none kV4 dc4 pm4 an4 cd4 ct4), sl4⟩)
    (c4 : PySem.W.codeIn K cd4 "_law_pick" = true)
    (k4 : PySem.W.keepIn K (.ref f4) = true)
    (a5 : PySem.W.nsIn K mainGlobals "_law_shuffled" = some (some (.ref f5)))
    (l5 : K.lookup f5 = some ⟨oc5, od5, .func (PySem.W.fnOf "_law_shuffled" "_law_shuffled" (defArgs s__law_shuffled) (defBody s__law_shuffled) (defScope s__law_shuffled) .none kV5 dc5 pm5 an5 cd5 ct5), sl5⟩)
    (c5 : PySem.W.codeIn K cd5 "_law_shuffled" = true)
    (k5 : PySem.W.keepIn K (.ref f5) = true)
    (a6 : PySem.W.nsIn K mainGlobals "_law_race_parts" = some (some (.ref f6)))
    (l6 : K.lookup f6 = some ⟨oc6, od6, .func (PySem.W.fnOf "_law_race_parts" "_law_race_parts" (defArgs s__law_race_parts) (defBody s__law_race_parts) (defScope s__law_race_parts) .none kV6 dc6 pm6 an6 cd6 ct6), sl6⟩)
    (c6 : PySem.W.codeIn K cd6 "_law_race_parts" = true)
    (k6 : PySem.W.keepIn K (.ref f6) = true)
    (a7 : PySem.W.nsIn K mainGlobals "is_name" = some (some (.ref f7)))
    (l7 : K.lookup f7 = some ⟨oc7, od7, .func (PySem.W.fnOf "is_name" "is_name" (defArgs s_is_name) (defBody s_is_name) (defScope s_is_name) .none kV7 dc7 pm7 an7 cd7 ct7), sl7⟩)
    (c7 : PySem.W.codeIn K cd7 "is_name" = true)
    (k7 : PySem.W.keepIn K (.ref f7) = true)
    (a8 : PySem.W.nsIn K mainGlobals "are_unlike_names" = some (some (.ref f8)))
    (l8 : K.lookup f8 = some ⟨oc8, od8, .func (PySem.W.fnOf "are_unlike_names" "are_unlike_names" (defArgs s_are_unlike_names) (defBody s_are_unlike_names) (defScope s_are_unlike_names) .none kV8 dc8 pm8 an8 cd8 ct8), sl8⟩)
    (c8 : PySem.W.codeIn K cd8 "are_unlike_names" = true)
    (k8 : PySem.W.keepIn K (.ref f8) = true)
    (a9 : PySem.W.nsIn K mainGlobals "is_one_of" = some (some (.ref f9)))
    (l9 : K.lookup f9 = some ⟨oc9, od9, .func (PySem.W.fnOf "is_one_of" "is_one_of" (defArgs s_is_one_of) (defBody s_is_one_of) (defScope s_is_one_of) .none kV9 dc9 pm9 an9 cd9 ct9), sl9⟩)
    (c9 : PySem.W.codeIn K cd9 "is_one_of" = true)
    (k9 : PySem.W.keepIn K (.ref f9) = true)
    (a10 : PySem.W.nsIn K mainGlobals "is_whole" = some (some (.ref f10)))
    (l10 : K.lookup f10 = some ⟨oc10, od10, .func (PySem.W.fnOf "is_whole" "is_whole" (defArgs s_is_whole) (defBody s_is_whole) (defScope s_is_whole) .none kV10 dc10 pm10 an10 cd10 ct10), sl10⟩)
    (c10 : PySem.W.codeIn K cd10 "is_whole" = true)
    (k10 : PySem.W.keepIn K (.ref f10) = true)
    (a11 : PySem.W.nsIn K mainGlobals "is_between" = some (some (.ref f11)))
    (l11 : K.lookup f11 = some ⟨oc11, od11, .func (PySem.W.fnOf "is_between" "is_between" (defArgs s_is_between) (defBody s_is_between) (defScope s_is_between) .none kV11 dc11 pm11 an11 cd11 ct11), sl11⟩)
    (c11 : PySem.W.codeIn K cd11 "is_between" = true)
    (k11 : PySem.W.keepIn K (.ref f11) = true)
    (a12 : PySem.W.nsIn K mainGlobals "is_way" = some (some (.ref f12)))
    (l12 : K.lookup f12 = some ⟨oc12, od12, .func (PySem.W.fnOf "is_way" "is_way" (defArgs s_is_way) (defBody s_is_way) (defScope s_is_way) .none kV12 dc12 pm12 an12 cd12 ct12), sl12⟩)
    (c12 : PySem.W.codeIn K cd12 "is_way" = true)
    (k12 : PySem.W.keepIn K (.ref f12) = true)
    (a13 : PySem.W.findIn K (.ref C1) "__init__" = some (some (.ref f13)))
    (i13 : PySem.W.isFn K (.ref f13) = true)
    (l13 : K.lookup f13 = some ⟨oc13, od13, .func (PySem.W.fnOf "__init__" "Race.__init__" (defArgs s_Race_init) (defBody s_Race_init) (defScope s_Race_init) .none (.ref kD13) dc13 pm13 an13 cd13 ct13), sl13⟩)
    (c13 : PySem.W.codeIn K cd13 "Race.__init__" = true)
    (k13 : PySem.W.keepIn K (.ref f13) = true)
    (q13_0 : PySem.W.nsIn K kD13 "seats" = some (some (.int (1) tq13_0)))
    (q13_1 : PySem.W.nsIn K kD13 "by" = some (some (.str "" tq13_1)))
    (a14 : PySem.W.nsIn K mainGlobals "_law_race" = some (some (.ref f14)))
    (l14 : K.lookup f14 = some ⟨oc14, od14, .func (PySem.W.fnOf "_law_race" "_law_race" (defArgs s__law_race) (defBody s__law_race) (defScope s__law_race) .none kV14 dc14 pm14 an14 cd14 ct14), sl14⟩)
    (c14 : PySem.W.codeIn K cd14 "_law_race" = true)
    (k14 : PySem.W.keepIn K (.ref f14) = true)
    (a15 : PySem.W.nsIn K mainGlobals "_law_with" = some (some (.ref f15)))
    (l15 : K.lookup f15 = some ⟨oc15, od15, .func (PySem.W.fnOf "_law_with" "_law_with" (defArgs s__law_with) (defBody s__law_with) (defScope s__law_with) .none kV15 dc15 pm15 an15 cd15 ct15), sl15⟩)
    (c15 : PySem.W.codeIn K cd15 "_law_with" = true)
    (k15 : PySem.W.keepIn K (.ref f15) = true)
    (a16 : PySem.W.nsIn K mainGlobals "_law_strange" = some (some (.ref f16)))
    (l16 : K.lookup f16 = some ⟨oc16, od16, .func (PySem.W.fnOf "_law_strange" "_law_strange" (defArgs s__law_strange) (defBody s__law_strange) (defScope s__law_strange) .none kV16 dc16 pm16 an16 cd16 ct16), sl16⟩)
    (c16 : PySem.W.codeIn K cd16 "_law_strange" = true)
    (k16 : PySem.W.keepIn K (.ref f16) = true)
    (a17 : PySem.W.nsIn K mainGlobals "_law_places" = some (some (.ref f17)))
    (l17 : K.lookup f17 = some ⟨oc17, od17, .func (PySem.W.fnOf "_law_places" "_law_places" (defArgs s__law_places) (defBody s__law_places) (defScope s__law_places) .none kV17 dc17 pm17 an17 cd17 ct17), sl17⟩)
    (c17 : PySem.W.codeIn K cd17 "_law_places" = true)
    (k17 : PySem.W.keepIn K (.ref f17) = true)
    (a18 : PySem.W.nsIn K mainGlobals "_law_at" = some (some (.ref f18)))
    (l18 : K.lookup f18 = some ⟨oc18, od18, .func (PySem.W.fnOf "_law_at" "_law_at" (defArgs s__law_at) (defBody s__law_at) (defScope s__law_at) .none kV18 dc18 pm18 an18 cd18 ct18), sl18⟩)
    (c18 : PySem.W.codeIn K cd18 "_law_at" = true)
    (k18 : PySem.W.keepIn K (.ref f18) = true)
    (a19 : PySem.W.nsIn K mainGlobals "_law_spoilt_in" = some (some (.ref f19)))
    (l19 : K.lookup f19 = some ⟨oc19, od19, .func (PySem.W.fnOf "_law_spoilt_in" "_law_spoilt_in" (defArgs s__law_spoilt_in) (defBody s__law_spoilt_in) (defScope s__law_spoilt_in) .none kV19 dc19 pm19 an19 cd19 ct19), sl19⟩)
    (c19 : PySem.W.codeIn K cd19 "_law_spoilt_in" = true)
    (k19 : PySem.W.keepIn K (.ref f19) = true)
    (a20 : PySem.W.nsIn K mainGlobals "_law_alone" = some (some (.ref f20)))
    (l20 : K.lookup f20 = some ⟨oc20, od20, .func (PySem.W.fnOf "_law_alone" "_law_alone" (defArgs s__law_alone) (defBody s__law_alone) (defScope s__law_alone) .none kV20 dc20 pm20 an20 cd20 ct20), sl20⟩)
    (c20 : PySem.W.codeIn K cd20 "_law_alone" = true)
    (k20 : PySem.W.keepIn K (.ref f20) = true)
    (a21 : PySem.W.nsIn K mainGlobals "_law_made" = some (some (.ref f21)))
    (l21 : K.lookup f21 = some ⟨oc21, od21, .func (PySem.W.fnOf "_law_made" "_law_made" (defArgs s__law_made) (defBody s__law_made) (defScope s__law_made) .none kV21 dc21 pm21 an21 cd21 ct21), sl21⟩)
    (c21 : PySem.W.codeIn K cd21 "_law_made" = true)
    (k21 : PySem.W.keepIn K (.ref f21) = true)
    (a22 : PySem.W.nsIn K mainGlobals "_law_like" = some (some (.ref f22)))
    (l22 : K.lookup f22 = some ⟨oc22, od22, .func (PySem.W.fnOf "_law_like" "_law_like" (defArgs s__law_like) (defBody s__law_like) (defScope s__law_like) .none kV22 dc22 pm22 an22 cd22 ct22), sl22⟩)
    (c22 : PySem.W.codeIn K cd22 "_law_like" = true)
    (k22 : PySem.W.keepIn K (.ref f22) = true)
    (a23 : PySem.W.nsIn K mainGlobals "_law_name_right" = some (some (.ref f23)))
    (l23 : K.lookup f23 = some ⟨oc23, od23, .func (PySem.W.fnOf "_law_name_right" "_law_name_right" (defArgs s__law_name_right) (defBody s__law_name_right) (defScope s__law_name_right) .none kV23 dc23 pm23 an23 cd23 ct23), sl23⟩)
    (c23 : PySem.W.codeIn K cd23 "_law_name_right" = true)
    (k23 : PySem.W.keepIn K (.ref f23) = true)
    (a24 : PySem.W.nsIn K mainGlobals "_law_names_right" = some (some (.ref f24)))
    (l24 : K.lookup f24 = some ⟨oc24, od24, .func (PySem.W.fnOf "_law_names_right" "_law_names_right" (defArgs s__law_names_right) (defBody s__law_names_right) (defScope s__law_names_right) .none kV24 dc24 pm24 an24 cd24 ct24), sl24⟩)
    (c24 : PySem.W.codeIn K cd24 "_law_names_right" = true)
    (k24 : PySem.W.keepIn K (.ref f24) = true)
    (a25 : PySem.W.nsIn K mainGlobals "_law_between" = some (some (.ref f25)))
    (l25 : K.lookup f25 = some ⟨oc25, od25, .func (PySem.W.fnOf "_law_between" "_law_between" (defArgs s__law_between) (defBody s__law_between) (defScope s__law_between) .none kV25 dc25 pm25 an25 cd25 ct25), sl25⟩)
    (c25 : PySem.W.codeIn K cd25 "_law_between" = true)
    (k25 : PySem.W.keepIn K (.ref f25) = true)
    (a26 : PySem.W.nsIn K mainGlobals "_law_race_right" = some (some (.ref f26)))
    (l26 : K.lookup f26 = some ⟨oc26, od26, .func (PySem.W.fnOf "_law_race_right" "_law_race_right" (defArgs s__law_race_right) (defBody s__law_race_right) (defScope s__law_race_right) .none kV26 dc26 pm26 an26 cd26 ct26), sl26⟩)
    (c26 : PySem.W.codeIn K cd26 "_law_race_right" = true)
    (k26 : PySem.W.keepIn K (.ref f26) = true)
    (a27 : PySem.W.findIn K (.ref C1) "__eq__" = some (some (.ref f27)))
    (i27 : PySem.W.isFn K (.ref f27) = true)
    (l27 : K.lookup f27 = some ⟨oc27, od27, .func (PySem.W.fnOf "__eq__" "Race.__eq__" (defArgs s_Race_eq) (defBody s_Race_eq) (defScope s_Race_eq) .none kV27 dc27 pm27 an27 cd27 ct27), sl27⟩)
    (c27 : PySem.W.codeIn K cd27 "Race.__eq__" = true)
    (k27 : PySem.W.keepIn K (.ref f27) = true)
    (a28 : PySem.W.nsIn K mainGlobals "_law_right" = some (some (.ref f28)))
    (l28 : K.lookup f28 = some ⟨oc28, od28, .func (PySem.W.fnOf "_law_right" "_law_right" (defArgs s__law_right) (defBody s__law_right) (defScope s__law_right) .none kV28 dc28 pm28 an28 cd28 ct28), sl28⟩)
    (c28 : PySem.W.codeIn K cd28 "_law_right" = true)
    (k28 : PySem.W.keepIn K (.ref f28) = true)
    (a29 : PySem.W.nsIn K mainGlobals "law" = some (some (.ref f29)))
    (l29 : K.lookup f29 = some ⟨oc29, od29, .func (PySem.W.fnOf "law" "law" (defArgs s_law) (defBody s_law) (defScope s_law) .none kV29 dc29 pm29 an29 cd29 ct29), sl29⟩)
    (c29 : PySem.W.codeIn K cd29 "law" = true)
    (k29 : PySem.W.keepIn K (.ref f29) = true)
    (AX_NoBits : PySem.W.nsIn K mainGlobals "NoBits" = some (some (.ref X_NoBits)))
    (AX_NoChain : PySem.W.nsIn K mainGlobals "NoChain" = some (some (.ref X_NoChain)))
    (AX_NoCode : PySem.W.nsIn K mainGlobals "NoCode" = some (some (.ref X_NoCode)))
    (AX_NoCount : PySem.W.nsIn K mainGlobals "NoCount" = some (some (.ref X_NoCount)))
    (AX_NoDay : PySem.W.nsIn K mainGlobals "NoDay" = some (some (.ref X_NoDay)))
    (AX_NoLetter : PySem.W.nsIn K mainGlobals "NoLetter" = some (some (.ref X_NoLetter)))
    (AX_NoLot : PySem.W.nsIn K mainGlobals "NoLot" = some (some (.ref X_NoLot)))
    (AX_NoMark : PySem.W.nsIn K mainGlobals "NoMark" = some (some (.ref X_NoMark)))
    (AX_NoName : PySem.W.nsIn K mainGlobals "NoName" = some (some (.ref X_NoName)))
    (AX_NoPhase : PySem.W.nsIn K mainGlobals "NoPhase" = some (some (.ref X_NoPhase)))
    (AX_NoPlace : PySem.W.nsIn K mainGlobals "NoPlace" = some (some (.ref X_NoPlace)))
    (AX_NoRace : PySem.W.nsIn K mainGlobals "NoRace" = some (some (.ref X_NoRace)))
    (AX_NoRow : PySem.W.nsIn K mainGlobals "NoRow" = some (some (.ref X_NoRow)))
    (AX_NoRuling : PySem.W.nsIn K mainGlobals "NoRuling" = some (some (.ref X_NoRuling)))
    (AX_NoStub : PySem.W.nsIn K mainGlobals "NoStub" = some (some (.ref X_NoStub)))
    (AX_NoText : PySem.W.nsIn K mainGlobals "NoText" = some (some (.ref X_NoText)))
    (AX_NoTime : PySem.W.nsIn K mainGlobals "NoTime" = some (some (.ref X_NoTime)))
    (AX_NoWay : PySem.W.nsIn K mainGlobals "NoWay" = some (some (.ref X_NoWay)))
    (AX_NotThere : PySem.W.nsIn K mainGlobals "NotThere" = some (some (.ref X_NotThere)))
    (AX_NotWhole : PySem.W.nsIn K mainGlobals "NotWhole" = some (some (.ref X_NotWhole)))
    (AX_Twice : PySem.W.nsIn K mainGlobals "Twice" = some (some (.ref X_Twice)))
    (AX_VoteError : PySem.W.nsIn K mainGlobals "VoteError" = some (some (.ref X_VoteError)))
    (xi_NoRace : PySem.W.excIn K X_NoRace [.type "ValueError", .type "Exception", .type "BaseException", .type "object"] "ValueError.__new__" = true)
    (xk_NoRace : PySem.W.keepIn K (.ref X_NoRace) = true)
    (xs_NoRace : PySem.W.subIn K (.ref X_NoRace) (.type "BaseException") = some true)
    (xt_NoRace : PySem.W.typeIn K (.ref X_NoRace) = some (.type "type"))
    (xm_NoRace_VoteError : PySem.W.mroIn K X_NoRace (.ref X_VoteError) = some ((fun _ => true) "NoRace"))
    (xn_NoRace_NoBits : PySem.W.mroIn K X_NoRace (.ref X_NoBits) = some ((fun c => decide (c = "NoBits")) "NoRace"))
    (xn_NoRace_NoChain : PySem.W.mroIn K X_NoRace (.ref X_NoChain) = some ((fun c => decide (c = "NoChain")) "NoRace"))
    (xn_NoRace_NoCode : PySem.W.mroIn K X_NoRace (.ref X_NoCode) = some ((fun c => decide (c = "NoCode")) "NoRace"))
    (xn_NoRace_NoCount : PySem.W.mroIn K X_NoRace (.ref X_NoCount) = some ((fun c => decide (c = "NoCount")) "NoRace"))
    (xn_NoRace_NoDay : PySem.W.mroIn K X_NoRace (.ref X_NoDay) = some ((fun c => decide (c = "NoDay")) "NoRace"))
    (xn_NoRace_NoLetter : PySem.W.mroIn K X_NoRace (.ref X_NoLetter) = some ((fun c => decide (c = "NoLetter")) "NoRace"))
    (xn_NoRace_NoLot : PySem.W.mroIn K X_NoRace (.ref X_NoLot) = some ((fun c => decide (c = "NoLot")) "NoRace"))
    (xn_NoRace_NoMark : PySem.W.mroIn K X_NoRace (.ref X_NoMark) = some ((fun c => decide (c = "NoMark")) "NoRace"))
    (xn_NoRace_NoName : PySem.W.mroIn K X_NoRace (.ref X_NoName) = some ((fun c => decide (c = "NoName")) "NoRace"))
    (xn_NoRace_NoPhase : PySem.W.mroIn K X_NoRace (.ref X_NoPhase) = some ((fun c => decide (c = "NoPhase")) "NoRace"))
    (xn_NoRace_NoPlace : PySem.W.mroIn K X_NoRace (.ref X_NoPlace) = some ((fun c => decide (c = "NoPlace")) "NoRace"))
    (xn_NoRace_NoRace : PySem.W.mroIn K X_NoRace (.ref X_NoRace) = some ((fun c => decide (c = "NoRace")) "NoRace"))
    (xn_NoRace_NoRow : PySem.W.mroIn K X_NoRace (.ref X_NoRow) = some ((fun c => decide (c = "NoRow")) "NoRace"))
    (xn_NoRace_NoRuling : PySem.W.mroIn K X_NoRace (.ref X_NoRuling) = some ((fun c => decide (c = "NoRuling")) "NoRace"))
    (xn_NoRace_NoStub : PySem.W.mroIn K X_NoRace (.ref X_NoStub) = some ((fun c => decide (c = "NoStub")) "NoRace"))
    (xn_NoRace_NoText : PySem.W.mroIn K X_NoRace (.ref X_NoText) = some ((fun c => decide (c = "NoText")) "NoRace"))
    (xn_NoRace_NoTime : PySem.W.mroIn K X_NoRace (.ref X_NoTime) = some ((fun c => decide (c = "NoTime")) "NoRace"))
    (xn_NoRace_NoWay : PySem.W.mroIn K X_NoRace (.ref X_NoWay) = some ((fun c => decide (c = "NoWay")) "NoRace"))
    (xn_NoRace_NotThere : PySem.W.mroIn K X_NoRace (.ref X_NotThere) = some ((fun c => decide (c = "NotThere")) "NoRace"))
    (xn_NoRace_NotWhole : PySem.W.mroIn K X_NoRace (.ref X_NotWhole) = some ((fun c => decide (c = "NotWhole")) "NoRace"))
    (xn_NoRace_Twice : PySem.W.mroIn K X_NoRace (.ref X_Twice) = some ((fun c => decide (c = "Twice")) "NoRace"))
    (xn_NoRace_VoteError : PySem.W.mroIn K X_NoRace (.ref X_VoteError) = some ((fun _ => true) "NoRace"))
    (xv_NoRace : PySem.W.mroIn K X_NoRace (.type "ValueError") = some true)
    (xg_NoRace : PySem.W.findIn K (.ref X_NoRace) "__getattribute__" = some (some (.builtin "BaseException.__getattribute__")))
    (xh_NoRace : PySem.W.findIn K (.ref X_NoRace) "__getattr__" = some none)
    (xp_NoRace : PySem.W.hasDictIn K X_NoRace = true)
    (xa_NoRace : PySem.W.findIn K (.ref X_NoRace) "__class__" = some (some (.builtin "object.__class__")))
    (xo_NoRace : PySem.W.mroIn K X_NoRace (.type "object") = some true)
    (xbs_VoteError : PySem.W.subIn K (.ref X_VoteError) (.type "BaseException") = some true)
    (xbd_VoteError : PySem.W.hasDictIn K X_VoteError = true)
    (xbt_VoteError : PySem.W.typeIn K (.ref X_VoteError) = some (.type "type"))
    (mv1 : PySem.W.mroIn K C1 (.type "ValueError") = some false)
    (xq1 : PySem.W.specialIn K (.builtin "object.__class__") "__get__" = some (some (.builtin "getset_descriptor.__get__")))
    (xq2 : PySem.W.takesIn K (.builtin "object.__class__") = some true)
    (xc_NoBits : PySem.W.isClsIn K X_NoBits = true)
    (xy_NoBits : PySem.W.typeIn K (.ref X_NoBits) = some (.type "type"))
    (xz_NoBits : PySem.W.mroIn K X_NoBits (.ref X_NoBits) = some true)
    (xw1_NoBits : PySem.W.mroIn K C1 (.ref X_NoBits) = some false)
    (xc_NoChain : PySem.W.isClsIn K X_NoChain = true)
    (xy_NoChain : PySem.W.typeIn K (.ref X_NoChain) = some (.type "type"))
    (xz_NoChain : PySem.W.mroIn K X_NoChain (.ref X_NoChain) = some true)
    (xw1_NoChain : PySem.W.mroIn K C1 (.ref X_NoChain) = some false)
    (xc_NoCode : PySem.W.isClsIn K X_NoCode = true)
    (xy_NoCode : PySem.W.typeIn K (.ref X_NoCode) = some (.type "type"))
    (xz_NoCode : PySem.W.mroIn K X_NoCode (.ref X_NoCode) = some true)
    (xw1_NoCode : PySem.W.mroIn K C1 (.ref X_NoCode) = some false)
    (xc_NoCount : PySem.W.isClsIn K X_NoCount = true)
    (xy_NoCount : PySem.W.typeIn K (.ref X_NoCount) = some (.type "type"))
    (xz_NoCount : PySem.W.mroIn K X_NoCount (.ref X_NoCount) = some true)
    (xw1_NoCount : PySem.W.mroIn K C1 (.ref X_NoCount) = some false)
    (xc_NoDay : PySem.W.isClsIn K X_NoDay = true)
    (xy_NoDay : PySem.W.typeIn K (.ref X_NoDay) = some (.type "type"))
    (xz_NoDay : PySem.W.mroIn K X_NoDay (.ref X_NoDay) = some true)
    (xw1_NoDay : PySem.W.mroIn K C1 (.ref X_NoDay) = some false)
    (xc_NoLetter : PySem.W.isClsIn K X_NoLetter = true)
    (xy_NoLetter : PySem.W.typeIn K (.ref X_NoLetter) = some (.type "type"))
    (xz_NoLetter : PySem.W.mroIn K X_NoLetter (.ref X_NoLetter) = some true)
    (xw1_NoLetter : PySem.W.mroIn K C1 (.ref X_NoLetter) = some false)
    (xc_NoLot : PySem.W.isClsIn K X_NoLot = true)
    (xy_NoLot : PySem.W.typeIn K (.ref X_NoLot) = some (.type "type"))
    (xz_NoLot : PySem.W.mroIn K X_NoLot (.ref X_NoLot) = some true)
    (xw1_NoLot : PySem.W.mroIn K C1 (.ref X_NoLot) = some false)
    (xc_NoMark : PySem.W.isClsIn K X_NoMark = true)
    (xy_NoMark : PySem.W.typeIn K (.ref X_NoMark) = some (.type "type"))
    (xz_NoMark : PySem.W.mroIn K X_NoMark (.ref X_NoMark) = some true)
    (xw1_NoMark : PySem.W.mroIn K C1 (.ref X_NoMark) = some false)
    (xc_NoName : PySem.W.isClsIn K X_NoName = true)
    (xy_NoName : PySem.W.typeIn K (.ref X_NoName) = some (.type "type"))
    (xz_NoName : PySem.W.mroIn K X_NoName (.ref X_NoName) = some true)
    (xw1_NoName : PySem.W.mroIn K C1 (.ref X_NoName) = some false)
    (xc_NoPhase : PySem.W.isClsIn K X_NoPhase = true)
    (xy_NoPhase : PySem.W.typeIn K (.ref X_NoPhase) = some (.type "type"))
    (xz_NoPhase : PySem.W.mroIn K X_NoPhase (.ref X_NoPhase) = some true)
    (xw1_NoPhase : PySem.W.mroIn K C1 (.ref X_NoPhase) = some false)
    (xc_NoPlace : PySem.W.isClsIn K X_NoPlace = true)
    (xy_NoPlace : PySem.W.typeIn K (.ref X_NoPlace) = some (.type "type"))
    (xz_NoPlace : PySem.W.mroIn K X_NoPlace (.ref X_NoPlace) = some true)
    (xw1_NoPlace : PySem.W.mroIn K C1 (.ref X_NoPlace) = some false)
    (xc_NoRace : PySem.W.isClsIn K X_NoRace = true)
    (xy_NoRace : PySem.W.typeIn K (.ref X_NoRace) = some (.type "type"))
    (xz_NoRace : PySem.W.mroIn K X_NoRace (.ref X_NoRace) = some true)
    (xw1_NoRace : PySem.W.mroIn K C1 (.ref X_NoRace) = some false)
    (xc_NoRow : PySem.W.isClsIn K X_NoRow = true)
    (xy_NoRow : PySem.W.typeIn K (.ref X_NoRow) = some (.type "type"))
    (xz_NoRow : PySem.W.mroIn K X_NoRow (.ref X_NoRow) = some true)
    (xw1_NoRow : PySem.W.mroIn K C1 (.ref X_NoRow) = some false)
    (xc_NoRuling : PySem.W.isClsIn K X_NoRuling = true)
    (xy_NoRuling : PySem.W.typeIn K (.ref X_NoRuling) = some (.type "type"))
    (xz_NoRuling : PySem.W.mroIn K X_NoRuling (.ref X_NoRuling) = some true)
    (xw1_NoRuling : PySem.W.mroIn K C1 (.ref X_NoRuling) = some false)
    (xc_NoStub : PySem.W.isClsIn K X_NoStub = true)
    (xy_NoStub : PySem.W.typeIn K (.ref X_NoStub) = some (.type "type"))
    (xz_NoStub : PySem.W.mroIn K X_NoStub (.ref X_NoStub) = some true)
    (xw1_NoStub : PySem.W.mroIn K C1 (.ref X_NoStub) = some false)
    (xc_NoText : PySem.W.isClsIn K X_NoText = true)
    (xy_NoText : PySem.W.typeIn K (.ref X_NoText) = some (.type "type"))
    (xz_NoText : PySem.W.mroIn K X_NoText (.ref X_NoText) = some true)
    (xw1_NoText : PySem.W.mroIn K C1 (.ref X_NoText) = some false)
    (xc_NoTime : PySem.W.isClsIn K X_NoTime = true)
    (xy_NoTime : PySem.W.typeIn K (.ref X_NoTime) = some (.type "type"))
    (xz_NoTime : PySem.W.mroIn K X_NoTime (.ref X_NoTime) = some true)
    (xw1_NoTime : PySem.W.mroIn K C1 (.ref X_NoTime) = some false)
    (xc_NoWay : PySem.W.isClsIn K X_NoWay = true)
    (xy_NoWay : PySem.W.typeIn K (.ref X_NoWay) = some (.type "type"))
    (xz_NoWay : PySem.W.mroIn K X_NoWay (.ref X_NoWay) = some true)
    (xw1_NoWay : PySem.W.mroIn K C1 (.ref X_NoWay) = some false)
    (xc_NotThere : PySem.W.isClsIn K X_NotThere = true)
    (xy_NotThere : PySem.W.typeIn K (.ref X_NotThere) = some (.type "type"))
    (xz_NotThere : PySem.W.mroIn K X_NotThere (.ref X_NotThere) = some true)
    (xw1_NotThere : PySem.W.mroIn K C1 (.ref X_NotThere) = some false)
    (xc_NotWhole : PySem.W.isClsIn K X_NotWhole = true)
    (xy_NotWhole : PySem.W.typeIn K (.ref X_NotWhole) = some (.type "type"))
    (xz_NotWhole : PySem.W.mroIn K X_NotWhole (.ref X_NotWhole) = some true)
    (xw1_NotWhole : PySem.W.mroIn K C1 (.ref X_NotWhole) = some false)
    (xc_Twice : PySem.W.isClsIn K X_Twice = true)
    (xy_Twice : PySem.W.typeIn K (.ref X_Twice) = some (.type "type"))
    (xz_Twice : PySem.W.mroIn K X_Twice (.ref X_Twice) = some true)
    (xw1_Twice : PySem.W.mroIn K C1 (.ref X_Twice) = some false)
    (xc_VoteError : PySem.W.isClsIn K X_VoteError = true)
    (xy_VoteError : PySem.W.typeIn K (.ref X_VoteError) = some (.type "type"))
    (xz_VoteError : PySem.W.mroIn K X_VoteError (.ref X_VoteError) = some true)
    (xw1_VoteError : PySem.W.mroIn K C1 (.ref X_VoteError) = some false)
    (z_ValueError : PySem.W.nsIn K mainGlobals "ValueError" = some none)
    (z_all : PySem.W.nsIn K mainGlobals "all" = some none)
    (z_bool : PySem.W.nsIn K mainGlobals "bool" = some none)
    (z_dict : PySem.W.nsIn K mainGlobals "dict" = some none)
    (z_enumerate : PySem.W.nsIn K mainGlobals "enumerate" = some none)
    (z_int : PySem.W.nsIn K mainGlobals "int" = some none)
    (z_isinstance : PySem.W.nsIn K mainGlobals "isinstance" = some none)
    (z_len : PySem.W.nsIn K mainGlobals "len" = some none)
    (z_list : PySem.W.nsIn K mainGlobals "list" = some none)
    (z_max : PySem.W.nsIn K mainGlobals "max" = some none)
    (z_min : PySem.W.nsIn K mainGlobals "min" = some none)
    (z_range : PySem.W.nsIn K mainGlobals "range" = some none)
    (z_set : PySem.W.nsIn K mainGlobals "set" = some none)
    (z_str : PySem.W.nsIn K mainGlobals "str" = some none)
    (z_tuple : PySem.W.nsIn K mainGlobals "tuple" = some none)
    (y_LETTERS : PySem.W.nsIn K mainGlobals "LETTERS" = some (some (.str "abcdefghijklmnopqrstuvwxyz" t_LETTERS)))
    (y_MOST_CHOICES : PySem.W.nsIn K mainGlobals "MOST_CHOICES" = some (some (.int (5) t_MOST_CHOICES)))
    (y_MOST_DISTRICTS : PySem.W.nsIn K mainGlobals "MOST_DISTRICTS" = some (some (.int (6) t_MOST_DISTRICTS)))
    (y_MOST_LETTERS : PySem.W.nsIn K mainGlobals "MOST_LETTERS" = some (some (.int (8) t_MOST_LETTERS)))
    (y_KINDS : PySem.W.nsIn K mainGlobals "KINDS" = some (some (.ref aG_KINDS)))
    (w_KINDS : K.lookup aG_KINDS = some ⟨.type "tuple", oG_KINDS, .seq (List.toArray [.str "one" tG0_KINDS, .str "any" tG1_KINDS, .str "rank" tG2_KINDS]) nG_KINDS, sG_KINDS⟩)
    (y_RANK_WAYS : PySem.W.nsIn K mainGlobals "RANK_WAYS" = some (some (.ref aG_RANK_WAYS)))
    (w_RANK_WAYS : K.lookup aG_RANK_WAYS = some ⟨.type "tuple", oG_RANK_WAYS, .seq (List.toArray [.str "runoff" tG0_RANK_WAYS, .str "pairs" tG1_RANK_WAYS, .str "share" tG2_RANK_WAYS]) nG_RANK_WAYS, sG_RANK_WAYS⟩) :
    ∃ fd : FuncData, (∀ (s : Shared) (v : Value), BindsTo s fd ⟨[v], []⟩ [("_law_script", v)]) ∧ ∀ base : Heap, K.In base → base.Ns mainGlobals mg → FnG l.prog w K mg base (L2.CX l.prog w) 16 fa fd ["_law_script"] (spA K 1 d_law) := by
  have e := hfa.symm.trans (PySem.W.mg_of X G a29)
  cases e
  let GG : Glb := ⟨K, fun c => List.lookup c ([("Race", C1)] : List (Str × Addr)), fun c => List.lookup c ([("NoRace", X_NoRace)] : List (Str × Addr))⟩
  have T : Txt K mg GG.ca GG.ce w := ⟨ca_all (mem_con (own_mk pg1 hd1 po1 sa1 ha1 hn1 ht1 hm1) mem_nil),
    PySem.W.mg_none_of X G z_ValueError,
    PySem.W.mg_none_of X G z_all,
    PySem.W.mg_none_of X G z_bool,
    PySem.W.mg_none_of X G z_dict,
    PySem.W.mg_none_of X G z_enumerate,
    PySem.W.mg_none_of X G z_int,
    PySem.W.mg_none_of X G z_isinstance,
    PySem.W.mg_none_of X G z_len,
    PySem.W.mg_none_of X G z_list,
    PySem.W.mg_none_of X G z_max,
    PySem.W.mg_none_of X G z_min,
    PySem.W.mg_none_of X G z_range,
    PySem.W.mg_none_of X G z_set,
    PySem.W.mg_none_of X G z_str,
    PySem.W.mg_none_of X G z_tuple,
    ⟨_, PySem.W.mg_of X G y_LETTERS⟩,
    ⟨_, PySem.W.mg_of X G y_MOST_CHOICES⟩,
    ⟨_, PySem.W.mg_of X G y_MOST_DISTRICTS⟩,
    ⟨_, PySem.W.mg_of X G y_MOST_LETTERS⟩,
    ⟨_, PySem.W.mg_of X G y_KINDS, ktup w_KINDS (Paired.cons ⟨_, rfl⟩ (Paired.cons ⟨_, rfl⟩ (Paired.cons ⟨_, rfl⟩ Paired.nil))) (show 3 ≤ 16777216 by decide)⟩,
    ⟨_, PySem.W.mg_of X G y_RANK_WAYS, ktup w_RANK_WAYS (Paired.cons ⟨_, rfl⟩ (Paired.cons ⟨_, rfl⟩ (Paired.cons ⟨_, rfl⟩ Paired.nil))) (show 3 ≤ 16777216 by decide)⟩,
    fld_mk (mem_con (fun _ => ⟨(own_mk pg1 hd1 po1 sa1 ha1 hn1 ht1 hm1).cl, n1_by⟩) mem_nil),
    fld_mk (mem_con (fun _ => ⟨(own_mk pg1 hd1 po1 sa1 ha1 hn1 ht1 hm1).cl, n1_choices⟩) mem_nil),
    fld_mk (mem_con (fun _ => ⟨(own_mk pg1 hd1 po1 sa1 ha1 hn1 ht1 hm1).cl, n1_districts⟩) mem_nil),
    fld_mk (mem_con (fun _ => ⟨(own_mk pg1 hd1 po1 sa1 ha1 hn1 ht1 hm1).cl, n1_kind⟩) mem_nil),
    fld_mk (mem_con (fun _ => ⟨(own_mk pg1 hd1 po1 sa1 ha1 hn1 ht1 hm1).cl, n1_name⟩) mem_nil),
    fld_mk (mem_con (fun _ => ⟨(own_mk pg1 hd1 po1 sa1 ha1 hn1 ht1 hm1).cl, n1_seats⟩) mem_nil),
    isT_b .bool (by decide) (ca_all (mem_con m1_bool mem_nil)),
    isT_b .dict (by decide) (ca_all (mem_con m1_dict mem_nil)),
    isT_b .int (by decide) (ca_all (mem_con m1_int mem_nil)),
    isT_b .list (by decide) (ca_all (mem_con m1_list mem_nil)),
    isT_b .str (by decide) (ca_all (mem_con m1_str mem_nil)),
    isT_b .tuple (by decide) (ca_all (mem_con m1_tuple mem_nil)),
    ⟨_, PySem.W.mg_of X G A1, isT_o rfl ic1 tc1 (ca_all (mem_con m1_1 mem_nil))⟩,
    ⟨⟨_, PySem.W.mg_of X G AX_NoRace, rfl, xi_NoRace, xk_NoRace, xs_NoRace, xt_NoRace⟩⟩,
    ⟨_, PySem.W.mg_of X G AX_VoteError, ca_all (mem_con (PySem.W.exm_ref xbs_VoteError xbd_VoteError xbt_VoteError xm_NoRace_VoteError) mem_nil)⟩,
    ⟨_, PySem.W.mg_of X G AX_NoBits, isT_x xc_NoBits xy_NoBits xz_NoBits (ca_all (mem_con xw1_NoBits mem_nil)) (ca_all (mem_con xn_NoRace_NoBits mem_nil))⟩,
    ⟨_, PySem.W.mg_of X G AX_NoChain, isT_x xc_NoChain xy_NoChain xz_NoChain (ca_all (mem_con xw1_NoChain mem_nil)) (ca_all (mem_con xn_NoRace_NoChain mem_nil))⟩,
    ⟨_, PySem.W.mg_of X G AX_NoCode, isT_x xc_NoCode xy_NoCode xz_NoCode (ca_all (mem_con xw1_NoCode mem_nil)) (ca_all (mem_con xn_NoRace_NoCode mem_nil))⟩,
    ⟨_, PySem.W.mg_of X G AX_NoCount, isT_x xc_NoCount xy_NoCount xz_NoCount (ca_all (mem_con xw1_NoCount mem_nil)) (ca_all (mem_con xn_NoRace_NoCount mem_nil))⟩,
    ⟨_, PySem.W.mg_of X G AX_NoDay, isT_x xc_NoDay xy_NoDay xz_NoDay (ca_all (mem_con xw1_NoDay mem_nil)) (ca_all (mem_con xn_NoRace_NoDay mem_nil))⟩,
    ⟨_, PySem.W.mg_of X G AX_NoLetter, isT_x xc_NoLetter xy_NoLetter xz_NoLetter (ca_all (mem_con xw1_NoLetter mem_nil)) (ca_all (mem_con xn_NoRace_NoLetter mem_nil))⟩,
    ⟨_, PySem.W.mg_of X G AX_NoLot, isT_x xc_NoLot xy_NoLot xz_NoLot (ca_all (mem_con xw1_NoLot mem_nil)) (ca_all (mem_con xn_NoRace_NoLot mem_nil))⟩,
    ⟨_, PySem.W.mg_of X G AX_NoMark, isT_x xc_NoMark xy_NoMark xz_NoMark (ca_all (mem_con xw1_NoMark mem_nil)) (ca_all (mem_con xn_NoRace_NoMark mem_nil))⟩,
    ⟨_, PySem.W.mg_of X G AX_NoName, isT_x xc_NoName xy_NoName xz_NoName (ca_all (mem_con xw1_NoName mem_nil)) (ca_all (mem_con xn_NoRace_NoName mem_nil))⟩,
    ⟨_, PySem.W.mg_of X G AX_NoPhase, isT_x xc_NoPhase xy_NoPhase xz_NoPhase (ca_all (mem_con xw1_NoPhase mem_nil)) (ca_all (mem_con xn_NoRace_NoPhase mem_nil))⟩,
    ⟨_, PySem.W.mg_of X G AX_NoPlace, isT_x xc_NoPlace xy_NoPlace xz_NoPlace (ca_all (mem_con xw1_NoPlace mem_nil)) (ca_all (mem_con xn_NoRace_NoPlace mem_nil))⟩,
    ⟨_, PySem.W.mg_of X G AX_NoRace, isT_x xc_NoRace xy_NoRace xz_NoRace (ca_all (mem_con xw1_NoRace mem_nil)) (ca_all (mem_con xn_NoRace_NoRace mem_nil))⟩,
    ⟨_, PySem.W.mg_of X G AX_NoRow, isT_x xc_NoRow xy_NoRow xz_NoRow (ca_all (mem_con xw1_NoRow mem_nil)) (ca_all (mem_con xn_NoRace_NoRow mem_nil))⟩,
    ⟨_, PySem.W.mg_of X G AX_NoRuling, isT_x xc_NoRuling xy_NoRuling xz_NoRuling (ca_all (mem_con xw1_NoRuling mem_nil)) (ca_all (mem_con xn_NoRace_NoRuling mem_nil))⟩,
    ⟨_, PySem.W.mg_of X G AX_NoStub, isT_x xc_NoStub xy_NoStub xz_NoStub (ca_all (mem_con xw1_NoStub mem_nil)) (ca_all (mem_con xn_NoRace_NoStub mem_nil))⟩,
    ⟨_, PySem.W.mg_of X G AX_NoText, isT_x xc_NoText xy_NoText xz_NoText (ca_all (mem_con xw1_NoText mem_nil)) (ca_all (mem_con xn_NoRace_NoText mem_nil))⟩,
    ⟨_, PySem.W.mg_of X G AX_NoTime, isT_x xc_NoTime xy_NoTime xz_NoTime (ca_all (mem_con xw1_NoTime mem_nil)) (ca_all (mem_con xn_NoRace_NoTime mem_nil))⟩,
    ⟨_, PySem.W.mg_of X G AX_NoWay, isT_x xc_NoWay xy_NoWay xz_NoWay (ca_all (mem_con xw1_NoWay mem_nil)) (ca_all (mem_con xn_NoRace_NoWay mem_nil))⟩,
    ⟨_, PySem.W.mg_of X G AX_NotThere, isT_x xc_NotThere xy_NotThere xz_NotThere (ca_all (mem_con xw1_NotThere mem_nil)) (ca_all (mem_con xn_NoRace_NotThere mem_nil))⟩,
    ⟨_, PySem.W.mg_of X G AX_NotWhole, isT_x xc_NotWhole xy_NotWhole xz_NotWhole (ca_all (mem_con xw1_NotWhole mem_nil)) (ca_all (mem_con xn_NoRace_NotWhole mem_nil))⟩,
    ⟨_, PySem.W.mg_of X G AX_Twice, isT_x xc_Twice xy_Twice xz_Twice (ca_all (mem_con xw1_Twice mem_nil)) (ca_all (mem_con xn_NoRace_Twice mem_nil))⟩,
    ⟨_, PySem.W.mg_of X G AX_VoteError, isT_x xc_VoteError xy_VoteError xz_VoteError (ca_all (mem_con xw1_VoteError mem_nil)) (ca_all (mem_con xn_NoRace_VoteError mem_nil))⟩,
    ca_all (mem_con (ExcD.mk xg_NoRace xh_NoRace xs_NoRace xp_NoRace xa_NoRace xq1 xq2 xo_NoRace) mem_nil),
    isT_VE (ca_all (mem_con mv1 mem_nil)) (ca_all (mem_con xv_NoRace mem_nil))⟩
  have F1 := fun_mk (st := s__law_begun) l1 c1 k1
  have F2 := fun_mk (st := s__law_next) l2 c2 k2
  have F3 := fun_mk (st := s__law_names) l3 c3 k3
  have F4 := fun_mk (st := s__law_pick) l4 c4 k4
  have F5 := fun_mk (st := s__law_shuffled) l5 c5 k5
  have F6 := fun_mk (st := s__law_race_parts) l6 c6 k6
  have F7 := fun_mk (st := s_is_name) l7 c7 k7
  have F8 := fun_mk (st := s_are_unlike_names) l8 c8 k8
  have F9 := fun_mk (st := s_is_one_of) l9 c9 k9
  have F10 := fun_mk (st := s_is_whole) l10 c10 k10
  have F11 := fun_mk (st := s_is_between) l11 c11 k11
  have F12 := fun_mk (st := s_is_way) l12 c12 k12
  have F13 := fun_mkK l13 c13 k13 (kw_int q13_0 (kw_str q13_1 kw_nil))
  have F14 := fun_mk (st := s__law_race) l14 c14 k14
  have F15 := fun_mk (st := s__law_with) l15 c15 k15
  have F16 := fun_mk (st := s__law_strange) l16 c16 k16
  have F17 := fun_mk (st := s__law_places) l17 c17 k17
  have F18 := fun_mk (st := s__law_at) l18 c18 k18
  have F19 := fun_mk (st := s__law_spoilt_in) l19 c19 k19
  have F20 := fun_mk (st := s__law_alone) l20 c20 k20
  have F21 := fun_mk (st := s__law_made) l21 c21 k21
  have F22 := fun_mk (st := s__law_like) l22 c22 k22
  have F23 := fun_mk (st := s__law_name_right) l23 c23 k23
  have F24 := fun_mk (st := s__law_names_right) l24 c24 k24
  have F25 := fun_mk (st := s__law_between) l25 c25 k25
  have F26 := fun_mk (st := s__law_race_right) l26 c26 k26
  have F27 := fun_mk (st := s_Race_eq) l27 c27 k27
  have F28 := fun_mk (st := s__law_right) l28 c28 k28
  have F29 := fun_mk (st := s_law) l29 c29 k29
  refine ⟨PySem.W.fnOf "law" "law" (defArgs s_law) (defBody s_law) (defScope s_law) .none kV29 dc29 pm29 an29 cd29 ct29, fun s v => .of_eq rfl, fun base _ _ => ?_⟩
  have D__law_begun : DefG GG l.prog w mg base 1 "_law_begun" 2 d__law_begun := ⟨⟨f1, _, _, (ok__law_begun (ca := GG.ca) (ce := GG.ce) F1 T ), PySem.W.mg_of X G a1, k1, (F1.binds (ps := ["_law_cell", "_law_k"]) fun _ _ _ _ _ _ us hl => match us, hl with | [_, _], _ => rfl)⟩⟩
  have D__law_next : DefG GG l.prog w mg base 1 "_law_next" 2 d__law_next := ⟨⟨f2, _, _, (ok__law_next (ca := GG.ca) (ce := GG.ce) F2 T ), PySem.W.mg_of X G a2, k2, (F2.binds (ps := ["_law_draw", "_law_size"]) fun _ _ _ _ _ _ us hl => match us, hl with | [_, _], _ => rfl)⟩⟩
  have D__law_names : DefG GG l.prog w mg base 2 "_law_names" 2 d__law_names := ⟨⟨f3, _, _, (ok__law_names (ca := GG.ca) (ce := GG.ce) F3 T D__law_next), PySem.W.mg_of X G a3, k3, (F3.binds (ps := ["_law_draw", "_law_many"]) fun _ _ _ _ _ _ us hl => match us, hl with | [_, _], _ => rfl)⟩⟩
  have D__law_pick : DefG GG l.prog w mg base 2 "_law_pick" 2 d__law_pick := ⟨⟨f4, _, _, (ok__law_pick (ca := GG.ca) (ce := GG.ce) F4 T D__law_next), PySem.W.mg_of X G a4, k4, (F4.binds (ps := ["_law_draw", "_law_some"]) fun _ _ _ _ _ _ us hl => match us, hl with | [_, _], _ => rfl)⟩⟩
  have D__law_shuffled : DefG GG l.prog w mg base 2 "_law_shuffled" 2 d__law_shuffled := ⟨⟨f5, _, _, (ok__law_shuffled (ca := GG.ca) (ce := GG.ce) F5 T D__law_next), PySem.W.mg_of X G a5, k5, (F5.binds (ps := ["_law_draw", "_law_some"]) fun _ _ _ _ _ _ us hl => match us, hl with | [_, _], _ => rfl)⟩⟩
  have D__law_race_parts : DefG GG l.prog w mg base 3 "_law_race_parts" 3 d__law_race_parts := ⟨⟨f6, _, _, (ok__law_race_parts (ca := GG.ca) (ce := GG.ce) F6 T D__law_next D__law_pick D__law_shuffled), PySem.W.mg_of X G a6, k6, (F6.binds (ps := ["_law_draw", "_law_names_here", "_law_districts"]) fun _ _ _ _ _ _ us hl => match us, hl with | [_, _, _], _ => rfl)⟩⟩
  have D_is_name : DefG GG l.prog w mg base 1 "is_name" 1 d_is_name := ⟨⟨f7, _, _, (ok_is_name (ca := GG.ca) (ce := GG.ce) F7 T ), PySem.W.mg_of X G a7, k7, (F7.binds (ps := ["thing"]) fun _ _ _ _ _ _ us hl => match us, hl with | [_], _ => rfl)⟩⟩
  have D_are_unlike_names : DefG GG l.prog w mg base 2 "are_unlike_names" 3 d_are_unlike_names := ⟨⟨f8, _, _, (ok_are_unlike_names (ca := GG.ca) (ce := GG.ce) F8 T D_is_name), PySem.W.mg_of X G a8, k8, (F8.binds (ps := ["thing", "least", "most"]) fun _ _ _ _ _ _ us hl => match us, hl with | [_, _, _], _ => rfl)⟩⟩
  have D_is_one_of : DefG GG l.prog w mg base 1 "is_one_of" 2 d_is_one_of := ⟨⟨f9, _, _, (ok_is_one_of (ca := GG.ca) (ce := GG.ce) F9 T ), PySem.W.mg_of X G a9, k9, (F9.binds (ps := ["thing", "some"]) fun _ _ _ _ _ _ us hl => match us, hl with | [_, _], _ => rfl)⟩⟩
  have D_is_whole : DefG GG l.prog w mg base 1 "is_whole" 1 d_is_whole := ⟨⟨f10, _, _, (ok_is_whole (ca := GG.ca) (ce := GG.ce) F10 T ), PySem.W.mg_of X G a10, k10, (F10.binds (ps := ["thing"]) fun _ _ _ _ _ _ us hl => match us, hl with | [_], _ => rfl)⟩⟩
  have D_is_between : DefG GG l.prog w mg base 2 "is_between" 3 d_is_between := ⟨⟨f11, _, _, (ok_is_between (ca := GG.ca) (ce := GG.ce) F11 T D_is_whole), PySem.W.mg_of X G a11, k11, (F11.binds (ps := ["thing", "least", "most"]) fun _ _ _ _ _ _ us hl => match us, hl with | [_, _, _], _ => rfl)⟩⟩
  have D_is_way : DefG GG l.prog w mg base 2 "is_way" 3 d_is_way := ⟨⟨f12, _, _, (ok_is_way (ca := GG.ca) (ce := GG.ce) F12 T D_is_one_of), PySem.W.mg_of X G a12, k12, (F12.binds (ps := ["kind", "by", "seats"]) fun _ _ _ _ _ _ us hl => match us, hl with | [_, _, _], _ => rfl)⟩⟩
  have D_Race__mk4_ : ClsKN GG l.prog w mg base 3 "Race" 4 [] 7 (fun ds es => ds ++ pk [.inl 0, .inl 1] [.int (1), .str ""] es) d_Race_init := clsKN F13 ⟨mk1, a13, i13, kc1⟩ (ok_Race_init (ca := GG.ca) (ce := GG.ce) F13 T D_are_unlike_names D_is_one_of D_is_between D_is_way) (PySem.W.mg_of X G A1) rfl 4 [] [("seats", .int (1)), ("by", .str "")] [.int (1), .str ""] [.inl 0, .inl 1] (by simp) (by simp) (.cons rfl (.one rfl)) (fun es h => match es, h with | [], _ => rfl) fun D doc pm an cdv ct us mv ws l1 l2 l3 => match us, mv, ws, l1, l2, l3 with | [_, _, _, _, _], [_, _], [], _, _, _ => ⟨_, _, _, _, _, _, rfl, rfl, ⟨_, _, _, _, _, _, rfl, rfl, rfl⟩⟩
  have D_Race__mk4_by_seats : ClsKN GG l.prog w mg base 3 "Race" 4 ["by", "seats"] 7 (fun ds es => ds ++ pk [.inr 1, .inr 0] [] es) d_Race_init := clsKN F13 ⟨mk1, a13, i13, kc1⟩ (ok_Race_init (ca := GG.ca) (ce := GG.ce) F13 T D_are_unlike_names D_is_one_of D_is_between D_is_way) (PySem.W.mg_of X G A1) rfl 4 ["by", "seats"] [] [] [.inr 1, .inr 0] (by simp) (by simp) rfl (fun es h => match es, h with | [_, _], _ => rfl) fun D doc pm an cdv ct us mv ws l1 l2 l3 => match us, mv, ws, l1, l2, l3 with | [_, _, _, _, _], [], [_, _], _, _, _ => rfl
  have D_Race__mk4_seats_by : ClsKN GG l.prog w mg base 3 "Race" 4 ["seats", "by"] 7 (fun ds es => ds ++ pk [.inr 0, .inr 1] [] es) d_Race_init := clsKN F13 ⟨mk1, a13, i13, kc1⟩ (ok_Race_init (ca := GG.ca) (ce := GG.ce) F13 T D_are_unlike_names D_is_one_of D_is_between D_is_way) (PySem.W.mg_of X G A1) rfl 4 ["seats", "by"] [] [] [.inr 0, .inr 1] (by simp) (by simp) rfl (fun es h => match es, h with | [_, _], _ => rfl) fun D doc pm an cdv ct us mv ws l1 l2 l3 => match us, mv, ws, l1, l2, l3 with | [_, _, _, _, _], [], [_, _], _, _, _ => rfl
  have D__law_race : DefG GG l.prog w mg base 5 "_law_race" 1 d__law_race := ⟨⟨f14, _, _, (ok__law_race (ca := GG.ca) (ce := GG.ce) F14 T D_Race__mk4_seats_by), PySem.W.mg_of X G a14, k14, (F14.binds (ps := ["_law_parts"]) fun _ _ _ _ _ _ us hl => match us, hl with | [_], _ => rfl)⟩⟩
  have D__law_with : DefG GG l.prog w mg base 13 "_law_with" 3 d__law_with := ⟨⟨f15, _, _, ok__law_with (ca := GG.ca) (ce := GG.ce) F15 T (PySem.W.mg_of X G a15) k15 (F15.binds (ps := ["_law_thing", "_law_place", "_law_other"]) fun _ _ _ _ _ _ us hl => match us, hl with | [_, _, _], _ => rfl)  12, PySem.W.mg_of X G a15, k15, (F15.binds (ps := ["_law_thing", "_law_place", "_law_other"]) fun _ _ _ _ _ _ us hl => match us, hl with | [_, _, _], _ => rfl)⟩⟩
  have D__law_strange : DefG GG l.prog w mg base 3 "_law_strange" 2 d__law_strange := ⟨⟨f16, _, _, (ok__law_strange (ca := GG.ca) (ce := GG.ce) F16 T D__law_pick), PySem.W.mg_of X G a16, k16, (F16.binds (ps := ["_law_draw", "_law_one"]) fun _ _ _ _ _ _ us hl => match us, hl with | [_, _], _ => rfl)⟩⟩
  have D__law_places : DefG GG l.prog w mg base 1 "_law_places" 1 d__law_places := ⟨⟨f17, _, _, (ok__law_places (ca := GG.ca) (ce := GG.ce) F17 T ), PySem.W.mg_of X G a17, k17, (F17.binds (ps := ["_law_thing"]) fun _ _ _ _ _ _ us hl => match us, hl with | [_], _ => rfl)⟩⟩
  have D__law_at : DefG GG l.prog w mg base 1 "_law_at" 2 d__law_at := ⟨⟨f18, _, _, (ok__law_at (ca := GG.ca) (ce := GG.ce) F18 T ), PySem.W.mg_of X G a18, k18, (F18.binds (ps := ["_law_thing", "_law_place"]) fun _ _ _ _ _ _ us hl => match us, hl with | [_, _], _ => rfl)⟩⟩
  have D__law_spoilt_in : DefG GG l.prog w mg base 14 "_law_spoilt_in" 2 d__law_spoilt_in := ⟨⟨f19, _, _, (ok__law_spoilt_in (ca := GG.ca) (ce := GG.ce) F19 T D__law_next D__law_pick D__law_with D__law_strange D__law_places D__law_at), PySem.W.mg_of X G a19, k19, (F19.binds (ps := ["_law_draw", "_law_thing"]) fun _ _ _ _ _ _ us hl => match us, hl with | [_, _], _ => rfl)⟩⟩
  have D__law_alone : DefG GG l.prog w mg base 1 "_law_alone" 1 d__law_alone := ⟨⟨f20, _, _, (ok__law_alone (ca := GG.ca) (ce := GG.ce) F20 T ), PySem.W.mg_of X G a20, k20, (F20.binds (ps := ["_law_e"]) fun _ _ _ _ _ _ us hl => match us, hl with | [_], _ => rfl)⟩⟩
  have D__law_made : DefG GG l.prog w mg base 5 "_law_made" 2 d__law_made := ⟨⟨f21, _, _, (ok__law_made (ca := GG.ca) (ce := GG.ce) F21 T D_Race__mk4_ D_Race__mk4_by_seats D__law_alone), PySem.W.mg_of X G a21, k21, (F21.binds (ps := ["_law_parts", "_law_plain"]) fun _ _ _ _ _ _ us hl => match us, hl with | [_, _], _ => rfl)⟩⟩
  have D__law_like : DefG GG l.prog w mg base 13 "_law_like" 2 d__law_like := ⟨⟨f22, _, _, ok__law_like (ca := GG.ca) (ce := GG.ce) F22 T (PySem.W.mg_of X G a22) k22 (F22.binds (ps := ["_law_found", "_law_due"]) fun _ _ _ _ _ _ us hl => match us, hl with | [_, _], _ => rfl)  12, PySem.W.mg_of X G a22, k22, (F22.binds (ps := ["_law_found", "_law_due"]) fun _ _ _ _ _ _ us hl => match us, hl with | [_, _], _ => rfl)⟩⟩
  have D__law_name_right : DefG GG l.prog w mg base 1 "_law_name_right" 1 d__law_name_right := ⟨⟨f23, _, _, (ok__law_name_right (ca := GG.ca) (ce := GG.ce) F23 T ), PySem.W.mg_of X G a23, k23, (F23.binds (ps := ["_law_thing"]) fun _ _ _ _ _ _ us hl => match us, hl with | [_], _ => rfl)⟩⟩
  have D__law_names_right : DefG GG l.prog w mg base 2 "_law_names_right" 3 d__law_names_right := ⟨⟨f24, _, _, (ok__law_names_right (ca := GG.ca) (ce := GG.ce) F24 T D__law_name_right), PySem.W.mg_of X G a24, k24, (F24.binds (ps := ["_law_thing", "_law_low", "_law_high"]) fun _ _ _ _ _ _ us hl => match us, hl with | [_, _, _], _ => rfl)⟩⟩
  have D__law_between : DefG GG l.prog w mg base 1 "_law_between" 3 d__law_between := ⟨⟨f25, _, _, (ok__law_between (ca := GG.ca) (ce := GG.ce) F25 T ), PySem.W.mg_of X G a25, k25, (F25.binds (ps := ["_law_thing", "_law_low", "_law_high"]) fun _ _ _ _ _ _ us hl => match us, hl with | [_, _, _], _ => rfl)⟩⟩
  have D__law_race_right : DefG GG l.prog w mg base 3 "_law_race_right" 1 d__law_race_right := ⟨⟨f26, _, _, (ok__law_race_right (ca := GG.ca) (ce := GG.ce) F26 T D__law_name_right D__law_names_right D__law_between), PySem.W.mg_of X G a26, k26, (F26.binds (ps := ["_law_parts"]) fun _ _ _ _ _ _ us hl => match us, hl with | [_], _ => rfl)⟩⟩
  have D_Race__m___eq__ : MethG GG l.prog w mg base 1 "Race" "__eq__" 1 d_Race_eq := ⟨⟨C1, f27, _, ["self", "other"], rfl, (own_mk pg1 hd1 po1 sa1 ha1 hn1 ht1 hm1).cl, ⟨a27, i27, k27⟩, (ok_Race_eq (ca := GG.ca) (ce := GG.ce) F27 T ), (F27.binds (ps := ["self", "other"]) fun _ _ _ _ _ _ us hl => match us, hl with | [_, _], _ => rfl)⟩⟩
  have D__law_right : DefG GG l.prog w mg base 15 "_law_right" 2 d__law_right := ⟨⟨f28, _, _, (ok__law_right (ca := GG.ca) (ce := GG.ce) F28 T D__law_begun D__law_next D__law_names D__law_race_parts D__law_race D__law_spoilt_in D__law_made D__law_like D__law_race_right D_Race__m___eq__), PySem.W.mg_of X G a28, k28, (F28.binds (ps := ["_law_cell", "_law_k"]) fun _ _ _ _ _ _ us hl => match us, hl with | [_, _], _ => rfl)⟩⟩
  exact fnG_all (ok_law (ca := GG.ca) (ce := GG.ce) F29 T D__law_right)
theorem walk {l : PySem.W.OpenLaw} {q : Program} {loose : List Str} {XP : (Str → Option Value) → Heap → Prop} {YP : World → Heap → Prop} {d : DefRec} {K : Params → PySem.W.Frag} (hn : l.most = some 63) (hdf : d.params.defaults = [])
    (hY : ∀ (w : World) (h : Heap), YP w h → (K w.params).In h)
    (F : ∀ (w : World) (mg : Str → Option Value) (fa : Addr) (h : Heap), (K w.params).In h → h.Ns mainGlobals mg → mg d.name = some (.ref fa) →
      ∃ fd : FuncData, (∀ (s : Shared) (u : Value), BindsTo s fd ⟨[u], []⟩ [("_law_script", u)]) ∧ ∀ base : Heap, (K w.params).In base → base.Ns mainGlobals mg → FnG l.prog w (K w.params) mg base (L2.CX l.prog w) 16 fa fd ["_law_script"] (spA (K w.params) 1 d_law)) :
    PySem.W.WalkO q loose XP YP l.row.toRowW d [] (fun f vs => PySem.call f vs) :=
  L2.walk_ofG (n := 63) (k := 16) (x := "_law_script") (CX := fun w => L2.CX l.prog w) (sp := fun w => spA (K w.params) 1 d_law) hn (by decide) hdf ⟨rfl, by decide, by decide⟩ hY F
    (fun w H a ns hl hO hS ca ce => law_sp (G := ⟨K w.params, ca, ce⟩) hO hS (law_true ns hl)) fun w H s e s' z => no_CX z
end DW.K06
open PySem PySem.W PyProof.Rows in
set_option maxRecDepth 100000 in
set_option maxHeartbeats 0 in
theorem PySem.Challenge.cw_rolltally_k06_races_changed_anywhere_holds : PySem.Challenge.rw_rolltally_k06_races_changed_anywhere.Holds := by
  w_on; o_law; k_head; (case hw => w_witness2)
  k_fill
  refine DW.K06.walk (l := PySem.Challenge.rw_rolltally_k06_races_changed_anywhere) rfl rfl (fun w h Y => PySem.W.kIn_of Y) ?F
  case F =>
    intro w mg fa h KX G hmg
    refine' DW.K06.all_mk KX G hmg ?A1 ?pg1 ?hd1 ?po1 ?sa1 ?ha1 ?hn1 ?ht1 ?hm1 ?ic1 ?tc1 ?n1_by ?n1_choices ?n1_districts ?n1_kind ?n1_name ?n1_seats ?m1_bool ?m1_dict ?m1_int ?m1_list ?m1_str ?m1_tuple ?m1_1 ?mk1 ?kc1 ?a1 ?l1 ?c1 ?k1 ?a2 ?l2 ?c2 ?k2 ?a3 ?l3 ?c3 ?k3 ?a4 ?l4 ?c4 ?k4 ?a5 ?l5 ?c5 ?k5 ?a6 ?l6 ?c6 ?k6 ?a7 ?l7 ?c7 ?k7 ?a8 ?l8 ?c8 ?k8 ?a9 ?l9 ?c9 ?k9 ?a10 ?l10 ?c10 ?k10 ?a11 ?l11 ?c11 ?k11 ?a12 ?l12 ?c12 ?k12 ?a13 ?i13 ?l13 ?c13 ?k13 ?q13_0 ?q13_1 ?a14 ?l14 ?c14 ?k14 ?a15 ?l15 ?c15 ?k15 ?a16 ?l16 ?c16 ?k16 ?a17 ?l17 ?c17 ?k17 ?a18 ?l18 ?c18 ?k18 ?a19 ?l19 ?c19 ?k19 ?a20 ?l20 ?c20 ?k20 ?a21 ?l21 ?c21 ?k21 ?a22 ?l22 ?c22 ?k22 ?a23 ?l23 ?c23 ?k23 ?a24 ?l24 ?c24 ?k24 ?a25 ?l25 ?c25 ?k25 ?a26 ?l26 ?c26 ?k26 ?a27 ?i27 ?l27 ?c27 ?k27 ?a28 ?l28 ?c28 ?k28 ?a29 ?l29 ?c29 ?k29 ?AX_NoBits ?AX_NoChain ?AX_NoCode ?AX_NoCount ?AX_NoDay ?AX_NoLetter ?AX_NoLot ?AX_NoMark ?AX_NoName ?AX_NoPhase ?AX_NoPlace ?AX_NoRace ?AX_NoRow ?AX_NoRuling ?AX_NoStub ?AX_NoText ?AX_NoTime ?AX_NoWay ?AX_NotThere ?AX_NotWhole ?AX_Twice ?AX_VoteError ?xi_NoRace ?xk_NoRace ?xs_NoRace ?xt_NoRace ?xm_NoRace_VoteError ?xn_NoRace_NoBits ?xn_NoRace_NoChain ?xn_NoRace_NoCode ?xn_NoRace_NoCount ?xn_NoRace_NoDay ?xn_NoRace_NoLetter ?xn_NoRace_NoLot ?xn_NoRace_NoMark ?xn_NoRace_NoName ?xn_NoRace_NoPhase ?xn_NoRace_NoPlace ?xn_NoRace_NoRace ?xn_NoRace_NoRow ?xn_NoRace_NoRuling ?xn_NoRace_NoStub ?xn_NoRace_NoText ?xn_NoRace_NoTime ?xn_NoRace_NoWay ?xn_NoRace_NotThere ?xn_NoRace_NotWhole ?xn_NoRace_Twice ?xn_NoRace_VoteError ?xv_NoRace ?xg_NoRace ?xh_NoRace ?xp_NoRace ?xa_NoRace ?xo_NoRace ?xbs_VoteError ?xbd_VoteError ?xbt_VoteError ?mv1 ?xq1 ?xq2 ?xc_NoBits ?xy_NoBits ?xz_NoBits ?xw1_NoBits ?xc_NoChain ?xy_NoChain ?xz_NoChain ?xw1_NoChain ?xc_NoCode ?xy_NoCode ?xz_NoCode ?xw1_NoCode ?xc_NoCount ?xy_NoCount ?xz_NoCount ?xw1_NoCount ?xc_NoDay ?xy_NoDay ?xz_NoDay ?xw1_NoDay ?xc_NoLetter ?xy_NoLetter ?xz_NoLetter ?xw1_NoLetter ?xc_NoLot ?xy_NoLot ?xz_NoLot ?xw1_NoLot ?xc_NoMark ?xy_NoMark ?xz_NoMark ?xw1_NoMark ?xc_NoName ?xy_NoName ?xz_NoName ?xw1_NoName ?xc_NoPhase ?xy_NoPhase ?xz_NoPhase ?xw1_NoPhase ?xc_NoPlace ?xy_NoPlace ?xz_NoPlace ?xw1_NoPlace ?xc_NoRace ?xy_NoRace ?xz_NoRace ?xw1_NoRace ?xc_NoRow ?xy_NoRow ?xz_NoRow ?xw1_NoRow ?xc_NoRuling ?xy_NoRuling ?xz_NoRuling ?xw1_NoRuling ?xc_NoStub ?xy_NoStub ?xz_NoStub ?xw1_NoStub ?xc_NoText ?xy_NoText ?xz_NoText ?xw1_NoText ?xc_NoTime ?xy_NoTime ?xz_NoTime ?xw1_NoTime ?xc_NoWay ?xy_NoWay ?xz_NoWay ?xw1_NoWay ?xc_NotThere ?xy_NotThere ?xz_NotThere ?xw1_NotThere ?xc_NotWhole ?xy_NotWhole ?xz_NotWhole ?xw1_NotWhole ?xc_Twice ?xy_Twice ?xz_Twice ?xw1_Twice ?xc_VoteError ?xy_VoteError ?xz_VoteError ?xw1_VoteError ?z_ValueError ?z_all ?z_bool ?z_dict ?z_enumerate ?z_int ?z_isinstance ?z_len ?z_list ?z_max ?z_min ?z_range ?z_set ?z_str ?z_tuple ?y_LETTERS ?y_MOST_CHOICES ?y_MOST_DISTRICTS ?y_MOST_LETTERS ?y_KINDS ?w_KINDS ?y_RANK_WAYS ?w_RANK_WAYS
    (case A1 => k_is)
    (case pg1 => k_is)
    (case hd1 => k_is)
    (case po1 => k_is)
    (case sa1 => k_is)
    (case ha1 => k_is)
    (case hn1 => k_is)
    (case ht1 => k_is)
    (case hm1 => k_is)
    (case ic1 => k_is)
    (case tc1 => k_is)
    (case n1_by => k_is)
    (case n1_choices => k_is)
    (case n1_districts => k_is)
    (case n1_kind => k_is)
    (case n1_name => k_is)
    (case n1_seats => k_is)
    (case m1_bool => k_is)
    (case m1_dict => k_is)
    (case m1_int => k_is)
    (case m1_list => k_is)
    (case m1_str => k_is)
    (case m1_tuple => k_is)
    (case m1_1 => k_is)
    (case mk1 => k_is)
    (case kc1 => k_is)
    (case a1 => k_is)
    (case l1 => k_is)
    (case c1 => k_is)
    (case k1 => k_is)
    (case a2 => k_is)
    (case l2 => k_is)
    (case c2 => k_is)
    (case k2 => k_is)
    (case a3 => k_is)
    (case l3 => k_is)
    (case c3 => k_is)
    (case k3 => k_is)
    (case a4 => k_is)
    (case l4 => k_is)
    (case c4 => k_is)
    (case k4 => k_is)
    (case a5 => k_is)
    (case l5 => k_is)
    (case c5 => k_is)
    (case k5 => k_is)
    (case a6 => k_is)
    (case l6 => k_is)
    (case c6 => k_is)
    (case k6 => k_is)
    (case a7 => k_is)
    (case l7 => k_is)
    (case c7 => k_is)
    (case k7 => k_is)
    (case a8 => k_is)
    (case l8 => k_is)
    (case c8 => k_is)
    (case k8 => k_is)
    (case a9 => k_is)
    (case l9 => k_is)
    (case c9 => k_is)
    (case k9 => k_is)
    (case a10 => k_is)
    (case l10 => k_is)
    (case c10 => k_is)
    (case k10 => k_is)
    (case a11 => k_is)
    (case l11 => k_is)
    (case c11 => k_is)
    (case k11 => k_is)
    (case a12 => k_is)
    (case l12 => k_is)
    (case c12 => k_is)
    (case k12 => k_is)
    (case a13 => k_is)
    (case i13 => k_is)
    (case l13 => k_is)
    (case c13 => k_is)
    (case k13 => k_is)
    (case q13_0 => k_is)
    (case q13_1 => k_is)
    (case a14 => k_is)
    (case l14 => k_is)
    (case c14 => k_is)
    (case k14 => k_is)
    (case a15 => k_is)
    (case l15 => k_is)
    (case c15 => k_is)
    (case k15 => k_is)
    (case a16 => k_is)
    (case l16 => k_is)
    (case c16 => k_is)
    (case k16 => k_is)
    (case a17 => k_is)
    (case l17 => k_is)
    (case c17 => k_is)
    (case k17 => k_is)
    (case a18 => k_is)
    (case l18 => k_is)
    (case c18 => k_is)
    (case k18 => k_is)
    (case a19 => k_is)
    (case l19 => k_is)
    (case c19 => k_is)
    (case k19 => k_is)
    (case a20 => k_is)
    (case l20 => k_is)
    (case c20 => k_is)
    (case k20 => k_is)
    (case a21 => k_is)
    (case l21 => k_is)
    (case c21 => k_is)
    (case k21 => k_is)
    (case a22 => k_is)
    (case l22 => k_is)
    (case c22 => k_is)
    (case k22 => k_is)
    (case a23 => k_is)
    (case l23 => k_is)
    (case c23 => k_is)
    (case k23 => k_is)
    (case a24 => k_is)
    (case l24 => k_is)
    (case c24 => k_is)
    (case k24 => k_is)
    (case a25 => k_is)
    (case l25 => k_is)
    (case c25 => k_is)
    (case k25 => k_is)
    (case a26 => k_is)
    (case l26 => k_is)
    (case c26 => k_is)
    (case k26 => k_is)
    (case a27 => k_is)
    (case i27 => k_is)
    (case l27 => k_is)
    (case c27 => k_is)
    (case k27 => k_is)
    (case a28 => k_is)
    (case l28 => k_is)
    (case c28 => k_is)
    (case k28 => k_is)
    (case a29 => k_is)
    (case l29 => k_is)
    (case c29 => k_is)
    (case k29 => k_is)
    (case AX_NoBits => k_is)
    (case AX_NoChain => k_is)
    (case AX_NoCode => k_is)
    (case AX_NoCount => k_is)
    (case AX_NoDay => k_is)
    (case AX_NoLetter => k_is)
    (case AX_NoLot => k_is)
    (case AX_NoMark => k_is)
    (case AX_NoName => k_is)
    (case AX_NoPhase => k_is)
    (case AX_NoPlace => k_is)
    (case AX_NoRace => k_is)
    (case AX_NoRow => k_is)
    (case AX_NoRuling => k_is)
    (case AX_NoStub => k_is)
    (case AX_NoText => k_is)
    (case AX_NoTime => k_is)
    (case AX_NoWay => k_is)
    (case AX_NotThere => k_is)
    (case AX_NotWhole => k_is)
    (case AX_Twice => k_is)
    (case AX_VoteError => k_is)
    (case xi_NoRace => k_exc)
    (case xk_NoRace => k_is)
    (case xs_NoRace => k_is)
    (case xt_NoRace => k_is)
    (case xm_NoRace_VoteError => k_is)
    (case xn_NoRace_NoBits => k_is)
    (case xn_NoRace_NoChain => k_is)
    (case xn_NoRace_NoCode => k_is)
    (case xn_NoRace_NoCount => k_is)
    (case xn_NoRace_NoDay => k_is)
    (case xn_NoRace_NoLetter => k_is)
    (case xn_NoRace_NoLot => k_is)
    (case xn_NoRace_NoMark => k_is)
    (case xn_NoRace_NoName => k_is)
    (case xn_NoRace_NoPhase => k_is)
    (case xn_NoRace_NoPlace => k_is)
    (case xn_NoRace_NoRace => k_is)
    (case xn_NoRace_NoRow => k_is)
    (case xn_NoRace_NoRuling => k_is)
    (case xn_NoRace_NoStub => k_is)
    (case xn_NoRace_NoText => k_is)
    (case xn_NoRace_NoTime => k_is)
    (case xn_NoRace_NoWay => k_is)
    (case xn_NoRace_NotThere => k_is)
    (case xn_NoRace_NotWhole => k_is)
    (case xn_NoRace_Twice => k_is)
    (case xn_NoRace_VoteError => k_is)
    (case xv_NoRace => k_is)
    (case xg_NoRace => k_is)
    (case xh_NoRace => k_is)
    (case xp_NoRace => k_is)
    (case xa_NoRace => k_is)
    (case xo_NoRace => k_is)
    (case xbs_VoteError => k_is)
    (case xbd_VoteError => k_is)
    (case xbt_VoteError => k_is)
    (case mv1 => k_is)
    (case xq1 => k_is)
    (case xq2 => k_is)
    (case xc_NoBits => k_is)
    (case xy_NoBits => k_is)
    (case xz_NoBits => k_is)
    (case xw1_NoBits => k_is)
    (case xc_NoChain => k_is)
    (case xy_NoChain => k_is)
    (case xz_NoChain => k_is)
    (case xw1_NoChain => k_is)
    (case xc_NoCode => k_is)
    (case xy_NoCode => k_is)
    (case xz_NoCode => k_is)
    (case xw1_NoCode => k_is)
    (case xc_NoCount => k_is)
    (case xy_NoCount => k_is)
    (case xz_NoCount => k_is)
    (case xw1_NoCount => k_is)
    (case xc_NoDay => k_is)
    (case xy_NoDay => k_is)
    (case xz_NoDay => k_is)
    (case xw1_NoDay => k_is)
    (case xc_NoLetter => k_is)
    (case xy_NoLetter => k_is)
    (case xz_NoLetter => k_is)
    (case xw1_NoLetter => k_is)
    (case xc_NoLot => k_is)
    (case xy_NoLot => k_is)
    (case xz_NoLot => k_is)
    (case xw1_NoLot => k_is)
    (case xc_NoMark => k_is)
    (case xy_NoMark => k_is)
    (case xz_NoMark => k_is)
    (case xw1_NoMark => k_is)
    (case xc_NoName => k_is)
    (case xy_NoName => k_is)
    (case xz_NoName => k_is)
    (case xw1_NoName => k_is)
    (case xc_NoPhase => k_is)
    (case xy_NoPhase => k_is)
    (case xz_NoPhase => k_is)
    (case xw1_NoPhase => k_is)
    (case xc_NoPlace => k_is)
    (case xy_NoPlace => k_is)
    (case xz_NoPlace => k_is)
    (case xw1_NoPlace => k_is)
    (case xc_NoRace => k_is)
    (case xy_NoRace => k_is)
    (case xz_NoRace => k_is)
    (case xw1_NoRace => k_is)
    (case xc_NoRow => k_is)
    (case xy_NoRow => k_is)
    (case xz_NoRow => k_is)
    (case xw1_NoRow => k_is)
    (case xc_NoRuling => k_is)
    (case xy_NoRuling => k_is)
    (case xz_NoRuling => k_is)
    (case xw1_NoRuling => k_is)
    (case xc_NoStub => k_is)
    (case xy_NoStub => k_is)
    (case xz_NoStub => k_is)
    (case xw1_NoStub => k_is)
    (case xc_NoText => k_is)
    (case xy_NoText => k_is)
    (case xz_NoText => k_is)
    (case xw1_NoText => k_is)
    (case xc_NoTime => k_is)
    (case xy_NoTime => k_is)
    (case xz_NoTime => k_is)
    (case xw1_NoTime => k_is)
    (case xc_NoWay => k_is)
    (case xy_NoWay => k_is)
    (case xz_NoWay => k_is)
    (case xw1_NoWay => k_is)
    (case xc_NotThere => k_is)
    (case xy_NotThere => k_is)
    (case xz_NotThere => k_is)
    (case xw1_NotThere => k_is)
    (case xc_NotWhole => k_is)
    (case xy_NotWhole => k_is)
    (case xz_NotWhole => k_is)
    (case xw1_NotWhole => k_is)
    (case xc_Twice => k_is)
    (case xy_Twice => k_is)
    (case xz_Twice => k_is)
    (case xw1_Twice => k_is)
    (case xc_VoteError => k_is)
    (case xy_VoteError => k_is)
    (case xz_VoteError => k_is)
    (case xw1_VoteError => k_is)
    (case z_ValueError => k_is)
    (case z_all => k_is)
    (case z_bool => k_is)
    (case z_dict => k_is)
    (case z_enumerate => k_is)
    (case z_int => k_is)
    (case z_isinstance => k_is)
    (case z_len => k_is)
    (case z_list => k_is)
    (case z_max => k_is)
    (case z_min => k_is)
    (case z_range => k_is)
    (case z_set => k_is)
    (case z_str => k_is)
    (case z_tuple => k_is)
    (case y_LETTERS => k_is)
    (case y_MOST_CHOICES => k_is)
    (case y_MOST_DISTRICTS => k_is)
    (case y_MOST_LETTERS => k_is)
    (case y_KINDS => k_is)
    (case w_KINDS => k_is)
    (case y_RANK_WAYS => k_is)
    (case w_RANK_WAYS => k_is)
end
