import PyProof.Rows.All
import Wide.All
import OpenK.AllK
import Wide.FinOn
import HandS.ForMost
import HandS.ForExc
import HandS.CallSlots
import HandS.Wide
import HandS.TupAny
import HandS.Style
import HandS.IsInst
import PySem.Challenge.RW_rolltally_k45_chances_of_samples
set_option Elab.async false
set_option linter.all false
set_option maxRecDepth 100000
set_option maxHeartbeats 4000000
section
/-! D-layer, part 0: data without addresses, a store of mutable cells, how both lie in the abstract heap. -/
namespace DL
open PySem L2

inductive D where
  | non
  | bl (b : Bool)
  | int (i : Int)
  | str (x : Str)
  | tup (ds : List D)
  | lst (ds : List D)
  | dic (ks : List Key) (ds : List D)
  | obj (c : Str) (ks : List Str) (ds : List D)
  | loc (l : Nat)

inductive Cell where
  | lst (ds : List D)
  | dic (kvs : List (Key × D))
  | ins (c : Str) (fs : List (Str × D))

abbrev Store := List Cell
abbrev EnvD := List (Option D)

/-- where the cells lie; what is hidden (a list that a comprehension fills) -/
structure Fi where
  c : List Addr
  h : List Addr
def Fi.out (φ : Fi) (a : Addr) : Prop := a ∉ φ.c ∧ a ∉ φ.h

/-- the written classes -/
structure Glb where
  K : PySem.W.Frag
  ca : Str → Option Addr

def RdL (G : Glb) (φ : Fi) (H : Hp) (a : Addr) (xs : List V) : Prop := (φ.out a ∧ Rd H a (.lst xs)) ∨
  ∃ (o : Obj) (its : Array Value) (n : Nat), G.K.lookup a = some o ∧ o.cls = .type "list" ∧ o.dict = none ∧ o.data = .seq its n ∧ its.size ≤ sizeLine ∧ Vals xs its.toList
def RdT (G : Glb) (φ : Fi) (H : Hp) (a : Addr) (xs : List V) : Prop := (φ.out a ∧ Rd H a (.tup xs)) ∨
  ∃ (o : Obj) (its : Array Value) (n : Nat), G.K.lookup a = some o ∧ o.cls = .type "tuple" ∧ o.data = .seq its n ∧ its.size ≤ sizeLine ∧ Vals xs its.toList

mutual
def Is (G : Glb) (φ : Fi) (H : Hp) : D → V → Prop
  | .non, v => v = .non
  | .bl b, v => v = .bl b
  | .int i, v => v = .int i
  | .str x, v => v = .str x
  | .tup ds, v => ∃ a xs, v = .ref a ∧ RdT G φ H a xs ∧ IsL G φ H ds xs
  | .lst ds, v => ∃ a xs, v = .ref a ∧ RdL G φ H a xs ∧ IsL G φ H ds xs
  | .dic ks ds, v => ∃ a kvs, v = .ref a ∧ (φ.out a ∧ Rd H a (.dK kvs)) ∧ kvs.map (·.1) = ks ∧ IsL G φ H ds (kvs.map (·.2))
  | .obj c ks ds, v => ∃ a C dx fs, v = .ref a ∧ (φ.out a ∧ H a = some (.ins C dx fs)) ∧ G.ca c = some C ∧ fs.map (·.1) = ks ∧ IsL G φ H ds (fs.map (·.2))
  | .loc l, v => ∃ a, φ.c[l]? = some a ∧ v = .ref a
def IsL (G : Glb) (φ : Fi) (H : Hp) : List D → List V → Prop
  | [], xs => xs = []
  | d :: ds, xs => ∃ x r, xs = x :: r ∧ Is G φ H d x ∧ IsL G φ H ds r
end

/-- what a state may become -/
structure Ext (φ : Fi) (H : Hp) (φ' : Fi) (H' : Hp) : Prop where
  pre : ∃ ψ, φ'.c = φ.c ++ ψ ∧ ∀ a ∈ ψ, a ∉ φ.c ∧ H a = none
  hid : φ'.h = φ.h
  keep : ∀ a o, a ∉ φ.c → H a = some o → H' a = some o

theorem Ext.refl {φ : Fi} {H : Hp} : Ext φ H φ H := ⟨⟨[], by simp, fun _ h => by simp at h⟩, rfl, fun _ _ _ h => h⟩
theorem Ext.outc {φ φ' : Fi} {H H' : Hp} (e : Ext φ H φ' H') {a : Addr} {o : HO} (n : a ∉ φ.c) (h : H a = some o) : a ∉ φ'.c := by
  obtain ⟨ψ, e1, p⟩ := e.pre
  rw [e1]
  intro q
  rcases List.mem_append.mp q with q | q
  · exact n q
  · have z := (p a q).2
    rw [h] at z; cases z
theorem Ext.out {φ φ' : Fi} {H H' : Hp} (e : Ext φ H φ' H') {a : Addr} {o : HO} (n : φ.out a) (h : H a = some o) : φ'.out a :=
  ⟨e.outc n.1 h, by rw [e.hid]; exact n.2⟩
theorem Ext.trans {φ φ1 φ2 : Fi} {H H1 H2 : Hp} (a : Ext φ H φ1 H1) (b : Ext φ1 H1 φ2 H2) : Ext φ H φ2 H2 := by
  refine ⟨?_, b.hid.trans a.hid, fun c o n h => b.keep c o (a.outc n h) (a.keep c o n h)⟩
  obtain ⟨ψ, e1, p⟩ := a.pre
  obtain ⟨χ, e2, q⟩ := b.pre
  refine ⟨ψ ++ χ, by rw [e2, e1, List.append_assoc], fun c hc => ?_⟩
  rcases List.mem_append.mp hc with hc | hc
  · exact p c hc
  · obtain ⟨n1, n2⟩ := q c hc
    have nφ : c ∉ φ.c := fun z => n1 (by rw [e1]; exact List.mem_append_left _ z)
    refine ⟨nφ, ?_⟩
    cases hq : H c with
    | none => rfl
    | some o => rw [a.keep c o nφ hq] at n2; cases n2
theorem Ext.get {φ φ' : Fi} {H H' : Hp} (e : Ext φ H φ' H') {l : Nat} {a : Addr} (h : φ.c[l]? = some a) : φ'.c[l]? = some a := by
  obtain ⟨ψ, e1, _⟩ := e.pre
  rw [e1, List.getElem?_append_left (List.getElem?_eq_some_iff.mp h).1]; exact h
theorem Ext.rd {φ φ' : Fi} {H H' : Hp} (e : Ext φ H φ' H') {a : Addr} {u : HO} (n : φ.out a) (h : Rd H a u) : φ'.out a ∧ Rd H' a u := by
  rcases h with h | ⟨o, h⟩
  · exact ⟨e.out n h, .inl (e.keep _ _ n.1 h)⟩
  · exact ⟨e.out n h, .inr ⟨o, e.keep _ _ n.1 h⟩⟩

/-- how readings are kept -/
structure Kept (φ : Fi) (H : Hp) (φ' : Fi) (H' : Hp) : Prop where
  get : ∀ (l : Nat) (a : Addr), φ.c[l]? = some a → φ'.c[l]? = some a
  rd : ∀ a u, φ.out a → Rd H a u → φ'.out a ∧ Rd H' a u
  ins : ∀ a C dx fs, φ.out a → H a = some (.ins C dx fs) → φ'.out a ∧ H' a = some (.ins C dx fs)
theorem Ext.kept {φ φ' : Fi} {H H' : Hp} (e : Ext φ H φ' H') : Kept φ H φ' H' :=
  ⟨fun _ _ => e.get, fun _ _ => e.rd, fun _ _ _ _ n h => ⟨e.out n h, e.keep _ _ n.1 h⟩⟩

section
variable {G : Glb} {φ φ' : Fi} {H H' : Hp}
theorem RdL.kept (k : Kept φ H φ' H') {a : Addr} {xs : List V} (h : RdL G φ H a xs) : RdL G φ' H' a xs := by
  rcases h with ⟨n, h⟩ | h
  · exact .inl (k.rd _ _ n h)
  · exact .inr h
theorem RdT.kept (k : Kept φ H φ' H') {a : Addr} {xs : List V} (h : RdT G φ H a xs) : RdT G φ' H' a xs := by
  rcases h with ⟨n, h⟩ | h
  · exact .inl (k.rd _ _ n h)
  · exact .inr h
mutual
theorem Is.kept (k : Kept φ H φ' H') : ∀ {d : D} {v : V}, Is G φ H d v → Is G φ' H' d v
  | .non, v, h => h
  | .bl b, v, h => h
  | .int i, v, h => h
  | .str x, v, h => h
  | .tup ds, v, h => by
    obtain ⟨a, xs, e, r, q⟩ := h
    exact ⟨a, xs, e, r.kept k, IsL.kept k q⟩
  | .lst ds, v, h => by
    obtain ⟨a, xs, e, r, q⟩ := h
    exact ⟨a, xs, e, r.kept k, IsL.kept k q⟩
  | .dic ks ds, v, h => by
    obtain ⟨a, kvs, e, ⟨n, r⟩, z, q⟩ := h
    exact ⟨a, kvs, e, k.rd _ _ n r, z, IsL.kept k q⟩
  | .obj c ks ds, v, h => by
    obtain ⟨a, C, dx, fs, e, ⟨n, r⟩, c, z, q⟩ := h
    exact ⟨a, C, dx, fs, e, k.ins _ _ _ _ n r, c, z, IsL.kept k q⟩
  | .loc l, v, h => by
    obtain ⟨a, p, e⟩ := h
    exact ⟨a, k.get _ _ p, e⟩
theorem IsL.kept (k : Kept φ H φ' H') : ∀ {ds : List D} {xs : List V}, IsL G φ H ds xs → IsL G φ' H' ds xs
  | [], xs, h => h
  | d :: ds, xs, h => by
    obtain ⟨x, r, e, p, q⟩ := h
    exact ⟨x, r, e, Is.kept k p, IsL.kept k q⟩
end
theorem Is.ext (e : Ext φ H φ' H') {d : D} {v : V} (h : Is G φ H d v) : Is G φ' H' d v := Is.kept e.kept h
theorem IsL.ext (e : Ext φ H φ' H') {ds : List D} {xs : List V} (h : IsL G φ H ds xs) : IsL G φ' H' ds xs := IsL.kept e.kept h
theorem RdL.seq {a : Addr} {xs : List V} (h : RdL G φ H a xs) : SqL G.K H a xs := by
  rcases h with ⟨_, h⟩ | h
  · exact .inl h
  · exact .inr h
theorem RdT.seq {a : Addr} {xs : List V} (h : RdT G φ H a xs) : SqT G.K H a xs := by
  rcases h with ⟨_, h⟩ | h
  · exact .inl h
  · exact .inr h
theorem IsL.length : ∀ {ds : List D} {xs : List V}, IsL G φ H ds xs → ds.length = xs.length
  | [], xs, h => by cases (show xs = [] from h); rfl
  | d :: ds, xs, h => by
    obtain ⟨x, r, rfl, _, q⟩ := h
    simp [IsL.length q]
theorem IsL.get : ∀ {ds : List D} {xs : List V} {i : Nat} {d : D}, IsL G φ H ds xs → ds[i]? = some d → ∃ x, xs[i]? = some x ∧ Is G φ H d x
  | [], _, _, _, _, e => by simp at e
  | d :: ds, xs, 0, d', h, e => by
    obtain ⟨x, r, rfl, p, q⟩ := h
    simp at e; subst e
    exact ⟨x, rfl, p⟩
  | d :: ds, xs, i + 1, d', h, e => by
    obtain ⟨x, r, rfl, p, q⟩ := h
    simpa using IsL.get q (by simpa using e)
theorem IsL.getX : ∀ {ds : List D} {xs : List V} {i : Nat} {x : V}, IsL G φ H ds xs → xs[i]? = some x → ∃ d, ds[i]? = some d ∧ Is G φ H d x
  | [], _, _, _, h, e => by cases (show _ = [] from h); simp at e
  | d :: ds, xs, 0, x', h, e => by
    obtain ⟨x, r, rfl, p, q⟩ := h
    simp at e; subst e
    exact ⟨d, rfl, p⟩
  | d :: ds, xs, i + 1, x', h, e => by
    obtain ⟨x, r, rfl, p, q⟩ := h
    simpa using IsL.getX q (by simpa using e)
theorem IsL.append : ∀ {ds es : List D} {xs ys : List V}, IsL G φ H ds xs → IsL G φ H es ys → IsL G φ H (ds ++ es) (xs ++ ys)
  | [], es, xs, ys, h, k => by cases (show xs = [] from h); exact k
  | d :: ds, es, xs, ys, h, k => by
    obtain ⟨x, r, rfl, p, q⟩ := h
    exact ⟨x, r ++ ys, rfl, p, IsL.append q k⟩
theorem IsL.set : ∀ {ds : List D} {xs : List V} {d : D} {x : V} (i : Nat), IsL G φ H ds xs → Is G φ H d x → IsL G φ H (ds.set i d) (xs.set i x)
  | [], xs, _, _, _, h, _ => by cases (show xs = [] from h); exact rfl
  | _ :: _, xs, d', x', 0, h, k => by
    obtain ⟨x, r, rfl, p, q⟩ := h
    exact ⟨x', r, rfl, k, q⟩
  | _ :: _, xs, d', x', i + 1, h, k => by
    obtain ⟨x, r, rfl, p, q⟩ := h
    exact ⟨x, _, rfl, p, IsL.set i q k⟩
theorem IsL.take : ∀ {ds : List D} {xs : List V} (n : Nat), IsL G φ H ds xs → IsL G φ H (ds.take n) (xs.take n)
  | _, _, 0, _ => by simp [IsL]
  | [], xs, n + 1, h => by cases (show xs = [] from h); exact rfl
  | _ :: _, xs, n + 1, h => by
    obtain ⟨x, r, rfl, p, q⟩ := h
    exact ⟨x, _, rfl, p, IsL.take n q⟩
theorem IsL.drop : ∀ {ds : List D} {xs : List V} (n : Nat), IsL G φ H ds xs → IsL G φ H (ds.drop n) (xs.drop n)
  | _, _, 0, h => h
  | [], xs, n + 1, h => by cases (show xs = [] from h); exact rfl
  | _ :: _, xs, n + 1, h => by
    obtain ⟨x, r, rfl, p, q⟩ := h
    exact IsL.drop n q
theorem IsL.one {d : D} {x : V} (h : Is G φ H d x) : IsL G φ H [d] [x] := ⟨x, [], rfl, h, rfl⟩
theorem IsL.cons {d : D} {x : V} {ds : List D} {xs : List V} (h : Is G φ H d x) (k : IsL G φ H ds xs) : IsL G φ H (d :: ds) (x :: xs) := ⟨x, xs, rfl, h, k⟩
theorem IsL.reverse : ∀ {ds : List D} {xs : List V}, IsL G φ H ds xs → IsL G φ H ds.reverse xs.reverse
  | [], xs, h => by cases (show xs = [] from h); exact rfl
  | d :: ds, xs, h => by
    obtain ⟨x, r, rfl, p, q⟩ := h
    rw [List.reverse_cons, List.reverse_cons]
    exact IsL.append (IsL.reverse q) (.one p)
theorem IsL.ints : ∀ {ns : List Int} {xs : List V}, IsL G φ H (ns.map D.int) xs → xs = ns.map V.int
  | [], xs, h => h
  | n :: ns, xs, h => by
    obtain ⟨x, r, rfl, p, q⟩ := h
    rw [IsL.ints q, show x = V.int n from p]; rfl
theorem IsL.of_ints : ∀ {ns : List Int}, IsL G φ H (ns.map D.int) (ns.map V.int)
  | [] => rfl
  | n :: ns => ⟨_, _, rfl, rfl, IsL.of_ints⟩
theorem IsL.bls : ∀ {ns : List Bool} {xs : List V}, IsL G φ H (ns.map D.bl) xs → xs = ns.map V.bl
  | [], xs, h => h
  | n :: ns, xs, h => by
    obtain ⟨x, r, rfl, p, q⟩ := h
    rw [IsL.bls q, show x = V.bl n from p]; rfl
theorem IsL.strs : ∀ {ns : List Str} {xs : List V}, IsL G φ H (ns.map D.str) xs → xs = ns.map V.str
  | [], xs, h => h
  | n :: ns, xs, h => by
    obtain ⟨x, r, rfl, p, q⟩ := h
    rw [IsL.strs q, show x = V.str n from p]; rfl
end

/-- a cell as it lies at its address -/
def CellOk (G : Glb) (φ : Fi) (H : Hp) (a : Addr) : Cell → Prop
  | .lst ds => ∃ xs, H a = some (.lst xs) ∧ IsL G φ H ds xs
  | .dic kvs => ∃ ws, H a = some (.dK ws) ∧ ws.map (·.1) = kvs.map (·.1) ∧ IsL G φ H (kvs.map (·.2)) (ws.map (·.2))
  | .ins c fs => ∃ C dx ws, G.ca c = some C ∧ H a = some (.ins C dx ws) ∧ ws.map (·.1) = fs.map (·.1) ∧ IsL G φ H (fs.map (·.2)) (ws.map (·.2))
structure SOk (G : Glb) (φ : Fi) (S : Store) (H : Hp) : Prop where
  len : φ.c.length = S.length
  nd : φ.c.Nodup
  hid : ∀ a ∈ φ.h, a ∉ φ.c ∧ ∃ o, H a = some o
  cell : ∀ (l : Nat) (c : Cell), S[l]? = some c → ∃ a, φ.c[l]? = some a ∧ CellOk G φ H a c

section
variable {G : Glb} {φ φ' : Fi} {H H' : Hp} {S : Store}
theorem CellOk.some {a : Addr} {c : Cell} (h : CellOk G φ H a c) : ∃ o, H a = some o := by
  cases c with
  | lst ds => obtain ⟨xs, h, _⟩ := h; exact ⟨_, h⟩
  | dic kvs => obtain ⟨xs, h, _⟩ := h; exact ⟨_, h⟩
  | ins c fs => obtain ⟨C, dx, ws, _, h, _⟩ := h; exact ⟨_, h⟩
theorem CellOk.move {a : Addr} {c : Cell} (k : Kept φ H φ' H') (e : H' a = H a) (h : CellOk G φ H a c) : CellOk G φ' H' a c := by
  cases c with
  | lst ds => obtain ⟨xs, h, q⟩ := h; exact ⟨xs, by rw [e]; exact h, q.kept k⟩
  | dic kvs => obtain ⟨xs, h, z, q⟩ := h; exact ⟨xs, by rw [e]; exact h, z, q.kept k⟩
  | ins c fs => obtain ⟨C, dx, ws, z, h, y, q⟩ := h; exact ⟨C, dx, ws, z, by rw [e]; exact h, y, q.kept k⟩
theorem SOk.there (s : SOk G φ S H) {a : Addr} (h : a ∈ φ.c) : ∃ o, H a = some o := by
  obtain ⟨l, hl, e⟩ := List.getElem_of_mem h
  have hS : l < S.length := by rw [← s.len]; exact hl
  obtain ⟨b, hb, c⟩ := s.cell l S[l] (List.getElem?_eq_getElem hS)
  rw [List.getElem?_eq_getElem hl, e] at hb
  cases hb
  exact c.some
theorem SOk.freshc (s : SOk G φ S H) {a : Addr} (h : H a = none) : a ∉ φ.c := fun q => by
  obtain ⟨o, e⟩ := s.there q
  rw [h] at e; cases e
theorem SOk.freshh (s : SOk G φ S H) {a : Addr} (h : H a = none) : a ∉ φ.h := fun q => by
  obtain ⟨_, o, e⟩ := s.hid a q
  rw [h] at e; cases e
theorem SOk.fresh (s : SOk G φ S H) {a : Addr} (h : H a = none) : φ.out a := ⟨s.freshc h, s.freshh h⟩
/-- a new object that is not of the store -/
theorem Ext.laid {a : Addr} {o : HO} (h : H a = none) : Ext φ H φ (upd H a o) :=
  ⟨⟨[], by simp, fun _ q => by simp at q⟩, rfl, fun b u _ e => by rw [upd_ne (ne_of_none e h)]; exact e⟩
theorem SOk.step (s : SOk G φ S H) (e : Ext φ H φ H') (k : ∀ a ∈ φ.c, H' a = H a) : SOk G φ S H' :=
  ⟨s.len, s.nd, fun a ha => let ⟨n, o, q⟩ := s.hid a ha; ⟨n, o, e.keep a o n q⟩, fun l c h => by
    obtain ⟨a, ha, hc⟩ := s.cell l c h
    exact ⟨a, ha, hc.move e.kept (k a (List.mem_of_getElem? ha))⟩⟩
theorem SOk.laid (s : SOk G φ S H) {a : Addr} {o : HO} (h : H a = none) : SOk G φ S (upd H a o) :=
  s.step (.laid h) fun b hb => upd_ne fun q => by subst q; exact s.freshc h hb
/-- a new cell -/
def Fi.add (φ : Fi) (a : Addr) : Fi := ⟨φ.c ++ [a], φ.h⟩
theorem Ext.newCell {a : Addr} {o : HO} (s : SOk G φ S H) (h : H a = none) : Ext φ H (φ.add a) (upd H a o) :=
  ⟨⟨[a], rfl, fun b hb => by simp at hb; subst hb; exact ⟨s.freshc h, h⟩⟩, rfl, fun b u _ e => by rw [upd_ne (ne_of_none e h)]; exact e⟩
theorem SOk.newCell (s : SOk G φ S H) {a : Addr} {o : HO} {c : Cell} (h : H a = none) (hc : CellOk G (φ.add a) (upd H a o) a c) : SOk G (φ.add a) (S ++ [c]) (upd H a o) := by
  refine ⟨by simp [Fi.add, s.len], ?_, fun b hb => ?_, fun l d hl => ?_⟩
  · refine List.nodup_append.mpr ⟨s.nd, by simp, fun x hx y hy => ?_⟩
    simp at hy; subst hy
    intro e; subst e; exact s.freshc h hx
  · obtain ⟨n, u, e⟩ := s.hid b hb
    have nb : b ≠ a := ne_of_none e h
    exact ⟨fun z => (List.mem_append.mp z).elim n fun z => nb (by simpa using z), u, by rw [upd_ne nb]; exact e⟩
  · by_cases q : l < S.length
    · rw [List.getElem?_append_left q] at hl
      obtain ⟨b, hb, kb⟩ := s.cell l d hl
      refine ⟨b, (Ext.newCell (o := o) s h).get hb, kb.move (Ext.newCell (o := o) s h).kept (upd_ne fun z => ?_)⟩
      subst z; exact s.freshc h (List.mem_of_getElem? hb)
    · rw [List.getElem?_append_right (Nat.le_of_not_lt q)] at hl
      have e : l = S.length := by
        have := (List.getElem?_eq_some_iff.mp hl).1
        simp at this; omega
      subst e
      simp at hl; subst hl
      exact ⟨a, by rw [← s.len]; simp [Fi.add], hc⟩
/-- a cell is written -/
theorem Ext.put {a : Addr} {o : HO} (h : a ∈ φ.c) : Ext φ H φ (upd H a o) :=
  ⟨⟨[], by simp, fun _ q => by simp at q⟩, rfl, fun b u n e => by rw [upd_ne (fun z => n (by rw [z]; exact h))]; exact e⟩
theorem SOk.put (s : SOk G φ S H) {l : Nat} {a : Addr} {o : HO} {c : Cell} (ha : φ.c[l]? = some a) (hc : CellOk G φ (upd H a o) a c) : SOk G φ (S.set l c) (upd H a o) := by
  have hl : l < S.length := by rw [← s.len]; exact (List.getElem?_eq_some_iff.mp ha).1
  refine ⟨by simp [s.len], s.nd, fun b hb => ?_, fun i d hd => ?_⟩
  · obtain ⟨n, u, e⟩ := s.hid b hb
    exact ⟨n, u, by rw [upd_ne (fun z => n (by rw [z]; exact List.mem_of_getElem? ha))]; exact e⟩
  · by_cases q : i = l
    · subst q
      rw [List.getElem?_set_self hl] at hd
      cases hd
      exact ⟨a, ha, hc⟩
    · rw [List.getElem?_set_ne (fun z => q z.symm)] at hd
      obtain ⟨b, hb, kb⟩ := s.cell i d hd
      refine ⟨b, hb, kb.move (Ext.put (List.mem_of_getElem? ha)).kept (upd_ne fun z => ?_)⟩
      subst z
      exact q (nd_ix s.nd hb ha)
theorem SOk.at_ (s : SOk G φ S H) {l : Nat} {c : Cell} {a : Addr} (h : S[l]? = some c) (ha : φ.c[l]? = some a) : CellOk G φ H a c := by
  obtain ⟨b, hb, k⟩ := s.cell l c h
  rw [ha] at hb; cases hb; exact k
/-- a hidden object -/
def Fi.hide (φ : Fi) (a : Addr) : Fi := ⟨φ.c, a :: φ.h⟩
theorem Kept.hide {a : Addr} {o : HO} (h : H a = none) : Kept φ H (φ.hide a) (upd H a o) := by
  have no : ∀ {b : Addr} {u : HO}, φ.out b → Rd H b u → (φ.hide a).out b := fun {b u} n r => ⟨n.1, fun q => (List.mem_cons.mp q).elim (fun z => by
    subst z
    rcases r with r | ⟨_, r⟩ <;> rw [h] at r <;> cases r) n.2⟩
  refine ⟨fun _ _ q => q, fun b u n r => ⟨no n r, ?_⟩, fun b C dx fs n r => ⟨no (u := .ins C dx fs) n (.inl r), ?_⟩⟩
  · rcases r with r | ⟨w, r⟩
    · exact .inl (by rw [upd_ne (ne_of_none r h)]; exact r)
    · exact .inr ⟨w, by rw [upd_ne (ne_of_none r h)]; exact r⟩
  · rw [upd_ne (ne_of_none r h)]; exact r
theorem Kept.show_ {a : Addr} : Kept (φ.hide a) H φ H :=
  ⟨fun _ _ q => q, fun b u n r => ⟨⟨n.1, fun z => n.2 (List.mem_cons_of_mem _ z)⟩, r⟩, fun b C dx fs n r => ⟨⟨n.1, fun z => n.2 (List.mem_cons_of_mem _ z)⟩, r⟩⟩
/-- the hidden object changes -/
theorem Kept.hidden {a : Addr} {o : HO} (hm : a ∈ φ.h) : Kept φ H φ (upd H a o) := by
  have nb : ∀ {b : Addr}, φ.out b → b ≠ a := fun n z => n.2 (by rw [z]; exact hm)
  refine ⟨fun _ _ q => q, fun b u n r => ⟨n, ?_⟩, fun b C dx fs n r => ⟨n, by rw [upd_ne (nb n)]; exact r⟩⟩
  rcases r with r | ⟨w, r⟩
  · exact .inl (by rw [upd_ne (nb n)]; exact r)
  · exact .inr ⟨w, by rw [upd_ne (nb n)]; exact r⟩
theorem SOk.hide (s : SOk G φ S H) {a : Addr} {o : HO} (h : H a = none) : SOk G (φ.hide a) S (upd H a o) := by
  refine ⟨s.len, s.nd, fun b hb => ?_, fun l c hl => ?_⟩
  · rcases List.mem_cons.mp hb with rfl | hb
    · exact ⟨s.freshc h, o, upd_same⟩
    · obtain ⟨n, u, e⟩ := s.hid b hb
      exact ⟨n, u, by rw [upd_ne (ne_of_none e h)]; exact e⟩
  · obtain ⟨b, hb, kb⟩ := s.cell l c hl
    exact ⟨b, hb, kb.move (Kept.hide h) (upd_ne fun z => by subst z; exact s.freshc h (List.mem_of_getElem? hb))⟩
theorem SOk.show_ {a : Addr} (s : SOk G (φ.hide a) S H) : SOk G φ S H :=
  ⟨s.len, s.nd, fun b hb => s.hid b (List.mem_cons_of_mem _ hb), fun l c hl => let ⟨b, hb, kb⟩ := s.cell l c hl; ⟨b, hb, kb.move Kept.show_ rfl⟩⟩
theorem SOk.hidden (s : SOk G φ S H) {a : Addr} {o : HO} (hm : a ∈ φ.h) : SOk G φ S (upd H a o) := by
  refine ⟨s.len, s.nd, fun b hb => ?_, fun l c hl => ?_⟩
  · obtain ⟨n, u, e⟩ := s.hid b hb
    by_cases q : b = a
    · subst q; exact ⟨n, o, upd_same⟩
    · exact ⟨n, u, by rw [upd_ne q]; exact e⟩
  · obtain ⟨b, hb, kb⟩ := s.cell l c hl
    exact ⟨b, hb, kb.move (Kept.hidden hm) (upd_ne fun z => by subst z; exact (s.hid _ hm).1 (List.mem_of_getElem? hb))⟩
end
end DL
end
section
/-! D-layer, part 1: what expressions and statements give, the judgements. -/
namespace DL
open PySem L2

structure Exc where
  cls : Str
  fld : Option (Str × D)

inductive ER where
  | ok (d : D) (S : Store)
  | ex (x : Exc) (S : Store)
  | bad
inductive LR where
  | ok (ds : List D) (S : Store)
  | ex (x : Exc) (S : Store)
  | bad
inductive SR where
  | nx (e : EnvD) (S : Store)
  | rt (d : D) (S : Store)
  | bk (e : EnvD) (S : Store)
  | ct (e : EnvD) (S : Store)
  | ex (x : Exc) (e : EnvD) (S : Store)
  | bad
abbrev EM := EnvD → Store → ER
abbrev LM := EnvD → Store → LR
abbrev SM := EnvD → Store → SR
abbrev FD := List D → Store → ER

def ER.bind (r : ER) (g : D → Store → ER) : ER := match r with
  | .ok d S => g d S
  | .ex x S => .ex x S
  | .bad => .bad
def ER.bindL (r : ER) (g : D → Store → LR) : LR := match r with
  | .ok d S => g d S
  | .ex x S => .ex x S
  | .bad => .bad
def LR.bind (r : LR) (g : List D → Store → LR) : LR := match r with
  | .ok d S => g d S
  | .ex x S => .ex x S
  | .bad => .bad
def LR.bindE (r : LR) (g : List D → Store → ER) : ER := match r with
  | .ok d S => g d S
  | .ex x S => .ex x S
  | .bad => .bad
def ER.bindS (r : ER) (e : EnvD) (g : D → Store → SR) : SR := match r with
  | .ok d S => g d S
  | .ex x S => .ex x e S
  | .bad => .bad
def LR.bindS (r : LR) (e : EnvD) (g : List D → Store → SR) : SR := match r with
  | .ok d S => g d S
  | .ex x S => .ex x e S
  | .bad => .bad
def SR.seq (r : SR) (g : EnvD → Store → SR) : SR := match r with
  | .nx e S => g e S
  | r => r

/-- an exception as it lies -/
def IsX (G : Glb) (φ : Fi) (H : Hp) (x : Exc) (cls : Value) (dx : Option Addr) : Prop :=
  ∃ C, G.ca x.cls = some C ∧ cls = .ref C ∧ match x.fld with
    | none => dx = none
    | some (f, d) => ∃ a v, dx = some a ∧ φ.out a ∧ H a = some (.xd [(f, v)]) ∧ Is G φ H d v
theorem IsX.ext {G : Glb} {φ φ' : Fi} {H H' : Hp} (e : Ext φ H φ' H') {x : Exc} {cls : Value} {dx : Option Addr} (h : IsX G φ H x cls dx) : IsX G φ' H' x cls dx := by
  obtain ⟨C, a, b, q⟩ := h
  refine ⟨C, a, b, ?_⟩
  cases hx : x.fld with
  | none => rw [hx] at q; exact q
  | some p =>
    rw [hx] at q
    obtain ⟨a', v, e1, n, e2, i⟩ := q
    exact ⟨a', v, e1, e.out n e2, e.keep _ _ n.1 e2, i.ext e⟩

def RepE (G : Glb) (φ : Fi) (H : Hp) (σ : St) (env : EnvD) : Prop :=
  σ.length = env.length ∧ ∀ (i : Nat) (d : D), env[i]? = some (some d) → ∃ v, σ[i]? = some (some v) ∧ Is G φ H d v
theorem RepE.kept {G : Glb} {φ φ' : Fi} {H H' : Hp} {σ : St} {env : EnvD} (k : Kept φ H φ' H') (h : RepE G φ H σ env) : RepE G φ' H' σ env :=
  ⟨h.1, fun i d e => let ⟨v, a, b⟩ := h.2 i d e; ⟨v, a, b.kept k⟩⟩
theorem RepE.ext {G : Glb} {φ φ' : Fi} {H H' : Hp} {σ : St} {env : EnvD} (e : Ext φ H φ' H') (h : RepE G φ H σ env) : RepE G φ' H' σ env := h.kept e.kept
theorem RepE.set {G : Glb} {φ : Fi} {H : Hp} {σ : St} {env : EnvD} (h : RepE G φ H σ env) {d : D} {v : V} (k : Is G φ H d v) (i : Nat) : RepE G φ H (σ.set i (some v)) (env.set i (some d)) := by
  refine ⟨by simp [h.1], fun j d' e => ?_⟩
  by_cases q : i = j
  · subst q
    by_cases hl : i < env.length
    · rw [List.getElem?_set_self hl] at e
      cases e
      exact ⟨v, by rw [List.getElem?_set_self (by rw [h.1]; exact hl)], k⟩
    · rw [List.getElem?_eq_none (by simpa using hl)] at e; cases e
  · rw [List.getElem?_set_ne q] at e
    obtain ⟨w, a, b⟩ := h.2 j d' e
    exact ⟨w, by rw [List.getElem?_set_ne q]; exact a, b⟩
def wipeD (env : EnvD) : List Nat → EnvD
  | [] => env
  | v :: vs => (wipeD env vs).set v none
theorem RepE.wipe {G : Glb} {φ : Fi} {H : Hp} {σ : St} {env : EnvD} (h : RepE G φ H σ env) : ∀ vs : List Nat, RepE G φ H (wipe σ vs) (wipeD env vs)
  | [] => h
  | w :: vs => by
    have ih := RepE.wipe h vs
    refine ⟨by simp [L2.wipe, wipeD, ih.1], fun j d' e => ?_⟩
    unfold wipeD at e
    unfold L2.wipe
    by_cases q : w = j
    · subst q
      by_cases hl : w < (wipeD env vs).length
      · rw [List.getElem?_set_self hl] at e; cases e
      · rw [List.getElem?_eq_none (by simpa using hl)] at e; cases e
    · rw [List.getElem?_set_ne q] at e ⊢
      exact ih.2 j d' e

section
variable (G : Glb) (W : WX) (φ : Fi) (H : Hp) (σ : St)
def PostE (r : ER) (Q : VK) : Prop := match r with
  | .ok d S => ∀ φ' H' v, Ext φ H φ' H' → SOk G φ' S H' → Is G φ' H' d v → Q v H'
  | .ex x S => ∀ φ' H' cls dx, Ext φ H φ' H' → SOk G φ' S H' → IsX G φ' H' x cls dx → W cls dx σ H'
  | .bad => False
def PostL (r : LR) (Q : List V → Hp → Prop) : Prop := match r with
  | .ok d S => ∀ φ' H' v, Ext φ H φ' H' → SOk G φ' S H' → IsL G φ' H' d v → Q v H'
  | .ex x S => ∀ φ' H' cls dx, Ext φ H φ' H' → SOk G φ' S H' → IsX G φ' H' x cls dx → W cls dx σ H'
  | .bad => False
def PostS (r : SR) (N : Ends) : Prop := match r with
  | .nx e S => ∀ φ' H' σ', Ext φ H φ' H' → SOk G φ' S H' → RepE G φ' H' σ' e → N.nx σ' H'
  | .rt d S => ∀ φ' H' v, Ext φ H φ' H' → SOk G φ' S H' → Is G φ' H' d v → N.rt v H'
  | .bk e S => ∀ φ' H' σ', Ext φ H φ' H' → SOk G φ' S H' → RepE G φ' H' σ' e → N.bk σ' H'
  | .ct e S => ∀ φ' H' σ', Ext φ H φ' H' → SOk G φ' S H' → RepE G φ' H' σ' e → N.ct σ' H'
  | .ex x e S => ∀ φ' H' σ' cls dx, Ext φ H φ' H' → SOk G φ' S H' → RepE G φ' H' σ' e → IsX G φ' H' x cls dx → W cls dx σ' H'
  | .bad => False
end

section
variable {G : Glb} {W : WX} {φ φ' : Fi} {H H' : Hp} {σ : St}
theorem PostE.ext (e : Ext φ H φ' H') {r : ER} {Q : VK} (h : PostE G W φ H σ r Q) : PostE G W φ' H' σ r Q := by
  cases r with
  | ok d S => exact fun φ2 H2 v e2 s i => h φ2 H2 v (e.trans e2) s i
  | ex x S => exact fun φ2 H2 c d e2 s i => h φ2 H2 c d (e.trans e2) s i
  | bad => exact h
theorem PostL.ext (e : Ext φ H φ' H') {r : LR} {Q : List V → Hp → Prop} (h : PostL G W φ H σ r Q) : PostL G W φ' H' σ r Q := by
  cases r with
  | ok d S => exact fun φ2 H2 v e2 s i => h φ2 H2 v (e.trans e2) s i
  | ex x S => exact fun φ2 H2 c d e2 s i => h φ2 H2 c d (e.trans e2) s i
  | bad => exact h
theorem PostS.ext (e : Ext φ H φ' H') {r : SR} {N : Ends} (h : PostS G W φ H r N) : PostS G W φ' H' r N := by
  cases r with
  | nx d S => exact fun φ2 H2 v e2 s i => h φ2 H2 v (e.trans e2) s i
  | rt d S => exact fun φ2 H2 v e2 s i => h φ2 H2 v (e.trans e2) s i
  | bk d S => exact fun φ2 H2 v e2 s i => h φ2 H2 v (e.trans e2) s i
  | ct d S => exact fun φ2 H2 v e2 s i => h φ2 H2 v (e.trans e2) s i
  | ex x d S => exact fun φ2 H2 v c dx e2 s i => h φ2 H2 v c dx (e.trans e2) s i
  | bad => exact h
/-- the ways on -/
theorem PostE.bind {r : ER} {g : D → Store → ER} {Q Q' : VK} (h : PostE G W φ H σ (r.bind g) Q)
    (k : ∀ d S φ' H' v, Ext φ H φ' H' → SOk G φ' S H' → Is G φ' H' d v → PostE G W φ' H' σ (g d S) Q → Q' v H') : PostE G W φ H σ r Q' := by
  cases r with
  | ok d S => exact fun φ2 H2 v e s i => k d S φ2 H2 v e s i (PostE.ext (r := g d S) e h)
  | ex x S => exact h
  | bad => exact h
theorem PostE.bindL {r : ER} {g : D → Store → LR} {Q : List V → Hp → Prop} {Q' : VK} (h : PostL G W φ H σ (r.bindL g) Q)
    (k : ∀ d S φ' H' v, Ext φ H φ' H' → SOk G φ' S H' → Is G φ' H' d v → PostL G W φ' H' σ (g d S) Q → Q' v H') : PostE G W φ H σ r Q' := by
  cases r with
  | ok d S => exact fun φ2 H2 v e s i => k d S φ2 H2 v e s i (PostL.ext (r := g d S) e h)
  | ex x S => exact h
  | bad => exact h
theorem PostL.bind {r : LR} {g : List D → Store → LR} {Q Q' : List V → Hp → Prop} (h : PostL G W φ H σ (r.bind g) Q)
    (k : ∀ d S φ' H' v, Ext φ H φ' H' → SOk G φ' S H' → IsL G φ' H' d v → PostL G W φ' H' σ (g d S) Q → Q' v H') : PostL G W φ H σ r Q' := by
  cases r with
  | ok d S => exact fun φ2 H2 v e s i => k d S φ2 H2 v e s i (PostL.ext (r := g d S) e h)
  | ex x S => exact h
  | bad => exact h
theorem PostL.bindE {r : LR} {g : List D → Store → ER} {Q : VK} {Q' : List V → Hp → Prop} (h : PostE G W φ H σ (r.bindE g) Q)
    (k : ∀ d S φ' H' v, Ext φ H φ' H' → SOk G φ' S H' → IsL G φ' H' d v → PostE G W φ' H' σ (g d S) Q → Q' v H') : PostL G W φ H σ r Q' := by
  cases r with
  | ok d S => exact fun φ2 H2 v e s i => k d S φ2 H2 v e s i (PostE.ext (r := g d S) e h)
  | ex x S => exact h
  | bad => exact h
theorem PostE.bindS {r : ER} {env : EnvD} (re : RepE G φ H σ env) {g : D → Store → SR} {N : Ends} {Q' : VK} (h : PostS G W φ H (r.bindS env g) N)
    (k : ∀ d S φ' H' v, Ext φ H φ' H' → SOk G φ' S H' → Is G φ' H' d v → PostS G W φ' H' (g d S) N → Q' v H') : PostE G W φ H σ r Q' := by
  cases r with
  | ok d S => exact fun φ2 H2 v e s i => k d S φ2 H2 v e s i (PostS.ext (r := g d S) e h)
  | ex x S => exact fun φ2 H2 c d e s i => h φ2 H2 σ c d e s (re.ext e) i
  | bad => exact h
theorem PostL.bindS {r : LR} {env : EnvD} (re : RepE G φ H σ env) {g : List D → Store → SR} {N : Ends} {Q' : List V → Hp → Prop} (h : PostS G W φ H (r.bindS env g) N)
    (k : ∀ d S φ' H' v, Ext φ H φ' H' → SOk G φ' S H' → IsL G φ' H' d v → PostS G W φ' H' (g d S) N → Q' v H') : PostL G W φ H σ r Q' := by
  cases r with
  | ok d S => exact fun φ2 H2 v e s i => k d S φ2 H2 v e s i (PostS.ext (r := g d S) e h)
  | ex x S => exact fun φ2 H2 c d e s i => h φ2 H2 σ c d e s (re.ext e) i
  | bad => exact h
theorem PostE.now {d : D} {S : Store} {v : V} {Q : VK} (h : PostE G W φ H σ (.ok d S) Q) (s : SOk G φ S H) (i : Is G φ H d v) : Q v H := h φ H v .refl s i
theorem PostL.now {d : List D} {S : Store} {v : List V} {Q : List V → Hp → Prop} (h : PostL G W φ H σ (.ok d S) Q) (s : SOk G φ S H) (i : IsL G φ H d v) : Q v H := h φ H v .refl s i
end

/-! ### the judgements -/
def DE (G : Glb) (X : Cx) (W : WX) (e : Expr) (f : EM) : Prop :=
  ∃ t, PE X e t ∧ ∀ σ H env φ S Q, SOk G φ S H → RepE G φ H σ env → PostE G W φ H σ (f env S) Q → t σ H Q
/-- a test -/
def PostT (G : Glb) (W : WX) (φ : Fi) (H : Hp) (σ : St) (r : ER) (Q : Bool → Hp → Prop) : Prop := PostE G W φ H σ (r.bind fun d S => match d with | .bl b => .ok (.bl b) S | _ => .bad) (fun v H' => ∀ b, v = .bl b → Q b H')
def DT (G : Glb) (X : Cx) (W : WX) (e : Expr) (f : EM) : Prop :=
  ∃ t, PT X e t ∧ ∀ σ H env φ S Q, SOk G φ S H → RepE G φ H σ env → PostT G W φ H σ (f env S) Q → t σ H Q
def DW (G : Glb) (X : Cx) (W : WX) (e : Expr) (f : EM) : Prop :=
  ∃ t, PW X e t ∧ ∀ σ H env φ S Q, SOk G φ S H → RepE G φ H σ env → PostT G W φ H σ (f env S) Q → t σ H Q
def DA (G : Glb) (X : Cx) (W : WX) (es : List Expr) (f : LM) : Prop :=
  ∃ t, PA X es t ∧ ∀ σ H env φ S Q, SOk G φ S H → RepE G φ H σ env → PostL G W φ H σ (f env S) Q → t σ H Q
def DS (G : Glb) (X : Cx) (W : WX) (st : Stmt) (f : SM) : Prop :=
  ∃ t, PS X st t ∧ ∀ σ H env φ S N, SOk G φ S H → RepE G φ H σ env → PostS G W φ H (f env S) N → t N σ H
def DSs (G : Glb) (X : Cx) (W : WX) (st : List Stmt) (f : SM) : Prop :=
  ∃ t, PSs X st t ∧ ∀ σ H env φ S N, SOk G φ S H → RepE G φ H σ env → PostS G W φ H (f env S) N → t N σ H
/-- alike but at some slots -/
def Off (vs : List Nat) (σ σ' : St) : Prop := σ'.length = σ.length ∧ ∀ j, j ∉ vs → σ'[j]? = σ[j]?
/-- a target; vs: the slots that it binds -/
def DG (G : Glb) (X : Cx) (tg : Expr) (b : D → EnvD → Option EnvD) (vs : List Nat) : Prop :=
  ∃ g, PG X tg g ∧ ∀ v d σ H env env' φ Q, Is G φ H d v → RepE G φ H σ env → b d env = some env' → (∀ σ', RepE G φ H σ' env' → Off vs σ σ' → Q σ' H) → g v σ H Q
def DGs (G : Glb) (X : Cx) (tgs : List Expr) (b : List D → EnvD → Option EnvD) (vs : List Nat) : Prop :=
  ∃ g, PGs X tgs g ∧ ∀ v d σ H env env' φ Q, IsL G φ H d v → RepE G φ H σ env → b d env = some env' → (∀ σ', RepE G φ H σ' env' → Off vs σ σ' → Q σ' H) → g v σ H Q

section
variable {G : Glb} {X : Cx} {W : WX}

/-! ### names and constants -/
def eVar (i : Nat) : EM := fun env S => match env[i]? with
  | some (some d) => .ok d S
  | _ => .bad
def eC (d : D) : EM := fun _ S => .ok d S
theorem de_var (i : Nat) {x : Str} {pos : Pos} (hN : X.N[i]? = some x := by rfl) (hv : Vis X.env.scope x := by first | exact Or.inl rfl | exact Or.inr (Or.inl rfl) | exact Or.inr (Or.inr rfl)) (hd : (x == ("__debug__" : Str)) = false := by decide)
    (hcd : (x == ("__classdict__" : Str)) = false := by decide) : DE G X W (.Name x pos) (eVar i) :=
  ⟨_, pe_var hN hv hd hcd, fun σ H env φ S Q s r h => by
    unfold eVar at h
    cases e : env[i]? with
    | none => rw [e] at h; exact h.elim
    | some o =>
      cases o with
      | none => rw [e] at h; exact h.elim
      | some d =>
        rw [e] at h
        obtain ⟨v, hv, k⟩ := r.2 i d e
        exact ⟨v, hv, h.now s k⟩⟩
theorem de_int {i : Int} {j pos} : DE G X W (.Constant (.int i) j pos) (eC (.int i)) := ⟨_, pe_int, fun _ _ _ _ _ _ s _ h => h.now s rfl⟩
theorem de_bl {i : Bool} {j pos} : DE G X W (.Constant (.bool i) j pos) (eC (.bl i)) := ⟨_, pe_bl, fun _ _ _ _ _ _ s _ h => h.now s rfl⟩
theorem de_non {j pos} : DE G X W (.Constant .none j pos) (eC .non) := ⟨_, pe_non, fun _ _ _ _ _ _ s _ h => h.now s rfl⟩
theorem de_str {x : Str} {j pos} : DE G X W (.Constant (.str x) j pos) (eC (.str x)) := ⟨_, pe_str, fun _ _ _ _ _ _ s _ h => h.now s rfl⟩
/-- a constant of the module: a number, a text, a truth, a tuple or list of such -/
theorem de_glob {x : Str} {d : D} {v : V} {u : Value} {pos : Pos} (hg : Gl X x) (hm : X.mg x = some u) (r : RelV v u) (hi : ∀ φ H, Is G φ H d v) (hd : (x == ("__debug__" : Str)) = false := by decide) : DE G X W (.Name x pos) (eC d) :=
  ⟨_, pe_glob hg hm r hd, fun _ _ _ _ _ _ s _ h => h.now s (hi _ _)⟩

/-! ### arguments -/
def lNil : LM := fun _ S => .ok [] S
def lCons (f : EM) (g : LM) : LM := fun env S => (f env S).bindL fun d S => (g env S).bind fun ds S => .ok (d :: ds) S
theorem da_nil : DA G X W [] lNil := ⟨_, pa_nil, fun _ _ _ _ _ _ s _ h => h.now s rfl⟩
theorem da_cons {e : Expr} {es : List Expr} {f : EM} {g : LM} (ha : DE G X W e f) (hb : DA G X W es g) (hs : starEach (e :: es) X.env = (false, eval e X.env) :: starEach es X.env := by rfl) : DA G X W (e :: es) (lCons f g) := by
  obtain ⟨ta, pa, qa⟩ := ha
  obtain ⟨tb, pb, qb⟩ := hb
  refine ⟨_, pa_cons pa pb hs, fun σ H env φ S Q s r h => ?_⟩
  refine qa σ H env φ S _ s r (PostE.bindL h fun d S1 φ1 H1 v e1 s1 i1 h1 => ?_)
  refine qb σ H1 env φ1 S1 _ s1 (r.ext e1) (PostL.bind h1 fun ds S2 φ2 H2 vs e2 s2 i2 h2 => ?_)
  exact h2.now s2 (.cons (i1.ext e2) i2)

/-! ### operators -/
/-- an operator by values -/
def DOp (G : Glb) (X : Cx) (f : Value → Value → Sem Value) (g : D → D → Store → ER) : Prop :=
  ∃ r, OpR X f r ∧ ∀ W φ S H σ dx dy x y Q, SOk G φ S H → Is G φ H dx x → Is G φ H dy y → PostE G W φ H σ (g dx dy S) Q → r x y H Q
def eOp (g : D → D → Store → ER) (a b : EM) : EM := fun env S => (a env S).bind fun x S => (b env S).bind fun y S => g x y S
theorem op_of {t ta tb : TE} {r : R2} {g : D → D → Store → ER} {fa fb : EM} (ha : ∀ σ H env φ S Q, SOk G φ S H → RepE G φ H σ env → PostE G W φ H σ (fa env S) Q → ta σ H Q)
    (hb : ∀ σ H env φ S Q, SOk G φ S H → RepE G φ H σ env → PostE G W φ H σ (fb env S) Q → tb σ H Q)
    (hr : ∀ W φ S H σ dx dy x y Q, SOk G φ S H → Is G φ H dx x → Is G φ H dy y → PostE G W φ H σ (g dx dy S) Q → r x y H Q) :
    ∀ σ H env φ S Q, SOk G φ S H → RepE G φ H σ env → PostE G W φ H σ (eOp g fa fb env S) Q → tOp r ta tb σ H Q := fun σ H env φ S Q s re h => by
  refine ha σ H env φ S _ s re (PostE.bind h fun d S1 φ1 H1 v e1 s1 i1 h1 => ?_)
  refine hb σ H1 env φ1 S1 _ s1 (re.ext e1) (PostE.bind h1 fun d2 S2 φ2 H2 v2 e2 s2 i2 h2 => ?_)
  exact hr W φ2 S2 H2 σ d d2 v v2 Q s2 (i1.ext e2) i2 h2
theorem de_op {op : Operator} {a b : Expr} {pos : Pos} {g : D → D → Store → ER} {fa fb : EM} (ho : DOp G X (binaryOp op) g) (ha : DE G X W a fa) (hb : DE G X W b fb) : DE G X W (.BinOp a op b pos) (eOp g fa fb) := by
  obtain ⟨r, hr, q⟩ := ho
  obtain ⟨ta, pa, qa⟩ := ha
  obtain ⟨tb, pb, qb⟩ := hb
  exact ⟨_, pe_op hr pa pb, op_of (t := ta) qa qb q⟩
theorem de_cmp {op : CmpOp} {a b : Expr} {pos : Pos} {g : D → D → Store → ER} {fa fb : EM} (ho : DOp G X (compareOp op) g) (ha : DE G X W a fa) (hb : DE G X W b fb) (hm : behindInMarks op b = false := by first | exact nomark _ | rfl) : DE G X W (.Compare a [op] [b] pos) (eOp g fa fb) := by
  obtain ⟨r, hr, q⟩ := ho
  obtain ⟨ta, pa, qa⟩ := ha
  obtain ⟨tb, pb, qb⟩ := hb
  exact ⟨_, pe_cmpR hr pa pb hm, op_of (t := ta) qa qb q⟩
theorem PostT.of {r : ER} {φ : Fi} {H : Hp} {σ : St} {Q : Bool → Hp → Prop} (h : PostT G W φ H σ r Q) : PostE G W φ H σ r fun x H' => ∃ k, x = .bl k ∧ Q k H' := by
  unfold PostT at h
  refine PostE.bind h fun d S φ' H' v e s i k => ?_
  cases d with
  | bl b =>
    have q := k.now s (show Is G φ' H' (.bl b) (.bl b) from rfl)
    exact ⟨b, i, q b rfl⟩
  | _ => exact False.elim k
theorem dt_cmp {op : CmpOp} {a b : Expr} {pos : Pos} {g : D → D → Store → ER} {fa fb : EM} (ho : DOp G X (compareOp op) g) (ha : DE G X W a fa) (hb : DE G X W b fb) (hm : behindInMarks op b = false := by first | exact nomark _ | rfl) : DT G X W (.Compare a [op] [b] pos) (eOp g fa fb) := by
  obtain ⟨r, hr, q⟩ := ho
  obtain ⟨ta, pa, qa⟩ := ha
  obtain ⟨tb, pb, qb⟩ := hb
  exact ⟨_, pt_cmpR hr pa pb hm, fun σ H env φ S Q s re h => op_of (t := ta) qa qb q σ H env φ S _ s re h.of⟩
/-- any expression that gives a truth, as a test -/
theorem dt_val {e : Expr} {f : EM} (h : DE G X W e f) (he : ∀ whole, isTrue e X.env whole = (do let v ← whole; standAt e.pos; holding [v] (truthy v)) := by intro _; rfl) : DT G X W e f := by
  obtain ⟨t, p, q⟩ := h
  refine ⟨_, pt_val p he, fun σ H env φ S Q s re hq => ?_⟩
  exact q σ H env φ S _ s re hq.of
/-- by truth -/
def truD : D → Option Bool
  | .non => some false
  | .bl b => some b
  | .int i => some (i != 0)
  | .tup ds => some (!ds.isEmpty)
  | .lst ds => some (!ds.isEmpty)
  | _ => none
def eTru (f : EM) : EM := fun env S => (f env S).bind fun d S => match truD d with | some b => .ok (.bl b) S | none => .bad
theorem IsL.empty {φ : Fi} {H : Hp} {ds : List D} {xs : List V} (h : IsL G φ H ds xs) : (!ds.isEmpty) = !xs.isEmpty := by
  cases ds with
  | nil => cases (show xs = [] from h); rfl
  | cons d ds => obtain ⟨x, r, rfl, _⟩ := h; rfl
theorem dt_truth {e : Expr} {f : EM} (h : DE G X W e f) (hK : X.K = G.K) (he : ∀ whole, isTrue e X.env whole = (do let v ← whole; standAt e.pos; holding [v] (truthy v)) := by intro _; rfl) : DT G X W e (eTru f) := by
  obtain ⟨t, p, q⟩ := h
  refine ⟨_, pt_truth p he, fun σ H env φ S Q s re hq => ?_⟩
  refine q σ H env φ S _ s re (PostE.bind hq.of fun d S1 φ1 H1 v e1 s1 i1 h1 => ?_)
  cases d with
  | non =>
    obtain ⟨k, ek, qk⟩ := h1.now s1 (show Is G φ1 H1 (.bl false) (.bl false) from rfl)
    cases ek
    exact ⟨false, by cases (show v = .non from i1); rfl, qk⟩
  | bl b =>
    obtain ⟨k, ek, qk⟩ := h1.now s1 (show Is G φ1 H1 (.bl b) (.bl b) from rfl)
    cases ek
    exact ⟨b, by cases (show v = .bl b from i1); rfl, qk⟩
  | int n =>
    obtain ⟨k, ek, qk⟩ := h1.now s1 (show Is G φ1 H1 (.bl (n != 0)) (.bl (n != 0)) from rfl)
    cases ek
    exact ⟨_, by cases (show v = .int n from i1); rfl, qk⟩
  | tup ds =>
    obtain ⟨k, ek, qk⟩ := h1.now s1 (show Is G φ1 H1 (.bl (!ds.isEmpty)) (.bl (!ds.isEmpty)) from rfl)
    cases ek
    obtain ⟨a, xs, rfl, r, il⟩ := i1
    exact ⟨_, .inr (.inl ⟨xs, by rw [hK]; exact r.seq, il.empty⟩), qk⟩
  | lst ds =>
    obtain ⟨k, ek, qk⟩ := h1.now s1 (show Is G φ1 H1 (.bl (!ds.isEmpty)) (.bl (!ds.isEmpty)) from rfl)
    cases ek
    obtain ⟨a, xs, rfl, r, il⟩ := i1
    exact ⟨_, .inl ⟨xs, by rw [hK]; exact r.seq, il.empty⟩, qk⟩
  | _ => exact False.elim h1

/-! ### and, or, not, if else -/
def eAnd (a b : EM) : EM := fun env S => (a env S).bind fun d S => match d with | .bl true => b env S | .bl false => .ok (.bl false) S | _ => .bad
def eOr (a b : EM) : EM := fun env S => (a env S).bind fun d S => match d with | .bl true => .ok (.bl true) S | .bl false => b env S | _ => .bad
def eNot (a : EM) : EM := fun env S => (a env S).bind fun d S => match d with | .bl b => .ok (.bl (!b)) S | _ => .bad
def eIf (c a b : EM) : EM := fun env S => (c env S).bind fun d S => match d with | .bl true => a env S | .bl false => b env S | _ => .bad
theorem de_one {op : BoolOp} {a : Expr} {pos : Pos} {f : EM} (h : DE G X W a f) : DE G X W (.BoolOp op [a] pos) f := let ⟨_, p, q⟩ := h; ⟨_, pe_one p, q⟩
theorem de_and {a b : Expr} {rest : List Expr} {pos : Pos} {fa fb : EM} (ha : DE G X W a fa) (hb : DE G X W (.BoolOp .And (b :: rest) pos) fb) : DE G X W (.BoolOp .And (a :: b :: rest) pos) (eAnd fa fb) := by
  obtain ⟨ta, pa, qa⟩ := ha
  obtain ⟨tb, pb, qb⟩ := hb
  refine ⟨_, pe_and pa pb, fun σ H env φ S Q s re h => ?_⟩
  refine qa σ H env φ S _ s re (PostE.bind h fun d S1 φ1 H1 v e1 s1 i1 h1 => ?_)
  cases d with
  | bl k =>
    refine ⟨k, i1, ?_⟩
    cases k with
    | true => exact iteT (qb σ H1 env φ1 S1 _ s1 (re.ext e1) h1)
    | false => exact iteF (h1.now s1 rfl)
  | _ => exact False.elim h1
theorem de_or {a b : Expr} {rest : List Expr} {pos : Pos} {fa fb : EM} (ha : DE G X W a fa) (hb : DE G X W (.BoolOp .Or (b :: rest) pos) fb) : DE G X W (.BoolOp .Or (a :: b :: rest) pos) (eOr fa fb) := by
  obtain ⟨ta, pa, qa⟩ := ha
  obtain ⟨tb, pb, qb⟩ := hb
  refine ⟨_, pe_or pa pb, fun σ H env φ S Q s re h => ?_⟩
  refine qa σ H env φ S _ s re (PostE.bind h fun d S1 φ1 H1 v e1 s1 i1 h1 => ?_)
  cases d with
  | bl k =>
    refine ⟨k, i1, ?_⟩
    cases k with
    | true => exact iteT (h1.now s1 rfl)
    | false => exact iteF (qb σ H1 env φ1 S1 _ s1 (re.ext e1) h1)
  | _ => exact False.elim h1
theorem de_not {a : Expr} {pos : Pos} {fa : EM} (ha : DE G X W a fa) : DE G X W (.UnaryOp .Not a pos) (eNot fa) := by
  obtain ⟨ta, pa, qa⟩ := ha
  refine ⟨_, pe_not pa, fun σ H env φ S Q s re h => ?_⟩
  refine qa σ H env φ S _ s re (PostE.bind h fun d S1 φ1 H1 v e1 s1 i1 h1 => ?_)
  cases d with
  | bl k => exact ⟨k, i1, h1.now s1 rfl⟩
  | _ => exact False.elim h1
theorem PostT.bind {r : ER} {g : D → Store → ER} {φ : Fi} {H : Hp} {σ : St} {Q Q' : Bool → Hp → Prop} (h : PostT G W φ H σ (r.bind g) Q)
    (k : ∀ b S φ' H', Ext φ H φ' H' → SOk G φ' S H' → PostT G W φ' H' σ (g (.bl b) S) Q → Q' b H') (nb : ∀ d S, (∀ b, d ≠ .bl b) → g d S = .bad) : PostT G W φ H σ r Q' := by
  cases r with
  | ok d S =>
    cases d with
    | bl b =>
      intro φ2 H2 v e s i b' eb
      cases (show v = .bl b from i)
      cases eb
      exact k b S φ2 H2 e s (PostE.ext e h)
    | _ =>
      have z : PostT G W φ H σ (g _ S) Q := h
      rw [nb _ _ (fun b q => by cases q)] at z
      exact False.elim z
  | ex x S => exact h
  | bad => exact h
theorem PostT.now {b : Bool} {S : Store} {φ : Fi} {H : Hp} {σ : St} {Q : Bool → Hp → Prop} (h : PostT G W φ H σ (.ok (.bl b) S) Q) (s : SOk G φ S H) : Q b H := h φ H (.bl b) .refl s rfl b rfl
theorem dt_not {a : Expr} {pos : Pos} {fa : EM} (ha : DT G X W a fa) : DT G X W (.UnaryOp .Not a pos) (eNot fa) := by
  obtain ⟨ta, pa, qa⟩ := ha
  refine ⟨_, pt_not pa, fun σ H env φ S Q s re h => ?_⟩
  refine qa σ H env φ S _ s re (PostT.bind h (fun b S1 φ1 H1 e1 s1 h1 => PostT.now h1 s1) fun d S q => ?_)
  cases d with
  | bl b => exact absurd rfl (q b)
  | _ => rfl
theorem dw_and1 {a : Expr} {pos : Pos} {f : EM} (h : DT G X W a f) : DW G X W (.BoolOp .And [a] pos) f := let ⟨_, p, q⟩ := h; ⟨_, pw_and1 p, q⟩
theorem dw_or1 {a : Expr} {pos : Pos} {f : EM} (h : DT G X W a f) : DW G X W (.BoolOp .Or [a] pos) f := let ⟨_, p, q⟩ := h; ⟨_, pw_or1 p, q⟩
theorem dw_and {a b : Expr} {rest : List Expr} {pos : Pos} {fa fb : EM} (ha : DT G X W a fa) (hb : DW G X W (.BoolOp .And (b :: rest) pos) fb) : DW G X W (.BoolOp .And (a :: b :: rest) pos) (eAnd fa fb) := by
  obtain ⟨ta, pa, qa⟩ := ha
  obtain ⟨tb, pb, qb⟩ := hb
  refine ⟨_, pw_and pa pb, fun σ H env φ S Q s re h => ?_⟩
  refine qa σ H env φ S _ s re (PostT.bind h (fun b S1 φ1 H1 e1 s1 h1 => ?_) fun d S q => ?_)
  · cases b with
    | true => exact iteT (qb σ H1 env φ1 S1 _ s1 (re.ext e1) h1)
    | false => exact iteF (h1.now s1)
  · cases d with
    | bl b => exact absurd rfl (q b)
    | _ => rfl
theorem dw_or {a b : Expr} {rest : List Expr} {pos : Pos} {fa fb : EM} (ha : DT G X W a fa) (hb : DW G X W (.BoolOp .Or (b :: rest) pos) fb) : DW G X W (.BoolOp .Or (a :: b :: rest) pos) (eOr fa fb) := by
  obtain ⟨ta, pa, qa⟩ := ha
  obtain ⟨tb, pb, qb⟩ := hb
  refine ⟨_, pw_or pa pb, fun σ H env φ S Q s re h => ?_⟩
  refine qa σ H env φ S _ s re (PostT.bind h (fun b S1 φ1 H1 e1 s1 h1 => ?_) fun d S q => ?_)
  · cases b with
    | true => exact iteT (h1.now s1)
    | false => exact iteF (qb σ H1 env φ1 S1 _ s1 (re.ext e1) h1)
  · cases d with
    | bl b => exact absurd rfl (q b)
    | _ => rfl
theorem DW.t {e : Expr} {f : EM} (h : DW G X W e f) : DT G X W e f := let ⟨_, p, q⟩ := h; ⟨_, p.pt, q⟩
theorem de_if {c a b : Expr} {pos : Pos} {fc fa fb : EM} (hc : DT G X W c fc) (ha : DE G X W a fa) (hb : DE G X W b fb) : DE G X W (.IfExp c a b pos) (eIf fc fa fb) := by
  obtain ⟨tc, pc, qc⟩ := hc
  obtain ⟨ta, pa, qa⟩ := ha
  obtain ⟨tb, pb, qb⟩ := hb
  refine ⟨_, pe_ifExp pc pa pb, fun σ H env φ S Q s re h => ?_⟩
  unfold eIf at h
  refine qc σ H env φ S _ s re ?_
  cases hr : fc env S with
  | ok d S1 =>
    rw [hr] at h
    cases d with
    | bl k =>
      intro φ1 H1 v e s1 i b eb
      cases (show v = .bl k from i)
      cases eb
      cases k with
      | true => exact iteT (qa σ H1 env φ1 S1 _ s1 (re.ext e) (PostE.ext e h))
      | false => exact iteF (qb σ H1 env φ1 S1 _ s1 (re.ext e) (PostE.ext e h))
    | _ => exact False.elim h
  | ex x S1 => rw [hr] at h; exact h
  | bad => rw [hr] at h; exact h

/-! ### tuples and lists -/
/-- a length that may be; how it is decided stays shut (the kernel would count) -/
def sz (n : Nat) : Prop := n ≤ 16777216
noncomputable instance {n : Nat} : Decidable (sz n) := Classical.propDecidable _
noncomputable def eTup (f : LM) : EM := fun env S => (f env S).bindE fun ds S => if sz ds.length then .ok (.tup ds) S else .bad
noncomputable def eLst (f : LM) : EM := fun env S => (f env S).bindE fun ds S => if sz ds.length then .ok (.lst ds) S else .bad
/-- a list that is kept as a cell -/
noncomputable def eLstM (f : LM) : EM := fun env S => (f env S).bindE fun ds S => if sz ds.length then .ok (.loc S.length) (S ++ [.lst ds]) else .bad
theorem tup_new {φ : Fi} {H : Hp} {S : Store} {σ : St} {ds : List D} {xs : List V} {Q : VK} (s : SOk G φ S H) (i : IsL G φ H ds xs) (h : PostE G W φ H σ (.ok (.tup ds) S) Q) {p : Addr} (hp : H p = none) : Q (.ref p) (upd H p (.tup xs)) :=
  h φ _ _ (.laid hp) (s.laid hp) ⟨p, xs, rfl, .inl ⟨s.fresh hp, .inl upd_same⟩, i.ext (.laid hp)⟩
theorem lst_new {φ : Fi} {H : Hp} {S : Store} {σ : St} {ds : List D} {xs : List V} {Q : VK} (s : SOk G φ S H) (i : IsL G φ H ds xs) (h : PostE G W φ H σ (.ok (.lst ds) S) Q) {p : Addr} (hp : H p = none) : Q (.ref p) (upd H p (.lst xs)) :=
  h φ _ _ (.laid hp) (s.laid hp) ⟨p, xs, rfl, .inl ⟨s.fresh hp, .inl upd_same⟩, i.ext (.laid hp)⟩
theorem lst_newM {φ : Fi} {H : Hp} {S : Store} {σ : St} {ds : List D} {xs : List V} {Q : VK} (s : SOk G φ S H) (i : IsL G φ H ds xs) (h : PostE G W φ H σ (.ok (.loc S.length) (S ++ [.lst ds])) Q) {p : Addr} (hp : H p = none) : Q (.ref p) (upd H p (.lst xs)) :=
  h (φ.add p) _ _ (.newCell s hp) (s.newCell hp ⟨xs, upd_same, i.ext (.newCell s hp)⟩) ⟨p, by rw [← s.len]; simp [Fi.add], rfl⟩
theorem sizeLine_is {n : Nat} (h : n ≤ 16777216) : n ≤ sizeLine := by rw [sizeLine_eq]; exact h
theorem de_tup {es : List Expr} {x1} {pos : Pos} {f : LM} (h : DA G X W es f) : DE G X W (.Tuple es x1 pos) (eTup f) := by
  obtain ⟨t, p, q⟩ := h
  refine ⟨_, pe_tup p, fun σ H env φ S Q s re hq => ?_⟩
  refine q σ H env φ S _ s re (PostL.bindE hq fun ds S1 φ1 H1 xs e1 s1 i1 h1 => ?_)
  by_cases hl : sz ds.length
  · rw [if_pos hl] at h1
    exact ⟨by rw [← i1.length]; exact sizeLine_is hl, fun p hp => tup_new s1 i1 h1 hp⟩
  · rw [if_neg hl] at h1; exact h1.elim
theorem de_lst {es : List Expr} {pos : Pos} {f : LM} (h : DA G X W es f) : DE G X W (.List es pos) (eLst f) := by
  obtain ⟨t, p, q⟩ := h
  refine ⟨_, pe_lst p, fun σ H env φ S Q s re hq => ?_⟩
  refine q σ H env φ S _ s re (PostL.bindE hq fun ds S1 φ1 H1 xs e1 s1 i1 h1 => ?_)
  by_cases hl : sz ds.length
  · rw [if_pos hl] at h1
    exact ⟨by rw [← i1.length]; exact sizeLine_is hl, fun p hp => lst_new s1 i1 h1 hp⟩
  · rw [if_neg hl] at h1; exact h1.elim
theorem de_lstM {es : List Expr} {pos : Pos} {f : LM} (h : DA G X W es f) : DE G X W (.List es pos) (eLstM f) := by
  obtain ⟨t, p, q⟩ := h
  refine ⟨_, pe_lst p, fun σ H env φ S Q s re hq => ?_⟩
  refine q σ H env φ S _ s re (PostL.bindE hq fun ds S1 φ1 H1 xs e1 s1 i1 h1 => ?_)
  by_cases hl : sz ds.length
  · rw [if_pos hl] at h1
    exact ⟨by rw [← i1.length]; exact sizeLine_is hl, fun p hp => lst_newM s1 i1 h1 hp⟩
  · rw [if_neg hl] at h1; exact h1.elim

/-! ### statements -/
def sSkip : SM := fun e S => .nx e S
def sSeq (a b : SM) : SM := fun e S => (a e S).seq b
theorem dss_nil : DSs G X W [] sSkip := ⟨_, pss_nil, fun σ H env φ S N s re h => h φ H σ .refl s re⟩
theorem dss_cons {st : Stmt} {rest : List Stmt} {f g : SM} (ha : DS G X W st f) (hb : DSs G X W rest g) : DSs G X W (st :: rest) (sSeq f g) := by
  obtain ⟨t, p, q⟩ := ha
  obtain ⟨u, p', q'⟩ := hb
  refine ⟨_, pss_cons p p', fun σ H env φ S N s re h => ?_⟩
  refine q σ H env φ S _ s re ?_
  unfold sSeq at h
  cases hr : f env S with
  | nx e S1 =>
    rw [hr] at h
    exact fun φ1 H1 σ1 e1 s1 r1 => q' σ1 H1 e φ1 S1 _ s1 r1 (PostS.ext e1 h)
  | rt d S1 => rw [hr] at h; exact h
  | bk d S1 => rw [hr] at h; exact h
  | ct d S1 => rw [hr] at h; exact h
  | ex x d S1 => rw [hr] at h; exact h
  | bad => rw [hr] at h; exact h
theorem dss_one {st : Stmt} {f : SM} (ha : DS G X W st f) : DSs G X W [st] f := let ⟨_, p, q⟩ := ha; ⟨_, pss_one p, q⟩
theorem ds_pass {pos : Pos} : DS G X W (.Pass pos) sSkip := ⟨_, ps_pass, fun σ H env φ S N s re h => h φ H σ .refl s re⟩
theorem ds_doc {x : Str} {j pos pos'} : DS G X W (.Expr (.Constant (.str x) j pos) pos') sSkip := ⟨_, ps_doc, fun σ H env φ S N s re h => h φ H σ .refl s re⟩
def sBk : SM := fun e S => .bk e S
def sCt : SM := fun e S => .ct e S
theorem ds_break {pos : Pos} : DS G X W (.Break pos) sBk := ⟨_, ps_break, fun σ H env φ S N s re h => h φ H σ .refl s re⟩
theorem ds_continue {pos : Pos} : DS G X W (.Continue pos) sCt := ⟨_, ps_continue, fun σ H env φ S N s re h => h φ H σ .refl s re⟩
def sRet (f : EM) : SM := fun e S => (f e S).bindS e fun d S => .rt d S
def sRetN : SM := fun e S => .rt .non S
def sDrop (f : EM) : SM := fun e S => (f e S).bindS e fun _ S => .nx e S
theorem ds_ret {e : Expr} {pos : Pos} {f : EM} (h : DE G X W e f) : DS G X W (.Return (some e) pos) (sRet f) := by
  obtain ⟨t, p, q⟩ := h
  refine ⟨_, ps_ret p, fun σ H env φ S N s re h => ?_⟩
  exact q σ H env φ S _ s re (PostE.bindS re h fun d S1 φ1 H1 v e1 s1 i1 h1 => h1 φ1 H1 v .refl s1 i1)
theorem ds_retN {pos : Pos} : DS G X W (.Return none pos) sRetN := ⟨_, ps_retN, fun σ H env φ S N s re h => h φ H .non .refl s rfl⟩
theorem ds_expr {e : Expr} {pos : Pos} {f : EM} (h : DE G X W e f) (hs : swapsWith e none pos.line X.env = pure false := by rfl) : DS G X W (.Expr e pos) (sDrop f) := by
  obtain ⟨t, p, q⟩ := h
  refine ⟨_, ps_expr p hs, fun σ H env φ S N s re h => ?_⟩
  exact q σ H env φ S _ s re (PostE.bindS re h fun d S1 φ1 H1 v e1 s1 i1 h1 => h1 φ1 H1 σ .refl s1 (re.ext e1))
def sIf (c : EM) (a b : SM) : SM := fun e S => (c e S).bindS e fun d S => match d with | .bl true => a e S | .bl false => b e S | _ => .bad
theorem ds_if {c : Expr} {a b : List Stmt} {pos : Pos} {fc : EM} {fa fb : SM} (hc : DT G X W c fc) (ha : DSs G X W a fa) (hb : DSs G X W b fb) : DS G X W (.If c a b pos) (sIf fc fa fb) := by
  obtain ⟨tc, pc, qc⟩ := hc
  obtain ⟨ta, pa, qa⟩ := ha
  obtain ⟨tb, pb, qb⟩ := hb
  refine ⟨_, ps_if pc pa pb, fun σ H env φ S N s re h => ?_⟩
  unfold sIf at h
  refine qc σ H env φ S _ s re ?_
  cases hr : fc env S with
  | ok d S1 =>
    rw [hr] at h
    cases d with
    | bl k =>
      intro φ1 H1 v e s1 i b eb
      cases (show v = .bl k from i)
      cases eb
      cases k with
      | true => exact iteT (qa σ H1 env φ1 S1 _ s1 (re.ext e) (PostS.ext e h))
      | false => exact iteF (qb σ H1 env φ1 S1 _ s1 (re.ext e) (PostS.ext e h))
    | _ => exact False.elim h
  | ex x S1 =>
    rw [hr] at h
    exact fun φ2 H2 c d e s i => h φ2 H2 σ c d e s (re.ext e) i
  | bad => rw [hr] at h; exact h

/-! ### targets, assignments -/
def bName (i : Nat) : D → EnvD → Option EnvD := fun d env => some (env.set i (some d))
theorem dg_name {i : Nat} {x : Str} {pos : Pos} (hN : X.N.Nodup) (hi : X.N[i]? = some x) (hx : Loc X.env.scope x) (hf : X.fn x = true ∨ X.env.scope.names.lookup x = some .local := by first | exact .inl rfl | exact .inr rfl) : DG G X (.Name x pos) (bName i) [i] :=
  ⟨_, pg_name hN hi hx hf, fun v d σ H env env' φ Q i1 r e k => by
    cases e
    refine k _ (r.set i1 i) ⟨by simp, fun j hj => ?_⟩
    rw [List.getElem?_set_ne (fun z => hj (by simp [z]))]⟩
def bNil : List D → EnvD → Option EnvD := fun ds env => match ds with | [] => some env | _ => none
def bCons (b : D → EnvD → Option EnvD) (c : List D → EnvD → Option EnvD) : List D → EnvD → Option EnvD := fun ds env => match ds with | [] => none | d :: ds => (b d env).bind (c ds)
def bTup (b : List D → EnvD → Option EnvD) : D → EnvD → Option EnvD := fun d env => match d with | .tup ds => b ds env | _ => none
theorem dgs_nil : DGs G X [] bNil [] := ⟨_, pgs_nil, fun v d σ H env env' φ Q i1 r e k => by
  cases d with
  | nil =>
    cases (show v = [] from i1)
    cases e
    exact ⟨rfl, k σ r ⟨rfl, fun _ _ => rfl⟩⟩
  | cons _ _ => cases e⟩
theorem dgs_cons {e : Expr} {es : List Expr} {b : D → EnvD → Option EnvD} {c : List D → EnvD → Option EnvD} {vs ws : List Nat} (h1 : DG G X e b vs) (h2 : DGs G X es c ws) (hs : List.map (fun x => x.snd) (assignEach (e :: es) X.env) = assign e X.env :: List.map (fun x => x.snd) (assignEach es X.env) := by rfl) : DGs G X (e :: es) (bCons b c) (vs ++ ws) := by
  obtain ⟨g, p, q⟩ := h1
  obtain ⟨g', p', q'⟩ := h2
  refine ⟨_, pgs_cons p p' hs, fun v d σ H env env' φ Q i1 r e k => ?_⟩
  cases d with
  | nil => cases e
  | cons d ds =>
    obtain ⟨x, xs, rfl, i2, i3⟩ := i1
    obtain ⟨env1, e1, e2⟩ := Option.bind_eq_some_iff.mp (show (b d env).bind (c ds) = some env' from e)
    refine ⟨x, xs, rfl, q x d σ H env env1 φ _ i2 r e1 fun σ1 r1 o1 => ?_⟩
    exact q' xs ds σ1 H env1 env' φ Q i3 r1 e2 fun σ2 r2 o2 => k σ2 r2 ⟨o2.1.trans o1.1, fun j hj => (o2.2 j fun z => hj (List.mem_append_right _ z)).trans (o1.2 j fun z => hj (List.mem_append_left _ z))⟩
def BLen (n : Nat) (b : List D → EnvD → Option EnvD) : Prop := ∀ ds env env', b ds env = some env' → ds.length = n
theorem blen_nil : BLen 0 bNil := fun ds env env' e => by
  cases ds with
  | nil => rfl
  | cons _ _ => cases e
theorem blen_cons {n : Nat} {b : D → EnvD → Option EnvD} {c : List D → EnvD → Option EnvD} (h : BLen n c) : BLen (n + 1) (bCons b c) := fun ds env env' e => by
  cases ds with
  | nil => cases e
  | cons d ds =>
    obtain ⟨env1, e1, e2⟩ := Option.bind_eq_some_iff.mp (show (b d env).bind (c ds) = some env' from e)
    simp [h _ _ _ e2]
theorem dg_tup {es : List Expr} {k n : Nat} {pos : Pos} {b : List D → EnvD → Option EnvD} {vs : List Nat} (hc : X.calm = true) (hK : X.K = G.K) (h : DGs G X es b vs) (hb : BLen n b)
    (hn : (assignEach es X.env).length = n := by rfl) (hst : (assignEach es X.env).findIdx? (·.1) = none := by rfl) : DG G X (.Tuple es k pos) (bTup b) vs := by
  obtain ⟨g, p, q⟩ := h
  refine ⟨_, pg_tup (n := n) hc p hn hst, fun v d σ H env env' φ Q i1 r e k => ?_⟩
  cases d with
  | tup ds =>
    obtain ⟨a, xs, rfl, rt, il⟩ := i1
    exact ⟨a, xs, rfl, by rw [hK]; exact rt.seq, by rw [← il.length]; exact hb _ _ _ e, q xs ds σ H env env' φ Q il r e k⟩
  | _ => cases e
def sAsg (f : EM) (b : D → EnvD → Option EnvD) : SM := fun e S => (f e S).bindS e fun d S => match b d e with | some e' => .nx e' S | none => .bad
theorem ds_asg {tg e : Expr} {pos : Pos} {f : EM} {b : D → EnvD → Option EnvD} {vs : List Nat} (he : DE G X W e f) (hg : DG G X tg b vs) (hs : swapsWithSole [tg] e pos.line X.env = pure false := by rfl) (hw : swappedStores [tg] e X.env = pure none := by rfl)
    (h1 : List.map (fun x => x.snd) (assignEach [tg] X.env) = [assign tg X.env] := by rfl) : DS G X W (.Assign [tg] e pos) (sAsg f b) := by
  obtain ⟨t, p, q⟩ := he
  obtain ⟨g, p', q'⟩ := hg
  refine ⟨_, ps_asg p p' hs hw h1, fun σ H env φ S N s re h => ?_⟩
  refine q σ H env φ S _ s re (PostE.bindS re h fun d S1 φ1 H1 v e1 s1 i1 h1 => ?_)
  cases hb : b d env with
  | none => rw [hb] at h1; exact h1.elim
  | some env' =>
    rw [hb] at h1
    exact q' v d σ H1 env env' φ1 _ i1 (re.ext e1) hb fun σ' r' _ => h1 φ1 H1 σ' .refl s1 r'
/-- x = e -/
theorem ds_set {i : Nat} {x : Str} {e : Expr} {pos pos' : Pos} {f : EM} (hN : X.N.Nodup) (hi : X.N[i]? = some x) (hx : Loc X.env.scope x) (he : DE G X W e f) (hs : swapsWith e (some (.Name x pos')) pos.line X.env = pure false := by rfl)
    (hf : X.fn x = true ∨ X.env.scope.names.lookup x = some .local := by first | exact .inl rfl | exact .inr rfl) : DS G X W (.Assign [.Name x pos'] e pos) (sAsg f (bName i)) := by
  obtain ⟨t, p, q⟩ := he
  refine ⟨_, ps_set hN hi hx p hs hf, fun σ H env φ S N s re h => ?_⟩
  refine q σ H env φ S _ s re (PostE.bindS re h fun d S1 φ1 H1 v e1 s1 i1 h1 => ?_)
  exact h1 φ1 H1 _ .refl s1 ((re.ext e1).set i1 i)
end
end DL
end
section
/-! D-layer, part 2: operators, subscripts, calls of built-ins. -/
namespace DL
open PySem L2

/-- the items of a list, be it a value or a cell -/
def listD (S : Store) : D → Option (List D)
  | .lst ds => some ds
  | .loc l => match S[l]? with
    | some (.lst ds) => some ds
    | _ => none
  | _ => none
def tupD : D → Option (List D)
  | .tup ds => some ds
  | _ => none
section
variable {G : Glb} {X : Cx} {W : WX} {φ : Fi} {S : Store} {H : Hp} {σ : St}
theorem listD_sq {d : D} {v : V} {ds : List D} (s : SOk G φ S H) (i : Is G φ H d v) (e : listD S d = some ds) : ∃ a xs, v = .ref a ∧ SqL G.K H a xs ∧ IsL G φ H ds xs := by
  cases d with
  | lst es =>
    cases e
    obtain ⟨a, xs, e1, r, q⟩ := i
    exact ⟨a, xs, e1, r.seq, q⟩
  | loc l =>
    obtain ⟨a, ha, e1⟩ := i
    simp only [listD] at e
    cases hc : S[l]? with
    | none => rw [hc] at e; cases e
    | some c =>
      rw [hc] at e
      have k := s.at_ hc ha
      cases c with
      | lst es =>
        cases e
        obtain ⟨xs, hx, q⟩ := k
        exact ⟨a, xs, e1, SqL.of hx, q⟩
      | _ => cases e
  | _ => cases e
theorem tupD_sq {d : D} {v : V} {ds : List D} (i : Is G φ H d v) (e : tupD d = some ds) : ∃ a xs, v = .ref a ∧ SqT G.K H a xs ∧ IsL G φ H ds xs := by
  cases d with
  | tup es =>
    cases e
    obtain ⟨a, xs, e1, r, q⟩ := i
    exact ⟨a, xs, e1, r.seq, q⟩
  | _ => cases e

/-! ### + - * // % ** -/
theorem add_lst_any {pins : List (Addr × Obj)} {s : Shared} {xs ys : List V} {a b : Addr} {E : Value → Shared → Prop} {Q : VK} (I : Inv X pins σ H s) (ha : SqL X.K H a xs) (hb : SqL X.K H b ys) (hz : xs.length + ys.length ≤ sizeLine)
    (q : ∀ p, H p = none → Q (.ref p) (upd H p (.lst (xs ++ ys)))) : wpAny (model X.prog X.w) X.A (binaryOp .Add (.ref a) (.ref b)) (EP X pins σ Q) E s := by
  obtain ⟨i1, r1, ⟨⟨c1, d1, t1, sl1⟩, n1, g1, hc1, hd1, ht1⟩, _⟩ := I.list ha
  obtain ⟨i2, r2, ⟨⟨c2, d2, t2, sl2⟩, n2, g2, hc2, hd2, ht2⟩, _⟩ := I.list hb
  simp only at hc1 hd1 ht1 hc2 hd2 ht2
  subst hc1 hd1 ht1 hc2 hd2 ht2
  have l1 := r1.length
  have l2 := r2.length
  have hj : i1.toArray ++ i2.toArray = (i1 ++ i2).toArray := by simp
  refine concat_meets ⟨_, g1, rfl⟩ ⟨_, g2, rfl⟩ noFill_list_add seq_list_add PySem.F.slot_list_add PySem.F.entry_list_add (PySem.F.args_list_add_2 _ _) (PyProof.Rows.list_addW a b i1.toArray i2.toArray n1 n2 none none sl1 sl2 (by simp; omega)) ⟨g1, g2, ?_⟩
  rw [hj]
  exact ⟨.ref _, _, I.lnew (t' := s.toks) (r1.append r2) (by rw [List.length_append]; omega), rfl, q _ I.fresh⟩
def rCatL (K : PySem.W.Frag) : R2 := fun x y H Q => ∃ l b xs zs, x = .ref l ∧ y = .ref b ∧ SqL K H l xs ∧ SqL K H b zs ∧ xs.length + zs.length ≤ sizeLine ∧ ∀ p, H p = none → Q (.ref p) (upd H p (.lst (xs ++ zs)))
theorem op_catL : OpR X (binaryOp .Add) (rCatL X.K) := by
  rintro pins s σ H x y v u Q I rx ry ⟨l, b, xs, zs, rfl, rfl, h1, h2, hz, q⟩
  cases rx
  cases ry
  exact add_lst_any I h1 h2 hz q
noncomputable def opAdd (x y : D) (S : Store) : ER := match x, y with
  | .int i, .int j => .ok (.int (i + j)) S
  | .str a, .str b => if sz (a.length + b.length) then .ok (.str (a ++ b)) S else .bad
  | .tup a, .tup b => if sz (a.length + b.length) then .ok (.tup (a ++ b)) S else .bad
  | x, y => match listD S x, listD S y with
    | some a, some b => if sz (a.length + b.length) then .ok (.lst (a ++ b)) S else .bad
    | _, _ => .bad
theorem bad_no {φ : Fi} {H : Hp} {Q : VK} {P : Prop} (h : PostE G W φ H σ .bad Q) : P := False.elim h
theorem do_add (hK : X.K = G.K) : DOp G X (binaryOp .Add) opAdd := by
  refine ⟨_, (op_add.or op_add_str).or (op_catA.or op_catL), fun W φ S H σ dx dy x y Q s ix iy h => ?_⟩
  unfold opAdd at h
  split at h
  · cases (show x = _ from ix); cases (show y = _ from iy)
    exact .inl (.inl ⟨_, _, rfl, rfl, h.now s rfl⟩)
  · cases (show x = _ from ix); cases (show y = _ from iy)
    split at h
    · exact .inl (.inr ⟨_, _, rfl, rfl, sizeLine_is (by assumption), h.now s rfl⟩)
    · exact bad_no h
  · split at h
    · rename_i a b hl
      obtain ⟨p, xs, rfl, r1, q1⟩ := ix
      obtain ⟨p2, ys, rfl, r2, q2⟩ := iy
      refine .inr (.inl ⟨p, p2, xs, ys, rfl, rfl, by rw [hK]; exact r1.seq, by rw [hK]; exact r2.seq, by rw [← q1.length, ← q2.length]; exact sizeLine_is hl, fun e => ?_, fun _ e => ?_, fun _ _ p hp => tup_new s (q1.append q2) h hp⟩)
      · subst e
        have z : a = [] := List.eq_nil_of_length_eq_zero (by simpa using q1.length)
        subst z
        exact h.now s ⟨p2, ys, rfl, r2, q2⟩
      · subst e
        have z : b = [] := List.eq_nil_of_length_eq_zero (by simpa using q2.length)
        subst z
        rw [List.append_nil] at h
        exact h.now s ⟨p, xs, rfl, r1, q1⟩
    · exact bad_no h
  · split at h
    · split at h
      · rename_i a b e1 e2 hl
        obtain ⟨p, xs, rfl, r1, q1⟩ := listD_sq s ix e1
        obtain ⟨p2, ys, rfl, r2, q2⟩ := listD_sq s iy e2
        exact .inr (.inr ⟨p, p2, xs, ys, rfl, rfl, by rw [hK]; exact r1, by rw [hK]; exact r2, by rw [← q1.length, ← q2.length]; exact sizeLine_is hl, fun p hp => lst_new s (q1.append q2) h hp⟩)
      · exact bad_no h
    · exact bad_no h
def opI (g : Int → Int → ER) (x y : D) : ER := match x, y with
  | .int i, .int j => g i j
  | _, _ => .bad
def opSub (x y : D) (S : Store) : ER := opI (fun i j => .ok (.int (i - j)) S) x y
theorem do_sub : DOp G X (binaryOp .Sub) opSub := by
  refine ⟨_, op_sub, fun W φ S H σ dx dy x y Q s ix iy h => ?_⟩
  unfold opSub opI at h
  dsimp only at h
  split at h
  · cases (show x = _ from ix); cases (show y = _ from iy)
    exact ⟨_, _, rfl, rfl, h.now s rfl⟩
  · exact bad_no h
/-- a factor within 64 bits, or both together within a million bits -/
def mulOk (i j : Int) : Prop := i.natAbs < 18446744073709551616 ∨ j.natAbs < 18446744073709551616 ∨ i.natAbs.log2 + j.natAbs.log2 < 1000000
noncomputable instance {i j : Int} : Decidable (mulOk i j) := Classical.propDecidable _
noncomputable def opMul (x y : D) (S : Store) : ER := opI (fun i j => if mulOk i j then .ok (.int (i * j)) S else .bad) x y
theorem do_mul : DOp G X (binaryOp .Mult) opMul := by
  refine ⟨_, op_mul.or op_mulW, fun W φ S H σ dx dy x y Q s ix iy h => ?_⟩
  unfold opMul opI at h
  dsimp only at h
  split at h
  · rename_i i j
    cases (show x = _ from ix); cases (show y = _ from iy)
    split at h
    · rename_i hm
      rcases hm with hm | hm | hm
      · exact .inl ⟨_, _, rfl, rfl, .inl (by omega), h.now s rfl⟩
      · exact .inl ⟨_, _, rfl, rfl, .inr (by omega), h.now s rfl⟩
      · exact .inr ⟨_, _, rfl, rfl, hm, h.now s rfl⟩
    · exact bad_no h
  · exact bad_no h
def opMod (x y : D) (S : Store) : ER := opI (fun i j => if 0 < j then .ok (.int (i % j)) S else .bad) x y
theorem do_mod : DOp G X (binaryOp .Mod) opMod := by
  refine ⟨_, op_mod, fun W φ S H σ dx dy x y Q s ix iy h => ?_⟩
  unfold opMod opI at h
  dsimp only at h
  split at h
  · cases (show x = _ from ix); cases (show y = _ from iy)
    split at h
    · rename_i hj
      exact ⟨_, _, rfl, rfl, hj, h.now s rfl⟩
    · exact bad_no h
  · exact bad_no h
def divOk (j : Int) : Prop := 0 < j ∧ (j < 1073741824 ∨ j.natAbs.log2 < 9000)
noncomputable instance {j : Int} : Decidable (divOk j) := Classical.propDecidable _
noncomputable def opFdiv (x y : D) (S : Store) : ER := opI (fun i j => if divOk j then .ok (.int (i / j)) S else .bad) x y
theorem do_fdiv : DOp G X (binaryOp .FloorDiv) opFdiv := by
  refine ⟨_, op_fdiv.or op_fdivW, fun W φ S H σ dx dy x y Q s ix iy h => ?_⟩
  unfold opFdiv opI at h
  dsimp only at h
  split at h
  · cases (show x = _ from ix); cases (show y = _ from iy)
    split at h
    · rename_i hj
      obtain ⟨h1, h2 | h2⟩ := hj
      · exact .inl ⟨_, _, rfl, rfl, ⟨h1, h2⟩, h.now s rfl⟩
      · exact .inr ⟨_, _, rfl, rfl, ⟨h1, h2⟩, h.now s rfl⟩
    · exact bad_no h
  · exact bad_no h
def powOk (i j : Int) : Prop := 0 ≤ j ∧ j ≤ 1000000 ∧ i.natAbs < 18446744073709551616
noncomputable instance {i j : Int} : Decidable (powOk i j) := Classical.propDecidable _
noncomputable def opPow (x y : D) (S : Store) : ER := opI (fun i j => if powOk i j then .ok (.int (i ^ j.toNat)) S else .bad) x y
theorem do_pow : DOp G X (binaryOp .Pow) opPow := by
  refine ⟨_, op_pow, fun W φ S H σ dx dy x y Q s ix iy h => ?_⟩
  unfold opPow opI at h
  dsimp only at h
  split at h
  · cases (show x = _ from ix); cases (show y = _ from iy)
    split at h
    · rename_i hj
      exact ⟨_, _, rfl, rfl, ⟨hj.1, hj.2.1, Nat.lt_of_lt_of_le hj.2.2 (by decide)⟩, h.now s rfl⟩
    · exact bad_no h
  · exact bad_no h
def mulSOk (i j : Int) : Prop := i.natAbs < 18446744073709551616 ∨ j.natAbs < 18446744073709551616
noncomputable instance {i j : Int} : Decidable (mulSOk i j) := Classical.propDecidable _
noncomputable def opMulS (x y : D) (S : Store) : ER := opI (fun i j => if mulSOk i j then .ok (.int (i * j)) S else .bad) x y
theorem do_imul : DOp G X (inplaceOp .Mult) opMulS := by
  refine ⟨_, iop_mul, fun W φ S H σ dx dy x y Q s ix iy h => ?_⟩
  unfold opMulS opI at h
  dsimp only at h
  split at h
  · cases (show x = _ from ix); cases (show y = _ from iy)
    split at h
    · rename_i hm
      refine ⟨_, _, rfl, rfl, ?_, h.now s rfl⟩
      rcases hm with hm | hm
      · exact .inl (by omega)
      · exact .inr (by omega)
    · exact bad_no h
  · exact bad_no h
def opAddI (x y : D) (S : Store) : ER := opI (fun i j => .ok (.int (i + j)) S) x y
theorem do_iadd : DOp G X (inplaceOp .Add) opAddI := by
  refine ⟨_, iop_add, fun W φ S H σ dx dy x y Q s ix iy h => ?_⟩
  unfold opAddI opI at h
  dsimp only at h
  split at h
  · cases (show x = _ from ix); cases (show y = _ from iy)
    exact ⟨_, _, rfl, rfl, h.now s rfl⟩
  · exact bad_no h
theorem do_isub : DOp G X (inplaceOp .Sub) opSub := by
  refine ⟨_, iop_sub, fun W φ S H σ dx dy x y Q s ix iy h => ?_⟩
  unfold opSub opI at h
  dsimp only at h
  split at h
  · cases (show x = _ from ix); cases (show y = _ from iy)
    exact ⟨_, _, rfl, rfl, h.now s rfl⟩
  · exact bad_no h
def eNeg (f : EM) : EM := fun env S => (f env S).bind fun d S => match d with | .int i => .ok (.int (-i)) S | _ => .bad
theorem de_neg {a : Expr} {pos : Pos} {f : EM} (ha : DE G X W a f) : DE G X W (.UnaryOp .USub a pos) (eNeg f) := by
  obtain ⟨ta, pa, qa⟩ := ha
  refine ⟨_, pe_un un_neg pa, fun σ H env φ S Q s re h => ?_⟩
  refine qa σ H env φ S _ s re (PostE.bind h fun d S1 φ1 H1 v e1 s1 i1 h1 => ?_)
  cases d with
  | int i => exact ⟨i, i1, h1.now s1 rfl⟩
  | _ => exact False.elim h1

/-! ### comparisons -/
def opCmp (g : Int → Int → Bool) (x y : D) (S : Store) : ER := opI (fun i j => .ok (.bl (g i j)) S) x y
theorem do_cmp {f : Value → Value → Sem Value} {g : Int → Int → Bool} (ho : OpR X f (rI0 fun i j => .bl (g i j))) : DOp G X f (opCmp g) := by
  refine ⟨_, ho, fun W φ S H σ dx dy x y Q s ix iy h => ?_⟩
  unfold opCmp opI at h
  dsimp only at h
  split at h
  · cases (show x = _ from ix); cases (show y = _ from iy)
    exact ⟨_, _, rfl, rfl, h.now s rfl⟩
  · exact bad_no h
def opLt := opCmp fun i j => decide (i < j)
def opLe := opCmp fun i j => decide (i ≤ j)
def opGt := opCmp fun i j => decide (j < i)
def opGe := opCmp fun i j => decide (j ≤ i)
theorem do_lt : DOp G X (compareOp .Lt) opLt := do_cmp op_lt
theorem do_le : DOp G X (compareOp .LtE) opLe := do_cmp op_le
theorem do_gt : DOp G X (compareOp .Gt) opGt := do_cmp op_gt
theorem do_ge : DOp G X (compareOp .GtE) opGe := do_cmp op_ge
mutual
/-- data for == -/
def D.py (S : Store) : D → Option PyData
  | .non => some .none
  | .bl b => some (.bool b)
  | .int i => some (.int i)
  | .str x => some (.str x)
  | .tup ds => (D.pys S ds).map .tuple
  | .lst ds => (D.pys S ds).map .list
  | _ => none
def D.pys (S : Store) : List D → Option (List PyData)
  | [] => some []
  | d :: ds => (D.py S d).bind fun a => (D.pys S ds).map (a :: ·)
end
mutual
theorem D.py_dp : ∀ {d : D} {v : V} {p : PyData}, Is G φ H d v → D.py S d = some p → Dp G.K H v p
  | .non, v, p, i, e => by cases (show v = _ from i); cases e; exact .non
  | .bl b, v, p, i, e => by cases (show v = _ from i); cases e; exact .bl b
  | .int b, v, p, i, e => by cases (show v = _ from i); cases e; exact .int b
  | .str b, v, p, i, e => by cases (show v = _ from i); cases e; exact .str b
  | .tup ds, v, p, i, e => by
    obtain ⟨a, xs, rfl, r, q⟩ := i
    obtain ⟨ps, e1, e2⟩ := Option.map_eq_some_iff.mp (show (D.pys S ds).map PyData.tuple = some p from e)
    subst e2
    exact .tup r.seq (D.pys_dp q e1)
  | .lst ds, v, p, i, e => by
    obtain ⟨a, xs, rfl, r, q⟩ := i
    obtain ⟨ps, e1, e2⟩ := Option.map_eq_some_iff.mp (show (D.pys S ds).map PyData.list = some p from e)
    subst e2
    exact .lst r.seq (D.pys_dp q e1)
  | .dic _ _, _, _, _, e => nomatch e
  | .obj _ _ _, _, _, _, e => nomatch e
  | .loc _, _, _, _, e => nomatch e
theorem D.pys_dp : ∀ {ds : List D} {vs : List V} {ps : List PyData}, IsL G φ H ds vs → D.pys S ds = some ps → DpAll G.K H vs ps
  | [], vs, ps, i, e => by cases (show vs = [] from i); cases e; exact .nil
  | d :: ds, vs, ps, i, e => by
    obtain ⟨x, r, rfl, p, q⟩ := i
    obtain ⟨a, e1, e2⟩ := Option.bind_eq_some_iff.mp (show ((D.py S d).bind fun a => (D.pys S ds).map (a :: ·)) = some ps from e)
    obtain ⟨b, e3, e4⟩ := Option.map_eq_some_iff.mp e2
    subst e4
    exact .cons (D.py_dp p e1) (D.pys_dp q e3)
end
/-- a list's cell at the outside -/
def D.pyO (S : Store) : D → Option PyData
  | .loc l => match S[l]? with
    | some (.lst ds) => (D.pys S ds).map .list
    | _ => none
  | d => D.py S d
theorem D.pyO_dp {d : D} {v : V} {p : PyData} (s : SOk G φ S H) (i : Is G φ H d v) (e : D.pyO S d = some p) : Dp G.K H v p := by
  cases d with
  | loc l =>
    simp only [D.pyO] at e
    split at e
    · rename_i h
      obtain ⟨ps, e1, e2⟩ := Option.map_eq_some_iff.mp e
      subst e2
      obtain ⟨a, xs, e3, r, q⟩ := listD_sq s (show Is G φ H (.loc l) v from i) (show listD S (.loc l) = some _ by simp only [listD]; rw [h])
      subst e3
      exact .lst r (D.pys_dp q e1)
    · cases e
  | _ => exact D.py_dp (S := S) i e
def opEqB (neg : Bool) (x y : D) (S : Store) : ER := match x, y with
  | .str a, .str b => .ok (.bl (if neg then !decide (a = b) else decide (a = b))) S
  | x, y => match x.pyO S, y.pyO S with
    | some p, some q => if SeqAt.shaped p && SeqAt.shaped q then .ok (.bl (if neg then !PyData.eqv p q else PyData.eqv p q)) S else .bad
    | _, _ => .bad
def opEq := opEqB false
def opNe := opEqB true
theorem dec_s {a b : Str} : decide (V.str a = V.str b) = decide (a = b) := by
  by_cases e : a = b
  · subst e; simp
  · rw [decide_eq_false e, decide_eq_false (fun z => e (V.str.inj z))]
theorem do_eq (hK : X.K = G.K) (hu : X.A.units + 64 < cLine) : DOp G X (compareOp .Eq) opEq := by
  refine ⟨_, op_eq.or (op_eqD hu), fun W φ S H σ dx dy x y Q s ix iy h => ?_⟩
  unfold opEq opEqB at h
  split at h
  · cases (show x = _ from ix); cases (show y = _ from iy)
    exact .inl ⟨rfl, by rw [dec_s]; exact h.now s rfl⟩
  · split at h
    · rename_i p q e1 e2
      split at h
      · rename_i hs
        simp only [Bool.and_eq_true] at hs
        exact .inr ⟨p, q, by rw [hK]; exact D.pyO_dp s ix e1, by rw [hK]; exact D.pyO_dp s iy e2, hs.1, hs.2, h.now s rfl⟩
      · exact bad_no h
    · exact bad_no h
theorem do_ne (hK : X.K = G.K) (hu : X.A.units + 64 < cLine) : DOp G X (compareOp .NotEq) opNe := by
  refine ⟨_, op_ne.or (op_neD hu), fun W φ S H σ dx dy x y Q s ix iy h => ?_⟩
  unfold opNe opEqB at h
  split at h
  · cases (show x = _ from ix); cases (show y = _ from iy)
    exact .inl ⟨rfl, by rw [dec_s]; exact h.now s rfl⟩
  · split at h
    · rename_i p q e1 e2
      split at h
      · rename_i hs
        simp only [Bool.and_eq_true] at hs
        exact .inr ⟨p, q, by rw [hK]; exact D.pyO_dp s ix e1, by rw [hK]; exact D.pyO_dp s iy e2, hs.1, hs.2, h.now s rfl⟩
      · exact bad_no h
    · exact bad_no h
def D.isN : D → Bool
  | .non => true
  | _ => false
theorem isN_iff {d : D} {v : V} (i : Is G φ H d v) : decide (v = .non) = d.isN := by
  cases d with
  | non => cases (show v = _ from i); rfl
  | bl b => cases (show v = _ from i); rfl
  | int b => cases (show v = _ from i); rfl
  | str b => cases (show v = _ from i); rfl
  | tup ds => obtain ⟨a, xs, rfl, _⟩ := i; rfl
  | lst ds => obtain ⟨a, xs, rfl, _⟩ := i; rfl
  | dic ks ds => obtain ⟨a, xs, rfl, _⟩ := i; rfl
  | obj c ks ds => obtain ⟨a, C, dx, fs, rfl, _⟩ := i; rfl
  | loc l => obtain ⟨a, _, rfl⟩ := i; rfl
def opIsN (x y : D) (S : Store) : ER := match y with | .non => .ok (.bl x.isN) S | _ => .bad
def opNotN (x y : D) (S : Store) : ER := match y with | .non => .ok (.bl (!x.isN)) S | _ => .bad
theorem do_isN : DOp G X (compareOp .Is) opIsN := by
  refine ⟨_, op_isN, fun W φ S H σ dx dy x y Q s ix iy h => ?_⟩
  cases dy with
  | non => exact ⟨iy, by rw [isN_iff ix]; exact h.now s rfl⟩
  | _ => exact bad_no h
theorem do_notN : DOp G X (compareOp .IsNot) opNotN := by
  refine ⟨_, op_notN, fun W φ S H σ dx dy x y Q s ix iy h => ?_⟩
  cases dy with
  | non => exact ⟨iy, by rw [isN_iff ix]; exact h.now s rfl⟩
  | _ => exact bad_no h
/-- a < b < c -/
def eChain (g g' : D → D → Store → ER) (a b c : EM) : EM := fun env S => (a env S).bind fun x S => (b env S).bind fun y S => (g x y S).bind fun z S => match z with
  | .bl true => (c env S).bind fun w S => g' y w S
  | .bl false => .ok (.bl false) S
  | _ => .bad

/-! ### subscripts -/
def seqD (S : Store) (d : D) : Option (List D) := match d with
  | .tup ds => some ds
  | d => listD S d
def strAt (x : Str) (i : Int) : Option D := (atI x.cps.toList i).map fun c => .str ⟨#[c]⟩
noncomputable def opIx (x y : D) (S : Store) : ER := match x, y with
  | .str x, .int i => if sz x.length then (match strAt x i with | some d => .ok d S | none => .bad) else .bad
  | .tup ds, .int i => match atI ds i with | some d => .ok d S | none => .bad
  | x, .int i => match listD S x with
    | some ds => (match atI ds i with | some d => .ok d S | none => .bad)
    | none => .bad
  | _, _ => .bad
theorem atI_is {ds : List D} {xs : List V} {i : Int} {d : D} (q : IsL G φ H ds xs) (e : atI ds i = some d) : ∃ v, atI xs i = some v ∧ Is G φ H d v := by
  unfold atI at e ⊢
  rw [q.length] at e
  obtain ⟨j, e1, e2⟩ := Option.bind_eq_some_iff.mp e
  obtain ⟨v, e3, k⟩ := q.get e2
  exact ⟨v, by rw [e1]; exact e3, k⟩
theorem de_ix {a b : Expr} {pos : Pos} {fa fb : EM} (hK : X.K = G.K) (ha : DE G X W a fa) (hb : DE G X W b fb) (hs : PlainIx b := by intro _ _; rfl) : DE G X W (.Subscript a b pos) (eOp opIx fa fb) := by
  obtain ⟨ta, pa, qa⟩ := ha
  obtain ⟨tb, pb, qb⟩ := hb
  refine ⟨_, pe_ix ix_seq pa pb hs, op_of (t := ta) qa qb fun W φ S H σ dx dy x y Q s ix iy h => ?_⟩
  unfold opIx at h
  split at h
  · cases (show x = _ from ix); cases (show y = _ from iy)
    split at h
    · rename_i hz
      split at h
      · rename_i d hd
        obtain ⟨c, e1, e2⟩ := Option.map_eq_some_iff.mp hd
        subst e2
        exact .inr (.inr ⟨_, _, c, rfl, rfl, sizeLine_is hz, e1, h.now s rfl⟩)
      · exact bad_no h
    · exact bad_no h
  · cases (show y = _ from iy)
    split at h
    · rename_i d hd
      obtain ⟨p, xs, rfl, r, q⟩ := tupD_sq ix rfl
      obtain ⟨v, e1, k⟩ := atI_is q hd
      exact .inr (.inl ⟨p, xs, _, v, rfl, rfl, by rw [hK]; exact r, e1, h.now s k⟩)
    · exact bad_no h
  · cases (show y = _ from iy)
    split at h
    · rename_i ds e
      obtain ⟨p, xs, rfl, r, q⟩ := listD_sq s ix e
      split at h
      · rename_i d hd
        obtain ⟨v, e1, k⟩ := atI_is q hd
        exact .inl ⟨p, xs, _, v, rfl, rfl, by rw [hK]; exact r, e1, h.now s k⟩
      · exact bad_no h
    · exact bad_no h
  · exact bad_no h

/-! ### calls of built-ins -/
/-- a built-in by values -/
def DCall (G : Glb) (X : Cx) (f : Value) (g : List D → Store → ER) : Prop :=
  ∃ r, CallR X f r ∧ ∀ W φ S H σ ds xs Q, SOk G φ S H → IsL G φ H ds xs → PostE G W φ H σ (g ds S) Q → r xs H Q
def eCallB (g : List D → Store → ER) (f : LM) : EM := fun env S => (f env S).bindE g
theorem de_callB {id : String} {x : Str} {e : Expr} {es : List Expr} {p pos : Pos} {g : List D → Store → ER} {f : LM} (hc : DCall G X (.builtin id) g) (hg : Gl X x) (hm : X.mg x = none) (hv : bootBuiltins x = some (.builtin id)) (ha : DA G X W (e :: es) f) (hn : x ≠ "__name__" := by decide) (hdb : (x == ("__debug__" : Str)) = false := by decide)
    (he : starEach (e :: es) X.env = (false, eval e X.env) :: starEach es X.env := by rfl) (hpl : (backTo pos (starEach es X.env)).any (·.1) = false := by rfl) : DE G X W (.Call (.Name x p) (e :: es) [] pos) (eCallB g f) := by
  obtain ⟨r, hr, q⟩ := hc
  obtain ⟨t, pt, qt⟩ := ha
  refine ⟨_, pe_callB hr hg hm hv pt hn hdb he hpl, fun σ H env φ S Q s re h => ?_⟩
  exact qt σ H env φ S _ s re (PostL.bindE h fun ds S1 φ1 H1 xs e1 s1 i1 h1 => q W φ1 S1 H1 σ ds xs Q s1 i1 h1)
theorem de_callTy {T : String} {x : Str} {e : Expr} {es : List Expr} {p pos : Pos} {g : List D → Store → ER} {f : LM} (hc : DCall G X (.type T) g) (hg : Gl X x) (hm : X.mg x = none) (hv : bootBuiltins x = some (.type T)) (ha : DA G X W (e :: es) f) (hn : x ≠ "__name__" := by decide) (hdb : (x == ("__debug__" : Str)) = false := by decide)
    (he : starEach (e :: es) X.env = (false, eval e X.env) :: starEach es X.env := by rfl) (hpl : (backTo pos (starEach es X.env)).any (·.1) = false := by rfl) : DE G X W (.Call (.Name x p) (e :: es) [] pos) (eCallB g f) := by
  obtain ⟨r, hr, q⟩ := hc
  obtain ⟨t, pt, qt⟩ := ha
  refine ⟨_, pe_callTy hr hg hm hv pt hn hdb he hpl, fun σ H env φ S Q s re h => ?_⟩
  exact qt σ H env φ S _ s re (PostL.bindE h fun ds S1 φ1 H1 xs e1 s1 i1 h1 => q W φ1 S1 H1 σ ds xs Q s1 i1 h1)
theorem IsL.inv1 {d : D} {xs : List V} (h : IsL G φ H [d] xs) : ∃ x, xs = [x] ∧ Is G φ H d x := by
  obtain ⟨x, r, rfl, p, q⟩ := h
  cases (show r = [] from q)
  exact ⟨x, rfl, p⟩
theorem IsL.inv2 {d e : D} {xs : List V} (h : IsL G φ H [d, e] xs) : ∃ x y, xs = [x, y] ∧ Is G φ H d x ∧ Is G φ H e y := by
  obtain ⟨x, r, rfl, p, q⟩ := h
  obtain ⟨y, rfl, k⟩ := IsL.inv1 q
  exact ⟨x, y, rfl, p, k⟩
noncomputable def bLen (ds : List D) (S : Store) : ER := match ds with
  | [.str x] => if sz x.length then .ok (.int x.length) S else .bad
  | [d] => match seqD S d with
    | some es => .ok (.int es.length) S
    | none => .bad
  | _ => .bad
theorem seqD_sq {d : D} {v : V} {ds : List D} (s : SOk G φ S H) (i : Is G φ H d v) (e : seqD S d = some ds) : ∃ a xs, v = .ref a ∧ (SqL G.K H a xs ∨ SqT G.K H a xs) ∧ IsL G φ H ds xs := by
  unfold seqD at e
  split at e
  · obtain ⟨a, xs, e1, r, q⟩ := tupD_sq i e
    exact ⟨a, xs, e1, .inr r, q⟩
  · obtain ⟨a, xs, e1, r, q⟩ := listD_sq s i e
    exact ⟨a, xs, e1, .inl r, q⟩
theorem dc_len (hK : X.K = G.K) : DCall G X (.builtin "len") bLen := by
  refine ⟨_, call_len_seq.or call_len_str, fun W φ S H σ ds xs Q s i h => ?_⟩
  unfold bLen at h
  split at h
  · obtain ⟨x, rfl, k⟩ := IsL.inv1 i
    cases (show x = _ from k)
    split at h
    · exact .inr ⟨_, rfl, sizeLine_is (by assumption), h.now s rfl⟩
    · exact bad_no h
  · obtain ⟨x, rfl, k⟩ := IsL.inv1 i
    split at h
    · rename_i es e
      obtain ⟨a, ys, rfl, r, q⟩ := seqD_sq s k e
      refine .inl ⟨a, ys, rfl, by rw [hK]; exact r, ?_⟩
      rw [← q.length]
      exact h.now s rfl
    · exact bad_no h
  · exact bad_no h
def bII (g : Int → Int → Int) (ds : List D) (S : Store) : ER := match ds with
  | [.int i, .int j] => .ok (.int (g i j)) S
  | _ => .bad
def maxII (i j : Int) : Int := if j > i then j else i
def minII (i j : Int) : Int := if j < i then j else i
theorem dc_max2 (hc : X.calm = true) : DCall G X (.builtin "max") (bII maxII) := by
  refine ⟨_, call_max2 hc, fun W φ S H σ ds xs Q s i h => ?_⟩
  unfold bII at h
  split at h
  · obtain ⟨x, y, rfl, k, l⟩ := IsL.inv2 i
    cases (show x = _ from k); cases (show y = _ from l)
    exact ⟨_, _, rfl, h.now s rfl⟩
  · exact bad_no h
theorem dc_min2 (hc : X.calm = true) : DCall G X (.builtin "min") (bII minII) := by
  refine ⟨_, call_min2 hc, fun W φ S H σ ds xs Q s i h => ?_⟩
  unfold bII at h
  split at h
  · obtain ⟨x, y, rfl, k, l⟩ := IsL.inv2 i
    cases (show x = _ from k); cases (show y = _ from l)
    exact ⟨_, _, rfl, h.now s rfl⟩
  · exact bad_no h
def bAbs (ds : List D) (S : Store) : ER := match ds with
  | [.int i] => .ok (.int (if i < 0 then -i else i)) S
  | _ => .bad
theorem dc_abs : DCall G X (.builtin "abs") bAbs := by
  refine ⟨_, call_abs, fun W φ S H σ ds xs Q s i h => ?_⟩
  unfold bAbs at h
  split at h
  · obtain ⟨x, rfl, k⟩ := IsL.inv1 i
    cases (show x = _ from k)
    exact ⟨_, rfl, h.now s rfl⟩
  · exact bad_no h
def bInt (ds : List D) (S : Store) : ER := match ds with
  | [.int i] => .ok (.int i) S
  | [.bl b] => .ok (.int (if b then 1 else 0)) S
  | _ => .bad
theorem dc_int : DCall G X (.type "int") bInt := by
  refine ⟨_, call_int1, fun W φ S H σ ds xs Q s i h => ?_⟩
  unfold bInt at h
  split at h
  · obtain ⟨x, rfl, k⟩ := IsL.inv1 i
    cases (show x = _ from k)
    exact .inl ⟨_, rfl, h.now s rfl⟩
  · obtain ⟨x, rfl, k⟩ := IsL.inv1 i
    cases (show x = _ from k)
    exact .inr ⟨_, rfl, h.now s rfl⟩
  · exact bad_no h
def bList (ds : List D) (S : Store) : ER := match ds with
  | [d] => match seqD S d with
    | some es => .ok (.lst es) S
    | none => .bad
  | _ => .bad
theorem dc_list (hK : X.K = G.K) : DCall G X (.type "list") bList := by
  refine ⟨_, call_list_of, fun W φ S H σ ds xs Q s i h => ?_⟩
  unfold bList at h
  split at h
  · obtain ⟨x, rfl, k⟩ := IsL.inv1 i
    split at h
    · rename_i es e
      obtain ⟨a, ys, rfl, r, q⟩ := seqD_sq s k e
      exact ⟨a, ys, rfl, by rw [hK]; exact r, fun l hl => lst_new s q h hl⟩
    · exact bad_no h
  · exact bad_no h
def bListM (ds : List D) (S : Store) : ER := match ds with
  | [d] => match seqD S d with
    | some es => .ok (.loc S.length) (S ++ [.lst es])
    | none => .bad
  | _ => .bad
theorem dc_listM (hK : X.K = G.K) : DCall G X (.type "list") bListM := by
  refine ⟨_, call_list_of, fun W φ S H σ ds xs Q s i h => ?_⟩
  unfold bListM at h
  split at h
  · obtain ⟨x, rfl, k⟩ := IsL.inv1 i
    split at h
    · rename_i es e
      obtain ⟨a, ys, rfl, r, q⟩ := seqD_sq s k e
      exact ⟨a, ys, rfl, by rw [hK]; exact r, fun l hl => lst_newM s q h hl⟩
    · exact bad_no h
  · exact bad_no h
def bTuple (ds : List D) (S : Store) : ER := match ds with
  | [d] => match seqD S d with
    | some es => .ok (.tup es) S
    | none => .bad
  | _ => .bad
theorem dc_tuple (hK : X.K = G.K) : DCall G X (.type "tuple") bTuple := by
  refine ⟨_, call_tuple_of, fun W φ S H σ ds xs Q s i h => ?_⟩
  unfold bTuple at h
  split at h
  · obtain ⟨x, rfl, k⟩ := IsL.inv1 i
    split at h
    · rename_i es e
      unfold seqD at e
      split at e
      · obtain ⟨a, ys, rfl, r, q⟩ := id k
        cases e
        exact ⟨a, ys, rfl, .inr ⟨by rw [hK]; exact r.seq, h.now s ⟨a, ys, rfl, r, q⟩⟩⟩
      · obtain ⟨a, ys, rfl, r, q⟩ := listD_sq s k e
        exact ⟨a, ys, rfl, .inl ⟨by rw [hK]; exact r, fun l hl => tup_new s q h hl⟩⟩
    · exact bad_no h
  · exact bad_no h
/-- lists of one kind -/
def intsD : List D → Option (List Int)
  | [] => some []
  | .int i :: ds => (intsD ds).map (i :: ·)
  | _ :: _ => none
theorem intsD_is : ∀ {ds : List D} {ns : List Int}, intsD ds = some ns → ds = ns.map D.int
  | [], ns, e => by cases e; rfl
  | d :: ds, ns, e => by
    cases d with
    | int i =>
      obtain ⟨a, e1, e2⟩ := Option.map_eq_some_iff.mp (show (intsD ds).map (i :: ·) = some ns from e)
      subst e2
      rw [intsD_is e1]; rfl
    | _ => cases e
theorem intsD_map : ∀ ns : List Int, intsD (ns.map D.int) = some ns
  | [] => rfl
  | n :: ns => by simp [intsD, intsD_map ns]
def blsD : List D → Option (List Bool)
  | [] => some []
  | .bl i :: ds => (blsD ds).map (i :: ·)
  | _ :: _ => none
theorem blsD_is : ∀ {ds : List D} {ns : List Bool}, blsD ds = some ns → ds = ns.map D.bl
  | [], ns, e => by cases e; rfl
  | d :: ds, ns, e => by
    cases d with
    | bl i =>
      obtain ⟨a, e1, e2⟩ := Option.map_eq_some_iff.mp (show (blsD ds).map (i :: ·) = some ns from e)
      subst e2
      rw [blsD_is e1]; rfl
    | _ => cases e
theorem blsD_map : ∀ ns : List Bool, blsD (ns.map D.bl) = some ns
  | [] => rfl
  | n :: ns => by simp [blsD, blsD_map ns]
def bAll (ds : List D) (S : Store) : ER := match ds with
  | [d] => match (listD S d).bind blsD with
    | some bs => .ok (.bl (bs.all id)) S
    | none => .bad
  | _ => .bad
def bAny (ds : List D) (S : Store) : ER := match ds with
  | [d] => match (listD S d).bind blsD with
    | some bs => .ok (.bl (bs.any id)) S
    | none => .bad
  | _ => .bad
theorem dc_all (hc : X.calm = true) (hK : X.K = G.K) : DCall G X (.builtin "all") bAll := by
  refine ⟨_, cr_all hc, fun W φ S H σ ds xs Q s i h => ?_⟩
  unfold bAll at h
  split at h
  · obtain ⟨x, rfl, k⟩ := IsL.inv1 i
    split at h
    · rename_i bs e
      obtain ⟨es, e1, e2⟩ := Option.bind_eq_some_iff.mp e
      obtain ⟨a, ys, rfl, r, q⟩ := listD_sq s k e1
      rw [blsD_is e2] at q
      exact ⟨a, bs, rfl, by rw [hK, ← q.bls]; exact r, h.now s rfl⟩
    · exact bad_no h
  · exact bad_no h
theorem dc_any (hc : X.calm = true) (hK : X.K = G.K) : DCall G X (.builtin "any") bAny := by
  refine ⟨_, cr_any hc, fun W φ S H σ ds xs Q s i h => ?_⟩
  unfold bAny at h
  split at h
  · obtain ⟨x, rfl, k⟩ := IsL.inv1 i
    split at h
    · rename_i bs e
      obtain ⟨es, e1, e2⟩ := Option.bind_eq_some_iff.mp e
      obtain ⟨a, ys, rfl, r, q⟩ := listD_sq s k e1
      rw [blsD_is e2] at q
      exact ⟨a, bs, rfl, by rw [hK, ← q.bls]; exact r, h.now s rfl⟩
    · exact bad_no h
  · exact bad_no h
def bSum (ds : List D) (S : Store) : ER := match ds with
  | [d] => match (listD S d).bind intsD with
    | some ns => .ok (.int ns.sum) S
    | none => .bad
  | _ => .bad
theorem dc_sum (hc : X.calm = true) (hK : X.K = G.K) : DCall G X (.builtin "sum") bSum := by
  refine ⟨_, cr_sum hc, fun W φ S H σ ds xs Q s i h => ?_⟩
  unfold bSum at h
  split at h
  · obtain ⟨x, rfl, k⟩ := IsL.inv1 i
    split at h
    · rename_i bs e
      obtain ⟨es, e1, e2⟩ := Option.bind_eq_some_iff.mp e
      obtain ⟨a, ys, rfl, r, q⟩ := listD_sq s k e1
      rw [intsD_is e2] at q
      exact ⟨a, bs, rfl, by rw [hK, ← q.ints]; exact r, h.now s rfl⟩
    · exact bad_no h
  · exact bad_no h
end
end DL
end
section
/-! D-layer, part 3: loops, comprehensions, more assignments, defs and their calls. -/
namespace DL
open PySem L2

section
variable {G : Glb} {X : Cx} {W : WX}
/-! ### more assignments -/
/-- a, b = e1, e2 -/
def sPar (i j : Nat) (f : LM) : SM := fun e S => (f e S).bindS e fun ds S => match ds with
  | [a, b] => .nx ((e.set i (some a)).set j (some b)) S
  | _ => .bad
theorem ds_par {i j : Nat} {x y : Str} {a b : Expr} {f : LM} {px py pt pos : Pos} {kt k2 pt2} (hc : X.calm = true) (hN : X.N.Nodup) (hi : X.N[i]? = some x) (hj : X.N[j]? = some y) (hij : i ≠ j)
    (hx : X.env.scope.names.lookup x = some .local) (hy : X.env.scope.names.lookup y = some .local) (ha : DA G X W [a, b] f)
    (hw : swappedStores [.Tuple [.Name x px, .Name y py] kt pt] (.Tuple [a, b] k2 pt2) X.env = pure (some [x, y]))
    (hs : swapsWithSole [.Tuple [.Name x px, .Name y py] kt pt] (.Tuple [a, b] k2 pt2) pos.line X.env = pure false := by rfl) :
    DS G X W (.Assign [.Tuple [.Name x px, .Name y py] kt pt] (.Tuple [a, b] k2 pt2) pos) (sPar i j f) := by
  obtain ⟨t, p, q⟩ := ha
  refine ⟨_, ps_par hc hN hi hj hij hx hy p hw hs, fun σ H env φ S N s re h => ?_⟩
  refine q σ H env φ S _ s re (PostL.bindS re h fun ds S1 φ1 H1 vs e1 s1 i1 h1 => ?_)
  match ds, h1, i1 with
  | [d, d2], h1, i1 =>
    obtain ⟨v, w, rfl, k1, k2⟩ := IsL.inv2 i1
    exact ⟨v, w, rfl, h1 φ1 H1 _ .refl s1 (((re.ext e1).set k1 i).set k2 j)⟩
  | [], h1, _ => exact False.elim h1
  | [_], h1, _ => exact False.elim h1
  | _ :: _ :: _ :: _, h1, _ => exact False.elim h1
def sPar3 (i j l : Nat) (f : LM) : SM := fun e S => (f e S).bindS e fun ds S => match ds with
  | [a, b, c] => .nx (((e.set i (some a)).set j (some b)).set l (some c)) S
  | _ => .bad
theorem ds_par3 {i j l : Nat} {x y z : Str} {a b c : Expr} {f : LM} {px py pz pt pos : Pos} {kt k2 pt2} (hc : X.calm = true) (hN : X.N.Nodup) (hi : X.N[i]? = some x) (hj : X.N[j]? = some y) (hl : X.N[l]? = some z) (hij : i ≠ j) (hil : i ≠ l) (hjl : j ≠ l)
    (hx : X.env.scope.names.lookup x = some .local) (hy : X.env.scope.names.lookup y = some .local) (hz : X.env.scope.names.lookup z = some .local) (ha : DA G X W [a, b, c] f)
    (hw : swappedStores [.Tuple [.Name x px, .Name y py, .Name z pz] kt pt] (.Tuple [a, b, c] k2 pt2) X.env = pure (some [x, y, z]))
    (hs : swapsWithSole [.Tuple [.Name x px, .Name y py, .Name z pz] kt pt] (.Tuple [a, b, c] k2 pt2) pos.line X.env = pure false := by rfl) :
    DS G X W (.Assign [.Tuple [.Name x px, .Name y py, .Name z pz] kt pt] (.Tuple [a, b, c] k2 pt2) pos) (sPar3 i j l f) := by
  obtain ⟨t, p, q⟩ := ha
  refine ⟨_, ps_par3 hc hN hi hj hl hij hil hjl hx hy hz p hw hs, fun σ H env φ S N s re h => ?_⟩
  refine q σ H env φ S _ s re (PostL.bindS re h fun ds S1 φ1 H1 vs e1 s1 i1 h1 => ?_)
  match ds, h1, i1 with
  | [d, d2, d3], h1, i1 =>
    obtain ⟨v, r, rfl, k1, i2⟩ := i1
    obtain ⟨w, u, rfl, k2, k3⟩ := IsL.inv2 i2
    exact ⟨v, w, u, rfl, h1 φ1 H1 _ .refl s1 ((((re.ext e1).set k1 i).set k2 j).set k3 l)⟩
  | [], h1, _ => exact False.elim h1
  | [_], h1, _ => exact False.elim h1
  | [_, _], h1, _ => exact False.elim h1
  | _ :: _ :: _ :: _ :: _, h1, _ => exact False.elim h1
/-- x op= e -/
def sAug (i : Nat) (g : D → D → Store → ER) (f : EM) : SM := fun e S => (eOp g (eVar i) f e S).bindS e fun d S => .nx (e.set i (some d)) S
theorem ds_aug {i : Nat} {x : Str} {e : Expr} {op : Operator} {g : D → D → Store → ER} {f : EM} {pos pos' : Pos} (hN : X.N.Nodup) (hi : X.N[i]? = some x) (hx : Loc X.env.scope x) (ho : DOp G X (inplaceOp op) g) (he : DE G X W e f)
    (hf : X.fn x = true ∨ X.env.scope.names.lookup x = some .local := by first | exact .inl rfl | exact .inr rfl) : DS G X W (.AugAssign (.Name x pos') op e pos) (sAug i g f) := by
  obtain ⟨r, hr, q⟩ := ho
  obtain ⟨t, p, qe⟩ := he
  refine ⟨_, ps_aug hN hi hx p hr hf, fun σ H env φ S N s re h => ?_⟩
  unfold sAug eOp eVar at h
  cases hv : env[i]? with
  | none => rw [hv] at h; exact False.elim h
  | some o =>
    cases o with
    | none => rw [hv] at h; exact False.elim h
    | some d =>
      rw [hv] at h
      obtain ⟨v, e1, k⟩ := re.2 i d hv
      refine ⟨v, e1, ?_⟩
      have h' : PostS G W φ H (((f env S).bind fun y S => g d y S).bindS env fun d S => .nx (env.set i (some d)) S) N := h
      have h2 : PostE G W φ H σ ((f env S).bind fun y S => g d y S) fun z H2 => N.nx (σ.set i (some z)) H2 :=
        PostE.bindS re h' fun d2 S2 φ2 H2 v2 e2 s2 i2 h2 => h2 φ2 H2 _ .refl s2 ((re.ext e2).set i2 i)
      refine qe σ H env φ S _ s re (PostE.bind h2 fun y S1 φ1 H1 vy e2 s1 i1 h3 => ?_)
      exact q W φ1 S1 H1 σ d y v vy _ s1 (k.ext e2) i1 h3

/-! ### what is walked -/
structure Feeds (G : Glb) (φ0 : Fi) (H0 : Hp) (J : It) (ds : List D) : Prop where
  go : ∀ φ S H (i : Nat) d, Kept φ0 H0 φ H → SOk G φ S H → ds[i]? = some d → J.go i H ∧ ∀ x H', J.yld i H x H' → Ext φ H φ H' ∧ SOk G φ S H' ∧ Is G φ H' d x
  stop : ∀ φ S H, Kept φ0 H0 φ H → SOk G φ S H → J.stop ds.length H
theorem Kept.trans {φ φ1 φ2 : Fi} {H H1 H2 : Hp} (a : Kept φ H φ1 H1) (b : Kept φ1 H1 φ2 H2) : Kept φ H φ2 H2 :=
  ⟨fun l x q => b.get l x (a.get l x q), fun x u n r => let ⟨n1, r1⟩ := a.rd x u n r; b.rd x u n1 r1, fun x C dx fs n r => let ⟨n1, r1⟩ := a.ins x C dx fs n r; b.ins x C dx fs n1 r1⟩
def PostI (G : Glb) (W : WX) (φ : Fi) (H : Hp) (σ : St) (r : LR) (R : It → Hp → Prop) : Prop := match r with
  | .ok ds S => ∀ φ' H' J, Ext φ H φ' H' → SOk G φ' S H' → Feeds G φ' H' J ds → R J H'
  | .ex x S => ∀ φ' H' cls dx, Ext φ H φ' H' → SOk G φ' S H' → IsX G φ' H' x cls dx → W cls dx σ H'
  | .bad => False
def DI (G : Glb) (X : Cx) (W : WX) (tg e : Expr) (f : LM) : Prop :=
  ∃ wi, PI X tg e wi ∧ ∀ σ H env φ S R, SOk G φ S H → RepE G φ H σ env → PostI G W φ H σ (f env S) R → wi σ H R
theorem feeds_list {φ : Fi} {H : Hp} {a : Addr} {xs : List V} {ds : List D} (r : RdL G φ H a xs) (q : IsL G φ H ds xs) : Feeds G φ H (Itl G.K a) ds := by
  refine ⟨fun φ2 S2 H2 i d e s hd => ?_, fun φ2 S2 H2 e s => ⟨xs, (r.kept e).seq, by rw [q.length]; exact Nat.le_refl _⟩⟩
  obtain ⟨x, hx, k⟩ := q.get hd
  refine ⟨⟨xs, x, (r.kept e).seq, hx⟩, fun y H3 ⟨e3, hy⟩ => ?_⟩
  subst e3
  have z := hy xs (r.kept e).seq
  rw [hx] at z; cases z
  exact ⟨.refl, s, k.kept e⟩
theorem feeds_tup {φ : Fi} {H : Hp} {a : Addr} {xs : List V} {ds : List D} (r : RdT G φ H a xs) (q : IsL G φ H ds xs) : Feeds G φ H (Itt G.K a) ds := by
  refine ⟨fun φ2 S2 H2 i d e s hd => ?_, fun φ2 S2 H2 e s => ⟨xs, (r.kept e).seq, by rw [q.length]; exact Nat.le_refl _⟩⟩
  obtain ⟨x, hx, k⟩ := q.get hd
  refine ⟨⟨xs, x, (r.kept e).seq, hx⟩, fun y H3 ⟨e3, hy⟩ => ?_⟩
  subst e3
  have z := hy xs (r.kept e).seq
  rw [hx] at z; cases z
  exact ⟨.refl, s, k.kept e⟩
theorem PI.or {tg e : Expr} {w1 w2 : TI} (h1 : PI X tg e w1) (h2 : PI X tg e w2) : PI X tg e (fun σ H R => w1 σ H R ∨ w2 σ H R) :=
  ⟨fun pins s σ H R I h => h.elim (h1.run pins s σ H R I) (h2.run pins s σ H R I)⟩
/-- a list's or tuple's items -/
def iSeq (f : EM) : LM := fun env S => (f env S).bindL fun d S => match d with
  | .lst ds => .ok ds S
  | .tup ds => .ok ds S
  | _ => .bad
theorem di_seq {tg e : Expr} {f : EM} (hK : X.K = G.K) (he : DE G X W e f) : DI G X W tg e (iSeq f) := by
  obtain ⟨t, p, q⟩ := he
  refine ⟨_, PI.or (pi_list p) (pi_tup p), fun σ H env φ S R s re h => ?_⟩
  unfold iSeq at h
  cases hr : f env S with
  | bad => rw [hr] at h; exact False.elim h
  | ex x S1 =>
    rw [hr] at h
    exact .inl (q σ H env φ S _ s re (by rw [hr]; exact h))
  | ok d S1 =>
    rw [hr] at h
    cases d with
    | lst ds =>
      refine .inl (q σ H env φ S _ s re ?_)
      rw [hr]
      intro φ1 H1 v e1 s1 i1
      obtain ⟨a, xs, rfl, r, il⟩ := i1
      refine ⟨a, rfl, ⟨xs, by rw [hK]; exact r.seq⟩, ?_⟩
      rw [hK]
      exact h φ1 H1 _ e1 s1 (feeds_list r il)
    | tup ds =>
      refine .inr (q σ H env φ S _ s re ?_)
      rw [hr]
      intro φ1 H1 v e1 s1 i1
      obtain ⟨a, xs, rfl, r, il⟩ := i1
      refine ⟨a, rfl, ⟨xs, by rw [hK]; exact r.seq⟩, ?_⟩
      rw [hK]
      exact h φ1 H1 _ e1 s1 (feeds_tup r il)
    | _ => exact False.elim h
def rangeD (lo : Int) (n : Nat) : List D := (List.range n).map fun i => .int (lo + (i : Nat))
theorem feeds_range {φ : Fi} {H : Hp} (lo : Int) (n : Nat) : Feeds G φ H (Itr lo n) (rangeD lo n) := by
  refine ⟨fun φ2 S2 H2 i d e s hd => ?_, fun φ2 S2 H2 e s => by show n ≤ (rangeD lo n).length; simp [rangeD]⟩
  unfold rangeD at hd
  rw [List.getElem?_map] at hd
  obtain ⟨j, e1, e2⟩ := Option.map_eq_some_iff.mp hd
  obtain ⟨hl, e3⟩ := List.getElem?_eq_some_iff.mp e1
  simp at hl e3
  subst e3 e2
  refine ⟨hl, fun x H3 ⟨e4, e5⟩ => ?_⟩
  subst e4 e5
  exact ⟨.refl, s, rfl⟩
def rOk (i : Int) : Prop := -4611686018427387904 ≤ i ∧ i < 4611686018427387904
noncomputable instance {i : Int} : Decidable (rOk i) := Classical.propDecidable _
theorem rOk.lo {i : Int} (h : rOk i) : -(2 ^ 62) ≤ i := by have := h.1; omega
theorem rOk.hi {i : Int} (h : rOk i) : i < 2 ^ 62 := by have := h.2; omega
noncomputable def iRange1 (f : LM) : LM := fun env S => (f env S).bind fun ds S => match ds with
  | [.int j] => if rOk j then .ok (rangeD 0 j.toNat) S else .bad
  | _ => .bad
noncomputable def iRange2 (f : LM) : LM := fun env S => (f env S).bind fun ds S => match ds with
  | [.int i, .int j] => if rOk i ∧ rOk j then .ok (rangeD i (j - i).toNat) S else .bad
  | _ => .bad
theorem PostL.toI {φ : Fi} {H : Hp} {σ : St} {r : LR} {g : List D → Store → LR} {R : It → Hp → Prop} {Q : List V → Hp → Prop} (h : PostI G W φ H σ (r.bind g) R)
    (k : ∀ d S φ' H' v, Ext φ H φ' H' → SOk G φ' S H' → IsL G φ' H' d v → PostI G W φ' H' σ (g d S) R → Q v H') : PostL G W φ H σ r Q := by
  cases r with
  | ok d S =>
    refine fun φ2 H2 v e s i => k d S φ2 H2 v e s i ?_
    have h' : PostI G W φ H σ (g d S) R := h
    cases hg : g d S with
    | ok ds S2 => rw [hg] at h'; exact fun φ3 H3 J e3 s3 f => h' φ3 H3 J (e.trans e3) s3 f
    | ex x S2 => rw [hg] at h'; exact fun φ3 H3 c dx e3 s3 f => h' φ3 H3 c dx (e.trans e3) s3 f
    | bad => rw [hg] at h'; exact h'
  | ex x S => exact h
  | bad => exact h
theorem di_range1 {tg a : Expr} {p pos : Pos} {f : LM} (hg : Gl X "range") (hm : X.mg "range" = none) (ha : DA G X W [a] f) (hs : starEach [a] X.env = [(false, eval a X.env)] := by rfl) : DI G X W tg (.Call (.Name "range" p) [a] [] pos) (iRange1 f) := by
  obtain ⟨t, pt, q⟩ := ha
  refine ⟨_, pi_range1 hg hm pt hs, fun σ H env φ S R s re h => ?_⟩
  refine q σ H env φ S _ s re (PostL.toI h fun ds S1 φ1 H1 vs e1 s1 i1 h1 => ?_)
  split at h1
  · rename_i j
    obtain ⟨x, rfl, k⟩ := IsL.inv1 i1
    cases (show x = _ from k)
    split at h1
    · rename_i hj
      exact ⟨j, rfl, hj.lo, hj.hi, h1 φ1 H1 _ .refl s1 (feeds_range 0 j.toNat)⟩
    · exact False.elim h1
  · exact False.elim h1
theorem di_range2 {tg a b : Expr} {p pos : Pos} {f : LM} (hg : Gl X "range") (hm : X.mg "range" = none) (ha : DA G X W [a, b] f) (hs : starEach [a, b] X.env = [(false, eval a X.env), (false, eval b X.env)] := by rfl) (hs2 : starEach [b] X.env = [(false, eval b X.env)] := by rfl) : DI G X W tg (.Call (.Name "range" p) [a, b] [] pos) (iRange2 f) := by
  obtain ⟨t, pt, q⟩ := ha
  refine ⟨_, pi_range2 hg hm pt hs hs2, fun σ H env φ S R s re h => ?_⟩
  refine q σ H env φ S _ s re (PostL.toI h fun ds S1 φ1 H1 vs e1 s1 i1 h1 => ?_)
  split at h1
  · rename_i i j
    obtain ⟨x, y, rfl, k, l⟩ := IsL.inv2 i1
    cases (show x = _ from k); cases (show y = _ from l)
    split at h1
    · rename_i hij
      exact ⟨i, j, rfl, ⟨hij.1.lo, hij.1.hi, hij.2.lo, hij.2.hi⟩, h1 φ1 H1 _ .refl s1 (feeds_range i (j - i).toNat)⟩
    · exact False.elim h1
  · exact False.elim h1
/-- enumerate of a list -/
def enumD : Nat → List D → List D
  | _, [] => []
  | n, d :: ds => .tup [.int (n : Nat), d] :: enumD (n + 1) ds
theorem enumD_length : ∀ (n : Nat) (ds : List D), (enumD n ds).length = ds.length
  | _, [] => rfl
  | n, d :: ds => by simp [enumD, enumD_length (n + 1) ds]
theorem enumD_get : ∀ (n : Nat) (ds : List D) (i : Nat) (d : D), (enumD n ds)[i]? = some d → ∃ e, ds[i]? = some e ∧ d = .tup [.int ((n + i : Nat) : Int), e]
  | _, [], _, _, h => by simp [enumD] at h
  | n, d :: ds, 0, d', h => by
    simp [enumD] at h
    exact ⟨d, rfl, h.symm⟩
  | n, d :: ds, i + 1, d', h => by
    obtain ⟨e, e1, e2⟩ := enumD_get (n + 1) ds i d' (by simpa [enumD] using h)
    exact ⟨e, by simpa using e1, by rw [e2, show n + 1 + i = n + (i + 1) by omega]⟩
theorem feeds_enum {φ : Fi} {H : Hp} {a : Addr} {xs : List V} {ds : List D} (r : RdL G φ H a xs) (q : IsL G φ H ds xs) : Feeds G φ H (Ite G.K a) (enumD 0 ds) := by
  refine ⟨fun φ2 S2 H2 i d e s hd => ?_, fun φ2 S2 H2 e s => ⟨xs, (r.kept e).seq, by rw [enumD_length, q.length]; exact Nat.le_refl _⟩⟩
  obtain ⟨d1, hd1, rfl⟩ := enumD_get 0 ds i d hd
  obtain ⟨x, hx, k⟩ := q.get hd1
  refine ⟨⟨xs, x, (r.kept e).seq, hx⟩, fun y H3 ⟨T, x', e3, hT, e4, hy⟩ => ?_⟩
  subst e3 e4
  have z := hy xs (r.kept e).seq
  rw [hx] at z; cases z
  refine ⟨.laid hT, s.laid hT, T, _, rfl, .inl ⟨s.fresh hT, .inl upd_same⟩, ?_⟩
  refine .cons ?_ (.one ((k.kept e).ext (.laid hT)))
  show V.int _ = V.int _
  rw [Nat.zero_add]
def iEnumD (f : LM) : LM := fun env S => (f env S).bind fun ds S => match ds with
  | [.lst ds] => .ok (enumD 0 ds) S
  | _ => .bad
theorem di_enum {e : Expr} {p pos tpos : Pos} {elts : List Expr} {kk : Nat} {f : LM} (hK : X.K = G.K) (hg : Gl X "enumerate") (hm : X.mg "enumerate" = none) (ha : DA G X W [e] f) (hs : starEach [e] X.env = [(false, eval e X.env)] := by rfl) : DI G X W (.Tuple elts kk tpos) (.Call (.Name "enumerate" p) [e] [] pos) (iEnumD f) := by
  obtain ⟨t, pt, q⟩ := ha
  refine ⟨_, pi_enum hg hm pt hs, fun σ H env φ S R s re h => ?_⟩
  refine q σ H env φ S _ s re (PostL.toI h fun ds S1 φ1 H1 vs e1 s1 i1 h1 => ?_)
  split at h1
  · rename_i ds
    obtain ⟨x, rfl, k⟩ := IsL.inv1 i1
    obtain ⟨a, xs, rfl, r, il⟩ := k
    refine ⟨a, xs, rfl, by rw [hK]; exact r.seq, ?_⟩
    rw [hK]
    exact h1 φ1 H1 _ .refl s1 (feeds_enum r il)
  · exact False.elim h1
/-- zip of two lists -/
def zipD : List D → List D → List D
  | d :: ds, e :: es => .tup [d, e] :: zipD ds es
  | _, _ => []
theorem zipD_length : ∀ (ds es : List D), (zipD ds es).length = min ds.length es.length
  | [], _ => by simp [zipD]
  | _ :: _, [] => by simp [zipD]
  | d :: ds, e :: es => by simp [zipD, zipD_length ds es]
theorem zipD_get : ∀ (ds es : List D) (i : Nat) (d : D), (zipD ds es)[i]? = some d → ∃ a b, ds[i]? = some a ∧ es[i]? = some b ∧ d = .tup [a, b]
  | [], _, _, _, h => by simp [zipD] at h
  | _ :: _, [], _, _, h => by simp [zipD] at h
  | d :: ds, e :: es, 0, d', h => by
    simp [zipD] at h
    exact ⟨d, e, rfl, rfl, h.symm⟩
  | d :: ds, e :: es, i + 1, d', h => by
    obtain ⟨a, b, e1, e2, e3⟩ := zipD_get ds es i d' (by simpa [zipD] using h)
    exact ⟨a, b, by simpa using e1, by simpa using e2, e3⟩
theorem feeds_zip {φ : Fi} {H : Hp} {a b : Addr} {xs ys : List V} {ds es : List D} (r : RdL G φ H a xs) (q : IsL G φ H ds xs) (r' : RdL G φ H b ys) (q' : IsL G φ H es ys) : Feeds G φ H (Itz G.K a b) (zipD ds es) := by
  refine ⟨fun φ2 S2 H2 i d e s hd => ?_, fun φ2 S2 H2 e s => ⟨xs, ys, (r.kept e).seq, (r'.kept e).seq, by rw [zipD_length, ← q.length, ← q'.length]; omega⟩⟩
  obtain ⟨d1, d2, hd1, hd2, rfl⟩ := zipD_get ds es i d hd
  obtain ⟨x, hx, k⟩ := q.get hd1
  obtain ⟨y, hy, k'⟩ := q'.get hd2
  refine ⟨⟨xs, ys, x, y, (r.kept e).seq, (r'.kept e).seq, hx, hy⟩, fun v H3 ⟨T, x', y', e3, hT, e4, h1, h2⟩ => ?_⟩
  subst e3 e4
  have z := h1 xs (r.kept e).seq
  rw [hx] at z; cases z
  have z := h2 ys (r'.kept e).seq
  rw [hy] at z; cases z
  exact ⟨.laid hT, s.laid hT, T, _, rfl, .inl ⟨s.fresh hT, .inl upd_same⟩, .cons ((k.kept e).ext (.laid hT)) (.one ((k'.kept e).ext (.laid hT)))⟩
def iZipD (f : LM) : LM := fun env S => (f env S).bind fun ds S => match ds with
  | [.lst ds, .lst es] => .ok (zipD ds es) S
  | _ => .bad
theorem di_zip {e e2 : Expr} {p pos tpos : Pos} {elts : List Expr} {kk : Nat} {f : LM} (hK : X.K = G.K) (hg : Gl X "zip") (hm : X.mg "zip" = none) (ha : DA G X W [e, e2] f)
    (hs : starEach [e, e2] X.env = (false, eval e X.env) :: starEach [e2] X.env := by rfl) (hpl : (backTo pos (starEach [e2] X.env)).any (·.1) = false := by rfl) : DI G X W (.Tuple elts kk tpos) (.Call (.Name "zip" p) [e, e2] [] pos) (iZipD f) := by
  obtain ⟨t, pt, q⟩ := ha
  refine ⟨_, pi_zip hg hm pt hs hpl, fun σ H env φ S R s re h => ?_⟩
  refine q σ H env φ S _ s re (PostL.toI h fun ds S1 φ1 H1 vs e1 s1 i1 h1 => ?_)
  split at h1
  · rename_i ds es
    obtain ⟨x, y, rfl, k, k'⟩ := IsL.inv2 i1
    obtain ⟨a, xs, rfl, r, il⟩ := k
    obtain ⟨b, ys, rfl, r', il'⟩ := k'
    refine ⟨a, b, xs, ys, rfl, by rw [hK]; exact r.seq, by rw [hK]; exact r'.seq, ?_⟩
    rw [hK]
    exact h1 φ1 H1 _ .refl s1 (feeds_zip r il r' il')
  · exact False.elim h1

/-! ### for, while -/
def forD (b : D → EnvD → Option EnvD) (body : SM) : List D → SM
  | [], e, S => .nx e S
  | d :: ds, e, S => match b d e with
    | none => .bad
    | some e1 => match body e1 S with
      | .nx e2 S2 => forD b body ds e2 S2
      | .ct e2 S2 => forD b body ds e2 S2
      | .bk e2 S2 => .nx e2 S2
      | .rt d S2 => .rt d S2
      | .ex x e2 S2 => .ex x e2 S2
      | .bad => .bad
def sFor (f : LM) (b : D → EnvD → Option EnvD) (body : SM) : SM := fun e S => (f e S).bindS e fun ds S => forD b body ds e S
theorem PostI.ofS {φ : Fi} {H : Hp} {σ : St} {env : EnvD} (re : RepE G φ H σ env) {r : LR} {g : List D → Store → SR} {N : Ends} {R : It → Hp → Prop} (h : PostS G W φ H (r.bindS env g) N)
    (k : ∀ ds S φ' H' J, Ext φ H φ' H' → SOk G φ' S H' → Feeds G φ' H' J ds → PostS G W φ' H' (g ds S) N → R J H') : PostI G W φ H σ r R := by
  cases r with
  | ok d S => exact fun φ2 H2 J e s i => k d S φ2 H2 J e s i (PostS.ext (r := g d S) e h)
  | ex x S => exact fun φ2 H2 c d e s i => h φ2 H2 σ c d e s (re.ext e) i
  | bad => exact h
theorem ds_for {tg iter : Expr} {body : List Stmt} {pos : Pos} {f : LM} {b : D → EnvD → Option EnvD} {vs : List Nat} {g : SM} (hp : PassesOwn (model X.prog X.w) X.A X.env X.xe) (hc : X.calm = true) (hi : DI G X W tg iter f) (hg : DG G X tg b vs) (hb : DSs G X W body g) (hs : ∀ x, foldedSetIterable iter X.env x = pure x := by intro _; rfl) : DS G X W (.For tg iter body [] pos) (sFor f b g) := by
  obtain ⟨wi, pI, qi⟩ := hi
  obtain ⟨tgd, pg, qg⟩ := hg
  obtain ⟨tb, pb, qb⟩ := hb
  refine ⟨_, ps_for hp hc pI pg pb hs, fun σ H env φ S N s re h => ?_⟩
  refine qi σ H env φ S _ s re (PostI.ofS re h fun ds S1 φ1 H1 J e1 s1 fd h1 => ?_)
  refine ⟨fun i m σ2 H2 => m = ds.length - i ∧ i ≤ ds.length ∧ ∃ env2 φ2 S2, Ext φ1 H1 φ2 H2 ∧ SOk G φ2 S2 H2 ∧ RepE G φ2 H2 σ2 env2 ∧ PostS G W φ2 H2 (forD b g (ds.drop i) env2 S2) N,
    ⟨ds.length, by simp, Nat.zero_le _, env, φ1, S1, .refl, s1, re.ext e1, h1⟩, ?_⟩
  rintro i m σ2 H2 ⟨rfl, hi, env2, φ2, S2, e2, s2, r2, h2⟩
  by_cases hl : i < ds.length
  · right
    have hd : ds[i]? = some ds[i] := List.getElem?_eq_getElem hl
    obtain ⟨go, gy⟩ := fd.go φ2 S2 H2 i ds[i] e2.kept s2 hd
    rw [List.drop_eq_getElem_cons hl] at h2
    refine ⟨go, fun σ' H' => i + 1 ≤ ds.length ∧ ∃ env3 φ3 S3, Ext φ1 H1 φ3 H' ∧ SOk G φ3 S3 H' ∧ RepE G φ3 H' σ' env3 ∧ PostS G W φ3 H' (forD b g (ds.drop (i + 1)) env3 S3) N, fun σ' H' w => ⟨ds.length - (i + 1), by omega, rfl, w⟩, fun x H' hy => ?_⟩
    obtain ⟨e3, s3, k3⟩ := gy x H' hy
    unfold forD at h2
    cases hb1 : b ds[i] env2 with
    | none => rw [hb1] at h2; exact False.elim h2
    | some env3 =>
      rw [hb1] at h2
      refine qg x ds[i] σ2 H' env2 env3 φ2 _ k3 (r2.ext e3) hb1 fun σ3 r3 _ => ?_
      refine qb σ3 H' env3 φ2 S2 _ s3 r3 ?_
      dsimp only at h2
      cases hg1 : g env3 S2 with
      | nx e S =>
        rw [hg1] at h2
        exact fun φ4 H4 σ4 e4 s4 r4 => ⟨by omega, _, φ4, _, (e2.trans e3).trans e4, s4, r4, PostS.ext (e3.trans e4) h2⟩
      | ct e S =>
        rw [hg1] at h2
        exact fun φ4 H4 σ4 e4 s4 r4 => ⟨by omega, _, φ4, _, (e2.trans e3).trans e4, s4, r4, PostS.ext (e3.trans e4) h2⟩
      | bk e S =>
        rw [hg1] at h2
        exact fun φ4 H4 σ4 e4 s4 r4 => h2 φ4 H4 σ4 (e3.trans e4) s4 r4
      | rt d S =>
        rw [hg1] at h2
        exact fun φ4 H4 v e4 s4 r4 => h2 φ4 H4 v (e3.trans e4) s4 r4
      | ex x e S =>
        rw [hg1] at h2
        exact fun φ4 H4 σ4 c dx e4 s4 r4 ix => h2 φ4 H4 σ4 c dx (e3.trans e4) s4 r4 ix
      | bad => rw [hg1] at h2; exact False.elim h2
  · left
    have e : i = ds.length := by omega
    subst e
    rw [List.drop_length] at h2
    exact ⟨fd.stop φ2 S2 H2 e2.kept s2, h2 φ2 H2 σ2 .refl s2 r2⟩

/-- the most turns of a while -/
def bigN : Nat := 2 ^ 64
def whileD (c : EM) (body : SM) : Nat → SM
  | 0, _, _ => .bad
  | n + 1, e, S => match c e S with
    | .ok (.bl true) S1 => match body e S1 with
      | .nx e2 S2 => whileD c body n e2 S2
      | .ct e2 S2 => whileD c body n e2 S2
      | .bk e2 S2 => .nx e2 S2
      | .rt d S2 => .rt d S2
      | .ex x e2 S2 => .ex x e2 S2
      | .bad => .bad
    | .ok (.bl false) S1 => .nx e S1
    | .ex x S1 => .ex x e S1
    | _ => .bad
def sWhile (c : EM) (body : SM) : SM := whileD c body bigN
theorem ds_while {c : Expr} {body : List Stmt} {pos : Pos} {f : EM} {g : SM} (hp : PassesOwn (model X.prog X.w) X.A X.env X.xe) (hc : DT G X W c f) (hb : DSs G X W body g) : DS G X W (.While c body [] pos) (sWhile f g) := by
  obtain ⟨tc, pc, qc⟩ := hc
  obtain ⟨tb, pb, qb⟩ := hb
  refine ⟨_, ps_while hp pc pb, fun σ H env φ S N s re h => ?_⟩
  refine ⟨fun m σ2 H2 => ∃ env2 φ2 S2, Ext φ H φ2 H2 ∧ SOk G φ2 S2 H2 ∧ RepE G φ2 H2 σ2 env2 ∧ PostS G W φ2 H2 (whileD f g m env2 S2) N, ⟨bigN, env, φ, S, .refl, s, re, h⟩, ?_⟩
  rintro m σ2 H2 ⟨env2, φ2, S2, e2, s2, r2, h2⟩
  cases m with
  | zero => exact False.elim h2
  | succ m =>
    unfold whileD at h2
    refine qc σ2 H2 env2 φ2 S2 _ s2 r2 ?_
    cases hr : f env2 S2 with
    | bad => rw [hr] at h2; exact False.elim h2
    | ex x S3 =>
      rw [hr] at h2
      exact fun φ4 H4 c d e s i => h2 φ4 H4 σ2 c d e s (r2.ext e) i
    | ok d S3 =>
      rw [hr] at h2
      cases d with
      | bl k =>
        intro φ3 H3 v e3 s3 i b eb
        cases (show v = .bl k from i)
        cases eb
        cases k with
        | false => exact iteF (h2 φ3 H3 σ2 e3 s3 (r2.ext e3))
        | true =>
          refine iteT ⟨fun σ' H' => ∃ env3 φ3 S3, Ext φ H φ3 H' ∧ SOk G φ3 S3 H' ∧ RepE G φ3 H' σ' env3 ∧ PostS G W φ3 H' (whileD f g m env3 S3) N, fun σ' H' w => ⟨m, by omega, w⟩, ?_⟩
          refine qb σ2 H3 env2 φ3 S3 _ s3 (r2.ext e3) ?_
          dsimp only at h2
          cases hg1 : g env2 S3 with
          | nx e S =>
            rw [hg1] at h2
            exact fun φ4 H4 σ4 e4 s4 r4 => ⟨_, φ4, _, (e2.trans e3).trans e4, s4, r4, PostS.ext (e3.trans e4) h2⟩
          | ct e S =>
            rw [hg1] at h2
            exact fun φ4 H4 σ4 e4 s4 r4 => ⟨_, φ4, _, (e2.trans e3).trans e4, s4, r4, PostS.ext (e3.trans e4) h2⟩
          | bk e S =>
            rw [hg1] at h2
            exact fun φ4 H4 σ4 e4 s4 r4 => h2 φ4 H4 σ4 (e3.trans e4) s4 r4
          | rt d S =>
            rw [hg1] at h2
            exact fun φ4 H4 v e4 s4 r4 => h2 φ4 H4 v (e3.trans e4) s4 r4
          | ex x e S =>
            rw [hg1] at h2
            exact fun φ4 H4 σ4 c dx e4 s4 r4 ix => h2 φ4 H4 σ4 c dx (e3.trans e4) s4 r4 ix
          | bad => rw [hg1] at h2; exact False.elim h2
      | _ => exact False.elim h2

/-! ### list comprehensions -/
def DTs (G : Glb) (X : Cx) (W : WX) (ifs : List Expr) (f : EM) : Prop :=
  ∃ t, PTs X ifs t ∧ ∀ σ H env φ S Q, SOk G φ S H → RepE G φ H σ env → PostT G W φ H σ (f env S) Q → t σ H Q
def eYes : EM := fun _ S => .ok (.bl true) S
theorem dts_nil : DTs G X W [] eYes := ⟨_, pts_nil, fun σ H env φ S Q s re h => h.now s⟩
theorem dts_one {c : Expr} {f : EM} (h : DT G X W c f) : DTs G X W [c] f := let ⟨_, p, q⟩ := h; ⟨_, pts_one p, q⟩
noncomputable def lcD (b : D → EnvD → Option EnvD) (tt elt : EM) (env : EnvD) : List D → List D → Store → LR
  | acc, [], S => .ok acc S
  | acc, d :: ds, S => match b d env with
    | none => .bad
    | some e1 => match tt e1 S with
      | .ok (.bl true) S1 => match elt e1 S1 with
        | .ok y S2 => if sz (acc.length + 1) then lcD b tt elt env (acc ++ [y]) ds S2 else .bad
        | _ => .bad
      | .ok (.bl false) S1 => lcD b tt elt env acc ds S1
      | _ => .bad
noncomputable def eLc (f : LM) (b : D → EnvD → Option EnvD) (tt elt : EM) (vs : List Nat) : EM := fun env S => (f env S).bindE fun ds S => (lcD b tt elt (wipeD env vs) [] ds S).bindE fun ys S => .ok (.lst ys) S
/-- kept as a cell -/
noncomputable def eLcM (f : LM) (b : D → EnvD → Option EnvD) (tt elt : EM) (vs : List Nat) : EM := fun env S => (f env S).bindE fun ds S => (lcD b tt elt (wipeD env vs) [] ds S).bindE fun ys S => .ok (.loc S.length) (S ++ [.lst ys])
theorem wipe_at {σ : St} {j : Nat} : ∀ {vs : List Nat}, j ∈ vs → j < σ.length → (wipe σ vs)[j]? = some none
  | v :: vs, h, hl => by
    unfold L2.wipe
    by_cases q : v = j
    · subst q
      rw [List.getElem?_set_self (by rw [wipe_length]; exact hl)]
    · rw [List.getElem?_set_ne q]
      exact wipe_at ((List.mem_cons.mp h).resolve_left fun z => q z.symm) hl
theorem wipe_off {σ σ2 : St} {vs ws : List Nat} (hs : ∀ j ∈ vs, j ∈ ws) (o : Off vs (wipe σ ws) σ2) : wipe σ2 ws = wipe σ ws := by
  apply List.ext_getElem?
  intro j
  by_cases hj : j ∈ ws
  · by_cases hl : j < σ.length
    · rw [wipe_at hj hl, wipe_at hj (by rw [o.1, wipe_length]; exact hl)]
    · rw [List.getElem?_eq_none (by rw [wipe_length, o.1, wipe_length]; omega), List.getElem?_eq_none (by rw [wipe_length]; omega)]
  · rw [wipe_out hj, o.2 j fun z => hj (hs j z)]
theorem lcD_noex {b : D → EnvD → Option EnvD} {tt elt : EM} {env : EnvD} {x : Exc} {S2 : Store} : ∀ {ds acc : List D} {S : Store}, lcD b tt elt env acc ds S = .ex x S2 → False
  | [], _, _, h => by cases h
  | d :: ds, acc, S, h => by
    unfold lcD at h
    split at h
    · cases h
    · split at h
      · split at h
        · split at h
          · exact lcD_noex h
          · cases h
        · cases h
      · exact lcD_noex h
      · cases h
/-- a state of a comprehension that fills D0, from the state ahead of it -/
structure Lk (φ1 : Fi) (H1 : Hp) (D0 : Addr) (φ2 : Fi) (H2 : Hp) : Prop where
  ext : Ext φ1 H1 ⟨φ2.c, φ1.h⟩ H2
  hid : φ2.h = D0 :: φ1.h
theorem Lk.ext' {φ1 φ2 φ3 : Fi} {H1 H2 H3 : Hp} {D0 : Addr} (l : Lk φ1 H1 D0 φ2 H2) (e : Ext φ2 H2 φ3 H3) : Lk φ1 H1 D0 φ3 H3 :=
  ⟨l.ext.trans ⟨e.pre, rfl, e.keep⟩, e.hid.trans l.hid⟩
theorem Lk.put {φ1 φ2 : Fi} {H1 H2 : Hp} {D0 : Addr} {o : HO} (l : Lk φ1 H1 D0 φ2 H2) (hD : H1 D0 = none) : Lk φ1 H1 D0 φ2 (upd H2 D0 o) :=
  ⟨⟨l.ext.pre, rfl, fun a u n q => by rw [upd_ne (ne_of_none q hD)]; exact l.ext.keep a u n q⟩, l.hid⟩
theorem Lk.start {φ1 : Fi} {H1 : Hp} {D0 : Addr} {o : HO} (hD : H1 D0 = none) : Lk φ1 H1 D0 (φ1.hide D0) (upd H1 D0 o) := ⟨.laid hD, rfl⟩
theorem Lk.mem {φ1 φ2 : Fi} {H1 H2 : Hp} {D0 : Addr} (l : Lk φ1 H1 D0 φ2 H2) : D0 ∈ φ2.h := by rw [l.hid]; exact List.mem_cons_self
def PostLc (G : Glb) (φ1 : Fi) (H1 : Hp) (D0 : Addr) (r : LR) (Q : Hp → Prop) : Prop := match r with
  | .ok ds S => ∀ φ' H' xs, Lk φ1 H1 D0 φ' H' → SOk G φ' S H' → H' D0 = some (.lst xs) → IsL G φ' H' ds xs → Q H'
  | _ => False
theorem lc_loop {J : It} {g : TG} {tt : TT} {te : TE} {b : D → EnvD → Option EnvD} {ft fe : EM} {vs ws : List Nat} {σ : St} {env : EnvD} {φ1 : Fi} {H1 : Hp} {S1 : Store} {ds : List D} {D0 : Addr} {Qd : Hp → Prop} {WB WB' : WX}
    (qg : ∀ v d σ H env env' φ Q, Is G φ H d v → RepE G φ H σ env → b d env = some env' → (∀ σ', RepE G φ H σ' env' → Off vs σ σ' → Q σ' H) → g v σ H Q)
    (qt : ∀ σ H env φ S Q, SOk G φ S H → RepE G φ H σ env → PostT G WB φ H σ (ft env S) Q → tt σ H Q)
    (qe : ∀ σ H env φ S Q, SOk G φ S H → RepE G φ H σ env → PostE G WB' φ H σ (fe env S) Q → te σ H Q)
    (hs : ∀ j ∈ vs, j ∈ ws) (s1 : SOk G φ1 S1 H1) (re : RepE G φ1 H1 σ env) (fd : Feeds G φ1 H1 J ds) (hD : H1 D0 = none)
    (h : PostLc G φ1 H1 D0 (lcD b ft fe (wipeD env ws) [] ds S1) Qd) :
    ∃ Wt : Nat → Nat → Hp → Prop, (∃ m, Wt 0 m (upd H1 D0 (.lst []))) ∧ ∀ i m H, Wt i m H →
      (J.stop i H ∧ Qd H) ∨ (J.go i H ∧ ∃ Nx : Hp → Prop, (∀ H', Nx H' → ∃ m', m' < m ∧ Wt (i + 1) m' H') ∧ ∀ x H', J.yld i H x H' → g x (wipe σ ws) H' fun σ2 H2 => wipe σ2 ws = wipe σ ws ∧ tt σ2 H2 fun b H3 =>
        if b = true then te σ2 H3 fun y H4 => ∃ acc, H4 D0 = some (.lst acc) ∧ acc.length < sizeLine ∧ Nx (upd H4 D0 (.lst (acc ++ [y]))) else Nx H3) := by
  let Go : Nat → Hp → Prop := fun i H2 => i ≤ ds.length ∧ ∃ φ2 S2 accD acc, Kept φ1 H1 φ2 H2 ∧ Lk φ1 H1 D0 φ2 H2 ∧ SOk G φ2 S2 H2 ∧ H2 D0 = some (.lst acc) ∧ IsL G φ2 H2 accD acc ∧ PostLc G φ1 H1 D0 (lcD b ft fe (wipeD env ws) accD (ds.drop i) S2) Qd
  refine ⟨fun i m H2 => m = ds.length - i ∧ Go i H2, ⟨ds.length, by simp, Nat.zero_le _, φ1.hide D0, S1, [], [], Kept.hide hD, .start hD, s1.hide hD, upd_same, rfl, h⟩, ?_⟩
  rintro i m H2 ⟨rfl, hi, φ2, S2, accD, acc, k2, l2, s2, hacc, il, h2⟩
  by_cases hl : i < ds.length
  · right
    have hd : ds[i]? = some ds[i] := List.getElem?_eq_getElem hl
    obtain ⟨go, gy⟩ := fd.go φ2 S2 H2 i ds[i] k2 s2 hd
    rw [List.drop_eq_getElem_cons hl] at h2
    refine ⟨go, Go (i + 1), fun H' w => ⟨ds.length - (i + 1), by omega, rfl, w⟩, fun x H' hy => ?_⟩
    obtain ⟨e3, s3, k3⟩ := gy x H' hy
    have nc : D0 ∉ φ2.c := (s2.hid D0 l2.mem).1
    have r3 : RepE G φ2 H' (wipe σ ws) (wipeD env ws) := ((re.wipe ws).kept k2).ext e3
    unfold lcD at h2
    cases hb1 : b ds[i] (wipeD env ws) with
    | none => rw [hb1] at h2; exact False.elim h2
    | some env3 =>
      rw [hb1] at h2
      dsimp only at h2
      refine qg x ds[i] _ H' _ env3 φ2 _ k3 r3 hb1 fun σ3 r4 o3 => ⟨wipe_off hs o3, ?_⟩
      refine qt σ3 H' env3 φ2 S2 _ s3 r4 ?_
      cases ht : ft env3 S2 with
      | bad => rw [ht] at h2; exact False.elim h2
      | ex x S3 => rw [ht] at h2; exact False.elim h2
      | ok d S3 =>
        rw [ht] at h2
        cases d with
        | bl k =>
          intro φ4 H4 v e4 s4 i4 b' eb
          cases (show v = .bl k from i4)
          cases eb
          have e24 := e3.trans e4
          cases k with
          | false =>
            exact iteF ⟨by omega, φ4, S3, accD, acc, k2.trans e24.kept, l2.ext' e24, s4, e24.keep _ _ nc hacc, il.ext e24, h2⟩
          | true =>
            refine iteT (qe σ3 H4 env3 φ4 S3 _ s4 (r4.ext e4) ?_)
            dsimp only at h2
            cases he : fe env3 S3 with
            | bad => rw [he] at h2; exact False.elim h2
            | ex x S5 => rw [he] at h2; exact False.elim h2
            | ok y S5 =>
              rw [he] at h2
              dsimp only at h2
              by_cases hz : sz (accD.length + 1)
              · rw [if_pos hz] at h2
                intro φ5 H5 v5 e5 s5 i5
                have e25 := e24.trans e5
                have l5 := l2.ext' e25
                have kh : Kept φ5 H5 φ5 (upd H5 D0 (.lst (acc ++ [v5]))) := .hidden l5.mem
                exact ⟨acc, e25.keep _ _ nc hacc, by rw [← il.length, sizeLine_eq]; exact hz, by omega, φ5, S5, accD ++ [y], acc ++ [v5], (k2.trans e25.kept).trans kh, l5.put hD, s5.hidden l5.mem, upd_same, ((il.ext e25).append (.one i5)).kept kh, h2⟩
              · rw [if_neg hz] at h2; exact False.elim h2
        | _ => exact False.elim h2
  · left
    have e : i = ds.length := by omega
    subst e
    rw [List.drop_length] at h2
    exact ⟨fd.stop φ2 S2 H2 k2 s2, h2 φ2 H2 acc l2 s2 hacc il⟩
theorem PostI.ofE {φ : Fi} {H : Hp} {σ : St} {r : LR} {g : List D → Store → ER} {Q : VK} {R : It → Hp → Prop} (h : PostE G W φ H σ (r.bindE g) Q)
    (k : ∀ ds S φ' H' J, Ext φ H φ' H' → SOk G φ' S H' → Feeds G φ' H' J ds → PostE G W φ' H' σ (g ds S) Q → R J H') : PostI G W φ H σ r R := by
  cases r with
  | ok d S => exact fun φ2 H2 J e s i => k d S φ2 H2 J e s i (PostE.ext (r := g d S) e h)
  | ex x S => exact h
  | bad => exact h
/-- the finished list is no more hidden -/
theorem Lk.done {φ1 φ2 : Fi} {H1 H2 : Hp} {D0 : Addr} {S S0 : Store} {ds : List D} {xs : List V} (l : Lk φ1 H1 D0 φ2 H2) (s1 : SOk G φ1 S0 H1) (hD : H1 D0 = none) (s : SOk G φ2 S H2) (hx : H2 D0 = some (.lst xs)) (il : IsL G φ2 H2 ds xs) :
    SOk G ⟨φ2.c, φ1.h⟩ S H2 ∧ Is G ⟨φ2.c, φ1.h⟩ H2 (.lst ds) (.ref D0) := by
  have e : φ2 = (Fi.mk φ2.c φ1.h).hide D0 := by
    obtain ⟨c, h⟩ := φ2
    have := l.hid
    simp only at this
    subst this
    rfl
  have nc : D0 ∉ φ2.c := (s.hid D0 l.mem).1
  rw [e] at s il
  exact ⟨s.show_, D0, xs, rfl, .inl ⟨⟨nc, s1.freshh hD⟩, .inl hx⟩, il.kept Kept.show_⟩
theorem Lk.doneM {φ1 φ2 : Fi} {H1 H2 : Hp} {D0 : Addr} {S S0 : Store} {ds : List D} {xs : List V} (l : Lk φ1 H1 D0 φ2 H2) (s1 : SOk G φ1 S0 H1) (hD : H1 D0 = none) (s : SOk G φ2 S H2) (hx : H2 D0 = some (.lst xs)) (il : IsL G φ2 H2 ds xs) :
    Ext φ1 H1 ⟨φ2.c ++ [D0], φ1.h⟩ H2 ∧ SOk G ⟨φ2.c ++ [D0], φ1.h⟩ (S ++ [.lst ds]) H2 := by
  have nc : D0 ∉ φ2.c := (s.hid D0 l.mem).1
  have k : Kept φ2 H2 ⟨φ2.c ++ [D0], φ1.h⟩ H2 := by
    have no : ∀ {a : Addr}, φ2.out a → (Fi.mk (φ2.c ++ [D0]) φ1.h).out a := fun {a} n => by
      obtain ⟨n1, n2⟩ := n
      rw [l.hid] at n2
      refine ⟨fun z => (List.mem_append.mp z).elim n1 fun z => n2 ?_, fun z => n2 (List.mem_cons_of_mem _ z)⟩
      simp at z; subst z; exact List.mem_cons_self
    exact ⟨fun i a q => by rw [List.getElem?_append_left (List.getElem?_eq_some_iff.mp q).1]; exact q, fun a u n r => ⟨no n, r⟩, fun a C dx fs n r => ⟨no n, r⟩⟩
  constructor
  · obtain ⟨ψ, e1, p⟩ := l.ext.pre
    have e1' : φ2.c = φ1.c ++ ψ := e1
    refine ⟨⟨ψ ++ [D0], by show φ2.c ++ [D0] = _; rw [e1', List.append_assoc], fun a ha => ?_⟩, rfl, l.ext.keep⟩
    rcases List.mem_append.mp ha with ha | ha
    · exact p a ha
    · simp at ha; subst ha; exact ⟨s1.freshc hD, hD⟩
  · refine ⟨by simp [s.len], ?_, fun a ha => ?_, fun i c hc => ?_⟩
    · refine List.nodup_append.mpr ⟨s.nd, by simp, fun x hm y hy => ?_⟩
      simp at hy; subst hy
      intro e; subst e; exact nc hm
    · obtain ⟨n, q⟩ := s.hid a (by rw [l.hid]; exact List.mem_cons_of_mem _ ha)
      refine ⟨fun z => (List.mem_append.mp z).elim n fun z => ?_, q⟩
      simp at z; subst z
      exact s1.freshh hD ha
    · by_cases q : i < S.length
      · rw [List.getElem?_append_left q] at hc
        obtain ⟨a, ha, kc⟩ := s.cell i c hc
        exact ⟨a, k.get _ _ ha, kc.move k rfl⟩
      · rw [List.getElem?_append_right (Nat.le_of_not_lt q)] at hc
        have e : i = S.length := by
          have := (List.getElem?_eq_some_iff.mp hc).1
          simp at this; omega
        subst e
        simp at hc; subst hc
        exact ⟨D0, by show (φ2.c ++ [D0])[S.length]? = _; rw [← s.len]; simp, xs, hx, il.kept k⟩
/-! canonical readings: they hang on no context -/
def tOf (G : Glb) (W : WX) (f : EM) : TE := fun σ H Q => ∃ env φ S, SOk G φ S H ∧ RepE G φ H σ env ∧ PostE G W φ H σ (f env S) Q
def tOfT (G : Glb) (W : WX) (f : EM) : TT := fun σ H Q => ∃ env φ S, SOk G φ S H ∧ RepE G φ H σ env ∧ PostT G W φ H σ (f env S) Q
def gOf (G : Glb) (b : D → EnvD → Option EnvD) (vs : List Nat) : TG := fun v σ H Q => ∃ d env env' φ, Is G φ H d v ∧ RepE G φ H σ env ∧ b d env = some env' ∧ ∀ σ', RepE G φ H σ' env' → Off vs σ σ' → Q σ' H
theorem DE.can {e : Expr} {f : EM} (h : DE G X W e f) : PE X e (tOf G W f) := by
  obtain ⟨t, p, q⟩ := h
  exact ⟨fun pins s σ H Q I ⟨env, φ, S, so, r, z⟩ => p.run pins s σ H Q I (q σ H env φ S Q so r z)⟩
theorem DTs.can {e : List Expr} {f : EM} (h : DTs G X W e f) : PTs X e (tOfT G W f) := by
  obtain ⟨t, p, q⟩ := h
  exact ⟨fun pins s σ H Q I ⟨env, φ, S, so, r, z⟩ => p.run pins s σ H Q I (q σ H env φ S Q so r z)⟩
theorem DG.can {e : Expr} {b : D → EnvD → Option EnvD} {vs : List Nat} (h : DG G X e b vs) : PG X e (gOf G b vs) := by
  obtain ⟨g, p, q⟩ := h
  exact ⟨fun pins s σ H v u Q I r ⟨d, env, env', φ, i, re, z, k⟩ => p.run pins s σ H v u Q I r (q v d σ H env env' φ Q i re z k)⟩
/-- nothing leaves a comprehension -/
abbrev W0 : WX := fun _ _ _ _ => False
section
variable {elt tg iter : Expr} {ifs : List Expr} {scope : Scope} {own : List (Str × Nat)} {pos : Pos} {f : LM} {b : D → EnvD → Option EnvD} {ft fe : EM} {vs : List Nat}
theorem lc_read {wi : TI} (qi : ∀ σ H env φ S R, SOk G φ S H → RepE G φ H σ env → PostI G W φ H σ (f env S) R → wi σ H R) (hvs : ∀ j ∈ vs, j ∈ own.map (·.2)) {Q : VK} {R : ER → Prop}
    {σ : St} {H : Hp} {env : EnvD} {φ : Fi} {S : Store} (s : SOk G φ S H) (re : RepE G φ H σ env) (h : PostE G W φ H σ (eLc f b ft fe (own.map (·.2)) env S) Q) :
    tLc wi (gOf G b vs) (tOfT G W0 ft) (tOf G W0 fe) (own.map (·.2)) σ H Q := by
  refine qi σ H env φ S _ s re (PostI.ofE h fun ds S1 φ1 H1 J e1 s1 fd h1 D0 hD => ?_)
  refine lc_loop (env := env) (fun v d σ H env env' φ Q i r z k => ⟨d, env, env', φ, i, r, z, k⟩) (fun σ H env φ S Q s r z => ⟨env, φ, S, s, r, z⟩) (fun σ H env φ S Q s r z => ⟨env, φ, S, s, r, z⟩) hvs s1 (re.ext e1) fd hD ?_
  cases hr : lcD b ft fe (wipeD env (own.map (·.2))) [] ds S1 with
  | ok ys S2 =>
    rw [hr] at h1
    intro φ2 H2 xs l2 s2 hx il
    obtain ⟨s3, i3⟩ := l2.done s1 hD s2 hx il
    exact h1 _ H2 _ l2.ext s3 i3
  | ex x S2 => exact absurd hr (fun z => lcD_noex z)
  | bad => rw [hr] at h1; exact h1
theorem lc_readM {wi : TI} (qi : ∀ σ H env φ S R, SOk G φ S H → RepE G φ H σ env → PostI G W φ H σ (f env S) R → wi σ H R) (hvs : ∀ j ∈ vs, j ∈ own.map (·.2)) {Q : VK}
    {σ : St} {H : Hp} {env : EnvD} {φ : Fi} {S : Store} (s : SOk G φ S H) (re : RepE G φ H σ env) (h : PostE G W φ H σ (eLcM f b ft fe (own.map (·.2)) env S) Q) :
    tLc wi (gOf G b vs) (tOfT G W0 ft) (tOf G W0 fe) (own.map (·.2)) σ H Q := by
  refine qi σ H env φ S _ s re (PostI.ofE h fun ds S1 φ1 H1 J e1 s1 fd h1 D0 hD => ?_)
  refine lc_loop (env := env) (fun v d σ H env env' φ Q i r z k => ⟨d, env, env', φ, i, r, z, k⟩) (fun σ H env φ S Q s r z => ⟨env, φ, S, s, r, z⟩) (fun σ H env φ S Q s r z => ⟨env, φ, S, s, r, z⟩) hvs s1 (re.ext e1) fd hD ?_
  cases hr : lcD b ft fe (wipeD env (own.map (·.2))) [] ds S1 with
  | ok ys S2 =>
    rw [hr] at h1
    intro φ2 H2 xs l2 s2 hx il
    obtain ⟨e3, s3⟩ := l2.doneM s1 hD s2 hx il
    exact h1 _ H2 _ e3 s3 ⟨D0, by show (φ2.c ++ [D0])[S2.length]? = _; rw [← s2.len]; simp, rfl⟩
  | ex x S2 => exact absurd hr (fun z => lcD_noex z)
  | bad => rw [hr] at h1; exact h1
theorem de_lc (hc : X.calm = true) (hN : X.N.Nodup) (hi : DI G X W tg iter f) (ok : BlkOk X.N X.env.scope scope own)
    (hg : ∀ (s : Shared) (H : Hp) (C : Addr) (cl : List (Str × Addr)) (fp : List Addr), DG G (X.blk s H scope (compEnvC scope cl C X.env) fp) tg b vs)
    (ht : ∀ (s : Shared) (H : Hp) (C : Addr) (cl : List (Str × Addr)) (fp : List Addr), DTs G (X.blk s H scope (compEnvC scope cl C X.env) fp) W0 ifs ft)
    (he : ∀ (s : Shared) (H : Hp) (C : Addr) (cl : List (Str × Addr)) (fp : List Addr), DE G (X.blk s H scope (compEnvC scope cl C X.env) fp) W0 elt fe)
    (hvs : ∀ j ∈ vs, j ∈ own.map (·.2)) (hs : ∀ x, foldedSetIterable iter X.env x = pure x := by intro _; rfl) : DE G X W (.ListComp elt [⟨tg, iter, ifs, 0⟩] scope pos) (eLc f b ft fe (own.map (·.2))) := by
  obtain ⟨wi, pI, qi⟩ := hi
  exact ⟨_, pe_lc hc hN pI ok (fun s H C cl fp => (hg s H C cl fp).can) (fun s H C cl fp => (ht s H C cl fp).can) (fun s H C cl fp => (he s H C cl fp).can) hs, fun σ H env φ S Q s re h => lc_read (R := fun _ => True) qi hvs s re h⟩
theorem de_lcM (hc : X.calm = true) (hN : X.N.Nodup) (hi : DI G X W tg iter f) (ok : BlkOk X.N X.env.scope scope own)
    (hg : ∀ (s : Shared) (H : Hp) (C : Addr) (cl : List (Str × Addr)) (fp : List Addr), DG G (X.blk s H scope (compEnvC scope cl C X.env) fp) tg b vs)
    (ht : ∀ (s : Shared) (H : Hp) (C : Addr) (cl : List (Str × Addr)) (fp : List Addr), DTs G (X.blk s H scope (compEnvC scope cl C X.env) fp) W0 ifs ft)
    (he : ∀ (s : Shared) (H : Hp) (C : Addr) (cl : List (Str × Addr)) (fp : List Addr), DE G (X.blk s H scope (compEnvC scope cl C X.env) fp) W0 elt fe)
    (hvs : ∀ j ∈ vs, j ∈ own.map (·.2)) (hs : ∀ x, foldedSetIterable iter X.env x = pure x := by intro _; rfl) : DE G X W (.ListComp elt [⟨tg, iter, ifs, 0⟩] scope pos) (eLcM f b ft fe (own.map (·.2))) := by
  obtain ⟨wi, pI, qi⟩ := hi
  exact ⟨_, pe_lc hc hN pI ok (fun s H C cl fp => (hg s H C cl fp).can) (fun s H C cl fp => (ht s H C cl fp).can) (fun s H C cl fp => (he s H C cl fp).can) hs, fun σ H env φ S Q s re h => lc_readM qi hvs s re h⟩
theorem ds_setLc {i : Nat} {y : Str} {py spos : Pos} (hc : X.calm = true) (hN : X.N.Nodup) (hi : DI G X W tg iter f) (ok : BlkOk X.N X.env.scope scope own)
    (hg : ∀ (s : Shared) (H : Hp) (C : Addr) (cl : List (Str × Addr)) (fp : List Addr), DG G (X.blk s H scope (compEnvC scope cl C X.env) fp) tg b vs)
    (ht : ∀ (s : Shared) (H : Hp) (C : Addr) (cl : List (Str × Addr)) (fp : List Addr), DTs G (X.blk s H scope (compEnvC scope cl C X.env) fp) W0 ifs ft)
    (he : ∀ (s : Shared) (H : Hp) (C : Addr) (cl : List (Str × Addr)) (fp : List Addr), DE G (X.blk s H scope (compEnvC scope cl C X.env) fp) W0 elt fe)
    (hvs : ∀ j ∈ vs, j ∈ own.map (·.2)) (hy : X.N[i]? = some y) (hyl : X.env.scope.names.lookup y = some .local)
    (hsw : swapsWith (.ListComp elt [⟨tg, iter, ifs, 0⟩] scope pos) (some (.Name y py)) spos.line X.env = pure true) (hs : ∀ x, foldedSetIterable iter X.env x = pure x := by intro _; rfl) :
    DS G X W (.Assign [.Name y py] (.ListComp elt [⟨tg, iter, ifs, 0⟩] scope pos) spos) (sAsg (eLc f b ft fe (own.map (·.2))) (bName i)) := by
  obtain ⟨wi, pI, qi⟩ := hi
  refine ⟨_, ps_setLc hc hN hy hyl hsw pI ok (fun s H C cl fp => (hg s H C cl fp).can) (fun s H C cl fp => (ht s H C cl fp).can) (fun s H C cl fp => (he s H C cl fp).can) hs, fun σ H env φ S N s re h => ?_⟩
  exact lc_read (R := fun _ => True) qi hvs s re (PostE.bindS re h fun d S1 φ1 H1 v e1 s1 i1 h1 => h1 φ1 H1 _ .refl s1 ((re.ext e1).set i1 i))
theorem ds_setLcM {i : Nat} {y : Str} {py spos : Pos} (hc : X.calm = true) (hN : X.N.Nodup) (hi : DI G X W tg iter f) (ok : BlkOk X.N X.env.scope scope own)
    (hg : ∀ (s : Shared) (H : Hp) (C : Addr) (cl : List (Str × Addr)) (fp : List Addr), DG G (X.blk s H scope (compEnvC scope cl C X.env) fp) tg b vs)
    (ht : ∀ (s : Shared) (H : Hp) (C : Addr) (cl : List (Str × Addr)) (fp : List Addr), DTs G (X.blk s H scope (compEnvC scope cl C X.env) fp) W0 ifs ft)
    (he : ∀ (s : Shared) (H : Hp) (C : Addr) (cl : List (Str × Addr)) (fp : List Addr), DE G (X.blk s H scope (compEnvC scope cl C X.env) fp) W0 elt fe)
    (hvs : ∀ j ∈ vs, j ∈ own.map (·.2)) (hy : X.N[i]? = some y) (hyl : X.env.scope.names.lookup y = some .local)
    (hsw : swapsWith (.ListComp elt [⟨tg, iter, ifs, 0⟩] scope pos) (some (.Name y py)) spos.line X.env = pure true) (hs : ∀ x, foldedSetIterable iter X.env x = pure x := by intro _; rfl) :
    DS G X W (.Assign [.Name y py] (.ListComp elt [⟨tg, iter, ifs, 0⟩] scope pos) spos) (sAsg (eLcM f b ft fe (own.map (·.2))) (bName i)) := by
  obtain ⟨wi, pI, qi⟩ := hi
  refine ⟨_, ps_setLc hc hN hy hyl hsw pI ok (fun s H C cl fp => (hg s H C cl fp).can) (fun s H C cl fp => (ht s H C cl fp).can) (fun s H C cl fp => (he s H C cl fp).can) hs, fun σ H env φ S N s re h => ?_⟩
  exact lc_readM qi hvs s re (PostE.bindS re h fun d S1 φ1 H1 v e1 s1 i1 h1 => h1 φ1 H1 _ .refl s1 ((re.ext e1).set i1 i))
end
end
end DL
end
section
/-! D-layer, part 4: defs, their calls, what leaves a def; cells that are written; the law's end. -/
namespace DL
open PySem L2 PySem.Spec PyProof.Rows

/-! ### what leaves a def: new cells become plain data -/
mutual
def frzD (ρ : Nat → Option D) : D → Option D
  | .non => some .non
  | .bl b => some (.bl b)
  | .int i => some (.int i)
  | .str x => some (.str x)
  | .tup ds => (frzDs ρ ds).map .tup
  | .lst ds => (frzDs ρ ds).map .lst
  | .dic ks ds => (frzDs ρ ds).map (.dic ks)
  | .obj c ks ds => (frzDs ρ ds).map (.obj c ks)
  | .loc l => ρ l
def frzDs (ρ : Nat → Option D) : List D → Option (List D)
  | [] => some []
  | d :: ds => (frzD ρ d).bind fun a => (frzDs ρ ds).map (a :: ·)
end
def resD (n : Nat) (S : Store) : Nat → Nat → Option D
  | 0, _ => none
  | k + 1, l => if l < n then some (.loc l) else match S[l]? with
    | some (.lst ds) => (frzDs (resD n S k) ds).map .lst
    | some (.dic kvs) => (frzDs (resD n S k) (kvs.map (·.2))).map (.dic (kvs.map (·.1)))
    | some (.ins c fs) => (frzDs (resD n S k) (fs.map (·.2))).map (.obj c (fs.map (·.1)))
    | none => none
mutual
def belD (n : Nat) : D → Bool
  | .tup ds => belDs n ds
  | .lst ds => belDs n ds
  | .dic _ ds => belDs n ds
  | .obj _ _ ds => belDs n ds
  | .loc l => decide (l < n)
  | _ => true
def belDs (n : Nat) : List D → Bool
  | [] => true
  | d :: ds => belD n d && belDs n ds
end
def Cell.bel (n : Nat) : Cell → Bool
  | .lst ds => belDs n ds
  | .dic kvs => belDs n (kvs.map (·.2))
  | .ins _ fs => belDs n (fs.map (·.2))
inductive Mode where
  | keep
  | pure
open Classical in
/-- the end of a def that began at S0 -/
noncomputable def exitD (m : Mode) (S0 : Store) (d : D) (S : Store) : ER := match m with
  | .keep => .ok d S
  | .pure => match frzD (resD S0.length S 12) d with
    | some d' => if S.take S0.length = S0 ∨ (S.take S0.length).all (Cell.bel S0.length) = true then .ok d' (S.take S0.length) else .bad
    | none => .bad
section
variable {G : Glb} {φ : Fi} {H : Hp} {S : Store}
def Fi.cut (φ : Fi) (n : Nat) : Fi := ⟨φ.c.take n, φ.h⟩
theorem cut_out {φ : Fi} {n : Nat} {a : Addr} (h : φ.out a) : (φ.cut n).out a := ⟨fun z => h.1 (List.mem_of_mem_take z), h.2⟩
theorem RdL.cut {n : Nat} {a : Addr} {xs : List V} (h : RdL G φ H a xs) : RdL G (φ.cut n) H a xs := h.elim (fun z => .inl ⟨cut_out z.1, z.2⟩) .inr
theorem RdT.cut {n : Nat} {a : Addr} {xs : List V} (h : RdT G φ H a xs) : RdT G (φ.cut n) H a xs := h.elim (fun z => .inl ⟨cut_out z.1, z.2⟩) .inr
mutual
theorem frz_is {n : Nat} {ρ : Nat → Option D} (hρ : ∀ l d' a, ρ l = some d' → φ.c[l]? = some a → Is G (φ.cut n) H d' (.ref a)) : ∀ {d d' : D} {v : V}, Is G φ H d v → frzD ρ d = some d' → Is G (φ.cut n) H d' v
  | .non, _, v, i, e => by cases e; exact i
  | .bl _, _, v, i, e => by cases e; exact i
  | .int _, _, v, i, e => by cases e; exact i
  | .str _, _, v, i, e => by cases e; exact i
  | .tup ds, _, v, i, e => by
    obtain ⟨a, xs, e1, r, q⟩ := i
    obtain ⟨es, e2, e3⟩ := Option.map_eq_some_iff.mp (show (frzDs ρ ds).map D.tup = some _ from e)
    subst e3
    exact ⟨a, xs, e1, r.cut, frz_isL hρ q e2⟩
  | .lst ds, _, v, i, e => by
    obtain ⟨a, xs, e1, r, q⟩ := i
    obtain ⟨es, e2, e3⟩ := Option.map_eq_some_iff.mp (show (frzDs ρ ds).map D.lst = some _ from e)
    subst e3
    exact ⟨a, xs, e1, r.cut, frz_isL hρ q e2⟩
  | .dic ks ds, _, v, i, e => by
    obtain ⟨a, kvs, e1, ⟨n1, r⟩, z, q⟩ := i
    obtain ⟨es, e2, e3⟩ := Option.map_eq_some_iff.mp (show (frzDs ρ ds).map (D.dic ks) = some _ from e)
    subst e3
    exact ⟨a, kvs, e1, ⟨cut_out n1, r⟩, z, frz_isL hρ q e2⟩
  | .obj c ks ds, _, v, i, e => by
    obtain ⟨a, C, dx, fs, e1, ⟨n1, r⟩, hc, z, q⟩ := i
    obtain ⟨es, e2, e3⟩ := Option.map_eq_some_iff.mp (show (frzDs ρ ds).map (D.obj c ks) = some _ from e)
    subst e3
    exact ⟨a, C, dx, fs, e1, ⟨cut_out n1, r⟩, hc, z, frz_isL hρ q e2⟩
  | .loc l, d', v, i, e => by
    obtain ⟨a, ha, e1⟩ := i
    subst e1
    exact hρ l d' a e ha
theorem frz_isL {n : Nat} {ρ : Nat → Option D} (hρ : ∀ l d' a, ρ l = some d' → φ.c[l]? = some a → Is G (φ.cut n) H d' (.ref a)) : ∀ {ds ds' : List D} {vs : List V}, IsL G φ H ds vs → frzDs ρ ds = some ds' → IsL G (φ.cut n) H ds' vs
  | [], _, v, i, e => by cases e; exact i
  | d :: ds, _, v, i, e => by
    obtain ⟨x, r, e1, p, q⟩ := i
    obtain ⟨a, e2, e3⟩ := Option.bind_eq_some_iff.mp (show ((frzD ρ d).bind fun a => (frzDs ρ ds).map (a :: ·)) = some _ from e)
    obtain ⟨b, e4, e5⟩ := Option.map_eq_some_iff.mp e3
    subst e5
    exact ⟨x, r, e1, frz_is hρ p e2, frz_isL hρ q e4⟩
end
theorem res_is (s : SOk G φ S H) (n : Nat) : ∀ (k l : Nat) (d' : D) (a : Addr), resD n S k l = some d' → φ.c[l]? = some a → Is G (φ.cut n) H d' (.ref a)
  | 0, _, _, _, e, _ => by cases e
  | k + 1, l, d', a, e, ha => by
    unfold resD at e
    have ih := res_is s n k
    by_cases hl : l < n
    · rw [if_pos hl] at e
      cases e
      exact ⟨a, by show (φ.c.take n)[l]? = _; rw [List.getElem?_take]; rw [if_pos hl]; exact ha, rfl⟩
    · rw [if_neg hl] at e
      have nc : a ∉ (φ.cut n).c := fun z => by
        obtain ⟨j, hj, e2⟩ := List.getElem_of_mem z
        have h1 : (φ.c.take n)[j]? = some a := by rw [← e2]; exact List.getElem?_eq_getElem hj
        rw [List.getElem?_take] at h1
        split at h1
        · exact hl (by rw [nd_ix s.nd ha h1]; assumption)
        · cases h1
      have nh : a ∉ φ.h := fun z => (s.hid a z).1 (List.mem_of_getElem? ha)
      split at e
      · rename_i ds hc
        obtain ⟨xs, hx, q⟩ := s.at_ hc ha
        obtain ⟨es, e2, e3⟩ := Option.map_eq_some_iff.mp e
        subst e3
        exact ⟨a, xs, rfl, .inl ⟨⟨nc, nh⟩, .inl hx⟩, frz_isL ih q e2⟩
      · rename_i kvs hc
        obtain ⟨ws, hx, z, q⟩ := s.at_ hc ha
        obtain ⟨es, e2, e3⟩ := Option.map_eq_some_iff.mp e
        subst e3
        exact ⟨a, ws, rfl, ⟨⟨nc, nh⟩, .inl hx⟩, z, frz_isL ih q e2⟩
      · rename_i c fs hc
        obtain ⟨C, dx, ws, hC, hx, z, q⟩ := s.at_ hc ha
        obtain ⟨es, e2, e3⟩ := Option.map_eq_some_iff.mp e
        subst e3
        exact ⟨a, C, dx, ws, rfl, ⟨⟨nc, nh⟩, hx⟩, hC, z, frz_isL ih q e2⟩
      · cases e
mutual
theorem bel_of {n : Nat} (hn : φ.c.length ≤ n) : ∀ {d : D} {v : V}, Is G φ H d v → belD n d = true
  | .non, _, _ => rfl
  | .bl _, _, _ => rfl
  | .int _, _, _ => rfl
  | .str _, _, _ => rfl
  | .tup ds, _, i => by obtain ⟨a, xs, e1, r, q⟩ := i; exact bel_ofL hn q
  | .lst ds, _, i => by obtain ⟨a, xs, e1, r, q⟩ := i; exact bel_ofL hn q
  | .dic _ ds, _, i => by obtain ⟨a, xs, e1, r, z, q⟩ := i; exact bel_ofL hn q
  | .obj _ _ ds, _, i => by obtain ⟨a, C, dx, xs, e1, r, c, z, q⟩ := i; exact bel_ofL hn q
  | .loc l, _, i => by
    obtain ⟨a, ha, _⟩ := i
    have := (List.getElem?_eq_some_iff.mp ha).1
    show decide (l < n) = true
    exact decide_eq_true (by omega)
theorem bel_ofL {n : Nat} (hn : φ.c.length ≤ n) : ∀ {ds : List D} {vs : List V}, IsL G φ H ds vs → belDs n ds = true
  | [], _, _ => rfl
  | d :: ds, _, i => by
    obtain ⟨x, r, e1, p, q⟩ := i
    show (belD n d && belDs n ds) = true
    rw [bel_of hn p, bel_ofL hn q]; rfl
end
mutual
theorem bel_is {n : Nat} : ∀ {d : D} {v : V}, belD n d = true → Is G φ H d v → Is G (φ.cut n) H d v
  | .non, _, _, i => i
  | .bl _, _, _, i => i
  | .int _, _, _, i => i
  | .str _, _, _, i => i
  | .tup ds, _, h, i => by obtain ⟨a, xs, e1, r, q⟩ := i; exact ⟨a, xs, e1, r.cut, bel_isL h q⟩
  | .lst ds, _, h, i => by obtain ⟨a, xs, e1, r, q⟩ := i; exact ⟨a, xs, e1, r.cut, bel_isL h q⟩
  | .dic _ ds, _, h, i => by obtain ⟨a, xs, e1, ⟨n1, r⟩, z, q⟩ := i; exact ⟨a, xs, e1, ⟨cut_out n1, r⟩, z, bel_isL h q⟩
  | .obj _ _ ds, _, h, i => by obtain ⟨a, C, dx, xs, e1, ⟨n1, r⟩, c, z, q⟩ := i; exact ⟨a, C, dx, xs, e1, ⟨cut_out n1, r⟩, c, z, bel_isL h q⟩
  | .loc l, _, h, i => by
    obtain ⟨a, ha, e⟩ := i
    have hl : l < n := of_decide_eq_true h
    exact ⟨a, by show (φ.c.take n)[l]? = _; rw [List.getElem?_take, if_pos hl]; exact ha, e⟩
theorem bel_isL {n : Nat} : ∀ {ds : List D} {vs : List V}, belDs n ds = true → IsL G φ H ds vs → IsL G (φ.cut n) H ds vs
  | [], _, _, i => i
  | d :: ds, _, h, i => by
    obtain ⟨x, r, e1, p, q⟩ := i
    have h' : (belD n d && belDs n ds) = true := h
    simp only [Bool.and_eq_true] at h'
    exact ⟨x, r, e1, bel_is h'.1 p, bel_isL h'.2 q⟩
end
theorem CellOk.bel {a : Addr} {c : Cell} {n : Nat} (hn : φ.c.length ≤ n) (h : CellOk G φ H a c) : c.bel n = true := by
  cases c with
  | lst ds => obtain ⟨xs, _, q⟩ := h; exact bel_ofL hn q
  | dic kvs => obtain ⟨xs, _, _, q⟩ := h; exact bel_ofL hn q
  | ins c fs => obtain ⟨C, dx, xs, _, _, _, q⟩ := h; exact bel_ofL hn q
theorem CellOk.cut {a : Addr} {c : Cell} {n : Nat} (hb : c.bel n = true) (h : CellOk G φ H a c) : CellOk G (φ.cut n) H a c := by
  cases c with
  | lst ds => obtain ⟨xs, k, q⟩ := h; exact ⟨xs, k, bel_isL hb q⟩
  | dic kvs => obtain ⟨xs, k, z, q⟩ := h; exact ⟨xs, k, z, bel_isL hb q⟩
  | ins c fs => obtain ⟨C, dx, xs, k, y, z, q⟩ := h; exact ⟨C, dx, xs, k, y, z, bel_isL hb q⟩
theorem SOk.cut (s : SOk G φ S H) {n : Nat} (hb : ∀ c ∈ S.take n, c.bel n = true) : SOk G (φ.cut n) (S.take n) H := by
  refine ⟨by simp [Fi.cut, s.len], s.nd.sublist (List.take_sublist _ _), fun a ha => ?_, fun l c hc => ?_⟩
  · obtain ⟨n1, q⟩ := s.hid a ha
    exact ⟨fun z => n1 (List.mem_of_mem_take z), q⟩
  · have hm := hb c (List.mem_of_getElem? hc)
    rw [List.getElem?_take] at hc
    split at hc
    · rename_i hl
      obtain ⟨a, ha, k⟩ := s.cell l c hc
      exact ⟨a, by show (φ.c.take n)[l]? = _; rw [List.getElem?_take, if_pos hl]; exact ha, k.cut hm⟩
    · cases hc
/-- the way out -/
theorem exit_ok {m : Mode} {φ0 : Fi} {H0 : Hp} {S0 : Store} {d : D} {v : V} {W : WX} {σ : L2.St} {Q : VK} (s0 : SOk G φ0 S0 H0) (e : Ext φ0 H0 φ H) (s : SOk G φ S H) (i : Is G φ H d v) (h : PostE G W φ0 H0 σ (exitD m S0 d S) Q) : Q v H := by
  cases m with
  | keep => exact h φ H v e s i
  | pure =>
    unfold exitD at h
    dsimp only at h
    cases hd : frzD (resD S0.length S 12) d with
    | none => rw [hd] at h; exact False.elim h
    | some d' =>
      rw [hd] at h
      dsimp only at h
      split at h
      · rename_i hc
        have eφ : φ.cut S0.length = φ0 := by
          obtain ⟨ψ, e1, _⟩ := e.pre
          obtain ⟨c0, h0⟩ := φ0
          obtain ⟨c1, h1⟩ := φ
          have eh := e.hid
          simp only at e1 eh
          subst e1 eh
          have hl : c0.length = S0.length := s0.len
          show Fi.mk ((c0 ++ ψ).take S0.length) h1 = Fi.mk c0 h1
          rw [← hl, List.take_left]
        have hb : ∀ c ∈ S.take S0.length, c.bel S0.length = true := by
          rcases hc with hc | hc
          · intro c hm
            rw [hc] at hm
            obtain ⟨l, hl, e1⟩ := List.getElem_of_mem hm
            obtain ⟨a, ha, k⟩ := s0.cell l c (by rw [← e1]; exact List.getElem?_eq_getElem hl)
            exact k.bel (by rw [s0.len]; exact Nat.le_refl _)
          · exact fun c hm => List.all_eq_true.mp hc c hm
        have s2 := s.cut hb
        rw [eφ] at s2
        refine h φ0 H v ⟨⟨[], by simp, fun _ z => by simp at z⟩, rfl, e.keep⟩ s2 ?_
        have i2 := frz_is (n := S0.length) (res_is s S0.length 12) i hd
        rw [eφ] at i2
        exact i2
      · exact False.elim h
end

/-! ### a def's promise -/
def spD (G : Glb) (n : Nat) (F : FD) : Sp := fun vs H Q E => vs.length = n ∧ ∃ φ S ds, SOk G φ S H ∧ IsL G φ H ds vs ∧ PostE G (fun cls dx _ H => E cls dx H) φ H [] (F ds S) Q
def startD (n : Nat) (ds : List D) : EnvD := ds.map some ++ List.replicate (n - ds.length) none
noncomputable def fnF (m : Mode) (n : Nat) (g : SM) : FD := fun ds S => match g (startD n ds) S with
  | .nx _ S1 => exitD m S .non S1
  | .rt d S1 => exitD m S d S1
  | .ex x _ S1 => .ex x S1
  | _ => .bad
theorem rep_start {G : Glb} {φ : Fi} {H : Hp} {ds : List D} {vs : List V} (N : List Str) (i : IsL G φ H ds vs) : RepE G φ H (L2.start N vs) (startD N.length ds) := by
  refine ⟨by simp [L2.start, startD, i.length], fun j d e => ?_⟩
  unfold startD at e
  by_cases hj : j < ds.length
  · rw [List.getElem?_append_left (by simpa using hj), List.getElem?_map] at e
    obtain ⟨d1, e1, e2⟩ := Option.map_eq_some_iff.mp e
    cases e2
    obtain ⟨v, hv, k⟩ := i.get e1
    refine ⟨v, ?_, k⟩
    unfold L2.start
    rw [List.getElem?_append_left (by simpa [← i.length] using hj), List.getElem?_map, hv]
    rfl
  · rw [List.getElem?_append_right (by simpa using hj), List.getElem?_replicate] at e
    split at e <;> cases e
theorem fnD {G : Glb} {P : Program} {w : World} {mg : Str → Option Value} {base : Heap} {x qual : Str} {st : Stmt} {f : Addr} {fd : FuncData} {N ps : List Str} {k : Nat} {g : SM} (m : Mode) (F : Fun G.K x qual st f fd) (S : FnScope N ps (defScope st))
    (body : ∀ (cdv : Value) (A : Around) (outer : List Env) (s : Shared) (H : Hp) (E : XK), Room k (A.deeper (envOfC qual (defScope st) s.heap.objs.size f cdv)) →
      Takes (cxOf (L2.CX P w) P w G.K mg base N qual (defScope st) f cdv A outer s H E) (fun cls d _ H => E cls d H) →
      PassesOwn (model P w) (A.deeper (envOfC qual (defScope st) s.heap.objs.size f cdv)) (envOfC qual (defScope st) s.heap.objs.size f cdv) (cxOf (L2.CX P w) P w G.K mg base N qual (defScope st) f cdv A outer s H E).xe →
      DSs G (cxOf (L2.CX P w) P w G.K mg base N qual (defScope st) f cdv A outer s H E) (fun cls d _ H => E cls d H) (defBody st) g) :
    FnOk P w G.K mg base (L2.CX P w) (k + 1) f fd ps (spD G ps.length (fnF m N.length g)) := by
  refine F.okX S (fun vs H Q E h => h.1) (fun cdv A outer s H vs Q E hr h => ?_)
  obtain ⟨_, φ, S0, ds, so, il, hp⟩ := h
  obtain ⟨t, pt, qt⟩ := body cdv A outer s H E hr (takes_of rfl rfl rfl rfl) (passes_of rfl)
  refine ⟨t, pt, qt (L2.start N vs) H (startD N.length ds) φ S0 _ so (rep_start N il) ?_⟩
  unfold fnF at hp
  cases hg : g (startD N.length ds) S0 with
  | nx e S1 => rw [hg] at hp; exact fun φ1 H1 σ1 e1 s1 r1 => exit_ok so e1 s1 (show Is G φ1 H1 .non .non from rfl) hp
  | rt d S1 => rw [hg] at hp; exact fun φ1 H1 v e1 s1 i1 => exit_ok so e1 s1 i1 hp
  | ex x e S1 => rw [hg] at hp; exact fun φ1 H1 σ1 cls dx e1 s1 r1 ix => hp φ1 H1 cls dx e1 s1 ix
  | bk e S1 => rw [hg] at hp; exact False.elim hp
  | ct e S1 => rw [hg] at hp; exact False.elim hp
  | bad => rw [hg] at hp; exact False.elim hp

/-- a def of the module, called by its name -/
structure Def (G : Glb) (P : Program) (w : World) (mg : Str → Option Value) (base : Heap) (k : Nat) (x : Str) (n : Nat) (F : FD) : Prop where
  ex : ∃ f fd ps, FnOk P w G.K mg base (L2.CX P w) k f fd ps (spD G n F) ∧ mg x = some (.ref f) ∧ PySem.W.keepIn G.K (.ref f) = true ∧ Binds G.K fd ps []
section
variable {G : Glb} {X : Cx} {W : WX} {k n : Nat} {x : Str} {F : FD} {p pos : Pos} {e : Expr} {es : List Expr} {fa : LM}
def eCall (F : FD) (f : LM) : EM := fun env S => (f env S).bindE F
theorem de_call (d : Def G X.prog X.w X.mg X.base k x n F) (hK : X.K = G.K) (hr : Room k X.A) (hg : Gl X x) (tk : Takes X W) (ha : DA G X W (e :: es) fa) (hn : (e :: es).length = n) (hla : ∀ env S ds S', fa env S = .ok ds S' → ds.length = n)
    (hdb : (x == ("__debug__" : Str)) = false := by decide) (he : starEach (e :: es) X.env = (false, eval e X.env) :: starEach es X.env := by rfl) (hpl : (backTo pos (starEach es X.env)).any (·.1) = false := by rfl) :
    DE G X W (.Call (.Name x p) (e :: es) [] pos) (eCall F fa) := by
  obtain ⟨f, fd, ps, FO, hm, hk, hb⟩ := d.ex
  rw [← hK] at FO hk hb
  obtain ⟨t, pt, qt⟩ := ha
  refine ⟨_, pe_callS FO hr hg hm hk hb (fun σ => passAt tk σ) pt hdb he hpl, fun σ H env φ S Q s re h => ?_⟩
  refine qt σ H env φ S _ s re ?_
  unfold eCall at h
  cases hf : fa env S with
  | ok ds S1 =>
    rw [hf] at h
    intro φ1 H1 vs e1 s1 i1
    refine ⟨by rw [← i1.length]; exact hla _ _ _ _ hf, φ1, S1, ds, s1, i1, ?_⟩
    have h' : PostE G W φ1 H1 σ (F ds S1) Q := PostE.ext e1 h
    cases hF : F ds S1 with
    | ok d S2 => rw [hF] at h'; exact h'
    | ex x S2 => rw [hF] at h'; exact h'
    | bad => rw [hF] at h'; exact h'
  | ex x S1 => rw [hf] at h; exact h
  | bad => rw [hf] at h; exact h
theorem run_call0 {f : Addr} {fd : FuncData} {ps : List Str} {sp : Sp} {E : L2.St → XK} {CX : CXT} (FO : FnOk X.prog X.w X.K X.mg X.base CX k f fd ps sp) (hr : Room k X.A) (hg : Gl X x) (hm : X.mg x = some (.ref f)) (hk : PySem.W.keepIn X.K (.ref f) = true) (hb : Binds X.K fd ps []) (hx : ∀ σ, PassesAt CX X σ (E σ))
    (hdb : (x == ("__debug__" : Str)) = false := by decide) : PE X (.Call (.Name x p) [] [] pos) (tCallS sp E tNil) := by
  refine ⟨fun pins s σ H Q I h => ?_⟩
  exact wpAny_Call_Name_kw (ld_glob I hg hm (PySem.W.callWith_K0 I.kIn hk (run_fnS (us := []) FO hr hb (hx σ) I .nil h)) hdb)
theorem de_call0 (d : Def G X.prog X.w X.mg X.base k x 0 F) (hK : X.K = G.K) (hr : Room k X.A) (hg : Gl X x) (tk : Takes X W)
    (hdb : (x == ("__debug__" : Str)) = false := by decide) : DE G X W (.Call (.Name x p) [] [] pos) (eCall F lNil) := by
  obtain ⟨f, fd, ps, FO, hm, hk, hb⟩ := d.ex
  rw [← hK] at FO hk hb
  refine ⟨_, run_call0 FO hr hg hm hk hb (fun σ => passAt tk σ) hdb, fun σ H env φ S Q s re h => ?_⟩
  refine ⟨rfl, φ, S, [], s, rfl, ?_⟩
  have h' : PostE G W φ H σ (F [] S) Q := h
  cases hF : F [] S with
  | ok d S2 => rw [hF] at h'; exact h'
  | ex x S2 => rw [hF] at h'; exact h'
  | bad => rw [hF] at h'; exact h'
/-- how many arguments -/
theorem la_nil : ∀ env S ds S', lNil env S = .ok ds S' → ds.length = 0 := fun env S ds S' h => by cases h; rfl
theorem la_cons {f : EM} {g : LM} {m : Nat} (h : ∀ env S ds S', g env S = .ok ds S' → ds.length = m) : ∀ env S ds S', lCons f g env S = .ok ds S' → ds.length = m + 1 := fun env S ds S' q => by
  unfold lCons at q
  cases hf : f env S with
  | ok d S1 =>
    rw [hf] at q
    have q' : ((g env S1).bind fun ds S => .ok (d :: ds) S) = .ok ds S' := q
    cases hg : g env S1 with
    | ok es S2 =>
      rw [hg] at q'
      cases q'
      simp [h _ _ _ _ hg]
    | ex x S2 => rw [hg] at q'; cases q'
    | bad => rw [hg] at q'; cases q'
  | ex x S1 => rw [hf] at q; cases q
  | bad => rw [hf] at q; cases q

/-! ### cells that are written -/
/-- xs[i] = e of a list's cell -/
def putIx (i : Int) (ds : List D) (d : D) : Option (List D) := (ixN ds.length i).map fun j => ds.set j d
def setD (o i d : D) (S : Store) : Option Store := match o, i with
  | .loc l, .int i => match S[l]? with
    | some (.lst ds) => (putIx i ds d).map fun es => S.set l (.lst es)
    | _ => none
  | _, _ => none
/-- o[i] = e: e first, then o, i -/
def sPutL (o i f : EM) : SM := fun env S => (f env S).bindS env fun d S => (o env S).bindS env fun a S => (i env S).bindS env fun b S => match setD a b d S with
  | some S' => .nx env S'
  | none => .bad
theorem set_is {φ : Fi} {S S' : Store} {H : Hp} {o i d : D} {vo vi v : V} (s : SOk G φ S H) (io : Is G φ H o vo) (ii : Is G φ H i vi) (id : Is G φ H d v) (h : setD o i d S = some S') {Q : Hp → Prop} (k : ∀ H', Ext φ H φ H' → SOk G φ S' H' → Q H') : rSetL vo vi v H Q := by
  cases o with
  | loc l =>
    cases i with
    | int i =>
      obtain ⟨a, ha, rfl⟩ := io
      cases (show vi = _ from ii)
      simp only [setD] at h
      cases hc : S[l]? with
      | none => rw [hc] at h; cases h
      | some c =>
        rw [hc] at h
        cases c with
        | lst ds =>
          obtain ⟨es, e1, e2⟩ := Option.map_eq_some_iff.mp (show (putIx i ds d).map (fun es => S.set l (.lst es)) = some S' from h)
          obtain ⟨j, e3, e4⟩ := Option.map_eq_some_iff.mp (show (ixN ds.length i).map (fun j => ds.set j d) = some es from e1)
          subst e2 e4
          obtain ⟨xs, hx, q⟩ := s.at_ hc ha
          refine ⟨a, xs, i, j, rfl, rfl, hx, by rw [← q.length]; exact e3, k _ (.put (List.mem_of_getElem? ha)) (s.put ha ⟨_, upd_same, ?_⟩)⟩
          exact (q.set j id).ext (.put (List.mem_of_getElem? ha))
        | _ => cases h
    | _ => cases h
  | _ => cases h
theorem ds_putL {o i e : Expr} {pos pos' : Pos} {fo fi fe : EM} (he : DE G X W e fe) (ho : DE G X W o fo) (hi : DE G X W i fi) (hs : swapsWithSole [.Subscript o i pos'] e pos.line X.env = pure false := by rfl) (hw : swappedStores [.Subscript o i pos'] e X.env = pure none := by rfl)
    (h1 : List.map (fun x => x.snd) (assignEach [.Subscript o i pos'] X.env) = [assign (.Subscript o i pos') X.env] := by rfl)
    (h2 : ∀ v, assign (.Subscript o i pos') X.env v = (do let ov ← holding [v] (eval o X.env); let iv ← holding [v, ov] (eval i X.env); standAt pos'; holding [v, ov, iv] (setItem ov iv v); release [v, ov, iv] []) := by intro _; rfl) : DS G X W (.Assign [.Subscript o i pos'] e pos) (sPutL fo fi fe) := by
  obtain ⟨to, po, qo⟩ := ho
  obtain ⟨ti, pi, qi⟩ := hi
  obtain ⟨te, pe, qe⟩ := he
  refine ⟨_, ps_asg pe (pg_sub po pi set_list h2) hs hw h1, fun σ H env φ S N s re h => ?_⟩
  refine qe σ H env φ S _ s re (PostE.bindS re h fun d S1 φ1 H1 v e1 s1 i1 h1 => ?_)
  have r1 := re.ext e1
  refine qo σ H1 env φ1 S1 _ s1 r1 (PostE.bindS r1 h1 fun a S2 φ2 H2 va e2 s2 i2 h2 => ?_)
  have r2 := r1.ext e2
  refine qi σ H2 env φ2 S2 _ s2 r2 (PostE.bindS r2 h2 fun b S3 φ3 H3 vb e3 s3 i3 h3 => ?_)
  cases hS : setD a b d S3 with
  | none => rw [hS] at h3; exact False.elim h3
  | some S4 =>
    rw [hS] at h3
    exact set_is s3 (i2.ext e3) i3 ((i1.ext e2).ext e3) hS fun H' e4 s4 => h3 φ3 H' σ e4 s4 ((r2.ext e3).ext e4)
/-- a built-in type's method by values -/
def DMeth (G : Glb) (X : Cx) (id : String) (g : D → List D → Store → ER) : Prop :=
  ∃ r, MtR X id r ∧ ∀ W φ S H σ dx ds x xs Q, SOk G φ S H → Is G φ H dx x → IsL G φ H ds xs → PostE G W φ H σ (g dx ds S) Q → r x xs H Q
/-- the types of which methods are asked -/
def tyD (T : String) (S : Store) : D → Bool
  | .str _ => T == "str"
  | d => T == "list" && (listD S d).isSome
theorem tyD_is {φ : Fi} {S : Store} {H : Hp} {T : String} {d : D} {v : V} (hK : X.K = G.K) (s : SOk G φ S H) (i : Is G φ H d v) (h : tyD T S d = true) : tyV X.K T v H := by
  have other : (T == "list" && (listD S d).isSome) = true → tyV X.K T v H := fun h => by
    simp only [Bool.and_eq_true, beq_iff_eq] at h
    obtain ⟨ds, e⟩ := Option.isSome_iff_exists.mp h.2
    obtain ⟨a, xs, rfl, r, _⟩ := listD_sq s i e
    exact .inl ⟨h.1, xs, by rw [hK]; exact r⟩
  cases d with
  | str x =>
    cases (show v = _ from i)
    exact beq_iff_eq.mp h
  | _ => exact other h
def eMeth (T : String) (g : D → List D → Store → ER) (o : EM) (f : LM) : EM := fun env S => (o env S).bind fun a S => if tyD T S a then (f env S).bindE fun ds S => g a ds S else .bad
theorem de_meth {T id : String} {name : Str} {g : D → List D → Store → ER} {o : Expr} {fo : EM} {apos cpos : Pos} (pa : PlainAttrs T) (slot : Slot T name id) (hty : typeOf (.builtin id) = pure (.type "method_descriptor")) (hm : DMeth G X id g) (hK : X.K = G.K) (ho : DE G X W o fo) (ha : DA G X W (e :: es) fa)
    (hbase : attributeBase o name X.env (eval o X.env) = eval o X.env := by rfl)
    (hfew : ((backTo cpos (starEach (e :: es) X.env)).all (fun x => !x.1) && (backToKw cpos (keywordEach [] X.env)).all (fun x => x.1.isSome) && decide ((e :: es).length + ([] : List Keyword).length + (if ([] : List Keyword).isEmpty then 0 else 1) < 30)) = true := by rfl)
    (hline : (apos.endLine == cpos.line) = true := by rfl) (hs : starEach (e :: es) X.env = (false, eval e X.env) :: starEach es X.env := by rfl) (hplain : (backTo cpos (starEach es X.env)).any (·.1) = false := by rfl) :
    DE G X W (.Call (.Attribute o name apos) (e :: es) [] cpos) (eMeth T g fo fa) := by
  obtain ⟨r, hr, q⟩ := hm
  obtain ⟨to, po, qo⟩ := ho
  obtain ⟨t, pt, qt⟩ := ha
  refine ⟨_, pe_bm pa slot hty hr po pt hbase hfew hline hs hplain, fun σ H env φ S Q s re h => ?_⟩
  refine qo σ H env φ S _ s re (PostE.bind h fun a S1 φ1 H1 v e1 s1 i1 h1 => ?_)
  split at h1
  · rename_i ht
    refine ⟨tyD_is hK s1 i1 ht, qt σ H1 env φ1 S1 _ s1 (re.ext e1) (PostL.bindE h1 fun ds S2 φ2 H2 vs e2 s2 i2 h2 => ?_)⟩
    exact q W φ2 S2 H2 σ a ds v vs Q s2 (i1.ext e2) i2 h2
  · exact False.elim h1
theorem de_meth0 {T id : String} {name : Str} {g : D → List D → Store → ER} {o : Expr} {fo : EM} {apos cpos : Pos} (pa : PlainAttrs T) (slot : Slot T name id) (hty : typeOf (.builtin id) = pure (.type "method_descriptor")) (hm : DMeth G X id g) (hK : X.K = G.K) (ho : DE G X W o fo)
    (hbase : attributeBase o name X.env (eval o X.env) = eval o X.env := by rfl) (hline : (apos.endLine == cpos.line) = true := by rfl) : DE G X W (.Call (.Attribute o name apos) [] [] cpos) (eMeth T g fo lNil) := by
  obtain ⟨r, hr, q⟩ := hm
  obtain ⟨to, po, qo⟩ := ho
  refine ⟨_, pe_bm0 pa slot hty hr po hbase hline, fun σ H env φ S Q s re h => ?_⟩
  refine qo σ H env φ S _ s re (PostE.bind h fun a S1 φ1 H1 v e1 s1 i1 h1 => ?_)
  split at h1
  · rename_i ht
    exact ⟨tyD_is hK s1 i1 ht, q W φ1 S1 H1 σ a [] v [] Q s1 i1 rfl h1⟩
  · exact False.elim h1
/-- a list's cell changes -/
def cellL (S : Store) (d : D) (g : Nat → List D → ER) : ER := match d with
  | .loc l => match S[l]? with
    | some (.lst ds) => g l ds
    | _ => .bad
  | _ => .bad
theorem cellL_is {φ : Fi} {S : Store} {H : Hp} {σ : L2.St} {d : D} {v : V} {g : Nat → List D → ER} {Q : VK} {P : Prop} (s : SOk G φ S H) (i : Is G φ H d v) (h : PostE G W φ H σ (cellL S d g) Q)
    (k : ∀ l ds a xs, d = .loc l → S[l]? = some (.lst ds) → v = .ref a → φ.c[l]? = some a → H a = some (.lst xs) → IsL G φ H ds xs → PostE G W φ H σ (g l ds) Q → P) : P := by
  cases d with
  | loc l =>
    obtain ⟨a, ha, rfl⟩ := i
    simp only [cellL] at h
    cases hc : S[l]? with
    | none => rw [hc] at h; exact False.elim h
    | some c =>
      rw [hc] at h
      cases c with
      | lst ds =>
        obtain ⟨xs, hx, q⟩ := s.at_ hc ha
        exact k l ds a xs rfl hc rfl ha hx q h
      | _ => exact False.elim h
  | _ => exact False.elim h
theorem cell_put {φ : Fi} {S : Store} {H : Hp} {σ : L2.St} {l : Nat} {a : Addr} {ds : List D} {xs : List V} {d : D} {v : V} {Q : VK} (s : SOk G φ S H) (ha : φ.c[l]? = some a) (q : IsL G φ H ds xs) (i : Is G φ H d v) (h : PostE G W φ H σ (.ok d (S.set l (.lst ds))) Q) : Q v (upd H a (.lst xs)) :=
  have e : Ext φ H φ (upd H a (.lst xs)) := .put (List.mem_of_getElem? ha)
  h φ _ v e (s.put ha ⟨xs, upd_same, q.ext e⟩) (i.ext e)
noncomputable def mAppend (o : D) (ds : List D) (S : Store) : ER := cellL S o fun l xs => match ds with
  | [d] => if sz (xs.length + 1) then .ok .non (S.set l (.lst (xs ++ [d]))) else .bad
  | _ => .bad
theorem dm_append : DMeth G X "list.append" mAppend := by
  refine ⟨_, mt_append, fun W φ S H σ dx ds x xs Q s ix ids h => ?_⟩
  refine cellL_is s ix h fun l es a ys e1 e2 e3 ha hx q h1 => ?_
  subst e1 e3
  match ds, ids, h1 with
  | [d], ids, h1 =>
    obtain ⟨y, rfl, k⟩ := IsL.inv1 ids
    dsimp only at h1
    split at h1
    · rename_i hz
      exact ⟨a, ys, y, rfl, rfl, hx, by rw [← q.length, sizeLine_eq]; exact hz, cell_put s ha (q.append (.one k)) (show Is G φ H .non .non from rfl) h1⟩
    · exact False.elim h1
  | [], _, h1 => exact False.elim h1
  | _ :: _ :: _, _, h1 => exact False.elim h1
def mPop (o : D) (ds : List D) (S : Store) : ER := cellL S o fun l xs => match ds with
  | [] => match xs[xs.length - 1]? with
    | some d => .ok d (S.set l (.lst xs.dropLast))
    | none => .bad
  | _ => .bad
theorem IsL.dropLast {φ : Fi} {H : Hp} : ∀ {ds : List D} {xs : List V}, IsL G φ H ds xs → IsL G φ H ds.dropLast xs.dropLast := fun {ds xs} h => by
  rw [List.dropLast_eq_take, List.dropLast_eq_take, h.length]
  exact h.take _
theorem dm_pop : DMeth G X "list.pop" mPop := by
  refine ⟨_, mt_pop, fun W φ S H σ dx ds x xs Q s ix ids h => ?_⟩
  refine cellL_is s ix h fun l es a ys e1 e2 e3 ha hx q h1 => ?_
  subst e1 e3
  match ds, ids, h1 with
  | [], ids, h1 =>
    cases (show xs = [] from ids)
    dsimp only at h1
    split at h1
    · rename_i d hd
      obtain ⟨y, hy, k⟩ := q.get hd
      exact ⟨a, ys, y, rfl, rfl, hx, by rw [← q.length]; exact hy, cell_put s ha q.dropLast k h1⟩
    · exact False.elim h1
  | _ :: _, _, h1 => exact False.elim h1
end
/-! ### the law's end -/
theorem law_sp {G : Glb} {F : FD} {H : Hp} {a : Addr} {ns : List Int} (hO : Only H) (hS : SqL G.K H a (ns.map V.int)) (h : ∃ S, F [.lst (ns.map .int)] [] = .ok (.bl true) S) :
    spD G 1 F [.ref a] H (fun v _ => v = .bl true) (fun _ _ _ => False) := by
  obtain ⟨S, e⟩ := h
  refine ⟨rfl, ⟨[], []⟩, [], [.lst (ns.map .int)], ⟨rfl, List.nodup_nil, fun _ z => by simp at z, fun _ _ z => by simp at z⟩, ?_, ?_⟩
  · refine .one ⟨a, _, rfl, ?_, IsL.of_ints⟩
    rcases hS with z | z
    · exact .inl ⟨⟨by simp, by simp⟩, z⟩
    · exact .inr z
  · rw [e]
    exact fun φ' H' v _ _ i => i
theorem no_CX {P : Program} {w : World} {H : Hp} {s s' : Shared} {e : Value} (h : L2.CX P w [] H s (fun _ _ _ => False) e s') : False := by
  obtain ⟨_, _, _, _, _, _, _, _, _, _, _, _, z⟩ := h
  exact z
end DL
end
section
/-! D-layer, part 5: isinstance, chains of comparisons, constants of the module. -/
namespace DL
open PySem L2 PySem.Spec PyProof.Rows
section
variable {G : Glb} {X : Cx} {W : WX}
/-! ### isinstance of built-in types -/
inductive Ty where
  | int | bool | str | tuple | list | dict | none
  deriving DecidableEq
def Ty.nm : Ty → String
  | .int => "int" | .bool => "bool" | .str => "str" | .tuple => "tuple" | .list => "list" | .dict => "dict" | .none => "NoneType"
def Ty.isa (a b : Ty) : Bool := decide (a = b) || (decide (a = .bool) && decide (b = .int))
theorem ty_kit (a b : Ty) (h : b ≠ .none) : kitB a.nm b.nm = some (a.isa b) := by
  cases a <;> cases b <;> first | exact absurd rfl h | decide +kernel
def tyOf (S : Store) : D → Option Ty
  | .non => some .none
  | .bl _ => some .bool
  | .int _ => some .int
  | .str _ => some .str
  | .tup _ => some .tuple
  | .lst _ => some .list
  | .dic _ _ => some .dict
  | .obj _ _ _ => none
  | .loc l => match S[l]? with
    | some (.lst _) => some .list
    | some (.dic _) => some .dict
    | _ => none
theorem tyOf_is {φ : Fi} {S : Store} {H : Hp} {d : D} {v : V} {t : Ty} (s : SOk G φ S H) (i : Is G φ H d v) (e : tyOf S d = some t) : TyX G.K H v (.type t.nm) := by
  have lst : ∀ {a : Addr} {xs : List V}, SqL G.K H a xs → TyX G.K H (.ref a) (.type "list") := fun {a xs} r => by
    rcases r with (r | ⟨o, r⟩) | ⟨o, its, n, h1, h2, _⟩
    · exact .base (.lst r)
    · exact .base (.frz r)
    · exact .kList h1 h2
  cases d with
  | non => cases e; cases (show v = _ from i); exact .base .non
  | bl b => cases e; cases (show v = _ from i); exact .base (.bl b)
  | int b => cases e; cases (show v = _ from i); exact .base (.int b)
  | str b => cases e; cases (show v = _ from i); exact .base (.str b)
  | tup ds =>
    cases e
    obtain ⟨a, xs, rfl, r, _⟩ := i
    rcases r with ⟨_, r | ⟨o, r⟩⟩ | ⟨o, its, n, h1, h2, _⟩
    · exact .base (.tup r)
    · exact .fTuple r
    · exact .kTuple h1 h2
  | lst ds =>
    cases e
    obtain ⟨a, xs, rfl, r, _⟩ := i
    exact lst r.seq
  | dic ks ds =>
    cases e
    obtain ⟨a, xs, rfl, ⟨_, r | ⟨o, r⟩⟩, _⟩ := i
    · exact .base (.dK r)
    · exact .fDict r
  | obj c ks ds => cases e
  | loc l =>
    obtain ⟨a, ha, rfl⟩ := i
    simp only [tyOf] at e
    split at e
    · rename_i ds hc
      cases e
      obtain ⟨xs, hx, _⟩ := s.at_ hc ha
      exact .base (.lst hx)
    · rename_i ds hc
      cases e
      obtain ⟨xs, hx, _⟩ := s.at_ hc ha
      exact .base (.dK hx)
    · cases e
def eIsi (b : Ty) (f : EM) : EM := fun env S => (f env S).bind fun d S => match tyOf S d with
  | some a => .ok (.bl (a.isa b)) S
  | none => .bad
theorem de_isi (b : Ty) {x : Str} {e : Expr} {p p2 pos : Pos} {f : EM} (hK : X.K = G.K) (hg : Gl X "isinstance") (hm : X.mg "isinstance" = none) (hgT : Gl X x) (hmT : X.mg x = none) (hvT : bootBuiltins x = some (.type b.nm)) (he : DE G X W e f) (hb : b ≠ .none := by decide) (hn : x ≠ "__name__" := by decide) (hdb : (x == ("__debug__" : Str)) = false := by decide)
    (hst : starEach [e, .Name x p2] X.env = (false, eval e X.env) :: starEach [.Name x p2] X.env := by rfl) (hst2 : starEach [.Name x p2] X.env = (false, eval (.Name x p2) X.env) :: starEach [] X.env := by rfl) (hpl : (backTo pos (starEach [.Name x p2] X.env)).any (·.1) = false := by rfl) :
    DE G X W (.Call (.Name "isinstance" p) [e, .Name x p2] [] pos) (eIsi b f) := by
  obtain ⟨t, pt, qt⟩ := he
  refine ⟨_, pe_callB call_isi hg hm (by decide +kernel) (pa_cons pt (pa_cons (pe_bltn hgT hmT hvT (v := .ty b.nm) rfl hn hdb) pa_nil hst2) hst) (by decide) (by decide) hst hpl, fun σ H env φ S Q s re h => ?_⟩
  refine qt σ H env φ S _ s re (PostE.bind h fun d S1 φ1 H1 v e1 s1 i1 h1 => ?_)
  split at h1
  · rename_i a ha
    exact ⟨v, .ty b.nm, .type a.nm, .type b.nm, a.isa b, rfl, .ty _, by rw [hK]; exact tyOf_is s1 i1 ha, kit_ty (ty_kit a b hb), h1.now s1 rfl⟩
  · exact False.elim h1
/-- isinstance(e, (T1, T2)) -/
def eIsi2 (b c : Ty) (f : EM) : EM := fun env S => (f env S).bind fun d S => match tyOf S d with
  | some a => .ok (.bl (a.isa b || a.isa c)) S
  | none => .bad
theorem de_isi2 (b c : Ty) {x y : Str} {e : Expr} {p p2 p3 p4 pos : Pos} {kt} {f : EM} (hK : X.K = G.K) (hg : Gl X "isinstance") (hm : X.mg "isinstance" = none) (hgT : Gl X x) (hmT : X.mg x = none) (hvT : bootBuiltins x = some (.type b.nm)) (hgU : Gl X y) (hmU : X.mg y = none) (hvU : bootBuiltins y = some (.type c.nm)) (he : DE G X W e f)
    (hb : b ≠ .none := by decide) (hc : c ≠ .none := by decide) (hn : x ≠ "__name__" := by decide) (hdb : (x == ("__debug__" : Str)) = false := by decide) (hn2 : y ≠ "__name__" := by decide) (hdb2 : (y == ("__debug__" : Str)) = false := by decide)
    (hst : starEach [e, .Tuple [.Name x p2, .Name y p3] kt p4] X.env = (false, eval e X.env) :: starEach [.Tuple [.Name x p2, .Name y p3] kt p4] X.env := by rfl)
    (hst2 : starEach [.Tuple [.Name x p2, .Name y p3] kt p4] X.env = (false, eval (.Tuple [.Name x p2, .Name y p3] kt p4) X.env) :: starEach [] X.env := by rfl)
    (hst3 : starEach [.Name x p2, .Name y p3] X.env = (false, eval (.Name x p2) X.env) :: starEach [.Name y p3] X.env := by rfl) (hst4 : starEach [.Name y p3] X.env = (false, eval (.Name y p3) X.env) :: starEach [] X.env := by rfl)
    (hpl : (backTo pos (starEach [.Tuple [.Name x p2, .Name y p3] kt p4] X.env)).any (·.1) = false := by rfl) :
    DE G X W (.Call (.Name "isinstance" p) [e, .Tuple [.Name x p2, .Name y p3] kt p4] [] pos) (eIsi2 b c f) := by
  obtain ⟨t, pt, qt⟩ := he
  refine ⟨_, pe_callB call_isiT hg hm (by decide +kernel) (pa_cons pt (pa_cons (pe_tup (pa_cons (pe_bltn hgT hmT hvT (v := .ty b.nm) rfl hn hdb) (pa_cons (pe_bltn hgU hmU hvU (v := .ty c.nm) rfl hn2 hdb2) pa_nil hst4) hst3)) pa_nil hst2) hst) (by decide) (by decide) hst hpl, fun σ H env φ S Q s re h => ?_⟩
  refine qt σ H env φ S _ s re (PostE.bind h fun d S1 φ1 H1 v e1 s1 i1 h1 => ?_)
  split at h1
  · rename_i a ha
    refine ⟨(by show 2 ≤ sizeLine; rw [sizeLine_eq]; decide), fun q hq => ?_⟩
    have e2 : Ext φ1 H1 φ1 (upd H1 q (.tup [.ty b.nm, .ty c.nm])) := .laid hq
    refine ⟨v, q, [.ty b.nm, .ty c.nm], .type a.nm, [.type b.nm, .type c.nm], a.isa b || a.isa c, rfl, upd_same, .cons (.ty _) (.cons (.ty _) .nil), by rw [hK]; exact tyOf_is (s1.laid hq) (i1.ext e2) ha, ?_, (h1.ext e2).now (s1.laid hq) rfl⟩
    refine kitAny_cons (kit_ty (ty_kit a b hb)) (fun hf => ?_) fun hf => by rw [hf]; rfl
    rw [hf, Bool.false_or]
    refine kitAny_cons (kit_ty (ty_kit a c hc)) (fun hf => by rw [hf]; exact kitAny_nil) fun hf => hf
  · exact False.elim h1

/-! ### a < b < c -/
theorem chain_of {r r' : R2} {g g' : D → D → Store → ER} {ta tb tc : TE} {fa fb fc : EM}
    (hr : ∀ W φ S H σ dx dy x y Q, SOk G φ S H → Is G φ H dx x → Is G φ H dy y → PostE G W φ H σ (g dx dy S) Q → r x y H Q)
    (hr' : ∀ W φ S H σ dx dy x y Q, SOk G φ S H → Is G φ H dx x → Is G φ H dy y → PostE G W φ H σ (g' dx dy S) Q → r' x y H Q)
    (ha : ∀ σ H env φ S Q, SOk G φ S H → RepE G φ H σ env → PostE G W φ H σ (fa env S) Q → ta σ H Q)
    (hb : ∀ σ H env φ S Q, SOk G φ S H → RepE G φ H σ env → PostE G W φ H σ (fb env S) Q → tb σ H Q)
    (hc : ∀ σ H env φ S Q, SOk G φ S H → RepE G φ H σ env → PostE G W φ H σ (fc env S) Q → tc σ H Q) :
    ∀ σ H env φ S Q, SOk G φ S H → RepE G φ H σ env → PostE G W φ H σ (eChain g g' fa fb fc env S) Q → tChain r r' ta tb tc σ H Q := fun σ H env φ S Q s re h => by
  refine ha σ H env φ S _ s re (PostE.bind h fun d S1 φ1 H1 v e1 s1 i1 h1 => ?_)
  refine hb σ H1 env φ1 S1 _ s1 (re.ext e1) (PostE.bind h1 fun d2 S2 φ2 H2 v2 e2 s2 i2 h2 => ?_)
  refine hr W φ2 S2 H2 σ d d2 v v2 _ s2 (i1.ext e2) i2 (PostE.bind h2 fun z S3 φ3 H3 vz e3 s3 i3 h3 => ?_)
  cases z with
  | bl k =>
    refine ⟨k, i3, ?_⟩
    cases k with
    | true =>
      refine iteT (hc σ H3 env φ3 S3 _ s3 ((re.ext e1).ext (e2.trans e3)) (PostE.bind h3 fun d4 S4 φ4 H4 v4 e4 s4 i4 h4 => ?_))
      exact hr' W φ4 S4 H4 σ d2 d4 v2 v4 Q s4 (i2.ext (e3.trans e4)) i4 h4
    | false => exact iteF (h3.now s3 rfl)
  | _ => exact False.elim h3
theorem de_chain {op op' : CmpOp} {a b c : Expr} {pos : Pos} {g g' : D → D → Store → ER} {fa fb fc : EM} (ho : DOp G X (compareOp op) g) (ho' : DOp G X (compareOp op') g') (ha : DE G X W a fa) (hb : DE G X W b fb) (hc : DE G X W c fc)
    (h1 : lastMarks [op, op'] [b, c] = false := by rfl) : DE G X W (.Compare a [op, op'] [b, c] pos) (eChain g g' fa fb fc) := by
  obtain ⟨r, hr, q⟩ := ho
  obtain ⟨r', hr', q'⟩ := ho'
  obtain ⟨ta, pa, qa⟩ := ha
  obtain ⟨tb, pb, qb⟩ := hb
  obtain ⟨tc, pc, qc⟩ := hc
  exact ⟨_, pe_chain hr hr' pa pb pc h1, chain_of q q' qa qb qc⟩
theorem dt_chain {op op' : CmpOp} {a b c : Expr} {pos : Pos} {g g' : D → D → Store → ER} {fa fb fc : EM} (ho : DOp G X (compareOp op) g) (ho' : DOp G X (compareOp op') g') (ha : DE G X W a fa) (hb : DE G X W b fb) (hc : DE G X W c fc)
    (h1 : lastMarks [op, op'] [b, c] = false := by rfl) : DT G X W (.Compare a [op, op'] [b, c] pos) (eChain g g' fa fb fc) := by
  obtain ⟨r, hr, q⟩ := ho
  obtain ⟨r', hr', q'⟩ := ho'
  obtain ⟨ta, pa, qa⟩ := ha
  obtain ⟨tb, pb, qb⟩ := hb
  obtain ⟨tc, pc, qc⟩ := hc
  refine ⟨_, pt_chain hr hr' pa pb pc h1, fun σ H env φ S Q s re h => ?_⟩
  exact chain_of q q' qa qb qc σ H env φ S _ s re h.of

/-! ### what is never reached; constants of the module -/
theorem ds_never {st : Stmt} : DS G X W st (fun _ _ => .bad) := ⟨_, ps_never, fun _ _ _ _ _ _ _ _ h => False.elim h⟩
theorem de_gInt {x : Str} {i : Int} {pos : Pos} (h : ∃ t, X.mg x = some (.int i t)) (hg : Gl X x) (hd : (x == ("__debug__" : Str)) = false := by decide) : DE G X W (.Name x pos) (eC (.int i)) :=
  let ⟨t, e⟩ := h; de_glob hg e (v := .int i) ⟨t, rfl⟩ (fun _ _ => rfl) hd
theorem de_gStr {x z : Str} {pos : Pos} (h : ∃ t, X.mg x = some (.str z t)) (hg : Gl X x) (hd : (x == ("__debug__" : Str)) = false := by decide) : DE G X W (.Name x pos) (eC (.str z)) :=
  let ⟨t, e⟩ := h; de_glob hg e (v := .str z) ⟨t, rfl⟩ (fun _ _ => rfl) hd
end

/-! ### slices -/
section
variable {G : Glb} {X : Cx} {W : WX}
inductive OR where
  | ok (o : Option Int) (S : Store)
  | ex (x : Exc) (S : Store)
  | bad
abbrev OM := EnvD → Store → OR
def OR.bindE (r : OR) (g : Option Int → Store → ER) : ER := match r with
  | .ok d S => g d S
  | .ex x S => .ex x S
  | .bad => .bad
def PostO (G : Glb) (W : WX) (φ : Fi) (H : Hp) (σ : L2.St) (r : OR) (Q : Option Int → Hp → Prop) : Prop := match r with
  | .ok d S => ∀ φ' H', Ext φ H φ' H' → SOk G φ' S H' → Q d H'
  | .ex x S => ∀ φ' H' cls dx, Ext φ H φ' H' → SOk G φ' S H' → IsX G φ' H' x cls dx → W cls dx σ H'
  | .bad => False
def DO (G : Glb) (X : Cx) (W : WX) (e : Option Expr) (f : OM) : Prop :=
  ∃ t, PO X e t ∧ ∀ σ H env φ S Q, SOk G φ S H → RepE G φ H σ env → PostO G W φ H σ (f env S) Q → t σ H Q
def oNone : OM := fun _ S => .ok none S
def oSome (f : EM) : OM := fun env S => match f env S with
  | .ok (.int i) S => .ok (some i) S
  | .ex x S => .ex x S
  | _ => .bad
theorem do_none : DO G X W none oNone := ⟨_, po_none, fun σ H env φ S Q s re h => h φ H .refl s⟩
theorem do_some {e : Expr} {f : EM} (h : DE G X W e f) : DO G X W (some e) (oSome f) := by
  obtain ⟨t, p, q⟩ := h
  refine ⟨_, po_some p, fun σ H env φ S Q s re h => ?_⟩
  refine q σ H env φ S _ s re ?_
  unfold oSome at h
  cases hr : f env S with
  | ok d S1 =>
    rw [hr] at h
    cases d with
    | int i => exact fun φ1 H1 v e1 s1 i1 => ⟨i, i1, h φ1 H1 e1 s1⟩
    | _ => exact False.elim h
  | ex x S1 => rw [hr] at h; exact h
  | bad => rw [hr] at h; exact False.elim h
theorem PostO.bindE {φ : Fi} {H : Hp} {σ : L2.St} {r : OR} {g : Option Int → Store → ER} {Q : VK} {Q' : Option Int → Hp → Prop} (h : PostE G W φ H σ (r.bindE g) Q)
    (k : ∀ d S φ' H', Ext φ H φ' H' → SOk G φ' S H' → PostE G W φ' H' σ (g d S) Q → Q' d H') : PostO G W φ H σ r Q' := by
  cases r with
  | ok d S => exact fun φ2 H2 e s => k d S φ2 H2 e s (PostE.ext (r := g d S) e h)
  | ex x S => exact h
  | bad => exact h
def cutD {α : Type} (xs : List α) (lo hi : Option Int) : List α := (xs.drop (HT.sIx xs.length 0 lo)).take (HT.sIx xs.length xs.length hi - HT.sIx xs.length 0 lo)
theorem IsL.cut {φ : Fi} {H : Hp} {ds : List D} {xs : List V} (h : IsL G φ H ds xs) (lo hi : Option Int) : IsL G φ H (cutD ds lo hi) (cutV xs lo hi) := by
  unfold cutD cutV
  rw [h.length]
  exact (h.drop _).take _
def slD (x : D) (lo hi : Option Int) (S : Store) : ER := match x with
  | .tup ds => .ok (.tup (cutD ds lo hi)) S
  | x => match listD S x with
    | some ds => .ok (.lst (cutD ds lo hi)) S
    | none => .bad
def eSlice (f : EM) (lo hi : OM) : EM := fun env S => (f env S).bind fun x S => (lo env S).bindE fun l S => (hi env S).bindE fun u S => slD x l u S
theorem cut_whole {α : Type} {xs : List α} {lo hi : Option Int} (h : HT.sIx xs.length 0 lo = 0 ∧ HT.sIx xs.length xs.length hi = xs.length) : cutD xs lo hi = xs := by
  unfold cutD
  rw [h.1, h.2]; simp
theorem de_slice {e : Expr} {lo hi : Option Expr} {p2 pos : Pos} {f : EM} {fl fh : OM} (hK : X.K = G.K) (he : DE G X W e f) (hl : DO G X W lo fl) (hh : DO G X W hi fh) : DE G X W (.Subscript e (.Slice lo hi none p2) pos) (eSlice f fl fh) := by
  obtain ⟨t, p, q⟩ := he
  obtain ⟨tl, pl, ql⟩ := hl
  obtain ⟨th, ph, qh⟩ := hh
  refine ⟨_, pe_slice (sl_list.or sl_tupA) p pl ph, fun σ H env φ S Q s re h => ?_⟩
  refine q σ H env φ S _ s re (PostE.bind h fun x S1 φ1 H1 v e1 s1 i1 h1 => ?_)
  refine ql σ H1 env φ1 S1 _ s1 (re.ext e1) (PostO.bindE h1 fun l S2 φ2 H2 e2 s2 h2 => ?_)
  refine qh σ H2 env φ2 S2 _ s2 ((re.ext e1).ext e2) (PostO.bindE h2 fun u S3 φ3 H3 e3 s3 h3 => ?_)
  have i3 := (i1.ext e2).ext e3
  unfold slD at h3
  split at h3
  · rename_i ds
    obtain ⟨a, xs, rfl, r, il⟩ := i3
    refine .inr ⟨a, xs, rfl, by rw [hK]; exact r.seq, fun hw => ?_, fun _ p hp => tup_new s3 (il.cut l u) h3 hp⟩
    rw [← il.length] at hw
    rw [cut_whole hw] at h3
    exact h3.now s3 ⟨a, xs, rfl, r, il⟩
  · split at h3
    · rename_i ds e
      obtain ⟨a, xs, rfl, r, il⟩ := listD_sq s3 i3 e
      exact .inl ⟨a, xs, rfl, by rw [hK]; exact r, fun p hp => lst_new s3 (il.cut l u) h3 hp⟩
    · exact False.elim h3
end
end DL
end
section
/-! D-layer, part 6: how the values are reckoned (by simp). -/
namespace DL
open PySem L2
section
variable {d : D} {S : Store} {x : Exc} {e env : EnvD} {i j : Int}
@[simp] theorem ER.bind_ok {g : D → Store → ER} : (ER.ok d S).bind g = g d S := rfl
@[simp] theorem ER.bind_ex {g : D → Store → ER} : (ER.ex x S).bind g = .ex x S := rfl
@[simp] theorem ER.bind_bad {g : D → Store → ER} : ER.bad.bind g = .bad := rfl
@[simp] theorem ER.bindL_ok {g : D → Store → LR} : (ER.ok d S).bindL g = g d S := rfl
@[simp] theorem ER.bindL_ex {g : D → Store → LR} : (ER.ex x S).bindL g = .ex x S := rfl
@[simp] theorem ER.bindL_bad {g : D → Store → LR} : ER.bad.bindL g = .bad := rfl
@[simp] theorem LR.bind_ok {ds : List D} {g : List D → Store → LR} : (LR.ok ds S).bind g = g ds S := rfl
@[simp] theorem LR.bind_ex {g : List D → Store → LR} : (LR.ex x S).bind g = .ex x S := rfl
@[simp] theorem LR.bind_bad {g : List D → Store → LR} : LR.bad.bind g = .bad := rfl
@[simp] theorem LR.bindE_ok {ds : List D} {g : List D → Store → ER} : (LR.ok ds S).bindE g = g ds S := rfl
@[simp] theorem LR.bindE_ex {g : List D → Store → ER} : (LR.ex x S).bindE g = .ex x S := rfl
@[simp] theorem LR.bindE_bad {g : List D → Store → ER} : LR.bad.bindE g = .bad := rfl
@[simp] theorem ER.bindS_ok {g : D → Store → SR} : (ER.ok d S).bindS e g = g d S := rfl
@[simp] theorem ER.bindS_ex {g : D → Store → SR} : (ER.ex x S).bindS e g = .ex x e S := rfl
@[simp] theorem ER.bindS_bad {g : D → Store → SR} : ER.bad.bindS e g = .bad := rfl
@[simp] theorem LR.bindS_ok {ds : List D} {g : List D → Store → SR} : (LR.ok ds S).bindS e g = g ds S := rfl
@[simp] theorem LR.bindS_ex {g : List D → Store → SR} : (LR.ex x S).bindS e g = .ex x e S := rfl
@[simp] theorem LR.bindS_bad {g : List D → Store → SR} : LR.bad.bindS e g = .bad := rfl
@[simp] theorem OR.bindE_ok {o : Option Int} {g : Option Int → Store → ER} : (OR.ok o S).bindE g = g o S := rfl
@[simp] theorem SR.seq_nx {g : EnvD → Store → SR} : (SR.nx e S).seq g = g e S := rfl
@[simp] theorem SR.seq_rt {g : EnvD → Store → SR} : (SR.rt d S).seq g = .rt d S := rfl
@[simp] theorem SR.seq_bk {g : EnvD → Store → SR} : (SR.bk e S).seq g = .bk e S := rfl
@[simp] theorem SR.seq_ct {g : EnvD → Store → SR} : (SR.ct e S).seq g = .ct e S := rfl
@[simp] theorem SR.seq_ex {g : EnvD → Store → SR} : (SR.ex x e S).seq g = .ex x e S := rfl
@[simp] theorem SR.seq_bad {g : EnvD → Store → SR} : SR.bad.seq g = .bad := rfl
@[simp] theorem eVar_at {i : Nat} (h : env[i]? = some (some d)) : eVar i env S = .ok d S := by unfold eVar; rw [h]
@[simp] theorem eC_is : eC d env S = .ok d S := rfl
@[simp] theorem lNil_is : lNil env S = .ok [] S := rfl
@[simp] theorem lCons_is {f : EM} {g : LM} : lCons f g env S = (f env S).bindL fun d S => (g env S).bind fun ds S => .ok (d :: ds) S := rfl
@[simp] theorem eOp_is {g : D → D → Store → ER} {a b : EM} : eOp g a b env S = (a env S).bind fun x S => (b env S).bind fun y S => g x y S := rfl
@[simp] theorem eCall_is {F : FD} {f : LM} : eCall F f env S = (f env S).bindE F := rfl
@[simp] theorem eCallB_is {g : List D → Store → ER} {f : LM} : eCallB g f env S = (f env S).bindE g := rfl
@[simp] theorem eTup_is {f : LM} : eTup f env S = (f env S).bindE fun ds S => if sz ds.length then .ok (.tup ds) S else .bad := rfl
@[simp] theorem eLst_is {f : LM} : eLst f env S = (f env S).bindE fun ds S => if sz ds.length then .ok (.lst ds) S else .bad := rfl
@[simp] theorem eLstM_is {f : LM} : eLstM f env S = (f env S).bindE fun ds S => if sz ds.length then .ok (.loc S.length) (S ++ [.lst ds]) else .bad := rfl
@[simp] theorem eAnd_is {a b : EM} : eAnd a b env S = (a env S).bind fun d S => match d with | .bl true => b env S | .bl false => .ok (.bl false) S | _ => .bad := rfl
@[simp] theorem eOr_is {a b : EM} : eOr a b env S = (a env S).bind fun d S => match d with | .bl true => .ok (.bl true) S | .bl false => b env S | _ => .bad := rfl
@[simp] theorem eNot_is {a : EM} : eNot a env S = (a env S).bind fun d S => match d with | .bl b => .ok (.bl (!b)) S | _ => .bad := rfl
@[simp] theorem eIf_is {c a b : EM} : eIf c a b env S = (c env S).bind fun d S => match d with | .bl true => a env S | .bl false => b env S | _ => .bad := rfl
@[simp] theorem eNeg_is {a : EM} : eNeg a env S = (a env S).bind fun d S => match d with | .int i => .ok (.int (-i)) S | _ => .bad := rfl
@[simp] theorem eChain_is {g g' : D → D → Store → ER} {a b c : EM} : eChain g g' a b c env S = (a env S).bind fun x S => (b env S).bind fun y S => (g x y S).bind fun z S => match z with
  | .bl true => (c env S).bind fun w S => g' y w S
  | .bl false => .ok (.bl false) S
  | _ => .bad := rfl
@[simp] theorem sSkip_is : sSkip e S = .nx e S := rfl
@[simp] theorem sBk_is : sBk e S = .bk e S := rfl
@[simp] theorem sCt_is : sCt e S = .ct e S := rfl
@[simp] theorem sSeq_is {a b : SM} : sSeq a b e S = (a e S).seq b := rfl
@[simp] theorem sRet_is {f : EM} : sRet f e S = (f e S).bindS e fun d S => .rt d S := rfl
@[simp] theorem sRetN_is : sRetN e S = .rt .non S := rfl
@[simp] theorem sDrop_is {f : EM} : sDrop f e S = (f e S).bindS e fun _ S => .nx e S := rfl
@[simp] theorem sIf_is {c : EM} {a b : SM} : sIf c a b e S = (c e S).bindS e fun d S => match d with | .bl true => a e S | .bl false => b e S | _ => .bad := rfl
@[simp] theorem sAsg_is {f : EM} {b : D → EnvD → Option EnvD} : sAsg f b e S = (f e S).bindS e fun d S => match b d e with | some e' => .nx e' S | none => .bad := rfl
@[simp] theorem sPar_is {i j : Nat} {f : LM} : sPar i j f e S = (f e S).bindS e fun ds S => match ds with | [a, b] => .nx ((e.set i (some a)).set j (some b)) S | _ => .bad := rfl
@[simp] theorem sPar3_is {i j l : Nat} {f : LM} : sPar3 i j l f e S = (f e S).bindS e fun ds S => match ds with | [a, b, c] => .nx (((e.set i (some a)).set j (some b)).set l (some c)) S | _ => .bad := rfl
@[simp] theorem sAug_is {i : Nat} {g : D → D → Store → ER} {f : EM} : sAug i g f e S = (eOp g (eVar i) f e S).bindS e fun d S => .nx (e.set i (some d)) S := rfl
@[simp] theorem sFor_is {f : LM} {b : D → EnvD → Option EnvD} {body : SM} : sFor f b body e S = (f e S).bindS e fun ds S => forD b body ds e S := rfl
@[simp] theorem sPutL_is {o i f : EM} : sPutL o i f env S = (f env S).bindS env fun d S => (o env S).bindS env fun a S => (i env S).bindS env fun b S => match setD a b d S with
  | some S' => .nx env S'
  | none => .bad := rfl
@[simp] theorem bName_is {i : Nat} : bName i d env = some (env.set i (some d)) := rfl
@[simp] theorem bTup_is {b : List D → EnvD → Option EnvD} {ds : List D} : bTup b (.tup ds) env = b ds env := rfl
@[simp] theorem bNil_is : bNil [] env = some env := rfl
@[simp] theorem bCons_is {b : D → EnvD → Option EnvD} {c : List D → EnvD → Option EnvD} {ds : List D} : bCons b c (d :: ds) env = (b d env).bind (c ds) := rfl
@[simp] theorem forD_nil {b : D → EnvD → Option EnvD} {body : SM} : forD b body [] e S = .nx e S := rfl
@[simp] theorem iSeq_is {f : EM} : iSeq f env S = (f env S).bindL fun d S => match d with
  | .lst ds => .ok ds S
  | .tup ds => .ok ds S
  | _ => .bad := rfl
@[simp] theorem iRange1_is {f : LM} : iRange1 f env S = (f env S).bind fun ds S => match ds with
  | [.int j] => if rOk j then .ok (rangeD 0 j.toNat) S else .bad
  | _ => .bad := rfl
@[simp] theorem iRange2_is {f : LM} : iRange2 f env S = (f env S).bind fun ds S => match ds with
  | [.int i, .int j] => if rOk i ∧ rOk j then .ok (rangeD i (j - i).toNat) S else .bad
  | _ => .bad := rfl
theorem rOk_n {n : Nat} (h : n ≤ 1000000000) : rOk (n : Int) := ⟨by omega, by omega⟩
theorem rOk_i {n : Int} (h0 : -1000000000 ≤ n) (h : n ≤ 1000000000) : rOk n := ⟨by omega, by omega⟩
@[simp] theorem iEnumD_is {f : LM} : iEnumD f env S = (f env S).bind fun ds S => match ds with
  | [.lst ds] => .ok (enumD 0 ds) S
  | _ => .bad := rfl
@[simp] theorem iZipD_is {f : LM} : iZipD f env S = (f env S).bind fun ds S => match ds with
  | [.lst ds, .lst es] => .ok (zipD ds es) S
  | _ => .bad := rfl
@[simp] theorem eLc_is {f : LM} {b : D → EnvD → Option EnvD} {tt elt : EM} {vs : List Nat} : eLc f b tt elt vs env S = (f env S).bindE fun ds S => (lcD b tt elt (wipeD env vs) [] ds S).bindE fun ys S => .ok (.lst ys) S := rfl
@[simp] theorem eLcM_is {f : LM} {b : D → EnvD → Option EnvD} {tt elt : EM} {vs : List Nat} : eLcM f b tt elt vs env S = (f env S).bindE fun ds S => (lcD b tt elt (wipeD env vs) [] ds S).bindE fun ys S => .ok (.loc S.length) (S ++ [.lst ys]) := rfl
@[simp] theorem eYes_is : eYes env S = .ok (.bl true) S := rfl
@[simp] theorem wipeD_nil : wipeD env [] = env := rfl
@[simp] theorem wipeD_cons {v : Nat} {vs : List Nat} : wipeD env (v :: vs) = (wipeD env vs).set v none := rfl
@[simp] theorem lcD_nil {b : D → EnvD → Option EnvD} {tt elt : EM} {acc : List D} : lcD b tt elt env acc [] S = .ok acc S := rfl
/-! operators on known values -/
@[simp] theorem opAdd_ii : opAdd (.int i) (.int j) S = .ok (.int (i + j)) S := rfl
@[simp] theorem opAdd_tt {a b : List D} : opAdd (.tup a) (.tup b) S = if sz (a.length + b.length) then .ok (.tup (a ++ b)) S else .bad := rfl
@[simp] theorem opAdd_ll {a b : List D} : opAdd (.lst a) (.lst b) S = if sz (a.length + b.length) then .ok (.lst (a ++ b)) S else .bad := rfl
@[simp] theorem opAdd_ss {a b : Str} : opAdd (.str a) (.str b) S = if sz (a.length + b.length) then .ok (.str (a ++ b)) S else .bad := rfl
@[simp] theorem opSub_ii : opSub (.int i) (.int j) S = .ok (.int (i - j)) S := rfl
@[simp] theorem opMul_ii : opMul (.int i) (.int j) S = if mulOk i j then .ok (.int (i * j)) S else .bad := rfl
@[simp] theorem sz_is {n : Nat} (h : n ≤ 16777216) : sz n := h
@[simp] theorem mulOk_l (h : i.natAbs < 18446744073709551616) : mulOk i j := .inl h
@[simp] theorem mulOk_r (h : j.natAbs < 18446744073709551616) : mulOk i j := .inr (.inl h)
theorem mulOk_w {a b : Nat} (ha : i.natAbs < 2 ^ a) (hb : j.natAbs < 2 ^ b) (h0 : 0 < a) (h1 : 0 < b) (h : a + b ≤ 1000000) : mulOk i j := .inr (.inr (wide_mul ha hb h0 h1 h))
@[simp] theorem divOk_s (h0 : 0 < j) (h : j < 1073741824) : divOk j := ⟨h0, .inl h⟩
theorem divOk_w (h0 : 0 < j) (h : j.natAbs.log2 < 9000) : divOk j := ⟨h0, .inr h⟩
@[simp] theorem powOk_is (h0 : 0 ≤ j) (h : j ≤ 1000000) (h2 : i.natAbs < 18446744073709551616) : powOk i j := ⟨h0, h, h2⟩
@[simp] theorem mulSOk_l (h : i.natAbs < 18446744073709551616) : mulSOk i j := .inl h
@[simp] theorem mulSOk_r (h : j.natAbs < 18446744073709551616) : mulSOk i j := .inr h
@[simp] theorem opMod_ii : opMod (.int i) (.int j) S = if 0 < j then .ok (.int (i % j)) S else .bad := rfl
@[simp] theorem opFdiv_ii : opFdiv (.int i) (.int j) S = if divOk j then .ok (.int (i / j)) S else .bad := rfl
@[simp] theorem opPow_ii : opPow (.int i) (.int j) S = if powOk i j then .ok (.int (i ^ j.toNat)) S else .bad := rfl
@[simp] theorem opMulS_ii : opMulS (.int i) (.int j) S = if mulSOk i j then .ok (.int (i * j)) S else .bad := rfl
@[simp] theorem opAddI_ii : opAddI (.int i) (.int j) S = .ok (.int (i + j)) S := rfl
@[simp] theorem opLt_ii : opLt (.int i) (.int j) S = .ok (.bl (decide (i < j))) S := rfl
@[simp] theorem opLe_ii : opLe (.int i) (.int j) S = .ok (.bl (decide (i ≤ j))) S := rfl
@[simp] theorem opGt_ii : opGt (.int i) (.int j) S = .ok (.bl (decide (j < i))) S := rfl
@[simp] theorem opGe_ii : opGe (.int i) (.int j) S = .ok (.bl (decide (j ≤ i))) S := rfl
theorem shaped_int (i : Int) : SeqAt.shaped (.int i) = true := rfl
theorem shaped_bool (i : Bool) : SeqAt.shaped (.bool i) = true := rfl
theorem shaped_none : SeqAt.shaped .none = true := rfl
@[simp] theorem opEq_ii : opEq (.int i) (.int j) S = .ok (.bl (decide (i = j))) S := by
  unfold opEq opEqB
  simp only [D.pyO, D.py, shaped_int, Bool.and_self, if_true]
  show ER.ok (.bl (i == j)) S = _
  rw [Bool.beq_eq_decide_eq]
@[simp] theorem opNe_ii : opNe (.int i) (.int j) S = .ok (.bl (!decide (i = j))) S := by
  unfold opNe opEqB
  simp only [D.pyO, D.py, shaped_int, Bool.and_self, if_true]
  show ER.ok (.bl (!(i == j))) S = _
  rw [Bool.beq_eq_decide_eq]
@[simp] theorem opEq_ss {a b : Str} : opEq (.str a) (.str b) S = .ok (.bl (decide (a = b))) S := rfl
@[simp] theorem opNe_ss {a b : Str} : opNe (.str a) (.str b) S = .ok (.bl (!decide (a = b))) S := rfl
@[simp] theorem opEq_bb {a b : Bool} : opEq (.bl a) (.bl b) S = .ok (.bl (a == b)) S := rfl
@[simp] theorem opNe_bb {a b : Bool} : opNe (.bl a) (.bl b) S = .ok (.bl (!(a == b))) S := rfl
@[simp] theorem opIsN_non : opIsN d .non S = .ok (.bl d.isN) S := rfl
@[simp] theorem opNotN_non : opNotN d .non S = .ok (.bl (!d.isN)) S := rfl
@[simp] theorem isN_non : D.isN .non = true := rfl
@[simp] theorem isN_int : D.isN (.int i) = false := rfl
@[simp] theorem isN_str {z : Str} : D.isN (.str z) = false := rfl
@[simp] theorem isN_bl {b : Bool} : D.isN (.bl b) = false := rfl
@[simp] theorem isN_tup {ds : List D} : D.isN (.tup ds) = false := rfl
@[simp] theorem isN_lst {ds : List D} : D.isN (.lst ds) = false := rfl
@[simp] theorem isN_loc {l : Nat} : D.isN (.loc l) = false := rfl
@[simp] theorem isN_dic {ks ds} : D.isN (.dic ks ds) = false := rfl
@[simp] theorem isN_obj {c ks ds} : D.isN (.obj c ks ds) = false := rfl
@[simp] theorem atI_0 {α : Type} {a : α} {r : List α} : atI (a :: r) 0 = some a := by simp [atI, ixN]
@[simp] theorem atI_1 {α : Type} {a b : α} {r : List α} : atI (a :: b :: r) 1 = some b := by
  have : (1 : Int) < (r.length : Int) + 1 + 1 := by omega
  simp [atI, ixN, this]
@[simp] theorem atI_2 {α : Type} {a b c : α} {r : List α} : atI (a :: b :: c :: r) 2 = some c := by
  have : (2 : Int) < (r.length : Int) + 1 + 1 + 1 := by omega
  simp [atI, ixN, this]
@[simp] theorem opIx_ti {ds : List D} : opIx (.tup ds) (.int i) S = match atI ds i with | some d => .ok d S | none => .bad := rfl
@[simp] theorem opIx_li {ds : List D} : opIx (.lst ds) (.int i) S = match atI ds i with | some d => .ok d S | none => .bad := rfl
/-- a cell, by a name of its own -/
def cel (S : Store) (l : Nat) : Option Cell := S[l]?
theorem cel_lt {l : Nat} {c : Cell} (h : cel S l = some c) : l < S.length := (List.getElem?_eq_some_iff.mp h).1
@[simp] theorem cel_set_same {l : Nat} {c : Cell} (h : (cel S l).isSome = true) : cel (S.set l c) l = some c := by
  obtain ⟨c0, e⟩ := Option.isSome_iff_exists.mp h
  exact List.getElem?_set_self (cel_lt e)
@[simp] theorem cel_set_ne {l m : Nat} {c : Cell} (h : l ≠ m) : cel (S.set l c) m = cel S m := List.getElem?_set_ne h
@[simp] theorem cel_last {c : Cell} : cel (S ++ [c]) S.length = some c := by simp [cel]
theorem cel_app {T : Store} {l : Nat} {c : Cell} (h : cel S l = some c) : cel (S ++ T) l = some c := by
  have := cel_lt h
  unfold cel at h ⊢
  rw [List.getElem?_append_left this]; exact h
@[simp] theorem opIx_c {l : Nat} : opIx (.loc l) (.int i) S = match cel S l with
  | some (.lst ds) => (match atI ds i with | some d => .ok d S | none => .bad)
  | _ => .bad := by
  simp only [opIx, listD, cel]
  cases S[l]? with
  | none => rfl
  | some c => cases c <;> first | rfl | (rename_i ds; cases atI ds i <;> rfl)
@[simp] theorem bLen_t {ds : List D} : bLen [.tup ds] S = .ok (.int ds.length) S := rfl
@[simp] theorem bLen_l {ds : List D} : bLen [.lst ds] S = .ok (.int ds.length) S := rfl
@[simp] theorem bLen_c {l : Nat} : bLen [.loc l] S = match cel S l with | some (.lst ds) => .ok (.int ds.length) S | _ => .bad := by
  simp only [bLen, seqD, listD, cel]
  cases S[l]? with
  | none => rfl
  | some c => cases c <;> rfl
@[simp] theorem bLen_s {z : Str} : bLen [.str z] S = if sz z.length then .ok (.int z.length) S else .bad := rfl
@[simp] theorem bII_is {g : Int → Int → Int} : bII g [.int i, .int j] S = .ok (.int (g i j)) S := rfl
@[simp] theorem bAbs_is : bAbs [.int i] S = .ok (.int (if i < 0 then -i else i)) S := rfl
@[simp] theorem bInt_i : bInt [.int i] S = .ok (.int i) S := rfl
@[simp] theorem bInt_b {b : Bool} : bInt [.bl b] S = .ok (.int (if b then 1 else 0)) S := rfl
@[simp] theorem bList_l {ds : List D} : bList [.lst ds] S = .ok (.lst ds) S := rfl
@[simp] theorem bList_t {ds : List D} : bList [.tup ds] S = .ok (.lst ds) S := rfl
@[simp] theorem bTuple_l {ds : List D} : bTuple [.lst ds] S = .ok (.tup ds) S := rfl
@[simp] theorem bTuple_t {ds : List D} : bTuple [.tup ds] S = .ok (.tup ds) S := rfl
@[simp] theorem bAll_is {bs : List Bool} : bAll [.lst (bs.map .bl)] S = .ok (.bl (bs.all id)) S := by simp [bAll, listD, blsD_map]
@[simp] theorem bAny_is {bs : List Bool} : bAny [.lst (bs.map .bl)] S = .ok (.bl (bs.any id)) S := by simp [bAny, listD, blsD_map]
@[simp] theorem bSum_is {ns : List Int} : bSum [.lst (ns.map .int)] S = .ok (.int ns.sum) S := by simp [bSum, listD, intsD_map]
@[simp] theorem oNone_is : oNone env S = .ok none S := rfl
@[simp] theorem oSome_is {f : EM} (h : f env S = .ok (.int i) S) : oSome f env S = .ok (some i) S := by unfold oSome; rw [h]
@[simp] theorem eSlice_is {f : EM} {lo hi : OM} : eSlice f lo hi env S = (f env S).bind fun x S => (lo env S).bindE fun l S => (hi env S).bindE fun u S => slD x l u S := rfl
@[simp] theorem slD_l {ds : List D} {a b : Option Int} : slD (.lst ds) a b S = .ok (.lst (cutD ds a b)) S := rfl
@[simp] theorem slD_t {ds : List D} {a b : Option Int} : slD (.tup ds) a b S = .ok (.tup (cutD ds a b)) S := rfl
@[simp] theorem eIsi_is {b : Ty} {f : EM} : eIsi b f env S = (f env S).bind fun d S => match tyOf S d with | some a => .ok (.bl (a.isa b)) S | none => .bad := rfl
@[simp] theorem eIsi2_is {b c : Ty} {f : EM} : eIsi2 b c f env S = (f env S).bind fun d S => match tyOf S d with | some a => .ok (.bl (a.isa b || a.isa c)) S | none => .bad := rfl
@[simp] theorem tyOf_int : tyOf S (.int i) = some .int := rfl
@[simp] theorem tyOf_bl {b : Bool} : tyOf S (.bl b) = some .bool := rfl
@[simp] theorem tyOf_str {z : Str} : tyOf S (.str z) = some .str := rfl
@[simp] theorem tyOf_non : tyOf S .non = some .none := rfl
@[simp] theorem tyOf_tup {ds : List D} : tyOf S (.tup ds) = some .tuple := rfl
@[simp] theorem tyOf_lst {ds : List D} : tyOf S (.lst ds) = some .list := rfl
@[simp] theorem tyOf_dic {ks ds} : tyOf S (.dic ks ds) = some .dict := rfl
@[simp] theorem setD_is {l : Nat} : setD (.loc l) (.int i) d S = match cel S l with | some (.lst ds) => (putIx i ds d).map fun es => S.set l (.lst es) | _ => none := rfl
@[simp] theorem putIx_0 {a : D} {r : List D} : putIx 0 (a :: r) d = some (d :: r) := by simp [putIx, ixN]
@[simp] theorem putIx_1 {a b : D} {r : List D} : putIx 1 (a :: b :: r) d = some (a :: d :: r) := by
  have : (1 : Int) < (r.length : Int) + 1 + 1 := by omega
  simp [putIx, ixN, this]
@[simp] theorem putIx_2 {a b c : D} {r : List D} : putIx 2 (a :: b :: c :: r) d = some (a :: b :: d :: r) := by
  have : (2 : Int) < (r.length : Int) + 1 + 1 + 1 := by omega
  simp [putIx, ixN, this]
@[simp] theorem fnF_is {m : Mode} {n : Nat} {g : SM} {ds : List D} : fnF m n g ds S = match g (startD n ds) S with
  | .nx _ S1 => exitD m S .non S1
  | .rt d S1 => exitD m S d S1
  | .ex x _ S1 => .ex x S1
  | _ => .bad := rfl
@[simp] theorem exitD_keep {S0 : Store} : exitD .keep S0 d S = .ok d S := rfl
/-- plain data: no cell within -/
theorem frz_ints {ρ : Nat → Option D} : ∀ ns : List Int, frzDs ρ (ns.map .int) = some (ns.map .int)
  | [] => rfl
  | n :: ns => by simp [frzDs, frzD, frz_ints ns]
theorem exit_of {S0 : Store} {d' : D} (h : frzD (resD S0.length S 12) d = some d') (h2 : S.take S0.length = S0) : exitD .pure S0 d S = .ok d' S0 := by
  unfold exitD
  simp only [h]
  rw [if_pos (.inl h2), h2]
theorem exit_same {S0 : Store} {d' : D} (h : frzD (resD S0.length S0 12) d = some d') : exitD .pure S0 d S0 = .ok d' S0 := exit_of h (by simp)
@[simp] theorem exit_int {S0 : Store} : exitD .pure S0 (.int i) S0 = .ok (.int i) S0 := exit_same rfl
@[simp] theorem exit_bl {S0 : Store} {b : Bool} : exitD .pure S0 (.bl b) S0 = .ok (.bl b) S0 := exit_same rfl
@[simp] theorem exit_str {S0 : Store} {z : Str} : exitD .pure S0 (.str z) S0 = .ok (.str z) S0 := exit_same rfl
@[simp] theorem exit_non {S0 : Store} : exitD .pure S0 .non S0 = .ok .non S0 := exit_same rfl
@[simp] theorem exit_int2 {S0 : Store} {j : Int} : exitD .pure S0 (.tup [.int i, .int j]) S0 = .ok (.tup [.int i, .int j]) S0 := exit_same rfl
@[simp] theorem startD1 {a : D} {n : Nat} : startD (n + 1) [a] = some a :: List.replicate n none := by simp [startD]
@[simp] theorem startD2 {a b : D} {n : Nat} : startD (n + 2) [a, b] = some a :: some b :: List.replicate n none := by simp [startD]
@[simp] theorem startD3 {a b c : D} {n : Nat} : startD (n + 3) [a, b, c] = some a :: some b :: some c :: List.replicate n none := by simp [startD]
end
end DL
end
section
namespace DL
open PySem L2
noncomputable section
def g__law_ahead : SM :=
(sSeq (sPar 2 3 (lCons (eOp opMul (eOp opIx (eVar 0) (eC (.int 0))) (eOp opIx (eVar 1) (eC (.int 1)))) (lCons (eOp opMul (eOp opIx (eVar 1) (eC (.int 0))) (eOp opIx (eVar 0) (eC (.int 1)))) lNil)))
(sRet (eOr (eOp opGt (eVar 2) (eVar 3)) (eAnd (eOp opEq (eVar 2) (eVar 3)) (eOp opLt (eOp opIx (eVar 0) (eC (.int 2))) (eOp opIx (eVar 1) (eC (.int 2))))))))
def d__law_ahead : FD := fnF .pure 4 g__law_ahead
def g__law_whole : SM :=
(sRet (eAnd (eIsi .int (eVar 0)) (eNot (eIsi .bool (eVar 0)))))
def d__law_whole : FD := fnF .pure 1 g__law_whole
def g__law_all_bits_e1 : EM :=
(eOp opAdd (eVar 3) (eTup (lCons (eC (.int 0)) lNil)))
def g__law_all_bits_e2 : EM :=
(eOp opAdd (eVar 3) (eTup (lCons (eC (.int 1)) lNil)))
def g__law_all_bits_b1 : SM :=
(sAsg (eOp opAdd (eLc (iSeq (eVar 1)) (bName 3) eYes g__law_all_bits_e1 [3]) (eLc (iSeq (eVar 1)) (bName 3) eYes g__law_all_bits_e2 [3])) (bName 1))
def g__law_all_bits : SM :=
(sSeq (sAsg (eLst (lCons (eTup lNil) lNil)) (bName 1))
(sSeq (sFor (iRange1 (lCons (eVar 0) lNil)) (bName 2) g__law_all_bits_b1)
(sRet (eVar 1))))
def d__law_all_bits : FD := fnF .pure 4 g__law_all_bits
def g__law_beyond_e1 : EM :=
(eOp opIx (eVar 0) (eVar 3))
def g__law_beyond_t1 : EM :=
(eAnd (eOp opGt (eOp opIx (eVar 0) (eVar 3)) (eC (.int 0))) (eOp opGe (eOp opMul (eC (.int 100)) (eOp opIx (eVar 0) (eVar 3))) (eOp opMul (eVar 1) (eVar 2))))
def g__law_beyond : SM :=
(sSeq (sAsg (eCallB bSum (lCons (eLc (iSeq (eVar 0)) (bName 3) eYes g__law_beyond_e1 [3]) lNil)) (bName 2))
(sRet (eLc (iSeq (eVar 0)) (bName 3) g__law_beyond_t1 (eVar 3) [3])))
def d__law_beyond : FD := fnF .pure 4 g__law_beyond
def g__law_next : SM :=
(sSeq (sIf (eOp opGt (eOp opIx (eVar 0) (eC (.int 0))) (eC (.int 0)))
(sSeq (sAsg (eOp opMod (eOp opIx (eVar 0) (eC (.int 0))) (eVar 1)) (bName 2))
(sSeq (sPutL (eVar 0) (eC (.int 0)) (eOp opFdiv (eOp opIx (eVar 0) (eC (.int 0))) (eVar 1)))
(sRet (eVar 2))))
sSkip)
(sSeq (sPutL (eVar 0) (eC (.int 2)) (eOp opAdd (eOp opIx (eVar 0) (eC (.int 2))) (eC (.int 1))))
(sSeq (sAsg (eOp opMod (eOp opPow (eOp opAdd (eOp opAdd (eOp opMul (eOp opIx (eVar 0) (eC (.int 1))) (eOp opAdd (eOp opMul (eC (.int 2)) (eOp opIx (eVar 0) (eC (.int 2)))) (eC (.int 1)))) (eOp opMul (eOp opMul (eC (.int 7919)) (eOp opIx (eVar 0) (eC (.int 2)))) (eOp opIx (eVar 0) (eC (.int 2))))) (eC (.int 11))) (eC (.int 5))) (eC (.int 2147483647))) (bName 3))
(sRet (eOp opMod (eOp opFdiv (eVar 3) (eC (.int 11))) (eVar 1))))))
def d__law_next : FD := fnF .keep 4 g__law_next
def g__law_pick : SM :=
(sRet (eOp opIx (eVar 1) (eCall d__law_next (lCons (eVar 0) (lCons (eCallB bLen (lCons (eVar 1) lNil)) lNil)))))
def d__law_pick : FD := fnF .keep 2 g__law_pick
def g__law_any_sign : SM :=
(sSeq (sAsg (eC (.str " !\"#$&'()*+,-./0123456789:;<=>?@ABCDEFGHIJKLMNOPQRSTUVWXYZ[\\]^_`abcdefghijklmnopqrstuvwxyz{|}~")) (bName 1))
(sRet (eCall d__law_pick (lCons (eVar 0) (lCons (eVar 1) lNil)))))
def d__law_any_sign : FD := fnF .keep 2 g__law_any_sign
def g__law_at_b1 : SM :=
(sAsg (eOp opIx (eVar 0) (eVar 2)) (bName 0))
def g__law_at : SM :=
(sSeq (sFor (iSeq (eVar 1)) (bName 2) g__law_at_b1)
(sRet (eVar 0)))
def d__law_at : FD := fnF .pure 3 g__law_at
def g__law_begun : SM :=
(sSeq (sAsg (eOp opAdd (eC (.int 1)) (eOp opMod (eOp opPow (eOp opAdd (eOp opAdd (eOp opMul (eOp opMod (eVar 0) (eC (.int 2147483647))) (eC (.int 48271))) (eOp opMul (eC (.int 104729)) (eVar 1))) (eC (.int 7))) (eC (.int 3))) (eC (.int 2147483629)))) (bName 2))
(sSeq (sIf (eOp opGe (eVar 0) (eOp opPow (eC (.int 10)) (eC (.int 18))))
(sRet (eLstM (lCons (eOp opSub (eVar 0) (eOp opPow (eC (.int 10)) (eC (.int 18)))) (lCons (eVar 2) (lCons (eC (.int 0)) lNil)))))
sSkip)
(sRet (eLstM (lCons (eC (.int 0)) (lCons (eVar 2) (lCons (eC (.int 0)) lNil)))))))
def d__law_begun : FD := fnF .keep 3 g__law_begun
def g__law_there_b1 : SM :=
(sAsg (eOp opIx (eVar 0) (eVar 2)) (bName 0))
def g__law_there : SM :=
(sSeq (sFor (iSeq (eVar 1)) (bName 2) g__law_there_b1)
(sRet (eVar 0)))
def d__law_there : FD := fnF .pure 3 g__law_there
def g__law_between : SM :=
(sRet (eAnd (eIsi .int (eVar 0)) (eAnd (eNot (eIsi .bool (eVar 0))) (eChain opLe opLe (eVar 1) (eVar 0) (eVar 2)))))
def d__law_between : FD := fnF .pure 3 g__law_between
def g__law_cell : SM :=
(sRet (eIf (eOp opLt (eVar 1) (eCallB bLen (lCons (eVar 0) lNil))) (eOp opIx (eVar 0) (eVar 1)) (eOp opAdd (eOp opAdd (eOp opMul (eC (.int 7)) (eVar 1)) (eOp opMul (eC (.int 3)) (eCallB bLen (lCons (eVar 0) lNil)))) (eC (.int 1)))))
def d__law_cell : FD := fnF .pure 2 g__law_cell
def g__law_changed_text : SM :=
(sSeq (sPar 2 3 (lCons (eCall d__law_next (lCons (eVar 0) (lCons (eC (.int 3)) lNil))) (lCons (eCall d__law_next (lCons (eVar 0) (lCons (eOp opAdd (eCallB bLen (lCons (eVar 1) lNil)) (eC (.int 1))) lNil))) lNil)))
(sSeq (sAsg (eCall d__law_pick (lCons (eVar 0) (lCons (eOp opAdd (eC (.str "\"\\(), -01none")) (eVar 1)) lNil))) (bName 4))
(sSeq (sAsg (eIf (eOp opGt (eCall d__law_next (lCons (eVar 0) (lCons (eC (.int 5)) lNil))) (eC (.int 0))) (eVar 4) (eCall d__law_any_sign (lCons (eVar 0) lNil))) (bName 5))
(sSeq (sIf (eOp opEq (eVar 2) (eC (.int 0)))
(sRet (eOp opAdd (eOp opAdd (eSlice (eVar 1) oNone (oSome (eVar 3))) (eVar 5)) (eSlice (eVar 1) (oSome (eVar 3)) oNone)))
sSkip)
(sRet (eIf (eOp opEq (eVar 2) (eC (.int 1))) (eOp opAdd (eSlice (eVar 1) oNone (oSome (eVar 3))) (eSlice (eVar 1) (oSome (eOp opAdd (eVar 3) (eC (.int 1)))) oNone)) (eOp opAdd (eOp opAdd (eSlice (eVar 1) oNone (oSome (eVar 3))) (eVar 5)) (eSlice (eVar 1) (oSome (eOp opAdd (eVar 3) (eC (.int 1)))) oNone))))))))
def d__law_changed_text : FD := fnF .keep 6 g__law_changed_text
def g__law_day : SM :=
(sRet (eCall d__law_pick (lCons (eVar 0) (lCons (eLst (lCons (eC (.int 0)) (lCons (eC (.int 1)) (lCons (eC (.int 30)) (lCons (eC (.int 31)) (lCons (eC (.int 6570)) (lCons (eC (.int 6600)) (lCons (eC (.int 1000000)) (lCons (eCall d__law_next (lCons (eVar 0) (lCons (eC (.int 40)) lNil))) (lCons (eOp opAdd (eC (.int 6560)) (eCall d__law_next (lCons (eVar 0) (lCons (eC (.int 60)) lNil)))) lNil)))))))))) lNil))))
def d__law_day : FD := fnF .keep 1 g__law_day
def g__law_deed : SM :=
(sSeq (sAsg (eCall d__law_pick (lCons (eVar 0) (lCons (eLst (lCons (eC (.str "enter")) (lCons (eC (.str "enter")) (lCons (eC (.str "move")) (lCons (eC (.str "move")) (lCons (eC (.str "strike")) (lCons (eC (.str "restore")) lNil))))))) lNil))) (bName 4))
(sSeq (sIf (eAnd (eOp opEq (eVar 1) (eLst lNil)) (eOp opGt (eCall d__law_next (lCons (eVar 0) (lCons (eC (.int 8)) lNil))) (eC (.int 0))))
(sAsg (eC (.str "enter")) (bName 4))
sSkip)
(sSeq (sAsg (eIf (eOp opNe (eVar 4) (eC (.str "enter"))) (eOp opAdd (eVar 1) (eSlice (eVar 2) oNone (oSome (eC (.int 1))))) (eVar 2)) (bName 5))
(sSeq (sPar 6 7 (lCons (eCall d__law_pick (lCons (eVar 0) (lCons (eVar 5) lNil))) (lCons (eOp opAdd (eVar 3) (eCall d__law_pick (lCons (eVar 0) (lCons (eLst (lCons (eC (.int 0)) (lCons (eC (.int 0)) (lCons (eC (.int 1)) (lCons (eC (.int 2)) (lCons (eC (.int 29)) (lCons (eC (.int 30)) (lCons (eC (.int 31)) (lCons (eC (.int 400)) (lCons (eC (.int 6570)) lNil)))))))))) lNil)))) lNil)))
(sSeq (sIf (eOp opEq (eCall d__law_next (lCons (eVar 0) (lCons (eC (.int 12)) lNil))) (eC (.int 0)))
(sAsg (eCall d__law_pick (lCons (eVar 0) (lCons (eLst (lCons (eOp opSub (eVar 3) (eC (.int 1))) (lCons (eC (.int 1000000)) (lCons (eC (.int 1000001)) (lCons (eNeg (eC (.int 1))) (lCons (eC (.bl true)) (lCons (eC .non) lNil))))))) lNil))) (bName 7))
sSkip)
(sSeq (sIf (eOp opEq (eVar 4) (eC (.str "enter")))
(sSeq (sAsg (eCall d__law_pick (lCons (eVar 0) (lCons (eLst (lCons (eC (.int 0)) (lCons (eCallB (bII maxII) (lCons (eC (.int 0)) (lCons (eOp opSub (eVar 3) (eC (.int 6570))) lNil))) (lCons (eCallB (bII maxII) (lCons (eC (.int 0)) (lCons (eOp opSub (eVar 3) (eC (.int 6569))) lNil))) (lCons (eVar 3) (lCons (eCall d__law_day (lCons (eVar 0) lNil)) lNil)))))) lNil))) (bName 8))
(sRet (eTup (lCons (eVar 4) (lCons (eVar 6) (lCons (eVar 8) (lCons (eCall d__law_pick (lCons (eVar 0) (lCons (eSlice (eVar 2) (oSome (eNeg (eC (.int 3)))) oNone) lNil))) (lCons (eVar 7) lNil))))))))
sSkip)
(sRet (eIf (eOp opEq (eVar 4) (eC (.str "move"))) (eTup (lCons (eVar 4) (lCons (eVar 6) (lCons (eCall d__law_pick (lCons (eVar 0) (lCons (eSlice (eVar 2) (oSome (eNeg (eC (.int 3)))) oNone) lNil))) (lCons (eVar 7) lNil))))) (eTup (lCons (eVar 4) (lCons (eVar 6) (lCons (eVar 7) lNil))))))))))))
def d__law_deed : FD := fnF .keep 9 g__law_deed
def g__law_ten_b1 : SM :=
(sAsg (eOp opMul (eVar 1) (eC (.int 10))) (bName 1))
def g__law_ten : SM :=
(sSeq (sAsg (eC (.int 1)) (bName 1))
(sSeq (sFor (iRange1 (lCons (eVar 0) lNil)) (bName 2) g__law_ten_b1)
(sRet (eVar 1))))
def d__law_ten : FD := fnF .pure 3 g__law_ten
def g__law_less : SM :=
(sRet (eOp opLt (eOp opMul (eOp opIx (eVar 0) (eC (.int 0))) (eOp opIx (eVar 1) (eC (.int 1)))) (eOp opMul (eOp opIx (eVar 1) (eC (.int 0))) (eOp opIx (eVar 0) (eC (.int 1))))))
def d__law_less : FD := fnF .pure 2 g__law_less
def g__law_good_t1 : EM :=
(eAnd (eOp opNotN (eVar 3) (eC .non)) (eAnd (eOp opNe (eVar 3) (eC (.str "?"))) (eOp opNe (eVar 3) (eTup lNil))))
def g__law_good_e1 : EM :=
(eIf (eOp opEq (eOp opIx (eVar 0) (eC (.int 1))) (eC (.str "one"))) (eTup (lCons (eVar 3) lNil)) (eVar 3))
def g__law_good : SM :=
(sSeq (sAsg (eLc (iSeq (eVar 1)) (bName 3) g__law_good_t1 (eVar 3) [3]) (bName 2))
(sRet (eLc (iSeq (eVar 2)) (bName 3) eYes g__law_good_e1 [3])))
def d__law_good : FD := fnF .pure 4 g__law_good
def g_is_listed : SM :=
(sRet (eIsi2 .list .tuple (eVar 0)))
def d_is_listed : FD := fnF .pure 1 g_is_listed
def g__law_letters_t1 : EM :=
(eOp opEq (eOp opIx (eVar 7) (eC (.int 0))) (eVar 3))
def g__law_letters_b1 : SM :=
(sDrop (eMeth "list" mAppend (eVar 2) (lCons (eOp opAdd (eOp opAdd (eTup (lCons (eC (.str "use")) (lCons (eOp opIx (eVar 4) (eC (.int 0))) (lCons (eVar 6) lNil)))) (eSlice (eVar 7) (oSome (eC (.int 1))) (oSome (eC (.int 5))))) (eTup (lCons (eOp opIx (eOp opIx (eVar 7) (eC (.int 5))) (eC (.int 0))) lNil))) lNil)))
def g__law_letters_b2 : SM :=
(sSeq (sAsg (eLc (iSeq (eVar 1)) (bName 7) g__law_letters_t1 (eVar 7) [7]) (bName 5))
(sSeq (sFor (iEnumD (lCons (eVar 5) lNil)) (bTup (bCons (bName 6) (bCons (bName 7) bNil))) g__law_letters_b1)
(sDrop (eMeth "list" mAppend (eVar 2) (lCons (eTup (lCons (eC (.str "close")) (lCons (eOp opIx (eVar 4) (eC (.int 0))) (lCons (eCallB bLen (lCons (eVar 5) lNil)) (lCons (eC (.int 99)) lNil))))) lNil)))))
def g__law_letters : SM :=
(sSeq (sAsg (eLst lNil) (bName 2))
(sSeq (sFor (iEnumD (lCons (eOp opIx (eVar 0) (eC (.str "places"))) lNil)) (bTup (bCons (bName 3) (bCons (bName 4) bNil))) g__law_letters_b2)
(sRet (eVar 2))))
def d__law_letters : FD := fnF .pure 8 g__law_letters
def g__law_low : SM :=
(sSeq (sAsg (eOp opAdd (eOp opMul (eCall d__law_next (lCons (eVar 0) (lCons (eC (.int 46341)) lNil))) (eC (.int 46340))) (eCall d__law_next (lCons (eVar 0) (lCons (eC (.int 46340)) lNil)))) (bName 1))
(sRet (eCall d__law_pick (lCons (eVar 0) (lCons (eLst (lCons (eC (.int 0)) (lCons (eC (.int 1)) (lCons (eC (.int 2147483646)) (lCons (eC (.int 2147483645)) (lCons (eCall d__law_next (lCons (eVar 0) (lCons (eC (.int 100)) lNil))) (lCons (eOp opMod (eVar 1) (eC (.int 2147483647))) (lCons (eOp opMod (eVar 1) (eC (.int 2147483647))) lNil)))))))) lNil)))))
def d__law_low : FD := fnF .keep 2 g__law_low
def g__law_lowest_c1 : EM :=
(eOp opGt (eVar 3) (eC (.int 0)))
def g__law_lowest_b1 : SM :=
(sPar 2 3 (lCons (eVar 3) (lCons (eOp opMod (eVar 2) (eVar 3)) lNil)))
def g__law_lowest : SM :=
(sSeq (sPar 2 3 (lCons (eVar 0) (lCons (eVar 1) lNil)))
(sSeq (sWhile g__law_lowest_c1 g__law_lowest_b1)
(sRet (eTup (lCons (eOp opFdiv (eVar 0) (eVar 2)) (lCons (eOp opFdiv (eVar 1) (eVar 2)) lNil))))))
def d__law_lowest : FD := fnF .pure 4 g__law_lowest
def g__law_names_e1 : EM :=
(eOp opAdd (eOp opIx (eVar 2) (eOp opMod (eOp opAdd (eVar 3) (eOp opMul (eC (.int 5)) (eVar 5))) (eC (.int 26)))) (eOp opIx (eVar 4) (eOp opMod (eOp opAdd (eVar 3) (eOp opMul (eVar 5) (eVar 5))) (eC (.int 6)))))
def g__law_names : SM :=
(sSeq (sAsg (eLst (lCons (eC (.str "place")) (lCons (eC (.str "letter")) (lCons (eC (.str "doubt")) (lCons (eC (.str "use")) (lCons (eC (.str "close")) (lCons (eC (.str "admit")) (lCons (eC (.str "refuse")) (lCons (eC (.str "counts")) (lCons (eC (.str "doubled")) (lCons (eC (.str "out")) (lCons (eC (.str "enter")) (lCons (eC (.str "move")) lNil))))))))))))) (bName 1))
(sSeq (sAsg (eOp opAdd (eVar 1) (eLst (lCons (eC (.str "strike")) (lCons (eC (.str "restore")) (lCons (eC (.str "one")) (lCons (eC (.str "any")) (lCons (eC (.str "rank")) (lCons (eC (.str "vote")) (lCons (eC (.str "roll")) (lCons (eC (.str "uses")) (lCons (eC (.str "settled")) (lCons (eC (.str "mixed")) (lCons (eC (.str "late")) (lCons (eC (.str "blank")) lNil)))))))))))))) (bName 1))
(sSeq (sAsg (eOp opAdd (eVar 1) (eLst (lCons (eC (.str "spoilt")) (lCons (eC (.str "stands")) lNil)))) (bName 1))
(sSeq (sAsg (eTup (lCons (eC (.str "abcdefghijklmnopqrstuvwxyz")) (lCons (eCall d__law_next (lCons (eVar 0) (lCons (eC (.int 26)) lNil))) lNil))) (bTup (bCons (bName 2) (bCons (bName 3) bNil))))
(sSeq (sIf (eOp opEq (eCall d__law_next (lCons (eVar 0) (lCons (eC (.int 4)) lNil))) (eC (.int 0)))
(sRet (eOp opAdd (eSlice (eVar 1) (oSome (eVar 3)) oNone) (eSlice (eVar 1) oNone (oSome (eVar 3)))))
sSkip)
(sSeq (sAsg (eLst (lCons (eC (.str "x")) (lCons (eC (.str "")) (lCons (eC (.str "qx")) (lCons (eC (.str "xxxqx")) (lCons (eC (.str "zq")) (lCons (eC (.str "qqqqqqq")) lNil))))))) (bName 4))
(sRet (eLc (iRange1 (lCons (eC (.int 26)) lNil)) (bName 5) eYes g__law_names_e1 [5]))))))))
def d__law_names : FD := fnF .keep 6 g__law_names
def g__law_seeds_e1 : EM :=
(eCall d__law_next (lCons (eVar 0) (lCons (eOp opSub (eOp opPow (eC (.int 2)) (eC (.int 31))) (eC (.int 1))) lNil)))
def g__law_seeds_b1 : SM :=
(sDrop (eMeth "list" mAppend (eVar 2) (lCons (eCallB bTuple (lCons (eLc (iRange1 (lCons (eOp opSub (eOp opIx (eVar 1) (eC (.str "need"))) (eC (.int 1))) lNil)) (bName 4) eYes g__law_seeds_e1 [4]) lNil)) lNil)))
def g__law_seeds : SM :=
(sSeq (sAsg (eLst lNil) (bName 2))
(sSeq (sFor (iRange1 (lCons (eOp opAdd (eOp opMul (eC (.int 2)) (eOp opIx (eVar 1) (eC (.str "hands")))) (eC (.int 1))) lNil)) (bName 3) g__law_seeds_b1)
(sRet (eCallB bTuple (lCons (eVar 2) lNil)))))
def d__law_seeds : FD := fnF .keep 5 g__law_seeds
def g__law_rows_of_t1 : EM :=
(eOr (eNot (eIsi .tuple (eVar 2))) (eOp opNe (eCallB bLen (lCons (eVar 2) lNil)) (eVar 1)))
def g__law_rows_of : SM :=
(sSeq (sIf (eNot (eIsi .tuple (eVar 0)))
(sRet (eC (.bl false)))
sSkip)
(sRet (eOp opEq (eLc (iSeq (eVar 0)) (bName 2) g__law_rows_of_t1 (eVar 2) [2]) (eLst lNil))))
def d__law_rows_of : FD := fnF .pure 3 g__law_rows_of
def g__law_rulings_b1 : SM :=
(sDrop (eMeth "list" mAppend (eVar 3) (lCons (eTup (lCons (eCall d__law_pick (lCons (eVar 0) (lCons (eLst (lCons (eC (.str "admit")) (lCons (eC (.str "refuse")) lNil))) lNil))) (lCons (eOp opIx (eCall d__law_pick (lCons (eVar 0) (lCons (eVar 1) lNil))) (eC (.int 1))) lNil))) lNil)))
def g__law_rulings : SM :=
(sSeq (sAsg (eLst lNil) (bName 3))
(sSeq (sFor (iRange1 (lCons (eOp opMul (eVar 2) (eCallB bInt (lCons (eOp opNe (eVar 1) (eLst lNil)) lNil))) lNil)) (bName 4) g__law_rulings_b1)
(sRet (eVar 3))))
def d__law_rulings : FD := fnF .keep 5 g__law_rulings
def g__law_token : SM :=
(sRet (eCall d__law_pick (lCons (eVar 0) (lCons (eLst (lCons (eC (.int 1)) (lCons (eOp opPow (eC (.int 10)) (eC (.int 9))) (lCons (eOp opAdd (eC (.int 1)) (eCall d__law_next (lCons (eVar 0) (lCons (eC (.int 50)) lNil)))) (lCons (eOp opAdd (eC (.int 1)) (eCall d__law_next (lCons (eVar 0) (lCons (eOp opPow (eC (.int 10)) (eC (.int 9))) lNil)))) lNil))))) lNil))))
def d__law_token : FD := fnF .keep 1 g__law_token
def g__law_within : SM :=
(sRet (eAnd (eCall d__law_whole (lCons (eVar 0) lNil)) (eChain opLe opLe (eVar 1) (eVar 0) (eVar 2))))
def d__law_within : FD := fnF .pure 3 g__law_within
def g__law_worth_b1 : SM :=
(sSeq (sAsg (eOp opMul (eVar 4) (eVar 2)) (bName 4))
(sAsg (eOp opAdd (eVar 3) (eOp opMul (eVar 5) (eVar 4))) (bName 3)))
def g__law_worth : SM :=
(sSeq (sPar 3 4 (lCons (eVar 0) (lCons (eC (.int 1)) lNil)))
(sSeq (sFor (iSeq (eVar 1)) (bName 5) g__law_worth_b1)
(sRet (eOp opMod (eVar 3) (eC (.int 2147483647))))))
def d__law_worth : FD := fnF .pure 6 g__law_worth
def g__wall_c1 : EM :=
(eC (.bl true))
def g__wall_b1 : SM :=
sSkip
def g__wall : SM :=
(sWhile g__wall_c1 g__wall_b1)
def d__wall : FD := fnF .pure 1 g__wall
def g_are_lists_e1 : EM :=
(eIsi2 .list .tuple (eVar 1))
def g_are_lists : SM :=
(sRet (eAnd (eIsi2 .list .tuple (eVar 0)) (eCallB bAll (lCons (eLc (iSeq (eVar 0)) (bName 1) eYes g_are_lists_e1 [1]) lNil))))
def d_are_lists : FD := fnF .pure 2 g_are_lists
def g_is_whole : SM :=
(sRet (eAnd (eIsi .int (eVar 0)) (eNot (eIsi .bool (eVar 0)))))
def d_is_whole : FD := fnF .pure 1 g_is_whole
def g_is_between : SM :=
(sRet (eAnd (eCall d_is_whole (lCons (eVar 0) lNil)) (eChain opLe opLe (eVar 1) (eVar 0) (eVar 2))))
def d_is_between : FD := fnF .pure 3 g_is_between
def g_is_low : SM :=
(sRet (eCall d_is_between (lCons (eVar 0) (lCons (eC (.int 0)) (lCons (eOp opSub (eC (.int 2147483647)) (eC (.int 1))) lNil)))))
def d_is_low : FD := fnF .pure 1 g_is_low
def g_are_low_e1 : EM :=
(eCall d_is_low (lCons (eVar 1) lNil))
def g_are_low : SM :=
(sRet (eAnd (eIsi .tuple (eVar 0)) (eCallB bAll (lCons (eLc (iSeq (eVar 0)) (bName 1) eYes g_are_low_e1 [1]) lNil))))
def d_are_low : FD := fnF .pure 2 g_are_low
def g_are_of_e1 : EM :=
(eAnd (eIsi .tuple (eVar 2)) (eOp opEq (eCallB bLen (lCons (eVar 2) lNil)) (eVar 1)))
def g_are_of : SM :=
(sRet (eAnd (eIsi .tuple (eVar 0)) (eCallB bAll (lCons (eLc (iSeq (eVar 0)) (bName 2) eYes g_are_of_e1 [2]) lNil))))
def d_are_of : FD := fnF .pure 3 g_are_of
def g_is_count : SM :=
(sRet (eAnd (eCall d_is_whole (lCons (eVar 0) lNil)) (eAnd (eOp opGe (eVar 0) (eVar 1)) (eOr (eOp opIsN (eVar 2) (eC .non)) (eOp opLe (eVar 0) (eVar 2))))))
def d_is_count : FD := fnF .pure 3 g_is_count
def g_back_of_c1 : EM :=
(eOp opGt (eVar 3) (eC (.int 0)))
def g_back_of_b1 : SM :=
(sSeq (sIf (eOp opEq (eOp opMod (eVar 3) (eC (.int 2))) (eC (.int 1)))
(sAsg (eOp opMod (eOp opMul (eVar 1) (eVar 2)) (eC (.int 2147483647))) (bName 1))
sSkip)
(sSeq (sAsg (eOp opMod (eOp opMul (eVar 2) (eVar 2)) (eC (.int 2147483647))) (bName 2))
(sAsg (eOp opFdiv (eVar 3) (eC (.int 2))) (bName 3))))
def g_back_of : SM :=
(sSeq (sPar3 1 2 3 (lCons (eC (.int 1)) (lCons (eOp opMod (eVar 0) (eC (.int 2147483647))) (lCons (eOp opSub (eC (.int 2147483647)) (eC (.int 2))) lNil))))
(sSeq (sWhile g_back_of_c1 g_back_of_b1)
(sRet (eVar 1))))
def d_back_of : FD := fnF .pure 4 g_back_of
def g_is_less : SM :=
(sRet (eOp opLt (eOp opMul (eOp opIx (eVar 0) (eC (.int 0))) (eOp opIx (eVar 1) (eC (.int 1)))) (eOp opMul (eOp opIx (eVar 1) (eC (.int 0))) (eOp opIx (eVar 0) (eC (.int 1))))))
def d_is_less : FD := fnF .pure 2 g_is_less
def g_box_of_b1 : SM :=
(sIf (eAnd (eOp opEq (eOp opIx (eVar 2) (eC (.int 0))) (eC (.str "mixed"))) (eOp opEq (eOp opIx (eVar 2) (eC (.int 1))) (eVar 1)))
(sRet (eTup (lCons (eOp opIx (eVar 2) (eC (.int 2))) (lCons (eOp opIx (eVar 2) (eC (.int 3))) lNil))))
sSkip)
def g_box_of : SM :=
(sSeq (sFor (iSeq (eVar 0)) (bName 2) g_box_of_b1)
(sRet (eC .non)))
def d_box_of : FD := fnF .pure 3 g_box_of
def g_lowest_c1 : EM :=
(eOp opNe (eVar 3) (eC (.int 0)))
def g_lowest_b1 : SM :=
(sPar 2 3 (lCons (eVar 3) (lCons (eOp opMod (eVar 2) (eVar 3)) lNil)))
def g_lowest : SM :=
(sSeq (sPar 2 3 (lCons (eVar 0) (lCons (eVar 1) lNil)))
(sSeq (sWhile g_lowest_c1 g_lowest_b1)
(sRet (eTup (lCons (eOp opFdiv (eVar 0) (eVar 2)) (lCons (eOp opFdiv (eVar 1) (eVar 2)) lNil))))))
def d_lowest : FD := fnF .pure 4 g_lowest
def g_need_counts : SM :=
(sIf (eOr (eNot (eCall d_is_count (lCons (eVar 0) (lCons (eC (.int 0)) (lCons (eC (.int 400)) lNil))))) (eOr (eNot (eCall d_is_count (lCons (eVar 1) (lCons (eC (.int 0)) (lCons (eVar 0) lNil))))) (eNot (eCall d_is_count (lCons (eVar 2) (lCons (eC (.int 0)) (lCons (eVar 0) lNil)))))))
(fun _ _ => .bad)
sSkip)
def d_need_counts : FD := fnF .pure 3 g_need_counts
def g_chance_b1 : SM :=
(sAsg (eCall d_lowest (lCons (eOp opMul (eVar 3) (eCallB (bII maxII) (lCons (eC (.int 0)) (lCons (eOp opSub (eOp opSub (eVar 0) (eVar 1)) (eVar 5)) lNil)))) (lCons (eOp opMul (eVar 4) (eOp opSub (eVar 0) (eVar 5))) lNil))) (bTup (bCons (bName 3) (bCons (bName 4) bNil))))
def g_chance : SM :=
(sSeq (sDrop (eCall d_need_counts (lCons (eVar 0) (lCons (eVar 1) (lCons (eVar 2) lNil)))))
(sSeq (sAsg (eTup (lCons (eC (.int 1)) (lCons (eC (.int 1)) lNil))) (bTup (bCons (bName 3) (bCons (bName 4) bNil))))
(sSeq (sFor (iRange1 (lCons (eVar 2) lNil)) (bName 5) g_chance_b1)
(sRet (eTup (lCons (eVar 3) (lCons (eVar 4) lNil)))))))
def d_chance : FD := fnF .pure 6 g_chance
def g_crossed : SM :=
(sRet (eTup (lCons (eOp opAdd (eSlice (eVar 0) oNone (oSome (eOp opAdd (eVar 2) (eC (.int 1))))) (eSlice (eVar 1) (oSome (eOp opAdd (eVar 2) (eC (.int 1)))) oNone)) (lCons (eOp opAdd (eSlice (eVar 1) oNone (oSome (eOp opAdd (eVar 2) (eC (.int 1))))) (eSlice (eVar 0) (oSome (eOp opAdd (eVar 2) (eC (.int 1)))) oNone)) lNil))))
def d_crossed : FD := fnF .pure 3 g_crossed
def g_shared_in_t1 : EM :=
(eOp opEq (eVar 2) (eC (.str "in")))
def g_shared_in : SM :=
(sRet (eCallB bTuple (lCons (eLc (iSeq (eVar 0)) (bTup (bCons (bName 1) (bCons (bName 2) (bCons (bName 3) bNil)))) g_shared_in_t1 (eVar 3) [1, 2, 3]) lNil)))
def d_shared_in : FD := fnF .pure 4 g_shared_in
def g_is_time : SM :=
(sRet (eCall d_is_between (lCons (eVar 0) (lCons (eC (.int 0)) (lCons (eC (.int 100000)) lNil)))))
def d_is_time : FD := fnF .pure 1 g_is_time
def g_is_code : SM :=
(sRet (eAnd (eIsi .int (eVar 0)) (eAnd (eNot (eIsi .bool (eVar 0))) (eOp opGe (eVar 0) (eC (.int 0))))))
def d_is_code : FD := fnF .pure 1 g_is_code
def g_is_day : SM :=
(sRet (eCall d_is_between (lCons (eVar 0) (lCons (eC (.int 0)) (lCons (eC (.int 1000000)) lNil)))))
def d_is_day : FD := fnF .pure 1 g_is_day
def g_is_link_e1 : EM :=
(eCall d_is_code (lCons (eVar 1) lNil))
def g_is_link : SM :=
(sRet (eAnd (eIsi .tuple (eVar 0)) (eAnd (eOp opEq (eCallB bLen (lCons (eVar 0) lNil)) (eC (.int 2))) (eCallB bAll (lCons (eLc (iSeq (eVar 0)) (bName 1) eYes g_is_link_e1 [1]) lNil)))))
def d_is_link : FD := fnF .pure 2 g_is_link
def g_is_point : SM :=
(sSeq (sIf (eOr (eNot (eIsi .tuple (eVar 0))) (eOp opNe (eCallB bLen (lCons (eVar 0) lNil)) (eC (.int 2))))
(sRet (eC (.bl false)))
sSkip)
(sRet (eAnd (eCall d_is_between (lCons (eOp opIx (eVar 0) (eC (.int 0))) (lCons (eC (.int 1)) (lCons (eC (.int 9)) lNil)))) (eCall d_is_low (lCons (eOp opIx (eVar 0) (eC (.int 1))) lNil)))))
def d_is_point : FD := fnF .pure 1 g_is_point
def g_is_quotient_e1 : EM :=
(eCall d_is_count (lCons (eVar 1) (lCons (eC (.int 1)) (lCons (eC .non) lNil))))
def g_is_quotient : SM :=
(sSeq (sIf (eOr (eNot (eIsi .tuple (eVar 0))) (eOr (eOp opNe (eCallB bLen (lCons (eVar 0) lNil)) (eC (.int 2))) (eNot (eCallB bAll (lCons (eLc (iSeq (eVar 0)) (bName 1) eYes g_is_quotient_e1 [1]) lNil)))))
(sRet (eC (.bl false)))
sSkip)
(sRet (eOp opEq (eCall d_lowest (lCons (eOp opIx (eVar 0) (eC (.int 0))) (lCons (eOp opIx (eVar 0) (eC (.int 1))) lNil))) (eVar 0))))
def d_is_quotient : FD := fnF .pure 2 g_is_quotient
def g_is_rising_e1 : EM :=
(eOp opLe (eVar 1) (eVar 2))
def g_is_rising : SM :=
(sRet (eCallB bAll (lCons (eLc (iZipD (lCons (eVar 0) (lCons (eSlice (eVar 0) (oSome (eC (.int 1))) oNone) lNil))) (bTup (bCons (bName 1) (bCons (bName 2) bNil))) eYes g_is_rising_e1 [1, 2]) lNil)))
def d_is_rising : FD := fnF .pure 3 g_is_rising
def g_is_share : SM :=
(sSeq (sIf (eOr (eNot (eIsi .tuple (eVar 0))) (eOr (eOp opNe (eCallB bLen (lCons (eVar 0) lNil)) (eC (.int 2))) (eNot (eCall d_is_count (lCons (eOp opIx (eVar 0) (eC (.int 0))) (lCons (eC (.int 0)) (lCons (eC .non) lNil)))))))
(sRet (eC (.bl false)))
sSkip)
(sRet (eAnd (eCall d_is_count (lCons (eOp opIx (eVar 0) (eC (.int 1))) (lCons (eC (.int 1)) (lCons (eC .non) lNil)))) (eOp opEq (eCall d_lowest (lCons (eOp opIx (eVar 0) (eC (.int 0))) (lCons (eOp opIx (eVar 0) (eC (.int 1))) lNil))) (eVar 0)))))
def d_is_share : FD := fnF .pure 1 g_is_share
def g_is_token : SM :=
(sRet (eAnd (eIsi .int (eVar 0)) (eAnd (eNot (eIsi .bool (eVar 0))) (eChain opLe opLe (eC (.int 1)) (eVar 0) (eC (.int 1000000000))))))
def d_is_token : FD := fnF .pure 1 g_is_token
def g_is_use_token : SM :=
(sRet (eCall d_is_between (lCons (eVar 0) (lCons (eC (.int 1)) (lCons (eC (.int 1000000000)) lNil)))))
def d_is_use_token : FD := fnF .pure 1 g_is_use_token
def g_those_in_e1 : EM :=
(eOp opIx (eVar 0) (eVar 3))
def g_those_in_t1 : EM :=
(eAnd (eOp opGt (eOp opIx (eVar 0) (eVar 3)) (eC (.int 0))) (eOp opGe (eOp opMul (eC (.int 100)) (eOp opIx (eVar 0) (eVar 3))) (eOp opMul (eVar 1) (eVar 2))))
def g_those_in : SM :=
(sSeq (sAsg (eCallB bSum (lCons (eLc (iSeq (eVar 0)) (bName 3) eYes g_those_in_e1 [3]) lNil)) (bName 2))
(sRet (eLc (iSeq (eVar 0)) (bName 3) g_those_in_t1 (eVar 3) [3])))
def d_those_in : FD := fnF .pure 4 g_those_in
def g_needed_c1 : EM :=
(eAnd (eOp opLt (eVar 3) (eVar 0)) (eCall d_is_less (lCons (eVar 2) (lCons (eTup (lCons (eVar 4) (lCons (eVar 5) lNil))) lNil))))
def g_needed_b1 : SM :=
(sSeq (sAsg (eCall d_lowest (lCons (eOp opMul (eVar 4) (eCallB (bII maxII) (lCons (eC (.int 0)) (lCons (eOp opSub (eOp opSub (eVar 0) (eVar 1)) (eVar 3)) lNil)))) (lCons (eOp opMul (eVar 5) (eOp opSub (eVar 0) (eVar 3))) lNil))) (bTup (bCons (bName 4) (bCons (bName 5) bNil))))
(sAug 3 opAddI (eC (.int 1))))
def g_needed : SM :=
(sSeq (sDrop (eCall d_need_counts (lCons (eVar 0) (lCons (eVar 1) (lCons (eC (.int 0)) lNil)))))
(sSeq (sIf (eOr (eOp opEq (eVar 1) (eC (.int 0))) (eNot (eCall d_is_share (lCons (eVar 2) lNil))))
(fun _ _ => .bad)
sSkip)
(sSeq (sAsg (eTup (lCons (eC (.int 0)) (lCons (eC (.int 1)) (lCons (eC (.int 1)) lNil)))) (bTup (bCons (bName 3) (bCons (bName 4) (bCons (bName 5) bNil)))))
(sSeq (sWhile g_needed_c1 g_needed_b1)
(sRet (eVar 3))))))
def d_needed : FD := fnF .pure 6 g_needed
def g_put_together : SM :=
(sRet (eCall d_lowest (lCons (eOp opAdd (eOp opMul (eOp opIx (eVar 0) (eC (.int 0))) (eOp opIx (eVar 1) (eC (.int 1)))) (eOp opMul (eOp opIx (eVar 1) (eC (.int 0))) (eOp opIx (eVar 0) (eC (.int 1))))) (lCons (eOp opMul (eOp opIx (eVar 0) (eC (.int 1))) (eOp opIx (eVar 1) (eC (.int 1)))) lNil))))
def d_put_together : FD := fnF .pure 2 g_put_together
def g_times_less_e1 : EM :=
(eOp opMod (eOp opSub (eVar 3) (eOp opMul (eVar 1) (eVar 4))) (eC (.int 2147483647)))
def g_times_less : SM :=
(sSeq (sAsg (eOp opAdd (eLst (lCons (eC (.int 0)) lNil)) (eCallB bList (lCons (eVar 0) lNil))) (bName 2))
(sRet (eLc (iZipD (lCons (eVar 2) (lCons (eOp opAdd (eCallB bList (lCons (eVar 0) lNil)) (eLst (lCons (eC (.int 0)) lNil))) lNil))) (bTup (bCons (bName 3) (bCons (bName 4) bNil))) eYes g_times_less_e1 [3, 4])))
def d_times_less : FD := fnF .pure 5 g_times_less
def g_through_b1 : SM :=
(sIf (eOp opNe (eVar 6) (eVar 2))
(sSeq (sAsg (eCall d_times_less (lCons (eVar 4) (lCons (eVar 6) lNil))) (bName 4))
(sAsg (eOp opMod (eOp opMul (eVar 5) (eOp opSub (eVar 2) (eVar 6))) (eC (.int 2147483647))) (bName 5)))
sSkip)
def g_through_e1 : EM :=
(eOp opMod (eOp opAdd (eVar 9) (eOp opMul (eVar 8) (eVar 7))) (eC (.int 2147483647)))
def g_through_b2 : SM :=
(sSeq (sPar 4 5 (lCons (eLst (lCons (eC (.int 1)) lNil)) (lCons (eC (.int 1)) lNil)))
(sSeq (sFor (iSeq (eVar 0)) (bTup (bCons (bName 6) (bCons (bName 7) bNil))) g_through_b1)
(sSeq (sAsg (eOp opMod (eOp opMul (eVar 3) (eCall d_back_of (lCons (eVar 5) lNil))) (eC (.int 2147483647))) (bName 8))
(sAsg (eLc (iZipD (lCons (eVar 1) (lCons (eVar 4) lNil))) (bTup (bCons (bName 9) (bCons (bName 7) bNil))) eYes g_through_e1 [9, 7]) (bName 1)))))
def g_through : SM :=
(sSeq (sAsg (eOp opMul (eLst (lCons (eC (.int 0)) lNil)) (eCallB bLen (lCons (eVar 0) lNil))) (bName 1))
(sSeq (sFor (iSeq (eVar 0)) (bTup (bCons (bName 2) (bCons (bName 3) bNil))) g_through_b2)
(sRet (eVar 1))))
def d_through : FD := fnF .pure 10 g_through
end
end DL
end
section
namespace K45
open PySem L2 DL
noncomputable section
def g__law_ways_b1 : SM :=
(sAsg (eOp opFdiv (eOp opMul (eVar 2) (eCallB (bII maxII) (lCons (eC (.int 0)) (lCons (eOp opSub (eVar 0) (eVar 3)) lNil)))) (eOp opAdd (eVar 3) (eC (.int 1)))) (bName 2))
def g__law_ways : SM :=
(sSeq (sAsg (eC (.int 1)) (bName 2))
(sSeq (sFor (iRange1 (lCons (eVar 1) lNil)) (bName 3) g__law_ways_b1)
(sRet (eVar 2))))
def d__law_ways : FD := fnF .pure 4 g__law_ways
def g__law_over : SM :=
(sRet (eOp opGt (eOp opMul (eOp opIx (eVar 0) (eC (.int 0))) (eOp opIx (eVar 1) (eC (.int 1)))) (eOp opMul (eOp opIx (eVar 1) (eC (.int 0))) (eOp opIx (eVar 0) (eC (.int 1))))))
def d__law_over : FD := fnF .pure 2 g__law_over
def g__law_gone_through_e1 : EM :=
(eOp opAdd (eVar 6) (eTup (lCons (eVar 4) lNil)))
def g__law_gone_through_b1 : SM :=
(sAsg (eOp opAdd (eVar 3) (eLc (iSeq (eVar 3)) (bName 6) eYes g__law_gone_through_e1 [6])) (bName 3))
def g__law_gone_through_t1 : EM :=
(eOp opEq (eCallB bLen (lCons (eVar 6) lNil)) (eVar 2))
def g__law_gone_through_t2 : EM :=
(eOp opLt (eVar 4) (eVar 1))
def g__law_gone_through_t3 : EM :=
(eOp opEq (eLc (iSeq (eVar 6)) (bName 4) g__law_gone_through_t2 (eVar 4) [4]) (eLst lNil))
def g__law_gone_through : SM :=
(sSeq (sAsg (eLst (lCons (eTup lNil) lNil)) (bName 3))
(sSeq (sFor (iRange1 (lCons (eVar 0) lNil)) (bName 4) g__law_gone_through_b1)
(sSeq (sAsg (eLc (iSeq (eVar 3)) (bName 6) g__law_gone_through_t1 (eVar 6) [6]) (bName 3))
(sSeq (sAsg (eLc (iSeq (eVar 3)) (bName 6) g__law_gone_through_t3 (eVar 6) [6]) (bName 5))
(sRet (eCall d__law_lowest (lCons (eCallB bLen (lCons (eVar 5) lNil)) (lCons (eCallB bLen (lCons (eVar 3) lNil)) lNil))))))))
def d__law_gone_through : FD := fnF .pure 7 g__law_gone_through
def g__law_share_good : SM :=
(sSeq (sIf (eOr (eNot (eIsi .tuple (eVar 0))) (eOr (eOp opNe (eCallB bLen (lCons (eVar 0) lNil)) (eC (.int 2))) (eOr (eNot (eCall d__law_whole (lCons (eOp opIx (eVar 0) (eC (.int 0))) lNil))) (eNot (eCall d__law_whole (lCons (eOp opIx (eVar 0) (eC (.int 1))) lNil))))))
(sRet (eC (.bl false)))
sSkip)
(sRet (eAnd (eOp opGt (eOp opIx (eVar 0) (eC (.int 1))) (eC (.int 0))) (eAnd (eOp opGe (eOp opIx (eVar 0) (eC (.int 0))) (eC (.int 0))) (eOp opEq (eCall d__law_lowest (lCons (eOp opIx (eVar 0) (eC (.int 0))) (lCons (eOp opIx (eVar 0) (eC (.int 1))) lNil))) (eVar 0))))))
def d__law_share_good : FD := fnF .pure 1 g__law_share_good
def g__law_right_b1 : SM :=
(sSeq (sAsg (eCall d_needed (lCons (eVar 3) (lCons (eVar 4) (lCons (eVar 9) lNil)))) (bName 10))
(sSeq (sIf (eOr (eNot (eCall d__law_whole (lCons (eVar 10) lNil))) (eNot (eChain opLe opLe (eC (.int 0)) (eVar 10) (eVar 3))))
(sRet (eC (.bl false)))
sSkip)
(sSeq (sIf (eAnd (eOp opLt (eVar 10) (eVar 3)) (eCall d__law_over (lCons (eCall d_chance (lCons (eVar 3) (lCons (eVar 4) (lCons (eVar 10) lNil)))) (lCons (eVar 9) lNil))))
(sRet (eC (.bl false)))
sSkip)
(sIf (eAnd (eOp opGt (eVar 10) (eC (.int 0))) (eNot (eCall d__law_over (lCons (eCall d_chance (lCons (eVar 3) (lCons (eVar 4) (lCons (eOp opSub (eVar 10) (eC (.int 1))) lNil)))) (lCons (eVar 9) lNil)))))
(sRet (eC (.bl false)))
sSkip))))
def g__law_right : SM :=
(sSeq (sAsg (eCall d__law_begun (lCons (eVar 0) (lCons (eVar 1) lNil))) (bName 2))
(sSeq (sAsg (eCall d__law_pick (lCons (eVar 2) (lCons (eLst (lCons (eC (.int 0)) (lCons (eC (.int 1)) (lCons (eCall d__law_next (lCons (eVar 2) (lCons (eC (.int 8)) lNil))) (lCons (eC (.int 7)) (lCons (eCall d__law_next (lCons (eVar 2) (lCons (eC (.int 61)) lNil))) (lCons (eCall d__law_next (lCons (eVar 2) (lCons (eC (.int 401)) lNil))) (lCons (eC (.int 400)) lNil)))))))) lNil))) (bName 3))
(sSeq (sAsg (eCall d__law_pick (lCons (eVar 2) (lCons (eLst (lCons (eC (.int 0)) (lCons (eVar 3) (lCons (eCallB (bII minII) (lCons (eVar 3) (lCons (eC (.int 1)) lNil))) (lCons (eCall d__law_next (lCons (eVar 2) (lCons (eOp opAdd (eVar 3) (eC (.int 1))) lNil))) (lCons (eCall d__law_next (lCons (eVar 2) (lCons (eOp opAdd (eVar 3) (eC (.int 1))) lNil))) lNil)))))) lNil))) (bName 4))
(sSeq (sAsg (eCall d__law_pick (lCons (eVar 2) (lCons (eLst (lCons (eC (.int 0)) (lCons (eVar 3) (lCons (eCallB (bII minII) (lCons (eVar 3) (lCons (eC (.int 1)) lNil))) (lCons (eCall d__law_next (lCons (eVar 2) (lCons (eOp opAdd (eVar 3) (eC (.int 1))) lNil))) (lCons (eOp opSub (eVar 3) (eVar 4)) lNil)))))) lNil))) (bName 5))
(sSeq (sAsg (eCall d__law_lowest (lCons (eCall d__law_ways (lCons (eOp opSub (eVar 3) (eVar 4)) (lCons (eVar 5) lNil))) (lCons (eCall d__law_ways (lCons (eVar 3) (lCons (eVar 5) lNil))) lNil))) (bName 6))
(sSeq (sIf (eAnd (eOp opLt (eVar 3) (eC (.int 8))) (eOp opNe (eCall d__law_gone_through (lCons (eVar 3) (lCons (eVar 4) (lCons (eVar 5) lNil)))) (eVar 6)))
(sRet (eC (.bl false)))
sSkip)
(sSeq (sAsg (eCall d_chance (lCons (eVar 3) (lCons (eVar 4) (lCons (eVar 5) lNil)))) (bName 7))
(sSeq (sIf (eOr (eNot (eCall d__law_share_good (lCons (eVar 7) lNil))) (eOp opNe (eVar 7) (eVar 6)))
(sRet (eC (.bl false)))
sSkip)
(sSeq (sIf (eAnd (eOp opLt (eVar 5) (eVar 3)) (eCall d__law_over (lCons (eCall d_chance (lCons (eVar 3) (lCons (eVar 4) (lCons (eOp opAdd (eVar 5) (eC (.int 1))) lNil)))) (lCons (eVar 6) lNil))))
(sRet (eC (.bl false)))
sSkip)
(sSeq (sIf (eOp opEq (eVar 4) (eC (.int 0)))
(sRet (eOp opEq (eVar 6) (eTup (lCons (eC (.int 1)) (lCons (eC (.int 1)) lNil)))))
sSkip)
(sSeq (sAsg (eCall d__law_lowest (lCons (eCall d__law_next (lCons (eVar 2) (lCons (eC (.int 100)) lNil))) (lCons (eC (.int 100)) lNil))) (bName 8))
(sSeq (sFor (iSeq (eLst (lCons (eVar 6) (lCons (eVar 8) (lCons (eTup (lCons (eC (.int 0)) (lCons (eC (.int 1)) lNil))) (lCons (eTup (lCons (eC (.int 1)) (lCons (eC (.int 1)) lNil))) (lCons (eTup (lCons (eC (.int 7)) (lCons (eC (.int 3)) lNil))) (lCons (eCall d__law_lowest (lCons (eOp opMul (eOp opIx (eVar 6) (eC (.int 0))) (eC (.int 999))) (lCons (eOp opMul (eOp opIx (eVar 6) (eC (.int 1))) (eC (.int 1000))) lNil))) (lCons (eTup (lCons (eC (.int 1)) (lCons (eC (.int 1000003)) lNil))) lNil))))))))) (bName 9) g__law_right_b1)
(sRet (eC (.bl true)))))))))))))))
def d__law_right : FD := fnF .pure 11 g__law_right
def g_law_b1 : SM :=
(sIf (eNot (eCall d__law_right (lCons (eVar 2) (lCons (eVar 1) lNil))))
(sRet (eC (.bl false)))
sSkip)
def g_law : SM :=
(sSeq (sFor (iEnumD (lCons (eSlice (eOp opAdd (eVar 0) (eLst (lCons (eC (.int 3)) lNil))) oNone (oSome (eCallB (bII maxII) (lCons (eC (.int 1)) (lCons (eCallB (bII minII) (lCons (eC (.int 8)) (lCons (eCallB bLen (lCons (eVar 0) lNil)) lNil))) lNil))))) lNil)) (bTup (bCons (bName 1) (bCons (bName 2) bNil))) g_law_b1)
(sRet (eC (.bl true))))
def d_law : FD := fnF .pure 3 g_law
end
end K45
end
section
/-! Loops, comprehensions and equality of plain lists. -/
namespace DL
open PySem L2
theorem forD_cons {b : D → EnvD → Option EnvD} {body : SM} {d : D} {ds : List D} {e : EnvD} {S : Store} : forD b body (d :: ds) e S = match b d e with
    | none => .bad
    | some e1 => match body e1 S with
      | .nx e2 S2 => forD b body ds e2 S2
      | .ct e2 S2 => forD b body ds e2 S2
      | .bk e2 S2 => .nx e2 S2
      | .rt d S2 => .rt d S2
      | .ex x e2 S2 => .ex x e2 S2
      | .bad => .bad := rfl
/-- a loop that is never left, by what holds of the turn, the slots and the store -/
theorem forD_inv {b : D → EnvD → Option EnvD} {body : SM} (P : Nat → EnvD → Store → Prop) : ∀ (ds : List D) (n : Nat) {e : EnvD} {S : Store}, P n e S →
    (∀ i d e S, ds[i]? = some d → P (n + i) e S → ∃ e1, b d e = some e1 ∧ ∃ e2 S2, (body e1 S = .nx e2 S2 ∨ body e1 S = .ct e2 S2) ∧ P (n + i + 1) e2 S2) → ∃ e' S', forD b body ds e S = .nx e' S' ∧ P (n + ds.length) e' S'
  | [], n, e, S, h0, _ => ⟨e, S, rfl, h0⟩
  | d :: ds, n, e, S, h0, st => by
    obtain ⟨e1, hb, e2, S2, hg, h1⟩ := st 0 d e S rfl h0
    obtain ⟨e', S', hf, h2⟩ := forD_inv P ds (n + 1) (e := e2) (S := S2) h1 fun i d' e S hd hp => by
      have := st (i + 1) d' e S (by simpa using hd) (by rw [show n + (i + 1) = n + 1 + i by omega]; exact hp)
      rw [show n + (i + 1) + 1 = n + 1 + i + 1 by omega] at this
      exact this
    refine ⟨e', S', ?_, by rw [show n + (d :: ds).length = n + 1 + ds.length by simp; omega]; exact h2⟩
    rw [forD_cons, hb]
    dsimp only
    rcases hg with hg | hg <;> rw [hg] <;> exact hf
theorem range_get {lo : Int} {n i : Nat} {d : D} (h : (rangeD lo n)[i]? = some d) : i < n ∧ d = .int (lo + (i : Nat)) := by
  unfold rangeD at h
  rw [List.getElem?_map] at h
  obtain ⟨j, e1, e2⟩ := Option.map_eq_some_iff.mp h
  obtain ⟨hl, e3⟩ := List.getElem?_eq_some_iff.mp e1
  simp at hl e3
  subst e3 e2
  exact ⟨hl, rfl⟩
@[simp] theorem range_len {lo : Int} {n : Nat} : (rangeD lo n).length = n := by simp [rangeD]
/-- for k in range(n) -/
theorem forD_range {b : D → EnvD → Option EnvD} {body : SM} (P : Nat → EnvD → Store → Prop) {lo : Int} {n : Nat} {e : EnvD} {S : Store} (h0 : P 0 e S)
    (st : ∀ i e S, i < n → P i e S → ∃ e1, b (.int (lo + (i : Nat))) e = some e1 ∧ ∃ e2 S2, (body e1 S = .nx e2 S2 ∨ body e1 S = .ct e2 S2) ∧ P (i + 1) e2 S2) : ∃ e' S', forD b body (rangeD lo n) e S = .nx e' S' ∧ P n e' S' := by
  obtain ⟨e', S', h1, h2⟩ := forD_inv (b := b) (body := body) P (rangeD lo n) 0 h0 fun i d e S hd hp => by
    obtain ⟨hl, rfl⟩ := range_get hd
    have := st i e S hl (by simpa using hp)
    simpa using this
  exact ⟨e', S', h1, by simpa using h2⟩
/-- a comprehension whose parts leave the store: filter, then map -/
theorem lcD_fm {b : D → EnvD → Option EnvD} {tt elt : EM} {env : EnvD} {S : Store} (p : D → Bool) (f : D → D) : ∀ (ds acc : List D),
    (∀ d ∈ ds, ∃ e1, b d env = some e1 ∧ tt e1 S = .ok (.bl (p d)) S ∧ (p d = true → elt e1 S = .ok (f d) S)) → acc.length + ds.length ≤ 16777216 → lcD b tt elt env acc ds S = .ok (acc ++ (ds.filter p).map f) S
  | [], acc, _, _ => by simp
  | d :: ds, acc, h, hl => by
    obtain ⟨e1, hb, ht, he⟩ := h d List.mem_cons_self
    have hl' : acc.length + (ds.length + 1) ≤ 16777216 := hl
    unfold lcD
    rw [hb]
    dsimp only
    rw [ht]
    cases hp : p d with
    | true =>
      dsimp only
      rw [he hp]
      dsimp only
      rw [if_pos (show sz (acc.length + 1) by unfold sz; omega), lcD_fm p f ds _ (fun d' hd => h d' (List.mem_cons_of_mem _ hd)) (by simp; omega)]
      simp [List.filter_cons, hp]
    | false =>
      dsimp only
      rw [lcD_fm p f ds acc (fun d' hd => h d' (List.mem_cons_of_mem _ hd)) (by omega)]
      simp [List.filter_cons, hp]
theorem lcD_map {b : D → EnvD → Option EnvD} {elt : EM} {env : EnvD} {S : Store} (f : D → D) (ds : List D)
    (h : ∀ d ∈ ds, ∃ e1, b d env = some e1 ∧ elt e1 S = .ok (f d) S) (hl : ds.length ≤ 16777216) : lcD b eYes elt env [] ds S = .ok (ds.map f) S := by
  rw [lcD_fm (tt := eYes) (fun _ => true) f ds [] (fun d hd => let ⟨e1, a, c⟩ := h d hd; ⟨e1, a, rfl, fun _ => c⟩) (by simpa using hl), List.nil_append, List.filter_eq_self.mpr (fun _ _ => rfl)]
/-! equality of lists and tuples of whole numbers -/
theorem pys_ints {S : Store} : ∀ ns : List Int, D.pys S (ns.map .int) = some (ns.map .int)
  | [] => rfl
  | n :: ns => by simp [D.pys, D.py, pys_ints ns]
theorem eqv_ints : ∀ as bs : List Int, PyData.eqvAll (as.map .int) (bs.map .int) = decide (as = bs)
  | [], [] => rfl
  | [], _ :: _ => rfl
  | _ :: _, [] => rfl
  | a :: as, b :: bs => by
    show (PyData.eqv (.int a) (.int b) && PyData.eqvAll (as.map .int) (bs.map .int)) = _
    rw [eqv_ints as bs]
    show ((a == b) && decide (as = bs)) = _
    by_cases h : a = b
    · subst h; simp
    · simp [h]
/-- data whose texts may be laid, not deeper than k -/
def Shp (k : Nat) (p : PyData) : Prop := p.canLay0 = true ∧ p.depth ≤ k
theorem Shp.shaped {k : Nat} {p : PyData} (h : Shp k p) (hk : k ≤ 64) : SeqAt.shaped p = true := by
  unfold SeqAt.shaped
  rw [h.1, decide_eq_true (by have := h.2; omega : p.depth ≤ 64)]; rfl
theorem Shp.mono {k m : Nat} {p : PyData} (h : Shp k p) (hk : k ≤ m) : Shp m p := ⟨h.1, Nat.le_trans h.2 hk⟩
theorem Shp.int {k : Nat} (i : Int) : Shp k (.int i) := ⟨rfl, Nat.zero_le _⟩
theorem Shp.bool {k : Nat} (i : Bool) : Shp k (.bool i) := ⟨rfl, Nat.zero_le _⟩
theorem Shp.none {k : Nat} : Shp k .none := ⟨rfl, Nat.zero_le _⟩
theorem Shp.str {k : Nat} {x : Str} (h : PyData.strOk x = true) : Shp k (.str x) := ⟨h, Nat.zero_le _⟩
theorem Shp.all {k : Nat} : ∀ {ps : List PyData}, (∀ p ∈ ps, Shp k p) → PyData.canLayAll0 ps = true ∧ PyData.depthAll ps ≤ k
  | [], _ => ⟨rfl, Nat.zero_le _⟩
  | p :: ps, h => by
    obtain ⟨h1, h2⟩ := h p List.mem_cons_self
    obtain ⟨h3, h4⟩ := Shp.all fun q hq => h q (List.mem_cons_of_mem _ hq)
    refine ⟨?_, Nat.max_le.mpr ⟨h2, h4⟩⟩
    show (p.canLay0 && PyData.canLayAll0 ps) = true
    rw [h1, h3]; rfl
theorem Shp.list {k : Nat} {ps : List PyData} (h : ∀ p ∈ ps, Shp k p) : Shp (k + 1) (.list ps) := ⟨(Shp.all h).1, Nat.succ_le_succ (Shp.all h).2⟩
theorem Shp.tuple {k : Nat} {ps : List PyData} (h : ∀ p ∈ ps, Shp k p) : Shp (k + 1) (.tuple ps) := ⟨(Shp.all h).1, Nat.succ_le_succ (Shp.all h).2⟩
theorem Shp.ints {k : Nat} {ns : List Int} : ∀ p ∈ ns.map PyData.int, Shp k p := fun p hp => by
  obtain ⟨i, _, rfl⟩ := List.mem_map.mp hp
  exact .int i
theorem opEqB_of {neg : Bool} {x y : D} {S : Store} {p q : PyData} (hx : x.pyO S = some p) (hy : y.pyO S = some q) (h1 : SeqAt.shaped p = true) (h2 : SeqAt.shaped q = true) (ns : ∀ a b, x = .str a → y = .str b → False) :
    opEqB neg x y S = .ok (.bl (if neg then !PyData.eqv p q else PyData.eqv p q)) S := by
  unfold opEqB
  split
  · exact (ns _ _ rfl rfl).elim
  · rw [hx, hy]
    simp only [h1, h2, Bool.and_self, if_true]
@[simp] theorem opEq_tints {as bs : List Int} {S : Store} : opEq (.tup (as.map .int)) (.tup (bs.map .int)) S = .ok (.bl (decide (as = bs))) S := by
  rw [opEq, opEqB_of (p := .tuple (as.map .int)) (q := .tuple (bs.map .int)) (by simp [D.pyO, D.py, pys_ints]) (by simp [D.pyO, D.py, pys_ints]) ((Shp.tuple (k := 0) Shp.ints).shaped (by decide)) ((Shp.tuple (k := 0) Shp.ints).shaped (by decide)) (fun _ _ h => by cases h), PyData.eqv, eqv_ints]
  rfl
@[simp] theorem opNe_tints {as bs : List Int} {S : Store} : opNe (.tup (as.map .int)) (.tup (bs.map .int)) S = .ok (.bl (!decide (as = bs))) S := by
  rw [opNe, opEqB_of (p := .tuple (as.map .int)) (q := .tuple (bs.map .int)) (by simp [D.pyO, D.py, pys_ints]) (by simp [D.pyO, D.py, pys_ints]) ((Shp.tuple (k := 0) Shp.ints).shaped (by decide)) ((Shp.tuple (k := 0) Shp.ints).shaped (by decide)) (fun _ _ h => by cases h), PyData.eqv, eqv_ints]
  rfl
@[simp] theorem opEq_lints {as bs : List Int} {S : Store} : opEq (.lst (as.map .int)) (.lst (bs.map .int)) S = .ok (.bl (decide (as = bs))) S := by
  rw [opEq, opEqB_of (p := .list (as.map .int)) (q := .list (bs.map .int)) (by simp [D.pyO, D.py, pys_ints]) (by simp [D.pyO, D.py, pys_ints]) ((Shp.list (k := 0) Shp.ints).shaped (by decide)) ((Shp.list (k := 0) Shp.ints).shaped (by decide)) (fun _ _ h => by cases h), PyData.eqv, eqv_ints]
  rfl
@[simp] theorem opNe_lints {as bs : List Int} {S : Store} : opNe (.lst (as.map .int)) (.lst (bs.map .int)) S = .ok (.bl (!decide (as = bs))) S := by
  rw [opNe, opEqB_of (p := .list (as.map .int)) (q := .list (bs.map .int)) (by simp [D.pyO, D.py, pys_ints]) (by simp [D.pyO, D.py, pys_ints]) ((Shp.list (k := 0) Shp.ints).shaped (by decide)) ((Shp.list (k := 0) Shp.ints).shaped (by decide)) (fun _ _ h => by cases h), PyData.eqv, eqv_ints]
  rfl
theorem opEq_t2 {a b c d : Int} {S : Store} : opEq (.tup [.int a, .int b]) (.tup [.int c, .int d]) S = .ok (.bl (decide (a = c ∧ b = d))) S := by
  have := opEq_tints (as := [a, b]) (bs := [c, d]) (S := S)
  simpa using this
theorem opNe_t2 {a b c d : Int} {S : Store} : opNe (.tup [.int a, .int b]) (.tup [.int c, .int d]) S = .ok (.bl (!decide (a = c ∧ b = d))) S := by
  have := opNe_tints (as := [a, b]) (bs := [c, d]) (S := S)
  simpa using this
@[simp] theorem exit_bl0 {b : Bool} {S : Store} : exitD .pure [] (.bl b) S = .ok (.bl b) [] := exit_of (d' := .bl b) rfl (by simp)
theorem cut_map {α β : Type} (f : α → β) (xs : List α) (lo hi : Option Int) : cutD (xs.map f) lo hi = (cutD xs lo hi).map f := by
  simp [cutD]
theorem cut_len {α : Type} (xs : List α) (lo hi : Option Int) : (cutD xs lo hi).length ≤ xs.length := by
  unfold cutD
  rw [List.length_take, List.length_drop]; omega
/-- the law's own loop: every cell of the script, with its number -/
theorem law_loop {b : D → EnvD → Option EnvD} {body : SM} {e : EnvD} {S : Store} (P : EnvD → Prop) (ms : List Int) (h0 : P e)
    (st : ∀ (i : Nat) (c : Int) (e : EnvD), i < ms.length → P e → ∃ e1 e2, b (.tup [.int (i : Nat), .int c]) e = some e1 ∧ body e1 S = .nx e2 S ∧ P e2) : ∃ e', forD b body (enumD 0 (ms.map .int)) e S = .nx e' S := by
  obtain ⟨e', S', h, _, rfl⟩ := forD_inv (b := b) (body := body) (fun _ e S' => P e ∧ S' = S) (enumD 0 (ms.map .int)) 0 (e := e) (S := S) ⟨h0, rfl⟩ (by
    rintro i d e S' hd ⟨hp, rfl⟩
    obtain ⟨x, hx, rfl⟩ := enumD_get 0 _ i d hd
    rw [List.getElem?_map] at hx
    obtain ⟨c, hc, rfl⟩ := Option.map_eq_some_iff.mp hx
    have hi : i < ms.length := (List.getElem?_eq_some_iff.mp hc).1
    obtain ⟨e1, e2, h1, h2, h3⟩ := st i c e hi hp
    rw [Nat.zero_add]
    exact ⟨e1, h1, e2, S', .inl h2, h3, rfl⟩)
  exact ⟨e', h⟩
end DL
end
section
/-! The laws' draws. -/
namespace DL
open PySem L2
/-- a row of draws of which at most m were drawn -/
structure Drw (c : Cell) (m : Nat) : Prop where
  ex : ∃ a s k : Int, c = .lst [.int a, .int s, .int k] ∧ 0 ≤ a ∧ 0 ≤ s ∧ s < 2147483648 ∧ 0 ≤ k ∧ k ≤ m
theorem Drw.mono {c : Cell} {m n : Nat} (d : Drw c m) (h : m ≤ n) : Drw c n := by
  obtain ⟨a, s, k, e, h1, h2, h3, h4, h5⟩ := d.ex
  exact ⟨a, s, k, e, h1, h2, h3, h4, by omega⟩
theorem next_ok {S : Store} {l : Nat} {c : Cell} {m : Nat} {n : Int} (hc : cel S l = some c) (d : Drw c m) (hm : m ≤ 100000) (hn : 0 < n) (hn2 : n < 1073741824) :
    ∃ x c', d__law_next [.loc l, .int n] S = .ok (.int x) (S.set l c') ∧ 0 ≤ x ∧ x < n ∧ Drw c' (m + 1) := by
  obtain ⟨a, s, k, rfl, ha, hs, hs2, hk, hk2⟩ := d.ex
  by_cases h0 : 0 < a
  · refine ⟨a % n, .lst [.int (a / n), .int s, .int k], ?_, Int.emod_nonneg _ (by omega), Int.emod_lt_of_pos _ hn, ⟨_, _, _, rfl, Int.ediv_nonneg ha (by omega), hs, hs2, hk, by omega⟩⟩
    simp [d__law_next, g__law_next, hc, h0, hn, hn2]
  · have e1 : (s * (2 * (k + 1) + 1) + 7919 * (k + 1) * (k + 1) + 11).natAbs < 2 ^ 64 := by
      have h1 : s * (2 * (k + 1) + 1) ≤ 2147483648 * (2 * (k + 1) + 1) := Int.mul_le_mul_of_nonneg_right (by omega) (by omega)
      have h2 : 0 ≤ s * (2 * (k + 1) + 1) := Int.mul_nonneg hs (by omega)
      have h3 : 7919 * (k + 1) * (k + 1) ≤ 7919 * 100001 * (k + 1) := Int.mul_le_mul_of_nonneg_right (by omega) (by omega)
      have h4 : 0 ≤ 7919 * (k + 1) * (k + 1) := Int.mul_nonneg (by omega) (by omega)
      omega
    refine ⟨((s * (2 * (k + 1) + 1) + 7919 * (k + 1) * (k + 1) + 11) ^ 5 % 2147483647) / 11 % n, .lst [.int a, .int s, .int (k + 1)], ?_, Int.emod_nonneg _ (by omega), Int.emod_lt_of_pos _ hn, ⟨_, _, _, rfl, ha, hs, hs2, by omega, by omega⟩⟩
    have m1 : s.natAbs < 18446744073709551616 := by omega
    have m2 : (k + 1).natAbs < 18446744073709551616 := by omega
    simp [d__law_next, g__law_next, hc, h0, hn, hn2, m1, m2, e1]
theorem begun_ok {S : Store} {a k : Int} (hk : 0 ≤ k) (hk2 : k ≤ 100000) : ∃ c, d__law_begun [.int a, .int k] S = .ok (.loc S.length) (S ++ [c]) ∧ Drw c 0 := by
  have h1 : 0 ≤ a % 2147483647 := Int.emod_nonneg _ (by omega)
  have h2 : a % 2147483647 < 2147483647 := Int.emod_lt_of_pos _ (by omega)
  have e1 : (a % 2147483647 * 48271 + 104729 * k + 7).natAbs < 2 ^ 64 := by omega
  have m1 : (a % 2147483647).natAbs < 18446744073709551616 := by omega
  have h3 : 0 ≤ (a % 2147483647 * 48271 + 104729 * k + 7) ^ 3 % 2147483629 := Int.emod_nonneg _ (by omega)
  have h4 : (a % 2147483647 * 48271 + 104729 * k + 7) ^ 3 % 2147483629 < 2147483629 := Int.emod_lt_of_pos _ (by omega)
  by_cases h : 1000000000000000000 ≤ a
  · refine ⟨.lst [.int (a - 1000000000000000000), .int (1 + (a % 2147483647 * 48271 + 104729 * k + 7) ^ 3 % 2147483629), .int 0], ?_, ⟨_, _, _, rfl, by omega, by omega, by omega, by omega, by omega⟩⟩
    simp [d__law_begun, g__law_begun, h, e1]
  · refine ⟨.lst [.int 0, .int (1 + (a % 2147483647 * 48271 + 104729 * k + 7) ^ 3 % 2147483629), .int 0], ?_, ⟨_, _, _, rfl, by omega, by omega, by omega, by omega, by omega⟩⟩
    simp [d__law_begun, g__law_begun, h, e1]
theorem atI_mem {α : Type} {ds : List α} {i : Int} (h0 : 0 ≤ i) (h1 : i < ds.length) : ∃ d ∈ ds, atI ds i = some d := by
  obtain ⟨j, rfl⟩ := Int.eq_ofNat_of_zero_le h0
  have hj : j < ds.length := by omega
  exact ⟨ds[j], List.getElem_mem hj, atI_nat (List.getElem?_eq_getElem hj)⟩
theorem pick_ok {S : Store} {l : Nat} {c : Cell} {m : Nat} {ds : List D} (hc : cel S l = some c) (d : Drw c m) (hm : m ≤ 100000) (hn : ds ≠ []) (hn2 : ds.length < 1073741824) :
    ∃ x ∈ ds, ∃ c', d__law_pick [.loc l, .lst ds] S = .ok x (S.set l c') ∧ Drw c' (m + 1) := by
  have hp : 0 < ds.length := List.length_pos_iff.mpr hn
  obtain ⟨i, c', e, h0, h1, d'⟩ := next_ok (n := ds.length) hc d hm (by omega) (by omega)
  obtain ⟨x, hx, e2⟩ := atI_mem h0 h1
  refine ⟨x, hx, c', ?_, d'⟩
  simp [d__law_pick, g__law_pick, e, e2]
theorem pick_okT {S : Store} {l : Nat} {c : Cell} {m : Nat} {ds : List D} (hc : cel S l = some c) (d : Drw c m) (hm : m ≤ 100000) (hn : ds ≠ []) (hn2 : ds.length < 1073741824) :
    ∃ x ∈ ds, ∃ c', d__law_pick [.loc l, .tup ds] S = .ok x (S.set l c') ∧ Drw c' (m + 1) := by
  have hp : 0 < ds.length := List.length_pos_iff.mpr hn
  obtain ⟨i, c', e, h0, h1, d'⟩ := next_ok (n := ds.length) hc d hm (by omega) (by omega)
  obtain ⟨x, hx, e2⟩ := atI_mem h0 h1
  refine ⟨x, hx, c', ?_, d'⟩
  simp [d__law_pick, g__law_pick, e, e2]
end DL
namespace DL
open PySem L2
/-! the same where the draws' cell stands alone -/
theorem next1 {c : Cell} {m : Nat} (n : Int) (d : Drw c m) (hm : m ≤ 100000) (hn : 0 < n) (hn2 : n < 1073741824) :
    ∃ x c', d__law_next [.loc 0, .int n] [c] = .ok (.int x) [c'] ∧ 0 ≤ x ∧ x < n ∧ Drw c' (m + 1) := next_ok (S := [c]) (l := 0) rfl d hm hn hn2
theorem begun1 (a : Int) {k : Int} (hk : 0 ≤ k) (hk2 : k ≤ 100000) : ∃ c, d__law_begun [.int a, .int k] [] = .ok (.loc 0) [c] ∧ Drw c 0 := begun_ok (S := []) hk hk2
theorem pick1 {c : Cell} {m : Nat} (ds : List D) (d : Drw c m) (hm : m ≤ 100000) (hn : ds ≠ []) (hn2 : ds.length < 1073741824) :
    ∃ x ∈ ds, ∃ c', d__law_pick [.loc 0, .lst ds] [c] = .ok x [c'] ∧ Drw c' (m + 1) := pick_ok (S := [c]) (l := 0) rfl d hm hn hn2
theorem pick1T {c : Cell} {m : Nat} (ds : List D) (d : Drw c m) (hm : m ≤ 100000) (hn : ds ≠ []) (hn2 : ds.length < 1073741824) :
    ∃ x ∈ ds, ∃ c', d__law_pick [.loc 0, .tup ds] [c] = .ok x [c'] ∧ Drw c' (m + 1) := pick_okT (S := [c]) (l := 0) rfl d hm hn hn2
end DL
end
section
/-! Shares in lowest terms: the program's own lowest and the laws'. -/
namespace DL
open PySem L2
@[simp] theorem sWhile_is {c : EM} {b : SM} {e : EnvD} {S : Store} : sWhile c b e S = whileD c b bigN e S := rfl
theorem whileD_succ {c : EM} {b : SM} {n : Nat} {e : EnvD} {S : Store} : whileD c b (n + 1) e S = match c e S with
    | .ok (.bl true) S1 => match b e S1 with
      | .nx e2 S2 => whileD c b n e2 S2
      | .ct e2 S2 => whileD c b n e2 S2
      | .bk e2 S2 => .nx e2 S2
      | .rt d S2 => .rt d S2
      | .ex x e2 S2 => .ex x e2 S2
      | .bad => .bad
    | .ok (.bl false) S1 => .nx e S1
    | .ex x S1 => .ex x e S1
    | _ => .bad := rfl
theorem gcd_loop {A B : Option D} {S : Store} {c : EM} {body : SM} (hc0 : ∀ x : Nat, c [A, B, some (.int x), some (.int 0)] S = .ok (.bl false) S) (hc1 : ∀ x y : Nat, y ≠ 0 → c [A, B, some (.int x), some (.int y)] S = .ok (.bl true) S)
    (hb : ∀ x y : Nat, y ≠ 0 → body [A, B, some (.int x), some (.int y)] S = .nx [A, B, some (.int y), some (.int ((x % y : Nat) : Int))] S) :
    ∀ (k x y n : Nat), y < 2 ^ k → 2 * k + 1 ≤ n → whileD c body n [A, B, some (.int x), some (.int y)] S = .nx [A, B, some (.int ((Nat.gcd x y : Nat) : Int)), some (.int 0)] S := by
  have zero : ∀ (x n : Nat), 1 ≤ n → whileD c body n [A, B, some (.int x), some (.int (0 : Nat))] S = .nx [A, B, some (.int ((Nat.gcd x 0 : Nat) : Int)), some (.int 0)] S := fun x n hn => by
    obtain ⟨m, rfl⟩ : ∃ m, n = m + 1 := ⟨n - 1, by omega⟩
    rw [whileD_succ, show ((0 : Nat) : Int) = 0 from rfl, hc0, Nat.gcd_zero_right]
  intro k
  induction k with
  | zero =>
    intro x y n hy hn
    have : y = 0 := by omega
    subst this
    exact zero x n (by omega)
  | succ k ih =>
    intro x y n hy hn
    by_cases h0 : y = 0
    · subst h0; exact zero x n (by omega)
    · obtain ⟨m, rfl⟩ : ∃ m, n = m + 1 := ⟨n - 1, by omega⟩
      rw [whileD_succ, hc1 x y h0]
      dsimp only
      rw [hb x y h0]
      dsimp only
      have e1 : Nat.gcd x y = Nat.gcd y (x % y) := by rw [Nat.gcd_comm x y, Nat.gcd_rec y x, Nat.gcd_comm]
      rw [e1]
      have hlt : x % y < y := Nat.mod_lt _ (by omega)
      generalize x % y = r at hlt
      by_cases hr : r = 0
      · subst hr; exact zero y m (by omega)
      · obtain ⟨m', rfl⟩ : ∃ m', m = m' + 1 := ⟨m - 1, by omega⟩
        rw [whileD_succ, hc1 y r hr]
        dsimp only
        rw [hb y r hr]
        dsimp only
        have e2 : Nat.gcd y r = Nat.gcd r (y % r) := by rw [Nat.gcd_comm y r, Nat.gcd_rec r y, Nat.gcd_comm]
        rw [e2]
        refine ih r (y % r) m' ?_ (by omega)
        have h1 := Nat.mod_add_div y r
        have h2 : 1 ≤ y / r := Nat.div_pos (by omega) (by omega)
        have h3 : r * 1 ≤ r * (y / r) := Nat.mul_le_mul_left _ h2
        have h4 : y % r < r := Nat.mod_lt _ (by omega)
        have h5 : 2 ^ (k + 1) = 2 * 2 ^ k := by rw [Nat.pow_succ]; omega
        omega
theorem bigN_ge {k : Nat} (h : k ≤ 9000000) : 2 * k + 1 ≤ bigN := Nat.le_trans (by omega : 2 * k + 1 ≤ 18000001) (by decide)
/-- the share x / y in lowest terms -/
def lowD (x y : Nat) : D := .tup [.int ((x / Nat.gcd x y : Nat) : Int), .int ((y / Nat.gcd x y : Nat) : Int)]
theorem gcd_fit {x y : Nat} (hy : 0 < y) (h : y < 2 ^ 8999) : divOk ((Nat.gcd x y : Nat) : Int) := by
  have h1 : 0 < Nat.gcd x y := Nat.gcd_pos_of_pos_right _ hy
  have h2 : Nat.gcd x y ≤ y := Nat.gcd_le_right _ hy
  refine divOk_w (by omega) ?_
  rw [Int.natAbs_natCast]
  exact Nat.lt_of_lt_of_le ((Nat.log2_lt (by omega)).mpr (Nat.lt_of_le_of_lt h2 h)) (by decide)
theorem ndiv {a b : Nat} : ((a : Int) / (b : Int)) = ((a / b : Nat) : Int) := (Int.natCast_ediv a b).symm
theorem nmod {a b : Nat} : ((a : Int) % (b : Int)) = ((a % b : Nat) : Int) := (Int.natCast_emod a b).symm
theorem lowest_ok {S : Store} {x y : Nat} (hy : 0 < y) (h : y < 2 ^ 8999) : d_lowest [.int x, .int y] S = .ok (lowD x y) S := by
  have l := gcd_loop (S := S) (A := some (.int x)) (B := some (.int y)) (c := g_lowest_c1) (body := g_lowest_b1)
    (fun a => by simp [g_lowest_c1]) (fun a b hb => by simp [g_lowest_c1, hb]) (fun a b hb => by
      have : 0 < b := by omega
      simp [g_lowest_b1, this]) 8999 x y bigN h (bigN_ge (by decide))
  have g1 := gcd_fit (x := x) hy h
  have e1 : (x : Int) / ((Nat.gcd x y : Nat) : Int) = ((x / Nat.gcd x y : Nat) : Int) := ndiv
  have e2 : (y : Int) / ((Nat.gcd x y : Nat) : Int) = ((y / Nat.gcd x y : Nat) : Int) := ndiv
  unfold d_lowest g_lowest lowD
  simp [l, g1, e1, e2, -Int.natCast_ediv]
theorem law_lowest_ok {S : Store} {x y : Nat} (hy : 0 < y) (h : y < 2 ^ 8999) : d__law_lowest [.int x, .int y] S = .ok (lowD x y) S := by
  have l := gcd_loop (S := S) (A := some (.int x)) (B := some (.int y)) (c := g__law_lowest_c1) (body := g__law_lowest_b1)
    (fun a => by simp [g__law_lowest_c1]) (fun a b hb => by
      have : 0 < b := by omega
      simp [g__law_lowest_c1, this]) (fun a b hb => by
      have : 0 < b := by omega
      simp [g__law_lowest_b1, this]) 8999 x y bigN h (bigN_ge (by decide))
  have g1 := gcd_fit (x := x) hy h
  have e1 : (x : Int) / ((Nat.gcd x y : Nat) : Int) = ((x / Nat.gcd x y : Nat) : Int) := ndiv
  have e2 : (y : Int) / ((Nat.gcd x y : Nat) : Int) = ((y / Nat.gcd x y : Nat) : Int) := ndiv
  unfold d__law_lowest g__law_lowest lowD
  simp [l, g1, e1, e2, -Int.natCast_ediv]
/-- n / d is x / y in lowest terms -/
structure IsLow (n d x y : Nat) : Prop where
  eq : n * y = x * d
  cop : Nat.gcd n d = 1
  pos : 0 < d
theorem isLow_of {x y : Nat} (hy : 0 < y) : IsLow (x / Nat.gcd x y) (y / Nat.gcd x y) x y := by
  have g0 : 0 < Nat.gcd x y := Nat.gcd_pos_of_pos_right _ hy
  refine ⟨?_, Nat.gcd_div_gcd_div_gcd_of_pos_right hy, Nat.div_pos (Nat.gcd_le_right _ hy) g0⟩
  have h1 := Nat.div_mul_cancel (Nat.gcd_dvd_left x y)
  have h2 := Nat.div_mul_cancel (Nat.gcd_dvd_right x y)
  generalize Nat.gcd x y = g at *
  generalize x / g = a at *
  generalize y / g = b at *
  rw [← h1, ← h2, Nat.mul_assoc, Nat.mul_comm b g]
theorem IsLow.unique {n d n' d' x y : Nat} (h : IsLow n d x y) (h' : IsLow n' d' x y) (hy : 0 < y) : n = n' ∧ d = d' := by
  have e : n * d' = n' * d := by
    have h1 := h.eq
    have h2 := h'.eq
    have : (n * d') * y = (n' * d) * y := by
      calc (n * d') * y = (n * y) * d' := by rw [Nat.mul_assoc, Nat.mul_comm d' y, ← Nat.mul_assoc]
        _ = (x * d) * d' := by rw [h1]
        _ = (x * d') * d := by rw [Nat.mul_assoc, Nat.mul_comm d d', ← Nat.mul_assoc]
        _ = (n' * y) * d := by rw [h2]
        _ = (n' * d) * y := by rw [Nat.mul_assoc, Nat.mul_comm y d, ← Nat.mul_assoc]
    exact Nat.eq_of_mul_eq_mul_right hy this
  have d1 : d ∣ d' := by
    have : d ∣ n * d' := by rw [e]; exact Nat.dvd_mul_left _ _
    exact Nat.Coprime.dvd_of_dvd_mul_left (show Nat.Coprime d n by rw [Nat.Coprime, Nat.gcd_comm]; exact h.cop) this
  have d2 : d' ∣ d := by
    have : d' ∣ n' * d := by rw [← e]; exact Nat.dvd_mul_left _ _
    exact Nat.Coprime.dvd_of_dvd_mul_left (show Nat.Coprime d' n' by rw [Nat.Coprime, Nat.gcd_comm]; exact h'.cop) this
  have ed := Nat.dvd_antisymm d1 d2
  subst ed
  exact ⟨Nat.eq_of_mul_eq_mul_right h.pos e, rfl⟩
theorem IsLow.low {n d x y : Nat} (h : IsLow n d x y) (hy : 0 < y) : lowD x y = .tup [.int n, .int d] := by
  obtain ⟨e1, e2⟩ := (isLow_of (x := x) hy).unique h hy
  unfold lowD
  rw [e1, e2]
theorem IsLow.le {n d x y : Nat} (h : IsLow n d x y) (hy : 0 < y) : d ≤ y := by
  have : d ∣ n * y := by rw [h.eq]; exact Nat.dvd_mul_left _ _
  exact Nat.le_of_dvd hy (Nat.Coprime.dvd_of_dvd_mul_left (show Nat.Coprime d n by rw [Nat.Coprime, Nat.gcd_comm]; exact h.cop) this)
end DL
end
section
namespace K45
open PySem L2 DL
/-! ### the mathematics -/
def ch : Nat → Nat → Nat
  | _, 0 => 1
  | 0, _ + 1 => 0
  | n + 1, k + 1 => ch n k + ch n (k + 1)
theorem ch0 (n : Nat) : ch n 0 = 1 := by cases n <;> rfl
theorem absorb : ∀ n k : Nat, (k + 1) * ch (n + 1) (k + 1) = (n + 1) * ch n k
  | 0, 0 => rfl
  | 0, k + 1 => by simp [ch]
  | n + 1, 0 => by
    have h : (0 + 1) * ch (n + 1) (0 + 1) = (n + 1) * ch n 0 := absorb n 0
    rw [ch0] at h
    show (0 + 1) * (ch (n + 1) 0 + ch (n + 1) 1) = (n + 1 + 1) * ch (n + 1) 0
    rw [ch0]
    simp at h
    omega
  | n + 1, k + 1 => by
    have h1 := absorb n (k + 1)
    have h2 := absorb n k
    have e : ch (n + 2) (k + 2) = ch (n + 1) (k + 1) + ch (n + 1) (k + 2) := rfl
    have e2 : ch (n + 1) (k + 1) = ch n k + ch n (k + 1) := rfl
    rw [e, Nat.mul_add, h1, show k + 1 + 1 = (k + 1) + 1 from rfl, Nat.succ_mul (k + 1), h2]
    have : (n + 1 + 1) * ch (n + 1) (k + 1) = (n + 1) * ch (n + 1) (k + 1) + ch (n + 1) (k + 1) := Nat.succ_mul _ _
    rw [this, e2, Nat.mul_add]
    omega
/-- a (a - 1) .. , j factors -/
def ff (a : Nat) : Nat → Nat
  | 0 => 1
  | j + 1 => ff a j * (a - j)
theorem ff_succ (n : Nat) : ∀ k, ff (n + 1) (k + 1) = (n + 1) * ff n k
  | 0 => by simp [ff]
  | k + 1 => by
    have := ff_succ n k
    rw [ff, this, ff, show n + 1 - (k + 1) = n - k by omega, Nat.mul_assoc]
def fac : Nat → Nat
  | 0 => 1
  | k + 1 => (k + 1) * fac k
theorem fac_pos : ∀ k, 0 < fac k
  | 0 => by decide
  | k + 1 => Nat.mul_pos (by omega) (fac_pos k)
theorem ch_ff : ∀ n k : Nat, ch n k * fac k = ff n k
  | n, 0 => by simp [ch0, fac, ff]
  | 0, k + 1 => by
    have : ∀ j, ff 0 (j + 1) = 0 := fun j => by induction j with | zero => rfl | succ j ih => rw [ff, ih]; simp
    rw [this]; simp [ch]
  | n + 1, k + 1 => by
    rw [ff_succ, ← ch_ff n k, fac, ← Nat.mul_assoc, Nat.mul_comm (ch _ _), absorb, Nat.mul_assoc]
theorem ch_step (n k : Nat) : ch n k * (n - k) = ch n (k + 1) * (k + 1) := by
  have h : ch n (k + 1) * fac (k + 1) = ch n k * fac k * (n - k) := by rw [ch_ff, ch_ff]; rfl
  refine Nat.eq_of_mul_eq_mul_right (fac_pos k) ?_
  rw [fac] at h
  calc ch n k * (n - k) * fac k = ch n k * fac k * (n - k) := by rw [Nat.mul_assoc, Nat.mul_comm (n - k), ← Nat.mul_assoc]
    _ = ch n (k + 1) * ((k + 1) * fac k) := h.symm
    _ = _ := by rw [← Nat.mul_assoc]
theorem ff_pos {a : Nat} : ∀ {j : Nat}, j ≤ a → 0 < ff a j
  | 0, _ => Nat.one_pos
  | j + 1, h => Nat.mul_pos (ff_pos (by omega)) (by omega)
theorem ch_pos {n k : Nat} (h : k ≤ n) : 0 < ch n k := by
  have := ff_pos h
  rw [← ch_ff] at this
  exact Nat.pos_of_mul_pos_right this
theorem ff_le {a b : Nat} (hb : a ≤ b) : ∀ j, ff a j ≤ b ^ j
  | 0 => Nat.le_refl _
  | j + 1 => by rw [ff, Nat.pow_succ]; exact Nat.mul_le_mul (ff_le hb j) (by omega)
theorem ff_big {a j : Nat} (ha : a ≤ 400) (hj : j ≤ 401) : ff a j < 2 ^ 3620 := by
  have h1 := ff_le ha j
  have h2 : 400 ^ j ≤ 400 ^ 401 := Nat.pow_le_pow_right (by decide) hj
  have h3 : (400 : Nat) ^ 401 < 2 ^ 3620 := by decide +kernel
  omega
theorem ch_le {n k : Nat} : ch n k ≤ ff n k := by
  rw [← ch_ff]
  exact Nat.le_mul_of_pos_right _ (fac_pos k)
/-- the chance, as both programs reckon it -/
def F (t w : Nat) : Nat → Nat × Nat
  | 0 => (1, 1)
  | j + 1 => ((F t w j).1 * (t - w - j) / Nat.gcd ((F t w j).1 * (t - w - j)) ((F t w j).2 * (t - j)), (F t w j).2 * (t - j) / Nat.gcd ((F t w j).1 * (t - w - j)) ((F t w j).2 * (t - j)))
theorem low_step {n d N M x y : Nat} (h : IsLow n d N M) (hy : 0 < y) : IsLow (n * x / Nat.gcd (n * x) (d * y)) (d * y / Nat.gcd (n * x) (d * y)) (N * x) (M * y) := by
  have hd : 0 < d * y := Nat.mul_pos h.pos hy
  have l := isLow_of (x := n * x) hd
  generalize n * x / Nat.gcd (n * x) (d * y) = a at *
  generalize d * y / Nat.gcd (n * x) (d * y) = b at *
  refine ⟨?_, l.cop, l.pos⟩
  have e1 := l.eq
  have e2 := h.eq
  refine Nat.eq_of_mul_eq_mul_right h.pos ?_
  calc a * (M * y) * d = a * (d * y) * M := by ac_rfl
    _ = n * x * b * M := by rw [e1]
    _ = n * M * x * b := by ac_rfl
    _ = N * d * x * b := by rw [e2]
    _ = N * x * b * d := by ac_rfl
theorem F_low (t w : Nat) : ∀ {j : Nat}, j ≤ t → IsLow (F t w j).1 (F t w j).2 (ff (t - w) j) (ff t j)
  | 0, _ => ⟨rfl, (by decide : Nat.gcd 1 1 = 1), Nat.one_pos⟩
  | j + 1, h => low_step (F_low t w (by omega)) (by omega)
theorem F_ch {t w j : Nat} (h : j ≤ t) : IsLow (F t w j).1 (F t w j).2 (ch (t - w) j) (ch t j) := by
  have l := F_low t w h
  refine ⟨?_, l.cop, l.pos⟩
  have e := l.eq
  rw [← ch_ff, ← ch_ff] at e
  refine Nat.eq_of_mul_eq_mul_right (fac_pos j) ?_
  rw [Nat.mul_assoc, e]; ac_rfl
theorem F_d_big {t w j : Nat} (ht : t ≤ 400) (h : j ≤ t) : (F t w j).2 < 2 ^ 3620 := Nat.lt_of_le_of_lt ((F_low t w h).le (ff_pos h)) (ff_big ht (by omega))
theorem F_le (t w : Nat) : ∀ {j : Nat}, j ≤ t → (F t w j).1 ≤ (F t w j).2 := fun {j} h => by
  have l := F_low t w h
  have hp := ff_pos h
  have : ff (t - w) j ≤ ff t j := by
    have : ∀ i, ff (t - w) i ≤ ff t i := fun i => by
      induction i with
      | zero => exact Nat.le_refl _
      | succ i ih => exact Nat.mul_le_mul ih (by omega)
    exact this j
  have e := l.eq
  have h2 : (F t w j).1 * ff t j ≤ (F t w j).2 * ff t j := by rw [e, Nat.mul_comm]; exact Nat.mul_le_mul_left _ this
  exact Nat.le_of_mul_le_mul_right h2 hp
/-- more drawn: no greater chance -/
theorem F_mono {t w j : Nat} (h : j < t) : (F t w (j + 1)).1 * (F t w j).2 ≤ (F t w j).1 * (F t w (j + 1)).2 := by
  have l1 := F_low t w (j := j + 1) (by omega)
  have l0 := F_low t w (j := j) (by omega)
  have p0 := ff_pos (a := t) (j := j) (by omega)
  have p1 := ff_pos (a := t) (j := j + 1) (by omega)
  have e1 := l1.eq
  have e0 := l0.eq
  have hm : ff (t - w) (j + 1) * ff t j ≤ ff (t - w) j * ff t (j + 1) := by
    show ff (t - w) j * (t - w - j) * ff t j ≤ ff (t - w) j * (ff t j * (t - j))
    rw [Nat.mul_assoc]
    refine Nat.mul_le_mul_left _ ?_
    rw [Nat.mul_comm]
    exact Nat.mul_le_mul_left _ (by omega)
  generalize (F t w (j + 1)).1 = a at *
  generalize (F t w (j + 1)).2 = b at *
  generalize (F t w j).1 = c at *
  generalize (F t w j).2 = d at *
  generalize ff (t - w) (j + 1) = A at *
  generalize ff t (j + 1) = B at *
  generalize ff (t - w) j = C at *
  generalize ff t j = E at *
  have : a * d * (B * E) ≤ c * b * (B * E) := by
    calc a * d * (B * E) = (a * B) * (d * E) := by ac_rfl
      _ = (A * b) * (d * E) := by rw [e1]
      _ = (A * E) * (b * d) := by ac_rfl
      _ ≤ (C * B) * (b * d) := Nat.mul_le_mul_right _ hm
      _ = (C * d) * (b * B) := by ac_rfl
      _ = (c * E) * (b * B) := by rw [e0]
      _ = c * b * (B * E) := by ac_rfl
  exact Nat.le_of_mul_le_mul_right this (Nat.mul_pos p1 p0)
end K45
end
section
namespace K45
open PySem L2 DL
variable {S : Store}
abbrev I (n : Nat) : D := .int (n : Int)
theorem isWhole (i : Int) : d_is_whole [.int i] S = .ok (.bl true) S := by simp [d_is_whole, g_is_whole, Ty.isa]
theorem isCount {i a b : Int} (h1 : a ≤ i) (h2 : i ≤ b) : d_is_count [.int i, .int a, .int b] S = .ok (.bl true) S := by
  simp [d_is_count, g_is_count, isWhole, h1, h2]
theorem isCountN {i a : Int} (h1 : a ≤ i) : d_is_count [.int i, .int a, .non] S = .ok (.bl true) S := by
  simp [d_is_count, g_is_count, isWhole, h1]
theorem needCounts {t w j : Nat} (ht : t ≤ 400) (hw : w ≤ t) (hj : j ≤ t) : d_need_counts [I t, I w, I j] S = .ok .non S := by
  have h1 := isCount (S := S) (i := (t : Int)) (a := 0) (b := 400) (by omega) (by omega)
  have h2 := isCount (S := S) (i := (w : Int)) (a := 0) (b := (t : Int)) (by omega) (by omega)
  have h3 := isCount (S := S) (i := (j : Int)) (a := 0) (b := (t : Int)) (by omega) (by omega)
  simp [d_need_counts, g_need_counts, h1, h2, h3]
theorem maxSub {t w k : Nat} (hw : w ≤ t) : maxII 0 ((t : Int) - (w : Int) - (k : Int)) = ((t - w - k : Nat) : Int) := by
  unfold maxII
  split <;> omega
theorem big_fit {a b : Nat} (h1 : a < 2 ^ 3620) (h2 : b ≤ 1000) : a * b < 2 ^ 8999 := by
  have h3 : 2 ^ 3620 * 1000 < 2 ^ 8999 := by decide +kernel
  exact Nat.lt_of_le_of_lt (Nat.mul_le_mul (Nat.le_of_lt h1) h2) h3
theorem lowF {t w k : Nat} : lowD ((F t w k).1 * (t - w - k)) ((F t w k).2 * (t - k)) = .tup [I (F t w (k + 1)).1, I (F t w (k + 1)).2] := by
  unfold lowD
  rw [F]
theorem a1 {t w k : Nat} (ht : t ≤ 400) (hk : k < t) : (F t w k).2 * (t - k) < 2 ^ 8999 := big_fit (F_d_big ht (by omega)) (by omega)
theorem a2 {t w k : Nat} (ht : t ≤ 400) (hk : k < t) : 0 < (F t w k).2 * (t - k) := Nat.mul_pos (F_low t w (by omega)).pos (by omega)
theorem a3 {t w k : Nat} (ht : t ≤ 400) (hk : k < t) : d_lowest [.int (((F t w k).1 * (t - w - k) : Nat) : Int), .int (((F t w k).2  * (t - k) : Nat) : Int)] S = .ok (.tup [I (F t w (k + 1)).1, I (F t w (k + 1)).2]) S := by
  have e := lowest_ok (S := S) (x := (F t w k).1 * (t - w - k)) (a2 ht hk) (a1 (w := w) ht hk)
  rw [lowF] at e
  exact e
/-- one step of both loops -/
theorem stepF {t w k : Nat} (ht : t ≤ 400) (hk : k < t) : d_lowest [.int (((F t w k).1 : Int) * ((t - w - k : Nat) : Int)), .int (((F t w k).2 : Int) * ((t - k : Nat) : Int))] S = .ok (.tup [I (F t w (k + 1)).1, I (F t w (k + 1)).2]) S := by
  have e := a3 (S := S) (w := w) ht hk
  have q1 := Int.natCast_mul (F t w k).1 (t - w - k)
  have q2 := Int.natCast_mul (F t w k).2 (t - k)
  rw [q1, q2] at e
  exact e
theorem fit400 {k : Nat} (h : k ≤ 400) : ((k : Nat) : Int).natAbs < 18446744073709551616 := by omega
theorem chance_step {t w j i : Nat} {k : Option D} (ht : t ≤ 400) (hw : w ≤ t) (hi : i < t) : g_chance_b1 [some (I t), some (I w), some (I j), some (I (F t w i).1), some (I (F t w i).2), some (I i)] S = .nx [some (I t), some (I w), some (I j), some (I (F t w (i + 1)).1), some (I (F t w (i + 1)).2), some (I i)] S := by
  have m1 : mulOk ((F t w i).1 : Int) ((t - w - i : Nat) : Int) := mulOk_r (fit400 (by omega))
  have m2 : mulOk ((F t w i).2 : Int) ((t : Int) - (i : Int)) := mulOk_r (by omega)
  have e2 : (t : Int) - (i : Int) = ((t - i : Nat) : Int) := by omega
  simp [g_chance_b1, maxSub hw, m1, m2]
  rw [e2, stepF ht (by omega)]
  simp
theorem chance_loop {t w j : Nat} (ht : t ≤ 400) (hw : w ≤ t) (hj : j ≤ t) : ∃ k, forD (bName 5) g_chance_b1 (rangeD 0 j) [some (I t), some (I w), some (I j), some (.int 1), some (.int 1), none] S = .nx [some (I t), some (I w), some (I j), some (I (F t w j).1), some (I (F t w j).2), k] S := by
  obtain ⟨e, S', hf, k, rfl, rfl⟩ := forD_range (b := bName 5) (body := g_chance_b1)
    (fun i e S' => ∃ k, e = [some (I t), some (I w), some (I j), some (I (F t w i).1), some (I (F t w i).2), k] ∧ S' = S) (lo := 0) (n := j) (e := [some (I t), some (I w), some (I j), some (.int 1), some (.int 1), none]) (S := S) ⟨none, rfl, rfl⟩ (by
      rintro i e S' hi ⟨k, rfl, rfl⟩
      exact ⟨_, rfl, _, S', .inl (by rw [Int.zero_add]; exact chance_step (k := k) ht hw (by omega)), _, rfl, rfl⟩)
  exact ⟨k, hf⟩
theorem chance_ok {t w j : Nat} (ht : t ≤ 400) (hw : w ≤ t) (hj : j ≤ t) : d_chance [I t, I w, I j] S = .ok (.tup [I (F t w j).1, I (F t w j).2]) S := by
  obtain ⟨k, hf⟩ := chance_loop (S := S) ht hw hj
  unfold d_chance g_chance
  simp [needCounts ht hw hj, rOk_n (show j ≤ 1000000000 by omega), hf]
/-- a share in lowest terms, of numbers that are not too great -/
structure Shr (a b : Nat) : Prop where
  cop : Nat.gcd a b = 1
  pos : 0 < b
  fit : b < 2 ^ 8999
  fit2 : a < 2 ^ 8999
theorem Shr.low {a b : Nat} (h : Shr a b) : lowD a b = .tup [I a, I b] := by
  unfold lowD
  rw [h.cop, Nat.div_one, Nat.div_one]
theorem isShare {a b : Nat} (h : Shr a b) : d_is_share [.tup [I a, I b]] S = .ok (.bl true) S := by
  have e1 := isCountN (S := S) (i := (a : Int)) (a := 0) (by omega)
  have e2 := isCountN (S := S) (i := (b : Int)) (a := 1) (by have := h.pos; omega)
  have e3 := lowest_ok (S := S) (x := a) h.pos h.fit
  rw [h.low] at e3
  simp [d_is_share, g_is_share, Ty.isa, opNe_t2, opEq_t2, e1, e2, e3]
theorem isLess {a b n d : Nat} (h1 : a < 2 ^ 8999) (h2 : b < 2 ^ 8999) (h3 : n < 2 ^ 8999) (h4 : d < 2 ^ 8999) : d_is_less [.tup [I a, I b], .tup [I n, I d]] S = .ok (.bl (decide (a * d < n * b))) S := by
  have m1 : mulOk (a : Int) (d : Int) := mulOk_w (a := 8999) (b := 8999) (by simpa using h1) (by simpa using h4) (by decide) (by decide) (by decide)
  have m2 : mulOk (n : Int) (b : Int) := mulOk_w (a := 8999) (b := 8999) (by simpa using h3) (by simpa using h2) (by decide) (by decide) (by decide)
  have e : ((a : Int) * (d : Int) < (n : Int) * (b : Int)) ↔ a * d < n * b := by
    rw [← Int.natCast_mul, ← Int.natCast_mul]; exact Int.ofNat_lt
  simp [d_is_less, g_is_less, m1, m2, e]
theorem isOver {a b n d : Nat} (h1 : a < 2 ^ 8999) (h2 : b < 2 ^ 8999) (h3 : n < 2 ^ 8999) (h4 : d < 2 ^ 8999) : d__law_over [.tup [I a, I b], .tup [I n, I d]] S = .ok (.bl (decide (n * b < a * d))) S := by
  have m1 : mulOk (a : Int) (d : Int) := mulOk_w (a := 8999) (b := 8999) (by simpa using h1) (by simpa using h4) (by decide) (by decide) (by decide)
  have m2 : mulOk (n : Int) (b : Int) := mulOk_w (a := 8999) (b := 8999) (by simpa using h3) (by simpa using h2) (by decide) (by decide) (by decide)
  have e : ((n : Int) * (b : Int) < (a : Int) * (d : Int)) ↔ n * b < a * d := by
    rw [← Int.natCast_mul, ← Int.natCast_mul]; exact Int.ofNat_lt
  simp [d__law_over, g__law_over, m1, m2, e]
theorem F_fit {t w j : Nat} (ht : t ≤ 400) (h : j ≤ t) : (F t w j).1 < 2 ^ 8999 ∧ (F t w j).2 < 2 ^ 8999 := by
  have h1 := F_d_big (w := w) ht h
  have h2 := F_le t w h
  have h3 : 2 ^ 3620 < 2 ^ 8999 := by decide +kernel
  exact ⟨by omega, by omega⟩
/-- the fewest that are drawn -/
theorem needed_loop {t w a b : Nat} {lim : D} (ht : t ≤ 400) (hw : w ≤ t) (hs : Shr a b) :
    ∀ (m j n : Nat), t - j = m → m < n → j ≤ t → (∀ i, i < j → a * (F t w i).2 < (F t w i).1 * b) →
      ∃ r, j ≤ r ∧ r ≤ t ∧ (∀ i, i < r → a * (F t w i).2 < (F t w i).1 * b) ∧ (r < t → ¬ a * (F t w r).2 < (F t w r).1 * b) ∧
        whileD g_needed_c1 g_needed_b1 n [some (I t), some (I w), some (.tup [I a, I b]), some (I j), some (I (F t w j).1), some (I (F t w j).2)] S =
          .nx [some (I t), some (I w), some (.tup [I a, I b]), some (I r), some (I (F t w r).1), some (I (F t w r).2)] S := by
  intro m
  induction m with
  | zero =>
    intro j n hm hn hj hi
    obtain ⟨n, rfl⟩ : ∃ k, n = k + 1 := ⟨n - 1, by omega⟩
    refine ⟨j, Nat.le_refl _, hj, hi, fun h => by omega, ?_⟩
    have hnj : ¬ j < t := by omega
    rw [whileD_succ]
    simp [g_needed_c1, hnj]
  | succ m ih =>
    intro j n hm hn hj hi
    obtain ⟨n, rfl⟩ : ∃ k, n = k + 1 := ⟨n - 1, by omega⟩
    have hjt : j < t := by omega
    obtain ⟨f1, f2⟩ := F_fit (w := w) ht hj
    have el := isLess (S := S) (a := a) (b := b) hs.fit2 hs.fit f1 f2
    by_cases hl : a * (F t w j).2 < (F t w j).1 * b
    · obtain ⟨r, h1, h2, h3, h4, h5⟩ := ih (j + 1) n (by omega) (by omega) (by omega) (fun i h => by
        by_cases q : i = j
        · subst q; exact hl
        · exact hi i (by omega))
      refine ⟨r, by omega, h2, h3, h4, ?_⟩
      rw [whileD_succ]
      have m1 : mulOk ((F t w j).1 : Int) ((t - w - j : Nat) : Int) := mulOk_r (fit400 (by omega))
      have m2 : mulOk ((F t w j).2 : Int) ((t : Int) - (j : Int)) := mulOk_r (by omega)
      have e2 : (t : Int) - (j : Int) = ((t - j : Nat) : Int) := by omega
      have eb : g_needed_b1 [some (I t), some (I w), some (.tup [I a, I b]), some (I j), some (I (F t w j).1), some (I (F t w j).2)] S = .nx [some (I t), some (I w), some (.tup [I a, I b]), some (I (j + 1)), some (I (F t w (j + 1)).1), some (I (F t w (j + 1)).2)] S := by
        simp [g_needed_b1, maxSub hw, m1, m2]
        rw [e2, stepF ht (by omega)]
        simp
      have ec : g_needed_c1 [some (I t), some (I w), some (.tup [I a, I b]), some (I j), some (I (F t w j).1), some (I (F t w j).2)] S = .ok (.bl true) S := by
        simp [g_needed_c1, hjt, el, hl]
      rw [ec]
      dsimp only
      rw [eb]
      exact h5
    · refine ⟨j, Nat.le_refl _, hj, hi, fun _ => hl, ?_⟩
      have ec : g_needed_c1 [some (I t), some (I w), some (.tup [I a, I b]), some (I j), some (I (F t w j).1), some (I (F t w j).2)] S = .ok (.bl false) S := by
        simp [g_needed_c1, hjt, el, hl]
      rw [whileD_succ, ec]
theorem needed_ok {t w a b : Nat} (ht : t ≤ 400) (hw : w ≤ t) (h0 : 0 < w) (hs : Shr a b) :
    ∃ r, r ≤ t ∧ (∀ i, i < r → a * (F t w i).2 < (F t w i).1 * b) ∧ (r < t → ¬ a * (F t w r).2 < (F t w r).1 * b) ∧ d_needed [I t, I w, .tup [I a, I b]] S = .ok (I r) S := by
  obtain ⟨r, _, h2, h3, h4, h5⟩ := needed_loop (S := S) (lim := .non) ht hw hs t 0 bigN (by omega) (Nat.lt_of_le_of_lt ht (by decide)) (by omega) (fun i h => by omega)
  refine ⟨r, h2, h3, h4, ?_⟩
  have en : d_need_counts [I t, I w, .int 0] S = .ok .non S := needCounts (S := S) (j := 0) ht hw (by omega)
  unfold d_needed g_needed
  have h6 : whileD g_needed_c1 g_needed_b1 bigN [some (I t), some (I w), some (.tup [I a, I b]), some (.int 0), some (.int 1), some (.int 1)] S = _ := h5
  simp [en, isShare hs, show w ≠ 0 by omega, h6]
/-- how many ways -/
theorem ways_ok {m s : Nat} (hm : m ≤ 400) (hs : s ≤ 400) : d__law_ways [I m, I s] S = .ok (I (ch m s)) S := by
  have step : ∀ i, i < s → g__law_ways_b1 [some (I m), some (I s), some (I (ch m i)), some (I i)] S = .nx [some (I m), some (I s), some (I (ch m (i + 1))), some (I i)] S := fun i hi => by
    have e1 : maxII 0 ((m : Int) - (i : Int)) = ((m - i : Nat) : Int) := by unfold maxII; split <;> omega
    have m1 : mulOk ((ch m i : Nat) : Int) ((m - i : Nat) : Int) := mulOk_r (fit400 (by omega))
    have e2 : ((ch m i : Nat) : Int) * ((m - i : Nat) : Int) / ((i : Int) + 1) = ((ch m (i + 1) : Nat) : Int) := by
      rw [← Int.natCast_mul, ch_step, Int.natCast_mul]
      exact Int.mul_ediv_cancel _ (by omega)
    have d1 : divOk ((i : Int) + 1) := divOk_s (by omega) (by omega)
    simp [g__law_ways_b1, e1, m1, d1]
    rw [← Int.natCast_mul] at *
    exact e2
  obtain ⟨e, S', hf, k, rfl, rfl⟩ := forD_range (b := bName 3) (body := g__law_ways_b1)
    (fun i e S' => ∃ k, e = [some (I m), some (I s), some (I (ch m i)), k] ∧ S' = S) (lo := 0) (n := s) (e := [some (I m), some (I s), some (.int 1), none]) (S := S) ⟨none, by rw [ch0]; rfl, rfl⟩ (by
      rintro i e S' hi ⟨k, rfl, rfl⟩
      exact ⟨_, rfl, _, S', .inl (by rw [Int.zero_add]; exact step i hi), _, rfl, rfl⟩)
  unfold d__law_ways g__law_ways
  simp [rOk_n (show s ≤ 1000000000 by omega), hf]
theorem wholeL (i : Int) : d__law_whole [.int i] S = .ok (.bl true) S := by simp [d__law_whole, g__law_whole, Ty.isa]
theorem shareGood {a b : Nat} (h : Shr a b) : d__law_share_good [.tup [I a, I b]] S = .ok (.bl true) S := by
  have e3 := law_lowest_ok (S := S) (x := a) h.pos h.fit
  rw [h.low] at e3
  have := h.pos
  simp [d__law_share_good, g__law_share_good, Ty.isa, wholeL, opEq_t2, e3, this]
end K45
end
section
namespace K45
open PySem L2 DL
variable {S : Store}
/-! ### all ways gone through -/
def subs : Nat → List (List Int)
  | 0 => [[]]
  | k + 1 => subs k ++ (subs k).map fun s => s ++ [(k : Int)]
theorem subs_len : ∀ k, (subs k).length = 2 ^ k
  | 0 => rfl
  | k + 1 => by rw [subs, List.length_append, List.length_map, subs_len k, Nat.pow_succ]; omega
theorem subs_mem : ∀ {k : Nat} {s : List Int}, s ∈ subs k → s.length ≤ k
  | 0, s, h => by simp [subs] at h; subst h; simp
  | k + 1, s, h => by
    rw [subs] at h
    rcases List.mem_append.mp h with h | h
    · exact Nat.le_succ_of_le (subs_mem h)
    · obtain ⟨r, hr, rfl⟩ := List.mem_map.mp h
      simp; exact subs_mem hr
theorem subs_count (w : Nat) : ∀ k d : Nat, (subs k).countP (fun s => decide (s.length = d) && (s.filter fun x => decide (x < (w : Int))).isEmpty) = ch (k - w) d
  | 0, d => by
    rw [Nat.zero_sub]
    cases d with
    | zero => rfl
    | succ d => rfl
  | k + 1, d => by
    have ih := subs_count w k
    rw [subs, List.countP_append, ih d, List.countP_map]
    by_cases hk : (k : Int) < (w : Int)
    · have e1 : k + 1 - w = 0 := by omega
      have e2 : k - w = 0 := by omega
      have z : (subs k).countP ((fun s => decide (s.length = d) && (s.filter fun x => decide (x < (w : Int))).isEmpty) ∘ fun s => s ++ [(k : Int)]) = 0 := by
        rw [List.countP_eq_zero]
        intro s _
        simp [List.filter_append, hk]
      rw [z, e1, e2]; omega
    · have e1 : k + 1 - w = (k - w) + 1 := by omega
      rw [e1]
      cases d with
      | zero =>
        have z : (subs k).countP ((fun s => decide (s.length = 0) && (s.filter fun x => decide (x < (w : Int))).isEmpty) ∘ fun s => s ++ [(k : Int)]) = 0 := by
          rw [List.countP_eq_zero]
          intro s _
          simp
        rw [z, ch0, ch0]
      | succ d =>
        have z : (subs k).countP ((fun s => decide (s.length = d + 1) && (s.filter fun x => decide (x < (w : Int))).isEmpty) ∘ fun s => s ++ [(k : Int)]) = ch (k - w) d := by
          rw [← ih d]
          apply List.countP_congr
          intro s _
          simp [List.filter_append, hk]
        rw [z]
        show ch (k - w) (d + 1) + ch (k - w) d = ch (k - w) d + ch (k - w) (d + 1)
        omega
theorem subs_count0 (k d : Nat) : (subs k).countP (fun s => decide (s.length = d)) = ch k d := by
  have := subs_count 0 k d
  rw [Nat.sub_zero] at this
  rw [← this]
  apply List.countP_congr
  intro s hs
  have nn : ∀ {k : Nat} {s : List Int}, s ∈ subs k → ∀ x ∈ s, (0 : Int) ≤ x := by
    intro k
    induction k with
    | zero => intro s h; simp [subs] at h; subst h; simp
    | succ k ih =>
      intro s h
      rw [subs] at h
      rcases List.mem_append.mp h with h | h
      · exact ih h
      · obtain ⟨r, hr, rfl⟩ := List.mem_map.mp h
        intro x hx
        rcases List.mem_append.mp hx with hx | hx
        · exact ih hr x hx
        · simp at hx; omega
  have e : (s.filter fun x => decide (x < ((0 : Nat) : Int))) = [] := List.filter_eq_nil_iff.mpr fun x hx => by
    have := nn hs x hx
    simp; omega
  rw [e]; simp
abbrev T (s : List Int) : D := .tup (s.map .int)
theorem gone_loop {t w d : Nat} (ht : t ≤ 8) : ∃ k o, forD (bName 4) g__law_gone_through_b1 (rangeD 0 t) [some (I t), some (I w), some (I d), some (.lst [.tup []]), none, none, none] S = .nx [some (I t), some (I w), some (I d), some (.lst ((subs t).map T)), k, none, o] S := by
  obtain ⟨e, S', hf, k, o, rfl, rfl⟩ := forD_range (b := bName 4) (body := g__law_gone_through_b1)
    (fun i e S' => ∃ k o, e = [some (I t), some (I w), some (I d), some (.lst ((subs i).map T)), k, none, o] ∧ S' = S) (lo := 0) (n := t) (e := [some (I t), some (I w), some (I d), some (.lst [.tup []]), none, none, none]) (S := S) ⟨none, none, rfl, rfl⟩ (by
      rintro i e S' hi ⟨k, o, rfl, rfl⟩
      refine ⟨_, rfl, [some (I t), some (I w), some (I d), some (.lst ((subs (i + 1)).map T)), some (I i), none, o], S', .inl ?_, _, _, rfl, rfl⟩
      have hs : (subs i).length ≤ 256 := by rw [subs_len]; exact Nat.pow_le_pow_right (by decide) (by omega : i ≤ 8)
      have hl := lcD_map (b := bName 6) (elt := g__law_gone_through_e1) (env := [some (I t), some (I w), some (I d), some (.lst ((subs i).map T)), some (I i), none, none]) (S := S')
        (fun d => match d with | .tup ds => .tup (ds ++ [I i]) | d => d) ((subs i).map T) (fun d hd => by
          obtain ⟨s, hs, rfl⟩ := List.mem_map.mp hd
          have hz : s.length + 1 ≤ 16777216 := by have := subs_mem hs; omega
          exact ⟨_, rfl, by simp [g__law_gone_through_e1, hz]⟩) (by simp; omega)
      rw [List.map_map] at hl
      simp [g__law_gone_through_b1, hl, show (subs i).length + (subs i).length ≤ 16777216 by omega]
      show _ = _
      rw [subs, List.map_append, List.map_map]
      congr 1
      apply List.map_congr_left
      intro s _
      simp)
  exact ⟨k, o, hf⟩
theorem dec_nil {α : Type} [DecidableEq α] (l : List α) : decide (l = []) = l.isEmpty := by cases l <;> rfl
theorem gone_ok {t w d : Nat} (ht : t ≤ 8) (hd : d ≤ t) : d__law_gone_through [I t, I w, I d] S = .ok (lowD (ch (t - w) d) (ch t d)) S := by
  obtain ⟨k, o, hf⟩ := gone_loop (S := S) (w := w) (d := d) ht
  have hs : (subs t).length ≤ 256 := by rw [subs_len]; exact Nat.pow_le_pow_right (by decide) ht
  -- those with as many
  have h1 := lcD_fm (b := bName 6) (tt := g__law_gone_through_t1) (elt := eVar 6) (env := [some (I t), some (I w), some (I d), some (.lst ((subs t).map T)), k, none, none]) (S := S)
    (fun x => match x with | .tup ds => decide (ds.length = d) | _ => false) id ((subs t).map T) [] (fun x hx => by
      obtain ⟨s, hs, rfl⟩ := List.mem_map.mp hx
      exact ⟨_, rfl, by simp [g__law_gone_through_t1]; omega, fun _ => by simp⟩) (by simp; omega)
  have e1 : ((subs t).map T).filter (fun x => match x with | .tup ds => decide (ds.length = d) | _ => false) = ((subs t).filter fun s => decide (s.length = d)).map T := by
    rw [List.filter_map]
    congr 1
    apply List.filter_congr
    intro s _
    simp
  rw [e1] at h1
  simp only [List.nil_append, List.map_id_fun, id] at h1
  -- of these the good ones
  have h2 := lcD_fm (b := bName 6) (tt := g__law_gone_through_t3) (elt := eVar 6) (env := [some (I t), some (I w), some (I d), some (.lst (((subs t).filter fun s => decide (s.length = d)).map T)), k, none, none]) (S := S)
    (fun x => match x with | .tup ds => (((intsD ds).getD []).filter fun x => decide (x < (w : Int))).isEmpty | _ => false) id (((subs t).filter fun s => decide (s.length = d)).map T) [] (fun x hx => by
      obtain ⟨s, hs, rfl⟩ := List.mem_map.mp hx
      have hs2 := subs_mem (List.mem_filter.mp hs).1
      have hi := lcD_fm (b := bName 4) (tt := g__law_gone_through_t2) (elt := eVar 4) (env := [some (I t), some (I w), some (I d), some (.lst (((subs t).filter fun s => decide (s.length = d)).map T)), none, none, some (T s)]) (S := S)
        (fun x => match x with | .int i => decide (i < (w : Int)) | _ => false) id (s.map .int) [] (fun x hx => by
          obtain ⟨i, _, rfl⟩ := List.mem_map.mp hx
          exact ⟨_, rfl, by simp [g__law_gone_through_t2], fun _ => by simp⟩) (by simp; omega)
      have e2 : (s.map D.int).filter (fun x => match x with | .int i => decide (i < (w : Int)) | _ => false) = (s.filter fun i => decide (i < (w : Int))).map .int := by
        rw [List.filter_map]
        congr 1
      rw [e2] at hi
      simp only [List.nil_append, List.map_id_fun, id] at hi
      have eq := opEq_lints (as := s.filter fun i => decide (i < (w : Int))) (bs := []) (S := S)
      refine ⟨_, rfl, ?_, fun _ => by simp⟩
      simp only [List.map_nil] at eq
      rw [dec_nil] at eq
      simp [g__law_gone_through_t3, hi, eq, intsD_map]) (by simp; have := List.length_filter_le (fun s => decide (s.length = d)) (subs t); omega)
  have e3 : ((((subs t).filter fun s => decide (s.length = d)).map T).filter (fun x => match x with | .tup ds => (((intsD ds).getD []).filter fun x => decide (x < (w : Int))).isEmpty | _ => false)).length = ch (t - w) d := by
    rw [List.filter_map, List.length_map, List.filter_filter, ← subs_count w t d, List.countP_eq_length_filter]
    congr 1
    apply List.filter_congr
    intro s _
    simp [intsD_map, Bool.and_comm]
  have e4 : (((subs t).filter fun s => decide (s.length = d)).map T).length = ch t d := by
    rw [List.length_map, ← subs_count0 t d, List.countP_eq_length_filter]
  simp only [List.nil_append, List.map_id_fun, id] at h2
  have hc : 0 < ch t d := ch_pos hd
  have hb : ch t d < 2 ^ 8999 := by
    have h3 := Nat.lt_of_le_of_lt ch_le (ff_big (a := t) (j := d) (by omega) (by omega))
    exact Nat.lt_trans h3 (by decide +kernel)
  have el := law_lowest_ok (S := S) (x := ch (t - w) d) hc hb
  generalize List.filter _ (((subs t).filter fun s => decide (s.length = d)).map T) = L at h2 e3
  generalize ((subs t).filter fun s => decide (s.length = d)).map T = M at h1 h2 e4
  rw [← e3, ← e4] at el
  unfold d__law_gone_through g__law_gone_through
  simp [rOk_n (show t ≤ 1000000000 by omega), hf, h1, h2, el]
  rw [e3, e4]
  exact exit_int2
end K45
end
section
namespace K45
open PySem L2 DL
variable {S : Store}
theorem F_zero {t j : Nat} (h : j ≤ t) : F t 0 j = (1, 1) := by
  have l := F_low t 0 h
  have e := l.eq
  rw [Nat.sub_zero, Nat.mul_comm] at e
  have e2 : (F t 0 j).1 = (F t 0 j).2 := Nat.eq_of_mul_eq_mul_left (ff_pos h) e
  have e3 := l.cop
  rw [e2, Nat.gcd_self] at e3
  exact Prod.ext (e2.trans e3) e3
theorem F_shr {t w j : Nat} (ht : t ≤ 400) (h : j ≤ t) : Shr (F t w j).1 (F t w j).2 :=
  ⟨(F_low t w h).cop, (F_low t w h).pos, (F_fit ht h).2, (F_fit ht h).1⟩
theorem low_shr {x y : Nat} (hy : 0 < y) (h : y < 2 ^ 8999) (hx : x < 2 ^ 8999) : ∃ a b, lowD x y = .tup [I a, I b] ∧ Shr a b :=
  have l := isLow_of (x := x) hy
  ⟨_, _, rfl, l.cop, l.pos, Nat.lt_of_le_of_lt (Nat.div_le_self _ _) h, Nat.lt_of_le_of_lt (Nat.div_le_self _ _) hx⟩
/-- one limit -/
theorem limit_step {t w a b : Nat} {e0 e1 e2 e5 e6 e7 e8 k9 k10 : Option D} (ht : t ≤ 400) (hw : w ≤ t) (h0 : 0 < w) (hs : Shr a b) :
    ∃ r, g__law_right_b1 [e0, e1, e2, some (I t), some (I w), e5, e6, e7, e8, some (.tup [I a, I b]), k10] S = .nx [e0, e1, e2, some (I t), some (I w), e5, e6, e7, e8, some (.tup [I a, I b]), some (I r)] S := by
  obtain ⟨r, h1, h2, h3, h4⟩ := needed_ok (S := S) ht hw h0 hs
  refine ⟨r, ?_⟩
  have hc1 : ((0 : Int) ≤ (r : Int)) := by omega
  have hc2 : ((r : Int) ≤ (t : Int)) := by omega
  have c1 := chance_ok (S := S) ht hw h1
  have f1 := F_fit (w := w) ht h1
  have o1 := isOver (S := S) f1.1 f1.2 hs.fit2 hs.fit
  -- the first test behind needed
  have t1 : r < t → d__law_over [.tup [I (F t w r).1, I (F t w r).2], .tup [I a, I b]] S = .ok (.bl false) S := fun h => by
    rw [o1, decide_eq_false (h3 h)]
  have t2 : 0 < r → d_chance [I t, I w, .int ((r : Int) - 1)] S = .ok (.tup [I (F t w (r - 1)).1, I (F t w (r - 1)).2]) S ∧ d__law_over [.tup [I (F t w (r - 1)).1, I (F t w (r - 1)).2], .tup [I a, I b]] S = .ok (.bl true) S := fun h => by
    have e : (r : Int) - 1 = ((r - 1 : Nat) : Int) := by omega
    have f2 := F_fit (w := w) ht (j := r - 1) (by omega)
    refine ⟨by rw [e]; exact chance_ok ht hw (by omega), ?_⟩
    rw [isOver f2.1 f2.2 hs.fit2 hs.fit, decide_eq_true (h2 (r - 1) (by omega))]
  by_cases q1 : r < t
  · by_cases q2 : 0 < r
    · simp [g__law_right_b1, h4, wholeL, hc1, hc2, c1, t1 q1, (t2 q2).1, (t2 q2).2, q1, q2, h1]
    · simp [g__law_right_b1, h4, wholeL, hc1, hc2, c1, t1 q1, q1, q2, h1]
  · by_cases q2 : 0 < r
    · simp [g__law_right_b1, h4, wholeL, hc1, hc2, c1, (t2 q2).1, (t2 q2).2, q1, q2, h1]
    · simp [g__law_right_b1, h4, wholeL, hc1, hc2, c1, q1, q2, h1]
end K45
end
section
namespace K45
open PySem L2 DL
theorem toN {x n : Int} (h0 : 0 ≤ x) (h1 : x ≤ n) : ∃ k : Nat, x = (k : Int) ∧ (k : Int) ≤ n := by
  obtain ⟨k, rfl⟩ := Int.eq_ofNat_of_zero_le h0
  exact ⟨k, rfl, h1⟩
theorem min1 (t : Nat) : minII (t : Int) 1 = ((min t 1 : Nat) : Int) := by unfold minII; split <;> omega
/-- all limits -/
theorem limits {S : Store} {t w : Nat} {e0 e1 e2 e5 e6 e7 e8 : Option D} (ht : t ≤ 400) (hw : w ≤ t) (h0 : 0 < w) (ls : List D) (hl : ∀ d ∈ ls, ∃ a b, d = .tup [I a, I b] ∧ Shr a b) {k9 k10 : Option D} :
    ∃ q9 q10, forD (bName 9) g__law_right_b1 ls [e0, e1, e2, some (I t), some (I w), e5, e6, e7, e8, k9, k10] S = .nx [e0, e1, e2, some (I t), some (I w), e5, e6, e7, e8, q9, q10] S := by
  obtain ⟨e', S', hf, k9, k10, rfl, rfl⟩ := forD_inv (b := bName 9) (body := g__law_right_b1)
    (fun _ e S' => ∃ k9 k10, e = [e0, e1, e2, some (I t), some (I w), e5, e6, e7, e8, k9, k10] ∧ S' = S) ls 0 (e := [e0, e1, e2, some (I t), some (I w), e5, e6, e7, e8, k9, k10]) (S := S) ⟨_, _, rfl, rfl⟩ (by
      rintro i d e S' hd ⟨k9, k10, rfl, rfl⟩
      obtain ⟨a, b, rfl, hs⟩ := hl d (List.mem_of_getElem? hd)
      obtain ⟨r, hr⟩ := limit_step (S := S') (e0 := e0) (e1 := e1) (e2 := e2) (e5 := e5) (e6 := e6) (e7 := e7) (e8 := e8) (k9 := k9) (k10 := k10) ht hw h0 hs
      exact ⟨_, rfl, _, _, .inl hr, _, _, rfl, rfl⟩)
  exact ⟨k9, k10, hf⟩
theorem shr_lit {a b : Nat} (h1 : Nat.gcd a b = 1) (h2 : 0 < b) (h3 : a ≤ 1000003) (h4 : b ≤ 1000003) : Shr a b :=
  ⟨h1, h2, Nat.lt_of_le_of_lt h4 (by decide +kernel), Nat.lt_of_le_of_lt h3 (by decide +kernel)⟩
theorem right_ok (cell : Int) {k : Nat} (hk : k ≤ 100) : d__law_right [.int cell, I k] [] = .ok (.bl true) [] := by
  obtain ⟨c0, b0, d0⟩ := begun1 cell (k := (k : Int)) (by omega) (by omega)
  obtain ⟨x1, c1, n1, l1, u1, d1⟩ := next1 8 d0 (by omega) (by omega) (by omega)
  obtain ⟨x2, c2, n2, l2, u2, d2⟩ := next1 61 d1 (by omega) (by omega) (by omega)
  obtain ⟨x3, c3, n3, l3, u3, d3⟩ := next1 401 d2 (by omega) (by omega) (by omega)
  obtain ⟨dt, mt, c4, p4, d4⟩ := pick1 [.int 0, .int 1, .int x1, .int 7, .int x2, .int x3, .int 400] d3 (by omega) (by simp) (by simp)
  obtain ⟨t, rfl, ht⟩ : ∃ t : Nat, dt = I t ∧ t ≤ 400 := by
    simp at mt
    rcases mt with rfl | rfl | rfl | rfl | rfl | rfl | rfl
    · exact ⟨0, rfl, by omega⟩
    · exact ⟨1, rfl, by omega⟩
    · obtain ⟨a, rfl, _⟩ := toN l1 (Int.le_refl _); exact ⟨a, rfl, by omega⟩
    · exact ⟨7, rfl, by omega⟩
    · obtain ⟨a, rfl, _⟩ := toN l2 (Int.le_refl _); exact ⟨a, rfl, by omega⟩
    · obtain ⟨a, rfl, _⟩ := toN l3 (Int.le_refl _); exact ⟨a, rfl, by omega⟩
    · exact ⟨400, rfl, by omega⟩
  obtain ⟨x5, c5, n5, l5, u5, d5⟩ := next1 ((t : Int) + 1) d4 (by omega) (by omega) (by omega)
  obtain ⟨x6, c6, n6, l6, u6, d6⟩ := next1 ((t : Int) + 1) d5 (by omega) (by omega) (by omega)
  obtain ⟨dw, mw, c7, p7, d7⟩ := pick1 [.int 0, I t, I (min t 1), .int x5, .int x6] d6 (by omega) (by simp) (by simp)
  obtain ⟨w, rfl, hw⟩ : ∃ w : Nat, dw = I w ∧ w ≤ t := by
    simp at mw
    rcases mw with rfl | rfl | rfl | rfl | rfl
    · exact ⟨0, rfl, by omega⟩
    · exact ⟨t, rfl, by omega⟩
    · exact ⟨min t 1, rfl, by omega⟩
    · obtain ⟨a, rfl, _⟩ := toN l5 (Int.le_refl _); exact ⟨a, rfl, by omega⟩
    · obtain ⟨a, rfl, _⟩ := toN l6 (Int.le_refl _); exact ⟨a, rfl, by omega⟩
  obtain ⟨x8, c8, n8, l8, u8, d8⟩ := next1 ((t : Int) + 1) d7 (by omega) (by omega) (by omega)
  obtain ⟨dj, mj, c9, p9, d9⟩ := pick1 [.int 0, I t, I (min t 1), .int x8, I (t - w)] d8 (by omega) (by simp) (by simp)
  obtain ⟨j, rfl, hj⟩ : ∃ j : Nat, dj = I j ∧ j ≤ t := by
    simp at mj
    rcases mj with rfl | rfl | rfl | rfl | rfl
    · exact ⟨0, rfl, by omega⟩
    · exact ⟨t, rfl, by omega⟩
    · exact ⟨min t 1, rfl, by omega⟩
    · obtain ⟨a, rfl, _⟩ := toN l8 (Int.le_refl _); exact ⟨a, rfl, by omega⟩
    · exact ⟨t - w, rfl, by omega⟩
  obtain ⟨x10, c10, n10, l10, u10, d10⟩ := next1 100 d9 (by omega) (by omega) (by omega)
  obtain ⟨x, rfl, hx⟩ := toN l10 (Int.le_of_lt u10)
  have esub : (t : Int) - (w : Int) = ((t - w : Nat) : Int) := by omega
  -- what is due
  have w1 := ways_ok (S := [c9]) (m := t - w) (s := j) (by omega) (by omega)
  have w2 := ways_ok (S := [c9]) (m := t) (s := j) (by omega) (by omega)
  have hb : ch t j < 2 ^ 8999 := Nat.lt_trans (Nat.lt_of_le_of_lt ch_le (ff_big (by omega) (by omega))) (by decide +kernel)
  have due := law_lowest_ok (S := [c9]) (x := ch (t - w) j) (ch_pos hj) hb
  rw [(F_ch hj).low (ch_pos hj)] at due
  have gone : t < 8 → d__law_gone_through [I t, I w, I j] [c9] = .ok (.tup [I (F t w j).1, I (F t w j).2]) [c9] := fun h => by
    rw [gone_ok (by omega) hj, (F_ch hj).low (ch_pos hj)]
  have ch1 := chance_ok (S := [c9]) ht hw hj
  have sg := shareGood (S := [c9]) (F_shr (w := w) ht hj)
  have fj := F_fit (w := w) ht hj
  have more : j < t → d_chance [I t, I w, .int ((j : Int) + 1)] [c9] = .ok (.tup [I (F t w (j + 1)).1, I (F t w (j + 1)).2]) [c9] ∧ d__law_over [.tup [I (F t w (j + 1)).1, I (F t w (j + 1)).2], .tup [I (F t w j).1, I (F t w j).2]] [c9] = .ok (.bl false) [c9] := fun h => by
    have f2 := F_fit (w := w) ht (j := j + 1) (by omega)
    refine ⟨chance_ok (j := j + 1) ht hw h, ?_⟩
    rw [isOver f2.1 f2.2 fj.1 fj.2, decide_eq_false (Nat.not_lt.mpr (F_mono h))]
  -- with all but the rest
  have few := law_lowest_ok (S := [c10]) (x := x) (y := 100) (by decide) (by decide +kernel)
  obtain ⟨fa, fb, ef, sf⟩ := low_shr (x := x) (y := 100) (by decide) (by decide +kernel) (Nat.lt_trans (by omega : x < 200) (by decide +kernel))
  rw [ef] at few
  have b999 : (F t w j).1 * 999 < 2 ^ 8999 ∧ (F t w j).2 * 1000 < 2 ^ 8999 := by
    have h1 := F_d_big (w := w) ht hj
    have h2 := F_le t w hj
    exact ⟨big_fit (Nat.lt_of_le_of_lt h2 h1) (by decide), big_fit h1 (by decide)⟩
  have near := law_lowest_ok (S := [c10]) (x := (F t w j).1 * 999) (y := (F t w j).2 * 1000) (Nat.mul_pos (F_low t w hj).pos (by decide)) b999.2
  obtain ⟨na, nb, en, sn⟩ := low_shr (x := (F t w j).1 * 999) (y := (F t w j).2 * 1000) (Nat.mul_pos (F_low t w hj).pos (by decide)) b999.2 b999.1
  rw [en] at near
  rw [Int.natCast_mul, Int.natCast_mul] at near
  replace few : d__law_lowest [I x, .int 100] [c10] = .ok (.tup [I fa, I fb]) [c10] := few
  replace near : d__law_lowest [.int ((F t w j).1 * 999), .int ((F t w j).2 * 1000)] [c10] = .ok (.tup [I na, I nb]) [c10] := near
  have m1 : mulOk ((F t w j).1 : Int) 999 := mulOk_r (by decide)
  have m2 : mulOk ((F t w j).2 : Int) 1000 := mulOk_r (by decide)
  have lim : 0 < w → _ := fun h0 => limits (S := [c10]) (t := t) (w := w) (e0 := some (.int cell)) (e1 := some (I k)) (e2 := some (.loc 0)) (e5 := some (I j)) (e6 := some (.tup [I (F t w j).1, I (F t w j).2])) (e7 := some (.tup [I (F t w j).1, I (F t w j).2])) (e8 := some (.tup [I fa, I fb])) (k9 := none) (k10 := none) ht hw h0
    [.tup [I (F t w j).1, I (F t w j).2], .tup [I fa, I fb], .tup [.int 0, .int 1], .tup [.int 1, .int 1], .tup [.int 7, .int 3], .tup [I na, I nb], .tup [.int 1, .int 1000003]] (by
      intro d hd
      simp only [List.mem_cons, List.not_mem_nil, or_false] at hd
      rcases hd with rfl | rfl | rfl | rfl | rfl | rfl | rfl
      · exact ⟨_, _, rfl, F_shr ht hj⟩
      · exact ⟨_, _, rfl, sf⟩
      · exact ⟨0, 1, rfl, shr_lit (by decide) (by decide) (by decide) (by decide)⟩
      · exact ⟨1, 1, rfl, shr_lit (by decide) (by decide) (by decide) (by decide)⟩
      · exact ⟨7, 3, rfl, shr_lit (by decide) (by decide) (by decide) (by decide)⟩
      · exact ⟨_, _, rfl, sn⟩
      · exact ⟨1, 1000003, rfl, shr_lit (by decide) (by decide) (by decide) (by decide)⟩)
  have hz : w = 0 → (F t w j) = (1, 1) := fun h => by subst h; exact F_zero hj
  have main : ∃ S', g__law_right [some (.int cell), some (I k), none, none, none, none, none, none, none, none, none] [] = .rt (.bl true) S' := by
    have hw1 : 0 < w ∨ w = 0 := by omega
    unfold g__law_right
    by_cases q1 : t < 8
    · have q1' : (t : Int) < 8 := by omega
      by_cases q2 : j < t
      · have q2' : (j : Int) < t := by omega
        rcases hw1 with h0 | h0
        · obtain ⟨q9, q10, hl⟩ := lim h0
          have h0' : (w : Int) ≠ 0 := by omega
          have h0 : w ≠ 0 := by omega
          simp [b0, n1, n2, n3, p4, n5, n6, p7, n8, p9, min1, esub, w1, w2, due, q1, q1', ch1, sg, opNe_t2, opEq_t2, q2, q2', h0, h0', n10, few, m1, m2, near, gone q1, (more q2).1, (more q2).2, hl]
        · have hz' := hz h0
          have h0' : (w : Int) = 0 := by omega
          simp [b0, n1, n2, n3, p4, n5, n6, p7, n8, p9, min1, esub, w1, w2, due, q1, q1', ch1, sg, opNe_t2, opEq_t2, q2, q2', gone q1, (more q2).1, (more q2).2]
          simp [h0, F_zero hj]
      · have q2' : ¬ (j : Int) < t := by omega
        rcases hw1 with h0 | h0
        · obtain ⟨q9, q10, hl⟩ := lim h0
          have h0' : (w : Int) ≠ 0 := by omega
          have h0 : w ≠ 0 := by omega
          simp [b0, n1, n2, n3, p4, n5, n6, p7, n8, p9, min1, esub, w1, w2, due, q1, q1', ch1, sg, opNe_t2, opEq_t2, q2, q2', h0, h0', n10, few, m1, m2, near, gone q1, hl]
        · have hz' := hz h0
          have h0' : (w : Int) = 0 := by omega
          simp [b0, n1, n2, n3, p4, n5, n6, p7, n8, p9, min1, esub, w1, w2, due, q1, q1', ch1, sg, opNe_t2, opEq_t2, q2, q2', gone q1]
          simp [h0, F_zero hj]
    · have q1' : ¬ (t : Int) < 8 := by omega
      by_cases q2 : j < t
      · have q2' : (j : Int) < t := by omega
        rcases hw1 with h0 | h0
        · obtain ⟨q9, q10, hl⟩ := lim h0
          have h0' : (w : Int) ≠ 0 := by omega
          have h0 : w ≠ 0 := by omega
          simp [b0, n1, n2, n3, p4, n5, n6, p7, n8, p9, min1, esub, w1, w2, due, q1, q1', ch1, sg, opNe_t2, opEq_t2, q2, q2', h0, h0', n10, few, m1, m2, near, (more q2).1, (more q2).2, hl]
        · have hz' := hz h0
          have h0' : (w : Int) = 0 := by omega
          simp [b0, n1, n2, n3, p4, n5, n6, p7, n8, p9, min1, esub, w1, w2, due, q1, q1', ch1, sg, opNe_t2, opEq_t2, q2, q2', (more q2).1, (more q2).2]
          simp [h0, F_zero hj]
      · have q2' : ¬ (j : Int) < t := by omega
        rcases hw1 with h0 | h0
        · obtain ⟨q9, q10, hl⟩ := lim h0
          have h0' : (w : Int) ≠ 0 := by omega
          have h0 : w ≠ 0 := by omega
          simp [b0, n1, n2, n3, p4, n5, n6, p7, n8, p9, min1, esub, w1, w2, due, q1, q1', ch1, sg, opNe_t2, opEq_t2, q2, q2', h0, h0', n10, few, m1, m2, near, hl]
        · have hz' := hz h0
          have h0' : (w : Int) = 0 := by omega
          simp [b0, n1, n2, n3, p4, n5, n6, p7, n8, p9, min1, esub, w1, w2, due, q1, q1', ch1, sg, opNe_t2, opEq_t2, q2, q2']
          simp [h0, F_zero hj]
  obtain ⟨S', hm⟩ := main
  unfold d__law_right
  simp [hm]
end K45
end
section
namespace K45
open PySem L2 DL
theorem law_true (ns : List Int) (h : ns.length ≤ 63) : ∃ S, d_law [.lst (ns.map .int)] [] = .ok (.bl true) S := by
  have e3 : (ns.map D.int ++ [.int 3]) = (ns ++ [3]).map D.int := by simp
  have hl : (cutD (ns ++ [3]) none (some (maxII 1 (minII 8 (ns.length : Int))))).length ≤ 100 := Nat.le_trans (cut_len _ _ _) (by simp; omega)
  obtain ⟨e', he⟩ := law_loop (S := []) (b := bTup (bCons (bName 1) (bCons (bName 2) bNil))) (body := g_law_b1) (e := [some (.lst (ns.map D.int)), none, none])
    (fun e => ∃ a b, e = [some (.lst (ns.map D.int)), a, b]) (cutD (ns ++ [3]) none (some (maxII 1 (minII 8 (ns.length : Int))))) ⟨_, _, rfl⟩ (by
      rintro i c e hi ⟨a, b, rfl⟩
      have hr := right_ok c (k := i) (by omega)
      refine ⟨[some (.lst (ns.map D.int)), some (.int (i : Nat)), some (.int c)], [some (.lst (ns.map D.int)), some (.int (i : Nat)), some (.int c)], rfl, ?_, _, _, rfl⟩
      simp [g_law_b1, hr])
  unfold d_law g_law
  refine ⟨[], ?_⟩
  have e4 : cutD (ns.map D.int ++ [.int 3]) none (some (maxII 1 (minII 8 (ns.length : Int)))) = (cutD (ns ++ [3]) none (some (maxII 1 (minII 8 (ns.length : Int))))).map D.int := by rw [e3, cut_map]
  have hz : sz (ns.length + 1) := sz_is (by omega)
  simp [hz, e4, he]
end K45
end
section
namespace K45
open PySem L2 DL
def top (i : Nat) : Stmt := PySem.Challenge.pw_rolltally_k45_chances_of_samples.main.body.getD i (.Pass ⟨0, 0, 0, 0⟩)
structure Txt (K : PySem.W.Frag) (mg : Str → Option Value) : Prop where
  b_bool : mg "bool" = none
  b_enumerate : mg "enumerate" = none
  b_int : mg "int" = none
  b_isinstance : mg "isinstance" = none
  b_len : mg "len" = none
  b_max : mg "max" = none
  b_min : mg "min" = none
  b_range : mg "range" = none
  b_tuple : mg "tuple" = none
  g_MOST_PAPERS : ∃ t, mg "MOST_PAPERS" = some (.int 400 t)
section
variable {P : Program} {w : World} {K : PySem.W.Frag} {ca : Str → Option Addr} {mg : Str → Option Value} {base : Heap}
abbrev s__law_begun : Stmt := top 17
theorem sc__law_begun : FnScope ["_law_cell", "_law_k", "_law_seed"] ["_law_cell", "_law_k"] (defScope s__law_begun) := ⟨rfl, rfl, rfl, by decide +kernel, rfl, by decide +kernel, by decide +kernel⟩
theorem ok__law_begun {f : Addr} {fd : FuncData} (F : Fun K "_law_begun" "_law_begun" s__law_begun f fd) (T : Txt K mg)  : FnOk P w K mg base (L2.CX P w) 1 f fd ["_law_cell", "_law_k"] (spD ⟨K, ca⟩ 2 d__law_begun) :=
fnD (G := ⟨K, ca⟩) (N := ["_law_cell", "_law_k", "_law_seed"]) .keep F sc__law_begun fun cdv A outer s H E hr tk po =>
(dss_cons (ds_set (i := 2) sc__law_begun.nd rfl (Or.inl rfl) (de_op (do_add rfl) de_int (de_op do_mod (de_op do_pow (de_op (do_add rfl) (de_op (do_add rfl) (de_op do_mul (de_op do_mod (de_var 0) de_int) de_int) (de_op do_mul de_int (de_var 1))) de_int) de_int) de_int)))
(dss_cons (ds_if (dt_cmp do_ge (de_var 0) (de_op do_pow de_int de_int))
(dss_one (ds_ret (de_lstM (da_cons (de_op do_sub (de_var 0) (de_op do_pow de_int de_int)) (da_cons (de_var 2) (da_cons de_int da_nil))))))
dss_nil)
(dss_one (ds_ret (de_lstM (da_cons de_int (da_cons (de_var 2) (da_cons de_int da_nil))))))))

abbrev s__law_next : Stmt := top 18
theorem sc__law_next : FnScope ["_law_draw", "_law_size", "_law_found", "_law_mixed"] ["_law_draw", "_law_size"] (defScope s__law_next) := ⟨rfl, rfl, rfl, by decide +kernel, rfl, by decide +kernel, by decide +kernel⟩
theorem ok__law_next {f : Addr} {fd : FuncData} (F : Fun K "_law_next" "_law_next" s__law_next f fd) (T : Txt K mg)  : FnOk P w K mg base (L2.CX P w) 1 f fd ["_law_draw", "_law_size"] (spD ⟨K, ca⟩ 2 d__law_next) :=
fnD (G := ⟨K, ca⟩) (N := ["_law_draw", "_law_size", "_law_found", "_law_mixed"]) .keep F sc__law_next fun cdv A outer s H E hr tk po =>
(dss_cons (ds_if (dt_cmp do_gt (de_ix rfl (de_var 0) de_int) de_int)
(dss_cons (ds_set (i := 2) sc__law_next.nd rfl (Or.inl rfl) (de_op do_mod (de_ix rfl (de_var 0) de_int) (de_var 1)))
(dss_cons (ds_putL (de_op do_fdiv (de_ix rfl (de_var 0) de_int) (de_var 1)) (de_var 0) de_int)
(dss_one (ds_ret (de_var 2)))))
dss_nil)
(dss_cons (ds_putL (de_op (do_add rfl) (de_ix rfl (de_var 0) de_int) de_int) (de_var 0) de_int)
(dss_cons (ds_set (i := 3) sc__law_next.nd rfl (Or.inl rfl) (de_op do_mod (de_op do_pow (de_op (do_add rfl) (de_op (do_add rfl) (de_op do_mul (de_ix rfl (de_var 0) de_int) (de_op (do_add rfl) (de_op do_mul de_int (de_ix rfl (de_var 0) de_int)) de_int)) (de_op do_mul (de_op do_mul de_int (de_ix rfl (de_var 0) de_int)) (de_ix rfl (de_var 0) de_int))) de_int) de_int) de_int))
(dss_one (ds_ret (de_op do_mod (de_op do_fdiv (de_var 3) de_int) (de_var 1)))))))

abbrev s__law_pick : Stmt := top 19
theorem sc__law_pick : FnScope ["_law_draw", "_law_some"] ["_law_draw", "_law_some"] (defScope s__law_pick) := ⟨rfl, rfl, rfl, by decide +kernel, rfl, by decide +kernel, by decide +kernel⟩
theorem ok__law_pick {f : Addr} {fd : FuncData} (F : Fun K "_law_pick" "_law_pick" s__law_pick f fd) (T : Txt K mg) (c__law_next : Def ⟨K, ca⟩ P w mg base 1 "_law_next" 2 d__law_next) : FnOk P w K mg base (L2.CX P w) 2 f fd ["_law_draw", "_law_some"] (spD ⟨K, ca⟩ 2 d__law_pick) :=
fnD (G := ⟨K, ca⟩) (N := ["_law_draw", "_law_some"]) .keep F sc__law_pick fun cdv A outer s H E hr tk po =>
(dss_one (ds_ret (de_ix rfl (de_var 1) (de_call c__law_next rfl (hr.mono (by decide)) rfl tk (da_cons (de_var 0) (da_cons (de_callB (dc_len rfl) rfl T.b_len (by decide +kernel) (da_cons (de_var 1) da_nil)) da_nil)) rfl (la_cons (la_cons la_nil))))))

abbrev s__law_lowest : Stmt := top 21
theorem sc__law_lowest : FnScope ["_law_n", "_law_d", "_law_one", "_law_other"] ["_law_n", "_law_d"] (defScope s__law_lowest) := ⟨rfl, rfl, rfl, by decide +kernel, rfl, by decide +kernel, by decide +kernel⟩
theorem ok__law_lowest {f : Addr} {fd : FuncData} (F : Fun K "_law_lowest" "_law_lowest" s__law_lowest f fd) (T : Txt K mg)  : FnOk P w K mg base (L2.CX P w) 1 f fd ["_law_n", "_law_d"] (spD ⟨K, ca⟩ 2 d__law_lowest) :=
fnD (G := ⟨K, ca⟩) (N := ["_law_n", "_law_d", "_law_one", "_law_other"]) .pure F sc__law_lowest fun cdv A outer s H E hr tk po =>
(dss_cons (ds_par (i := 2) (j := 3) rfl sc__law_lowest.nd rfl rfl (by decide) rfl rfl (da_cons (de_var 0) (da_cons (de_var 1) da_nil)) (by rfl))
(dss_cons (ds_while po (dt_cmp do_gt (de_var 3) de_int)
(dss_one (ds_par (i := 2) (j := 3) rfl sc__law_lowest.nd rfl rfl (by decide) rfl rfl (da_cons (de_var 3) (da_cons (de_op do_mod (de_var 2) (de_var 3)) da_nil)) (by rfl))))
(dss_one (ds_ret (de_tup (da_cons (de_op do_fdiv (de_var 0) (de_var 2)) (da_cons (de_op do_fdiv (de_var 1) (de_var 2)) da_nil)))))))

abbrev s_is_whole : Stmt := top 4
theorem sc_is_whole : FnScope ["thing"] ["thing"] (defScope s_is_whole) := ⟨rfl, rfl, rfl, by decide +kernel, rfl, by decide +kernel, by decide +kernel⟩
theorem ok_is_whole {f : Addr} {fd : FuncData} (F : Fun K "is_whole" "is_whole" s_is_whole f fd) (T : Txt K mg)  : FnOk P w K mg base (L2.CX P w) 1 f fd ["thing"] (spD ⟨K, ca⟩ 1 d_is_whole) :=
fnD (G := ⟨K, ca⟩) (N := ["thing"]) .pure F sc_is_whole fun cdv A outer s H E hr tk po =>
(dss_one (ds_ret (de_and (de_isi .int rfl rfl T.b_isinstance rfl T.b_int (by decide +kernel) (de_var 0)) (de_one (de_not (de_isi .bool rfl rfl T.b_isinstance rfl T.b_bool (by decide +kernel) (de_var 0)))))))

abbrev s_is_count : Stmt := top 9
theorem sc_is_count : FnScope ["thing", "least", "most"] ["thing", "least", "most"] (defScope s_is_count) := ⟨rfl, rfl, rfl, by decide +kernel, rfl, by decide +kernel, by decide +kernel⟩
theorem ok_is_count {f : Addr} {fd : FuncData} (F : Fun K "is_count" "is_count" s_is_count f fd) (T : Txt K mg) (c_is_whole : Def ⟨K, ca⟩ P w mg base 1 "is_whole" 1 d_is_whole) : FnOk P w K mg base (L2.CX P w) 2 f fd ["thing", "least", "most"] (spD ⟨K, ca⟩ 3 d_is_count) :=
fnD (G := ⟨K, ca⟩) (N := ["thing", "least", "most"]) .pure F sc_is_count fun cdv A outer s H E hr tk po =>
(dss_one (ds_ret (de_and (de_call c_is_whole rfl (hr.mono (by decide)) rfl tk (da_cons (de_var 0) da_nil) rfl (la_cons la_nil)) (de_and (de_cmp do_ge (de_var 0) (de_var 1)) (de_one (de_or (de_cmp do_isN (de_var 2) de_non) (de_one (de_cmp do_le (de_var 0) (de_var 2)))))))))

abbrev s_need_counts : Stmt := top 12
theorem sc_need_counts : FnScope ["total", "wrong", "drawn"] ["total", "wrong", "drawn"] (defScope s_need_counts) := ⟨rfl, rfl, rfl, by decide +kernel, rfl, by decide +kernel, by decide +kernel⟩
theorem ok_need_counts {f : Addr} {fd : FuncData} (F : Fun K "need_counts" "need_counts" s_need_counts f fd) (T : Txt K mg) (c_is_count : Def ⟨K, ca⟩ P w mg base 2 "is_count" 3 d_is_count) : FnOk P w K mg base (L2.CX P w) 3 f fd ["total", "wrong", "drawn"] (spD ⟨K, ca⟩ 3 d_need_counts) :=
fnD (G := ⟨K, ca⟩) (N := ["total", "wrong", "drawn"]) .pure F sc_need_counts fun cdv A outer s H E hr tk po =>
(dss_one (ds_if (DW.t (dw_or (dt_not (dt_val (de_call c_is_count rfl (hr.mono (by decide)) rfl tk (da_cons (de_var 0) (da_cons de_int (da_cons (de_gInt T.g_MOST_PAPERS rfl) da_nil))) rfl (la_cons (la_cons (la_cons la_nil)))))) (dw_or (dt_not (dt_val (de_call c_is_count rfl (hr.mono (by decide)) rfl tk (da_cons (de_var 1) (da_cons de_int (da_cons (de_var 0) da_nil))) rfl (la_cons (la_cons (la_cons la_nil)))))) (dw_or1 (dt_not (dt_val (de_call c_is_count rfl (hr.mono (by decide)) rfl tk (da_cons (de_var 2) (da_cons de_int (da_cons (de_var 0) da_nil))) rfl (la_cons (la_cons (la_cons la_nil))))))))))
(dss_one ds_never)
dss_nil))

abbrev s_lowest : Stmt := top 6
theorem sc_lowest : FnScope ["n", "d", "one", "other"] ["n", "d"] (defScope s_lowest) := ⟨rfl, rfl, rfl, by decide +kernel, rfl, by decide +kernel, by decide +kernel⟩
theorem ok_lowest {f : Addr} {fd : FuncData} (F : Fun K "lowest" "lowest" s_lowest f fd) (T : Txt K mg)  : FnOk P w K mg base (L2.CX P w) 1 f fd ["n", "d"] (spD ⟨K, ca⟩ 2 d_lowest) :=
fnD (G := ⟨K, ca⟩) (N := ["n", "d", "one", "other"]) .pure F sc_lowest fun cdv A outer s H E hr tk po =>
(dss_cons (ds_par (i := 2) (j := 3) rfl sc_lowest.nd rfl rfl (by decide) rfl rfl (da_cons (de_var 0) (da_cons (de_var 1) da_nil)) (by rfl))
(dss_cons (ds_while po (dt_cmp (do_ne rfl hr.units) (de_var 3) de_int)
(dss_one (ds_par (i := 2) (j := 3) rfl sc_lowest.nd rfl rfl (by decide) rfl rfl (da_cons (de_var 3) (da_cons (de_op do_mod (de_var 2) (de_var 3)) da_nil)) (by rfl))))
(dss_one (ds_ret (de_tup (da_cons (de_op do_fdiv (de_var 0) (de_var 2)) (da_cons (de_op do_fdiv (de_var 1) (de_var 2)) da_nil)))))))

abbrev s_chance : Stmt := top 13
theorem sc_chance : FnScope ["total", "wrong", "drawn", "n", "d", "k"] ["total", "wrong", "drawn"] (defScope s_chance) := ⟨rfl, rfl, rfl, by decide +kernel, rfl, by decide +kernel, by decide +kernel⟩
theorem ok_chance {f : Addr} {fd : FuncData} (F : Fun K "chance" "chance" s_chance f fd) (T : Txt K mg) (c_need_counts : Def ⟨K, ca⟩ P w mg base 3 "need_counts" 3 d_need_counts) (c_lowest : Def ⟨K, ca⟩ P w mg base 1 "lowest" 2 d_lowest) : FnOk P w K mg base (L2.CX P w) 4 f fd ["total", "wrong", "drawn"] (spD ⟨K, ca⟩ 3 d_chance) :=
fnD (G := ⟨K, ca⟩) (N := ["total", "wrong", "drawn", "n", "d", "k"]) .pure F sc_chance fun cdv A outer s H E hr tk po =>
(dss_cons (ds_expr (de_call c_need_counts rfl (hr.mono (by decide)) rfl tk (da_cons (de_var 0) (da_cons (de_var 1) (da_cons (de_var 2) da_nil))) rfl (la_cons (la_cons (la_cons la_nil)))))
(dss_cons (ds_asg (de_tup (da_cons de_int (da_cons de_int da_nil))) (dg_tup rfl rfl (dgs_cons (dg_name sc_chance.nd rfl (by first | exact Or.inl rfl | exact Or.inr rfl)) (dgs_cons (dg_name sc_chance.nd rfl (by first | exact Or.inl rfl | exact Or.inr rfl)) dgs_nil)) (blen_cons (blen_cons blen_nil))))
(dss_cons (ds_for po rfl (di_range1 rfl T.b_range (da_cons (de_var 2) da_nil)) (dg_name sc_chance.nd rfl (by first | exact Or.inl rfl | exact Or.inr rfl))
(dss_one (ds_asg (de_call c_lowest rfl (hr.mono (by decide)) rfl tk (da_cons (de_op do_mul (de_var 3) (de_callB (dc_max2 rfl) rfl T.b_max (by decide +kernel) (da_cons de_int (da_cons (de_op do_sub (de_op do_sub (de_var 0) (de_var 1)) (de_var 5)) da_nil)))) (da_cons (de_op do_mul (de_var 4) (de_op do_sub (de_var 0) (de_var 5))) da_nil)) rfl (la_cons (la_cons la_nil))) (dg_tup rfl rfl (dgs_cons (dg_name sc_chance.nd rfl (by first | exact Or.inl rfl | exact Or.inr rfl)) (dgs_cons (dg_name sc_chance.nd rfl (by first | exact Or.inl rfl | exact Or.inr rfl)) dgs_nil)) (blen_cons (blen_cons blen_nil))))))
(dss_one (ds_ret (de_tup (da_cons (de_var 3) (da_cons (de_var 4) da_nil))))))))

abbrev s__law_ways : Stmt := top 22
theorem sc__law_ways : FnScope ["_law_many", "_law_some", "_law_found", "_law_k"] ["_law_many", "_law_some"] (defScope s__law_ways) := ⟨rfl, rfl, rfl, by decide +kernel, rfl, by decide +kernel, by decide +kernel⟩
theorem ok__law_ways {f : Addr} {fd : FuncData} (F : Fun K "_law_ways" "_law_ways" s__law_ways f fd) (T : Txt K mg)  : FnOk P w K mg base (L2.CX P w) 1 f fd ["_law_many", "_law_some"] (spD ⟨K, ca⟩ 2 d__law_ways) :=
fnD (G := ⟨K, ca⟩) (N := ["_law_many", "_law_some", "_law_found", "_law_k"]) .pure F sc__law_ways fun cdv A outer s H E hr tk po =>
(dss_cons (ds_set (i := 2) sc__law_ways.nd rfl (Or.inl rfl) de_int)
(dss_cons (ds_for po rfl (di_range1 rfl T.b_range (da_cons (de_var 1) da_nil)) (dg_name sc__law_ways.nd rfl (by first | exact Or.inl rfl | exact Or.inr rfl))
(dss_one (ds_set (i := 2) sc__law_ways.nd rfl (Or.inl rfl) (de_op do_fdiv (de_op do_mul (de_var 2) (de_callB (dc_max2 rfl) rfl T.b_max (by decide +kernel) (da_cons de_int (da_cons (de_op do_sub (de_var 0) (de_var 3)) da_nil)))) (de_op (do_add rfl) (de_var 3) de_int)))))
(dss_one (ds_ret (de_var 2)))))

abbrev s__law_over : Stmt := top 25
theorem sc__law_over : FnScope ["_law_one", "_law_other"] ["_law_one", "_law_other"] (defScope s__law_over) := ⟨rfl, rfl, rfl, by decide +kernel, rfl, by decide +kernel, by decide +kernel⟩
theorem ok__law_over {f : Addr} {fd : FuncData} (F : Fun K "_law_over" "_law_over" s__law_over f fd) (T : Txt K mg)  : FnOk P w K mg base (L2.CX P w) 1 f fd ["_law_one", "_law_other"] (spD ⟨K, ca⟩ 2 d__law_over) :=
fnD (G := ⟨K, ca⟩) (N := ["_law_one", "_law_other"]) .pure F sc__law_over fun cdv A outer s H E hr tk po =>
(dss_one (ds_ret (de_cmp do_gt (de_op do_mul (de_ix rfl (de_var 0) de_int) (de_ix rfl (de_var 1) de_int)) (de_op do_mul (de_ix rfl (de_var 1) de_int) (de_ix rfl (de_var 0) de_int)))))

abbrev s_is_less : Stmt := top 7
theorem sc_is_less : FnScope ["one", "other"] ["one", "other"] (defScope s_is_less) := ⟨rfl, rfl, rfl, by decide +kernel, rfl, by decide +kernel, by decide +kernel⟩
theorem ok_is_less {f : Addr} {fd : FuncData} (F : Fun K "is_less" "is_less" s_is_less f fd) (T : Txt K mg)  : FnOk P w K mg base (L2.CX P w) 1 f fd ["one", "other"] (spD ⟨K, ca⟩ 2 d_is_less) :=
fnD (G := ⟨K, ca⟩) (N := ["one", "other"]) .pure F sc_is_less fun cdv A outer s H E hr tk po =>
(dss_one (ds_ret (de_cmp do_lt (de_op do_mul (de_ix rfl (de_var 0) de_int) (de_ix rfl (de_var 1) de_int)) (de_op do_mul (de_ix rfl (de_var 1) de_int) (de_ix rfl (de_var 0) de_int)))))

abbrev s_is_share : Stmt := top 14
theorem sc_is_share : FnScope ["thing"] ["thing"] (defScope s_is_share) := ⟨rfl, rfl, rfl, by decide +kernel, rfl, by decide +kernel, by decide +kernel⟩
theorem ok_is_share {f : Addr} {fd : FuncData} (F : Fun K "is_share" "is_share" s_is_share f fd) (T : Txt K mg) (c_is_count : Def ⟨K, ca⟩ P w mg base 2 "is_count" 3 d_is_count) (c_lowest : Def ⟨K, ca⟩ P w mg base 1 "lowest" 2 d_lowest) : FnOk P w K mg base (L2.CX P w) 3 f fd ["thing"] (spD ⟨K, ca⟩ 1 d_is_share) :=
fnD (G := ⟨K, ca⟩) (N := ["thing"]) .pure F sc_is_share fun cdv A outer s H E hr tk po =>
(dss_cons (ds_if (DW.t (dw_or (dt_not (dt_val (de_isi .tuple rfl rfl T.b_isinstance rfl T.b_tuple (by decide +kernel) (de_var 0)))) (dw_or (dt_cmp (do_ne rfl hr.units) (de_callB (dc_len rfl) rfl T.b_len (by decide +kernel) (da_cons (de_var 0) da_nil)) de_int) (dw_or1 (dt_not (dt_val (de_call c_is_count rfl (hr.mono (by decide)) rfl tk (da_cons (de_ix rfl (de_var 0) de_int) (da_cons de_int (da_cons de_non da_nil))) rfl (la_cons (la_cons (la_cons la_nil))))))))))
(dss_one (ds_ret de_bl))
dss_nil)
(dss_one (ds_ret (de_and (de_call c_is_count rfl (hr.mono (by decide)) rfl tk (da_cons (de_ix rfl (de_var 0) de_int) (da_cons de_int (da_cons de_non da_nil))) rfl (la_cons (la_cons (la_cons la_nil)))) (de_one (de_cmp (do_eq rfl hr.units) (de_call c_lowest rfl (hr.mono (by decide)) rfl tk (da_cons (de_ix rfl (de_var 0) de_int) (da_cons (de_ix rfl (de_var 0) de_int) da_nil)) rfl (la_cons (la_cons la_nil))) (de_var 0)))))))

abbrev s_needed : Stmt := top 15
theorem sc_needed : FnScope ["total", "wrong", "limit", "drawn", "n", "d"] ["total", "wrong", "limit"] (defScope s_needed) := ⟨rfl, rfl, rfl, by decide +kernel, rfl, by decide +kernel, by decide +kernel⟩
theorem ok_needed {f : Addr} {fd : FuncData} (F : Fun K "needed" "needed" s_needed f fd) (T : Txt K mg) (c_need_counts : Def ⟨K, ca⟩ P w mg base 3 "need_counts" 3 d_need_counts) (c_lowest : Def ⟨K, ca⟩ P w mg base 1 "lowest" 2 d_lowest) (c_is_less : Def ⟨K, ca⟩ P w mg base 1 "is_less" 2 d_is_less) (c_is_share : Def ⟨K, ca⟩ P w mg base 3 "is_share" 1 d_is_share) : FnOk P w K mg base (L2.CX P w) 4 f fd ["total", "wrong", "limit"] (spD ⟨K, ca⟩ 3 d_needed) :=
fnD (G := ⟨K, ca⟩) (N := ["total", "wrong", "limit", "drawn", "n", "d"]) .pure F sc_needed fun cdv A outer s H E hr tk po =>
(dss_cons (ds_expr (de_call c_need_counts rfl (hr.mono (by decide)) rfl tk (da_cons (de_var 0) (da_cons (de_var 1) (da_cons de_int da_nil))) rfl (la_cons (la_cons (la_cons la_nil)))))
(dss_cons (ds_if (DW.t (dw_or (dt_cmp (do_eq rfl hr.units) (de_var 1) de_int) (dw_or1 (dt_not (dt_val (de_call c_is_share rfl (hr.mono (by decide)) rfl tk (da_cons (de_var 2) da_nil) rfl (la_cons la_nil)))))))
(dss_one ds_never)
dss_nil)
(dss_cons (ds_asg (de_tup (da_cons de_int (da_cons de_int (da_cons de_int da_nil)))) (dg_tup rfl rfl (dgs_cons (dg_name sc_needed.nd rfl (by first | exact Or.inl rfl | exact Or.inr rfl)) (dgs_cons (dg_name sc_needed.nd rfl (by first | exact Or.inl rfl | exact Or.inr rfl)) (dgs_cons (dg_name sc_needed.nd rfl (by first | exact Or.inl rfl | exact Or.inr rfl)) dgs_nil))) (blen_cons (blen_cons (blen_cons blen_nil)))))
(dss_cons (ds_while po (DW.t (dw_and (dt_cmp do_lt (de_var 3) (de_var 0)) (dw_and1 (dt_val (de_call c_is_less rfl (hr.mono (by decide)) rfl tk (da_cons (de_var 2) (da_cons (de_tup (da_cons (de_var 4) (da_cons (de_var 5) da_nil))) da_nil)) rfl (la_cons (la_cons la_nil)))))))
(dss_cons (ds_asg (de_call c_lowest rfl (hr.mono (by decide)) rfl tk (da_cons (de_op do_mul (de_var 4) (de_callB (dc_max2 rfl) rfl T.b_max (by decide +kernel) (da_cons de_int (da_cons (de_op do_sub (de_op do_sub (de_var 0) (de_var 1)) (de_var 3)) da_nil)))) (da_cons (de_op do_mul (de_var 5) (de_op do_sub (de_var 0) (de_var 3))) da_nil)) rfl (la_cons (la_cons la_nil))) (dg_tup rfl rfl (dgs_cons (dg_name sc_needed.nd rfl (by first | exact Or.inl rfl | exact Or.inr rfl)) (dgs_cons (dg_name sc_needed.nd rfl (by first | exact Or.inl rfl | exact Or.inr rfl)) dgs_nil)) (blen_cons (blen_cons blen_nil))))
(dss_one (ds_aug (i := 3) sc_needed.nd rfl (Or.inl rfl) do_iadd de_int))))
(dss_one (ds_ret (de_var 3)))))))

abbrev s__law_gone_through : Stmt := top 23
theorem sc__law_gone_through : FnScope ["_law_total", "_law_wrong", "_law_drawn", "_law_sets", "_law_k", "_law_good", "_law_one"] ["_law_total", "_law_wrong", "_law_drawn"] (defScope s__law_gone_through) := ⟨rfl, rfl, rfl, by decide +kernel, rfl, by decide +kernel, by decide +kernel⟩
theorem ok__law_gone_through {f : Addr} {fd : FuncData} (F : Fun K "_law_gone_through" "_law_gone_through" s__law_gone_through f fd) (T : Txt K mg) (c__law_lowest : Def ⟨K, ca⟩ P w mg base 1 "_law_lowest" 2 d__law_lowest) : FnOk P w K mg base (L2.CX P w) 2 f fd ["_law_total", "_law_wrong", "_law_drawn"] (spD ⟨K, ca⟩ 3 d__law_gone_through) :=
fnD (G := ⟨K, ca⟩) (N := ["_law_total", "_law_wrong", "_law_drawn", "_law_sets", "_law_k", "_law_good", "_law_one"]) .pure F sc__law_gone_through fun cdv A outer s H E hr tk po =>
(dss_cons (ds_set (i := 3) sc__law_gone_through.nd rfl (Or.inl rfl) (de_lst (da_cons (de_tup da_nil) da_nil)))
(dss_cons (ds_for po rfl (di_range1 rfl T.b_range (da_cons (de_var 0) da_nil)) (dg_name sc__law_gone_through.nd rfl (by first | exact Or.inl rfl | exact Or.inr rfl))
(dss_one (ds_set (i := 3) sc__law_gone_through.nd rfl (Or.inl rfl) (de_op (do_add rfl) (de_var 3) (de_lc (own := [("_law_one", 6)]) rfl sc__law_gone_through.nd (di_seq rfl (de_var 3)) (blkOk_by (N := ["_law_total", "_law_wrong", "_law_drawn", "_law_sets", "_law_k", "_law_good", "_law_one"]) (sc := defScope s__law_gone_through) (own := [("_law_one", 6)]) (by decide +kernel)) (fun _ _ _ _ _ => (dg_name sc__law_gone_through.nd rfl (by first | exact Or.inl rfl | exact Or.inr rfl))) (fun _ _ _ _ _ => dts_nil) (fun _ _ _ _ _ => (de_op (do_add rfl) (de_var 6) (de_tup (da_cons (de_var 4) da_nil)))) (by decide))))))
(dss_cons (ds_setLc (own := [("_law_one", 6)]) (i := 3) rfl sc__law_gone_through.nd (di_seq rfl (de_var 3)) (blkOk_by (N := ["_law_total", "_law_wrong", "_law_drawn", "_law_sets", "_law_k", "_law_good", "_law_one"]) (sc := defScope s__law_gone_through) (own := [("_law_one", 6)]) (by decide +kernel)) (fun _ _ _ _ _ => (dg_name sc__law_gone_through.nd rfl (by first | exact Or.inl rfl | exact Or.inr rfl))) (fun _ _ _ _ _ => (dts_one (dt_cmp (do_eq rfl hr.units) (de_callB (dc_len rfl) rfl T.b_len (by decide +kernel) (da_cons (de_var 6) da_nil)) (de_var 2)))) (fun _ _ _ _ _ => (de_var 6)) (by decide) rfl rfl (sw_true rfl rfl rfl (by decide +kernel)))
(dss_cons (ds_setLc (own := [("_law_one", 6)]) (i := 5) rfl sc__law_gone_through.nd (di_seq rfl (de_var 3)) (blkOk_by (N := ["_law_total", "_law_wrong", "_law_drawn", "_law_sets", "_law_k", "_law_good", "_law_one"]) (sc := defScope s__law_gone_through) (own := [("_law_one", 6)]) (by decide +kernel)) (fun _ _ _ _ _ => (dg_name sc__law_gone_through.nd rfl (by first | exact Or.inl rfl | exact Or.inr rfl))) (fun _ _ _ _ _ => (dts_one (dt_cmp (do_eq rfl hr.units) (de_lc (own := [("_law_k", 4)]) rfl sc__law_gone_through.nd (di_seq rfl (de_var 6)) (blkOk_by (by kernel_rfl)) (fun _ _ _ _ _ => (dg_name sc__law_gone_through.nd rfl (by first | exact Or.inl rfl | exact Or.inr rfl))) (fun _ _ _ _ _ => (dts_one (dt_cmp do_lt (de_var 4) (de_var 1)))) (fun _ _ _ _ _ => (de_var 4)) (by decide)) (de_lst da_nil)))) (fun _ _ _ _ _ => (de_var 6)) (by decide) rfl rfl (sw_true rfl rfl rfl (by decide +kernel)))
(dss_one (ds_ret (de_call c__law_lowest rfl (hr.mono (by decide)) rfl tk (da_cons (de_callB (dc_len rfl) rfl T.b_len (by decide +kernel) (da_cons (de_var 5) da_nil)) (da_cons (de_callB (dc_len rfl) rfl T.b_len (by decide +kernel) (da_cons (de_var 3) da_nil)) da_nil)) rfl (la_cons (la_cons la_nil)))))))))

abbrev s__law_whole : Stmt := top 20
theorem sc__law_whole : FnScope ["_law_thing"] ["_law_thing"] (defScope s__law_whole) := ⟨rfl, rfl, rfl, by decide +kernel, rfl, by decide +kernel, by decide +kernel⟩
theorem ok__law_whole {f : Addr} {fd : FuncData} (F : Fun K "_law_whole" "_law_whole" s__law_whole f fd) (T : Txt K mg)  : FnOk P w K mg base (L2.CX P w) 1 f fd ["_law_thing"] (spD ⟨K, ca⟩ 1 d__law_whole) :=
fnD (G := ⟨K, ca⟩) (N := ["_law_thing"]) .pure F sc__law_whole fun cdv A outer s H E hr tk po =>
(dss_one (ds_ret (de_and (de_isi .int rfl rfl T.b_isinstance rfl T.b_int (by decide +kernel) (de_var 0)) (de_one (de_not (de_isi .bool rfl rfl T.b_isinstance rfl T.b_bool (by decide +kernel) (de_var 0)))))))

abbrev s__law_share_good : Stmt := top 24
theorem sc__law_share_good : FnScope ["_law_thing"] ["_law_thing"] (defScope s__law_share_good) := ⟨rfl, rfl, rfl, by decide +kernel, rfl, by decide +kernel, by decide +kernel⟩
theorem ok__law_share_good {f : Addr} {fd : FuncData} (F : Fun K "_law_share_good" "_law_share_good" s__law_share_good f fd) (T : Txt K mg) (c__law_lowest : Def ⟨K, ca⟩ P w mg base 1 "_law_lowest" 2 d__law_lowest) (c__law_whole : Def ⟨K, ca⟩ P w mg base 1 "_law_whole" 1 d__law_whole) : FnOk P w K mg base (L2.CX P w) 2 f fd ["_law_thing"] (spD ⟨K, ca⟩ 1 d__law_share_good) :=
fnD (G := ⟨K, ca⟩) (N := ["_law_thing"]) .pure F sc__law_share_good fun cdv A outer s H E hr tk po =>
(dss_cons (ds_if (DW.t (dw_or (dt_not (dt_val (de_isi .tuple rfl rfl T.b_isinstance rfl T.b_tuple (by decide +kernel) (de_var 0)))) (dw_or (dt_cmp (do_ne rfl hr.units) (de_callB (dc_len rfl) rfl T.b_len (by decide +kernel) (da_cons (de_var 0) da_nil)) de_int) (dw_or (dt_not (dt_val (de_call c__law_whole rfl (hr.mono (by decide)) rfl tk (da_cons (de_ix rfl (de_var 0) de_int) da_nil) rfl (la_cons la_nil)))) (dw_or1 (dt_not (dt_val (de_call c__law_whole rfl (hr.mono (by decide)) rfl tk (da_cons (de_ix rfl (de_var 0) de_int) da_nil) rfl (la_cons la_nil)))))))))
(dss_one (ds_ret de_bl))
dss_nil)
(dss_one (ds_ret (de_and (de_cmp do_gt (de_ix rfl (de_var 0) de_int) de_int) (de_and (de_cmp do_ge (de_ix rfl (de_var 0) de_int) de_int) (de_one (de_cmp (do_eq rfl hr.units) (de_call c__law_lowest rfl (hr.mono (by decide)) rfl tk (da_cons (de_ix rfl (de_var 0) de_int) (da_cons (de_ix rfl (de_var 0) de_int) da_nil)) rfl (la_cons (la_cons la_nil))) (de_var 0))))))))

abbrev s__law_right : Stmt := top 26
theorem sc__law_right : FnScope ["_law_cell", "_law_k", "_law_draw", "_law_total", "_law_wrong", "_law_drawn", "_law_due", "_law_found", "_law_few", "_law_limit", "_law_many"] ["_law_cell", "_law_k"] (defScope s__law_right) := ⟨rfl, rfl, rfl, by decide +kernel, rfl, by decide +kernel, by decide +kernel⟩
theorem ok__law_right {f : Addr} {fd : FuncData} (F : Fun K "_law_right" "_law_right" s__law_right f fd) (T : Txt K mg) (c__law_begun : Def ⟨K, ca⟩ P w mg base 1 "_law_begun" 2 d__law_begun) (c__law_next : Def ⟨K, ca⟩ P w mg base 1 "_law_next" 2 d__law_next) (c__law_pick : Def ⟨K, ca⟩ P w mg base 2 "_law_pick" 2 d__law_pick) (c__law_lowest : Def ⟨K, ca⟩ P w mg base 1 "_law_lowest" 2 d__law_lowest) (c_chance : Def ⟨K, ca⟩ P w mg base 4 "chance" 3 d_chance) (c__law_ways : Def ⟨K, ca⟩ P w mg base 1 "_law_ways" 2 d__law_ways) (c__law_over : Def ⟨K, ca⟩ P w mg base 1 "_law_over" 2 d__law_over) (c_needed : Def ⟨K, ca⟩ P w mg base 4 "needed" 3 d_needed) (c__law_gone_through : Def ⟨K, ca⟩ P w mg base 2 "_law_gone_through" 3 d__law_gone_through) (c__law_whole : Def ⟨K, ca⟩ P w mg base 1 "_law_whole" 1 d__law_whole) (c__law_share_good : Def ⟨K, ca⟩ P w mg base 2 "_law_share_good" 1 d__law_share_good) : FnOk P w K mg base (L2.CX P w) 5 f fd ["_law_cell", "_law_k"] (spD ⟨K, ca⟩ 2 d__law_right) :=
fnD (G := ⟨K, ca⟩) (N := ["_law_cell", "_law_k", "_law_draw", "_law_total", "_law_wrong", "_law_drawn", "_law_due", "_law_found", "_law_few", "_law_limit", "_law_many"]) .pure F sc__law_right fun cdv A outer s H E hr tk po =>
(dss_cons (ds_set (i := 2) sc__law_right.nd rfl (Or.inl rfl) (de_call c__law_begun rfl (hr.mono (by decide)) rfl tk (da_cons (de_var 0) (da_cons (de_var 1) da_nil)) rfl (la_cons (la_cons la_nil))))
(dss_cons (ds_set (i := 3) sc__law_right.nd rfl (Or.inl rfl) (de_call c__law_pick rfl (hr.mono (by decide)) rfl tk (da_cons (de_var 2) (da_cons (de_lst (da_cons de_int (da_cons de_int (da_cons (de_call c__law_next rfl (hr.mono (by decide)) rfl tk (da_cons (de_var 2) (da_cons de_int da_nil)) rfl (la_cons (la_cons la_nil))) (da_cons de_int (da_cons (de_call c__law_next rfl (hr.mono (by decide)) rfl tk (da_cons (de_var 2) (da_cons de_int da_nil)) rfl (la_cons (la_cons la_nil))) (da_cons (de_call c__law_next rfl (hr.mono (by decide)) rfl tk (da_cons (de_var 2) (da_cons de_int da_nil)) rfl (la_cons (la_cons la_nil))) (da_cons de_int da_nil)))))))) da_nil)) rfl (la_cons (la_cons la_nil))))
(dss_cons (ds_set (i := 4) sc__law_right.nd rfl (Or.inl rfl) (de_call c__law_pick rfl (hr.mono (by decide)) rfl tk (da_cons (de_var 2) (da_cons (de_lst (da_cons de_int (da_cons (de_var 3) (da_cons (de_callB (dc_min2 rfl) rfl T.b_min (by decide +kernel) (da_cons (de_var 3) (da_cons de_int da_nil))) (da_cons (de_call c__law_next rfl (hr.mono (by decide)) rfl tk (da_cons (de_var 2) (da_cons (de_op (do_add rfl) (de_var 3) de_int) da_nil)) rfl (la_cons (la_cons la_nil))) (da_cons (de_call c__law_next rfl (hr.mono (by decide)) rfl tk (da_cons (de_var 2) (da_cons (de_op (do_add rfl) (de_var 3) de_int) da_nil)) rfl (la_cons (la_cons la_nil))) da_nil)))))) da_nil)) rfl (la_cons (la_cons la_nil))))
(dss_cons (ds_set (i := 5) sc__law_right.nd rfl (Or.inl rfl) (de_call c__law_pick rfl (hr.mono (by decide)) rfl tk (da_cons (de_var 2) (da_cons (de_lst (da_cons de_int (da_cons (de_var 3) (da_cons (de_callB (dc_min2 rfl) rfl T.b_min (by decide +kernel) (da_cons (de_var 3) (da_cons de_int da_nil))) (da_cons (de_call c__law_next rfl (hr.mono (by decide)) rfl tk (da_cons (de_var 2) (da_cons (de_op (do_add rfl) (de_var 3) de_int) da_nil)) rfl (la_cons (la_cons la_nil))) (da_cons (de_op do_sub (de_var 3) (de_var 4)) da_nil)))))) da_nil)) rfl (la_cons (la_cons la_nil))))
(dss_cons (ds_set (i := 6) sc__law_right.nd rfl (Or.inl rfl) (de_call c__law_lowest rfl (hr.mono (by decide)) rfl tk (da_cons (de_call c__law_ways rfl (hr.mono (by decide)) rfl tk (da_cons (de_op do_sub (de_var 3) (de_var 4)) (da_cons (de_var 5) da_nil)) rfl (la_cons (la_cons la_nil))) (da_cons (de_call c__law_ways rfl (hr.mono (by decide)) rfl tk (da_cons (de_var 3) (da_cons (de_var 5) da_nil)) rfl (la_cons (la_cons la_nil))) da_nil)) rfl (la_cons (la_cons la_nil))))
(dss_cons (ds_if (DW.t (dw_and (dt_cmp do_lt (de_var 3) de_int) (dw_and1 (dt_cmp (do_ne rfl hr.units) (de_call c__law_gone_through rfl (hr.mono (by decide)) rfl tk (da_cons (de_var 3) (da_cons (de_var 4) (da_cons (de_var 5) da_nil))) rfl (la_cons (la_cons (la_cons la_nil)))) (de_var 6)))))
(dss_one (ds_ret de_bl))
dss_nil)
(dss_cons (ds_set (i := 7) sc__law_right.nd rfl (Or.inl rfl) (de_call c_chance rfl (hr.mono (by decide)) rfl tk (da_cons (de_var 3) (da_cons (de_var 4) (da_cons (de_var 5) da_nil))) rfl (la_cons (la_cons (la_cons la_nil)))))
(dss_cons (ds_if (DW.t (dw_or (dt_not (dt_val (de_call c__law_share_good rfl (hr.mono (by decide)) rfl tk (da_cons (de_var 7) da_nil) rfl (la_cons la_nil)))) (dw_or1 (dt_cmp (do_ne rfl hr.units) (de_var 7) (de_var 6)))))
(dss_one (ds_ret de_bl))
dss_nil)
(dss_cons (ds_if (DW.t (dw_and (dt_cmp do_lt (de_var 5) (de_var 3)) (dw_and1 (dt_val (de_call c__law_over rfl (hr.mono (by decide)) rfl tk (da_cons (de_call c_chance rfl (hr.mono (by decide)) rfl tk (da_cons (de_var 3) (da_cons (de_var 4) (da_cons (de_op (do_add rfl) (de_var 5) de_int) da_nil))) rfl (la_cons (la_cons (la_cons la_nil)))) (da_cons (de_var 6) da_nil)) rfl (la_cons (la_cons la_nil)))))))
(dss_one (ds_ret de_bl))
dss_nil)
(dss_cons (ds_if (dt_cmp (do_eq rfl hr.units) (de_var 4) de_int)
(dss_one (ds_ret (de_cmp (do_eq rfl hr.units) (de_var 6) (de_tup (da_cons de_int (da_cons de_int da_nil))))))
dss_nil)
(dss_cons (ds_set (i := 8) sc__law_right.nd rfl (Or.inl rfl) (de_call c__law_lowest rfl (hr.mono (by decide)) rfl tk (da_cons (de_call c__law_next rfl (hr.mono (by decide)) rfl tk (da_cons (de_var 2) (da_cons de_int da_nil)) rfl (la_cons (la_cons la_nil))) (da_cons de_int da_nil)) rfl (la_cons (la_cons la_nil))))
(dss_cons (ds_for po rfl (di_seq rfl (de_lst (da_cons (de_var 6) (da_cons (de_var 8) (da_cons (de_tup (da_cons de_int (da_cons de_int da_nil))) (da_cons (de_tup (da_cons de_int (da_cons de_int da_nil))) (da_cons (de_tup (da_cons de_int (da_cons de_int da_nil))) (da_cons (de_call c__law_lowest rfl (hr.mono (by decide)) rfl tk (da_cons (de_op do_mul (de_ix rfl (de_var 6) de_int) de_int) (da_cons (de_op do_mul (de_ix rfl (de_var 6) de_int) de_int) da_nil)) rfl (la_cons (la_cons la_nil))) (da_cons (de_tup (da_cons de_int (da_cons de_int da_nil))) da_nil))))))))) (dg_name sc__law_right.nd rfl (by first | exact Or.inl rfl | exact Or.inr rfl))
(dss_cons (ds_set (i := 10) sc__law_right.nd rfl (Or.inl rfl) (de_call c_needed rfl (hr.mono (by decide)) rfl tk (da_cons (de_var 3) (da_cons (de_var 4) (da_cons (de_var 9) da_nil))) rfl (la_cons (la_cons (la_cons la_nil)))))
(dss_cons (ds_if (DW.t (dw_or (dt_not (dt_val (de_call c__law_whole rfl (hr.mono (by decide)) rfl tk (da_cons (de_var 10) da_nil) rfl (la_cons la_nil)))) (dw_or1 (dt_not (dt_chain do_le do_le de_int (de_var 10) (de_var 3))))))
(dss_one (ds_ret de_bl))
dss_nil)
(dss_cons (ds_if (DW.t (dw_and (dt_cmp do_lt (de_var 10) (de_var 3)) (dw_and1 (dt_val (de_call c__law_over rfl (hr.mono (by decide)) rfl tk (da_cons (de_call c_chance rfl (hr.mono (by decide)) rfl tk (da_cons (de_var 3) (da_cons (de_var 4) (da_cons (de_var 10) da_nil))) rfl (la_cons (la_cons (la_cons la_nil)))) (da_cons (de_var 9) da_nil)) rfl (la_cons (la_cons la_nil)))))))
(dss_one (ds_ret de_bl))
dss_nil)
(dss_one (ds_if (DW.t (dw_and (dt_cmp do_gt (de_var 10) de_int) (dw_and1 (dt_not (dt_val (de_call c__law_over rfl (hr.mono (by decide)) rfl tk (da_cons (de_call c_chance rfl (hr.mono (by decide)) rfl tk (da_cons (de_var 3) (da_cons (de_var 4) (da_cons (de_op do_sub (de_var 10) de_int) da_nil))) rfl (la_cons (la_cons (la_cons la_nil)))) (da_cons (de_var 9) da_nil)) rfl (la_cons (la_cons la_nil))))))))
(dss_one (ds_ret de_bl))
dss_nil))))))
(dss_one (ds_ret de_bl))))))))))))))

abbrev s_law : Stmt := top 27
theorem sc_law : FnScope ["_law_script", "_law_k", "_law_cell"] ["_law_script"] (defScope s_law) := ⟨rfl, rfl, rfl, by decide +kernel, rfl, by decide +kernel, by decide +kernel⟩
theorem ok_law {f : Addr} {fd : FuncData} (F : Fun K "law" "law" s_law f fd) (T : Txt K mg) (c__law_right : Def ⟨K, ca⟩ P w mg base 5 "_law_right" 2 d__law_right) : FnOk P w K mg base (L2.CX P w) 6 f fd ["_law_script"] (spD ⟨K, ca⟩ 1 d_law) :=
fnD (G := ⟨K, ca⟩) (N := ["_law_script", "_law_k", "_law_cell"]) .pure F sc_law fun cdv A outer s H E hr tk po =>
(dss_cons (ds_for po rfl (di_enum rfl rfl T.b_enumerate (da_cons (de_slice rfl (de_op (do_add rfl) (de_var 0) (de_lst (da_cons de_int da_nil))) do_none (do_some (de_callB (dc_max2 rfl) rfl T.b_max (by decide +kernel) (da_cons de_int (da_cons (de_callB (dc_min2 rfl) rfl T.b_min (by decide +kernel) (da_cons de_int (da_cons (de_callB (dc_len rfl) rfl T.b_len (by decide +kernel) (da_cons (de_var 0) da_nil)) da_nil))) da_nil))))) da_nil)) (dg_tup rfl rfl (dgs_cons (dg_name sc_law.nd rfl (by first | exact Or.inl rfl | exact Or.inr rfl)) (dgs_cons (dg_name sc_law.nd rfl (by first | exact Or.inl rfl | exact Or.inr rfl)) dgs_nil)) (blen_cons (blen_cons blen_nil)))
(dss_one (ds_if (dt_not (dt_val (de_call c__law_right rfl (hr.mono (by decide)) rfl tk (da_cons (de_var 2) (da_cons (de_var 1) da_nil)) rfl (la_cons (la_cons la_nil)))))
(dss_one (ds_ret de_bl))
dss_nil)))
(dss_one (ds_ret de_bl)))
end
end K45
end
section
namespace K45
open PySem L2 DL
theorem all_mk {l : PySem.W.OpenLaw} {w : World} {K : PySem.W.Frag} {h : Heap} {mg : Str → Option Value} (X : K.In h) (G : h.Ns mainGlobals mg) {fa f1 f2 f3 f4 f5 f6 f7 f8 f9 f10 f11 f12 f13 f14 f15 f16 f17 f18 f19 : Addr} {od1 an1 od2 an2 od3 an3 od4 an4 od5 an5 od6 an6 od7 an7 od8 an8 od9 an9 od10 an10 od11 an11 od12 an12 od13 an13 od14 an14 od15 an15 od16 an16 od17 an17 od18 an18 od19 an19 : Option Addr} {sl1 sl2 sl3 sl4 sl5 sl6 sl7 sl8 sl9 sl10 sl11 sl12 sl13 sl14 sl15 sl16 sl17 sl18 sl19 : Array (Option Value)} {oc1 kV1 dc1 pm1 cd1 ct1 oc2 kV2 dc2 pm2 cd2 ct2 oc3 kV3 dc3 pm3 cd3 ct3 oc4 kV4 dc4 pm4 cd4 ct4 oc5 kV5 dc5 pm5 cd5 ct5 oc6 kV6 dc6 pm6 cd6 ct6 oc7 kV7 dc7 pm7 cd7 ct7 oc8 kV8 dc8 pm8 cd8 ct8 oc9 kV9 dc9 pm9 cd9 ct9 oc10 kV10 dc10 pm10 cd10 ct10 oc11 kV11 dc11 pm11 cd11 ct11 oc12 kV12 dc12 pm12 cd12 ct12 oc13 kV13 dc13 pm13 cd13 ct13 oc14 kV14 dc14 pm14 cd14 ct14 oc15 kV15 dc15 pm15 cd15 ct15 oc16 kV16 dc16 pm16 cd16 ct16 oc17 kV17 dc17 pm17 cd17 ct17 oc18 kV18 dc18 pm18 cd18 ct18 oc19 kV19 dc19 pm19 cd19 ct19 : Value} {t_MOST_PAPERS : Tok} (hfa : mg "law" = some (.ref fa))
    (a1 : PySem.W.nsIn K mainGlobals "_law_begun" = some (some (.ref f1))) (l1 : K.lookup f1 = some ⟨oc1, od1, .func (PySem.W.fnOf "_law_begun" "_law_begun" (defArgs s__law_begun) (defBody s__law_begun) (defScope s__law_begun) .none kV1 dc1 pm1 an1 cd1 ct1), sl1⟩) (c1 : PySem.W.codeIn K cd1 "_law_begun" = true) (k1 : PySem.W.keepIn K (.ref f1) = true)
    (a2 : PySem.W.nsIn K mainGlobals "_law_next" = some (some (.ref f2))) (l2 : K.lookup f2 = some ⟨oc2, od2, .func (PySem.W.fnOf "_law_next" "_law_next" (defArgs s__law_next) (defBody s__law_next) (defScope s__law_next) .none kV2 dc2 pm2 an2 cd2 ct2), sl2⟩) (c2 : PySem.W.codeIn K cd2 "_law_next" = true) (k2 : PySem.W.keepIn K (.ref f2) = true)
    (a3 : PySem.W.nsIn K mainGlobals "_law_pick" = some (some (.ref f3))) (l3 : K.lookup f3 = some ⟨oc3, od3, .func (PySem.W.fnOf "_law_pick" "_law_pick" (defArgs s__law_pick) (defBody s__law_pick) (defScope s__law_pick) .none kV3 dc3 pm3 an3 cd3 ct3), sl3⟩) (c3 : PySem.W.codeIn K cd3 "_law_pick" = true) (k3 : PySem.W.keepIn K (.ref f3) = true)
    (a4 : PySem.W.nsIn K mainGlobals "_law_lowest" = some (some (.ref f4))) (l4 : K.lookup f4 = some ⟨oc4, od4, .func (PySem.W.fnOf "_law_lowest" "_law_lowest" (defArgs s__law_lowest) (defBody s__law_lowest) (defScope s__law_lowest) .none kV4 dc4 pm4 an4 cd4 ct4), sl4⟩) (c4 : PySem.W.codeIn K cd4 "_law_lowest" = true) (k4 : PySem.W.keepIn K (.ref f4) = true)
    (a5 : PySem.W.nsIn K mainGlobals "is_whole" = some (some (.ref f5))) (l5 : K.lookup f5 = some ⟨oc5, od5, .func (PySem.W.fnOf "is_whole" "is_whole" (defArgs s_is_whole) (defBody s_is_whole) (defScope s_is_whole) .none kV5 dc5 pm5 an5 cd5 ct5), sl5⟩) (c5 : PySem.W.codeIn K cd5 "is_whole" = true) (k5 : PySem.W.keepIn K (.ref f5) = true)
    (a6 : PySem.W.nsIn K mainGlobals "is_count" = some (some (.ref f6))) (l6 : K.lookup f6 = some ⟨oc6, od6, .func (PySem.W.fnOf "is_count" "is_count" (defArgs s_is_count) (defBody s_is_count) (defScope s_is_count) .none kV6 dc6 pm6 an6 cd6 ct6), sl6⟩) (c6 : PySem.W.codeIn K cd6 "is_count" = true) (k6 : PySem.W.keepIn K (.ref f6) = true)
    (a7 : PySem.W.nsIn K mainGlobals "need_counts" = some (some (.ref f7))) (l7 : K.lookup f7 = some ⟨oc7, od7, .func (PySem.W.fnOf "need_counts" "need_counts" (defArgs s_need_counts) (defBody s_need_counts) (defScope s_need_counts) .none kV7 dc7 pm7 an7 cd7 ct7), sl7⟩) (c7 : PySem.W.codeIn K cd7 "need_counts" = true) (k7 : PySem.W.keepIn K (.ref f7) = true)
    (a8 : PySem.W.nsIn K mainGlobals "lowest" = some (some (.ref f8))) (l8 : K.lookup f8 = some ⟨oc8, od8, .func (PySem.W.fnOf "lowest" "lowest" (defArgs s_lowest) (defBody s_lowest) (defScope s_lowest) .none kV8 dc8 pm8 an8 cd8 ct8), sl8⟩) (c8 : PySem.W.codeIn K cd8 "lowest" = true) (k8 : PySem.W.keepIn K (.ref f8) = true)
    (a9 : PySem.W.nsIn K mainGlobals "chance" = some (some (.ref f9))) (l9 : K.lookup f9 = some ⟨oc9, od9, .func (PySem.W.fnOf "chance" "chance" (defArgs s_chance) (defBody s_chance) (defScope s_chance) .none kV9 dc9 pm9 an9 cd9 ct9), sl9⟩) (c9 : PySem.W.codeIn K cd9 "chance" = true) (k9 : PySem.W.keepIn K (.ref f9) = true)
    (a10 : PySem.W.nsIn K mainGlobals "_law_ways" = some (some (.ref f10))) (l10 : K.lookup f10 = some ⟨oc10, od10, .func (PySem.W.fnOf "_law_ways" "_law_ways" (defArgs s__law_ways) (defBody s__law_ways) (defScope s__law_ways) .none kV10 dc10 pm10 an10 cd10 ct10), sl10⟩) (c10 : PySem.W.codeIn K cd10 "_law_ways" = true) (k10 : PySem.W.keepIn K (.ref f10) = true)
    (a11 : PySem.W.nsIn K mainGlobals "_law_over" = some (some (.ref f11))) (l11 : K.lookup f11 = some ⟨oc11, od11, .func (PySem.W.fnOf "_law_over" "_law_over" (defArgs s__law_over) (defBody s__law_over) (defScope s__law_over) .none kV11 dc11 pm11 an11 cd11 ct11), sl11⟩) (c11 : PySem.W.codeIn K cd11 "_law_over" = true) (k11 : PySem.W.keepIn K (.ref f11) = true)
    (a12 : PySem.W.nsIn K mainGlobals "is_less" = some (some (.ref f12))) (l12 : K.lookup f12 = some ⟨oc12, od12, .func (PySem.W.fnOf "is_less" "is_less" (defArgs s_is_less) (defBody s_is_less) (defScope s_is_less) .none kV12 dc12 pm12 an12 cd12 ct12), sl12⟩) (c12 : PySem.W.codeIn K cd12 "is_less" = true) (k12 : PySem.W.keepIn K (.ref f12) = true)
    (a13 : PySem.W.nsIn K mainGlobals "is_share" = some (some (.ref f13))) (l13 : K.lookup f13 = some ⟨oc13, od13, .func (PySem.W.fnOf "is_share" "is_share" (defArgs s_is_share) (defBody s_is_share) (defScope s_is_share) .none kV13 dc13 pm13 an13 cd13 ct13), sl13⟩) (c13 : PySem.W.codeIn K cd13 "is_share" = true) (k13 : PySem.W.keepIn K (.ref f13) = true)
    (a14 : PySem.W.nsIn K mainGlobals "needed" = some (some (.ref f14))) (l14 : K.lookup f14 = some ⟨oc14, od14, .func (PySem.W.fnOf "needed" "needed" (defArgs s_needed) (defBody s_needed) (defScope s_needed) .none kV14 dc14 pm14 an14 cd14 ct14), sl14⟩) (c14 : PySem.W.codeIn K cd14 "needed" = true) (k14 : PySem.W.keepIn K (.ref f14) = true)
    (a15 : PySem.W.nsIn K mainGlobals "_law_gone_through" = some (some (.ref f15))) (l15 : K.lookup f15 = some ⟨oc15, od15, .func (PySem.W.fnOf "_law_gone_through" "_law_gone_through" (defArgs s__law_gone_through) (defBody s__law_gone_through) (defScope s__law_gone_through) .none kV15 dc15 pm15 an15 cd15 ct15), sl15⟩) (c15 : PySem.W.codeIn K cd15 "_law_gone_through" = true) (k15 : PySem.W.keepIn K (.ref f15) = true)
    (a16 : PySem.W.nsIn K mainGlobals "_law_whole" = some (some (.ref f16))) (l16 : K.lookup f16 = some ⟨oc16, od16, .func (PySem.W.fnOf "_law_whole" "_law_whole" (defArgs s__law_whole) (defBody s__law_whole) (defScope s__law_whole) .none kV16 dc16 pm16 an16 cd16 ct16), sl16⟩) (c16 : PySem.W.codeIn K cd16 "_law_whole" = true) (k16 : PySem.W.keepIn K (.ref f16) = true)
    (a17 : PySem.W.nsIn K mainGlobals "_law_share_good" = some (some (.ref f17))) (l17 : K.lookup f17 = some ⟨oc17, od17, .func (PySem.W.fnOf "_law_share_good" "_law_share_good" (defArgs s__law_share_good) (defBody s__law_share_good) (defScope s__law_share_good) .none kV17 dc17 pm17 an17 cd17 ct17), sl17⟩) (c17 : PySem.W.codeIn K cd17 "_law_share_good" = true) (k17 : PySem.W.keepIn K (.ref f17) = true)
    (a18 : PySem.W.nsIn K mainGlobals "_law_right" = some (some (.ref f18))) (l18 : K.lookup f18 = some ⟨oc18, od18, .func (PySem.W.fnOf "_law_right" "_law_right" (defArgs s__law_right) (defBody s__law_right) (defScope s__law_right) .none kV18 dc18 pm18 an18 cd18 ct18), sl18⟩) (c18 : PySem.W.codeIn K cd18 "_law_right" = true) (k18 : PySem.W.keepIn K (.ref f18) = true)
    (a19 : PySem.W.nsIn K mainGlobals "law" = some (some (.ref f19))) (l19 : K.lookup f19 = some ⟨oc19, od19, .func (PySem.W.fnOf "law" "law" (defArgs s_law) (defBody s_law) (defScope s_law) .none kV19 dc19 pm19 an19 cd19 ct19), sl19⟩) (c19 : PySem.W.codeIn K cd19 "law" = true) (k19 : PySem.W.keepIn K (.ref f19) = true)
    (z_bool : PySem.W.nsIn K mainGlobals "bool" = some none)
    (z_enumerate : PySem.W.nsIn K mainGlobals "enumerate" = some none)
    (z_int : PySem.W.nsIn K mainGlobals "int" = some none)
    (z_isinstance : PySem.W.nsIn K mainGlobals "isinstance" = some none)
    (z_len : PySem.W.nsIn K mainGlobals "len" = some none)
    (z_max : PySem.W.nsIn K mainGlobals "max" = some none)
    (z_min : PySem.W.nsIn K mainGlobals "min" = some none)
    (z_range : PySem.W.nsIn K mainGlobals "range" = some none)
    (z_tuple : PySem.W.nsIn K mainGlobals "tuple" = some none)
    (y_MOST_PAPERS : PySem.W.nsIn K mainGlobals "MOST_PAPERS" = some (some (.int 400 t_MOST_PAPERS))) :
    ∃ fd : FuncData, (∀ (s : Shared) (v : Value), BindsTo s fd ⟨[v], []⟩ [("_law_script", v)]) ∧ ∀ base : Heap, K.In base → base.Ns mainGlobals mg → FnOk l.prog w K mg base (L2.CX l.prog w) 6 fa fd ["_law_script"] (spD ⟨K, fun _ => none⟩ 1 d_law) := by
  have e := hfa.symm.trans (PySem.W.mg_of X G a19)
  cases e
  have T : Txt K mg := ⟨PySem.W.mg_none_of X G z_bool, PySem.W.mg_none_of X G z_enumerate, PySem.W.mg_none_of X G z_int, PySem.W.mg_none_of X G z_isinstance, PySem.W.mg_none_of X G z_len, PySem.W.mg_none_of X G z_max, PySem.W.mg_none_of X G z_min, PySem.W.mg_none_of X G z_range, PySem.W.mg_none_of X G z_tuple, ⟨_, PySem.W.mg_of X G y_MOST_PAPERS⟩⟩
  have F1 := fun_mk (st := s__law_begun) l1 c1 k1
  have F2 := fun_mk (st := s__law_next) l2 c2 k2
  have F3 := fun_mk (st := s__law_pick) l3 c3 k3
  have F4 := fun_mk (st := s__law_lowest) l4 c4 k4
  have F5 := fun_mk (st := s_is_whole) l5 c5 k5
  have F6 := fun_mk (st := s_is_count) l6 c6 k6
  have F7 := fun_mk (st := s_need_counts) l7 c7 k7
  have F8 := fun_mk (st := s_lowest) l8 c8 k8
  have F9 := fun_mk (st := s_chance) l9 c9 k9
  have F10 := fun_mk (st := s__law_ways) l10 c10 k10
  have F11 := fun_mk (st := s__law_over) l11 c11 k11
  have F12 := fun_mk (st := s_is_less) l12 c12 k12
  have F13 := fun_mk (st := s_is_share) l13 c13 k13
  have F14 := fun_mk (st := s_needed) l14 c14 k14
  have F15 := fun_mk (st := s__law_gone_through) l15 c15 k15
  have F16 := fun_mk (st := s__law_whole) l16 c16 k16
  have F17 := fun_mk (st := s__law_share_good) l17 c17 k17
  have F18 := fun_mk (st := s__law_right) l18 c18 k18
  have F19 := fun_mk (st := s_law) l19 c19 k19
  refine ⟨PySem.W.fnOf "law" "law" (defArgs s_law) (defBody s_law) (defScope s_law) .none kV19 dc19 pm19 an19 cd19 ct19, fun s v => .of_eq rfl, fun base _ _ => ?_⟩
  have D__law_begun : Def ⟨K, fun _ => none⟩ l.prog w mg base 1 "_law_begun" 2 d__law_begun := ⟨⟨f1, _, _, ok__law_begun F1 T , PySem.W.mg_of X G a1, k1, F1.binds (ps := ["_law_cell", "_law_k"]) fun _ _ _ _ _ _ us hl => match us, hl with | [_, _], _ => rfl⟩⟩
  have D__law_next : Def ⟨K, fun _ => none⟩ l.prog w mg base 1 "_law_next" 2 d__law_next := ⟨⟨f2, _, _, ok__law_next F2 T , PySem.W.mg_of X G a2, k2, F2.binds (ps := ["_law_draw", "_law_size"]) fun _ _ _ _ _ _ us hl => match us, hl with | [_, _], _ => rfl⟩⟩
  have D__law_pick : Def ⟨K, fun _ => none⟩ l.prog w mg base 2 "_law_pick" 2 d__law_pick := ⟨⟨f3, _, _, ok__law_pick F3 T D__law_next, PySem.W.mg_of X G a3, k3, F3.binds (ps := ["_law_draw", "_law_some"]) fun _ _ _ _ _ _ us hl => match us, hl with | [_, _], _ => rfl⟩⟩
  have D__law_lowest : Def ⟨K, fun _ => none⟩ l.prog w mg base 1 "_law_lowest" 2 d__law_lowest := ⟨⟨f4, _, _, ok__law_lowest F4 T , PySem.W.mg_of X G a4, k4, F4.binds (ps := ["_law_n", "_law_d"]) fun _ _ _ _ _ _ us hl => match us, hl with | [_, _], _ => rfl⟩⟩
  have D_is_whole : Def ⟨K, fun _ => none⟩ l.prog w mg base 1 "is_whole" 1 d_is_whole := ⟨⟨f5, _, _, ok_is_whole F5 T , PySem.W.mg_of X G a5, k5, F5.binds (ps := ["thing"]) fun _ _ _ _ _ _ us hl => match us, hl with | [_], _ => rfl⟩⟩
  have D_is_count : Def ⟨K, fun _ => none⟩ l.prog w mg base 2 "is_count" 3 d_is_count := ⟨⟨f6, _, _, ok_is_count F6 T D_is_whole, PySem.W.mg_of X G a6, k6, F6.binds (ps := ["thing", "least", "most"]) fun _ _ _ _ _ _ us hl => match us, hl with | [_, _, _], _ => rfl⟩⟩
  have D_need_counts : Def ⟨K, fun _ => none⟩ l.prog w mg base 3 "need_counts" 3 d_need_counts := ⟨⟨f7, _, _, ok_need_counts F7 T D_is_count, PySem.W.mg_of X G a7, k7, F7.binds (ps := ["total", "wrong", "drawn"]) fun _ _ _ _ _ _ us hl => match us, hl with | [_, _, _], _ => rfl⟩⟩
  have D_lowest : Def ⟨K, fun _ => none⟩ l.prog w mg base 1 "lowest" 2 d_lowest := ⟨⟨f8, _, _, ok_lowest F8 T , PySem.W.mg_of X G a8, k8, F8.binds (ps := ["n", "d"]) fun _ _ _ _ _ _ us hl => match us, hl with | [_, _], _ => rfl⟩⟩
  have D_chance : Def ⟨K, fun _ => none⟩ l.prog w mg base 4 "chance" 3 d_chance := ⟨⟨f9, _, _, ok_chance F9 T D_need_counts D_lowest, PySem.W.mg_of X G a9, k9, F9.binds (ps := ["total", "wrong", "drawn"]) fun _ _ _ _ _ _ us hl => match us, hl with | [_, _, _], _ => rfl⟩⟩
  have D__law_ways : Def ⟨K, fun _ => none⟩ l.prog w mg base 1 "_law_ways" 2 d__law_ways := ⟨⟨f10, _, _, ok__law_ways F10 T , PySem.W.mg_of X G a10, k10, F10.binds (ps := ["_law_many", "_law_some"]) fun _ _ _ _ _ _ us hl => match us, hl with | [_, _], _ => rfl⟩⟩
  have D__law_over : Def ⟨K, fun _ => none⟩ l.prog w mg base 1 "_law_over" 2 d__law_over := ⟨⟨f11, _, _, ok__law_over F11 T , PySem.W.mg_of X G a11, k11, F11.binds (ps := ["_law_one", "_law_other"]) fun _ _ _ _ _ _ us hl => match us, hl with | [_, _], _ => rfl⟩⟩
  have D_is_less : Def ⟨K, fun _ => none⟩ l.prog w mg base 1 "is_less" 2 d_is_less := ⟨⟨f12, _, _, ok_is_less F12 T , PySem.W.mg_of X G a12, k12, F12.binds (ps := ["one", "other"]) fun _ _ _ _ _ _ us hl => match us, hl with | [_, _], _ => rfl⟩⟩
  have D_is_share : Def ⟨K, fun _ => none⟩ l.prog w mg base 3 "is_share" 1 d_is_share := ⟨⟨f13, _, _, ok_is_share F13 T D_is_count D_lowest, PySem.W.mg_of X G a13, k13, F13.binds (ps := ["thing"]) fun _ _ _ _ _ _ us hl => match us, hl with | [_], _ => rfl⟩⟩
  have D_needed : Def ⟨K, fun _ => none⟩ l.prog w mg base 4 "needed" 3 d_needed := ⟨⟨f14, _, _, ok_needed F14 T D_need_counts D_lowest D_is_less D_is_share, PySem.W.mg_of X G a14, k14, F14.binds (ps := ["total", "wrong", "limit"]) fun _ _ _ _ _ _ us hl => match us, hl with | [_, _, _], _ => rfl⟩⟩
  have D__law_gone_through : Def ⟨K, fun _ => none⟩ l.prog w mg base 2 "_law_gone_through" 3 d__law_gone_through := ⟨⟨f15, _, _, ok__law_gone_through F15 T D__law_lowest, PySem.W.mg_of X G a15, k15, F15.binds (ps := ["_law_total", "_law_wrong", "_law_drawn"]) fun _ _ _ _ _ _ us hl => match us, hl with | [_, _, _], _ => rfl⟩⟩
  have D__law_whole : Def ⟨K, fun _ => none⟩ l.prog w mg base 1 "_law_whole" 1 d__law_whole := ⟨⟨f16, _, _, ok__law_whole F16 T , PySem.W.mg_of X G a16, k16, F16.binds (ps := ["_law_thing"]) fun _ _ _ _ _ _ us hl => match us, hl with | [_], _ => rfl⟩⟩
  have D__law_share_good : Def ⟨K, fun _ => none⟩ l.prog w mg base 2 "_law_share_good" 1 d__law_share_good := ⟨⟨f17, _, _, ok__law_share_good F17 T D__law_lowest D__law_whole, PySem.W.mg_of X G a17, k17, F17.binds (ps := ["_law_thing"]) fun _ _ _ _ _ _ us hl => match us, hl with | [_], _ => rfl⟩⟩
  have D__law_right : Def ⟨K, fun _ => none⟩ l.prog w mg base 5 "_law_right" 2 d__law_right := ⟨⟨f18, _, _, ok__law_right F18 T D__law_begun D__law_next D__law_pick D__law_lowest D_chance D__law_ways D__law_over D_needed D__law_gone_through D__law_whole D__law_share_good, PySem.W.mg_of X G a18, k18, F18.binds (ps := ["_law_cell", "_law_k"]) fun _ _ _ _ _ _ us hl => match us, hl with | [_, _], _ => rfl⟩⟩
  exact ok_law F19 T D__law_right
theorem walk {l : PySem.W.OpenLaw} {q : Program} {loose : List Str} {XP : (Str → Option Value) → Heap → Prop} {YP : World → Heap → Prop} {d : DefRec} {K : Params → PySem.W.Frag} (hn : l.most = some 63) (hdf : d.params.defaults = [])
    (hY : ∀ (w : World) (h : Heap), YP w h → (K w.params).In h)
    (F : ∀ (w : World) (mg : Str → Option Value) (fa : Addr) (h : Heap), (K w.params).In h → h.Ns mainGlobals mg → mg d.name = some (.ref fa) →
      ∃ fd : FuncData, (∀ (s : Shared) (u : Value), BindsTo s fd ⟨[u], []⟩ [("_law_script", u)]) ∧ ∀ base : Heap, (K w.params).In base → base.Ns mainGlobals mg → FnOk l.prog w (K w.params) mg base (L2.CX l.prog w) 6 fa fd ["_law_script"] (spD ⟨K w.params, fun _ => none⟩ 1 d_law)) :
    PySem.W.WalkO q loose XP YP l.row.toRowW d [] (fun f vs => PySem.call f vs) :=
  L2.walk_of (n := 63) (k := 6) (x := "_law_script") (CX := fun w => L2.CX l.prog w) (sp := fun w => spD ⟨K w.params, fun _ => none⟩ 1 d_law) hn (by decide) hdf ⟨rfl, by decide, by decide⟩ hY F
    (fun w H a ns hl hO hS => law_sp (G := ⟨K w.params, fun _ => none⟩) hO hS (law_true ns hl)) fun w H s e s' z => no_CX z
end K45
open PySem PySem.W PyProof.Rows in
set_option maxRecDepth 100000 in
set_option maxHeartbeats 0 in
theorem PySem.Challenge.cw_rolltally_k45_chances_of_samples_holds : PySem.Challenge.rw_rolltally_k45_chances_of_samples.Holds := by
  w_on; o_law; k_head; (case hw => w_witness2)
  k_fill
  refine K45.walk (l := PySem.Challenge.rw_rolltally_k45_chances_of_samples) rfl rfl (fun w h Y => PySem.W.kIn_of Y) ?F
  case F =>
    intro w mg fa h KX G hmg
    refine' K45.all_mk KX G hmg ?a1 ?l1 ?c1 ?k1 ?a2 ?l2 ?c2 ?k2 ?a3 ?l3 ?c3 ?k3 ?a4 ?l4 ?c4 ?k4 ?a5 ?l5 ?c5 ?k5 ?a6 ?l6 ?c6 ?k6 ?a7 ?l7 ?c7 ?k7 ?a8 ?l8 ?c8 ?k8 ?a9 ?l9 ?c9 ?k9 ?a10 ?l10 ?c10 ?k10 ?a11 ?l11 ?c11 ?k11 ?a12 ?l12 ?c12 ?k12 ?a13 ?l13 ?c13 ?k13 ?a14 ?l14 ?c14 ?k14 ?a15 ?l15 ?c15 ?k15 ?a16 ?l16 ?c16 ?k16 ?a17 ?l17 ?c17 ?k17 ?a18 ?l18 ?c18 ?k18 ?a19 ?l19 ?c19 ?k19 ?z_bool ?z_enumerate ?z_int ?z_isinstance ?z_len ?z_max ?z_min ?z_range ?z_tuple ?y_MOST_PAPERS
    (case a1 => k_is)
    (case l1 => k_is)
    (case c1 => k_is)
    (case k1 => k_is)
    (case a2 => k_is)
    (case l2 => k_is)
    (case c2 => k_is)
    (case k2 => k_is)
    (case a3 => k_is)
    (case l3 => k_is)
    (case c3 => k_is)
    (case k3 => k_is)
    (case a4 => k_is)
    (case l4 => k_is)
    (case c4 => k_is)
    (case k4 => k_is)
    (case a5 => k_is)
    (case l5 => k_is)
    (case c5 => k_is)
    (case k5 => k_is)
    (case a6 => k_is)
    (case l6 => k_is)
    (case c6 => k_is)
    (case k6 => k_is)
    (case a7 => k_is)
    (case l7 => k_is)
    (case c7 => k_is)
    (case k7 => k_is)
    (case a8 => k_is)
    (case l8 => k_is)
    (case c8 => k_is)
    (case k8 => k_is)
    (case a9 => k_is)
    (case l9 => k_is)
    (case c9 => k_is)
    (case k9 => k_is)
    (case a10 => k_is)
    (case l10 => k_is)
    (case c10 => k_is)
    (case k10 => k_is)
    (case a11 => k_is)
    (case l11 => k_is)
    (case c11 => k_is)
    (case k11 => k_is)
    (case a12 => k_is)
    (case l12 => k_is)
    (case c12 => k_is)
    (case k12 => k_is)
    (case a13 => k_is)
    (case l13 => k_is)
    (case c13 => k_is)
    (case k13 => k_is)
    (case a14 => k_is)
    (case l14 => k_is)
    (case c14 => k_is)
    (case k14 => k_is)
    (case a15 => k_is)
    (case l15 => k_is)
    (case c15 => k_is)
    (case k15 => k_is)
    (case a16 => k_is)
    (case l16 => k_is)
    (case c16 => k_is)
    (case k16 => k_is)
    (case a17 => k_is)
    (case l17 => k_is)
    (case c17 => k_is)
    (case k17 => k_is)
    (case a18 => k_is)
    (case l18 => k_is)
    (case c18 => k_is)
    (case k18 => k_is)
    (case a19 => k_is)
    (case l19 => k_is)
    (case c19 => k_is)
    (case k19 => k_is)
    (case z_bool => k_is)
    (case z_enumerate => k_is)
    (case z_int => k_is)
    (case z_isinstance => k_is)
    (case z_len => k_is)
    (case z_max => k_is)
    (case z_min => k_is)
    (case z_range => k_is)
    (case z_tuple => k_is)
    (case y_MOST_PAPERS => k_is)
end
