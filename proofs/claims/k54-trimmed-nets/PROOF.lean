import PyProof.Rows.All
import Wide.All
import OpenK.AllK
import Wide.FinOn
import HandS.ForMost
import HandS.Defaults
import HandS.WordsExc
import HandS.Wide
import HandS.TupAny
import HandS.TupLe
import HandS.IsInst
import KE.GoesEnum
import HandS.Zip
import HandS.TupLen
import HandS.WordsDict
import HandS.DictComp
import HandS.SortInts
import HandS.Strs
import HandS.Style
import HandS.SortKw
import KE.KIndexWalk
import PyProof.TupleOfSeq
import HandS.HeadEnd
import HandS.HeadHook2
import HandS.Head0
import HandS.Head1
import HandS.Head2
import HandS.HeadHook1
import KE.KStateDown
import PySem.Challenge.RW_carrynet_k54_whole_trimmed_nets
set_option Elab.async false
set_option linter.all false
set_option maxRecDepth 100000
set_option maxHeartbeats 4000000
/-! Z0: values as trees, a list-heap of mutable objects, what ties them to the hand layer's heap. -/
namespace Z
open PySem PySem.Spec PyProof.Rows L2
/-- a value as a tree; obj n: the n-th mutable object -/
inductive D where
  | non | bl (b : Bool) | int (i : Int) | str (x : Str) | ty (n : String) | glb (a : Addr) | obj (n : Nat)
  | tup (xs : List D) | lst (xs : List D) | fz (xs : List D) | kt (xs : List D) | tf (xs : List D)
  | dK (ks : List Key) (vs : List D) | dT (ks : List (List Key)) (vs : List D)
/-- a mutable object -/
inductive Cl where
  | lst (xs : List D) | dK (ks : List Key) (vs : List D) | dT (ks : List (List Key)) (vs : List D) | ins (C : Addr) (fs : List Str) (vs : List D)
abbrev AH := List Cl
abbrev ZS := List (Option D)
/-- the handles' addresses; addresses that no frozen value may touch (lists being made) -/
structure Wd where
  r : List Addr
  x : List Addr
abbrev Wd.push (r : Wd) (p : Addr) : Wd := ⟨r.r ++ [p], r.x⟩
def Out (r : Wd) (a : Addr) : Prop := a ∉ r.r ∧ a ∉ r.x
/-- a list that is read only: the script, a list of the module -/
def LstAt (K : PySem.W.Frag) (r : Wd) (H : Hp) (a : Addr) (vs : List V) : Prop := ((∃ o, H a = some (.frz o (.lst vs))) ∧ Out r a) ∨ SqL K (fun _ => none) a vs
theorem rd_none {a : Addr} {u : HO} (h : Rd (fun _ => none) a u) : False := by
  rcases h with h | ⟨o, h⟩ <;> cases h
theorem sqT_k {K : PySem.W.Frag} {H : Hp} {a : Addr} {vs : List V} (h : SqT K (fun _ => none) a vs) : SqT K H a vs := by
  rcases h with h | h
  · exact (rd_none h).elim
  · exact .inr h
theorem LstAt.sq {K : PySem.W.Frag} {r : Wd} {H : Hp} {a : Addr} {vs : List V} (h : LstAt K r H a vs) : SqL K H a vs := by
  rcases h with ⟨h, _⟩ | h
  · exact .inl (.inr h)
  · rcases h with h | h
    · exact (rd_none h).elim
    · exact .inr h
mutual
def RelD (K : PySem.W.Frag) (r : Wd) (H : Hp) : D → V → Prop
  | .non, v => v = .non
  | .bl b, v => v = .bl b
  | .int i, v => v = .int i
  | .str x, v => v = .str x
  | .ty n, v => v = .ty n
  | .glb a, v => v = .ref a
  | .obj n, v => ∃ a, v = .ref a ∧ r.r[n]? = some a
  | .tup ds, v => ∃ a vs, v = .ref a ∧ H a = some (.tup vs) ∧ Out r a ∧ RelDs K r H ds vs
  | .kt ds, v => ∃ a vs, v = .ref a ∧ SqT K (fun _ => none) a vs ∧ RelDs K r H ds vs
  | .tf ds, v => ∃ a vs, v = .ref a ∧ (∃ o, H a = some (.frz o (.tup vs)) ∧ o.cls = .type "tuple" ∧ o.dict = none) ∧ Out r a ∧ RelDs K r H ds vs
  | .lst ds, v => ∃ a vs, v = .ref a ∧ H a = some (.lst vs) ∧ Out r a ∧ RelDs K r H ds vs
  | .fz ds, v => ∃ a vs, v = .ref a ∧ LstAt K r H a vs ∧ RelDs K r H ds vs
  | .dK ks ds, v => ∃ a vs, v = .ref a ∧ H a = some (.dK (ks.zip vs)) ∧ Out r a ∧ ks.length = vs.length ∧ RelDs K r H ds vs
  | .dT ks ds, v => ∃ a vs, v = .ref a ∧ H a = some (.dT (ks.zip vs)) ∧ Out r a ∧ ks.length = vs.length ∧ RelDs K r H ds vs
def RelDs (K : PySem.W.Frag) (r : Wd) (H : Hp) : List D → List V → Prop
  | [], vs => vs = []
  | d :: ds, vs => ∃ v ws, vs = v :: ws ∧ RelD K r H d v ∧ RelDs K r H ds ws
end
/-- what a step keeps: the objects that are no handles, the handles -/
structure Ext (r : Wd) (H : Hp) (r' : Wd) (H' : Hp) : Prop where
  pre : ∃ more, r'.r = r.r ++ more
  keep : ∀ a o, H a = some o → a ∉ r.r → H' a = some o ∧ a ∉ r'.r ∧ (a ∉ r.x → a ∉ r'.x)
  px : ∀ a ∈ r.x, a ∈ r'.x
theorem Ext.refl (r : Wd) (H : Hp) : Ext r H r H := ⟨⟨[], by simp⟩, fun _ _ h n => ⟨h, n, fun m => m⟩, fun _ h => h⟩
theorem Ext.trans {r r1 r2 : Wd} {H H1 H2 : Hp} (a : Ext r H r1 H1) (b : Ext r1 H1 r2 H2) : Ext r H r2 H2 := by
  obtain ⟨m, e⟩ := a.pre
  obtain ⟨m', e'⟩ := b.pre
  exact ⟨⟨m ++ m', by rw [e', e, List.append_assoc]⟩, fun c o h n =>
    have k1 := a.keep c o h n
    have k2 := b.keep c o k1.1 k1.2.1
    ⟨k2.1, k2.2.1, fun z => k2.2.2 (k1.2.2 z)⟩, fun c h => b.px c (a.px c h)⟩
/-- what carries a value over -/
structure Tr (r : Wd) (H : Hp) (r' : Wd) (H' : Hp) : Prop where
  get : ∀ (n : Nat) (a : Addr), r.r[n]? = some a → r'.r[n]? = some a
  keep : ∀ a o, H a = some o → Out r a → H' a = some o ∧ Out r' a
theorem Ext.tr {r r' : Wd} {H H' : Hp} (e : Ext r H r' H') : Tr r H r' H' := ⟨fun n a h => by
  obtain ⟨m, q⟩ := e.pre
  rw [q, List.getElem?_append_left (List.getElem?_eq_some_iff.mp h).1]
  exact h, fun a o h n =>
    have k := e.keep a o h n.1
    ⟨k.1, k.2.1, k.2.2 n.2⟩⟩
theorem Tr.rd {r r' : Wd} {H H' : Hp} {a : Addr} {u : HO} (e : Tr r H r' H') (h : Rd H a u) (n : Out r a) : Rd H' a u ∧ Out r' a := by
  rcases h with h | ⟨o, h⟩
  · have k := e.keep _ _ h n
    exact ⟨.inl k.1, k.2⟩
  · have k := e.keep _ _ h n
    exact ⟨.inr ⟨o, k.1⟩, k.2⟩
theorem Tr.lst {K : PySem.W.Frag} {r r' : Wd} {H H' : Hp} {a : Addr} {vs : List V} (e : Tr r H r' H') (h : LstAt K r H a vs) : LstAt K r' H' a vs := by
  rcases h with ⟨⟨o, h⟩, n⟩ | h
  · exact .inl ⟨⟨o, (e.keep _ _ h n).1⟩, (e.keep _ _ h n).2⟩
  · exact .inr h
section
variable {K : PySem.W.Frag} {r r' : Wd} {H H' : Hp}
mutual
theorem RelD.go (e : Tr r H r' H') : ∀ (d : D) (v : V), RelD K r H d v → RelD K r' H' d v
  | .non, v, h => h
  | .bl _, v, h => h
  | .int _, v, h => h
  | .str _, v, h => h
  | .ty _, v, h => h
  | .glb _, v, h => h
  | .obj n, v, h => by
    obtain ⟨a, h1, h2⟩ := h
    exact ⟨a, h1, e.get n a h2⟩
  | .tup ds, v, h => by
    obtain ⟨a, vs, h1, h2, h3, h5⟩ := h
    exact ⟨a, vs, h1, (e.keep _ _ h2 h3).1, (e.keep _ _ h2 h3).2, RelDs.go e ds vs h5⟩
  | .kt ds, v, h => by
    obtain ⟨a, vs, h1, h2, h3⟩ := h
    exact ⟨a, vs, h1, h2, RelDs.go e ds vs h3⟩
  | .tf ds, v, h => by
    obtain ⟨a, vs, h1, ⟨o, h2, h4⟩, h3, h5⟩ := h
    exact ⟨a, vs, h1, ⟨o, (e.keep _ _ h2 h3).1, h4⟩, (e.keep _ _ h2 h3).2, RelDs.go e ds vs h5⟩
  | .lst ds, v, h => by
    obtain ⟨a, vs, h1, h2, h3, h5⟩ := h
    exact ⟨a, vs, h1, (e.keep _ _ h2 h3).1, (e.keep _ _ h2 h3).2, RelDs.go e ds vs h5⟩
  | .fz ds, v, h => by
    obtain ⟨a, vs, h1, h2, h3⟩ := h
    exact ⟨a, vs, h1, e.lst h2, RelDs.go e ds vs h3⟩
  | .dK ks ds, v, h => by
    obtain ⟨a, vs, h1, h2, h3, h4, h5⟩ := h
    exact ⟨a, vs, h1, (e.keep _ _ h2 h3).1, (e.keep _ _ h2 h3).2, h4, RelDs.go e ds vs h5⟩
  | .dT ks ds, v, h => by
    obtain ⟨a, vs, h1, h2, h3, h4, h5⟩ := h
    exact ⟨a, vs, h1, (e.keep _ _ h2 h3).1, (e.keep _ _ h2 h3).2, h4, RelDs.go e ds vs h5⟩
theorem RelDs.go (e : Tr r H r' H') : ∀ (ds : List D) (vs : List V), RelDs K r H ds vs → RelDs K r' H' ds vs
  | [], vs, h => h
  | d :: ds, vs, h => by
    obtain ⟨v, ws, h1, h2, h3⟩ := h
    exact ⟨v, ws, h1, RelD.go e d v h2, RelDs.go e ds ws h3⟩
end
theorem RelD.mono (e : Ext r H r' H') (d : D) (v : V) (h : RelD K r H d v) : RelD K r' H' d v := RelD.go e.tr d v h
theorem RelDs.mono (e : Ext r H r' H') (d : List D) (v : List V) (h : RelDs K r H d v) : RelDs K r' H' d v := RelDs.go e.tr d v h
theorem RelDs.length : ∀ {ds : List D} {vs : List V}, RelDs K r H ds vs → ds.length = vs.length
  | [], vs, h => by
    have h : vs = [] := h
    rw [h]; rfl
  | d :: ds, vs, h => by
    obtain ⟨v, ws, rfl, _, h3⟩ := h
    rw [List.length_cons, List.length_cons, RelDs.length h3]
theorem RelDs.get : ∀ {ds : List D} {vs : List V} {i : Nat} {d : D}, RelDs K r H ds vs → ds[i]? = some d → ∃ v, vs[i]? = some v ∧ RelD K r H d v
  | [], vs, i, d, h, e => by simp at e
  | d0 :: ds, vs, 0, d, h, e => by
    obtain ⟨v, ws, rfl, h2, h3⟩ := h
    simp at e; subst e
    exact ⟨v, rfl, h2⟩
  | d0 :: ds, vs, i + 1, d, h, e => by
    obtain ⟨v, ws, rfl, h2, h3⟩ := h
    obtain ⟨u, h4, h5⟩ := RelDs.get (i := i) (d := d) h3 (by simpa using e)
    exact ⟨u, by simpa using h4, h5⟩
theorem RelDs.get' : ∀ {ds : List D} {vs : List V} {i : Nat} {v : V}, RelDs K r H ds vs → vs[i]? = some v → ∃ d, ds[i]? = some d ∧ RelD K r H d v := by
  intro ds vs i v h e
  have hl := h.length
  have hi := (List.getElem?_eq_some_iff.mp e).1
  obtain ⟨w, h1, h2⟩ := h.get (i := i) (d := ds[i]'(by omega)) (List.getElem?_eq_getElem (by omega))
  rw [e] at h1; cases h1
  exact ⟨_, List.getElem?_eq_getElem (by omega), h2⟩
theorem RelDs.append : ∀ {ds es : List D} {vs ws : List V}, RelDs K r H ds vs → RelDs K r H es ws → RelDs K r H (ds ++ es) (vs ++ ws)
  | [], es, vs, ws, h, h' => by
    have h : vs = [] := h
    rw [h]; exact h'
  | d :: ds, es, vs, ws, h, h' => by
    obtain ⟨v, us, rfl, h2, h3⟩ := h
    exact ⟨v, us ++ ws, rfl, h2, RelDs.append h3 h'⟩
theorem RelDs.take : ∀ {ds : List D} {vs : List V} (n : Nat), RelDs K r H ds vs → RelDs K r H (ds.take n) (vs.take n)
  | ds, vs, 0, h => by
    rw [List.take_zero, List.take_zero]; rfl
  | [], vs, n + 1, h => by
    have h : vs = [] := h
    rw [h]; rfl
  | d :: ds, vs, n + 1, h => by
    obtain ⟨v, us, rfl, h2, h3⟩ := h
    exact ⟨v, us.take n, rfl, h2, RelDs.take n h3⟩
theorem RelDs.drop : ∀ {ds : List D} {vs : List V} (n : Nat), RelDs K r H ds vs → RelDs K r H (ds.drop n) (vs.drop n)
  | ds, vs, 0, h => by
    rw [List.drop_zero, List.drop_zero]; exact h
  | [], vs, n + 1, h => by
    have h : vs = [] := h
    rw [h]; rfl
  | d :: ds, vs, n + 1, h => by
    obtain ⟨v, us, rfl, h2, h3⟩ := h
    exact RelDs.drop n h3
theorem RelDs.set {d : D} {v : V} (hd : RelD K r H d v) : ∀ {ds : List D} {vs : List V} (i : Nat), RelDs K r H ds vs → RelDs K r H (ds.set i d) (vs.set i v)
  | [], vs, i, h => by
    have h : vs = [] := h
    rw [h]; rfl
  | e :: ds, vs, 0, h => by
    obtain ⟨u, us, rfl, h2, h3⟩ := h
    exact ⟨v, us, rfl, hd, h3⟩
  | e :: ds, vs, i + 1, h => by
    obtain ⟨u, us, rfl, h2, h3⟩ := h
    exact ⟨u, us.set i v, rfl, h2, RelDs.set hd i h3⟩
theorem RelDs.one {d : D} {v : V} (h : RelD K r H d v) : RelDs K r H [d] [v] := ⟨v, [], rfl, h, rfl⟩
theorem RelDs.reverse : ∀ {ds : List D} {vs : List V}, RelDs K r H ds vs → RelDs K r H ds.reverse vs.reverse
  | [], vs, h => by
    have h : vs = [] := h
    rw [h]; rfl
  | d :: ds, vs, h => by
    obtain ⟨u, us, rfl, h2, h3⟩ := h
    rw [List.reverse_cons, List.reverse_cons]
    exact RelDs.append (RelDs.reverse h3) (.one h2)
theorem RelDs.replicate {d : D} {v : V} (h : RelD K r H d v) : ∀ n : Nat, RelDs K r H (List.replicate n d) (List.replicate n v)
  | 0 => rfl
  | n + 1 => ⟨v, List.replicate n v, rfl, h, RelDs.replicate h n⟩
theorem RelDs.ints : ∀ {ns : List Int} {vs : List V}, RelDs K r H (ns.map D.int) vs → vs = ns.map V.int
  | [], vs, h => h
  | n :: ns, vs, h => by
    obtain ⟨v, us, rfl, h2, h3⟩ := h
    have h2 : v = .int n := h2
    rw [h2, RelDs.ints h3]; rfl
theorem RelDs.of_ints (ns : List Int) : RelDs K r H (ns.map D.int) (ns.map V.int) := by
  induction ns with
  | nil => rfl
  | cons n ns ih => exact ⟨_, _, rfl, rfl, ih⟩
/-- a mutable object stands at a -/
def RelC (K : PySem.W.Frag) (r : Wd) (H : Hp) : Cl → Addr → Prop
  | .lst ds, a => ∃ vs, H a = some (.lst vs) ∧ RelDs K r H ds vs
  | .dK ks ds, a => ∃ vs, H a = some (.dK (ks.zip vs)) ∧ ks.length = vs.length ∧ RelDs K r H ds vs
  | .dT ks ds, a => ∃ vs, H a = some (.dT (ks.zip vs)) ∧ ks.length = vs.length ∧ RelDs K r H ds vs
  | .ins C fs ds, a => ∃ dx vs, H a = some (.ins C dx (fs.zip vs)) ∧ fs.length = vs.length ∧ RelDs K r H ds vs
theorem RelC.there {c : Cl} {a : Addr} (h : RelC K r H c a) : ∃ o, H a = some o := by
  cases c with
  | lst _ => obtain ⟨_, h, _⟩ := h; exact ⟨_, h⟩
  | dK _ _ => obtain ⟨_, h, _⟩ := h; exact ⟨_, h⟩
  | dT _ _ => obtain ⟨_, h, _⟩ := h; exact ⟨_, h⟩
  | ins _ _ _ => obtain ⟨_, _, h, _⟩ := h; exact ⟨_, h⟩
theorem RelC.go {c : Cl} {a : Addr} (e : Tr r H r' H') (h : RelC K r H c a) (ha : H' a = H a) : RelC K r' H' c a := by
  cases c with
  | lst _ => obtain ⟨vs, h, h2⟩ := h; exact ⟨vs, ha.trans h, RelDs.go e _ _ h2⟩
  | dK _ _ => obtain ⟨vs, h, h2, h3⟩ := h; exact ⟨vs, ha.trans h, h2, RelDs.go e _ _ h3⟩
  | dT _ _ => obtain ⟨vs, h, h2, h3⟩ := h; exact ⟨vs, ha.trans h, h2, RelDs.go e _ _ h3⟩
  | ins _ _ _ => obtain ⟨dx, vs, h, h2, h3⟩ := h; exact ⟨dx, vs, ha.trans h, h2, RelDs.go e _ _ h3⟩
theorem RelC.mono {c : Cl} {a : Addr} (e : Ext r H r' H') (h : RelC K r H c a) (ha : H' a = H a) : RelC K r' H' c a := h.go e.tr ha
/-- the list-heap h is the handles r's part of H -/
structure RH (K : PySem.W.Frag) (r : Wd) (h : AH) (H : Hp) : Prop where
  len : r.r.length = h.length
  nd : r.r.Nodup
  xs : ∀ a ∈ r.x, a ∉ r.r
  cell : ∀ (n : Nat) (c : Cl), h[n]? = some c → ∃ a, r.r[n]? = some a ∧ RelC K r H c a
  px : ∀ a ∈ r.x, ∃ o, H a = some o
theorem RH.there {h : AH} (R : RH K r h H) {a : Addr} (ha : a ∈ r.r) : ∃ o, H a = some o := by
  obtain ⟨n, hn, e⟩ := List.mem_iff_getElem.mp ha
  have hl := R.len
  obtain ⟨b, h1, h2⟩ := R.cell n (h[n]'(by omega)) (List.getElem?_eq_getElem (by omega))
  rw [List.getElem?_eq_getElem hn, e] at h1
  cases h1
  exact h2.there
theorem RH.new {h : AH} (R : RH K r h H) {p : Addr} (hp : H p = none) : p ∉ r.r := fun z => by
  obtain ⟨o, e⟩ := R.there z
  rw [hp] at e; cases e
/-- a new object that is no handle -/
theorem Ext.laid {h : AH} {p : Addr} {o : HO} (R : RH K r h H) (hp : H p = none) : Ext r H r (upd H p o) :=
  ⟨⟨[], by simp⟩, fun a u e n => ⟨by rw [upd_ne (ne_of_none e hp)]; exact e, n, fun m => m⟩, fun _ h => h⟩
theorem RH.laid {h : AH} {p : Addr} {o : HO} (R : RH K r h H) (hp : H p = none) : RH K r h (upd H p o) :=
  ⟨R.len, R.nd, R.xs, fun n c e => by
    obtain ⟨a, h1, h2⟩ := R.cell n c e
    obtain ⟨u, hu⟩ := h2.there
    exact ⟨a, h1, h2.mono (Ext.laid R hp) (upd_ne (ne_of_none hu hp))⟩, fun a ha => by
    obtain ⟨u, hu⟩ := R.px a ha
    exact ⟨u, by rw [upd_ne (ne_of_none hu hp)]; exact hu⟩⟩
theorem RH.out {h : AH} (R : RH K r h H) {p : Addr} (hp : H p = none) : Out r p := ⟨R.new hp, fun z => by
  obtain ⟨o, e⟩ := R.px p z
  rw [hp] at e; cases e⟩
/-- a new handle -/
theorem Ext.push {h : AH} {p : Addr} {o : HO} (R : RH K r h H) (hp : H p = none) : Ext r H (r.push p) (upd H p o) :=
  ⟨⟨[p], rfl⟩, fun a u e n => ⟨by rw [upd_ne (ne_of_none e hp)]; exact e, fun z => by
    rcases List.mem_append.mp z with z | z
    · exact n z
    · exact ne_of_none e hp (by simpa using z), fun m => m⟩, fun _ h => h⟩
theorem nodup_push {r : List Addr} {p : Addr} (h : r.Nodup) (n : p ∉ r) : (r ++ [p]).Nodup := by
  rw [List.nodup_append]
  refine ⟨h, by simp, fun a ha b hb => ?_⟩
  have : b = p := by simpa using hb
  subst this
  exact fun e => n (e ▸ ha)
theorem RH.push {h : AH} {p : Addr} {o : HO} {c : Cl} (R : RH K r h H) (hp : H p = none) (hc : RelC K (r.push p) (upd H p o) c p) : RH K (r.push p) (h ++ [c]) (upd H p o) :=
  ⟨by simp [R.len], nodup_push R.nd (R.new hp), fun a ha z => by
    rcases List.mem_append.mp z with z | z
    · exact R.xs a ha z
    · obtain ⟨u, hu⟩ := R.px a ha
      exact ne_of_none hu hp (by simpa using z), fun n c' e => by
    have hl := R.len
    by_cases hn : n < h.length
    · rw [List.getElem?_append_left hn] at e
      obtain ⟨a, h1, h2⟩ := R.cell n c' e
      obtain ⟨u, hu⟩ := h2.there
      refine ⟨a, ?_, h2.mono (Ext.push R hp) (upd_ne (ne_of_none hu hp))⟩
      show (r.r ++ [p])[n]? = some a
      rw [List.getElem?_append_left (by omega)]
      exact h1
    · have hn' : n = h.length := by
        have := (List.getElem?_eq_some_iff.mp e).1
        simp at this
        omega
      subst hn'
      rw [List.getElem?_append_right (Nat.le_refl _), Nat.sub_self] at e
      have e' : c = c' := by simpa using e
      subst e'
      refine ⟨p, ?_, hc⟩
      show (r.r ++ [p])[h.length]? = some p
      rw [List.getElem?_append_right (by omega), hl, Nat.sub_self]
      rfl, fun a ha => by
    obtain ⟨u, hu⟩ := R.px a ha
    exact ⟨u, by rw [upd_ne (ne_of_none hu hp)]; exact hu⟩⟩
/-- a handle's object changes -/
theorem Ext.put {a : Addr} {o : HO} (ha : a ∈ r.r) : Ext r H r (upd H a o) :=
  ⟨⟨[], by simp⟩, fun b u e n => ⟨by rw [upd_ne (fun z : b = a => n (by rw [z]; exact ha))]; exact e, n, fun m => m⟩, fun _ h => h⟩
theorem RH.put {h : AH} {n : Nat} {a : Addr} {o : HO} {c : Cl} (R : RH K r h H) (ha : r.r[n]? = some a) (hc : RelC K r (upd H a o) c a) : RH K r (h.set n c) (upd H a o) := by
  have hm : a ∈ r.r := List.mem_of_getElem? ha
  refine ⟨by simp [R.len], R.nd, R.xs, fun m c' e => ?_, fun b hb => ?_⟩
  rotate_left
  · obtain ⟨u, hu⟩ := R.px b hb
    exact ⟨u, by rw [upd_ne (fun z : b = a => R.xs b hb (by rw [z]; exact hm))]; exact hu⟩
  by_cases hn : m = n
  · subst hn
    have hlt : m < h.length := by
      have := (List.getElem?_eq_some_iff.mp ha).1
      have := R.len
      omega
    rw [List.getElem?_set_self hlt] at e
    cases e
    exact ⟨a, ha, hc⟩
  · rw [List.getElem?_set_ne (Ne.symm hn)] at e
    obtain ⟨b, h1, h2⟩ := R.cell m c' e
    refine ⟨b, h1, h2.mono (Ext.put hm) (upd_ne fun z => hn ?_)⟩
    subst z
    have i1 := (List.getElem?_eq_some_iff.mp h1)
    have i2 := (List.getElem?_eq_some_iff.mp ha)
    obtain ⟨l1, e1⟩ := i1
    obtain ⟨l2, e2⟩ := i2
    exact (List.getElem_inj R.nd).mp (e1.trans e2.symm)
theorem RH.get {h : AH} {n : Nat} {c : Cl} (R : RH K r h H) (e : h[n]? = some c) {v : V} (hv : RelD K r H (.obj n) v) : ∃ a, v = .ref a ∧ r.r[n]? = some a ∧ RelC K r H c a := by
  obtain ⟨a, rfl, h1⟩ := hv
  obtain ⟨b, h2, h3⟩ := R.cell n c e
  rw [h1] at h2; cases h2
  exact ⟨a, rfl, h1, h3⟩
/-- the slots -/
structure RS (K : PySem.W.Frag) (r : Wd) (H : Hp) (zs : ZS) (s : L2.St) : Prop where
  len : zs.length = s.length
  at' : ∀ (i : Nat) (d : D), zs[i]? = some (some d) → ∃ v, s[i]? = some (some v) ∧ RelD K r H d v
theorem RS.mono {zs : ZS} {s : L2.St} (e : Ext r H r' H') (S : RS K r H zs s) : RS K r' H' zs s :=
  ⟨S.len, fun i d q => by
    obtain ⟨v, h1, h2⟩ := S.at' i d q
    exact ⟨v, h1, RelD.mono e d v h2⟩⟩
theorem RS.set {zs : ZS} {s : L2.St} {d : D} {v : V} (S : RS K r H zs s) (h : RelD K r H d v) (i : Nat) : RS K r H (zs.set i (some d)) (s.set i (some v)) :=
  ⟨by simp [S.len], fun j e q => by
    by_cases hj : j = i
    · subst hj
      have hlt : j < zs.length := by
        have := (List.getElem?_eq_some_iff.mp q).1
        simpa using this
      rw [List.getElem?_set_self hlt] at q
      cases q
      exact ⟨v, by rw [List.getElem?_set_self (by rw [← S.len]; exact hlt)], h⟩
    · rw [List.getElem?_set_ne (Ne.symm hj)] at q ⊢
      exact S.at' j e q⟩
end
end Z
/-! Z1: the judgements over trees, each lifted from the hand layer's. -/
namespace Z
open PySem PySem.Spec PyProof.Rows L2
abbrev ZK := D → AH → Prop
abbrev ZE := ZS → AH → ZK → Prop
abbrev ZT := ZS → AH → (Bool → AH → Prop) → Prop
abbrev ZA := ZS → AH → (List D → AH → Prop) → Prop
structure ZEnds where
  nx : ZS → AH → Prop
  rt : ZK
  bk : ZS → AH → Prop := fun _ _ => False
  ct : ZS → AH → Prop := fun _ _ => False
abbrev ZTS := ZEnds → ZS → AH → Prop
section
variable (K : PySem.W.Frag)
def UpQ (r : Wd) (H : Hp) (Q0 : ZK) (Q : VK) : Prop := ∀ d h' r' v H', Q0 d h' → Ext r H r' H' → RH K r' h' H' → RelD K r' H' d v → Q v H'
def UpB (r : Wd) (H : Hp) (Q0 : Bool → AH → Prop) (Q : Bool → Hp → Prop) : Prop := ∀ b h' r' H', Q0 b h' → Ext r H r' H' → RH K r' h' H' → Q b H'
def UpA (r : Wd) (H : Hp) (Q0 : List D → AH → Prop) (Q : List V → Hp → Prop) : Prop := ∀ ds h' r' vs H', Q0 ds h' → Ext r H r' H' → RH K r' h' H' → RelDs K r' H' ds vs → Q vs H'
def UpN (r : Wd) (H : Hp) (Q0 : ZS → AH → Prop) (Q : L2.St → Hp → Prop) : Prop := ∀ zs h' r' s H', Q0 zs h' → Ext r H r' H' → RH K r' h' H' → RS K r' H' zs s → Q s H'
structure UpS (r : Wd) (H : Hp) (D0 : ZEnds) (D : Ends) : Prop where
  nx : UpN K r H D0.nx D.nx
  rt : UpQ K r H D0.rt D.rt
  bk : UpN K r H D0.bk D.bk
  ct : UpN K r H D0.ct D.ct
def liftE (t : ZE) : TE := fun s H Q => ∃ r zs h Q0, RH K r h H ∧ RS K r H zs s ∧ t zs h Q0 ∧ UpQ K r H Q0 Q
def liftT (t : ZT) : TT := fun s H Q => ∃ r zs h Q0, RH K r h H ∧ RS K r H zs s ∧ t zs h Q0 ∧ UpB K r H Q0 Q
def liftA (t : ZA) : TA := fun s H Q => ∃ r zs h Q0, RH K r h H ∧ RS K r H zs s ∧ t zs h Q0 ∧ UpA K r H Q0 Q
def liftS (t : ZTS) : TS := fun D s H => ∃ r zs h D0, RH K r h H ∧ RS K r H zs s ∧ t D0 zs h ∧ UpS K r H D0 D
abbrev ZG := D → ZS → AH → (ZS → AH → Prop) → Prop
abbrev ZGs := List D → ZS → AH → (ZS → AH → Prop) → Prop
def liftG (g : ZG) : TG := fun v s H Q => ∃ r zs h d Q0, RH K r h H ∧ RS K r H zs s ∧ RelD K r H d v ∧ g d zs h Q0 ∧ UpN K r H Q0 Q
def liftGs (g : ZGs) : TGs := fun vs s H Q => ∃ r zs h ds Q0, RH K r h H ∧ RS K r H zs s ∧ RelDs K r H ds vs ∧ g ds zs h Q0 ∧ UpN K r H Q0 Q
end
section
variable {K : PySem.W.Frag} {r r1 : Wd} {H H1 : Hp}
theorem UpQ.ext {Q0 : ZK} {Q : VK} (u : UpQ K r H Q0 Q) (e : Ext r H r1 H1) : UpQ K r1 H1 Q0 Q := fun d h' r' v H' q e' R x => u d h' r' v H' q (e.trans e') R x
theorem UpB.ext {Q0 : Bool → AH → Prop} {Q : Bool → Hp → Prop} (u : UpB K r H Q0 Q) (e : Ext r H r1 H1) : UpB K r1 H1 Q0 Q := fun d h' r' H' q e' R => u d h' r' H' q (e.trans e') R
theorem UpA.ext {Q0 : List D → AH → Prop} {Q : List V → Hp → Prop} (u : UpA K r H Q0 Q) (e : Ext r H r1 H1) : UpA K r1 H1 Q0 Q := fun d h' r' v H' q e' R x => u d h' r' v H' q (e.trans e') R x
theorem UpN.ext {Q0 : ZS → AH → Prop} {Q : L2.St → Hp → Prop} (u : UpN K r H Q0 Q) (e : Ext r H r1 H1) : UpN K r1 H1 Q0 Q := fun d h' r' v H' q e' R x => u d h' r' v H' q (e.trans e') R x
theorem UpS.ext {D0 : ZEnds} {D : Ends} (u : UpS K r H D0 D) (e : Ext r H r1 H1) : UpS K r1 H1 D0 D := ⟨u.nx.ext e, u.rt.ext e, u.bk.ext e, u.ct.ext e⟩
end
theorem PEimp {X : Cx} {e : Expr} {t t' : TE} (h : PE X e t) (f : ∀ s H Q, t' s H Q → t s H Q) : PE X e t' := ⟨fun pins s σ H Q I q => h.run pins s σ H Q I (f _ _ _ q)⟩
theorem PTimp {X : Cx} {e : Expr} {t t' : TT} (h : PT X e t) (f : ∀ s H Q, t' s H Q → t s H Q) : PT X e t' := ⟨fun pins s σ H Q I q => h.run pins s σ H Q I (f _ _ _ q)⟩
theorem PWimp {X : Cx} {e : Expr} {t t' : TT} (h : PW X e t) (f : ∀ s H Q, t' s H Q → t s H Q) : PW X e t' := ⟨fun wh pins s σ H Q I q => h.run wh pins s σ H Q I (f _ _ _ q)⟩
theorem PAimp {X : Cx} {e : List Expr} {t t' : TA} (h : PA X e t) (f : ∀ s H Q, t' s H Q → t s H Q) : PA X e t' := ⟨fun pos pins s σ H Q I q => h.run pos pins s σ H Q I (f _ _ _ q)⟩
theorem PSimp {X : Cx} {e : Stmt} {t t' : TS} (h : PS X e t) (f : ∀ D s H, t' D s H → t D s H) : PS X e t' := ⟨fun pins s σ H Q I q => h.run pins s σ H Q I (f _ _ _ q)⟩
theorem PSsimp {X : Cx} {e : List Stmt} {t t' : TS} (h : PSs X e t) (f : ∀ D s H, t' D s H → t D s H) : PSs X e t' := ⟨fun pins s σ H Q I q => h.run pins s σ H Q I (f _ _ _ q)⟩
theorem PGimp {X : Cx} {e : Expr} {t t' : TG} (h : PG X e t) (f : ∀ v s H Q, t' v s H Q → t v s H Q) : PG X e t' := ⟨fun pins s σ H v u Q I r q => h.run pins s σ H v u Q I r (f _ _ _ _ q)⟩
theorem PGsimp {X : Cx} {e : List Expr} {t t' : TGs} (h : PGs X e t) (f : ∀ v s H Q, t' v s H Q → t v s H Q) : PGs X e t' := ⟨fun pins s σ H v u Q I r q => h.run pins s σ H v u Q I r (f _ _ _ _ q)⟩
abbrev PZ (X : Cx) (e : Expr) (t : ZE) : Prop := PE X e (liftE X.K t)
abbrev PZT (X : Cx) (e : Expr) (t : ZT) : Prop := PT X e (liftT X.K t)
abbrev PZW (X : Cx) (e : Expr) (t : ZT) : Prop := PW X e (liftT X.K t)
abbrev PZA (X : Cx) (es : List Expr) (t : ZA) : Prop := PA X es (liftA X.K t)
abbrev PZS (X : Cx) (st : Stmt) (t : ZTS) : Prop := PS X st (liftS X.K t)
abbrev PZSs (X : Cx) (st : List Stmt) (t : ZTS) : Prop := PSs X st (liftS X.K t)
abbrev PZG (X : Cx) (tg : Expr) (g : ZG) : Prop := PG X tg (liftG X.K g)
abbrev PZGs (X : Cx) (tg : List Expr) (g : ZGs) : Prop := PGs X tg (liftGs X.K g)
section
variable {X : Cx} {pos : Pos}
/-! ### names, constants -/
def zVar (i : Nat) : ZE := fun zs h Q => match zs[i]? with
  | some (some d) => Q d h
  | _ => False
theorem zv (i : Nat) {x : Str} {pos : Pos} (hN : X.N[i]? = some x := by rfl) (hv : Vis X.env.scope x := by first | exact Or.inl rfl | exact Or.inr (Or.inl rfl) | exact Or.inr (Or.inr rfl)) (hd : (x == ("__debug__" : Str)) = false := by decide)
    (hcd : (x == ("__classdict__" : Str)) = false := by decide) : PZ X (.Name x pos) (zVar i) := PEimp (pe_var hN hv hd hcd) fun s H Q ⟨r, zs, h, Q0, R, S, q, u⟩ => by
  unfold zVar at q
  split at q
  · rename_i d e
    obtain ⟨v, h1, h2⟩ := S.at' i d e
    exact ⟨v, h1, u d h r v H q (.refl _ _) R h2⟩
  · exact q.elim
def zC (d : D) : ZE := fun _ h Q => Q d h
theorem zc {e : Expr} {v : V} {d : D} (h : PE X e (tC v)) (hr : ∀ r H, RelD X.K r H d v) : PZ X e (zC d) := PEimp h fun s H Q ⟨r, zs, h, Q0, R, S, q, u⟩ => u d h r v H q (.refl _ _) R (hr r H)
theorem z_int {i j pos} : PZ X (.Constant (.int i) j pos) (zC (.int i)) := zc pe_int fun _ _ => rfl
theorem z_bl {b j pos} : PZ X (.Constant (.bool b) j pos) (zC (.bl b)) := zc pe_bl fun _ _ => rfl
theorem z_non {j pos} : PZ X (.Constant .none j pos) (zC .non) := zc pe_non fun _ _ => rfl
theorem z_str {x j pos} : PZ X (.Constant (.str x) j pos) (zC (.str x)) := zc pe_str fun _ _ => rfl
theorem z_glob {x : Str} {a : Addr} {pos : Pos} (hg : Gl X x) (hm : X.mg x = some (.ref a)) (hd : (x == ("__debug__" : Str)) = false := by decide) : PZ X (.Name x pos) (zC (.glb a)) := zc (pe_glob (v := .ref a) hg hm rfl hd) fun _ _ => rfl
theorem z_globI {x : Str} {i : Int} {t : Tok} {pos : Pos} (hg : Gl X x) (hm : X.mg x = some (.int i t)) (hd : (x == ("__debug__" : Str)) = false := by decide) : PZ X (.Name x pos) (zC (.int i)) := zc (pe_glob (v := .int i) hg hm ⟨t, rfl⟩ hd) fun _ _ => rfl
theorem z_globS {x y : Str} {t : Tok} {pos : Pos} (hg : Gl X x) (hm : X.mg x = some (.str y t)) (hd : (x == ("__debug__" : Str)) = false := by decide) : PZ X (.Name x pos) (zC (.str y)) := zc (pe_glob (v := .str y) hg hm ⟨t, rfl⟩ hd) fun _ _ => rfl
theorem z_bty {x : Str} {n : String} {pos : Pos} (hg : Gl X x) (hm : X.mg x = none) (hv : bootBuiltins x = some (.type n)) (hn : x ≠ "__name__" := by decide) (hd : (x == ("__debug__" : Str)) = false := by decide) : PZ X (.Name x pos) (zC (.ty n)) :=
  zc (pe_bltn (v := .ty n) hg hm hv rfl hn hd) fun _ _ => rfl
/-! ### operators by values -/
abbrev Z1 := D → AH → ZK → Prop
abbrev Z2 := D → D → AH → ZK → Prop
abbrev Zn := List D → AH → ZK → Prop
def R1Z (K : PySem.W.Frag) (t : V → Hp → VK → Prop) (z : Z1) : Prop := ∀ r h H x dx Q Q0, RH K r h H → RelD K r H dx x → z dx h Q0 → UpQ K r H Q0 Q → t x H Q
def R2Z (K : PySem.W.Frag) (t : R2) (z : Z2) : Prop := ∀ r h H x y dx dy Q Q0, RH K r h H → RelD K r H dx x → RelD K r H dy y → z dx dy h Q0 → UpQ K r H Q0 Q → t x y H Q
def RnZ (K : PySem.W.Frag) (t : List V → Hp → VK → Prop) (z : Zn) : Prop := ∀ r h H xs ds Q Q0, RH K r h H → RelDs K r H ds xs → z ds h Q0 → UpQ K r H Q0 Q → t xs H Q
def zOp (z : Z2) (ta tb : ZE) : ZE := fun zs h Q => ta zs h fun x h1 => tb zs h1 fun y h2 => z x y h2 Q
def zUn (z : Z1) (ta : ZE) : ZE := fun zs h Q => ta zs h fun x h1 => z x h1 Q
theorem up_op {K : PySem.W.Frag} {t : R2} {z : Z2} {ta tb : ZE} (hr : R2Z K t z) {s : L2.St} {H : Hp} {Q : VK} (q : liftE K (zOp z ta tb) s H Q) : tOp t (liftE K ta) (liftE K tb) s H Q := by
  obtain ⟨r, zs, h, Q0, R, S, q, u⟩ := q
  exact ⟨r, zs, h, _, R, S, q, fun dx h1 r1 v1 H1 q1 E1 R1 D1 => ⟨r1, zs, h1, _, R1, S.mono E1, q1, fun dy h2 r2 v2 H2 q2 E2 R2 D2 => hr r2 h2 H2 v1 v2 dx dy Q Q0 R2 (RelD.mono E2 _ _ D1) D2 q2 (u.ext (E1.trans E2))⟩⟩
theorem up_un {K : PySem.W.Frag} {t : V → Hp → VK → Prop} {z : Z1} {ta : ZE} (hr : R1Z K t z) {s : L2.St} {H : Hp} {Q : VK} (q : liftE K (zUn z ta) s H Q) : tUn t (liftE K ta) s H Q := by
  obtain ⟨r, zs, h, Q0, R, S, q, u⟩ := q
  exact ⟨r, zs, h, _, R, S, q, fun dx h1 r1 v1 H1 q1 E1 R1 D1 => hr r1 h1 H1 v1 dx Q Q0 R1 D1 q1 (u.ext E1)⟩
variable {a b : Expr} {ta tb : ZE}
theorem z_op {op : Operator} {t : R2} {z : Z2} (ho : OpR X (binaryOp op) t) (hr : R2Z X.K t z) (ha : PZ X a ta) (hb : PZ X b tb) : PZ X (.BinOp a op b pos) (zOp z ta tb) := PEimp (pe_op ho ha hb) fun _ _ _ q => up_op hr q
theorem z_un {op : UnaryOp} {t : V → Hp → VK → Prop} {z : Z1} (ho : UnR X (unaryOp op) t) (hr : R1Z X.K t z) (ha : PZ X a ta) : PZ X (.UnaryOp op a pos) (zUn z ta) := PEimp (pe_un ho ha) fun _ _ _ q => up_un hr q
theorem z_cmp {op : CmpOp} {t : R2} {z : Z2} (ho : OpR X (compareOp op) t) (hr : R2Z X.K t z) (ha : PZ X a ta) (hb : PZ X b tb) (hm : behindInMarks op b = false) : PZ X (.Compare a [op] [b] pos) (zOp z ta tb) :=
  PEimp (pe_cmpR ho ha hb hm) fun _ _ _ q => up_op hr q
def zTest (t : ZE) : ZT := fun zs h Q => t zs h fun d h1 => match d with
  | .bl k => Q k h1
  | _ => False
theorem up_test {K : PySem.W.Frag} {t : TE} {z : ZE} (ht : ∀ s H Q, liftE K z s H Q → t s H Q) {s : L2.St} {H : Hp} {Q : Bool → Hp → Prop} (q : liftT K (zTest z) s H Q) : tTest t s H Q := by
  obtain ⟨r, zs, h, Q0, R, S, q, u⟩ := q
  refine ht s H _ ⟨r, zs, h, _, R, S, q, fun dx h1 r1 v1 H1 q1 E1 R1 D1 => ?_⟩
  cases dx with
  | bl k => exact ⟨k, D1, u k h1 r1 H1 q1 E1 R1⟩
  | _ => exact q1.elim
theorem zt_cmp {op : CmpOp} {t : R2} {z : Z2} (ho : OpR X (compareOp op) t) (hr : R2Z X.K t z) (ha : PZ X a ta) (hb : PZ X b tb) (hm : behindInMarks op b = false) : PZT X (.Compare a [op] [b] pos) (zTest (zOp z ta tb)) :=
  PTimp (pt_cmpR ho ha hb hm) fun _ _ _ q => up_test (fun _ _ _ q => up_op hr q) q
theorem zt_val {e : Expr} {t : ZE} (h : PZ X e t) (he : ∀ whole, isTrue e X.env whole = (do let v ← whole; standAt e.pos; holding [v] (truthy v)) := by intro _; rfl) : PZT X e (zTest t) :=
  PTimp (pt_val h he) fun _ _ _ q => up_test (fun _ _ _ q => q) q
/-! a < b < c -/
variable {c : Expr} {tc : ZE}
def zChain (z z' : Z2) (ta tb tc : ZE) : ZE := fun zs h Q => ta zs h fun x h1 => tb zs h1 fun y h2 => z x y h2 fun k h3 => match k with
  | .bl true => tc zs h3 fun w h4 => z' y w h4 Q
  | .bl false => Q (.bl false) h3
  | _ => False
/-! ### and, or, not -/
variable {tA tB : ZT} {rest : List Expr}
def zAnd (t u : ZT) : ZT := fun zs h Q => t zs h fun c h1 => match c with
  | true => u zs h1 Q
  | false => Q false h1
def zOr (t u : ZT) : ZT := fun zs h Q => t zs h fun c h1 => match c with
  | true => Q true h1
  | false => u zs h1 Q
def zNot (t : ZT) : ZT := fun zs h Q => t zs h fun c h1 => Q (!c) h1
theorem zw_and1 (ha : PZT X a tA) : PZW X (.BoolOp .And [a] pos) tA := pw_and1 ha
theorem zw_or1 (ha : PZT X a tA) : PZW X (.BoolOp .Or [a] pos) tA := pw_or1 ha
theorem zw_and (ha : PZT X a tA) (hb : PZW X (.BoolOp .And (b :: rest) pos) tB) : PZW X (.BoolOp .And (a :: b :: rest) pos) (zAnd tA tB) := PWimp (pw_and ha hb) fun s H Q ⟨r, zs, h, Q0, R, S, q, u⟩ =>
  ⟨r, zs, h, _, R, S, q, fun c h1 r1 H1 q1 E1 R1 => by
    cases c with
    | true => rw [if_pos rfl]; exact ⟨r1, zs, h1, Q0, R1, S.mono E1, q1, u.ext E1⟩
    | false => rw [if_neg Bool.false_ne_true]; exact u false h1 r1 H1 q1 E1 R1⟩
theorem zw_or (ha : PZT X a tA) (hb : PZW X (.BoolOp .Or (b :: rest) pos) tB) : PZW X (.BoolOp .Or (a :: b :: rest) pos) (zOr tA tB) := PWimp (pw_or ha hb) fun s H Q ⟨r, zs, h, Q0, R, S, q, u⟩ =>
  ⟨r, zs, h, _, R, S, q, fun c h1 r1 H1 q1 E1 R1 => by
    cases c with
    | true => rw [if_pos rfl]; exact u true h1 r1 H1 q1 E1 R1
    | false => rw [if_neg Bool.false_ne_true]; exact ⟨r1, zs, h1, Q0, R1, S.mono E1, q1, u.ext E1⟩⟩
theorem zt_w {e : Expr} {t : ZT} (h : PZW X e t) : PZT X e t := PW.pt h
theorem zt_not (ha : PZT X a tA) : PZT X (.UnaryOp .Not a pos) (zNot tA) := PTimp (pt_not ha) fun s H Q ⟨r, zs, h, Q0, R, S, q, u⟩ =>
  ⟨r, zs, h, _, R, S, q, fun c h1 r1 H1 q1 E1 R1 => u (!c) h1 r1 H1 q1 E1 R1⟩
/-- .. as values (bools) -/
def zAndV (ta tb : ZE) : ZE := fun zs h Q => ta zs h fun x h1 => match x with
  | .bl true => tb zs h1 Q
  | .bl false => Q (.bl false) h1
  | _ => False
def zOrV (ta tb : ZE) : ZE := fun zs h Q => ta zs h fun x h1 => match x with
  | .bl true => Q (.bl true) h1
  | .bl false => tb zs h1 Q
  | _ => False
def zNotV (ta : ZE) : ZE := fun zs h Q => ta zs h fun x h1 => match x with
  | .bl k => Q (.bl (!k)) h1
  | _ => False
theorem z_one {op} {t : ZE} (h : PZ X a t) : PZ X (.BoolOp op [a] pos) t := pe_one h
theorem z_and (ha : PZ X a ta) (hb : PZ X (.BoolOp .And (b :: rest) pos) tb) : PZ X (.BoolOp .And (a :: b :: rest) pos) (zAndV ta tb) := PEimp (pe_and ha hb) fun s H Q ⟨r, zs, h, Q0, R, S, q, u⟩ =>
  ⟨r, zs, h, _, R, S, q, fun c h1 r1 v1 H1 q1 E1 R1 D1 => by
    cases c with
    | bl k =>
      refine ⟨k, D1, ?_⟩
      cases k with
      | true => rw [if_pos rfl]; exact ⟨r1, zs, h1, Q0, R1, S.mono E1, q1, u.ext E1⟩
      | false => rw [if_neg Bool.false_ne_true]; exact u (.bl false) h1 r1 _ H1 q1 E1 R1 rfl
    | _ => exact q1.elim⟩
theorem z_or (ha : PZ X a ta) (hb : PZ X (.BoolOp .Or (b :: rest) pos) tb) : PZ X (.BoolOp .Or (a :: b :: rest) pos) (zOrV ta tb) := PEimp (pe_or ha hb) fun s H Q ⟨r, zs, h, Q0, R, S, q, u⟩ =>
  ⟨r, zs, h, _, R, S, q, fun c h1 r1 v1 H1 q1 E1 R1 D1 => by
    cases c with
    | bl k =>
      refine ⟨k, D1, ?_⟩
      cases k with
      | true => rw [if_pos rfl]; exact u (.bl true) h1 r1 _ H1 q1 E1 R1 rfl
      | false => rw [if_neg Bool.false_ne_true]; exact ⟨r1, zs, h1, Q0, R1, S.mono E1, q1, u.ext E1⟩
    | _ => exact q1.elim⟩
theorem z_not (ha : PZ X a ta) : PZ X (.UnaryOp .Not a pos) (zNotV ta) := PEimp (pe_not ha) fun s H Q ⟨r, zs, h, Q0, R, S, q, u⟩ =>
  ⟨r, zs, h, _, R, S, q, fun c h1 r1 v1 H1 q1 E1 R1 D1 => by
    cases c with
    | bl k => exact ⟨k, D1, u (.bl (!k)) h1 r1 _ H1 q1 E1 R1 rfl⟩
    | _ => exact q1.elim⟩
def zIf (t : ZT) (ta tb : ZE) : ZE := fun zs h Q => t zs h fun c h1 => match c with
  | true => ta zs h1 Q
  | false => tb zs h1 Q
theorem z_ifExp {c : Expr} (hc : PZT X c tA) (ha : PZ X a ta) (hb : PZ X b tb) : PZ X (.IfExp c a b pos) (zIf tA ta tb) := PEimp (pe_ifExp hc ha hb) fun s H Q ⟨r, zs, h, Q0, R, S, q, u⟩ =>
  ⟨r, zs, h, _, R, S, q, fun c h1 r1 H1 q1 E1 R1 => by
    cases c with
    | true => rw [if_pos rfl]; exact ⟨r1, zs, h1, Q0, R1, S.mono E1, q1, u.ext E1⟩
    | false => rw [if_neg Bool.false_ne_true]; exact ⟨r1, zs, h1, Q0, R1, S.mono E1, q1, u.ext E1⟩⟩
/-! ### arguments, displays, calls of built-ins -/
def zNil : ZA := fun _ h Q => Q [] h
def zCons (ta : ZE) (tr : ZA) : ZA := fun zs h Q => ta zs h fun x h1 => tr zs h1 fun xs h2 => Q (x :: xs) h2
variable {e : Expr} {es : List Expr} {te : ZE} {t : ZA}
theorem za_nil : PZA X [] zNil := PAimp pa_nil fun s H Q ⟨r, zs, h, Q0, R, S, q, u⟩ => u [] h r [] H q (.refl _ _) R rfl
theorem za_cons (ha : PZ X e te) (hr : PZA X es t) (hs : starEach (e :: es) X.env = (false, eval e X.env) :: starEach es X.env := by rfl) : PZA X (e :: es) (zCons te t) := PAimp (pa_cons ha hr hs) fun s H Q ⟨r, zs, h, Q0, R, S, q, u⟩ =>
  ⟨r, zs, h, _, R, S, q, fun dx h1 r1 v1 H1 q1 E1 R1 D1 => ⟨r1, zs, h1, _, R1, S.mono E1, q1, fun ds h2 r2 vs H2 q2 E2 R2 D2 => u (dx :: ds) h2 r2 (v1 :: vs) H2 q2 (E1.trans E2) R2 ⟨v1, vs, rfl, RelD.mono E2 _ _ D1, D2⟩⟩⟩
def zTup (t : ZA) : ZE := fun zs h Q => t zs h fun xs h1 => xs.length ≤ sizeLine ∧ Q (.tup xs) h1
theorem z_tup {k} (ht : PZA X es t) : PZ X (.Tuple es k pos) (zTup t) := PEimp (pe_tup ht) fun s H Q ⟨r, zs, h, Q0, R, S, q, u⟩ =>
  ⟨r, zs, h, _, R, S, q, fun ds h1 r1 vs H1 q1 E1 R1 D1 => ⟨by rw [← D1.length]; exact q1.1, fun p hp => u (.tup ds) h1 r1 _ _ q1.2 (E1.trans (Ext.laid R1 hp)) (R1.laid hp)
    ⟨p, vs, rfl, upd_same, R1.out hp, RelDs.mono (Ext.laid R1 hp) _ _ D1⟩⟩⟩
/-- a new list: frozen, or a handle -/
def newL (m : Bool) (ds : List D) (h : AH) (Q : ZK) : Prop := match m with
  | true => Q (.obj h.length) (h ++ [.lst ds])
  | false => Q (.lst ds) h
theorem up_newL {K : PySem.W.Frag} {m : Bool} {ds : List D} {vs : List V} {h : AH} {Q0 : ZK} {Q : VK} {r : Wd} {H : Hp} (R : RH K r h H) (hd : RelDs K r H ds vs) (q : newL m ds h Q0) (u : UpQ K r H Q0 Q) {p : Addr} (hp : H p = none) : Q (.ref p) (upd H p (.lst vs)) := by
  cases m with
  | true =>
    have q : Q0 (.obj h.length) (h ++ [.lst ds]) := q
    refine u (.obj h.length) (h ++ [.lst ds]) (r.push p) _ _ q (Ext.push R hp) (R.push (c := .lst ds) hp ⟨vs, upd_same, RelDs.mono (Ext.push R hp) _ _ hd⟩) ⟨p, rfl, ?_⟩
    show (r.r ++ [p])[h.length]? = some p
    rw [← R.len, List.getElem?_append_right (Nat.le_refl _), Nat.sub_self]; rfl
  | false =>
    have q : Q0 (.lst ds) h := q
    exact u (.lst ds) h r _ _ q (Ext.laid R hp) (R.laid hp) ⟨p, vs, rfl, upd_same, R.out hp, RelDs.mono (Ext.laid R hp) _ _ hd⟩
def zLst (m : Bool) (t : ZA) : ZE := fun zs h Q => t zs h fun xs h1 => xs.length ≤ sizeLine ∧ newL m xs h1 Q
theorem z_lst (m : Bool) (ht : PZA X es t) : PZ X (.List es pos) (zLst m t) := PEimp (pe_lst ht) fun s H Q ⟨r, zs, h, Q0, R, S, q, u⟩ =>
  ⟨r, zs, h, _, R, S, q, fun ds h1 r1 vs H1 q1 E1 R1 D1 => ⟨by rw [← D1.length]; exact q1.1, fun p hp => up_newL R1 D1 q1.2 (u.ext E1) hp⟩⟩
def zCB (z : Zn) (t : ZA) : ZE := fun zs h Q => t zs h fun xs h1 => z xs h1 Q
theorem up_cb {K : PySem.W.Frag} {rr : List V → Hp → VK → Prop} {z : Zn} {t : ZA} (hr : RnZ K rr z) {s : L2.St} {H : Hp} {Q : VK} (q : liftE K (zCB z t) s H Q) : tCB rr (liftA K t) s H Q := by
  obtain ⟨r, zs, h, Q0, R, S, q, u⟩ := q
  exact ⟨r, zs, h, _, R, S, q, fun ds h1 r1 vs H1 q1 E1 R1 D1 => hr r1 h1 H1 vs ds Q Q0 R1 D1 q1 (u.ext E1)⟩
theorem z_callB {id : String} {x : Str} {rr : List V → Hp → VK → Prop} {z : Zn} {p : Pos} (hc : CallR X (.builtin id) rr) (hr : RnZ X.K rr z) (hg : Gl X x) (hm : X.mg x = none) (hv : bootBuiltins x = some (.builtin id)) (ha : PZA X (e :: es) t) (hn : x ≠ "__name__" := by decide) (hdb : (x == ("__debug__" : Str)) = false := by decide)
    (he : starEach (e :: es) X.env = (false, eval e X.env) :: starEach es X.env := by rfl) (hpl : (backTo pos (starEach es X.env)).any (·.1) = false := by rfl) : PZ X (.Call (.Name x p) (e :: es) [] pos) (zCB z t) := PEimp (pe_callB hc hg hm hv ha hn hdb he hpl) fun _ _ _ q => up_cb hr q
theorem z_callTy {T : String} {x : Str} {rr : List V → Hp → VK → Prop} {z : Zn} {p : Pos} (hc : CallR X (.type T) rr) (hr : RnZ X.K rr z) (hg : Gl X x) (hm : X.mg x = none) (hv : bootBuiltins x = some (.type T)) (ha : PZA X (e :: es) t) (hn : x ≠ "__name__" := by decide) (hdb : (x == ("__debug__" : Str)) = false := by decide)
    (he : starEach (e :: es) X.env = (false, eval e X.env) :: starEach es X.env := by rfl) (hpl : (backTo pos (starEach es X.env)).any (·.1) = false := by rfl) : PZ X (.Call (.Name x p) (e :: es) [] pos) (zCB z t) := PEimp (pe_callTy hc hg hm hv ha hn hdb he hpl) fun _ _ _ q => up_cb hr q
theorem z_ix {t : R2} {z : Z2} (ho : IxR X t) (hr : R2Z X.K t z) (ha : PZ X a ta) (hb : PZ X b tb) (hs : PlainIx b) : PZ X (.Subscript a b pos) (zOp z ta tb) := PEimp (pe_ix ho ha hb hs) fun _ _ _ q => up_op hr q
/-! ### statements -/
variable {st : Stmt} {sts : List Stmt} {t1 t2 : ZTS}
def zNext : ZTS := fun D zs h => D.nx zs h
def zSeq (t u : ZTS) : ZTS := fun D zs h => t { D with nx := u D } zs h
theorem zss_nil : PZSs X [] zNext := PSsimp pss_nil fun D s H ⟨r, zs, h, D0, R, S, q, u⟩ => u.nx zs h r s H q (.refl _ _) R S
theorem zss_cons (h1 : PZS X st t1) (h2 : PZSs X sts t2) : PZSs X (st :: sts) (zSeq t1 t2) := PSsimp (pss_cons h1 h2) fun D s H ⟨r, zs, h, D0, R, S, q, u⟩ =>
  ⟨r, zs, h, { D0 with nx := t2 D0 }, R, S, q, ⟨fun zs' h' r' s' H' q' E R' S' => ⟨r', zs', h', D0, R', S', q', u.ext E⟩, u.rt, u.bk, u.ct⟩⟩
theorem zss_one (h1 : PZS X st t1) : PZSs X [st] t1 := pss_one h1
def zBreak : ZTS := fun D zs h => D.bk zs h
def zCont : ZTS := fun D zs h => D.ct zs h
theorem zs_pass : PZS X (.Pass pos) zNext := PSimp ps_pass fun D s H ⟨r, zs, h, D0, R, S, q, u⟩ => u.nx zs h r s H q (.refl _ _) R S
theorem zs_break : PZS X (.Break pos) zBreak := PSimp ps_break fun D s H ⟨r, zs, h, D0, R, S, q, u⟩ => u.bk zs h r s H q (.refl _ _) R S
theorem zs_continue : PZS X (.Continue pos) zCont := PSimp ps_continue fun D s H ⟨r, zs, h, D0, R, S, q, u⟩ => u.ct zs h r s H q (.refl _ _) R S
def zDrop (te : ZE) : ZTS := fun D zs h => te zs h fun _ h1 => D.nx zs h1
theorem zs_expr (he : PZ X e te) (hs : swapsWith e none pos.line X.env = pure false := by rfl) : PZS X (.Expr e pos) (zDrop te) := PSimp (ps_expr he hs) fun D s H ⟨r, zs, h, D0, R, S, q, u⟩ =>
  ⟨r, zs, h, _, R, S, q, fun dx h1 r1 v1 H1 q1 E1 R1 D1 => u.nx zs h1 r1 s H1 q1 E1 R1 (S.mono E1)⟩
def zRet (te : ZE) : ZTS := fun D zs h => te zs h D.rt
theorem zs_ret (he : PZ X e te) : PZS X (.Return (some e) pos) (zRet te) := PSimp (ps_ret he) fun D s H ⟨r, zs, h, D0, R, S, q, u⟩ => ⟨r, zs, h, _, R, S, q, u.rt⟩
def zRetN : ZTS := fun D _ h => D.rt .non h
theorem zs_retN : PZS X (.Return none pos) zRetN := PSimp ps_retN fun D s H ⟨r, zs, h, D0, R, S, q, u⟩ => u.rt .non h r _ H q (.refl _ _) R rfl
def zIfS (c : ZT) (t u : ZTS) : ZTS := fun D zs h => c zs h fun b h1 => match b with
  | true => t D zs h1
  | false => u D zs h1
theorem zs_if {c : Expr} {as bs : List Stmt} (hc : PZT X c tA) (ha : PZSs X as t1) (hb : PZSs X bs t2) : PZS X (.If c as bs pos) (zIfS tA t1 t2) := PSimp (ps_if hc ha hb) fun D s H ⟨r, zs, h, D0, R, S, q, u⟩ =>
  ⟨r, zs, h, _, R, S, q, fun c h1 r1 H1 q1 E1 R1 => by
    cases c with
    | true => rw [if_pos rfl]; exact ⟨r1, zs, h1, D0, R1, S.mono E1, q1, u.ext E1⟩
    | false => rw [if_neg Bool.false_ne_true]; exact ⟨r1, zs, h1, D0, R1, S.mono E1, q1, u.ext E1⟩⟩
def zNever : ZTS := fun _ _ _ => False
theorem zs_never : PZS X st zNever := PSimp ps_never fun _ _ _ ⟨_, _, _, _, _, _, q, _⟩ => q
theorem zss_never : PZSs X sts zNever := PSsimp pss_never fun _ _ _ ⟨_, _, _, _, _, _, q, _⟩ => q
/-! ### targets -/
def zName (i : Nat) : ZG := fun d zs h Q => Q (zs.set i (some d)) h
theorem zg_name (i : Nat) {x : Str} (hN : X.N.Nodup) (hi : X.N[i]? = some x := by rfl) (hx : Loc X.env.scope x := by first | exact .inl rfl | exact .inr rfl) (hf : X.fn x = true ∨ X.env.scope.names.lookup x = some .local := by first | exact .inl rfl | exact .inr rfl | assumption) : PZG X (.Name x pos) (zName i) :=
  PGimp (pg_name hN hi hx hf) fun v s H Q ⟨r, zs, h, d, Q0, R, S, hd, q, u⟩ => u _ h r _ H q (.refl _ _) R (S.set hd i)
def zgNil : ZGs := fun ds zs h Q => match ds with
  | [] => Q zs h
  | _ => False
def zgCons (g : ZG) (gs : ZGs) : ZGs := fun ds zs h Q => match ds with
  | d :: r => g d zs h fun zs' h' => gs r zs' h' Q
  | _ => False
theorem zgs_nil : PZGs X [] zgNil := PGsimp pgs_nil fun vs s H Q ⟨r, zs, h, ds, Q0, R, S, hd, q, u⟩ => by
  cases ds with
  | nil => exact ⟨hd, u zs h r s H q (.refl _ _) R S⟩
  | cons _ _ => exact q.elim
theorem zgs_cons {g : ZG} {gs : ZGs} (h1 : PZG X e g) (h2 : PZGs X es gs) (hs : (assignEach (e :: es) X.env).map (·.2) = assign e X.env :: (assignEach es X.env).map (·.2) := by rfl) : PZGs X (e :: es) (zgCons g gs) :=
  PGsimp (pgs_cons h1 h2 hs) fun vs s H Q ⟨r, zs, h, ds, Q0, R, S, hd, q, u⟩ => by
    cases ds with
    | nil => exact q.elim
    | cons d ds =>
      obtain ⟨v, ws, rfl, hv, hw⟩ := hd
      exact ⟨v, ws, rfl, r, zs, h, d, _, R, S, hv, q, fun zs' h' r' s' H' q' E R' S' => ⟨r', zs', h', ds, Q0, R', S', RelDs.mono E _ _ hw, q', u.ext E⟩⟩
def zgTup (n : Nat) (gs : ZGs) : ZG := fun d zs h Q => match d with
  | .tup ds => ds.length = n ∧ gs ds zs h Q
  | .tf ds => ds.length = n ∧ gs ds zs h Q
  | _ => False
theorem zg_tup {k : Nat} {gs : ZGs} {n : Nat} (hc : X.calm = true) (h : PZGs X es gs) (hn : (assignEach es X.env).length = n := by rfl) (hst : (assignEach es X.env).findIdx? (·.1) = none := by rfl) : PZG X (.Tuple es k pos) (zgTup n gs) :=
  PGimp (pg_tup hc h hn hst) fun v s H Q ⟨r, zs, h, d, Q0, R, S, hd, q, u⟩ => by
    cases d with
    | tup ds =>
      obtain ⟨a, vs, rfl, h1, _, h2⟩ := hd
      exact ⟨a, vs, rfl, .of h1, by rw [← h2.length]; exact q.1, r, zs, h, ds, Q0, R, S, h2, q.2, u⟩
    | tf ds =>
      obtain ⟨a, vs, rfl, ⟨o, h1, _⟩, _, h2⟩ := hd
      exact ⟨a, vs, rfl, .inl (.inr ⟨o, h1⟩), by rw [← h2.length]; exact q.1, r, zs, h, ds, Q0, R, S, h2, q.2, u⟩
    | _ => exact q.elim
def zAsg (te : ZE) (g : ZG) : ZTS := fun D zs h => te zs h fun d h1 => g d zs h1 D.nx
theorem up_asg {K : PySem.W.Frag} {te : ZE} {g : ZG} {D : Ends} {s : L2.St} {H : Hp} (q : liftS K (zAsg te g) D s H) : tAsg (liftE K te) (liftG K g) D s H := by
  obtain ⟨r, zs, h, D0, R, S, q, u⟩ := q
  exact ⟨r, zs, h, _, R, S, q, fun dx h1 r1 v1 H1 q1 E1 R1 D1 => ⟨r1, zs, h1, dx, _, R1, S.mono E1, D1, q1, u.nx.ext E1⟩⟩
theorem zs_asg {tg : Expr} {g : ZG} (he : PZ X e te) (hg : PZG X tg g) (hs : swapsWithSole [tg] e pos.line X.env = pure false := by rfl) (hw : swappedStores [tg] e X.env = pure none := by rfl)
    (h1 : (assignEach [tg] X.env).map (·.2) = [assign tg X.env] := by rfl) : PZS X (.Assign [tg] e pos) (zAsg te g) := PSimp (ps_asg he hg hs hw h1) fun _ _ _ q => up_asg q
theorem zs_set (i : Nat) {x : Str} {pos' : Pos} (hN : X.N.Nodup) (he : PZ X e te) (hi : X.N[i]? = some x := by rfl) (hx : Loc X.env.scope x := by first | exact .inl rfl | exact .inr rfl) (hs : swapsWith e (some (.Name x pos')) pos.line X.env = pure false := by rfl) (hf : X.fn x = true ∨ X.env.scope.names.lookup x = some .local := by first | exact .inl rfl | exact .inr rfl | assumption) :
    PZS X (.Assign [.Name x pos'] e pos) (zAsg te (zName i)) := PSimp (ps_set hN hi hx he hs hf) fun D s H ⟨r, zs, h, D0, R, S, q, u⟩ =>
  ⟨r, zs, h, _, R, S, q, fun dx h1 r1 v1 H1 q1 E1 R1 D1 => u.nx _ h1 r1 _ H1 q1 E1 R1 ((S.mono E1).set D1 i)⟩
def zPar (i j : Nat) (t : ZA) : ZTS := fun D zs h => t zs h fun ds h1 => match ds with
  | [v, w] => D.nx ((zs.set i (some v)).set j (some w)) h1
  | _ => False
theorem zs_par (i j : Nat) {x y : Str} {px py pt : Pos} {kt k2 pt2} (hc : X.calm = true) (hN : X.N.Nodup) (ha : PZA X [a, b] t) (hi : X.N[i]? = some x := by rfl) (hj : X.N[j]? = some y := by rfl) (hij : i ≠ j := by decide)
    (hx : X.env.scope.names.lookup x = some .local := by rfl) (hy : X.env.scope.names.lookup y = some .local := by rfl)
    (hw : swappedStores [.Tuple [.Name x px, .Name y py] kt pt] (.Tuple [a, b] k2 pt2) X.env = pure (some [x, y]) := by rfl)
    (hs : swapsWithSole [.Tuple [.Name x px, .Name y py] kt pt] (.Tuple [a, b] k2 pt2) pos.line X.env = pure false := by rfl) :
    PZS X (.Assign [.Tuple [.Name x px, .Name y py] kt pt] (.Tuple [a, b] k2 pt2) pos) (zPar i j t) := PSimp (ps_par hc hN hi hj hij hx hy ha hw hs) fun D s H ⟨r, zs, h, D0, R, S, q, u⟩ =>
  ⟨r, zs, h, _, R, S, q, fun ds h1 r1 vs H1 q1 E1 R1 D1 => by
    match ds, q1 with
    | [v, w], q1 =>
      obtain ⟨v1, ws, rfl, d1, ws2, us, rfl, d2, d3⟩ := D1
      have d3 : us = [] := d3
      subst d3
      exact ⟨v1, ws2, rfl, u.nx _ h1 r1 _ H1 q1 E1 R1 (((S.mono E1).set d1 i).set d2 j)⟩⟩
/-! ### stores -/
abbrev ZSet := D → D → D → AH → (AH → Prop) → Prop
def RSetZ (K : PySem.W.Frag) (t : TSet) (z : ZSet) : Prop := ∀ r h H o i v d0 di dv (Q : Hp → Prop) (Q0 : AH → Prop), RH K r h H → RelD K r H d0 o → RelD K r H di i → RelD K r H dv v → z d0 di dv h Q0 →
  (∀ h' r' H', Q0 h' → Ext r H r' H' → RH K r' h' H' → Q H') → t o i v H Q
def zgSub (to ti : ZE) (z : ZSet) : ZG := fun d zs h Q => to zs h fun o h1 => ti zs h1 fun i h2 => z o i d h2 fun h3 => Q zs h3
theorem zg_sub {o i : Expr} {to ti : ZE} {t : TSet} {z : ZSet} (ho : PZ X o to) (hi : PZ X i ti) (hs : PSet X t) (hz : RSetZ X.K t z)
    (ha : ∀ v, assign (.Subscript o i pos) X.env v = (do
      let ov ← holding [v] (eval o X.env)
      let iv ← holding [v, ov] (eval i X.env)
      standAt pos
      holding [v, ov, iv] (setItem ov iv v)
      release [v, ov, iv] []) := by intro _; rfl) : PZG X (.Subscript o i pos) (zgSub to ti z) :=
  PGimp (pg_sub ho hi hs ha) fun v s H Q ⟨r, zs, h, d, Q0, R, S, hd, q, u⟩ =>
    ⟨r, zs, h, _, R, S, q, fun d1 h1 r1 v1 H1 q1 E1 R1 D1 => ⟨r1, zs, h1, _, R1, S.mono E1, q1, fun d2 h2 r2 v2 H2 q2 E2 R2 D2 =>
      hz r2 h2 H2 v1 v2 v d1 d2 d _ _ R2 (RelD.mono E2 _ _ D1) D2 (RelD.mono (E1.trans E2) _ _ hd) q2 fun h3 r3 H3 q3 E3 R3 => u zs h3 r3 s H3 q3 (E1.trans (E2.trans E3)) R3 (S.mono (E1.trans (E2.trans E3)))⟩⟩
def zAug (i : Nat) (te : ZE) (z : Z2) : ZTS := fun D zs h => match zs[i]? with
  | some (some d) => te zs h fun y h1 => z d y h1 fun w h2 => D.nx (zs.set i (some w)) h2
  | _ => False
theorem zs_aug (i : Nat) {x : Str} {op : Operator} {ti : TIp} {z : Z2} {pos' : Pos} (hN : X.N.Nodup) (he : PZ X e te) (ho : PIp X op ti) (hz : R2Z X.K ti z) (hi : X.N[i]? = some x := by rfl) (hx : Loc X.env.scope x := by first | exact .inl rfl | exact .inr rfl) (hf : X.fn x = true ∨ X.env.scope.names.lookup x = some .local := by first | exact .inl rfl | exact .inr rfl | assumption) :
    PZS X (.AugAssign (.Name x pos') op e pos) (zAug i te z) := PSimp (ps_aug hN hi hx he ho hf) fun D s H ⟨r, zs, h, D0, R, S, q, u⟩ => by
  unfold zAug at q
  split at q
  · rename_i d ed
    obtain ⟨v, h1, h2⟩ := S.at' i d ed
    exact ⟨v, h1, r, zs, h, _, R, S, q, fun d1 h1 r1 v1 H1 q1 E1 R1 D1 => hz r1 h1 H1 v v1 d d1 _ _ R1 (RelD.mono E1 _ _ h2) D1 q1 fun d3 h3 r3 v3 H3 q3 E3 R3 D3 =>
      u.nx _ h3 r3 _ H3 q3 (E1.trans E3) R3 ((S.mono (E1.trans E3)).set D3 i)⟩
  · exact q.elim
def zAugS (to ti te : ZE) (zg zi : Z2) (zs' : ZSet) : ZTS := fun D zs h => to zs h fun o h1 => ti zs h1 fun i h2 => zg o i h2 fun x h3 => te zs h3 fun y h4 => zi x y h4 fun w h5 => zs' o i w h5 fun h6 => D.nx zs h6
theorem zs_augS {o i : Expr} {to ti : ZE} {tg : R2} {tip : TIp} {tset : TSet} {zg zi : Z2} {zt : ZSet} {op : Operator} {tpos : Pos} (ho : PZ X o to) (hi : PZ X i ti) (hg : PGet X tg) (hgz : R2Z X.K tg zg) (he : PZ X e te) (hp : PIp X op tip) (hpz : R2Z X.K tip zi) (hs : PSet X tset) (hsz : RSetZ X.K tset zt)
    (ha : ∀ ov iv new, augStore i ov iv new = (do holding [new, ov, iv] (setItem ov iv new); release [new, ov, iv] []; pure .next) := by intros; rfl) : PZS X (.AugAssign (.Subscript o i tpos) op e pos) (zAugS to ti te zg zi zt) :=
  PSimp (ps_augS ho hi hg he hp hs ha) fun D s H ⟨r, zs, h, D0, R, S, q, u⟩ =>
    ⟨r, zs, h, _, R, S, q, fun d1 h1 r1 v1 H1 q1 E1 R1 D1 => ⟨r1, zs, h1, _, R1, S.mono E1, q1, fun d2 h2 r2 v2 H2 q2 E2 R2 D2 =>
      hgz r2 h2 H2 v1 v2 d1 d2 _ _ R2 (RelD.mono E2 _ _ D1) D2 q2 fun d3 h3 r3 v3 H3 q3 E3 R3 D3 =>
        ⟨r3, zs, h3, _, R3, S.mono (E1.trans (E2.trans E3)), q3, fun d4 h4 r4 v4 H4 q4 E4 R4 D4 =>
          hpz r4 h4 H4 v3 v4 d3 d4 _ _ R4 (RelD.mono E4 _ _ D3) D4 q4 fun d5 h5 r5 v5 H5 q5 E5 R5 D5 =>
            hsz r5 h5 H5 v1 v2 v5 d1 d2 d5 _ _ R5 (RelD.mono (E2.trans (E3.trans (E4.trans E5))) _ _ D1) (RelD.mono (E3.trans (E4.trans E5)) _ _ D2) D5 q5 fun h6 r6 H6 q6 E6 R6 =>
              u.nx zs h6 r6 s H6 q6 (E1.trans (E2.trans (E3.trans (E4.trans (E5.trans E6))))) R6 (S.mono (E1.trans (E2.trans (E3.trans (E4.trans (E5.trans E6))))))⟩⟩⟩
end
end Z
/-! Z2: closed values, leaving a def or a turn, loops, comprehensions, calls. -/
namespace Z
open PySem PySem.Spec PyProof.Rows L2
/-! ### closed values -/
mutual
def D.cl (k : Nat) : D → Bool
  | .obj n => decide (n < k)
  | .tup xs => D.cls k xs
  | .lst xs => D.cls k xs
  | .fz xs => D.cls k xs
  | .kt xs => D.cls k xs
  | .tf xs => D.cls k xs
  | .dK _ vs => D.cls k vs
  | .dT _ vs => D.cls k vs
  | _ => true
def D.cls (k : Nat) : List D → Bool
  | [] => true
  | d :: ds => d.cl k && D.cls k ds
end
def Cl.cl (k : Nat) : Cl → Bool
  | .lst xs => D.cls k xs
  | .dK _ vs => D.cls k vs
  | .dT _ vs => D.cls k vs
  | .ins _ _ vs => D.cls k vs
def WfH (h : AH) : Prop := ∀ c ∈ h, c.cl h.length = true
section
variable {K : PySem.W.Frag} {r : Wd} {H : Hp}
mutual
theorem RelD.cl : ∀ (d : D) (v : V), RelD K r H d v → d.cl r.r.length = true
  | .non, _, _ => rfl
  | .bl _, _, _ => rfl
  | .int _, _, _ => rfl
  | .str _, _, _ => rfl
  | .ty _, _, _ => rfl
  | .glb _, _, _ => rfl
  | .obj n, v, h => by
    obtain ⟨a, _, h2⟩ := h
    exact decide_eq_true (List.getElem?_eq_some_iff.mp h2).1
  | .tup ds, v, h => by
    obtain ⟨a, vs, _, _, _, h3⟩ := h
    exact RelDs.cl ds vs h3
  | .kt ds, v, h => by
    obtain ⟨a, vs, _, _, h3⟩ := h
    exact RelDs.cl ds vs h3
  | .tf ds, v, h => by
    obtain ⟨a, vs, _, _, _, h3⟩ := h
    exact RelDs.cl ds vs h3
  | .lst ds, v, h => by
    obtain ⟨a, vs, _, _, _, h3⟩ := h
    exact RelDs.cl ds vs h3
  | .fz ds, v, h => by
    obtain ⟨a, vs, _, _, h3⟩ := h
    exact RelDs.cl ds vs h3
  | .dK ks ds, v, h => by
    obtain ⟨a, vs, _, _, _, _, h3⟩ := h
    exact RelDs.cl ds vs h3
  | .dT ks ds, v, h => by
    obtain ⟨a, vs, _, _, _, _, h3⟩ := h
    exact RelDs.cl ds vs h3
theorem RelDs.cl : ∀ (ds : List D) (vs : List V), RelDs K r H ds vs → D.cls r.r.length ds = true
  | [], _, _ => rfl
  | d :: ds, vs, h => by
    obtain ⟨v, ws, rfl, h2, h3⟩ := h
    show (d.cl _ && D.cls _ ds) = true
    rw [RelD.cl d v h2, RelDs.cl ds ws h3]; rfl
end
theorem RelC.cl {c : Cl} {a : Addr} (h : RelC K r H c a) : c.cl r.r.length = true := by
  cases c with
  | lst _ => obtain ⟨_, _, h⟩ := h; exact RelDs.cl _ _ h
  | dK _ _ => obtain ⟨_, _, _, h⟩ := h; exact RelDs.cl _ _ h
  | dT _ _ => obtain ⟨_, _, _, h⟩ := h; exact RelDs.cl _ _ h
  | ins _ _ _ => obtain ⟨_, _, _, _, h⟩ := h; exact RelDs.cl _ _ h
theorem RH.wf {h : AH} (R : RH K r h H) : WfH h := fun c hc => by
  obtain ⟨n, hn, e⟩ := List.mem_iff_getElem.mp hc
  obtain ⟨a, _, h2⟩ := R.cell n c (by rw [List.getElem?_eq_getElem hn, e])
  rw [← R.len]
  exact h2.cl
mutual
theorem D.cl_mono {j k : Nat} (h : j ≤ k) : ∀ d : D, d.cl j = true → d.cl k = true
  | .non, _ => rfl
  | .bl _, _ => rfl
  | .int _, _ => rfl
  | .str _, _ => rfl
  | .ty _, _ => rfl
  | .glb _, _ => rfl
  | .obj n, q => by
    have q : n < j := of_decide_eq_true q
    exact decide_eq_true (by omega)
  | .tup ds, q => D.cls_mono h ds q
  | .lst ds, q => D.cls_mono h ds q
  | .fz ds, q => D.cls_mono h ds q
  | .kt ds, q => D.cls_mono h ds q
  | .tf ds, q => D.cls_mono h ds q
  | .dK _ ds, q => D.cls_mono h ds q
  | .dT _ ds, q => D.cls_mono h ds q
theorem D.cls_mono {j k : Nat} (h : j ≤ k) : ∀ ds : List D, D.cls j ds = true → D.cls k ds = true
  | [], _ => rfl
  | d :: ds, q => by
    have q : (d.cl j && D.cls j ds) = true := q
    rw [Bool.and_eq_true] at q
    show (d.cl k && D.cls k ds) = true
    rw [D.cl_mono h d q.1, D.cls_mono h ds q.2]; rfl
end
theorem Cl.cl_mono {j k : Nat} (h : j ≤ k) (c : Cl) (q : c.cl j = true) : c.cl k = true := by
  cases c <;> exact D.cls_mono h _ q
theorem WfH.set {h : AH} (w : WfH h) {n : Nat} {c : Cl} (q : c.cl h.length = true) : WfH (h.set n c) := fun e he => by
  rw [List.length_set]
  rcases List.mem_or_eq_of_mem_set he with z | z
  · exact w e z
  · rw [z]; exact q
theorem WfH.push {h : AH} (w : WfH h) {c : Cl} (q : c.cl (h.length + 1) = true) : WfH (h ++ [c]) := fun e he => by
  rw [List.length_append]
  rcases List.mem_append.mp he with z | z
  · exact Cl.cl_mono (by simp) e (w e z)
  · have : e = c := by simpa using z
    rw [this]; exact q
theorem D.cls_map {α : Type} {k : Nat} {f : α → D} (h : ∀ a, (f a).cl k = true) : ∀ xs : List α, D.cls k (xs.map f) = true
  | [] => rfl
  | x :: xs => by
    show ((f x).cl k && D.cls k (xs.map f)) = true
    rw [h x, D.cls_map h xs]; rfl
theorem D.cls_mem {k : Nat} : ∀ {ds : List D}, (∀ d ∈ ds, d.cl k = true) → D.cls k ds = true
  | [], _ => rfl
  | d :: ds, h => by
    show (d.cl k && D.cls k ds) = true
    rw [h d List.mem_cons_self, D.cls_mem fun e he => h e (List.mem_cons_of_mem _ he)]; rfl
theorem D.cls_iff {k : Nat} : ∀ {ds : List D}, D.cls k ds = true → ∀ d ∈ ds, d.cl k = true
  | d :: ds, q, e, he => by
    have q : (d.cl k && D.cls k ds) = true := q
    rw [Bool.and_eq_true] at q
    rcases List.mem_cons.mp he with z | z
    · rw [z]; exact q.1
    · exact D.cls_iff q.2 e z
end
/-! ### what is left behind a def or a turn: handles from k on are frozen or forgotten -/
mutual
def FzR (k : Nat) (h : AH) : D → D → Prop
  | .non, d => d = .non
  | .bl b, d => d = .bl b
  | .int i, d => d = .int i
  | .str x, d => d = .str x
  | .ty n, d => d = .ty n
  | .glb a, d => d = .glb a
  | .obj n, d => d = .obj n ∧ n < k
  | .tup xs, d => ∃ ys, d = .tup ys ∧ FzRs k h xs ys
  | .fz xs, d => ∃ ys, d = .fz ys ∧ FzRs k h xs ys
  | .kt xs, d => ∃ ys, d = .kt ys ∧ FzRs k h xs ys
  | .tf xs, d => ∃ ys, d = .tf ys ∧ FzRs k h xs ys
  | .lst xs, d => (∃ ys, d = .lst ys ∧ FzRs k h xs ys) ∨ ∃ (n : Nat) (ys : List D), d = .obj n ∧ k ≤ n ∧ h[n]? = some (.lst ys) ∧ FzRs k h xs ys
  | .dK ks xs, d => (∃ ys, d = .dK ks ys ∧ FzRs k h xs ys) ∨ ∃ (n : Nat) (ys : List D), d = .obj n ∧ k ≤ n ∧ h[n]? = some (.dK ks ys) ∧ FzRs k h xs ys
  | .dT ks xs, d => (∃ ys, d = .dT ks ys ∧ FzRs k h xs ys) ∨ ∃ (n : Nat) (ys : List D), d = .obj n ∧ k ≤ n ∧ h[n]? = some (.dT ks ys) ∧ FzRs k h xs ys
def FzRs (k : Nat) (h : AH) : List D → List D → Prop
  | [], ds => ds = []
  | x :: xs, ds => ∃ y ys, ds = y :: ys ∧ FzR k h x y ∧ FzRs k h xs ys
end
mutual
theorem FzR.self {k : Nat} {h : AH} : ∀ d : D, d.cl k = true → FzR k h d d
  | .non, _ => rfl
  | .bl _, _ => rfl
  | .int _, _ => rfl
  | .str _, _ => rfl
  | .ty _, _ => rfl
  | .glb _, _ => rfl
  | .obj n, q => ⟨rfl, of_decide_eq_true q⟩
  | .tup ds, q => ⟨ds, rfl, FzRs.self ds q⟩
  | .lst ds, q => .inl ⟨ds, rfl, FzRs.self ds q⟩
  | .fz ds, q => ⟨ds, rfl, FzRs.self ds q⟩
  | .kt ds, q => ⟨ds, rfl, FzRs.self ds q⟩
  | .tf ds, q => ⟨ds, rfl, FzRs.self ds q⟩
  | .dK _ ds, q => .inl ⟨ds, rfl, FzRs.self ds q⟩
  | .dT _ ds, q => .inl ⟨ds, rfl, FzRs.self ds q⟩
theorem FzRs.self {k : Nat} {h : AH} : ∀ ds : List D, D.cls k ds = true → FzRs k h ds ds
  | [], _ => rfl
  | d :: ds, q => by
    have q : (d.cl k && D.cls k ds) = true := q
    rw [Bool.and_eq_true] at q
    exact ⟨d, ds, rfl, FzR.self d q.1, FzRs.self ds q.2⟩
end
abbrev Wd.cut (r : Wd) (k : Nat) : Wd := ⟨r.r.take k, r.x⟩
theorem Out.cut {r : Wd} {k : Nat} {a : Addr} (h : Out r a) : Out (r.cut k) a := ⟨fun z => h.1 (List.mem_of_mem_take z), h.2⟩
/-- a forgotten handle's address -/
theorem out_of {r : Wd} {k n : Nat} {a : Addr} (nd : r.r.Nodup) (xs : ∀ a ∈ r.x, a ∉ r.r) (hk : k ≤ n) (e : r.r[n]? = some a) : Out (r.cut k) a := by
  refine ⟨fun z => ?_, fun z => xs a z (List.mem_of_getElem? e)⟩
  obtain ⟨m, hm, e'⟩ := List.mem_iff_getElem.mp z
  have hm' : m < k ∧ m < r.r.length := by
    rw [List.length_take] at hm
    omega
  rw [List.getElem_take] at e'
  obtain ⟨hn, e2⟩ := List.getElem?_eq_some_iff.mp e
  have : m = n := (List.getElem_inj nd).mp (e'.trans e2.symm)
  omega
section
variable {K : PySem.W.Frag} {r : Wd} {H : Hp} {h : AH} {k : Nat}
mutual
theorem FzR.ok (R : RH K r h H) : ∀ (d0 d : D) (v : V), FzR k h d0 d → RelD K r H d v → RelD K (r.cut k) H d0 v
  | .non, d, v, f, q => by
    have f : d = .non := f
    subst f; exact q
  | .bl b, d, v, f, q => by
    have f : d = .bl b := f
    subst f; exact q
  | .int b, d, v, f, q => by
    have f : d = .int b := f
    subst f; exact q
  | .str b, d, v, f, q => by
    have f : d = .str b := f
    subst f; exact q
  | .ty b, d, v, f, q => by
    have f : d = .ty b := f
    subst f; exact q
  | .glb b, d, v, f, q => by
    have f : d = .glb b := f
    subst f; exact q
  | .obj n, d, v, f, q => by
    obtain ⟨rfl, hn⟩ := f
    obtain ⟨a, rfl, e⟩ := q
    exact ⟨a, rfl, by show (r.r.take k)[n]? = some a; rw [List.getElem?_take, if_pos hn]; exact e⟩
  | .tup xs, d, v, f, q => by
    obtain ⟨ys, rfl, f⟩ := f
    obtain ⟨a, vs, rfl, h2, o, h3⟩ := q
    exact ⟨a, vs, rfl, h2, o.cut, FzRs.ok R xs ys vs f h3⟩
  | .kt xs, d, v, f, q => by
    obtain ⟨ys, rfl, f⟩ := f
    obtain ⟨a, vs, rfl, h2, h3⟩ := q
    exact ⟨a, vs, rfl, h2, FzRs.ok R xs ys vs f h3⟩
  | .tf xs, d, v, f, q => by
    obtain ⟨ys, rfl, f⟩ := f
    obtain ⟨a, vs, rfl, h2, o, h3⟩ := q
    exact ⟨a, vs, rfl, h2, o.cut, FzRs.ok R xs ys vs f h3⟩
  | .fz xs, d, v, f, q => by
    obtain ⟨ys, rfl, f⟩ := f
    obtain ⟨a, vs, rfl, h2, h3⟩ := q
    refine ⟨a, vs, rfl, ?_, FzRs.ok R xs ys vs f h3⟩
    rcases h2 with ⟨h2, o⟩ | h2
    · exact .inl ⟨h2, o.cut⟩
    · exact .inr h2
  | .lst xs, d, v, f, q => by
    rcases f with ⟨ys, rfl, f⟩ | ⟨n, ys, rfl, hk, e, f⟩
    · obtain ⟨a, vs, rfl, h2, o, h3⟩ := q
      exact ⟨a, vs, rfl, h2, o.cut, FzRs.ok R xs ys vs f h3⟩
    · obtain ⟨a, rfl, h1, vs, h2, h3⟩ := R.get e q
      exact ⟨a, vs, rfl, h2, out_of R.nd R.xs hk h1, FzRs.ok R xs ys vs f h3⟩
  | .dK ks xs, d, v, f, q => by
    rcases f with ⟨ys, rfl, f⟩ | ⟨n, ys, rfl, hk, e, f⟩
    · obtain ⟨a, vs, rfl, h2, o, h4, h3⟩ := q
      exact ⟨a, vs, rfl, h2, o.cut, h4, FzRs.ok R xs ys vs f h3⟩
    · obtain ⟨a, rfl, h1, vs, h2, h4, h3⟩ := R.get e q
      exact ⟨a, vs, rfl, h2, out_of R.nd R.xs hk h1, h4, FzRs.ok R xs ys vs f h3⟩
  | .dT ks xs, d, v, f, q => by
    rcases f with ⟨ys, rfl, f⟩ | ⟨n, ys, rfl, hk, e, f⟩
    · obtain ⟨a, vs, rfl, h2, o, h4, h3⟩ := q
      exact ⟨a, vs, rfl, h2, o.cut, h4, FzRs.ok R xs ys vs f h3⟩
    · obtain ⟨a, rfl, h1, vs, h2, h4, h3⟩ := R.get e q
      exact ⟨a, vs, rfl, h2, out_of R.nd R.xs hk h1, h4, FzRs.ok R xs ys vs f h3⟩
theorem FzRs.ok (R : RH K r h H) : ∀ (d0 d : List D) (v : List V), FzRs k h d0 d → RelDs K r H d v → RelDs K (r.cut k) H d0 v
  | [], d, v, f, q => by
    have f : d = [] := f
    subst f; exact q
  | x :: xs, d, v, f, q => by
    obtain ⟨y, ys, rfl, f1, f2⟩ := f
    obtain ⟨u, us, rfl, q1, q2⟩ := q
    exact ⟨u, us, rfl, FzR.ok R x y u f1 q1, FzRs.ok R xs ys us f2 q2⟩
end
/-- the heap cut -/
theorem RH.cut {h0 g : AH} (R : RH K r (h0 ++ g) H) (w : WfH h0) : RH K (r.cut h0.length) h0 H := by
  have hl := R.len
  rw [List.length_append] at hl
  refine ⟨by simp only [List.length_take]; omega, (List.take_sublist _ _).nodup R.nd, fun a ha z => R.xs a ha (List.mem_of_mem_take z), fun n c e => ?_, R.px⟩
  have hn := (List.getElem?_eq_some_iff.mp e).1
  obtain ⟨a, h1, h2⟩ := R.cell n c (by rw [List.getElem?_append_left hn]; exact e)
  refine ⟨a, by show (r.r.take h0.length)[n]? = some a; rw [List.getElem?_take, if_pos hn]; exact h1, ?_⟩
  have wc := w c (List.mem_of_getElem? e)
  cases c with
  | lst xs => obtain ⟨vs, q1, q2⟩ := h2; exact ⟨vs, q1, FzRs.ok R xs xs vs (FzRs.self xs wc) q2⟩
  | dK ks xs => obtain ⟨vs, q1, q3, q2⟩ := h2; exact ⟨vs, q1, q3, FzRs.ok R xs xs vs (FzRs.self xs wc) q2⟩
  | dT ks xs => obtain ⟨vs, q1, q3, q2⟩ := h2; exact ⟨vs, q1, q3, FzRs.ok R xs xs vs (FzRs.self xs wc) q2⟩
  | ins C fs xs => obtain ⟨dx, vs, q1, q3, q2⟩ := h2; exact ⟨dx, vs, q1, q3, FzRs.ok R xs xs vs (FzRs.self xs wc) q2⟩
theorem Ext.cut {r1 : Wd} {H1 : Hp} (e : Ext r H r1 H1) (hk : r.r.length ≤ k) : Ext r H (r1.cut k) H1 := by
  obtain ⟨m, q⟩ := e.pre
  refine ⟨⟨m.take (k - r.r.length), ?_⟩, fun a o h1 n => ?_, e.px⟩
  · show r1.r.take k = _
    rw [q, List.take_append, List.take_of_length_le hk]
  · have z := e.keep a o h1 n
    exact ⟨z.1, fun y => z.2.1 (List.mem_of_mem_take y), z.2.2⟩
end
/-- a value and a heap left behind -/
def Exit (n : Nat) (Q : ZK) : ZK := fun d h' => ∃ d0 h0, n ≤ h0.length ∧ (∃ g, h' = h0 ++ g) ∧ WfH h0 ∧ FzR h0.length h' d0 d ∧ Q d0 h0
theorem Exit.up {K : PySem.W.Frag} {r : Wd} {H : Hp} {h : AH} {Q0 : ZK} {Q : VK} (R : RH K r h H) (u : UpQ K r H Q0 Q) : UpQ K r H (Exit h.length Q0) Q := by
  intro d h' r' v H' q E' R' D'
  obtain ⟨d0, h0, hn, ⟨g, rfl⟩, w, f, q⟩ := q
  exact u d0 h0 (r'.cut h0.length) v H' q (E'.cut (by rw [R.len]; exact hn)) (R'.cut w) (FzR.ok R' d0 d v f D')
theorem Exit.same {h g : AH} {Q : ZK} {d : D} (w : WfH h) (hd : d.cl h.length = true) (q : Q d h) : Exit h.length Q d (h ++ g) := ⟨d, h, Nat.le_refl _, ⟨g, rfl⟩, w, FzR.self d hd, q⟩
theorem Exit.same0 {h : AH} {Q : ZK} {d : D} (w : WfH h) (hd : d.cl h.length = true) (q : Q d h) : Exit h.length Q d h := ⟨d, h, Nat.le_refl _, ⟨[], by simp⟩, w, FzR.self d hd, q⟩
theorem Exit.put {h g : AH} {n : Nat} {c : Cl} {Q : ZK} {d : D} (w : WfH h) (hc : c.cl h.length = true) (hd : d.cl h.length = true) (q : Q d (h.set n c)) : Exit h.length Q d (h.set n c ++ g) :=
  ⟨d, h.set n c, by simp, ⟨g, rfl⟩, w.set hc, FzR.self d (by simpa using hd), q⟩
theorem Exit.put0 {h : AH} {n : Nat} {c : Cl} {Q : ZK} {d : D} (w : WfH h) (hc : c.cl h.length = true) (hd : d.cl h.length = true) (q : Q d (h.set n c)) : Exit h.length Q d (h.set n c) :=
  ⟨d, h.set n c, by simp, ⟨[], by simp⟩, w.set hc, FzR.self d (by simpa using hd), q⟩
/-- slots and a heap left behind -/
def FzS (k : Nat) (h : AH) : ZS → ZS → Prop
  | [], zs => zs = []
  | none :: z0, zs => ∃ d z, zs = d :: z ∧ FzS k h z0 z
  | some d0 :: z0, zs => ∃ d z, zs = some d :: z ∧ FzR k h d0 d ∧ FzS k h z0 z
theorem FzS.ok {K : PySem.W.Frag} {r : Wd} {H : Hp} {h : AH} {k : Nat} (R : RH K r h H) : ∀ (z0 zs : ZS) (s : L2.St), FzS k h z0 zs → RS K r H zs s → RS K (r.cut k) H z0 s
  | [], zs, s, f, S => by
    have f : zs = [] := f
    subst f
    exact ⟨S.len, fun i d q => by simp at q⟩
  | none :: z0, zs, s, f, S => by
    obtain ⟨d, z, rfl, f⟩ := f
    cases s with
    | nil => have := S.len; simp at this
    | cons x s =>
      have S' : RS K r H z s := ⟨by have := S.len; simpa using this, fun i d q => by simpa using S.at' (i + 1) d (by simpa using q)⟩
      have ih := FzS.ok R z0 z s f S'
      refine ⟨by have := ih.len; simpa using this, fun i d q => ?_⟩
      cases i with
      | zero => simp at q
      | succ i => simpa using ih.at' i d (by simpa using q)
  | some d0 :: z0, zs, s, f, S => by
    obtain ⟨d, z, rfl, fd, f⟩ := f
    cases s with
    | nil => have := S.len; simp at this
    | cons x s =>
      have S' : RS K r H z s := ⟨by have := S.len; simpa using this, fun i d q => by simpa using S.at' (i + 1) d (by simpa using q)⟩
      have ih := FzS.ok R z0 z s f S'
      refine ⟨by have := ih.len; simpa using this, fun i e q => ?_⟩
      cases i with
      | zero =>
        have q : d0 = e := by simpa using q
        subst q
        obtain ⟨v, h1, h2⟩ := S.at' 0 d rfl
        exact ⟨v, h1, FzR.ok R d0 d v fd h2⟩
      | succ i => simpa using ih.at' i e (by simpa using q)
def ExitN (n : Nat) (P : ZS → AH → Prop) : ZS → AH → Prop := fun zs h' => ∃ z0 h0, n ≤ h0.length ∧ (∃ g, h' = h0 ++ g) ∧ WfH h0 ∧ FzS h0.length h' z0 zs ∧ P z0 h0
theorem ExitN.up {K : PySem.W.Frag} {r : Wd} {H : Hp} {h : AH} {P : ZS → AH → Prop} {Q : L2.St → Hp → Prop} (R : RH K r h H) (u : UpN K r H P Q) : UpN K r H (ExitN h.length P) Q := by
  intro zs h' r' s H' q E' R' S'
  obtain ⟨z0, h0, hn, ⟨g, rfl⟩, w, f, q⟩ := q
  exact u z0 h0 (r'.cut h0.length) s H' q (E'.cut (by rw [R.len]; exact hn)) (R'.cut w) (FzS.ok R' z0 zs s f S')
/-- a block behind which handles are frozen or forgotten -/
def zClean (t : ZTS) : ZTS := fun D zs h => t { D with nx := ExitN h.length D.nx, ct := ExitN h.length D.ct, bk := ExitN h.length D.bk } zs h
theorem zss_clean {X : Cx} {sts : List Stmt} {t : ZTS} (h : PZSs X sts t) : PZSs X sts (zClean t) := PSsimp h fun D s H ⟨r, zs, h, D0, R, S, q, u⟩ =>
  ⟨r, zs, h, _, R, S, q, ⟨ExitN.up R u.nx, u.rt, ExitN.up R u.bk, ExitN.up R u.ct⟩⟩
/-! ### what is walked -/
abbrev ZI := ZS → AH → (List D → AH → Prop) → Prop
def Keeps (r : Wd) (H H1 : Hp) : Prop := ∀ a o, H a = some o → Out r a → H1 a = some o
theorem Ext.keeps {r r' : Wd} {H H' : Hp} (e : Ext r H r' H') : Keeps r H H' := fun a o h n => (e.keep a o h n.1).1
def YD (K : PySem.W.Frag) (r : Wd) (H : Hp) (d : D) (x : V) (H1 H2 : Hp) : Prop := (H2 = H1 ∧ RelD K r H d x) ∨
  ∃ T x1 x2 d1 d2, x = .ref T ∧ H1 T = none ∧ H2 = upd H1 T (.tup [x1, x2]) ∧ d = .tup [d1, d2] ∧ RelD K r H d1 x1 ∧ RelD K r H d2 x2
structure ZWalk (K : PySem.W.Frag) (J : It) (ds : List D) (r : Wd) (H : Hp) : Prop where
  stops : ∀ H1, Keeps r H H1 → J.stop ds.length H1
  goes : ∀ i H1, i < ds.length → Keeps r H H1 → J.go i H1
  yields : ∀ (i : Nat) H1 x H2, i < ds.length → Keeps r H H1 → J.yld i H1 x H2 → ∃ d, ds[i]? = some d ∧ YD K r H d x H1 H2
theorem YD.go {K : PySem.W.Frag} {r r1 : Wd} {H H1 H2 : Hp} {d : D} {x : V} {h1 : AH} (e : Tr r H r1 H1) (R : RH K r1 h1 H1) (y : YD K r H d x H1 H2) : Ext r1 H1 r1 H2 ∧ RH K r1 h1 H2 ∧ RelD K r1 H2 d x := by
  rcases y with ⟨rfl, q⟩ | ⟨T, x1, x2, d1, d2, rfl, hT, rfl, rfl, q1, q2⟩
  · exact ⟨.refl _ _, R, RelD.go e _ _ q⟩
  · have E := Ext.laid (o := .tup [x1, x2]) R hT
    exact ⟨E, R.laid hT, T, _, rfl, upd_same, R.out hT, x1, [x2], rfl, RelD.mono E _ _ (RelD.go e _ _ q1), x2, [], rfl, RelD.mono E _ _ (RelD.go e _ _ q2), rfl⟩
def liftI (K : PySem.W.Frag) (zi : ZI) : TI := fun s H W => ∃ r zs h Q0, RH K r h H ∧ RS K r H zs s ∧ zi zs h Q0 ∧ ∀ ds h' r' H' J, Q0 ds h' → Ext r H r' H' → RH K r' h' H' → ZWalk K J ds r' H' → W J H'
abbrev PZI (X : Cx) (tg iter : Expr) (zi : ZI) : Prop := PI X tg iter (liftI X.K zi)
theorem PIimp {X : Cx} {tg e : Expr} {t t' : TI} (h : PI X tg e t) (f : ∀ s H Q, t' s H Q → t s H Q) : PI X tg e t' := ⟨fun pins s σ H Q I q => h.run pins s σ H Q I (f _ _ _ q)⟩
/-! ### for -/
def zForL (g : ZG) (tb : ZTS) (E : ZEnds) : List D → ZS → AH → Prop
  | [], zs, h => E.nx zs h
  | x :: xs, zs, h => g x zs h fun zs1 h1 => tb { nx := zForL g tb E xs, ct := zForL g tb E xs, bk := E.nx, rt := E.rt } zs1 h1
def zFor (zi : ZI) (g : ZG) (tb : ZTS) : ZTS := fun E zs h => zi zs h fun ds h1 => zForL g tb E ds zs h1
theorem zs_for {X : Cx} {tg iter : Expr} {body : List Stmt} {pos : Pos} {zi : ZI} {g : ZG} {tb : ZTS} (hp : PassesOwn (model X.prog X.w) X.A X.env X.xe) (hc : X.calm = true) (hi : PZI X tg iter zi) (hg : PZG X tg g) (hb : PZSs X body tb)
    (hs : ∀ x, foldedSetIterable iter X.env x = pure x := by intro _; rfl) : PZS X (.For tg iter body [] pos) (zFor zi g tb) := PSimp (ps_for hp hc hi hg hb hs) fun D s H ⟨r, zs, h, D0, R, S, q, u⟩ => by
  refine ⟨r, zs, h, _, R, S, q, fun ds h1 r1 H1 J q1 E1 R1 Wk => ?_⟩
  refine ⟨fun i m σ Hx => m = ds.length - i ∧ i ≤ ds.length ∧ ∃ r2 z2 h2, Ext r1 H1 r2 Hx ∧ RH X.K r2 h2 Hx ∧ RS X.K r2 Hx z2 σ ∧ zForL g tb D0 (ds.drop i) z2 h2,
    ⟨ds.length, by simp, Nat.zero_le _, r1, zs, h1, .refl _ _, R1, S.mono E1, q1⟩, ?_⟩
  rintro i m σ Hx ⟨rfl, hi', r2, z2, h2, E2, R2, S2, q2⟩
  by_cases hlt : i < ds.length
  · refine .inr ⟨Wk.goes i Hx hlt E2.keeps, fun σ' H' => ∃ r3 z3 h3, Ext r1 H1 r3 H' ∧ RH X.K r3 h3 H' ∧ RS X.K r3 H' z3 σ' ∧ zForL g tb D0 (ds.drop (i + 1)) z3 h3, fun σ' H' n => ⟨ds.length - (i + 1), by omega, rfl, hlt, n⟩, fun x H' y => ?_⟩
    obtain ⟨d, hd, yd⟩ := Wk.yields i Hx x H' hlt E2.keeps y
    obtain ⟨E3, R3, D3⟩ := yd.go E2.tr R2
    have e : ds.drop i = d :: ds.drop (i + 1) := by
      rw [List.drop_eq_getElem_cons hlt]
      rw [List.getElem?_eq_getElem hlt] at hd
      cases hd; rfl
    rw [e] at q2
    refine ⟨r2, z2, h2, d, _, R3, S2.mono E3, D3, q2, fun z4 h4 r4 s4 H4 q4 E4 R4 S4 => ⟨r4, z4, h4, _, R4, S4, q4, ?_⟩⟩
    have EE : Ext r1 H1 r4 H4 := E2.trans (E3.trans E4)
    exact ⟨fun z5 h5 r5 s5 H5 q5 E5 R5 S5 => ⟨r5, z5, h5, EE.trans E5, R5, S5, q5⟩, u.rt.ext (E1.trans EE), u.nx.ext (E1.trans EE), fun z5 h5 r5 s5 H5 q5 E5 R5 S5 => ⟨r5, z5, h5, EE.trans E5, R5, S5, q5⟩⟩
  · have e : i = ds.length := by omega
    subst e
    rw [List.drop_length] at q2
    exact .inl ⟨Wk.stops Hx E2.keeps, u.nx z2 h2 r2 σ Hx q2 (E1.trans E2) R2 S2⟩
/-! ### while -/
def zWhileN (c : ZT) (tb : ZTS) (E : ZEnds) : Nat → ZS → AH → Prop
  | 0, _, _ => False
  | n + 1, zs, h => c zs h fun b h1 => match b with
    | true => tb { nx := zWhileN c tb E n, ct := zWhileN c tb E n, bk := E.nx, rt := E.rt } zs h1
    | false => E.nx zs h1
def zWhile (c : ZT) (tb : ZTS) : ZTS := fun E zs h => ∃ n, zWhileN c tb E n zs h
theorem zs_while {X : Cx} {c : Expr} {body : List Stmt} {pos : Pos} {tc : ZT} {tb : ZTS} (hp : PassesOwn (model X.prog X.w) X.A X.env X.xe) (hc : PZT X c tc) (hb : PZSs X body tb) : PZS X (.While c body [] pos) (zWhile tc tb) :=
  PSimp (ps_while hp hc hb) fun D s H ⟨r, zs, h, D0, R, S, ⟨n, q⟩, u⟩ => by
  refine ⟨fun m σ Hx => ∃ r2 z2 h2, Ext r H r2 Hx ∧ RH X.K r2 h2 Hx ∧ RS X.K r2 Hx z2 σ ∧ zWhileN tc tb D0 m z2 h2, ⟨n, r, zs, h, .refl _ _, R, S, q⟩, ?_⟩
  rintro m σ Hx ⟨r2, z2, h2, E2, R2, S2, q2⟩
  cases m with
  | zero => exact q2.elim
  | succ m =>
    refine ⟨r2, z2, h2, _, R2, S2, q2, fun b h3 r3 H3 q3 E3 R3 => ?_⟩
    cases b with
    | true =>
      rw [if_pos rfl]
      refine ⟨fun σ' H' => ∃ r4 z4 h4, Ext r H r4 H' ∧ RH X.K r4 h4 H' ∧ RS X.K r4 H' z4 σ' ∧ zWhileN tc tb D0 m z4 h4, fun σ' H' w => ⟨m, Nat.lt_succ_self m, w⟩, r3, z2, h3, _, R3, S2.mono E3, q3, ?_⟩
      exact ⟨fun z5 h5 r5 s5 H5 q5 E5 R5 S5 => ⟨r5, z5, h5, E2.trans (E3.trans E5), R5, S5, q5⟩, u.rt.ext (E2.trans E3), u.nx.ext (E2.trans E3), fun z5 h5 r5 s5 H5 q5 E5 R5 S5 => ⟨r5, z5, h5, E2.trans (E3.trans E5), R5, S5, q5⟩⟩
    | false =>
      rw [if_neg Bool.false_ne_true]
      exact u.nx z2 h3 r3 σ H3 q3 (E2.trans E3) R3 (S2.mono E3)
end Z
/-! Z3: comprehensions, calls, defs. -/
namespace Z
open PySem PySem.Spec PyProof.Rows L2
/-! ### list comprehensions -/
def zwipe (zs : ZS) : List Nat → ZS
  | [] => zs
  | v :: vs => (zwipe zs vs).set v none
section
variable {K : PySem.W.Frag} {r : Wd} {H : Hp}
theorem RS.unset {zs : ZS} {s : L2.St} (S : RS K r H zs s) (i : Nat) : RS K r H (zs.set i none) (s.set i none) :=
  ⟨by simp [S.len], fun j e q => by
    by_cases hj : j = i
    · subst hj
      have hlt : j < zs.length := by
        have := (List.getElem?_eq_some_iff.mp q).1
        simpa using this
      rw [List.getElem?_set_self hlt] at q
      cases q
    · rw [List.getElem?_set_ne (Ne.symm hj)] at q ⊢
      exact S.at' j e q⟩
theorem RS.wipe {zs : ZS} {s : L2.St} (S : RS K r H zs s) : ∀ vs : List Nat, RS K r H (zwipe zs vs) (L2.wipe s vs)
  | [] => S
  | v :: vs => (RS.wipe S vs).unset v
theorem wipe_set {s : L2.St} {i : Nat} {x : Option V} : ∀ {vs : List Nat}, i ∈ vs → L2.wipe (s.set i x) vs = L2.wipe s vs
  | v :: vs, h => by
    show (L2.wipe (s.set i x) vs).set v none = (L2.wipe s vs).set v none
    by_cases hi : i ∈ vs
    · rw [wipe_set hi]
    · have e : i = v := by
        rcases List.mem_cons.mp h with z | z
        · exact z
        · exact absurd z hi
      subst e
      have : L2.wipe (s.set i x) vs = (L2.wipe s vs).set i x := by
        clear h
        induction vs with
        | nil => rfl
        | cons w ws ih =>
          have hw : i ≠ w := fun z => hi (z ▸ List.mem_cons_self)
          show (L2.wipe (s.set i x) ws).set w none = ((L2.wipe s ws).set w none).set i x
          rw [ih fun z => hi (List.mem_cons_of_mem _ z), List.set_comm _ _ hw]
      rw [this, List.set_set]
/-- a target of a comprehension touches the comprehension's own slots alone -/
def GW (K : PySem.W.Frag) (vs : List Nat) (gh : TG) (g : ZG) : Prop := ∀ r h H zs s d v Q0 Q, RH K r h H → RS K r H zs s → RelD K r H d v → g d zs h Q0 →
  (∀ z' h' r' s' H', Q0 z' h' → Ext r H r' H' → RH K r' h' H' → RS K r' H' z' s' → L2.wipe s' vs = L2.wipe s vs → Q s' H') → gh v s H Q
def GWs (K : PySem.W.Frag) (vs : List Nat) (gh : TGs) (g : ZGs) : Prop := ∀ r h H zs s d v Q0 Q, RH K r h H → RS K r H zs s → RelDs K r H d v → g d zs h Q0 →
  (∀ z' h' r' s' H', Q0 z' h' → Ext r H r' H' → RH K r' h' H' → RS K r' H' z' s' → L2.wipe s' vs = L2.wipe s vs → Q s' H') → gh v s H Q
theorem gw_name {vs : List Nat} (i : Nat) (hi : i ∈ vs := by decide) : GW K vs (gName i) (zName i) := fun r h H zs s d v Q0 Q R S hd q u => u _ h r _ H q (.refl _ _) R (S.set hd i) (wipe_set hi)
theorem gws_nil {vs : List Nat} : GWs K vs gNil zgNil := fun r h H zs s d v Q0 Q R S hd q u => by
  cases d with
  | nil => exact ⟨hd, u zs h r s H q (.refl _ _) R S rfl⟩
  | cons _ _ => exact q.elim
theorem gws_cons {vs : List Nat} {gh : TG} {g : ZG} {ghs : TGs} {gs : ZGs} (h1 : GW K vs gh g) (h2 : GWs K vs ghs gs) : GWs K vs (gCons gh ghs) (zgCons g gs) := fun r h H zs s d v Q0 Q R S hd q u => by
  cases d with
  | nil => exact q.elim
  | cons d ds =>
    obtain ⟨v, ws, rfl, hv, hw⟩ := hd
    exact ⟨v, ws, rfl, h1 r h H zs s d v _ _ R S hv q fun z' h' r' s' H' q' E R' S' e => h2 r' h' H' z' s' ds ws Q0 Q R' S' (RelDs.mono E _ _ hw) q' fun z2 h2 r2 s2 H2 q2 E2 R2 S2 e2 => u z2 h2 r2 s2 H2 q2 (E.trans E2) R2 S2 (e2.trans e)⟩
theorem gw_tup {vs : List Nat} {n : Nat} {ghs : TGs} {gs : ZGs} (h1 : GWs K vs ghs gs) : GW K vs (gTup K n ghs) (zgTup n gs) := fun r h H zs s d v Q0 Q R S hd q u => by
  cases d with
  | tup ds =>
    obtain ⟨a, ws, rfl, h2, _, h3⟩ := hd
    exact ⟨a, ws, rfl, .of h2, by rw [← h3.length]; exact q.1, h1 r h H zs s ds ws Q0 Q R S h3 q.2 u⟩
  | tf ds =>
    obtain ⟨a, ws, rfl, ⟨o, h2, _⟩, _, h3⟩ := hd
    exact ⟨a, ws, rfl, .inl (.inr ⟨o, h2⟩), by rw [← h3.length]; exact q.1, h1 r h H zs s ds ws Q0 Q R S h3 q.2 u⟩
  | _ => exact q.elim
end
def zYes : ZT := fun _ h Q => Q true h
theorem zts_nil {X : Cx} : PTs X [] (liftT X.K zYes) := ⟨fun pins s σ H Q I ⟨r, zs, h, Q0, R, S, q, u⟩ => pts_nil.run pins s σ H Q I (u true h r H q (.refl _ _) R)⟩
theorem zts_one {X : Cx} {c : Expr} {t : ZT} (h : PZT X c t) : PTs X [c] (liftT X.K t) := pts_one h
def zLCL (m : Bool) (g : ZG) (tt : ZT) (te : ZE) (zs : ZS) : List D → List D → AH → ZK → Prop
  | [], acc, h, Q => newL m acc h Q
  | x :: xs, acc, h, Q => g x zs h fun z1 h1 => tt z1 h1 fun b h2 => match b with
    | true => te z1 h2 fun y h3 => acc.length < sizeLine ∧ zLCL m g tt te zs xs (acc ++ [y]) h3 Q
    | false => zLCL m g tt te zs xs acc h2 Q
def zLC (m : Bool) (zi : ZI) (g : ZG) (tt : ZT) (te : ZE) (vs : List Nat) : ZE := fun zs h Q => zi zs h fun ds h1 => zLCL m g tt te (zwipe zs vs) ds [] h1 Q
theorem set_wiped {s : L2.St} : ∀ {vs : List Nat} {w : Nat}, w ∈ vs → (L2.wipe s vs).set w none = L2.wipe s vs
  | v :: vs, w, hm => by
    show ((L2.wipe s vs).set v none).set w none = (L2.wipe s vs).set v none
    by_cases hwv : w = v
    · subst hwv; rw [List.set_set]
    · rw [List.set_comm _ _ (Ne.symm hwv), set_wiped ((List.mem_cons.mp hm).resolve_left hwv)]
theorem wipe_sub {s : L2.St} {vs : List Nat} : ∀ ws : List Nat, (∀ v ∈ ws, v ∈ vs) → L2.wipe (L2.wipe s vs) ws = L2.wipe s vs
  | [], _ => rfl
  | w :: ws, h => by
    show (L2.wipe (L2.wipe s vs) ws).set w none = L2.wipe s vs
    rw [wipe_sub ws fun v hv => h v (List.mem_cons_of_mem _ hv)]
    exact set_wiped (h w List.mem_cons_self)
theorem wipe_wipe {s : L2.St} {vs : List Nat} : L2.wipe (L2.wipe s vs) vs = L2.wipe s vs := wipe_sub vs fun _ h => h
theorem tr_enter {r : Wd} {H : Hp} {p : Addr} {o : HO} (hp : H p = none) : Tr r H ⟨r.r, p :: r.x⟩ (upd H p o) := ⟨fun _ _ z => z, fun b o' z y => ⟨by rw [upd_ne (ne_of_none z hp)]; exact z, y.1, fun w => by
  rcases List.mem_cons.mp w with w | w
  · exact ne_of_none z hp w
  · exact y.2 w⟩⟩
/-- a world with a list that is being made -/
theorem tr_put {r : Wd} {H : Hp} {p : Addr} {o : HO} (hp : p ∈ r.x) : Tr r H r (upd H p o) := ⟨fun _ _ e => e, fun a u e n => ⟨by rw [upd_ne (fun z : a = p => n.2 (by rw [z]; exact hp))]; exact e, n⟩⟩
theorem RH.priv {K : PySem.W.Frag} {r : Wd} {H : Hp} {h : AH} {p : Addr} {o : HO} (R : RH K r h H) (hp : p ∈ r.x) : RH K r h (upd H p o) :=
  ⟨R.len, R.nd, R.xs, fun n c e => by
    obtain ⟨a, h1, h2⟩ := R.cell n c e
    exact ⟨a, h1, h2.go (tr_put hp) (upd_ne fun z : a = p => R.xs p hp (by rw [← z]; exact List.mem_of_getElem? h1))⟩, fun a ha => by
    by_cases z : a = p
    · exact ⟨o, by rw [z, upd_same]⟩
    · obtain ⟨u, hu⟩ := R.px a ha
      exact ⟨u, by rw [upd_ne z]; exact hu⟩⟩
theorem up_lc {K : PySem.W.Frag} {m : Bool} {zi : ZI} {g : ZG} {gh : TG} {tt : ZT} {te : ZE} {vs : List Nat} (gw : GW K vs gh g) {s : L2.St} {H : Hp} {Q : VK} (q : liftE K (zLC m zi g tt te vs) s H Q) : tLc (liftI K zi) gh (liftT K tt) (liftE K te) vs s H Q := by
  obtain ⟨r, zs, h, Q0, R, S, q, u⟩ := q
  refine ⟨r, zs, h, _, R, S, q, fun ds h1 r1 H1 J q1 E1 R1 Wk p hp => ?_⟩
  have np : ∀ {a : Addr} {o : HO}, H1 a = some o → a ≠ p := fun e => ne_of_none e hp
  have S1 := (S.mono E1).wipe vs
  refine ⟨fun i n Hx => n = ds.length - i ∧ i ≤ ds.length ∧ ∃ r2 h2 acc va, Ext r1 H1 r2 Hx ∧ p ∈ r2.x ∧ p ∉ r2.r ∧ RH K r2 h2 Hx ∧ Hx p = some (.lst va) ∧ RelDs K r2 Hx acc va ∧ zLCL m g tt te (zwipe zs vs) (ds.drop i) acc h2 Q0,
    ⟨ds.length, by simp, Nat.zero_le _, ⟨r1.r, p :: r1.x⟩, h1, [], [], ?_, List.mem_cons_self, R1.new hp, ?_, upd_same, rfl, q1⟩, ?_⟩
  · exact ⟨⟨[], by simp⟩, fun a o e n => ⟨by rw [upd_ne (np e)]; exact e, n, fun z y => by
      rcases List.mem_cons.mp y with y | y
      · exact np e y
      · exact z y⟩, fun a ha => List.mem_cons_of_mem _ ha⟩
  · refine ⟨R1.len, R1.nd, fun a ha => ?_, fun n c e => ?_, fun a ha => ?_⟩
    · rcases List.mem_cons.mp ha with z | z
      · rw [z]; exact R1.new hp
      · exact R1.xs a z
    · obtain ⟨a, e1, e2⟩ := R1.cell n c e
      obtain ⟨o, ho⟩ := e2.there
      exact ⟨a, e1, e2.go (tr_enter hp) (upd_ne (np ho))⟩
    · rcases List.mem_cons.mp ha with z | z
      · exact ⟨_, by rw [z, upd_same]⟩
      · obtain ⟨o, ho⟩ := R1.px a z
        exact ⟨o, by rw [upd_ne (np ho)]; exact ho⟩
  · rintro i n Hx ⟨rfl, hi', r2, h2, acc, va, E2, hx2, hr2, R2, ep, D2, q2⟩
    by_cases hlt : i < ds.length
    · refine .inr ⟨Wk.goes i Hx hlt E2.keeps, fun H' => ∃ r3 h3 acc va, Ext r1 H1 r3 H' ∧ p ∈ r3.x ∧ p ∉ r3.r ∧ RH K r3 h3 H' ∧ H' p = some (.lst va) ∧ RelDs K r3 H' acc va ∧ zLCL m g tt te (zwipe zs vs) (ds.drop (i + 1)) acc h3 Q0, fun H' w => ⟨ds.length - (i + 1), by omega, rfl, hlt, w⟩, fun x H' y => ?_⟩
      obtain ⟨d, hd, yd⟩ := Wk.yields i Hx x H' hlt E2.keeps y
      obtain ⟨E3, R3, D3⟩ := yd.go E2.tr R2
      have e : ds.drop i = d :: ds.drop (i + 1) := by
        rw [List.drop_eq_getElem_cons hlt]
        rw [List.getElem?_eq_getElem hlt] at hd
        cases hd; rfl
      rw [e] at q2
      refine gw r2 h2 H' (zwipe zs vs) (L2.wipe s vs) d x _ _ R3 (S1.mono (E2.trans E3)) D3 q2 fun z4 h4 r4 s4 H4 q4 E4 R4 S4 ew => ⟨?_, r4, z4, h4, _, R4, S4, q4, fun b h5 r5 H5 q5 E5 R5 => ?_⟩
      · rw [ew, wipe_wipe]
      · have EE : Ext r2 Hx r5 H5 := E3.trans (E4.trans E5)
        have kp := EE.keep p _ ep hr2
        cases b with
        | false =>
          refine iteF ?_
          exact ⟨r5, h5, acc, va, E2.trans EE, EE.px p hx2, kp.2.1, R5, kp.1, RelDs.mono EE _ _ D2, q5⟩
        | true =>
          refine iteT ?_
          refine ⟨r5, z4, h5, _, R5, S4.mono E5, q5, fun y h6 r6 v6 H6 q6 E6 R6 D6 => ?_⟩
          have E7 : Ext r2 Hx r6 H6 := EE.trans E6
          have k7 := E7.keep p _ ep hr2
          have hx6 := E7.px p hx2
          have Da := RelDs.mono E7 _ _ D2
          refine ⟨va, k7.1, by rw [← Da.length]; exact q6.1, r6, h6, acc ++ [y], va ++ [v6], ?_, hx6, k7.2.1, R6.priv hx6, upd_same, RelDs.go (tr_put hx6) _ _ (Da.append (.one D6)), q6.2⟩
          have E8 := E2.trans E7
          exact ⟨E8.pre, fun a o ea na => by
            have z := E8.keep a o ea na
            exact ⟨by rw [upd_ne (np ea)]; exact z.1, z.2⟩, E8.px⟩
    · have e : i = ds.length := by omega
      subst e
      rw [List.drop_length] at q2
      refine .inl ⟨Wk.stops Hx E2.keeps, ?_⟩
      have px1 : p ∉ r1.x := fun z => by
        obtain ⟨o, ho⟩ := R1.px p z
        exact np ho rfl
      cases m with
      | false =>
        have q2 : Q0 (.lst acc) h2 := q2
        have T : Tr r2 Hx ⟨r2.r, r1.x⟩ Hx := ⟨fun _ _ z => z, fun a o z y => ⟨z, y.1, fun w => y.2 (E2.px a w)⟩⟩
        refine u (.lst acc) h2 ⟨r2.r, r1.x⟩ _ Hx q2 (E1.trans ⟨E2.pre, fun a o ea na => ⟨(E2.keep a o ea na).1, (E2.keep a o ea na).2.1, fun z => z⟩, fun a z => z⟩) ?_ ⟨p, va, rfl, ep, ⟨hr2, px1⟩, RelDs.go T _ _ D2⟩
        exact ⟨R2.len, R2.nd, fun a z => R2.xs a (E2.px a z), fun n c e => by
          obtain ⟨a, e1, e2⟩ := R2.cell n c e
          exact ⟨a, e1, e2.go T rfl⟩, fun a z => R2.px a (E2.px a z)⟩
      | true =>
        have q2 : Q0 (.obj h2.length) (h2 ++ [.lst acc]) := q2
        have T : Tr r2 Hx ⟨r2.r ++ [p], r1.x⟩ Hx := ⟨fun n a z => by
          show (r2.r ++ [p])[n]? = some a
          rw [List.getElem?_append_left (List.getElem?_eq_some_iff.mp z).1]; exact z, fun a o z y => ⟨z, fun w => by
          rcases List.mem_append.mp w with w | w
          · exact y.1 w
          · exact y.2 (by have : a = p := by simpa using w
                          rw [this]; exact hx2), fun w => y.2 (E2.px a w)⟩⟩
        have hl := R2.len
        refine u (.obj h2.length) (h2 ++ [.lst acc]) ⟨r2.r ++ [p], r1.x⟩ _ Hx q2 (E1.trans ⟨?_, fun a o ea na => ⟨(E2.keep a o ea na).1, fun w => ?_, fun z => z⟩, fun a z => z⟩) ?_ ⟨p, rfl, ?_⟩
        · obtain ⟨mo, em⟩ := E2.pre
          exact ⟨mo ++ [p], by rw [em, List.append_assoc]⟩
        · rcases List.mem_append.mp w with w | w
          · exact (E2.keep a o ea na).2.1 w
          · exact np ea (by simpa using w)
        · refine ⟨by simp [hl], nodup_push R2.nd hr2, fun a z w => ?_, fun n c e => ?_, fun a z => R2.px a (E2.px a z)⟩
          · rcases List.mem_append.mp w with w | w
            · exact R2.xs a (E2.px a z) w
            · exact px1 (by have : a = p := by simpa using w
                            rw [← this]; exact z)
          · by_cases hn : n < h2.length
            · rw [List.getElem?_append_left hn] at e
              obtain ⟨a, e1, e2⟩ := R2.cell n c e
              exact ⟨a, T.get n a e1, e2.go T rfl⟩
            · have hn' : n = h2.length := by
                have := (List.getElem?_eq_some_iff.mp e).1
                simp at this
                omega
              subst hn'
              rw [List.getElem?_append_right (Nat.le_refl _), Nat.sub_self] at e
              have e' : Cl.lst acc = c := by simpa using e
              subst e'
              refine ⟨p, ?_, va, ep, RelDs.go T _ _ D2⟩
              show (r2.r ++ [p])[h2.length]? = some p
              rw [← hl, List.getElem?_append_right (Nat.le_refl _), Nat.sub_self]; rfl
        · show (r2.r ++ [p])[h2.length]? = some p
          rw [← hl, List.getElem?_append_right (Nat.le_refl _), Nat.sub_self]; rfl
section
variable {X : Cx}
theorem z_lc (m : Bool) {elt tg iter : Expr} {ifs : List Expr} {scope : Scope} {own : List (Str × Nat)} {pos : Pos} {zi : ZI} {gh : TG} {g : ZG} {tt : ZT} {te : ZE} (hc : X.calm = true) (hN : X.N.Nodup) (hi : PZI X tg iter zi) (ok : BlkOk X.N X.env.scope scope own)
    (hg : ∀ (s : Shared) (H : Hp) (C : Addr) (cl : List (Str × Addr)) (fp : List Addr), PG (X.blk s H scope (compEnvC scope cl C X.env) fp) tg gh) (gw : GW X.K (own.map (·.2)) gh g)
    (ht : ∀ (s : Shared) (H : Hp) (C : Addr) (cl : List (Str × Addr)) (fp : List Addr), PTs (X.blk s H scope (compEnvC scope cl C X.env) fp) ifs (liftT X.K tt))
    (he : ∀ (s : Shared) (H : Hp) (C : Addr) (cl : List (Str × Addr)) (fp : List Addr), PZ (X.blk s H scope (compEnvC scope cl C X.env) fp) elt te) (hs : ∀ x, foldedSetIterable iter X.env x = pure x := by intro _; rfl) :
    PZ X (.ListComp elt [⟨tg, iter, ifs, 0⟩] scope pos) (zLC m zi g tt te (own.map (·.2))) := PEimp (pe_lc hc hN hi ok hg ht he hs) fun _ _ _ q => up_lc gw q
/-- name = [..] on one line, the name a local -/
theorem zs_setLc (m : Bool) (i : Nat) {y : Str} {py : Pos} {elt tg iter : Expr} {ifs : List Expr} {scope : Scope} {own : List (Str × Nat)} {pos spos : Pos} {zi : ZI} {gh : TG} {g : ZG} {tt : ZT} {te : ZE} (hc : X.calm = true) (hN : X.N.Nodup)
    (hsw : swapsWith (.ListComp elt [⟨tg, iter, ifs, 0⟩] scope pos) (some (.Name y py)) spos.line X.env = pure true) (hi : PZI X tg iter zi) (ok : BlkOk X.N X.env.scope scope own)
    (hg : ∀ (s : Shared) (H : Hp) (C : Addr) (cl : List (Str × Addr)) (fp : List Addr), PG (X.blk s H scope (compEnvC scope cl C X.env) fp) tg gh) (gw : GW X.K (own.map (·.2)) gh g)
    (ht : ∀ (s : Shared) (H : Hp) (C : Addr) (cl : List (Str × Addr)) (fp : List Addr), PTs (X.blk s H scope (compEnvC scope cl C X.env) fp) ifs (liftT X.K tt))
    (he : ∀ (s : Shared) (H : Hp) (C : Addr) (cl : List (Str × Addr)) (fp : List Addr), PZ (X.blk s H scope (compEnvC scope cl C X.env) fp) elt te) (hy : X.N[i]? = some y := by rfl) (hyl : X.env.scope.names.lookup y = some .local := by rfl) (hs : ∀ x, foldedSetIterable iter X.env x = pure x := by intro _; rfl) :
    PZS X (.Assign [.Name y py] (.ListComp elt [⟨tg, iter, ifs, 0⟩] scope pos) spos) (zAsg (zLC m zi g tt te (own.map (·.2))) (zName i)) := PSimp (ps_setLc hc hN hy hyl hsw hi ok hg ht he hs) fun D s H ⟨r, zs, h, D0, R, S, q, u⟩ =>
  up_lc (Q := fun x H1 => gName i x s H1 D.nx) gw ⟨r, zs, h, _, R, S, q, fun dx h1 r1 v1 H1 q1 E1 R1 D1 => u.nx _ h1 r1 _ H1 q1 E1 R1 ((S.mono E1).set D1 i)⟩
end
/-! ### defs and calls -/
/-- an exception: its class, its fields (none: no dict of its own) -/
structure XD where
  C : Addr
  fs : Option (List Str × List D)
def RelX (K : PySem.W.Frag) (r : Wd) (H : Hp) (x : XD) (cls : Value) (d : Option Addr) : Prop := cls = .ref x.C ∧ match x.fs with
  | none => d = none
  | some (ns, ds) => ∃ dx vs, d = some dx ∧ H dx = some (.xd (ns.zip vs)) ∧ Out r dx ∧ ns.length = vs.length ∧ RelDs K r H ds vs
abbrev ZX := XD → AH → Prop
abbrev ZSp := List D → AH → ZK → ZX → Prop
def UpX (K : PySem.W.Frag) (r : Wd) (H : Hp) (E0 : ZX) (E : XK) : Prop := ∀ x h' r' cls d H', E0 x h' → Ext r H r' H' → RH K r' h' H' → RelX K r' H' x cls d → E cls d H'
def liftSp (K : PySem.W.Frag) (sp : ZSp) : Sp := fun vs H Q E => ∃ r ds h Q0 E0, RH K r h H ∧ RelDs K r H ds vs ∧ sp ds h Q0 E0 ∧ UpQ K r H Q0 Q ∧ UpX K r H E0 E
abbrev ZX0 : ZX := fun _ _ => False
def zCall (sp : ZSp) (t : ZA) : ZE := fun zs h Q => t zs h fun ds h1 => sp ds h1 Q ZX0
theorem up_call {K : PySem.W.Frag} {sp : ZSp} {t : ZA} {s : L2.St} {H : Hp} {Q : VK} (q : liftE K (zCall sp t) s H Q) : tCall (liftSp K sp) [] E0 (liftA K t) s H Q := by
  obtain ⟨r, zs, h, Q0, R, S, q, u⟩ := q
  exact ⟨r, zs, h, _, R, S, q, fun ds h1 r1 vs H1 q1 E1 R1 D1 => by show liftSp K sp (vs ++ []) H1 Q E0; rw [List.append_nil]; exact ⟨r1, ds, h1, Q0, ZX0, R1, D1, q1, u.ext E1, fun x h' r' cls d H' z => z.elim⟩⟩
/-- a def as its callers know it -/
structure Cal (P : Program) (w : World) (K : PySem.W.Frag) (mg : Str → Option Value) (base : Heap) (k : Nat) (x : Str) (f : Addr) (fd : FuncData) (ps : List Str) (sp : ZSp) : Prop where
  ok : FnOk P w K mg base (L2.CX P w) k f fd ps (liftSp K sp)
  mg : mg x = some (.ref f)
  kp : PySem.W.keepIn K (.ref f) = true
  bd : Binds K fd ps []
section
variable {X : Cx} {k : Nat} {f : Addr} {fd : FuncData} {ps : List Str} {sp : ZSp} {x : Str} {p pos : Pos} {e : Expr} {es : List Expr} {t : ZA}
theorem z_call (c : Cal X.prog X.w X.K X.mg X.base k x f fd ps sp) (hr : Room k X.A) (ha : PZA X (e :: es) t) (hg : Gl X x := by rfl) (hdb : (x == ("__debug__" : Str)) = false := by decide) (he : starEach (e :: es) X.env = (false, eval e X.env) :: starEach es X.env := by rfl) (hpl : (backTo pos (starEach es X.env)).any (·.1) = false := by rfl) :
    PZ X (.Call (.Name x p) (e :: es) [] pos) (zCall sp t) := PEimp (pe_call c.ok hr hg c.mg c.kp c.bd .nil passL ha hdb he hpl) fun _ _ _ q => up_call q
theorem z_call0 (c : Cal X.prog X.w X.K X.mg X.base k x f fd ps sp) (hr : Room k X.A) (hg : Gl X x := by rfl) (hdb : (x == ("__debug__" : Str)) = false := by decide) :
    PZ X (.Call (.Name x p) [] [] pos) (zCall sp zNil) := PEimp (pe_call0 c.ok hr hg c.mg c.kp c.bd .nil passL hdb) fun s H Q ⟨r, zs, h, Q0, R, S, q, u⟩ => ⟨r, [], h, Q0, ZX0, R, rfl, q, u, fun x h' r' cls d H' z => z.elim⟩
end
/-- the slots at a def's entry -/
def zstart (N : List Str) (ds : List D) : ZS := ds.map some ++ List.replicate (N.length - ds.length) none
theorem RS.start {K : PySem.W.Frag} {r : Wd} {H : Hp} {N : List Str} {ds : List D} {vs : List V} (h : RelDs K r H ds vs) : RS K r H (zstart N ds) (L2.start N vs) := by
  have hl := h.length
  refine ⟨by simp [zstart, L2.start, hl], fun i d e => ?_⟩
  unfold zstart at e
  unfold L2.start
  by_cases hi : i < ds.length
  · rw [List.getElem?_append_left (by simpa using hi), List.getElem?_map] at e
    rw [List.getElem?_append_left (by simpa [← hl] using hi), List.getElem?_map]
    cases q : ds[i]? with
    | none => rw [q] at e; simp at e
    | some d' =>
      rw [q] at e
      have e : d' = d := by simpa using e
      subst e
      obtain ⟨v, h1, h2⟩ := h.get q
      exact ⟨v, by rw [h1]; rfl, h2⟩
  · rw [List.getElem?_append_right (by simpa using hi)] at e
    have := List.mem_of_getElem? e
    rw [List.mem_replicate] at this
    cases this.2
theorem FnOk.any {P : Program} {w : World} {K : PySem.W.Frag} {mg : Str → Option Value} {base : Heap} {CX : CXT} {k : Nat} {f : Addr} {fd : FuncData} {ps : List Str} {sp : Sp} (F : FnOk P w K mg base CX0 k f fd ps sp) : FnOk P w K mg base CX k f fd ps sp :=
  ⟨F.len, fun A outer s H args us vs Q E hr he hb hv hs => codeAny_mono (F.run A outer s H args us vs Q E hr he hb hv hs) fun r s' h => by
    cases r with
    | error e => exact False.elim h
    | ok fl => cases fl <;> exact h⟩
section
variable {P : Program} {w : World} {K : PySem.W.Frag} {mg : Str → Option Value} {base : Heap}
/-- THE RULE for a def that lets nothing out -/
theorem zfun {x qual : Str} {st : Stmt} {f : Addr} {fd : FuncData} {N ps : List Str} {k : Nat} {sp : ZSp} (F : Fun K x qual st f fd) (S : FnScope N ps (defScope st)) (len : ∀ ds h Q E, sp ds h Q E → ds.length = ps.length)
    (hbody : ∀ (cdv : Value) (A : Around) (outer : List Env) (s : Shared) (H : Hp) (E : XK), Room k (A.deeper (envOfC qual (defScope st) s.heap.objs.size f cdv)) →
      ∃ t, PZSs (cxOf CX0 P w K mg base N qual (defScope st) f cdv A outer s H E).nox (defBody st) t ∧
        ∀ ds h Q0 E0, sp ds h Q0 E0 → WfH h → D.cls h.length ds = true → t { nx := fun _ h' => Exit h.length Q0 .non h', rt := Exit h.length Q0 } (zstart N ds) h) : FnOk P w K mg base (L2.CX P w) (k + 1) f fd ps (liftSp K sp) := by
  refine FnOk.any (F.ok S (fun vs H Q E ⟨r, ds, h, Q0, E0, R, D1, q, _⟩ => by rw [← D1.length]; exact len ds h Q0 E0 q) fun cdv A outer s H vs Q E hr ⟨r, ds, h, Q0, E0, R, D1, q, u, _⟩ => ?_)
  obtain ⟨t, h1, h2⟩ := hbody cdv A outer s H E hr
  refine ⟨_, h1, r, zstart N ds, h, _, R, RS.start D1, h2 ds h Q0 E0 q R.wf (by rw [← R.len]; exact RelDs.cl _ _ D1), ?_⟩
  exact ⟨fun zs h' r' s' H' q' E' R' S' => Exit.up R u .non h' r' .non H' q' E' R' rfl, Exit.up R u, fun _ _ _ _ _ z => z.elim, fun _ _ _ _ _ z => z.elim⟩
end
end Z
/-! Z4: operators, built-ins, items by values. -/
namespace Z
open PySem PySem.Spec PyProof.Rows L2
def lsM (h : AH) : D → Option (List D)
  | .lst ds => some ds
  | .obj n => match h[n]? with
    | some (.lst ds) => some ds
    | _ => none
  | _ => none
def lsR (h : AH) : D → Option (List D)
  | .fz ds => some ds
  | d => lsM h d
def sqR (h : AH) : D → Option (List D)
  | .tup ds => some ds
  | .kt ds => some ds
  | .tf ds => some ds
  | d => lsR h d
section
variable {K : PySem.W.Frag} {r : Wd} {h : AH} {H : Hp} {d : D} {v : V} {ds : List D}
theorem lsM_ok (R : RH K r h H) (hv : RelD K r H d v) (e : lsM h d = some ds) : ∃ a vs, v = .ref a ∧ H a = some (.lst vs) ∧ RelDs K r H ds vs := by
  unfold lsM at e
  split at e
  · cases e
    obtain ⟨a, vs, rfl, h1, _, h2⟩ := hv
    exact ⟨a, vs, rfl, h1, h2⟩
  · split at e
    · rename_i q
      cases e
      obtain ⟨a, rfl, _, vs, h1, h2⟩ := R.get q hv
      exact ⟨a, vs, rfl, h1, h2⟩
    · cases e
  · cases e
theorem lsR_ok (R : RH K r h H) (hv : RelD K r H d v) (e : lsR h d = some ds) : ∃ a vs, v = .ref a ∧ SqL K H a vs ∧ RelDs K r H ds vs := by
  unfold lsR at e
  split at e
  · cases e
    obtain ⟨a, vs, rfl, h1, h2⟩ := hv
    exact ⟨a, vs, rfl, h1.sq, h2⟩
  · obtain ⟨a, vs, rfl, h1, h2⟩ := lsM_ok R hv e
    exact ⟨a, vs, rfl, .of h1, h2⟩
theorem sqR_ok (R : RH K r h H) (hv : RelD K r H d v) (e : sqR h d = some ds) : ∃ a vs, v = .ref a ∧ (SqL K H a vs ∨ SqT K H a vs) ∧ RelDs K r H ds vs := by
  unfold sqR at e
  split at e
  · cases e
    obtain ⟨a, vs, rfl, h1, _, h2⟩ := hv
    exact ⟨a, vs, rfl, .inr (.of h1), h2⟩
  · cases e
    obtain ⟨a, vs, rfl, h1, h2⟩ := hv
    exact ⟨a, vs, rfl, .inr (sqT_k h1), h2⟩
  · cases e
    obtain ⟨a, vs, rfl, ⟨o, h1, _⟩, _, h2⟩ := hv
    exact ⟨a, vs, rfl, .inr (.inl (.inr ⟨o, h1⟩)), h2⟩
  · obtain ⟨a, vs, rfl, h1, h2⟩ := lsR_ok R hv e
    exact ⟨a, vs, rfl, .inl h1, h2⟩
end
/-! ### ints -/
def zI2 (f : Int → Int → D) : Z2 := fun x y h Q => match x, y with
  | .int i, .int j => Q (f i j) h
  | _, _ => False
def zI2C (C : Int → Int → Prop) (f : Int → Int → D) : Z2 := fun x y h Q => match x, y with
  | .int i, .int j => C i j ∧ Q (f i j) h
  | _, _ => False
section
variable {K : PySem.W.Frag}
theorem lI2 {f : Int → Int → D} {g : Int → Int → V} (hf : ∀ r H i j, RelD K r H (f i j) (g i j)) : R2Z K (rI0 g) (zI2 f) := fun r h H x y dx dy Q Q0 R hx hy q u => by
  unfold zI2 at q
  split at q
  · have hx : x = .int _ := hx
    have hy : y = .int _ := hy
    exact ⟨_, _, hx, hy, u _ h r _ H q (.refl _ _) R (hf _ _ _ _)⟩
  · exact q.elim
theorem lI2C {C C' : Int → Int → Prop} {f : Int → Int → D} {g : Int → Int → V} (hC : ∀ i j, C' i j → C i j) (hf : ∀ r H i j, RelD K r H (f i j) (g i j)) : R2Z K (rI C g) (zI2C C' f) := fun r h H x y dx dy Q Q0 R hx hy q u => by
  unfold zI2C at q
  split at q
  · have hx : x = .int _ := hx
    have hy : y = .int _ := hy
    exact ⟨_, _, hx, hy, hC _ _ q.1, u _ h r _ H q.2 (.refl _ _) R (hf _ _ _ _)⟩
  · exact q.elim
/-- two readings in one: each pair of values goes its own way -/
def zAdd (m : Bool) : Z2 := fun x y h Q => match x, y with
  | .int i, .int j => Q (.int (i + j)) h
  | .str s, .str t => s.length + t.length ≤ sizeLine ∧ Q (.str (s ++ t)) h
  | .tup xs, .tup ys => xs.length + ys.length ≤ sizeLine ∧ Q (.tup (xs ++ ys)) h
  | x, y => match lsM h x, lsM h y with
    | some xs, some ys => xs.length + ys.length ≤ sizeLine ∧ newL m (xs ++ ys) h Q
    | _, _ => False
def rAddAll (K : PySem.W.Frag) : R2 := fun x y H Q => ((((∃ i j, x = .int i ∧ y = .int j ∧ Q (.int (i + j)) H) ∨ (∃ i j, x = .str i ∧ y = .str j ∧ i.length + j.length ≤ sizeLine ∧ Q (.str (i ++ j)) H)) ∨ rCatA K x y H Q) ∨ rCat x y H Q)
theorem op_addAll {X : Cx} : OpR X (binaryOp .Add) (rAddAll X.K) := OpR.or (OpR.or (OpR.or op_add op_add_str) op_catA) op_cat
theorem l_add (m : Bool) : R2Z K (rAddAll K) (zAdd m) := fun r h H x y dx dy Q Q0 R hx hy q u => by
  unfold zAdd at q
  split at q
  · have hx : x = .int _ := hx
    have hy : y = .int _ := hy
    exact .inl (.inl (.inl ⟨_, _, hx, hy, u _ h r _ H q (.refl _ _) R rfl⟩))
  · have hx : x = .str _ := hx
    have hy : y = .str _ := hy
    exact .inl (.inl (.inr ⟨_, _, hx, hy, q.1, u _ h r _ H q.2 (.refl _ _) R rfl⟩))
  · rename_i xs ys
    obtain ⟨a, vs, rfl, h1, o1, h2⟩ := hx
    obtain ⟨b, ws, rfl, h3, o2, h4⟩ := hy
    refine .inl (.inr ⟨a, b, vs, ws, rfl, rfl, .of h1, .of h3, by rw [← h2.length, ← h4.length]; exact q.1, fun e => ?_, fun _ e => ?_, fun _ _ p hp => ?_⟩)
    · subst e
      have e : xs = [] := List.length_eq_zero_iff.mp h2.length
      subst e
      exact u _ h r _ H q.2 (.refl _ _) R ⟨b, ws, rfl, h3, o2, h4⟩
    · subst e
      have e : ys = [] := List.length_eq_zero_iff.mp h4.length
      subst e
      rw [List.append_nil] at q
      exact u _ h r _ H q.2 (.refl _ _) R ⟨a, vs, rfl, h1, o1, h2⟩
    · exact u _ h r _ _ q.2 (Ext.laid R hp) (R.laid hp) ⟨p, _, rfl, upd_same, R.out hp, RelDs.mono (Ext.laid R hp) _ _ (h2.append h4)⟩
  · split at q
    · rename_i e1 e2
      obtain ⟨a, vs, rfl, h1, h2⟩ := lsM_ok R hx e1
      obtain ⟨b, ws, rfl, h3, h4⟩ := lsM_ok R hy e2
      exact .inr ⟨a, b, vs, ws, rfl, rfl, h1, h3, by rw [← h2.length, ← h4.length]; exact q.1, fun p hp => up_newL R (h2.append h4) q.2 u hp⟩
    · exact q.elim
def MulOk (i j : Int) : Prop := CMul i j ∨ CMulW i j
def zMul (m : Bool) : Z2 := fun x y h Q => match x, y with
  | .int i, .int j => MulOk i j ∧ Q (.int (i * j)) h
  | x, .int k => match lsM h x with
    | some xs => -(2 ^ 63) ≤ k ∧ k < 2 ^ 63 ∧ xs.length * k.toNat ≤ sizeLine ∧ newL m (List.replicate k.toNat xs).flatten h Q
    | _ => False
  | _, _ => False
def rMulAll : R2 := fun x y H Q => ((rI CMul (fun i j => .int (i * j)) x y H Q ∨ rI CMulW (fun i j => .int (i * j)) x y H Q) ∨ rRep x y H Q)
theorem op_mulAll {X : Cx} : OpR X (binaryOp .Mult) rMulAll := OpR.or (OpR.or op_mul op_mulW) op_rep
theorem RelDs.flat {r : Wd} {H : Hp} {ds : List D} {vs : List V} (h : RelDs K r H ds vs) : ∀ n : Nat, RelDs K r H (List.replicate n ds).flatten (List.replicate n vs).flatten
  | 0 => rfl
  | n + 1 => by
    rw [List.replicate_succ, List.replicate_succ, List.flatten_cons, List.flatten_cons]
    exact h.append (RelDs.flat h n)
theorem l_mul (m : Bool) : R2Z K rMulAll (zMul m) := fun r h H x y dx dy Q Q0 R hx hy q u => by
  unfold zMul at q
  split at q
  · have hx : x = .int _ := hx
    have hy : y = .int _ := hy
    rcases q.1 with c | c
    · exact .inl (.inl ⟨_, _, hx, hy, c, u _ h r _ H q.2 (.refl _ _) R rfl⟩)
    · exact .inl (.inr ⟨_, _, hx, hy, c, u _ h r _ H q.2 (.refl _ _) R rfl⟩)
  · have hy : y = .int _ := hy
    split at q
    · rename_i e1
      obtain ⟨a, vs, rfl, h1, h2⟩ := lsM_ok R hx e1
      exact .inr ⟨a, _, vs, rfl, hy, h1, q.1, q.2.1, by rw [← h2.length]; exact q.2.2.1, fun p hp => up_newL R (h2.flat _) q.2.2.2 u hp⟩
    · exact q.elim
  · exact q.elim
def zSub : Z2 := zI2 fun i j => .int (i - j)
def DivOk (_ j : Int) : Prop := 0 < j ∧ j.natAbs.log2 < 9000
def zMod : Z2 := zI2C (fun _ j => 0 < j) fun i j => .int (i % j)
def zFdiv : Z2 := zI2C DivOk fun i j => .int (i / j)
def zPow : Z2 := zI2C CPow fun i j => .int (i ^ j.toNat)
theorem l_sub : R2Z K (rI0 fun i j => .int (i - j)) zSub := lI2 fun _ _ _ _ => rfl
theorem l_mod : R2Z K (rI (fun _ j => 0 < j) fun i j => .int (i % j)) zMod := lI2C (fun _ _ h => h) fun _ _ _ _ => rfl
theorem l_fdiv : R2Z K (rI CDivW fun i j => .int (i / j)) zFdiv := lI2C (fun _ _ h => h) fun _ _ _ _ => rfl
theorem l_pow : R2Z K (rI CPow fun i j => .int (i ^ j.toNat)) zPow := lI2C (fun _ _ h => h) fun _ _ _ _ => rfl
def zNeg : Z1 := fun x h Q => match x with
  | .int i => Q (.int (-i)) h
  | _ => False
theorem l_neg : R1Z K (rU fun i => .int (-i)) zNeg := fun r h H x dx Q Q0 R hx q u => by
  unfold zNeg at q
  split at q
  · have hx : x = .int _ := hx
    exact ⟨_, hx, u _ h r _ H q (.refl _ _) R rfl⟩
  · exact q.elim
/-! ### comparisons -/
def dints : List D → Option (List Int)
  | [] => some []
  | .int i :: ds => match dints ds with
    | some ns => some (i :: ns)
    | none => none
  | _ => none
theorem dints_ok {r : Wd} {H : Hp} : ∀ (ds : List D) {vs : List V} {ns : List Int}, RelDs K r H ds vs → dints ds = some ns → vs = ns.map V.int := by
  intro ds
  induction ds with
  | nil =>
    intro vs ns h e
    have h : vs = [] := h
    have e : some ([] : List Int) = some ns := e
    cases e
    exact h
  | cons d ds ih =>
    intro vs ns h e
    obtain ⟨v, ws, rfl, h1, h2⟩ := h
    cases d with
    | int i =>
      have h1 : v = .int i := h1
      have e : (match dints ds with | some ns => some (i :: ns) | none => none) = some ns := e
      cases q : dints ds with
      | none => rw [q] at e; cases e
      | some ms =>
        rw [q] at e
        have e : some (i :: ms) = some ns := e
        cases e
        rw [h1, ih h2 q]; rfl
    | _ =>
      have e : (none : Option (List Int)) = some ns := e
      cases e
theorem dints_map : ∀ ns : List Int, dints (ns.map D.int) = some ns
  | [] => rfl
  | n :: ns => by
    show (match dints (ns.map D.int) with | some ms => some (n :: ms) | none => none) = some (n :: ns)
    rw [dints_map ns]
def zLt : Z2 := zI2 fun i j => .bl (decide (i < j))
def zGt : Z2 := zI2 fun i j => .bl (decide (j < i))
def zGe : Z2 := zI2 fun i j => .bl (decide (j ≤ i))
def zLe : Z2 := fun x y h Q => match x, y with
  | .int i, .int j => Q (.bl (decide (i ≤ j))) h
  | .tup xs, .tup ys => match dints xs, dints ys with
    | some ns, some ms => Q (.bl (lexLeI ns ms)) h
    | _, _ => False
  | _, _ => False
theorem l_lt : R2Z K (rI0 fun i j => .bl (decide (i < j))) zLt := lI2 fun _ _ _ _ => rfl
theorem l_gt : R2Z K (rI0 fun i j => .bl (decide (j < i))) zGt := lI2 fun _ _ _ _ => rfl
theorem l_ge : R2Z K (rI0 fun i j => .bl (decide (j ≤ i))) zGe := lI2 fun _ _ _ _ => rfl
def zIsN : Z2 := fun x y h Q => match x, y with
  | .non, .non => Q (.bl true) h
  | _, .non => Q (.bl false) h
  | _, _ => False
def zNotN : Z2 := fun x y h Q => match x, y with
  | .non, .non => Q (.bl false) h
  | _, .non => Q (.bl true) h
  | _, _ => False
theorem RelD.non_iff {r : Wd} {H : Hp} {d : D} {v : V} (h : RelD K r H d v) (n : d ≠ .non) : v ≠ .non := fun e => by
  subst e
  cases d with
  | non => exact n rfl
  | bl _ => exact absurd (show V.non = V.bl _ from h) (by simp)
  | int _ => exact absurd (show V.non = V.int _ from h) (by simp)
  | str _ => exact absurd (show V.non = V.str _ from h) (by simp)
  | ty _ => exact absurd (show V.non = V.ty _ from h) (by simp)
  | glb _ => exact absurd (show V.non = V.ref _ from h) (by simp)
  | obj _ => obtain ⟨_, e, _⟩ := h; cases e
  | tup _ => obtain ⟨_, _, e, _⟩ := h; cases e
  | lst _ => obtain ⟨_, _, e, _⟩ := h; cases e
  | fz _ => obtain ⟨_, _, e, _⟩ := h; cases e
  | kt _ => obtain ⟨_, _, e, _⟩ := h; cases e
  | tf _ => obtain ⟨_, _, e, _⟩ := h; cases e
  | dK _ _ => obtain ⟨_, _, e, _⟩ := h; cases e
  | dT _ _ => obtain ⟨_, _, e, _⟩ := h; cases e
theorem l_isN : R2Z K (fun x y H Q => y = .non ∧ Q (.bl (decide (x = .non))) H) zIsN := fun r h H x y dx dy Q Q0 R hx hy q u => by
  unfold zIsN at q
  split at q
  · have hx : x = .non := hx
    subst hx
    exact ⟨hy, u _ h r _ H q (.refl _ _) R rfl⟩
  · rename_i d n
    refine ⟨hy, ?_⟩
    rw [decide_eq_false (RelD.non_iff hx n)]
    exact u _ h r _ H q (.refl _ _) R rfl
  · exact q.elim
theorem l_notN : R2Z K (fun x y H Q => y = .non ∧ Q (.bl (!decide (x = .non))) H) zNotN := fun r h H x y dx dy Q Q0 R hx hy q u => by
  unfold zNotN at q
  split at q
  · have hx : x = .non := hx
    subst hx
    exact ⟨hy, u _ h r _ H q (.refl _ _) R rfl⟩
  · rename_i d n
    refine ⟨hy, ?_⟩
    rw [decide_eq_false (RelD.non_iff hx n)]
    exact u _ h r _ H q (.refl _ _) R rfl
  · exact q.elim
/-! ### data: ==, in -/
mutual
def D.pd : D → Option PyData
  | .non => some .none
  | .bl b => some (.bool b)
  | .int i => some (.int i)
  | .str x => some (.str x)
  | .tup xs => match D.pds xs with
    | some ys => some (.tuple ys)
    | none => none
  | .lst xs => match D.pds xs with
    | some ys => some (.list ys)
    | none => none
  | .fz xs => match D.pds xs with
    | some ys => some (.list ys)
    | none => none
  | .kt xs => match D.pds xs with
    | some ys => some (.tuple ys)
    | none => none
  | .tf xs => match D.pds xs with
    | some ys => some (.tuple ys)
    | none => none
  | _ => none
def D.pds : List D → Option (List PyData)
  | [] => some []
  | x :: xs => match D.pd x, D.pds xs with
    | some y, some ys => some (y :: ys)
    | _, _ => none
end
def pdH (h : AH) : D → Option PyData
  | .obj n => match h[n]? with
    | some (.lst ds) => match D.pds ds with
      | some ys => some (.list ys)
      | none => none
    | _ => none
  | d => d.pd
section
variable {r : Wd} {h : AH} {H : Hp}
mutual
theorem pd_ok : ∀ (d : D) (v : V) (e : PyData), RelD K r H d v → d.pd = some e → Dp K H v e
  | .non, v, e, q, w => by
    have q : v = .non := q
    subst q; cases w; exact .non
  | .bl b, v, e, q, w => by
    have q : v = .bl b := q
    subst q; cases w; exact .bl b
  | .int b, v, e, q, w => by
    have q : v = .int b := q
    subst q; cases w; exact .int b
  | .str b, v, e, q, w => by
    have q : v = .str b := q
    subst q; cases w; exact .str b
  | .ty _, v, e, q, w => by cases w
  | .glb _, v, e, q, w => by cases w
  | .obj _, v, e, q, w => by cases w
  | .dK _ _, v, e, q, w => by cases w
  | .dT _ _, v, e, q, w => by cases w
  | .tup ds, v, e, q, w => by
    obtain ⟨a, vs, rfl, h1, _, h2⟩ := q
    unfold D.pd at w
    split at w
    · rename_i ys e2
      cases w
      exact .tup (.of h1) (pds_ok ds vs ys h2 e2)
    · cases w
  | .kt ds, v, e, q, w => by
    obtain ⟨a, vs, rfl, h1, h2⟩ := q
    unfold D.pd at w
    split at w
    · rename_i ys e2
      cases w
      exact .tup (sqT_k h1) (pds_ok ds vs ys h2 e2)
    · cases w
  | .tf ds, v, e, q, w => by
    obtain ⟨a, vs, rfl, ⟨o, h1, _⟩, _, h2⟩ := q
    unfold D.pd at w
    split at w
    · rename_i ys e2
      cases w
      exact .tup (.inl (.inr ⟨o, h1⟩)) (pds_ok ds vs ys h2 e2)
    · cases w
  | .lst ds, v, e, q, w => by
    obtain ⟨a, vs, rfl, h1, _, h2⟩ := q
    unfold D.pd at w
    split at w
    · rename_i ys e2
      cases w
      exact .lst (.of h1) (pds_ok ds vs ys h2 e2)
    · cases w
  | .fz ds, v, e, q, w => by
    obtain ⟨a, vs, rfl, h1, h2⟩ := q
    unfold D.pd at w
    split at w
    · rename_i ys e2
      cases w
      exact .lst h1.sq (pds_ok ds vs ys h2 e2)
    · cases w
theorem pds_ok : ∀ (ds : List D) (vs : List V) (es : List PyData), RelDs K r H ds vs → D.pds ds = some es → DpAll K H vs es
  | [], vs, es, q, w => by
    have q : vs = [] := q
    subst q; cases w; exact .nil
  | d :: ds, vs, es, q, w => by
    obtain ⟨v, ws, rfl, h1, h2⟩ := q
    unfold D.pds at w
    split at w
    · rename_i y ys e1 e2
      cases w
      exact .cons (pd_ok d v y h1 e1) (pds_ok ds ws ys h2 e2)
    · cases w
end
theorem pdH_ok (R : RH K r h H) {d : D} {v : V} {e : PyData} (q : RelD K r H d v) (w : pdH h d = some e) : Dp K H v e := by
  unfold pdH at w
  split at w
  · split at w
    · rename_i e1
      obtain ⟨a, rfl, _, vs, h1, h2⟩ := R.get e1 q
      split at w
      · rename_i ys e2
        cases w
        exact .lst (.of h1) (pds_ok _ _ _ h2 e2)
      · cases w
    · cases w
  · exact pd_ok d v e q w
end
def zEq : Z2 := fun x y h Q => match pdH h x, pdH h y with
  | some a, some b => SeqAt.shaped a = true ∧ SeqAt.shaped b = true ∧ Q (.bl (PyData.eqv a b)) h
  | _, _ => False
def zNe : Z2 := fun x y h Q => match pdH h x, pdH h y with
  | some a, some b => SeqAt.shaped a = true ∧ SeqAt.shaped b = true ∧ Q (.bl (!PyData.eqv a b)) h
  | _, _ => False
theorem l_eq : R2Z K (rEqD K) zEq := fun r h H x y dx dy Q Q0 R hx hy q u => by
  unfold zEq at q
  split at q
  · rename_i a b e1 e2
    exact ⟨a, b, pdH_ok R hx e1, pdH_ok R hy e2, q.1, q.2.1, u _ h r _ H q.2.2 (.refl _ _) R rfl⟩
  · exact q.elim
theorem l_ne : R2Z K (rNeD K) zNe := fun r h H x y dx dy Q Q0 R hx hy q u => by
  unfold zNe at q
  split at q
  · rename_i a b e1 e2
    exact ⟨a, b, pdH_ok R hx e1, pdH_ok R hy e2, q.1, q.2.1, u _ h r _ H q.2.2 (.refl _ _) R rfl⟩
  · exact q.elim
theorem lexAt_from (ns ms : List Int) : ∀ (k i : Nat), i + k = min ns.length ms.length →
    Ob.lexAt (fun j => decide (ns.getD j 0 = ms.getD j 0)) (fun j => decide (ns.getD j 0 ≤ ms.getD j 0)) (decide (ns.length ≤ ms.length)) i k = lexLeI (ns.drop i) (ms.drop i)
  | 0, i, e => by
    rw [Ob.lexAt_zero]
    by_cases hl : ns.length ≤ ms.length
    · rw [decide_eq_true hl, List.drop_of_length_le (show ns.length ≤ i by omega)]; rfl
    · rw [decide_eq_false hl, List.drop_of_length_le (show ms.length ≤ i by omega), List.drop_eq_getElem_cons (show i < ns.length by omega)]; rfl
  | k + 1, i, e => by
    have h1 : i < ns.length := by omega
    have h2 : i < ms.length := by omega
    rw [Ob.lexAt_succ, lexAt_from ns ms k (i + 1) (by omega), List.drop_eq_getElem_cons h1, List.drop_eq_getElem_cons h2]
    have g1 : ns.getD i 0 = ns[i] := by simp [h1]
    have g2 : ms.getD i 0 = ms[i] := by simp [h2]
    rw [g1, g2]
    have ex : ∀ (x y : Int) (xs ys : List Int), lexLeI (x :: xs) (y :: ys) = if x = y then lexLeI xs ys else decide (x ≤ y) := fun _ _ _ _ => rfl
    rw [ex]
    by_cases z : ns[i] = ms[i]
    · rw [if_pos z, decide_eq_true z, if_pos rfl]
    · rw [if_neg z, decide_eq_false z, if_neg Bool.false_ne_true]
theorem lexAt_le (ns ms : List Int) : Ob.lexAt (fun j => decide (ns.getD j 0 = ms.getD j 0)) (fun j => decide (ns.getD j 0 ≤ ms.getD j 0)) (decide (ns.length ≤ ms.length)) 0 (min ns.length ms.length) = lexLeI ns ms := by
  rw [lexAt_from ns ms _ 0 (by omega), List.drop_zero, List.drop_zero]
/-- <= of ints, of tuples of ints -/
theorem l_le : R2Z K (fun x y H Q => rI0 (fun i j => .bl (decide (i ≤ j))) x y H Q ∨ rLeT K x y H Q) zLe := fun r h H x y dx dy Q Q0 R hx hy q u => by
  unfold zLe at q
  split at q
  · have hx : x = .int _ := hx
    have hy : y = .int _ := hy
    exact .inl ⟨_, _, hx, hy, u _ h r _ H q (.refl _ _) R rfl⟩
  · split at q
    · rename_i e1 e2
      obtain ⟨a, vs, rfl, h1, _, h2⟩ := hx
      obtain ⟨b, ws, rfl, h3, _, h4⟩ := hy
      have e1 := dints_ok _ h2 e1
      have e2 := dints_ok _ h4 e2
      subst e1 e2
      refine .inr ⟨a, b, _, _, rfl, rfl, .of h1, .of h3, ?_⟩
      rw [lexAt_le]
      exact u _ h r _ H q (.refl _ _) R rfl
    · exact q.elim
  · exact q.elim
end
end Z
/-! Z5: items, dicts, stores, calls of built-ins. -/
namespace Z
open PySem PySem.Spec PyProof.Rows L2
/-! ### dicts by keys and values -/
def zval {κ : Type} [DecidableEq κ] : List κ → List D → κ → Option D
  | k :: ks, v :: vs, x => if k = x then some v else zval ks vs x
  | _, _, _ => none
def zputK {κ : Type} [DecidableEq κ] (ks : List κ) (x : κ) : List κ := if x ∈ ks then ks else ks ++ [x]
def zrep {κ : Type} [DecidableEq κ] : List κ → List D → κ → D → List D
  | k :: ks, v :: vs, x, y => (if k = x then y else v) :: zrep ks vs x y
  | _, vs, _, _ => vs
def zputV {κ : Type} [DecidableEq κ] (ks : List κ) (vs : List D) (x : κ) (y : D) : List D := if x ∈ ks then zrep ks vs x y else vs ++ [y]
def keyOf : D → Option Key
  | .int i => some (.inl i)
  | .str s => some (.inr s)
  | _ => none
def keysOf : List D → Option (List Key)
  | [] => some []
  | d :: ds => match keyOf d, keysOf ds with
    | some k, some ks => some (k :: ks)
    | _, _ => none
def dkM (h : AH) : D → Option (List Key × List D)
  | .dK ks vs => some (ks, vs)
  | .obj n => match h[n]? with
    | some (.dK ks vs) => some (ks, vs)
    | _ => none
  | _ => none
def dtM (h : AH) : D → Option (List (List Key) × List D)
  | .dT ks vs => some (ks, vs)
  | .obj n => match h[n]? with
    | some (.dT ks vs) => some (ks, vs)
    | _ => none
  | _ => none
/-- what stands in a dict under a key: none where x is no dict or y no key -/
def dLook (h : AH) (x y : D) : Option (Option D) := match dkM h x with
  | some (ks, vs) => match keyOf y with
    | some k => some (zval ks vs k)
    | none => none
  | none => match dtM h x with
    | some (ks, vs) => match y with
      | .tup ds => match keysOf ds with
        | some k => some (zval ks vs k)
        | none => none
      | _ => none
    | none => none
section
variable {K : PySem.W.Frag} {r : Wd} {h : AH} {H : Hp}
theorem keyOf_ok {d : D} {v : V} {k : Key} (hv : RelD K r H d v) (e : keyOf d = some k) : v = kV k := by
  cases d with
  | int i => cases e; exact hv
  | str s => cases e; exact hv
  | _ => cases e
theorem keysOf_ok : ∀ {ds : List D} {vs : List V} {ks : List Key}, RelDs K r H ds vs → keysOf ds = some ks → vs = ks.map kV := by
  intro ds
  induction ds with
  | nil =>
    intro vs ks q e
    have q : vs = [] := q
    cases e
    exact q
  | cons d ds ih =>
    intro vs ks q e
    obtain ⟨v, ws, rfl, h1, h2⟩ := q
    unfold keysOf at e
    split at e
    · rename_i k ks' e1 e2
      cases e
      rw [keyOf_ok h1 e1, ih h2 e2]; rfl
    · cases e
theorem dkM_ok (R : RH K r h H) {d : D} {v : V} {ks : List Key} {ds : List D} (hv : RelD K r H d v) (e : dkM h d = some (ks, ds)) : ∃ a vs, v = .ref a ∧ H a = some (.dK (ks.zip vs)) ∧ ks.length = vs.length ∧ RelDs K r H ds vs := by
  unfold dkM at e
  split at e
  · cases e
    obtain ⟨a, vs, rfl, h1, _, h2, h3⟩ := hv
    exact ⟨a, vs, rfl, h1, h2, h3⟩
  · split at e
    · rename_i q
      cases e
      obtain ⟨a, rfl, _, vs, h1, h2, h3⟩ := R.get q hv
      exact ⟨a, vs, rfl, h1, h2, h3⟩
    · cases e
  · cases e
theorem dtM_ok (R : RH K r h H) {d : D} {v : V} {ks : List (List Key)} {ds : List D} (hv : RelD K r H d v) (e : dtM h d = some (ks, ds)) : ∃ a vs, v = .ref a ∧ H a = some (.dT (ks.zip vs)) ∧ ks.length = vs.length ∧ RelDs K r H ds vs := by
  unfold dtM at e
  split at e
  · cases e
    obtain ⟨a, vs, rfl, h1, _, h2, h3⟩ := hv
    exact ⟨a, vs, rfl, h1, h2, h3⟩
  · split at e
    · rename_i q
      cases e
      obtain ⟨a, rfl, _, vs, h1, h2, h3⟩ := R.get q hv
      exact ⟨a, vs, rfl, h1, h2, h3⟩
    · cases e
  · cases e
theorem zval_ok {κ : Type} [DecidableEq κ] : ∀ {ks : List κ} {ds : List D} {vs : List V} {k : κ}, ks.length = vs.length → RelDs K r H ds vs →
    (∀ d, zval ks ds k = some d → ∃ v, valV (ks.zip vs) k = some v ∧ RelD K r H d v) ∧ (zval ks ds k = none → valV (ks.zip vs) k = none) := by
  intro ks
  induction ks with
  | nil =>
    intro ds vs k hl q
    cases ds <;> exact ⟨fun d e => (nomatch e), fun _ => rfl⟩
  | cons k0 ks ih =>
    intro ds vs k hl q
    cases ds with
    | nil =>
      have q : vs = [] := q
      subst q
      cases hl
    | cons d0 ds =>
      obtain ⟨v, ws, rfl, h1, h2⟩ := q
      have ih' := ih (ds := ds) (vs := ws) (k := k) (by simpa using hl) h2
      show (∀ d, (if k0 = k then some d0 else zval ks ds k) = some d → _) ∧ ((if k0 = k then some d0 else zval ks ds k) = none → _)
      by_cases e : k0 = k
      · rw [if_pos e]
        refine ⟨fun d q => ?_, fun q => nomatch q⟩
        cases q
        exact ⟨v, valV_pos (p := (k0, v)) e, h1⟩
      · rw [if_neg e]
        rw [List.zip_cons_cons, valV_neg (p := (k0, v)) e]
        exact ih'
theorem zput_ok {κ : Type} [DecidableEq κ] {d : D} {v : V} (hd : RelD K r H d v) {ks : List κ} {ds : List D} {vs : List V} {k : κ} (hl : ks.length = vs.length) (hv : RelDs K r H ds vs) :
    ∃ ws, putK (ks.zip vs) k v = (zputK ks k).zip ws ∧ (zputK ks k).length = ws.length ∧ RelDs K r H (zputV ks ds k d) ws := by
  have any : ∀ (ks : List κ) (vs : List V), ks.length = vs.length → ((ks.zip vs).any fun kv => decide (kv.1 = k)) = decide (k ∈ ks) := by
    intro ks
    induction ks with
    | nil => intro vs _; simp
    | cons k0 ks ih =>
      intro vs hl
      cases vs with
      | nil => cases hl
      | cons v0 vs =>
        rw [List.zip_cons_cons, List.any_cons, ih vs (by simpa using hl)]
        by_cases e : k0 = k
        · subst e; simp
        · simp [e, Ne.symm e]
  unfold putK zputK zputV
  rw [any ks vs hl]
  by_cases hk : k ∈ ks
  · rw [decide_eq_true hk, if_pos rfl, if_pos hk, if_pos hk]
    clear any hk
    induction ks generalizing ds vs with
    | nil =>
      cases vs with
      | nil =>
        have : ds = [] := List.length_eq_zero_iff.mp hv.length
        subst this
        exact ⟨[], rfl, rfl, rfl⟩
      | cons _ _ => cases hl
    | cons k0 ks ih =>
      cases vs with
      | nil => cases hl
      | cons v0 vs =>
        cases ds with
        | nil => have := hv.length; cases this
        | cons d0 ds =>
          obtain ⟨v', ws', e1, h1, h2⟩ := hv
          cases e1
          obtain ⟨ws, q1, q2, q3⟩ := ih (ds := ds) (vs := vs) (by simpa using hl) h2
          by_cases e : k0 = k
          · subst e
            refine ⟨v :: ws, ?_, by simp [q2], ⟨v, ws, rfl, ?_, q3⟩⟩
            · rw [List.zip_cons_cons, List.map_cons, q1, List.zip_cons_cons]; simp
            · rw [if_pos rfl]; exact hd
          · refine ⟨v0 :: ws, ?_, by simp [q2], ⟨v0, ws, rfl, ?_, q3⟩⟩
            · rw [List.zip_cons_cons, List.map_cons, q1, List.zip_cons_cons]; simp [e]
            · rw [if_neg e]; exact h1
  · rw [decide_eq_false hk, if_neg Bool.false_ne_true, if_neg hk, if_neg hk]
    refine ⟨vs ++ [v], ?_, by simp [hl], hv.append (.one hd)⟩
    rw [List.zip_append hl]; rfl
theorem dLook_ok (R : RH K r h H) {x y : D} {vx vy : V} {o : Option D} (hx : RelD K r H x vx) (hy : RelD K r H y vy) (e : dLook h x y = some o) :
    ∃ a ov, vx = .ref a ∧ DGet H a vy ov ∧ (∀ d, o = some d → ∃ v, ov = some v ∧ RelD K r H d v) ∧ (o = none → ov = none) := by
  unfold dLook at e
  split at e
  · rename_i ks vs e1
    obtain ⟨a, ws, rfl, h1, h2, h3⟩ := dkM_ok R hx e1
    split at e
    · rename_i k e2
      cases e
      have ey := keyOf_ok hy e2
      subst ey
      exact ⟨a, _, rfl, .k h1, (zval_ok h2 h3).1, (zval_ok h2 h3).2⟩
    · cases e
  · split at e
    · rename_i ks vs e1
      obtain ⟨a, ws, rfl, h1, h2, h3⟩ := dtM_ok R hx e1
      split at e
      · rename_i ds
        split at e
        · rename_i k e2
          cases e
          obtain ⟨b, us, rfl, h4, _, h5⟩ := hy
          have eu := keysOf_ok h5 e2
          subst eu
          exact ⟨a, _, rfl, .t h1 h4, (zval_ok h2 h3).1, (zval_ok h2 h3).2⟩
        · cases e
      · cases e
    · cases e
end
/-! ### items -/
def rIxD : R2 := fun x y H Q => ∃ a v, x = .ref a ∧ DGet H a y (some v) ∧ Q v H
theorem ix_dict {X : Cx} (hu : X.A.units + 1 < cLine) : IxR X rIxD := by
  intro value slice pins s σ H x y v u Q I rx ry q hs
  obtain ⟨a, w, rfl, g, q⟩ := q
  have rx : v = Value.ref a := rx
  subst rx
  exact tail_any (dict_typeIs I g) PySem.F.slot_dict_getitem.lookup (d_getItem hu I g ry fun w' s3 I3 rw' => ⟨w, H, I3, rw', q⟩) hs
def rIxAll (K : PySem.W.Frag) : R2 := fun x y H Q => rIx K x y H Q ∨ rIxD x y H Q
theorem ix_all {X : Cx} (hu : X.A.units + 1 < cLine) : IxR X (rIxAll X.K) := ix_seq.or (ix_dict hu)
def zIx : Z2 := fun x y h Q => match x with
  | .str s => match y with
    | .int i => match atI s.cps.toList i with
      | some c => s.length ≤ sizeLine ∧ Q (.str ⟨#[c]⟩) h
      | none => False
    | _ => False
  | x => match sqR h x with
    | some ds => match y with
      | .int i => match atI ds i with
        | some d => Q d h
        | none => False
      | _ => False
    | none => match dLook h x y with
      | some (some d) => Q d h
      | _ => False
theorem atI_rel {K : PySem.W.Frag} {r : Wd} {H : Hp} {ds : List D} {vs : List V} {i : Int} {d : D} (h : RelDs K r H ds vs) (e : atI ds i = some d) : ∃ v, atI vs i = some v ∧ RelD K r H d v := by
  unfold atI at e ⊢
  rw [← h.length]
  cases q : ixN ds.length i with
  | none => rw [q] at e; cases e
  | some j =>
    rw [q] at e
    exact h.get e
theorem l_ix {K : PySem.W.Frag} : R2Z K (rIxAll K) zIx := fun r h H x y dx dy Q Q0 R hx hy q u => by
  unfold zIx at q
  split at q
  · rename_i s
    split at q
    · rename_i i
      split at q
      · rename_i c ec
        have hx : x = .str s := hx
        have hy : y = .int i := hy
        exact .inl (.inr (.inr ⟨s, i, c, hx, hy, q.1, ec, u _ h r _ H q.2 (.refl _ _) R rfl⟩))
      · exact q.elim
    · exact q.elim
  · split at q
    · rename_i ds e1
      obtain ⟨a, vs, rfl, h1, h2⟩ := sqR_ok R hx e1
      split at q
      · rename_i i
        split at q
        · rename_i d ed
          have hy : y = .int i := hy
          obtain ⟨v, e2, hv⟩ := atI_rel h2 ed
          have fin := u _ h r _ H q (.refl _ _) R hv
          rcases h1 with h1 | h1
          · exact .inl (.inl ⟨a, vs, i, v, rfl, hy, h1, e2, fin⟩)
          · exact .inl (.inr (.inl ⟨a, vs, i, v, rfl, hy, h1, e2, fin⟩))
        · exact q.elim
      · exact q.elim
    · split at q
      · rename_i d ed
        obtain ⟨a, ov, rfl, g, h1, _⟩ := dLook_ok R hx hy ed
        obtain ⟨v, rfl, hv⟩ := h1 d rfl
        exact .inr ⟨a, v, rfl, g, u _ h r _ H q (.refl _ _) R hv⟩
      · exact q.elim
/-- in, not in: lists, tuples of flat things, dicts, texts -/
def rDIn (neg : Bool) : R2 := fun x y H Q => ∃ a o, y = .ref a ∧ DGet H a x o ∧ Q (.bl (if neg then !o.isSome else o.isSome)) H
theorem op_inD {X : Cx} (hu : X.A.units + 1 < cLine) : OpR X (compareOp .In) (rDIn false) := by
  intro pins s σ H x y v u Q I rx ry q
  obtain ⟨a, o, rfl, g, q⟩ := q
  have ry : u = Value.ref a := ry
  subst ry
  exact d_in hu I g rx fun s3 I3 => ⟨.bl o.isSome, H, I3, rfl, q⟩
theorem op_notInD {X : Cx} (hu : X.A.units + 1 < cLine) : OpR X (compareOp .NotIn) (rDIn true) := by
  intro pins s σ H x y v u Q I rx ry q
  obtain ⟨a, o, rfl, g, q⟩ := q
  have ry : u = Value.ref a := ry
  subst ry
  exact d_notIn hu I g rx fun s3 I3 => ⟨.bl (!o.isSome), H, I3, rfl, q⟩
def flatD : D → Option V
  | .non => some .non
  | .bl b => some (.bl b)
  | .int i => some (.int i)
  | .str s => some (.str s)
  | _ => none
def flatDs : List D → Option (List V)
  | [] => some []
  | d :: ds => match flatD d, flatDs ds with
    | some v, some vs => some (v :: vs)
    | _, _ => none
def zInB (h : AH) (x y : D) : Option Bool := match sqR h y with
  | some ds => match flatD x, flatDs ds with
    | some v, some vs => some (inV v vs)
    | _, _ => none
  | none => match dLook h y x with
    | some o => some o.isSome
    | none => none
def zIn : Z2 := fun x y h Q => match zInB h x y with
  | some b => Q (.bl b) h
  | none => False
def zNotIn : Z2 := fun x y h Q => match zInB h x y with
  | some b => Q (.bl (!b)) h
  | none => False
section
variable {K : PySem.W.Frag} {r : Wd} {H : Hp}
theorem flatD_ok {d : D} {v w : V} (h : RelD K r H d v) (e : flatD d = some w) : v = w ∧ flatV v = true := by
  cases d with
  | non => cases e; have h : v = .non := h; subst h; exact ⟨rfl, rfl⟩
  | bl b => cases e; have h : v = .bl b := h; subst h; exact ⟨rfl, rfl⟩
  | int b => cases e; have h : v = .int b := h; subst h; exact ⟨rfl, rfl⟩
  | str b => cases e; have h : v = .str b := h; subst h; exact ⟨rfl, rfl⟩
  | _ => cases e
theorem flatDs_ok : ∀ {ds : List D} {vs ws : List V}, RelDs K r H ds vs → flatDs ds = some ws → vs = ws ∧ vs.all flatV = true := by
  intro ds
  induction ds with
  | nil =>
    intro vs ws q e
    have q : vs = [] := q
    cases e
    subst q
    exact ⟨rfl, rfl⟩
  | cons d ds ih =>
    intro vs ws q e
    obtain ⟨v, us, rfl, h1, h2⟩ := q
    unfold flatDs at e
    split at e
    · rename_i v' vs' e1 e2
      cases e
      obtain ⟨rfl, f1⟩ := flatD_ok h1 e1
      obtain ⟨rfl, f2⟩ := ih h2 e2
      refine ⟨rfl, ?_⟩
      rw [List.all_cons, f1, f2]; rfl
    · cases e
theorem flatDs_ints : ∀ ns : List Int, flatDs (ns.map D.int) = some (ns.map V.int)
  | [] => rfl
  | n :: ns => by
    show (match some (V.int n), flatDs (ns.map D.int) with | some v, some vs => some (v :: vs) | _, _ => none) = _
    rw [flatDs_ints ns]; rfl
theorem zInB_ok {h : AH} (R : RH K r h H) {x y : D} {vx vy : V} {b : Bool} (hx : RelD K r H x vx) (hy : RelD K r H y vy) (e : zInB h x y = some b) :
    (∃ p xs, vy = .ref p ∧ (SqL K H p xs ∨ SqT K H p xs) ∧ flatV vx = true ∧ xs.all flatV = true ∧ b = inV vx xs) ∨ ∃ a o, vy = .ref a ∧ DGet H a vx o ∧ b = o.isSome := by
  unfold zInB at e
  split at e
  · rename_i ds e1
    obtain ⟨a, vs, rfl, h1, h2⟩ := sqR_ok R hy e1
    split at e
    · rename_i v ws e2 e3
      cases e
      obtain ⟨rfl, f1⟩ := flatD_ok hx e2
      obtain ⟨rfl, f2⟩ := flatDs_ok h2 e3
      exact .inl ⟨a, vs, rfl, h1, f1, f2, rfl⟩
    · cases e
  · split at e
    · rename_i o e1
      cases e
      obtain ⟨a, ov, rfl, g, h1, h2⟩ := dLook_ok R hy hx e1
      refine .inr ⟨a, ov, rfl, g, ?_⟩
      cases o with
      | none => rw [h2 rfl]; rfl
      | some d =>
        obtain ⟨v, rfl, _⟩ := h1 d rfl
        rfl
    · cases e
end
def rInAll (K : PySem.W.Frag) (neg : Bool) : R2 := fun x y H Q => rIn K neg x y H Q ∨ rDIn neg x y H Q
theorem op_inAll {X : Cx} (hu : X.A.units + 1 < cLine) : OpR X (compareOp .In) (rInAll X.K false) := OpR.or op_in_seq (op_inD hu)
theorem op_notInAll {X : Cx} (hu : X.A.units + 1 < cLine) : OpR X (compareOp .NotIn) (rInAll X.K true) := OpR.or op_notIn_seq (op_notInD hu)
theorem l_in {K : PySem.W.Frag} : R2Z K (rInAll K false) zIn := fun r h H x y dx dy Q Q0 R hx hy q u => by
  unfold zIn at q
  split at q
  · rename_i b e
    rcases zInB_ok R hx hy e with ⟨p, xs, rfl, h1, h2, h3, rfl⟩ | ⟨a, o, rfl, g, rfl⟩
    · exact .inl ⟨p, xs, rfl, h1, h2, h3, u _ h r _ H q (.refl _ _) R rfl⟩
    · exact .inr ⟨a, o, rfl, g, u _ h r _ H q (.refl _ _) R rfl⟩
  · exact q.elim
theorem l_notIn {K : PySem.W.Frag} : R2Z K (rInAll K true) zNotIn := fun r h H x y dx dy Q Q0 R hx hy q u => by
  unfold zNotIn at q
  split at q
  · rename_i b e
    rcases zInB_ok R hx hy e with ⟨p, xs, rfl, h1, h2, h3, rfl⟩ | ⟨a, o, rfl, g, rfl⟩
    · exact .inl ⟨p, xs, rfl, h1, h2, h3, u _ h r _ H q (.refl _ _) R rfl⟩
    · exact .inr ⟨a, o, rfl, g, u _ h r _ H q (.refl _ _) R rfl⟩
  · exact q.elim
/-! ### stores by place or key -/
def zSet : ZSet := fun o i v h Q => match o with
  | .obj n => match h[n]? with
    | some (.lst ds) => match i with
      | .int k => match ixN ds.length k with
        | some j => Q (h.set n (.lst (ds.set j v)))
        | none => False
      | _ => False
    | some (.dK ks vs) => match keyOf i with
      | some k => ks.length < sizeLine ∧ Q (h.set n (.dK (zputK ks k) (zputV ks vs k v)))
      | none => False
    | some (.dT ks vs) => match i with
      | .tup ds => match keysOf ds with
        | some k => ks.length < sizeLine ∧ Q (h.set n (.dT (zputK ks k) (zputV ks vs k v)))
        | none => False
      | _ => False
    | _ => False
  | _ => False
def rSetD : TSet := fun o i v H Q => ∃ a H', o = .ref a ∧ DPut H a i v H' ∧ Q H'
theorem set_dict {X : Cx} (hu : X.A.units + 1 < cLine) : PSet X rSetD := by
  intro pins s σ H o i v ov iv u Q I ro ri rv q
  obtain ⟨a, H', rfl, g, q⟩ := q
  have ro : ov = Value.ref a := ro
  subst ro
  exact d_setItem hu I g ri rv fun s4 I4 => ⟨H', I4, q⟩
def rSetAll : TSet := fun o i v H Q => rSetL o i v H Q ∨ rSetD o i v H Q
theorem set_all {X : Cx} (hu : X.A.units + 1 < cLine) : PSet X rSetAll := by
  intro pins s σ H o i v ov iv u Q I ro ri rv q
  rcases q with q | q
  · exact set_list pins s σ H o i v ov iv u Q I ro ri rv q
  · exact set_dict hu pins s σ H o i v ov iv u Q I ro ri rv q
theorem l_set {K : PySem.W.Frag} : RSetZ K rSetAll zSet := fun r h H o i v d0 di dv Q Q0 R ho hi hv q u => by
  unfold zSet at q
  split at q
  · rename_i n
    split at q
    · rename_i ds e
      obtain ⟨a, rfl, ha, vs, h1, h2⟩ := R.get e ho
      split at q
      · rename_i k
        have hi : i = .int k := hi
        subst hi
        split at q
        · rename_i j ej
          refine .inl ⟨a, vs, k, j, rfl, rfl, h1, by rw [← h2.length]; exact ej, ?_⟩
          have E := Ext.put (o := .lst (vs.set j v)) (H := H) (List.mem_of_getElem? ha)
          exact u _ r _ q E (R.put (c := .lst (ds.set j dv)) ha ⟨_, upd_same, RelDs.mono E _ _ (h2.set hv j)⟩)
        · exact q.elim
      · exact q.elim
    · rename_i ks ds e
      obtain ⟨a, rfl, ha, vs, h1, hl, h2⟩ := R.get e ho
      split at q
      · rename_i k ek
        have ei := keyOf_ok hi ek
        subst ei
        obtain ⟨ws, e1, e2, e3⟩ := zput_ok (k := k) hv hl h2
        refine .inr ⟨a, _, rfl, .k h1 ?_, ?_⟩
        · rw [List.length_zip, ← hl, Nat.min_self]; exact q.1
        · rw [e1]
          have E := Ext.put (o := .dK ((zputK ks k).zip ws)) (H := H) (List.mem_of_getElem? ha)
          exact u _ r _ q.2 E (R.put (c := .dK (zputK ks k) (zputV ks ds k dv)) ha ⟨_, upd_same, e2, RelDs.mono E _ _ e3⟩)
      · exact q.elim
    · rename_i ks ds e
      obtain ⟨a, rfl, ha, vs, h1, hl, h2⟩ := R.get e ho
      split at q
      · rename_i xs
        split at q
        · rename_i k ek
          obtain ⟨b, us, rfl, hb, _, hus⟩ := hi
          have eu := keysOf_ok hus ek
          subst eu
          obtain ⟨ws, e1, e2, e3⟩ := zput_ok (k := k) hv hl h2
          refine .inr ⟨a, _, rfl, .t h1 hb ?_, ?_⟩
          · rw [List.length_zip, ← hl, Nat.min_self]; exact q.1
          · rw [e1]
            have E := Ext.put (o := .dT ((zputK ks k).zip ws)) (H := H) (List.mem_of_getElem? ha)
            exact u _ r _ q.2 E (R.put (c := .dT (zputK ks k) (zputV ks ds k dv)) ha ⟨_, upd_same, e2, RelDs.mono E _ _ e3⟩)
        · exact q.elim
      · exact q.elim
    · exact q.elim
  · exact q.elim
/-- o[i] read for o[i] op= e -/
def rGetAll (K : PySem.W.Frag) : R2 := fun x y H Q => (∃ p xs i v, x = .ref p ∧ y = .int i ∧ SqL K H p xs ∧ 0 ≤ i ∧ xs[i.toNat]? = some v ∧ Q v H) ∨ rIxD x y H Q
theorem get_all {X : Cx} (hu : X.A.units + 1 < cLine) : PGet X (rGetAll X.K) := by
  intro pins s σ H o i ov iv Q I ro ri q
  rcases q with ⟨p, xs, k, v, rfl, rfl, hq, h0, hv, q⟩ | ⟨a, v, rfl, g, q⟩
  · have ro : ov = Value.ref p := ro
    subst ro
    obtain ⟨t, rfl⟩ := ri
    obtain ⟨its, rr, pl, hz⟩ := I.list hq
    obtain ⟨w, ew, rw'⟩ := rr.get hv
    have hn := line63
    have hlt := (List.getElem?_eq_some_iff.mp hv).1
    exact wpAny_getItem_list pl.isList h0 (by omega) (by simpa using ew) ⟨v, H, I, rw', q⟩
  · have ro : ov = Value.ref a := ro
    subst ro
    exact d_getItem hu I g ri fun w' s3 I3 rw' => ⟨v, H, I3, rw', q⟩
def zGet : Z2 := fun x y h Q => match lsR h x with
  | some ds => match y with
    | .int i => 0 ≤ i ∧ match ds[i.toNat]? with
      | some d => Q d h
      | none => False
    | _ => False
  | none => match dLook h x y with
    | some (some d) => Q d h
    | _ => False
theorem l_get {K : PySem.W.Frag} : R2Z K (rGetAll K) zGet := fun r h H x y dx dy Q Q0 R hx hy q u => by
  unfold zGet at q
  split at q
  · rename_i ds e1
    obtain ⟨a, vs, rfl, h1, h2⟩ := lsR_ok R hx e1
    split at q
    · rename_i i
      have hy : y = .int i := hy
      obtain ⟨h0, q⟩ := q
      split at q
      · rename_i d ed
        obtain ⟨v, e2, hv⟩ := h2.get ed
        exact .inl ⟨a, vs, i, v, rfl, hy, h1, h0, e2, u _ h r _ H q (.refl _ _) R hv⟩
      · exact q.elim
    · exact q.elim
  · split at q
    · rename_i d ed
      obtain ⟨a, ov, rfl, g, h1, _⟩ := dLook_ok R hx hy ed
      obtain ⟨v, rfl, hv⟩ := h1 d rfl
      exact .inr ⟨a, v, rfl, g, u _ h r _ H q (.refl _ _) R hv⟩
    · exact q.elim
theorem l_ipadd {K : PySem.W.Frag} : R2Z K (ipI fun i j => i + j) (zI2 fun i j => .int (i + j)) := lI2 (g := fun i j => .int (i + j)) fun _ _ _ _ => rfl
theorem l_ipsub {K : PySem.W.Frag} : R2Z K (ipI fun i j => i - j) (zI2 fun i j => .int (i - j)) := lI2 (g := fun i j => .int (i - j)) fun _ _ _ _ => rfl
end Z
/-! Z6: what is walked: lists, tuples, ranges, enumerate. -/
namespace Z
open PySem PySem.Spec PyProof.Rows L2
section
variable {X : Cx} {tg : Expr}
/-- a new iterator object over a value that has come -/
theorem one_it {pins : List (Addr × Obj)} {σ : L2.St} {H1 : Hp} {s1 : Shared} {W : It → Hp → Prop} {J : It} {tn : Nat → Heap → Prop} {o : Obj} (I1 : Inv X pins σ H1 s1) (tu : Turn X.prog X.w X.K tg J [s1.heap.objs.size] s1.heap.objs.size tn)
    (t0 : tn 0 (s1.heap.push o)) (q : W J H1) : PIE X pins σ tg W (.ref s1.heap.objs.size) { s1 with heap := s1.heap.push o } :=
  ⟨_, _, tn, J, H1, rfl, I1.kept (t' := s1.toks) fun b u e => Heap.get?_push_of_some _ e, tu, t0, fun b hb => by
    rw [List.mem_singleton.mp hb]
    exact I1.fpOk (Nat.le_refl _) (I1.hok.fresh (Nat.le_refl _)), q⟩
theorem pi_sq {l : Expr} {tl : TE} (hl : PE X l tl) : PI X tg l (fun σ H W => tl σ H fun x H1 => ∃ a, x = .ref a ∧ (((∃ xs, SqL X.K H1 a xs) ∧ W (Itl X.K a) H1) ∨ ((∃ xs, SqT X.K H1 a xs) ∧ W (Itt X.K a) H1))) := by
  refine ⟨fun pins s0 σ H W I0 h0 => thn (hl.run pins s0 σ H _ I0 h0) fun v s1 ⟨x, H1, I1, rx, a, ex, z⟩ => ?_⟩
  rw [ex] at rx
  rw [show v = Value.ref a from rx]
  rcases z with ⟨⟨xs, hx⟩, z⟩ | ⟨⟨xs, hx⟩, z⟩
  · obtain ⟨its, _, pl, _⟩ := I1.list hx
    exact wpAny_pyIter_list pl.isList (one_it I1 (turn_list a _) ⟨_, Heap.get?_push_size _ rfl, rfl, rfl⟩ z)
  · obtain ⟨its, _, pt, _⟩ := I1.tuple hx
    exact wpAny_pyIter_tuple pt (one_it I1 (turn_tuple a _) ⟨_, Heap.get?_push_size _ rfl, rfl, rfl⟩ z)
end
def frS : D → Option (List D)
  | .tup ds => some ds
  | .kt ds => some ds
  | .tf ds => some ds
  | .lst ds => some ds
  | .fz ds => some ds
  | _ => none
/-- a list or tuple that stands still -/
def ziSeq (t : ZE) : ZI := fun zs h Q => t zs h fun d h1 => match frS d with
  | some ds => Q ds h1
  | none => False
section
variable {K : PySem.W.Frag} {r : Wd} {H : Hp} {a : Addr} {vs : List V} {ds : List D}
theorem sqL_keep {H1 : Hp} (h : H a = some (.lst vs)) (o : Out r a) (k : Keeps r H H1) : SqL K H1 a vs := .of (k a _ h o)
theorem lstAt_keep {H1 : Hp} (h : LstAt K r H a vs) (k : Keeps r H H1) : SqL K H1 a vs := by
  rcases h with ⟨⟨o, h⟩, n⟩ | h
  · exact .inl (.inr ⟨o, k a _ h n⟩)
  · exact LstAt.sq (r := r) (.inr h)
theorem zwalk_list (hk : ∀ H1, Keeps r H H1 → SqL K H1 a vs) (hd : RelDs K r H ds vs) : ZWalk K (Itl K a) ds r H := by
  have hl := hd.length
  refine ⟨fun H1 k => ⟨vs, hk H1 k, by omega⟩, fun i H1 hi k => ⟨vs, vs[i]'(by omega), hk H1 k, List.getElem?_eq_getElem (by omega)⟩, fun i H1 x H2 hi k y => ?_⟩
  obtain ⟨d, h1, h2⟩ := hd.get' (y.2 vs (hk H1 k))
  exact ⟨d, h1, .inl ⟨y.1, h2⟩⟩
theorem zwalk_tup (hk : ∀ H1, Keeps r H H1 → SqT K H1 a vs) (hd : RelDs K r H ds vs) : ZWalk K (Itt K a) ds r H := by
  have hl := hd.length
  refine ⟨fun H1 k => ⟨vs, hk H1 k, by omega⟩, fun i H1 hi k => ⟨vs, vs[i]'(by omega), hk H1 k, List.getElem?_eq_getElem (by omega)⟩, fun i H1 x H2 hi k y => ?_⟩
  obtain ⟨d, h1, h2⟩ := hd.get' (y.2 vs (hk H1 k))
  exact ⟨d, h1, .inl ⟨y.1, h2⟩⟩
/-- a still list or tuple: what stays true of it -/
theorem frS_ok {d : D} {v : V} (hv : RelD K r H d v) (e : frS d = some ds) : ∃ a vs, v = .ref a ∧ RelDs K r H ds vs ∧ ((∀ H1, Keeps r H H1 → SqL K H1 a vs) ∨ (∀ H1, Keeps r H H1 → SqT K H1 a vs)) := by
  cases d with
  | tup xs =>
    cases e
    obtain ⟨a, vs, rfl, h1, o, h2⟩ := hv
    exact ⟨a, vs, rfl, h2, .inr fun H1 k => .of (k a _ h1 o)⟩
  | kt xs =>
    cases e
    obtain ⟨a, vs, rfl, h1, h2⟩ := hv
    exact ⟨a, vs, rfl, h2, .inr fun H1 k => sqT_k h1⟩
  | tf xs =>
    cases e
    obtain ⟨a, vs, rfl, ⟨ob, h1, _⟩, o, h2⟩ := hv
    exact ⟨a, vs, rfl, h2, .inr fun H1 k => .inl (.inr ⟨ob, k a _ h1 o⟩)⟩
  | lst xs =>
    cases e
    obtain ⟨a, vs, rfl, h1, o, h2⟩ := hv
    exact ⟨a, vs, rfl, h2, .inl fun H1 k => sqL_keep h1 o k⟩
  | fz xs =>
    cases e
    obtain ⟨a, vs, rfl, h1, h2⟩ := hv
    exact ⟨a, vs, rfl, h2, .inl fun H1 k => lstAt_keep h1 k⟩
  | _ => cases e
theorem Keeps.refl : Keeps r H H := fun _ _ h _ => h
end
theorem zi_seq {X : Cx} {tg l : Expr} {t : ZE} (hl : PZ X l t) : PZI X tg l (ziSeq t) := PIimp (pi_sq hl) fun s H W ⟨r, zs, h, Q0, R, S, q, u⟩ =>
  ⟨r, zs, h, _, R, S, q, fun d h1 r1 v1 H1 q1 E1 R1 D1 => by
    cases e : frS d with
    | none => rw [e] at q1; exact q1.elim
    | some ds =>
      rw [e] at q1
      obtain ⟨a, vs, rfl, h2, h3⟩ := frS_ok D1 e
      refine ⟨a, rfl, ?_⟩
      rcases h3 with h3 | h3
      · exact .inl ⟨⟨vs, h3 H1 .refl⟩, u ds h1 r1 H1 _ q1 E1 R1 (zwalk_list h3 h2)⟩
      · exact .inr ⟨⟨vs, h3 H1 .refl⟩, u ds h1 r1 H1 _ q1 E1 R1 (zwalk_tup h3 h2)⟩⟩
/-! ### ranges -/
def zrange (c : Int) : Int → Nat → List D
  | _, 0 => []
  | lo, n + 1 => .int lo :: zrange c (lo + c) n
theorem zrange_length (c : Int) : ∀ (lo : Int) (n : Nat), (zrange c lo n).length = n
  | _, 0 => rfl
  | lo, n + 1 => by
    show (zrange c (lo + c) n).length + 1 = n + 1
    rw [zrange_length c (lo + c) n]
theorem zrange_get (c : Int) : ∀ (lo : Int) (n i : Nat), i < n → (zrange c lo n)[i]? = some (.int (lo + (i : Nat) * c))
  | _, 0, i, h => absurd h (Nat.not_lt_zero i)
  | lo, n + 1, 0, h => by
    show some (D.int lo) = _
    rw [show ((0 : Nat) : Int) * c = 0 by simp, Int.add_zero]
  | lo, n + 1, i + 1, h => by
    show (zrange c (lo + c) n)[i]? = _
    rw [zrange_get c (lo + c) n i (by omega)]
    have : ((i + 1 : Nat) : Int) * c = (i : Nat) * c + c := by
      rw [Int.natCast_add, Int.add_mul]; simp
    rw [this]
    congr 2
    omega
theorem zwalk_range {K : PySem.W.Frag} {r : Wd} {H : Hp} {lo : Int} {n : Nat} : ZWalk K (Itr lo n) (zrange 1 lo n) r H :=
  ⟨fun _ _ => by rw [zrange_length]; exact Nat.le_refl n, fun i _ hi _ => by rw [zrange_length] at hi; exact hi, fun i H1 x H2 hi _ y => by
    rw [zrange_length] at hi
    refine ⟨_, zrange_get 1 lo n i hi, .inl ⟨y.1, ?_⟩⟩
    rw [Int.mul_one]
    exact y.2⟩
theorem zwalk_rangeC {K : PySem.W.Frag} {r : Wd} {H : Hp} {lo c : Int} {n : Nat} : ZWalk K (Itc lo c n) (zrange c lo n) r H :=
  ⟨fun _ _ => by rw [zrange_length]; exact Nat.le_refl n, fun i _ hi _ => by rw [zrange_length] at hi; exact hi, fun i H1 x H2 hi _ y => by
    rw [zrange_length] at hi
    exact ⟨_, zrange_get c lo n i hi, .inl ⟨y.1, y.2⟩⟩⟩
def ziR1 (t : ZA) : ZI := fun zs h Q => t zs h fun ds h1 => match ds with
  | [.int j] => (-(2 ^ 62) ≤ j ∧ j < 2 ^ 62) ∧ Q (zrange 1 0 j.toNat) h1
  | _ => False
def ziR2 (t : ZA) : ZI := fun zs h Q => t zs h fun ds h1 => match ds with
  | [.int i, .int j] => (-(2 ^ 62) ≤ i ∧ i < 2 ^ 62 ∧ -(2 ^ 62) ≤ j ∧ j < 2 ^ 62) ∧ Q (zrange 1 i (j - i).toNat) h1
  | _ => False
/-- downwards by one -/
def ziR3 (t : ZA) : ZI := fun zs h Q => t zs h fun ds h1 => match ds with
  | [.int i, .int j, .int k] => (-(2 ^ 62) ≤ i ∧ i < 2 ^ 62 ∧ -(2 ^ 62) ≤ j ∧ j < 2 ^ 62) ∧ k = -1 ∧ Q (zrange (-1) i (i - j).toNat) h1
  | _ => False
section
variable {X : Cx} {tg a b c : Expr} {t : ZA} {p pos : Pos}
theorem zi_range1 (hm : X.mg "range" = none) (ha : PZA X [a] t) (hg : Gl X "range" := by rfl) (hs : starEach [a] X.env = [(false, eval a X.env)] := by rfl) : PZI X tg (.Call (.Name "range" p) [a] [] pos) (ziR1 t) :=
  PIimp (pi_range1 hg hm ha hs) fun s H W ⟨r, zs, h, Q0, R, S, q, u⟩ => ⟨r, zs, h, _, R, S, q, fun ds h1 r1 vs H1 q1 E1 R1 D1 => by
    split at q1
    · rename_i j
      obtain ⟨v, ws, rfl, e1, e2⟩ := D1
      have e2 : ws = [] := e2
      have e1 : v = .int j := e1
      subst e1 e2
      exact ⟨j, rfl, q1.1.1, q1.1.2, u _ h1 r1 H1 _ q1.2 E1 R1 zwalk_range⟩
    · exact q1.elim⟩
theorem zi_range2 (hm : X.mg "range" = none) (ha : PZA X [a, b] t) (hg : Gl X "range" := by rfl) (hs : starEach [a, b] X.env = [(false, eval a X.env), (false, eval b X.env)] := by rfl) (hs2 : starEach [b] X.env = [(false, eval b X.env)] := by rfl) : PZI X tg (.Call (.Name "range" p) [a, b] [] pos) (ziR2 t) :=
  PIimp (pi_range2 hg hm ha hs hs2) fun s H W ⟨r, zs, h, Q0, R, S, q, u⟩ => ⟨r, zs, h, _, R, S, q, fun ds h1 r1 vs H1 q1 E1 R1 D1 => by
    split at q1
    · rename_i i j
      obtain ⟨v, ws, rfl, e1, v2, w2, rfl, e2, e3⟩ := D1
      have e3 : w2 = [] := e3
      have e1 : v = .int i := e1
      have e2 : v2 = .int j := e2
      subst e1 e2 e3
      exact ⟨i, j, rfl, q1.1, u _ h1 r1 H1 _ q1.2 E1 R1 zwalk_range⟩
    · exact q1.elim⟩
theorem zi_range3 (hm : X.mg "range" = none) (ha : PZA X [a, b, c] t) (hg : Gl X "range" := by rfl) (hs : starEach [a, b, c] X.env = (false, eval a X.env) :: starEach [b, c] X.env := by rfl) (hpl : (backTo pos (starEach [b, c] X.env)).any (·.1) = false := by rfl) : PZI X tg (.Call (.Name "range" p) [a, b, c] [] pos) (ziR3 t) :=
  PIimp (pi_range3 hg hm ha hs hpl) fun s H W ⟨r, zs, h, Q0, R, S, q, u⟩ => ⟨r, zs, h, _, R, S, q, fun ds h1 r1 vs H1 q1 E1 R1 D1 => by
    split at q1
    · rename_i i j k
      obtain ⟨v, ws, rfl, e1, v2, w2, rfl, e2, v3, w3, rfl, e3, e4⟩ := D1
      have e4 : w3 = [] := e4
      have e1 : v = .int i := e1
      have e2 : v2 = .int j := e2
      have e3 : v3 = .int k := e3
      obtain ⟨⟨b1, b2, b3, b4⟩, rfl, q1⟩ := q1
      subst e1 e2 e3 e4
      exact ⟨i, j, -1, (i - j).toNat, rfl, RgC.neg b1 b2 b3 b4, u _ h1 r1 H1 _ q1 E1 R1 zwalk_rangeC⟩
    · exact q1.elim⟩
end
/-! ### enumerate(list or tuple) -/
set_option maxHeartbeats 4000000 in
theorem enum_newT {v : Value} {o : Obj} {G : Heap → Prop} (B : Begins v o G) : Meets (Builtin.«enumerate.__new__» ⟨[.type "enumerate", v], []⟩) (fun _ F s => G s.heap ∧
      F (.ok (.ret (.ref (s.heap.push o).objs.size))) { s with heap := (s.heap.push o).push { cls := .type "enumerate", data := .fields #[.none, .bool false, .ref s.heap.objs.size, rawInt 0, .none, .none] } }) :=
  .of_wp fun prog w A F s ⟨h1, h2⟩ => by
    obtain ⟨hp, gs, dr, tk, os⟩ := s
    have hsub := sub_enumerate
    have q1 : ∀ {A' : Around} {E : Value → Shared → Prop} {Q : Value → Shared → Prop}, Q (.ref hp.objs.size) ⟨hp.push o, gs, dr, tk, os⟩ → wpAny (model prog w) A' (pyIter v) Q E ⟨hp, gs, dr, tk, os⟩ :=
      fun z => B.iter prog w _ _ ⟨hp, gs, dr, tk, os⟩ _ h1 z
    wp_walk using q1
    refine wpAny_stack_any fun st => wpAny_pure ?_
    split
    · rename_i c _ _ _ _ _
      cases (c == Value.type "enumerate") <;> (wp_walk using q1; exact ⟨_, rfl, h2⟩)
    · wp_walk using q1
      exact ⟨_, rfl, h2⟩
theorem call_enumT {prog : Program} {w : World} {A : Around} {E : Value → Shared → Prop} {s : Shared} {v : Value} {o : Obj} {G : Heap → Prop} {Q : Value → Shared → Prop} (B : Begins v o G) (h1 : G s.heap)
    (h : ∀ h', IsEnum h' (s.heap.objs.size + 1) s.heap.objs.size 0 .none → h'.get? s.heap.objs.size = some o → (∀ b u, s.heap.get? b = some u → h'.get? b = some u) → Q (.ref (s.heap.objs.size + 1)) { s with heap := h' }) :
    wpAny (model prog w) A (call (.type "enumerate") [v]) Q E s := by
  refine callType_new F.called_enumerate (by decide) (F.typeCall_enumerate_1 _) (F.newCall_enumerate_1 _) (fun ob => F.args_object_init_2 ob _) F.entry_enumerate_new (enum_newT B) ⟨h1, ?_⟩
  have e1 : (s.heap.push o).objs.size = s.heap.objs.size + 1 := Heap.size_push ..
  have e2 := Heap.get?_push_size (s.heap.push o) (o := { cls := .type "enumerate", data := .fields #[.none, .bool false, .ref s.heap.objs.size, rawInt 0, .none, .none] }) rfl
  show _ ∧ _
  rw [e1] at e2 ⊢
  exact ⟨⟨_, e2, rfl⟩, h _ e2 (Heap.get?_push_of_some _ (Heap.get?_push_size _ B.free)) fun b u x => Heap.get?_push_of_some _ (Heap.get?_push_of_some _ x)⟩
/-- the tuple at a, each item in a new pair -/
def IteT (K : PySem.W.Frag) (a : Addr) : It :=
  ⟨fun i H => ∃ (xs : List V) (x : V), SqT K H a xs ∧ xs[i]? = some x, fun i H v H' => ∃ T x, v = .ref T ∧ H T = none ∧ H' = upd H T (.tup [.int (i : Nat), x]) ∧ ∀ xs, SqT K H a xs → xs[i]? = some x, fun i H => ∃ xs : List V, SqT K H a xs ∧ xs.length = i⟩
theorem turn_enumT {P : Program} {w : World} {K : PySem.W.Frag} {elts : List Expr} {kk : Nat} {tpos : Pos} (a e it : Addr) :
    Turn P w K (.Tuple elts kk tpos) (IteT K a) [e, it] e (fun i h => (∃ old, IsEnum h e it ((i : Nat) : Int) old) ∧ h.IsTupleIter it a i ∧ e ≠ it ∧ a ≠ it ∧ a ≠ e) where
  mem := by simp
  obj := fun i h st b hb => by
    obtain ⟨⟨old, he⟩, ⟨o, ho, _, hd⟩, _⟩ := st
    rcases List.mem_cons.mp hb with z | z
    · exact ⟨_, by rw [z]; exact he, fun v q => by cases q⟩
    · exact ⟨o, by rw [List.mem_singleton.mp z]; exact ho, fun v q => by rw [hd] at q; cases q⟩
  keep := fun i h h' st k => by
    obtain ⟨⟨old, he⟩, hi, hne⟩ := st
    exact ⟨⟨old, k e (by simp) _ he⟩, hi.at fun o q => k it (by simp) o q, hne⟩
  item := by
    intro X eP eW eK hc i pins s σ H E I hf st0 go0
    obtain ⟨⟨old, he⟩, hit, hne, hai, hae⟩ := st0
    obtain ⟨xs, x, hq, hx⟩ := go0
    subst eP eW eK
    obtain ⟨its, rv, pt, _⟩ := I.tuple hq
    obtain ⟨u, hu, ru⟩ := rv.get hx
    have hel : e < s.heap.objs.size := Heap.lt_size he
    have hil : it < s.heap.objs.size := by
      obtain ⟨_, z, _⟩ := hit
      exact Heap.lt_size z
    have Dr := Draws.tuple (prog := X.prog) (w := X.w) (A := X.A.in1) (I.ok.hd hc) it a hai its.toArray
    have hu' : its.toArray[i]? = some u := by simpa using hu
    have hlt : i < its.toArray.size := (Array.getElem?_eq_some_iff.mp hu').1
    refine wpAny_pyNext_enum_itemC Dr he ⟨hit, pt⟩ hlt hne (by simp [hne, Ne.symm hae]) fun y h1 tk ey ho hst hT hsz hk => ?_
    have ey : its.toArray[i]? = some y := ey
    rw [hu'] at ey
    cases ey
    refine ⟨_, rfl, wpAny_letOwnedTupleGo_enum (s := { s with heap := h1, toks := tk + 1 }) ho fun h2 he2 sb => ?_⟩
    have hT2 : h2.get? s.heap.objs.size = some { cls := .type "tuple", data := .seq #[.int i tk, u] } := (sb.2 _ (Nat.ne_of_gt hel)).trans hT
    have laid : ObjOk X.prog X.w (upd H s.heap.objs.size (.tup [.int (i : Nat), x])) h2 s.heap.objs.size (.tup [.int (i : Nat), x]) :=
      ⟨by show 2 ≤ sizeLine; decide, [.int i tk, u], .cons ⟨_, rfl⟩ (.cons ru .nil), ⟨_, hT2, rfl, _, rfl⟩⟩
    have I2 : Inv X pins σ (upd H s.heap.objs.size (.tup [.int (i : Nat), x])) { s with heap := h2, toks := tk + 1 } :=
      I.turnedNew (ch := [e, it]) (fun b ob hb q => (sb.2 b fun z => hb (by simp [z])).trans (hk b ob (fun z => hb (by simp [z])) (fun z => hb (by simp [z])) q)) hf (Nat.le_refl _) laid
    refine ⟨.ref s.heap.objs.size, _, I2, rfl, ⟨_, x, rfl, I.hok.fresh (Nat.le_refl _), rfl, fun ys hy => by rw [I.tuple_inj hy hq]; exact hx⟩, ⟨⟨u, ?_⟩, hst.1.at fun o q => (sb.2 it (Ne.symm hne)).trans q, hne, hai, hae⟩, fun b hb => ?_⟩
    · rw [show ((i + 1 : Nat) : Int) = (i : Int) + 1 by omega]; exact he2
    · have hb' : b < s.heap.objs.size := by
        rcases List.mem_cons.mp hb with z | z
        · rw [z]; exact hel
        · rw [List.mem_singleton.mp z]; exact hil
      rw [upd_ne (Nat.ne_of_lt hb')]
      exact (hf b hb).1
  done := by
    intro X eP eW eK hc i pins s σ H E I hf st0 go0
    obtain ⟨⟨old, he⟩, hit, hne, hai, hae⟩ := st0
    obtain ⟨xs, hq, hx⟩ := go0
    subst eP eW eK
    obtain ⟨its, rv, pt, _⟩ := I.tuple hq
    obtain ⟨f0, f1, f2, f3, f4, f5⟩ := hf it (by simp)
    have hl : its.toArray.size = i := by rw [List.size_toArray, ← rv.length, hx]
    have Dr := Draws.tuple (prog := X.prog) (w := X.w) (A := X.A.in1) (I.ok.hd hc) it a hai its.toArray
    rw [hl] at Dr
    exact wpAny_pyNext_enum_endD Dr he ⟨hit, pt⟩ fun h' eb => ⟨rfl, I.turned (t' := s.toks) (fun b o hb q => eb b o hb q) f0 f1 f3 f4 f5⟩
  self := fun A i s Q E st h => by
    obtain ⟨⟨_, he⟩, _⟩ := st
    exact wpAny_pyIter_enum he h
end Z
/-! Z7: enumerate, zip walked; len, tuple(..), list(..), isinstance, append, slices. -/
namespace Z
open PySem PySem.Spec PyProof.Rows L2
theorem pi_enumA {X : Cx} {e : Expr} {ta : TA} {p pos tpos : Pos} {elts : List Expr} {kk : Nat} (hg : Gl X "enumerate") (hm : X.mg "enumerate" = none) (ha : PA X [e] ta) (hs : starEach [e] X.env = [(false, eval e X.env)] := by rfl) :
    PI X (.Tuple elts kk tpos) (.Call (.Name "enumerate" p) [e] [] pos) (fun σ H W => ta σ H fun vs H1 => ∃ a xs, vs = [.ref a] ∧ ((SqL X.K H1 a xs ∧ W (Ite X.K a) H1) ∨ (SqT X.K H1 a xs ∧ W (IteT X.K a) H1))) := by
  refine ⟨fun pins s0 σ H W I0 h0 => Call_ (ld_blt I0 hg hm boot_enumerate (PyProof.Rows.callWith_type1 (thn (ha.run pos pins s0 σ H _ I0 h0) fun us s1 ⟨vs, H1, I1, rv, a, xs, ev, z⟩ => ?_) hs rfl))⟩
  subst ev
  obtain ⟨u, rfl, ru⟩ := vals1 rv
  have ru : u = Value.ref a := ru
  subst ru
  have fp2 : ∀ b ∈ [s1.heap.objs.size + 1, s1.heap.objs.size], FpOk X pins H1 b := fun b hb => by
    have hle : s1.heap.objs.size ≤ b := by
      rcases List.mem_cons.mp hb with q | q
      · rw [q]; exact Nat.le_succ _
      · rw [List.mem_singleton.mp q]; exact Nat.le_refl _
    exact I1.fpOk hle (I1.hok.fresh hle)
  rcases z with ⟨hq, z⟩ | ⟨hq, z⟩
  · obtain ⟨its, _, pl, _⟩ := I1.list hq
    exact call_enumerate_list pl.isList fun h1 he hit _ hk => wpAny_pyIter_enum he ⟨_, _, _, _, H1, rfl, I1.kept (t' := s1.toks) hk, turn_enum a _ _, ⟨⟨.none, he⟩, hit, Nat.succ_ne_self _⟩, fp2, z⟩
  · obtain ⟨its, _, pt, _⟩ := I1.tuple hq
    have hlt : a < s1.heap.objs.size := pt.lt
    exact call_enumT (begins_tuple a its.toArray) pt fun h1 he hit hk => wpAny_pyIter_enum he ⟨_, _, _, _, H1, rfl, I1.kept (t' := s1.toks) hk, turn_enumT a _ _, ⟨⟨.none, he⟩, ⟨_, hit, rfl, rfl⟩, Nat.succ_ne_self _, Nat.ne_of_lt hlt, Nat.ne_of_lt (Nat.lt_succ_of_lt hlt)⟩, fp2, z⟩
def zenum : Nat → List D → List D
  | _, [] => []
  | k, d :: ds => .tup [.int k, d] :: zenum (k + 1) ds
theorem zenum_length : ∀ (k : Nat) (ds : List D), (zenum k ds).length = ds.length
  | _, [] => rfl
  | k, d :: ds => by
    show (zenum (k + 1) ds).length + 1 = ds.length + 1
    rw [zenum_length (k + 1) ds]
theorem zenum_get : ∀ (k : Nat) (ds : List D) (i : Nat) (d : D), ds[i]? = some d → (zenum k ds)[i]? = some (.tup [.int ((k + i : Nat)), d])
  | k, d0 :: ds, 0, d, e => by
    have e : d0 = d := by simpa using e
    subst e; rfl
  | k, d0 :: ds, i + 1, d, e => by
    show (zenum (k + 1) ds)[i]? = _
    rw [zenum_get (k + 1) ds i d (by simpa using e)]
    congr 5
    omega
def ziEnum (t : ZA) : ZI := fun zs h Q => t zs h fun ds h1 => match ds with
  | [d] => match frS d with
    | some xs => Q (zenum 0 xs) h1
    | none => False
  | _ => False
section
variable {K : PySem.W.Frag} {r : Wd} {H : Hp} {a : Addr} {vs : List V} {ds : List D}
theorem zwalk_enum (hk : ∀ H1, Keeps r H H1 → SqL K H1 a vs) (hd : RelDs K r H ds vs) : ZWalk K (Ite K a) (zenum 0 ds) r H := by
  have hl := hd.length
  refine ⟨fun H1 k => ⟨vs, hk H1 k, by rw [zenum_length]; omega⟩, fun i H1 hi k => ?_, fun i H1 x H2 hi k y => ?_⟩
  · rw [zenum_length] at hi
    exact ⟨vs, vs[i]'(by omega), hk H1 k, List.getElem?_eq_getElem (by omega)⟩
  · obtain ⟨T, z, e1, e2, e3, e4⟩ := y
    obtain ⟨d, h1, h2⟩ := hd.get' (e4 vs (hk H1 k))
    refine ⟨_, zenum_get 0 ds i d h1, .inr ⟨T, _, z, _, d, e1, e2, e3, rfl, ?_, h2⟩⟩
    rw [Nat.zero_add]; rfl
theorem zwalk_enumT (hk : ∀ H1, Keeps r H H1 → SqT K H1 a vs) (hd : RelDs K r H ds vs) : ZWalk K (IteT K a) (zenum 0 ds) r H := by
  have hl := hd.length
  refine ⟨fun H1 k => ⟨vs, hk H1 k, by rw [zenum_length]; omega⟩, fun i H1 hi k => ?_, fun i H1 x H2 hi k y => ?_⟩
  · rw [zenum_length] at hi
    exact ⟨vs, vs[i]'(by omega), hk H1 k, List.getElem?_eq_getElem (by omega)⟩
  · obtain ⟨T, z, e1, e2, e3, e4⟩ := y
    obtain ⟨d, h1, h2⟩ := hd.get' (e4 vs (hk H1 k))
    refine ⟨_, zenum_get 0 ds i d h1, .inr ⟨T, _, z, _, d, e1, e2, e3, rfl, ?_, h2⟩⟩
    rw [Nat.zero_add]; rfl
end
theorem zi_enum {X : Cx} {e : Expr} {t : ZA} {p pos tpos : Pos} {elts : List Expr} {kk : Nat} (hm : X.mg "enumerate" = none) (ha : PZA X [e] t) (hg : Gl X "enumerate" := by rfl) (hs : starEach [e] X.env = [(false, eval e X.env)] := by rfl) :
    PZI X (.Tuple elts kk tpos) (.Call (.Name "enumerate" p) [e] [] pos) (ziEnum t) := PIimp (pi_enumA hg hm ha hs) fun s H W ⟨r, zs, h, Q0, R, S, q, u⟩ =>
  ⟨r, zs, h, _, R, S, q, fun ds h1 r1 vs H1 q1 E1 R1 D1 => by
    split at q1
    · rename_i d
      obtain ⟨v, ws, rfl, d1, d2⟩ := D1
      have d2 : ws = [] := d2
      subst d2
      split at q1
      · rename_i xs e
        obtain ⟨a, vs, rfl, h2, h3⟩ := frS_ok d1 e
        refine ⟨a, vs, rfl, ?_⟩
        rcases h3 with h3 | h3
        · exact .inl ⟨h3 H1 .refl, u _ h1 r1 H1 _ q1 E1 R1 (zwalk_enum h3 h2)⟩
        · exact .inr ⟨h3 H1 .refl, u _ h1 r1 H1 _ q1 E1 R1 (zwalk_enumT h3 h2)⟩
      · exact q1.elim
    · exact q1.elim⟩
/-! ### zip of two lists or of two tuples -/
def isTupD : D → Bool
  | .tup _ => true
  | .kt _ => true
  | .tf _ => true
  | _ => false
def zzip : List D → List D → List D
  | x :: xs, y :: ys => .tup [x, y] :: zzip xs ys
  | _, _ => []
theorem zzip_length : ∀ (xs ys : List D), (zzip xs ys).length = min xs.length ys.length
  | [], ys => by
    show 0 = min 0 ys.length
    omega
  | x :: xs, [] => by
    show 0 = min (xs.length + 1) 0
    omega
  | x :: xs, y :: ys => by
    show (zzip xs ys).length + 1 = min (xs.length + 1) (ys.length + 1)
    rw [zzip_length xs ys]
    omega
theorem zzip_get : ∀ (xs ys : List D) (i : Nat) (x y : D), xs[i]? = some x → ys[i]? = some y → (zzip xs ys)[i]? = some (.tup [x, y])
  | x0 :: xs, y0 :: ys, 0, x, y, e1, e2 => by
    have e1 : x0 = x := by simpa using e1
    have e2 : y0 = y := by simpa using e2
    subst e1 e2; rfl
  | x0 :: xs, y0 :: ys, i + 1, x, y, e1, e2 => zzip_get xs ys i x y (by simpa using e1) (by simpa using e2)
def ziZip (t : ZA) : ZI := fun zs h Q => t zs h fun ds h1 => match ds with
  | [c, d] => isTupD c = isTupD d ∧ match frS c, frS d with
    | some xs, some ys => Q (zzip xs ys) h1
    | _, _ => False
  | _ => False
/-- .. told apart: lists | tuples -/
theorem frS_ok2 {K : PySem.W.Frag} {r : Wd} {H : Hp} {ds : List D} {d : D} {v : V} (hv : RelD K r H d v) (e : frS d = some ds) : ∃ a vs, v = .ref a ∧ RelDs K r H ds vs ∧ ((isTupD d = false ∧ ∀ H1, Keeps r H H1 → SqL K H1 a vs) ∨ (isTupD d = true ∧ ∀ H1, Keeps r H H1 → SqT K H1 a vs)) := by
  cases d with
  | tup xs =>
    cases e
    obtain ⟨a, vs, rfl, h1, o, h2⟩ := hv
    exact ⟨a, vs, rfl, h2, .inr ⟨rfl, fun H1 k => .of (k a _ h1 o)⟩⟩
  | kt xs =>
    cases e
    obtain ⟨a, vs, rfl, h1, h2⟩ := hv
    exact ⟨a, vs, rfl, h2, .inr ⟨rfl, fun H1 k => sqT_k h1⟩⟩
  | tf xs =>
    cases e
    obtain ⟨a, vs, rfl, ⟨ob, h1, _⟩, o, h2⟩ := hv
    exact ⟨a, vs, rfl, h2, .inr ⟨rfl, fun H1 k => .inl (.inr ⟨ob, k a _ h1 o⟩)⟩⟩
  | lst xs =>
    cases e
    obtain ⟨a, vs, rfl, h1, o, h2⟩ := hv
    exact ⟨a, vs, rfl, h2, .inl ⟨rfl, fun H1 k => sqL_keep h1 o k⟩⟩
  | fz xs =>
    cases e
    obtain ⟨a, vs, rfl, h1, h2⟩ := hv
    exact ⟨a, vs, rfl, h2, .inl ⟨rfl, fun H1 k => lstAt_keep h1 k⟩⟩
  | _ => cases e
theorem zi_zip {X : Cx} {e e2 : Expr} {t : ZA} {p pos tpos : Pos} {elts : List Expr} {kk : Nat} (hm : X.mg "zip" = none) (ha : PZA X [e, e2] t) (hg : Gl X "zip" := by rfl)
    (hs : starEach [e, e2] X.env = (false, eval e X.env) :: starEach [e2] X.env := by rfl) (hpl : (backTo pos (starEach [e2] X.env)).any (·.1) = false := by rfl) :
    PZI X (.Tuple elts kk tpos) (.Call (.Name "zip" p) [e, e2] [] pos) (ziZip t) := PIimp (RZ.pi_zipA hg hm ha hs hpl) fun s H W ⟨r, zs, h, Q0, R, S, q, u⟩ =>
  ⟨r, zs, h, _, R, S, q, fun ds h1 r1 vs H1 q1 E1 R1 D1 => by
    split at q1
    · rename_i c d
      obtain ⟨v, ws, rfl, d1, v2, w2, rfl, d2, d3⟩ := D1
      have d3 : w2 = [] := d3
      subst d3
      obtain ⟨et, q1⟩ := q1
      split at q1
      · rename_i xs ys e1 e2
        obtain ⟨a, vs, rfl, h2, h3⟩ := frS_ok2 d1 e1
        obtain ⟨b, us, rfl, h4, h5⟩ := frS_ok2 d2 e2
        have l1 := h2.length
        have l2 := h4.length
        refine ⟨a, b, vs, us, rfl, ?_⟩
        rcases h3 with ⟨n1, h3⟩ | ⟨n1, h3⟩
        · rcases h5 with ⟨n2, h5⟩ | ⟨n2, h5⟩
          · refine .inl ⟨h3 H1 .refl, h5 H1 .refl, u _ h1 r1 H1 _ q1 E1 R1 ⟨fun H1 k => ⟨vs, us, h3 H1 k, h5 H1 k, by rw [zzip_length]; omega⟩, fun i H1 hi k => ?_, fun i H1 x H2 hi k y => ?_⟩⟩
            · rw [zzip_length] at hi
              exact ⟨vs, us, vs[i]'(by omega), us[i]'(by omega), h3 H1 k, h5 H1 k, List.getElem?_eq_getElem (by omega), List.getElem?_eq_getElem (by omega)⟩
            · obtain ⟨T, z1, z2, y1, y2, y3, y4, y5⟩ := y
              obtain ⟨dx, g1, g2⟩ := h2.get' (y4 vs (h3 H1 k))
              obtain ⟨dy, g3, g4⟩ := h4.get' (y5 us (h5 H1 k))
              exact ⟨_, zzip_get xs ys i dx dy g1 g3, .inr ⟨T, z1, z2, dx, dy, y1, y2, y3, rfl, g2, g4⟩⟩
          · rw [n1, n2] at et; cases et
        · rcases h5 with ⟨n2, h5⟩ | ⟨n2, h5⟩
          · rw [n1, n2] at et; cases et
          · refine .inr ⟨h3 H1 .refl, h5 H1 .refl, u _ h1 r1 H1 _ q1 E1 R1 ⟨fun H1 k => ⟨vs, us, h3 H1 k, h5 H1 k, by rw [zzip_length]; omega⟩, fun i H1 hi k => ?_, fun i H1 x H2 hi k y => ?_⟩⟩
            · rw [zzip_length] at hi
              exact ⟨vs, us, vs[i]'(by omega), us[i]'(by omega), h3 H1 k, h5 H1 k, List.getElem?_eq_getElem (by omega), List.getElem?_eq_getElem (by omega)⟩
            · obtain ⟨T, z1, z2, y1, y2, y3, y4, y5⟩ := y
              obtain ⟨dx, g1, g2⟩ := h2.get' (y4 vs (h3 H1 k))
              obtain ⟨dy, g3, g4⟩ := h4.get' (y5 us (h5 H1 k))
              exact ⟨_, zzip_get xs ys i dx dy g1 g3, .inr ⟨T, z1, z2, dx, dy, y1, y2, y3, rfl, g2, g4⟩⟩
      · exact q1.elim
    · exact q1.elim⟩
/-! ### built-in calls -/
section
variable {K : PySem.W.Frag}
def zLen : Zn := fun ds h Q => match ds with
  | [.str s] => s.length ≤ sizeLine ∧ Q (.int s.length) h
  | [d] => match sqR h d with
    | some xs => Q (.int xs.length) h
    | none => match dkM h d with
      | some (ks, _) => Q (.int ks.length) h
      | none => match dtM h d with
        | some (ks, _) => Q (.int ks.length) h
        | none => False
  | _ => False
def rLenAll (K : PySem.W.Frag) : List V → Hp → VK → Prop := fun xs H Q => (((∃ x n, xs = [x] ∧ LenV K x H n ∧ Q (.int n) H)) ∨ (∃ a kvs, xs = [V.ref a] ∧ H a = some (.dK kvs) ∧ Q (.int kvs.length) H)) ∨ rLenT xs H Q
theorem call_lenAll {X : Cx} : CallR X (.builtin "len") (rLenAll X.K) := CallR.or (CallR.or call_len call_lenD) call_len_dT
theorem l_len : RnZ K (rLenAll K) zLen := fun r h H vs ds Q Q0 R hd q u => by
  unfold zLen at q
  split at q
  · rename_i s
    obtain ⟨v, ws, rfl, e1, e2⟩ := hd
    have e1 : v = .str s := e1
    have e2 : ws = [] := e2
    subst e1 e2
    exact .inl (.inl ⟨_, s.length, rfl, ⟨q.1, rfl⟩, u _ h r _ H q.2 (.refl _ _) R rfl⟩)
  · rename_i d _
    obtain ⟨v, ws, rfl, e1, e2⟩ := hd
    have e2 : ws = [] := e2
    subst e2
    split at q
    · rename_i xs e
      obtain ⟨a, vs, rfl, h1, h2⟩ := sqR_ok R e1 e
      have fin := u _ h r (.int vs.length) H q (.refl _ _) R (by rw [h2.length]; rfl)
      rcases h1 with h1 | h1
      · exact .inl (.inl ⟨_, vs.length, rfl, .inl ⟨vs, h1, rfl⟩, fin⟩)
      · exact .inl (.inl ⟨_, vs.length, rfl, .inr ⟨vs, h1, rfl⟩, fin⟩)
    · split at q
      · rename_i ks ws e
        obtain ⟨a, vs, rfl, h1, h2, h3⟩ := dkM_ok R e1 e
        refine .inl (.inr ⟨a, _, rfl, h1, ?_⟩)
        rw [List.length_zip, ← h2, Nat.min_self]
        exact u _ h r _ H q (.refl _ _) R rfl
      · split at q
        · rename_i ks ws e
          obtain ⟨a, vs, rfl, h1, h2, h3⟩ := dtM_ok R e1 e
          refine .inr ⟨a, _, rfl, h1, ?_⟩
          rw [List.length_zip, ← h2, Nat.min_self]
          exact u _ h r _ H q (.refl _ _) R rfl
        · exact q.elim
  · exact q.elim
/-- tuple(xs) -/
def zTuple : Zn := fun ds h Q => match ds with
  | [.tup xs] => Q (.tup xs) h
  | [.kt xs] => Q (.kt xs) h
  | [d] => match lsR h d with
    | some xs => Q (.tup xs) h
    | none => False
  | _ => False
theorem l_tuple : RnZ K (fun xs H Q => ∃ p ys, xs = [.ref p] ∧ ((SqL K H p ys ∧ ∀ l, H l = none → Q (.ref l) (upd H l (.tup ys))) ∨ (SqT K H p ys ∧ Q (.ref p) H))) zTuple := fun r h H vs ds Q Q0 R hd q u => by
  unfold zTuple at q
  split at q
  · obtain ⟨v, ws, rfl, e1, e2⟩ := hd
    have e2 : ws = [] := e2
    subst e2
    obtain ⟨a, vs, rfl, h1, o, h2⟩ := e1
    exact ⟨a, vs, rfl, .inr ⟨.of h1, u _ h r _ H q (.refl _ _) R ⟨a, vs, rfl, h1, o, h2⟩⟩⟩
  · obtain ⟨v, ws, rfl, e1, e2⟩ := hd
    have e2 : ws = [] := e2
    subst e2
    obtain ⟨a, vs, rfl, h1, h2⟩ := e1
    exact ⟨a, vs, rfl, .inr ⟨sqT_k h1, u _ h r _ H q (.refl _ _) R ⟨a, vs, rfl, h1, h2⟩⟩⟩
  · obtain ⟨v, ws, rfl, e1, e2⟩ := hd
    have e2 : ws = [] := e2
    subst e2
    split at q
    · rename_i xs e
      obtain ⟨a, vs, rfl, h1, h2⟩ := lsR_ok R e1 e
      exact ⟨a, vs, rfl, .inl ⟨h1, fun p hp => u _ h r _ _ q (Ext.laid R hp) (R.laid hp) ⟨p, vs, rfl, upd_same, R.out hp, RelDs.mono (Ext.laid R hp) _ _ h2⟩⟩⟩
    · exact q.elim
  · exact q.elim
/-- list(xs) -/
def zList (m : Bool) : Zn := fun ds h Q => match ds with
  | [d] => match sqR h d with
    | some xs => newL m xs h Q
    | none => False
  | _ => False
theorem l_list (m : Bool) : RnZ K (fun xs H Q => ∃ p ys, xs = [.ref p] ∧ (SqL K H p ys ∨ SqT K H p ys) ∧ ∀ l, H l = none → Q (.ref l) (upd H l (.lst ys))) (zList m) := fun r h H vs ds Q Q0 R hd q u => by
  unfold zList at q
  split at q
  · obtain ⟨v, ws, rfl, e1, e2⟩ := hd
    have e2 : ws = [] := e2
    subst e2
    split at q
    · rename_i xs e
      obtain ⟨a, vs, rfl, h1, h2⟩ := sqR_ok R e1 e
      exact ⟨a, vs, rfl, h1, fun p hp => up_newL R h2 q u hp⟩
    · exact q.elim
  · exact q.elim
def zAbs : Zn := fun ds h Q => match ds with
  | [.int i] => Q (.int (if i < 0 then -i else i)) h
  | _ => False
theorem l_abs : RnZ K (fun xs H Q => ∃ i, xs = [.int i] ∧ Q (.int (if i < 0 then -i else i)) H) zAbs := fun r h H vs ds Q Q0 R hd q u => by
  unfold zAbs at q
  split at q
  · rename_i i
    obtain ⟨v, ws, rfl, e1, e2⟩ := hd
    have e1 : v = .int i := e1
    have e2 : ws = [] := e2
    subst e1 e2
    exact ⟨i, rfl, u _ h r _ H q (.refl _ _) R rfl⟩
  · exact q.elim
def zInt1 : Zn := fun ds h Q => match ds with
  | [.int i] => Q (.int i) h
  | [.bl true] => Q (.int 1) h
  | [.bl false] => Q (.int 0) h
  | _ => False
theorem l_int1 : RnZ K (fun xs H Q => (∃ i, xs = [.int i] ∧ Q (.int i) H) ∨ ∃ k, xs = [.bl k] ∧ Q (.int (if k then 1 else 0)) H) zInt1 := fun r h H vs ds Q Q0 R hd q u => by
  unfold zInt1 at q
  split at q
  · rename_i i
    obtain ⟨v, ws, rfl, e1, e2⟩ := hd
    have e1 : v = .int i := e1
    have e2 : ws = [] := e2
    subst e1 e2
    exact .inl ⟨i, rfl, u _ h r _ H q (.refl _ _) R rfl⟩
  · obtain ⟨v, ws, rfl, e1, e2⟩ := hd
    have e1 : v = .bl true := e1
    have e2 : ws = [] := e2
    subst e1 e2
    exact .inr ⟨true, rfl, u _ h r _ H q (.refl _ _) R rfl⟩
  · obtain ⟨v, ws, rfl, e1, e2⟩ := hd
    have e1 : v = .bl false := e1
    have e2 : ws = [] := e2
    subst e1 e2
    exact .inr ⟨false, rfl, u _ h r _ H q (.refl _ _) R rfl⟩
  · exact q.elim
def zDivmod : Zn := fun ds h Q => match ds with
  | [.int i, .int j] => (0 < j ∧ j < 1073741824) ∧ Q (.tup [.int (i / j), .int (i % j)]) h
  | _ => False
theorem l_divmod : RnZ K (fun xs H Q => ∃ i j, xs = [.int i, .int j] ∧ CDiv i j ∧ ∀ p, H p = none → Q (.ref p) (upd H p (.tup [.int (i / j), .int (i % j)]))) zDivmod := fun r h H vs ds Q Q0 R hd q u => by
  unfold zDivmod at q
  split at q
  · rename_i i j
    obtain ⟨v, ws, rfl, e1, v2, w2, rfl, e2, e3⟩ := hd
    have e1 : v = .int i := e1
    have e2 : v2 = .int j := e2
    have e3 : w2 = [] := e3
    subst e1 e2 e3
    exact ⟨i, j, rfl, q.1, fun p hp => u _ h r _ _ q.2 (Ext.laid R hp) (R.laid hp) ⟨p, _, rfl, upd_same, R.out hp, _, _, rfl, rfl, _, _, rfl, rfl, rfl⟩⟩
  · exact q.elim
def zMin2 : Zn := fun ds h Q => match ds with
  | [.int i, .int j] => Q (.int (if j < i then j else i)) h
  | _ => False
theorem l_min2 : RnZ K (fun xs H Q => ∃ i j, xs = [.int i, .int j] ∧ Q (.int (if j < i then j else i)) H) zMin2 := fun r h H vs ds Q Q0 R hd q u => by
  unfold zMin2 at q
  split at q
  · rename_i i j
    obtain ⟨v, ws, rfl, e1, v2, w2, rfl, e2, e3⟩ := hd
    have e1 : v = .int i := e1
    have e2 : v2 = .int j := e2
    have e3 : w2 = [] := e3
    subst e1 e2 e3
    exact ⟨i, j, rfl, u _ h r _ H q (.refl _ _) R rfl⟩
  · exact q.elim
/-! isinstance against a built-in class -/
def tyName (h : AH) : D → Option String
  | .non => some "NoneType"
  | .bl _ => some "bool"
  | .int _ => some "int"
  | .str _ => some "str"
  | .tup _ => some "tuple"
  | .tf _ => some "tuple"
  | .lst _ => some "list"
  | .dK _ _ => some "dict"
  | .dT _ _ => some "dict"
  | .obj n => match h[n]? with
    | some (.lst _) => some "list"
    | some (.dK _ _) => some "dict"
    | some (.dT _ _) => some "dict"
    | _ => none
  | _ => none
theorem tyName_ok {r : Wd} {h : AH} {H : Hp} (R : RH K r h H) {d : D} {v : V} {n : String} (hv : RelD K r H d v) (e : tyName h d = some n) : TyX K H v (.type n) := by
  cases d with
  | non => cases e; have hv : v = .non := hv; subst hv; exact .base .non
  | bl b => cases e; have hv : v = .bl b := hv; subst hv; exact .base (.bl b)
  | int b => cases e; have hv : v = .int b := hv; subst hv; exact .base (.int b)
  | str b => cases e; have hv : v = .str b := hv; subst hv; exact .base (.str b)
  | tup xs => cases e; obtain ⟨a, vs, rfl, h1, _⟩ := hv; exact .base (.tup h1)
  | tf xs => cases e; obtain ⟨a, vs, rfl, ⟨o, h1, _⟩, _⟩ := hv; exact .fTuple h1
  | lst xs => cases e; obtain ⟨a, vs, rfl, h1, _⟩ := hv; exact .base (.lst h1)
  | dK ks xs => cases e; obtain ⟨a, vs, rfl, h1, _⟩ := hv; exact .base (.dK h1)
  | dT ks xs => cases e; obtain ⟨a, vs, rfl, h1, _⟩ := hv; exact .base (.dT h1)
  | obj m =>
    have e : (match h[m]? with | some (.lst _) => some "list" | some (.dK _ _) => some "dict" | some (.dT _ _) => some "dict" | _ => none) = some n := e
    cases q : h[m]? with
    | none => rw [q] at e; cases e
    | some c =>
      rw [q] at e
      cases c with
      | lst xs => cases e; obtain ⟨a, rfl, _, vs, h1, _⟩ := R.get q hv; exact .base (.lst h1)
      | dK ks xs => cases e; obtain ⟨a, rfl, _, vs, h1, _⟩ := R.get q hv; exact .base (.dK h1)
      | dT ks xs => cases e; obtain ⟨a, rfl, _, vs, h1, _⟩ := R.get q hv; exact .base (.dT h1)
      | ins _ _ _ => cases e
  | _ => cases e
def zIsi : Zn := fun ds h Q => match ds with
  | [d, .ty n] => match tyName h d with
    | some t => match kitB t n with
      | some b => Q (.bl b) h
      | none => False
    | none => False
  | _ => False
theorem l_isi : RnZ K (rIsi K) zIsi := fun r h H vs ds Q Q0 R hd q u => by
  unfold zIsi at q
  split at q
  · rename_i d n
    obtain ⟨v, ws, rfl, e1, v2, w2, rfl, e2, e3⟩ := hd
    have e2 : v2 = .ty n := e2
    have e3 : w2 = [] := e3
    subst e2 e3
    split at q
    · rename_i t et
      split at q
      · rename_i b eb
        exact ⟨v, .ty n, .type t, .type n, b, rfl, .ty n, tyName_ok R e1 et, kit_ty eb, u _ h r _ H q (.refl _ _) R rfl⟩
      · exact q.elim
    · exact q.elim
  · exact q.elim
end
end Z
/-! Z8: dict displays and comprehensions, dict(..), sorted, methods, slices, chains, keyword calls. -/
namespace Z
open PySem PySem.Spec PyProof.Rows L2
/-! ### a thing that is being made, apart from the handles -/
section
variable {K : PySem.W.Frag} {r1 r2 : Wd} {H1 Hx : Hp} {h1 h2 : AH} {p : Addr} {o : HO}
theorem enterE (hp : H1 p = none) : Ext r1 H1 ⟨r1.r, p :: r1.x⟩ (upd H1 p o) :=
  ⟨⟨[], by simp⟩, fun a u e n => ⟨by rw [upd_ne (ne_of_none e hp)]; exact e, n, fun z y => by
    rcases List.mem_cons.mp y with y | y
    · exact ne_of_none e hp y
    · exact z y⟩, fun a ha => List.mem_cons_of_mem _ ha⟩
theorem enterR (R : RH K r1 h1 H1) (hp : H1 p = none) : RH K ⟨r1.r, p :: r1.x⟩ h1 (upd H1 p o) := by
  refine ⟨R.len, R.nd, fun a ha => ?_, fun n c e => ?_, fun a ha => ?_⟩
  · rcases List.mem_cons.mp ha with z | z
    · rw [z]; exact R.new hp
    · exact R.xs a z
  · obtain ⟨a, e1, e2⟩ := R.cell n c e
    obtain ⟨u, hu⟩ := e2.there
    exact ⟨a, e1, e2.go (tr_enter hp) (upd_ne (ne_of_none hu hp))⟩
  · rcases List.mem_cons.mp ha with z | z
    · exact ⟨_, by rw [z, upd_same]⟩
    · obtain ⟨u, hu⟩ := R.px a z
      exact ⟨u, by rw [upd_ne (ne_of_none hu hp)]; exact hu⟩
theorem putE (E : Ext r1 H1 r2 Hx) (hp : H1 p = none) : Ext r1 H1 r2 (upd Hx p o) := ⟨E.pre, fun a u e n => by
  have z := E.keep a u e n
  exact ⟨by rw [upd_ne (ne_of_none e hp)]; exact z.1, z.2⟩, E.px⟩
theorem exitV (E : Ext r1 H1 r2 Hx) (R1 : RH K r1 h1 H1) (R : RH K r2 h2 Hx) (hp : H1 p = none) (hx : p ∈ r2.x) (hr : p ∉ r2.r) :
    Ext r1 H1 ⟨r2.r, r1.x⟩ Hx ∧ RH K ⟨r2.r, r1.x⟩ h2 Hx ∧ Tr r2 Hx ⟨r2.r, r1.x⟩ Hx ∧ Out ⟨r2.r, r1.x⟩ p := by
  have T : Tr r2 Hx ⟨r2.r, r1.x⟩ Hx := ⟨fun _ _ z => z, fun a o z y => ⟨z, y.1, fun w => y.2 (E.px a w)⟩⟩
  refine ⟨⟨E.pre, fun a o ea na => ⟨(E.keep a o ea na).1, (E.keep a o ea na).2.1, fun z => z⟩, fun a z => z⟩, ⟨R.len, R.nd, fun a z => R.xs a (E.px a z), fun n c e => ?_, fun a z => R.px a (E.px a z)⟩, T, hr, fun z => ?_⟩
  · obtain ⟨a, e1, e2⟩ := R.cell n c e
    exact ⟨a, e1, e2.go T rfl⟩
  · obtain ⟨u, hu⟩ := R1.px p z
    rw [hp] at hu; cases hu
theorem exitH (E : Ext r1 H1 r2 Hx) (R1 : RH K r1 h1 H1) (R : RH K r2 h2 Hx) (hp : H1 p = none) (hx : p ∈ r2.x) (hr : p ∉ r2.r) :
    Ext r1 H1 ⟨r2.r ++ [p], r1.x⟩ Hx ∧ (∀ c, RelC K ⟨r2.r ++ [p], r1.x⟩ Hx c p → RH K ⟨r2.r ++ [p], r1.x⟩ (h2 ++ [c]) Hx) ∧ Tr r2 Hx ⟨r2.r ++ [p], r1.x⟩ Hx ∧ (r2.r ++ [p])[h2.length]? = some p := by
  have px1 : p ∉ r1.x := fun z => by
    obtain ⟨u, hu⟩ := R1.px p z
    rw [hp] at hu; cases hu
  have hl := R.len
  have T : Tr r2 Hx ⟨r2.r ++ [p], r1.x⟩ Hx := ⟨fun n a z => by
    show (r2.r ++ [p])[n]? = some a
    rw [List.getElem?_append_left (List.getElem?_eq_some_iff.mp z).1]; exact z, fun a o z y => ⟨z, fun w => by
    rcases List.mem_append.mp w with w | w
    · exact y.1 w
    · exact y.2 (by rw [List.mem_singleton.mp w]; exact hx), fun w => y.2 (E.px a w)⟩⟩
  refine ⟨⟨?_, fun a o ea na => ⟨(E.keep a o ea na).1, fun w => ?_, fun z => z⟩, fun a z => z⟩, fun c hc => ⟨by simp [hl], nodup_push R.nd hr, fun a z w => ?_, fun n c' e => ?_, fun a z => R.px a (E.px a z)⟩, T, ?_⟩
  · obtain ⟨mo, em⟩ := E.pre
    exact ⟨mo ++ [p], by rw [em, List.append_assoc]⟩
  · rcases List.mem_append.mp w with w | w
    · exact (E.keep a o ea na).2.1 w
    · exact ne_of_none ea hp (List.mem_singleton.mp w)
  · rcases List.mem_append.mp w with w | w
    · exact R.xs a (E.px a z) w
    · exact px1 (by rw [← List.mem_singleton.mp w]; exact z)
  · by_cases hn : n < h2.length
    · rw [List.getElem?_append_left hn] at e
      obtain ⟨a, e1, e2⟩ := R.cell n c' e
      exact ⟨a, T.get n a e1, e2.go T rfl⟩
    · have hn' : n = h2.length := by
        have := (List.getElem?_eq_some_iff.mp e).1
        simp at this
        omega
      subst hn'
      rw [List.getElem?_append_right (Nat.le_refl _), Nat.sub_self] at e
      have e' : c = c' := by simpa using e
      subst e'
      refine ⟨p, ?_, hc⟩
      show (r2.r ++ [p])[h2.length]? = some p
      rw [← hl, List.getElem?_append_right (Nat.le_refl _), Nat.sub_self]; rfl
  · rw [← hl, List.getElem?_append_right (Nat.le_refl _), Nat.sub_self]; rfl
end
/-- a new dict: frozen, or a handle -/
def newDK (m : Bool) (ks : List Key) (vs : List D) (h : AH) (Q : ZK) : Prop := match m with
  | true => Q (.obj h.length) (h ++ [.dK ks vs])
  | false => Q (.dK ks vs) h
theorem up_exitDK {K : PySem.W.Frag} {r1 r2 : Wd} {H1 Hx : Hp} {h1 h2 : AH} {p : Addr} {m : Bool} {ks : List Key} {ds : List D} {vs : List V} {Q0 : ZK} {Q : VK} (E : Ext r1 H1 r2 Hx) (R1 : RH K r1 h1 H1) (R : RH K r2 h2 Hx) (hp : H1 p = none) (hx : p ∈ r2.x) (hr : p ∉ r2.r)
    (ep : Hx p = some (.dK (ks.zip vs))) (hl : ks.length = vs.length) (hd : RelDs K r2 Hx ds vs) (q : newDK m ks ds h2 Q0) (u : UpQ K r1 H1 Q0 Q) : Q (.ref p) Hx := by
  cases m with
  | false =>
    obtain ⟨a, b, c, d⟩ := exitV E R1 R hp hx hr
    exact u (.dK ks ds) h2 _ _ Hx q a b ⟨p, vs, rfl, ep, d, hl, RelDs.go c _ _ hd⟩
  | true =>
    obtain ⟨a, b, c, d⟩ := exitH E R1 R hp hx hr
    have q : Q0 (.obj h2.length) (h2 ++ [.dK ks ds]) := q
    exact u (.obj h2.length) (h2 ++ [.dK ks ds]) _ _ Hx q a (b (.dK ks ds) ⟨vs, ep, hl, RelDs.go c _ _ hd⟩) ⟨p, rfl, d⟩
theorem up_newDK {K : PySem.W.Frag} {m : Bool} {ks : List Key} {ds : List D} {vs : List V} {h : AH} {Q0 : ZK} {Q : VK} {r : Wd} {H : Hp} (R : RH K r h H) (hl : ks.length = vs.length) (hd : RelDs K r H ds vs) (q : newDK m ks ds h Q0) (u : UpQ K r H Q0 Q) {p : Addr} (hp : H p = none) : Q (.ref p) (upd H p (.dK (ks.zip vs))) :=
  up_exitDK (enterE hp) R (enterR R hp) hp List.mem_cons_self (R.new hp) upd_same hl (RelDs.go (tr_enter hp) _ _ hd) q u
/-! ### {k: v, ..} -/
def zPairs : List (ZE × ZE) → ZS → AH → (List (D × D) → AH → Prop) → Prop
  | [], _, h, Q => Q [] h
  | (tk, tv) :: r, zs, h, Q => tk zs h fun x h1 => tv zs h1 fun y h2 => zPairs r zs h2 fun ps h3 => Q ((x, y) :: ps) h3
def zmerge : List (D × D) → List Key → List D → Option (List Key × List D)
  | [], ks, vs => some (ks, vs)
  | (x, y) :: r, ks, vs => match keyOf x with
    | some k => zmerge r (zputK ks k) (zputV ks vs k y)
    | none => none
def zDisp (m : Bool) (trs : List (ZE × ZE)) : ZE := fun zs h Q => zPairs trs zs h fun ps h1 => match zmerge ps [] [] with
  | some (ks, vs) => ps.length ≤ 15 ∧ newDK m ks vs h1 Q
  | none => False
/-- pairs of values -/
def RelPs (K : PySem.W.Frag) (r : Wd) (H : Hp) : List (D × D) → List (V × V) → Prop
  | [], vs => vs = []
  | (x, y) :: ps, vs => ∃ v w ws, vs = (v, w) :: ws ∧ RelD K r H x v ∧ RelD K r H y w ∧ RelPs K r H ps ws
theorem RelPs.length {K : PySem.W.Frag} {r : Wd} {H : Hp} : ∀ {ps : List (D × D)} {vs : List (V × V)}, RelPs K r H ps vs → ps.length = vs.length
  | [], vs, h => by
    have h : vs = [] := h
    rw [h]; rfl
  | (x, y) :: ps, vs, h => by
    obtain ⟨v, w, ws, rfl, _, _, h3⟩ := h
    rw [List.length_cons, List.length_cons, RelPs.length h3]
theorem pairs_ok {K : PySem.W.Frag} : ∀ (trs : List (ZE × ZE)) {r : Wd} {zs : ZS} {h : AH} {H : Hp} {s : L2.St} {Q0 : List (D × D) → AH → Prop} {W : List (V × V) → Hp → Prop}, RH K r h H → RS K r H zs s → zPairs trs zs h Q0 →
    (∀ ps h' r' vs H', Q0 ps h' → Ext r H r' H' → RH K r' h' H' → RelPs K r' H' ps vs → W vs H') → tPairs (trs.map fun t => (liftE K t.1, liftE K t.2)) s H W
  | [], r, zs, h, H, s, Q0, W, R, S, q, u => u [] h r [] H q (.refl _ _) R rfl
  | (tk, tv) :: trs, r, zs, h, H, s, Q0, W, R, S, q, u => ⟨r, zs, h, _, R, S, q, fun x h1 r1 v1 H1 q1 E1 R1 D1 => ⟨r1, zs, h1, _, R1, S.mono E1, q1, fun y h2 r2 v2 H2 q2 E2 R2 D2 =>
    pairs_ok trs R2 (S.mono (E1.trans E2)) q2 fun ps h3 r3 vs H3 q3 E3 R3 D3 => u _ h3 r3 _ H3 q3 (E1.trans (E2.trans E3)) R3 ⟨v1, v2, vs, rfl, RelD.mono (E2.trans E3) _ _ D1, RelD.mono E3 _ _ D2, D3⟩⟩⟩
theorem zmerge_ok {K : PySem.W.Frag} {r : Wd} {H : Hp} : ∀ {ps : List (D × D)} {vps : List (V × V)} {ks ks' : List Key} {ds ds' : List D} {vs : List V}, RelPs K r H ps vps → ks.length = vs.length → RelDs K r H ds vs → zmerge ps ks ds = some (ks', ds') →
    ∃ kvs vs', vps = kvs.map (fun kv => (kV kv.1, kv.2)) ∧ mergeK (ks.zip vs) kvs = ks'.zip vs' ∧ ks'.length = vs'.length ∧ RelDs K r H ds' vs'
  | [], vps, ks, ks', ds, ds', vs, hp, hl, hd, e => by
    have hp : vps = [] := hp
    subst hp
    cases e
    exact ⟨[], vs, rfl, rfl, hl, hd⟩
  | (x, y) :: ps, vps, ks, ks', ds, ds', vs, hp, hl, hd, e => by
    obtain ⟨v, w, ws, rfl, h1, h2, h3⟩ := hp
    unfold zmerge at e
    split at e
    · rename_i k ek
      have ev := keyOf_ok h1 ek
      subst ev
      obtain ⟨us, e1, e2, e3⟩ := zput_ok (k := k) h2 hl hd
      obtain ⟨kvs, vs', f1, f2, f3, f4⟩ := zmerge_ok h3 e2 e3 e
      refine ⟨(k, w) :: kvs, vs', by rw [f1]; rfl, ?_, f3, f4⟩
      show mergeK (putK (ks.zip vs) k w) kvs = _
      rw [e1]; exact f2
    · cases e
theorem z_disp {X : Cx} {pos : Pos} (m : Bool) {keys : List (Option Expr)} {values : List Expr} {trs : List (ZE × ZE)} (h : PPs X pos keys values (trs.map fun t => (liftE X.K t.1, liftE X.K t.2))) (hall : keys.all (·.isSome) = true := by rfl) (hl : keys.length = values.length := by rfl) (h0 : keys ≠ [] := by simp)
    (h15 : keys.length ≤ 15 := by decide) : PZ X (.Dict keys values pos) (zDisp m trs) := PEimp (pe_disp h hall hl h0 h15) fun s H Q ⟨r, zs, h, Q0, R, S, q, u⟩ => fun p hp => by
  refine pairs_ok trs (enterR R hp) ((S.mono (enterE hp))) q fun ps h1 r1 vs H1 q1 E1 R1 D1 => ?_
  have E0 : Ext r H r1 H1 := (enterE hp).trans E1
  have kp := E1.keep p _ upd_same (R.new hp)
  have hx := E1.px p List.mem_cons_self
  split at q1
  · rename_i ks ds em
    obtain ⟨kvs, us, e1, e2, e3, e4⟩ := zmerge_ok (ds := []) (vs := []) D1 rfl rfl em
    refine ⟨kp.1, kvs, e1, ?_⟩
    have e2 : mergeK [] kvs = ks.zip us := e2
    rw [e2]
    refine ⟨?_, ?_⟩
    · have l1 := D1.length
      rw [e1, List.length_map] at l1
      rw [← l1]; exact q1.1
    exact up_exitDK (putE E0 hp) R (R1.priv hx) hp hx kp.2.1 upd_same e3 (RelDs.go (tr_put hx) _ _ e4) q1.2 u
  · exact q1.elim
theorem z_dnew {X : Cx} {pos : Pos} (m : Bool) : PZ X (.Dict [] [] pos) (fun zs h Q => newDK m [] [] h Q) := PEimp pe_dnewK fun s H Q ⟨r, zs, h, Q0, R, S, q, u⟩ => fun p hp => up_newDK (ds := []) (vs := []) R rfl rfl q u hp
end Z
/-! Z9: dict comprehensions, dict(..), sorted, methods, slices, chains, keyword calls. -/
namespace Z
open PySem PySem.Spec PyProof.Rows L2
/-! ### {k: v for ..} -/
def zDCL (m : Bool) (g : ZG) (tt : ZT) (tk tv : ZE) (zs : ZS) : List D → List Key → List D → AH → ZK → Prop
  | [], ks, vs, h, Q => newDK m ks vs h Q
  | x :: xs, ks, vs, h, Q => g x zs h fun z1 h1 => tt z1 h1 fun b h2 => match b with
    | true => tk z1 h2 fun y h3 => tv z1 h3 fun w h4 => match keyOf y with
      | some k => ks.length < sizeLine ∧ zDCL m g tt tk tv zs xs (zputK ks k) (zputV ks vs k w) h4 Q
      | none => False
    | false => zDCL m g tt tk tv zs xs ks vs h2 Q
def zDC (m : Bool) (zi : ZI) (g : ZG) (tt : ZT) (tk tv : ZE) (vs : List Nat) : ZE := fun zs h Q => zi zs h fun ds h1 => zDCL m g tt tk tv (zwipe zs vs) ds [] [] h1 Q
theorem up_dc {K : PySem.W.Frag} {m : Bool} {zi : ZI} {g : ZG} {gh : TG} {tt : ZT} {tk tv : ZE} {vs : List Nat} (gw : GW K vs gh g) {s : L2.St} {H : Hp} {Q : VK} (q : liftE K (zDC m zi g tt tk tv vs) s H Q) : tDc (liftI K zi) gh (liftT K tt) (liftE K tk) (liftE K tv) vs s H Q := by
  obtain ⟨r, zs, h, Q0, R, S, q, u⟩ := q
  refine ⟨r, zs, h, _, R, S, q, fun ds h1 r1 H1 J q1 E1 R1 Wk p hp => ?_⟩
  have S1 := (S.mono E1).wipe vs
  refine ⟨fun i n Hx => n = ds.length - i ∧ i ≤ ds.length ∧ ∃ r2 h2 ks acc va, Ext r1 H1 r2 Hx ∧ p ∈ r2.x ∧ p ∉ r2.r ∧ RH K r2 h2 Hx ∧ Hx p = some (.dK (ks.zip va)) ∧ ks.length = va.length ∧ RelDs K r2 Hx acc va ∧ zDCL m g tt tk tv (zwipe zs vs) (ds.drop i) ks acc h2 Q0,
    ⟨ds.length, by simp, Nat.zero_le _, _, h1, [], [], [], enterE hp, List.mem_cons_self, R1.new hp, enterR R1 hp, upd_same, rfl, rfl, q1⟩, ?_⟩
  rintro i n Hx ⟨rfl, hi', r2, h2, ks, acc, va, E2, hx2, hr2, R2, ep, hl2, D2, q2⟩
  by_cases hlt : i < ds.length
  · refine .inr ⟨Wk.goes i Hx hlt E2.keeps, fun H' => ∃ r3 h3 ks acc va, Ext r1 H1 r3 H' ∧ p ∈ r3.x ∧ p ∉ r3.r ∧ RH K r3 h3 H' ∧ H' p = some (.dK (ks.zip va)) ∧ ks.length = va.length ∧ RelDs K r3 H' acc va ∧ zDCL m g tt tk tv (zwipe zs vs) (ds.drop (i + 1)) ks acc h3 Q0, fun H' w => ⟨ds.length - (i + 1), by omega, rfl, hlt, w⟩, fun x H' y => ?_⟩
    obtain ⟨d, hd, yd⟩ := Wk.yields i Hx x H' hlt E2.keeps y
    obtain ⟨E3, R3, D3⟩ := yd.go E2.tr R2
    have e : ds.drop i = d :: ds.drop (i + 1) := by
      rw [List.drop_eq_getElem_cons hlt]
      rw [List.getElem?_eq_getElem hlt] at hd
      cases hd; rfl
    rw [e] at q2
    refine gw r2 h2 H' (zwipe zs vs) (L2.wipe s vs) d x _ _ R3 (S1.mono (E2.trans E3)) D3 q2 fun z4 h4 r4 s4 H4 q4 E4 R4 S4 ew => ⟨by rw [ew, wipe_wipe], r4, z4, h4, _, R4, S4, q4, fun b h5 r5 H5 q5 E5 R5 => ?_⟩
    have EE : Ext r2 Hx r5 H5 := E3.trans (E4.trans E5)
    have kp := EE.keep p _ ep hr2
    cases b with
    | false =>
      refine iteF ?_
      exact ⟨r5, h5, ks, acc, va, E2.trans EE, EE.px p hx2, kp.2.1, R5, kp.1, hl2, RelDs.mono EE _ _ D2, q5⟩
    | true =>
      refine iteT ?_
      refine ⟨r5, z4, h5, _, R5, S4.mono E5, q5, fun y h6 r6 v6 H6 q6 E6 R6 D6 => ⟨r6, z4, h6, _, R6, S4.mono (E5.trans E6), q6, fun w h7 r7 v7 H7 q7 E7 R7 D7 => ?_⟩⟩
      have E8 : Ext r2 Hx r7 H7 := EE.trans (E6.trans E7)
      have k8 := E8.keep p _ ep hr2
      have hx8 := E8.px p hx2
      have Da := RelDs.mono E8 _ _ D2
      split at q7
      · rename_i k ek
        have ev := keyOf_ok D6 ek
        obtain ⟨us, e1, e2, e3⟩ := zput_ok (k := k) D7 hl2 Da
        refine ⟨_, k, ev, k8.1, by rw [List.length_zip, ← hl2, Nat.min_self]; exact q7.1, r7, h7, zputK ks k, zputV ks acc k w, us, putE (E2.trans E8) hp, hx8, k8.2.1, R7.priv hx8, ?_, e2, RelDs.go (tr_put hx8) _ _ e3, q7.2⟩
        rw [e1]; exact upd_same
      · exact q7.elim
  · have e : i = ds.length := by omega
    subst e
    rw [List.drop_length] at q2
    exact .inl ⟨Wk.stops Hx E2.keeps, up_exitDK E2 R1 R2 hp hx2 hr2 ep hl2 D2 q2 (u.ext E1)⟩
theorem z_dc {X : Cx} (m : Bool) {kx vx tg iter : Expr} {ifs : List Expr} {scope : Scope} {own : List (Str × Nat)} {pos : Pos} {zi : ZI} {gh : TG} {g : ZG} {tt : ZT} {tk tv : ZE} (hc : X.calm = true) (hN : X.N.Nodup) (hi : PZI X tg iter zi) (ok : BlkOk X.N X.env.scope scope own)
    (hg : ∀ (s : Shared) (H : Hp) (C : Addr) (cl : List (Str × Addr)) (fp : List Addr), PG (X.blk s H scope (compEnvC scope cl C X.env) fp) tg gh) (gw : GW X.K (own.map (·.2)) gh g)
    (ht : ∀ (s : Shared) (H : Hp) (C : Addr) (cl : List (Str × Addr)) (fp : List Addr), PTs (X.blk s H scope (compEnvC scope cl C X.env) fp) ifs (liftT X.K tt))
    (hk : ∀ (s : Shared) (H : Hp) (C : Addr) (cl : List (Str × Addr)) (fp : List Addr), PZ (X.blk s H scope (compEnvC scope cl C X.env) fp) kx tk)
    (he : ∀ (s : Shared) (H : Hp) (C : Addr) (cl : List (Str × Addr)) (fp : List Addr), PZ (X.blk s H scope (compEnvC scope cl C X.env) fp) vx tv) (hs : ∀ x, foldedSetIterable iter X.env x = pure x := by intro _; rfl) :
    PZ X (.DictComp kx vx [⟨tg, iter, ifs, 0⟩] scope pos) (zDC m zi g tt tk tv (own.map (·.2))) := PEimp (pe_dc hc hN hi ok hg ht hk he hs) fun _ _ _ q => up_dc gw q
/-! ### dict(list of pairs) -/
def dpairs : List D → Option (List (D × D))
  | [] => some []
  | .tup [x, y] :: ds => match dpairs ds with
    | some ps => some ((x, y) :: ps)
    | none => none
  | _ => none
def zDictOf (m : Bool) : Zn := fun ds h Q => match ds with
  | [d] => match lsR h d with
    | some xs => match dpairs xs with
      | some ps => match zmerge ps [] [] with
        | some (ks, vs) => newDK m ks vs h Q
        | none => False
      | none => False
    | none => False
  | _ => False
theorem dpairs_ok {K : PySem.W.Frag} {r : Wd} {H : Hp} : ∀ (n : Nat) {xs : List D} {vs : List V} {ps : List (D × D)}, xs.length = n → RelDs K r H xs vs → dpairs xs = some ps →
    ∃ (as : List Addr) (vps : List (V × V)), vs = as.map V.ref ∧ RelPs K r H ps vps ∧ Paired (fun a vw => SqT K H a [vw.1, vw.2]) as vps := by
  intro n
  induction n with
  | zero =>
    intro xs vs ps hl hd e
    have : xs = [] := List.length_eq_zero_iff.mp hl
    subst this
    have hd : vs = [] := hd
    have e : some ([] : List (D × D)) = some ps := e
    cases e
    exact ⟨[], [], hd, rfl, .nil⟩
  | succ n ih =>
    intro xs vs ps hl hd e
    unfold dpairs at e
    split at e
    · cases hl
    · rename_i x y ds
      obtain ⟨v, ws, rfl, h1, h2⟩ := hd
      obtain ⟨a, us, rfl, h3, _, w1, u1, rfl, hx, w2, u2, rfl, hy, h4⟩ := h1
      have h4 : u2 = [] := h4
      subst h4
      split at e
      · rename_i ps' e2
        cases e
        obtain ⟨as, vps, rfl, g1, g2⟩ := ih (by simpa using hl) h2 e2
        exact ⟨a :: as, (w1, w2) :: vps, rfl, ⟨w1, w2, vps, rfl, hx, hy, g1⟩, .cons (.of h3) g2⟩
      · cases e
    · cases e
theorem l_dictOf {K : PySem.W.Frag} (m : Bool) : RnZ K (fun xs H Q => ∃ (a : Addr) (ps : List Addr) (kvs : List (Key × V)), xs = [.ref a] ∧ SqL K H a (ps.map V.ref) ∧ Paired (fun p kv => SqT K H p [kV kv.1, kv.2]) ps kvs ∧
    ∀ p, H p = none → Q (.ref p) (upd H p (.dK (mergeK [] kvs)))) (zDictOf m) := fun r h H vs ds Q Q0 R hd q u => by
  unfold zDictOf at q
  split at q
  · obtain ⟨v, ws, rfl, e1, e2⟩ := hd
    have e2 : ws = [] := e2
    subst e2
    split at q
    · rename_i xs ex
      obtain ⟨a, vs, rfl, h1, h2⟩ := lsR_ok R e1 ex
      split at q
      · rename_i ps eps
        obtain ⟨as, vps, rfl, g1, g2⟩ := dpairs_ok xs.length rfl h2 eps
        split at q
        · rename_i ks ds' em
          obtain ⟨kvs, vs', f1, f2, f3, f4⟩ := zmerge_ok (ds := []) (vs := []) g1 rfl rfl em
          subst f1
          refine ⟨a, as, kvs, rfl, h1, ?_, fun p hp => ?_⟩
          · clear f2 g1 h2 h1 e1 em eps
            generalize hk : kvs.map (fun kv => (kV kv.1, kv.2)) = vps at g2
            induction g2 generalizing kvs with
            | nil =>
              cases kvs with
              | nil => exact .nil
              | cons _ _ => cases hk
            | cons g _ ih =>
              cases kvs with
              | nil => cases hk
              | cons kv kvs =>
                rw [List.map_cons] at hk
                cases hk
                exact .cons g (ih kvs rfl)
          · have f2 : mergeK [] kvs = ks.zip vs' := f2
            rw [f2]
            exact up_newDK R f3 f4 q u hp
        · exact q.elim
      · exact q.elim
    · exact q.elim
  · exact q.elim
/-! ### sorted of ints, of a dict with int keys -/
/-- what sorted gives: any arrangement in order -/
def SortedI (ns ms : List Int) : Prop := ms.Perm ns ∧ ms.Pairwise (· ≤ ·)
def zSortedI : Zn := fun ds h Q => match ds with
  | [d] => match lsR h d with
    | some xs => match dints xs with
      | some ns => ∀ ms, SortedI ns ms → Q (.lst (ms.map D.int)) h
      | none => False
    | none => False
  | _ => False
theorem l_sortedI {K : PySem.W.Frag} : RnZ K (rSortedI K) zSortedI := fun r h H vs ds Q Q0 R hd q u => by
  unfold zSortedI at q
  split at q
  · obtain ⟨v, ws, rfl, e1, e2⟩ := hd
    have e2 : ws = [] := e2
    subst e2
    split at q
    · rename_i xs ex
      obtain ⟨a, vs, rfl, h1, h2⟩ := lsR_ok R e1 ex
      split at q
      · rename_i ns en
        have ev := dints_ok _ h2 en
        subst ev
        exact ⟨a, ns, rfl, h1, fun ms p pm pw hp => up_newL (m := false) R (.of_ints ms) (q ms ⟨pm, pw⟩) u hp⟩
      · exact q.elim
    · exact q.elim
  · exact q.elim
def intKeys : List Key → Option (List Int)
  | [] => some []
  | .inl i :: ks => match intKeys ks with
    | some ns => some (i :: ns)
    | none => none
  | .inr _ :: _ => none
theorem intKeys_ok : ∀ {ks : List Key} {ns : List Int}, intKeys ks = some ns → ks = ns.map Sum.inl
  | [], ns, e => by cases e; rfl
  | .inl i :: ks, ns, e => by
    unfold intKeys at e
    split at e
    · rename_i ms e2
      cases e
      rw [intKeys_ok e2]; rfl
    · cases e
  | .inr _ :: _, ns, e => by cases e
def zSortedDI : Zn := fun ds h Q => match ds with
  | [d] => match dkM h d with
    | some (ks, _) => match intKeys ks with
      | some ns => ns.length < 64 ∧ ∀ ms, SortedI ns ms → Q (.lst (ms.map D.int)) h
      | none => False
    | none => False
  | _ => False
theorem l_sortedDI {K : PySem.W.Frag} : RnZ K (fun xs H Q => ∃ (a : Addr) (kvs : List (Key × V)) (ks : List Int), xs = [.ref a] ∧ Rd H a (.dK kvs) ∧ kvs.map (·.1) = ks.map Sum.inl ∧ ks.length < 64 ∧
    ∀ (ys : List Int) (p : Addr), ys.Perm ks → ys.Pairwise (· ≤ ·) → H p = none → Q (.ref p) (upd H p (.lst (ys.map V.int)))) zSortedDI := fun r h H vs ds Q Q0 R hd q u => by
  unfold zSortedDI at q
  split at q
  · obtain ⟨v, ws, rfl, e1, e2⟩ := hd
    have e2 : ws = [] := e2
    subst e2
    split at q
    · rename_i ks ds' ex
      obtain ⟨a, vs, rfl, h1, h2, h3⟩ := dkM_ok R e1 ex
      split at q
      · rename_i ns en
        have ek := intKeys_ok en
        refine ⟨a, _, ns, rfl, .inl h1, ?_, q.1, fun ms p pm pw hp => up_newL (m := false) R (.of_ints ms) (q.2 ms ⟨pm, pw⟩) u hp⟩
        rw [← ek]
        exact List.map_fst_zip (by omega)
      · exact q.elim
    · exact q.elim
  · exact q.elim
/-! ### methods -/
abbrev Zm := D → List D → AH → ZK → Prop
def RmZ (K : PySem.W.Frag) (t : V → List V → Hp → VK → Prop) (z : Zm) : Prop := ∀ r h H x vs dx ds Q Q0, RH K r h H → RelD K r H dx x → RelDs K r H ds vs → z dx ds h Q0 → UpQ K r H Q0 Q → t x vs H Q
/-- the receiver is of that type -/
def TyZ (K : PySem.W.Frag) (T : String) (c : AH → D → Prop) : Prop := ∀ r h H x dx, RH K r h H → RelD K r H dx x → c h dx → tyV K T x H
def zBM (c : AH → D → Prop) (z : Zm) (to : ZE) (t : ZA) : ZE := fun zs h Q => to zs h fun o h1 => c h1 o ∧ t zs h1 fun ds h2 => z o ds h2 Q
section
variable {X : Cx} {o e : Expr} {es : List Expr} {to : ZE} {t : ZA} {name : Str} {apos cpos : Pos} {T id : String} {rr : V → List V → Hp → VK → Prop} {z : Zm} {c : AH → D → Prop}
theorem z_bm (pa : PlainAttrs T) (slot : Slot T name id) (hty : typeOf (.builtin id) = pure (.type "method_descriptor")) (hm : MtR X id rr) (hz : RmZ X.K rr z) (hc : TyZ X.K T c) (ho : PZ X o to) (ha : PZA X (e :: es) t)
    (hbase : attributeBase o name X.env (eval o X.env) = eval o X.env := by rfl)
    (hfew : ((backTo cpos (starEach (e :: es) X.env)).all (fun x => !x.1) && (backToKw cpos (keywordEach [] X.env)).all (fun x => x.1.isSome)
      && decide ((e :: es).length + ([] : List Keyword).length + (if ([] : List Keyword).isEmpty then 0 else 1) < 30)) = true := by rfl)
    (hline : (apos.endLine == cpos.line) = true := by rfl) (hs : starEach (e :: es) X.env = (false, eval e X.env) :: starEach es X.env := by rfl) (hplain : (backTo cpos (starEach es X.env)).any (·.1) = false := by rfl) :
    PZ X (.Call (.Attribute o name apos) (e :: es) [] cpos) (zBM c z to t) := PEimp (pe_bm pa slot hty hm ho ha hbase hfew hline hs hplain) fun s H Q ⟨r, zs, h, Q0, R, S, q, u⟩ =>
  ⟨r, zs, h, _, R, S, q, fun d1 h1 r1 v1 H1 q1 E1 R1 D1 => ⟨hc r1 h1 H1 v1 d1 R1 D1 q1.1, r1, zs, h1, _, R1, S.mono E1, q1.2, fun ds h2 r2 vs H2 q2 E2 R2 D2 =>
    hz r2 h2 H2 v1 vs d1 ds Q Q0 R2 (RelD.mono E2 _ _ D1) D2 q2 (u.ext (E1.trans E2))⟩⟩
end
def isL (h : AH) (d : D) : Prop := (lsR h d).isSome = true
theorem ty_list {K : PySem.W.Frag} : TyZ K "list" isL := fun r h H x dx R hd c => by
  obtain ⟨ds, e⟩ := Option.isSome_iff_exists.mp c
  obtain ⟨a, vs, rfl, h1, _⟩ := lsR_ok R hd e
  exact .inl ⟨rfl, vs, h1⟩
def zAppend : Zm := fun o ds h Q => match o, ds with
  | .obj n, [d] => match h[n]? with
    | some (.lst xs) => xs.length < sizeLine ∧ Q .non (h.set n (.lst (xs ++ [d])))
    | _ => False
  | _, _ => False
theorem l_append {K : PySem.W.Frag} : RmZ K rAppend zAppend := fun r h H x vs dx ds Q Q0 R hx hd q u => by
  unfold zAppend at q
  split at q
  · rename_i n d
    split at q
    · rename_i xs e
      obtain ⟨a, rfl, ha, us, h1, h2⟩ := R.get e hx
      obtain ⟨v, ws, rfl, e1, e2⟩ := hd
      have e2 : ws = [] := e2
      subst e2
      have E := Ext.put (o := .lst (us ++ [v])) (H := H) (List.mem_of_getElem? ha)
      exact ⟨a, us, v, rfl, rfl, h1, by rw [← h2.length]; exact q.1, u _ _ r .non _ q.2 E (R.put (c := .lst (xs ++ [d])) ha ⟨_, upd_same, RelDs.mono E _ _ (h2.append (.one e1))⟩) rfl⟩
    · exact q.elim
  · exact q.elim
/-! ### slices -/
abbrev ZO := ZS → AH → (Option Int → AH → Prop) → Prop
def liftO (K : PySem.W.Frag) (t : ZO) : TO := fun s H Q => ∃ r zs h Q0, RH K r h H ∧ RS K r H zs s ∧ t zs h Q0 ∧ ∀ o h' r' H', Q0 o h' → Ext r H r' H' → RH K r' h' H' → Q o H'
theorem POimp {X : Cx} {e : Option Expr} {t t' : TO} (h : PO X e t) (f : ∀ s H Q, t' s H Q → t s H Q) : PO X e t' := ⟨fun pins s σ H Q I q => h.run pins s σ H Q I (f _ _ _ q)⟩
abbrev PZO (X : Cx) (e : Option Expr) (t : ZO) : Prop := PO X e (liftO X.K t)
def zNoPart : ZO := fun _ h Q => Q none h
def zPart (t : ZE) : ZO := fun zs h Q => t zs h fun d h1 => match d with
  | .int i => Q (some i) h1
  | _ => False
theorem zo_none {X : Cx} : PZO X none zNoPart := POimp po_none fun s H Q ⟨r, zs, h, Q0, R, S, q, u⟩ => u none h r H q (.refl _ _) R
theorem zo_some {X : Cx} {e : Expr} {t : ZE} (h : PZ X e t) : PZO X (some e) (zPart t) := POimp (po_some h) fun s H Q ⟨r, zs, h, Q0, R, S, q, u⟩ =>
  ⟨r, zs, h, _, R, S, q, fun d h1 r1 v1 H1 q1 E1 R1 D1 => by
    cases d with
    | int i => exact ⟨i, D1, u _ h1 r1 H1 q1 E1 R1⟩
    | _ => exact q1.elim⟩
def cutD (xs : List D) (lo hi : Option Int) : List D := (xs.drop (HT.sIx xs.length 0 lo)).take (HT.sIx xs.length xs.length hi - HT.sIx xs.length 0 lo)
theorem cut_rel {K : PySem.W.Frag} {r : Wd} {H : Hp} {ds : List D} {vs : List V} {lo hi : Option Int} (h : RelDs K r H ds vs) : RelDs K r H (cutD ds lo hi) (cutV vs lo hi) := by
  unfold cutD cutV
  rw [h.length]
  exact (h.drop _).take _
def rSlAll (K : PySem.W.Frag) : V → Option Int → Option Int → Hp → VK → Prop := fun x lo hi H Q => (rSlA K x lo hi H Q ∨ rSlL K x lo hi H Q) ∨ rSlS x lo hi H Q
theorem sl_all {X : Cx} : SlR X (rSlAll X.K) := SlR.or (SlR.or sl_tupA sl_list) sl_str
def zSlV (m : Bool) (lo hi : Option Int) : Z1 := fun x h Q => match x with
  | .tup xs => Q (.tup (cutD xs lo hi)) h
  | .str s => s.length ≤ sizeLine ∧ Q (.str (cutS s lo hi)) h
  | x => match lsR h x with
    | some xs => newL m (cutD xs lo hi) h Q
    | none => False
def zSl (m : Bool) (te : ZE) (tl th : ZO) : ZE := fun zs h Q => te zs h fun x h1 => tl zs h1 fun l h2 => th zs h2 fun u h3 => zSlV m l u x h3 Q
end Z
/-! Z10: slices, chains, three targets, calls by keywords, tuple.index, sorted(.., reverse=True) of triples. -/
namespace Z
open PySem PySem.Spec PyProof.Rows L2
theorem cutV_whole {xs : List V} {lo hi : Option Int} (h : HT.sIx xs.length 0 lo = 0 ∧ HT.sIx xs.length xs.length hi = xs.length) : cutV xs lo hi = xs := by
  unfold cutV
  rw [h.1, h.2, List.drop_zero, Nat.sub_zero, List.take_length]
def RSlZ (K : PySem.W.Frag) (t : V → Option Int → Option Int → Hp → VK → Prop) (z : Option Int → Option Int → Z1) : Prop := ∀ r h H x lo hi dx Q Q0, RH K r h H → RelD K r H dx x → z lo hi dx h Q0 → UpQ K r H Q0 Q → t x lo hi H Q
theorem l_sl {K : PySem.W.Frag} (m : Bool) : RSlZ K (rSlAll K) (zSlV m) := fun r h H x lo hi dx Q Q0 R hx q u => by
  unfold zSlV at q
  split at q
  · rename_i xs
    obtain ⟨a, vs, rfl, h1, o, h2⟩ := hx
    refine .inl (.inl ⟨a, vs, rfl, .of h1, fun w => ?_, fun _ p hp => ?_⟩)
    · have c := cut_rel (lo := lo) (hi := hi) h2
      rw [cutV_whole w] at c
      exact u _ h r _ H q (.refl _ _) R ⟨a, vs, rfl, h1, o, c⟩
    · exact u _ h r _ _ q (Ext.laid R hp) (R.laid hp) ⟨p, _, rfl, upd_same, R.out hp, RelDs.mono (Ext.laid R hp) _ _ (cut_rel h2)⟩
  · have hx : x = .str _ := hx
    exact .inr ⟨_, hx, q.1, u _ h r _ H q.2 (.refl _ _) R rfl⟩
  · split at q
    · rename_i xs e
      obtain ⟨a, vs, rfl, h1, h2⟩ := lsR_ok R hx e
      exact .inl (.inr ⟨a, vs, rfl, h1, fun p hp => up_newL R (cut_rel h2) q u hp⟩)
    · exact q.elim
theorem z_slice {X : Cx} (m : Bool) {e : Expr} {lo hi : Option Expr} {p2 pos : Pos} {te : ZE} {tl th : ZO} (he : PZ X e te) (hl : PZO X lo tl) (hu : PZO X hi th) : PZ X (.Subscript e (.Slice lo hi none p2) pos) (zSl m te tl th) :=
  PEimp (pe_slice sl_all he hl hu) fun s H Q ⟨r, zs, h, Q0, R, S, q, u⟩ => ⟨r, zs, h, _, R, S, q, fun d h1 r1 v H1 q1 E1 R1 D1 => ⟨r1, zs, h1, _, R1, S.mono E1, q1, fun l h2 r2 H2 q2 E2 R2 =>
    ⟨r2, zs, h2, _, R2, S.mono (E1.trans E2), q2, fun w h3 r3 H3 q3 E3 R3 => l_sl m r3 h3 H3 v l w d _ _ R3 (RelD.mono (E2.trans E3) _ _ D1) q3 (u.ext (E1.trans (E2.trans E3)))⟩⟩⟩
/-! ### a op b op' c -/
def zCh (z z' : Z2) (ta tb tc : ZE) : ZE := fun zs h Q => ta zs h fun x h1 => tb zs h1 fun y h2 => z x y h2 fun c h3 => match c with
  | .bl true => tc zs h3 fun w h4 => z' y w h4 Q
  | .bl false => Q (.bl false) h3
  | _ => False
section
variable {X : Cx} {a b c : Expr} {ta tb tc : ZE} {r r' : R2} {z z' : Z2} {pos : Pos}
theorem up_chain {K : PySem.W.Frag} (hz : R2Z K r z) (hz' : R2Z K r' z') {s : L2.St} {H : Hp} {Q : VK} (q : liftE K (zCh z z' ta tb tc) s H Q) : tChain r r' (liftE K ta) (liftE K tb) (liftE K tc) s H Q := by
  obtain ⟨r0, zs, h, Q0, R, S, q, u⟩ := q
  refine ⟨r0, zs, h, _, R, S, q, fun d h1 r1 v H1 q1 E1 R1 D1 => ⟨r1, zs, h1, _, R1, S.mono E1, q1, fun d2 h2 r2 v2 H2 q2 E2 R2 D2 =>
    hz r2 h2 H2 v v2 d d2 _ _ R2 (RelD.mono E2 _ _ D1) D2 q2 fun d3 h3 r3 v3 H3 q3 E3 R3 D3 => ?_⟩⟩
  split at q3
  · refine ⟨true, D3, iteT ?_⟩
    exact ⟨r3, zs, h3, _, R3, S.mono (E1.trans (E2.trans E3)), q3, fun d4 h4 r4 v4 H4 q4 E4 R4 D4 => hz' r4 h4 H4 v2 v4 d2 d4 _ _ R4 (RelD.mono (E3.trans E4) _ _ D2) D4 q4 (u.ext (E1.trans (E2.trans (E3.trans E4))))⟩
  · refine ⟨false, D3, iteF ?_⟩
    exact u _ h3 r3 _ H3 q3 (E1.trans (E2.trans E3)) R3 rfl
  · exact q3.elim
theorem z_chain {op op' : CmpOp} (ho : OpR X (compareOp op) r) (hz : R2Z X.K r z) (ho' : OpR X (compareOp op') r') (hz' : R2Z X.K r' z') (ha : PZ X a ta) (hb : PZ X b tb) (hc : PZ X c tc)
    (hm : lastMarks [op, op'] [b, c] = false := by with_unfolding_all rfl) : PZ X (.Compare a [op, op'] [b, c] pos) (zCh z z' ta tb tc) := PEimp (pe_chain ho ho' ha hb hc hm) fun _ _ _ q => up_chain hz hz' q
def zTestE (t : ZE) : ZT := fun zs h Q => t zs h fun d h1 => match d with
  | .bl b => Q b h1
  | _ => False
theorem zt_chain {op op' : CmpOp} (ho : OpR X (compareOp op) r) (hz : R2Z X.K r z) (ho' : OpR X (compareOp op') r') (hz' : R2Z X.K r' z') (ha : PZ X a ta) (hb : PZ X b tb) (hc : PZ X c tc)
    (hm : lastMarks [op, op'] [b, c] = false := by with_unfolding_all rfl) : PZT X (.Compare a [op, op'] [b, c] pos) (zTestE (zCh z z' ta tb tc)) := PTimp (pt_chain ho ho' ha hb hc hm) fun s H Q ⟨r0, zs, h, Q0, R, S, q, u⟩ =>
  up_chain hz hz' ⟨r0, zs, h, _, R, S, q, fun d h1 r1 v H1 q1 E1 R1 D1 => by
    cases d with
    | bl b => exact ⟨b, D1, u b h1 r1 H1 q1 E1 R1⟩
    | _ => exact q1.elim⟩
/-! ### a, b, c = x, y, z -/
def zPar3 (i j l : Nat) (t : ZA) : ZTS := fun D zs h => t zs h fun ds h1 => match ds with
  | [u, v, w] => D.nx (((zs.set i (some u)).set j (some v)).set l (some w)) h1
  | _ => False
theorem zs_par3 (i j l : Nat) {x y w : Str} {px py pz pt : Pos} {kt k2 pt2} {t : ZA} (hc : X.calm = true) (hN : X.N.Nodup) (ha : PZA X [a, b, c] t) (hi : X.N[i]? = some x := by rfl) (hj : X.N[j]? = some y := by rfl) (hl : X.N[l]? = some w := by rfl) (hij : i ≠ j := by decide) (hil : i ≠ l := by decide) (hjl : j ≠ l := by decide)
    (hx : X.env.scope.names.lookup x = some .local := by rfl) (hy : X.env.scope.names.lookup y = some .local := by rfl) (hw : X.env.scope.names.lookup w = some .local := by rfl)
    (hsw : swappedStores [.Tuple [.Name x px, .Name y py, .Name w pz] kt pt] (.Tuple [a, b, c] k2 pt2) X.env = pure (some [x, y, w]) := by rfl)
    (hs : swapsWithSole [.Tuple [.Name x px, .Name y py, .Name w pz] kt pt] (.Tuple [a, b, c] k2 pt2) pos.line X.env = pure false := by rfl) :
    PZS X (.Assign [.Tuple [.Name x px, .Name y py, .Name w pz] kt pt] (.Tuple [a, b, c] k2 pt2) pos) (zPar3 i j l t) := PSimp (ps_par3 hc hN hi hj hl hij hil hjl hx hy hw ha hsw hs) fun D s H ⟨r, zs, h, D0, R, S, q, u⟩ =>
  ⟨r, zs, h, _, R, S, q, fun ds h1 r1 vs H1 q1 E1 R1 D1 => by
    match ds, q1 with
    | [v, w, x], q1 =>
      obtain ⟨v1, ws, rfl, d1, ws2, us, rfl, d2, ws3, us3, rfl, d3, d4⟩ := D1
      have d4 : us3 = [] := d4
      subst d4
      exact ⟨v1, ws2, ws3, rfl, u.nx _ h1 r1 _ H1 q1 E1 R1 ((((S.mono E1).set d1 i).set d2 j).set d3 l)⟩⟩
end
/-! ### f(a = x, b = y), the parameters in their order -/
abbrev PZK (X : Cx) (kws : List Keyword) (t : ZA) : Prop := PK X kws (liftA X.K t)
theorem PKimp {X : Cx} {kws : List Keyword} {t t' : TA} (h : PK X kws t) (f : ∀ s H Q, t' s H Q → t s H Q) : PK X kws t' := ⟨fun pos pins s σ H Q I q => h.run pos pins s σ H Q I (f _ _ _ q)⟩
theorem zk_nil {X : Cx} : PZK X [] zNil := PKimp pk_nil fun s H Q ⟨r, zs, h, Q0, R, S, q, u⟩ => u [] h r [] H q (.refl _ _) R rfl
theorem zk_cons {X : Cx} {nm : Option Str} {e : Expr} {kpos : Pos} {kws : List Keyword} {te : ZE} {t : ZA} (ha : PZ X e te) (hr : PZK X kws t) : PZK X (⟨nm, e, kpos⟩ :: kws) (zCons te t) := PKimp (pk_cons ha hr) fun s H Q ⟨r, zs, h, Q0, R, S, q, u⟩ =>
  ⟨r, zs, h, _, R, S, q, fun d h1 r1 v H1 q1 E1 R1 D1 => ⟨r1, zs, h1, _, R1, S.mono E1, q1, fun ds h2 r2 vs H2 q2 E2 R2 D2 =>
    u (d :: ds) h2 r2 (v :: vs) H2 q2 (E1.trans E2) R2 ⟨v, vs, rfl, RelD.mono E2 _ _ D1, D2⟩⟩⟩
theorem pe_callK0 {X : Cx} {k : Nat} {f : Addr} {fd : FuncData} {ps : List Str} {sp : ZSp} {x : Str} {p pos : Pos} {kws : List Keyword} {t : TA} (c : Cal X.prog X.w X.K X.mg X.base k x f fd ps sp) (hr : Room k X.A) (hkw : PK X kws t)
    (hb : ∀ ws : List Value, ws.length = ps.length → bindArgs fd ⟨[], ps.zip ws⟩ = pure (ps.zip ws)) (hg : Gl X x) (hdb : (x == ("__debug__" : Str)) = false)
    (hall : (backToKw pos (keywordEach kws X.env)).all (·.1.isSome) = true) (hks : (backToKw pos (keywordEach kws X.env)).filterMap (·.1) = ps)
    (hpl : ((backTo pos (starEach [] X.env)).any (·.1) || (backToKw pos (keywordEach kws X.env)).any (·.1.isNone)) = false) :
    PE X (.Call (.Name x p) [] kws pos) (tCall (liftSp X.K sp) [] E0 t) := by
  refine ⟨fun pins s σ H Q I h => ?_⟩
  refine wpAny_Call_Name_kw (ld_glob I hg c.mg ?_ hdb)
  refine PySem.W.callWith_KW0 (h₀ := X.base) I.ok.mod.kin c.kp hall (thn (hkw.run pos pins s σ H _ I h) fun ws s1 ⟨vs, H1, I1, r1, q1⟩ => ⟨I1.kIn, ?_⟩) hpl
  rw [hks]
  have q1 : liftSp X.K sp (vs ++ []) H1 Q E0 := q1
  rw [List.append_nil] at q1
  have hl : ws.length = ps.length := by rw [← r1.length]; exact c.ok.len _ _ _ _ q1
  refine wpAny_call (codeAny_mono (c.ok.run X.A X.stack s1 H1 ⟨[] ++ [], ps.zip ws⟩ ws vs Q E0 hr I1.env0 (.of_eq (hb ws hl)) r1 q1) fun r s' hq => ?_)
  cases r with
  | error e => exact passL pins σ H1 s1 e s' I1 hq
  | ok fl =>
    cases fl with
    | ret u => exact I1.after hq
    | next => exact False.elim hq
    | brk => exact False.elim hq
    | cont => exact False.elim hq
theorem z_callK0 {X : Cx} {k : Nat} {f : Addr} {fd : FuncData} {ps : List Str} {sp : ZSp} {x : Str} {p pos : Pos} {kws : List Keyword} {t : ZA} (c : Cal X.prog X.w X.K X.mg X.base k x f fd ps sp) (hr : Room k X.A) (hkw : PZK X kws t)
    (hb : ∀ ws : List Value, ws.length = ps.length → bindArgs fd ⟨[], ps.zip ws⟩ = pure (ps.zip ws)) (hg : Gl X x := by rfl) (hdb : (x == ("__debug__" : Str)) = false := by decide)
    (hall : (backToKw pos (keywordEach kws X.env)).all (·.1.isSome) = true := by rfl) (hks : (backToKw pos (keywordEach kws X.env)).filterMap (·.1) = ps := by rfl)
    (hpl : ((backTo pos (starEach [] X.env)).any (·.1) || (backToKw pos (keywordEach kws X.env)).any (·.1.isNone)) = false := by rfl) :
    PZ X (.Call (.Name x p) [] kws pos) (zCall sp t) := PEimp (pe_callK0 c hr hkw hb hg hdb hall hks hpl) fun _ _ _ q => up_call q
/-! ### tuple(list): a tuple that is known whole -/
def zTupleF : Zn := fun ds h Q => match ds with
  | [d] => match lsR h d with
    | some xs => Q (.tf xs) h
    | none => False
  | _ => False
def rTupF (K : PySem.W.Frag) : List V → Hp → VK → Prop := fun xs H Q => ∃ p ys, xs = [V.ref p] ∧ SqL K H p ys ∧ ∀ l o, H l = none → o.cls = .type "tuple" → o.dict = none → Q (.ref l) (upd H l (.frz o (.tup ys)))
theorem call_tupF {X : Cx} : CallR X (.type "tuple") (rTupF X.K) := by
  intro pins s σ H xs us Q I r h
  obtain ⟨p, ys, rfl, hq, q⟩ := h
  obtain rfl := Vals.ref1 r
  obtain ⟨its, r', pl, hz⟩ := I.list hq
  have hlen := r'.length
  refine call_tuple_list pl.isList (fun h' kp => ?_) (by simp only [List.size_toArray] <;> omega)
  have I1 : Inv X pins σ H { s with heap := h' } := I.kept (t' := s.toks) kp
  have I2 : Inv X pins σ (upd H h'.objs.size (.frz { cls := .type "tuple", data := .seq its.toArray } (.tup ys))) { s with heap := h'.push { cls := .type "tuple", data := .seq its.toArray } } :=
    I1.laid (t' := s.toks) (fun b o e => Heap.get?_push_of_some _ e) (Nat.le_refl _) (show ObjOk X.prog X.w _ _ _ (.frz _ (.tup ys)) from ⟨Heap.get?_push_size _ rfl, hz, its, r', IsTup.new _ _⟩)
  exact ⟨.ref h'.objs.size, _, I2, rfl, q _ _ (I1.hok.fresh (Nat.le_refl _)) rfl rfl⟩
theorem l_tupleF {K : PySem.W.Frag} : RnZ K (rTupF K) zTupleF := fun r h H vs ds Q Q0 R hd q u => by
  unfold zTupleF at q
  split at q
  · obtain ⟨v, ws, rfl, e1, e2⟩ := hd
    have e2 : ws = [] := e2
    subst e2
    split at q
    · rename_i xs e
      obtain ⟨a, vs, rfl, h1, h2⟩ := lsR_ok R e1 e
      exact ⟨a, vs, rfl, h1, fun p o hp hc hd => u _ h r _ _ q (Ext.laid R hp) (R.laid hp) ⟨p, vs, rfl, ⟨o, upd_same, hc, hd⟩, R.out hp, RelDs.mono (Ext.laid R hp) _ _ h2⟩⟩
    · exact q.elim
  · exact q.elim
/-! ### t.index(x), ints -/
def tTix (K : PySem.W.Frag) (to : TE) (t : TA) : TE := fun σ H Q => to σ H fun x H1 => ∃ a o vs, x = V.ref a ∧ H1 a = some (.frz o (.tup vs)) ∧ o.cls = .type "tuple" ∧ o.dict = none ∧ t σ H1 fun xs H2 =>
  ∃ (ns : List Int) (k : Int), xs = [.int k] ∧ SqT K H2 a (ns.map V.int) ∧ k ∈ ns ∧ Q (.int (ns.idxOf k : Nat)) H2
theorem pe_tix {X : Cx} {o e : Expr} {to : TE} {t : TA} {apos cpos : Pos} (ho : PE X o to) (ha : PA X [e] t)
    (hbase : attributeBase o "index" X.env (eval o X.env) = eval o X.env := by rfl)
    (hfew : ((backTo cpos (starEach [e] X.env)).all (fun x => !x.1) && (backToKw cpos (keywordEach [] X.env)).all (fun x => x.1.isSome)
      && decide (([e] : List Expr).length + ([] : List Keyword).length + (if ([] : List Keyword).isEmpty then 0 else 1) < 30)) = true := by rfl)
    (hline : (apos.endLine == cpos.line) = true := by rfl) (hs : starEach [e] X.env = [(false, eval e X.env)] := by rfl) :
    PE X (.Call (.Attribute o "index" apos) [e] [] cpos) (tTix X.K to t) := by
  refine ⟨fun pins s σ H Q I h => ?_⟩
  refine wpAny_Call_method_late hbase hfew hline rfl (thn (ho.run pins s σ H _ I h) fun v s1 ⟨x, H1, I1, r1, a, ob, vs, ex, ea, hc, hd, q1⟩ => ?_)
  subst ex
  obtain rfl : v = Value.ref a := r1
  have hob : s1.heap.get? a = some ob := (I1.hok a _ ea).1
  refine ⟨"tuple", "tuple.index", PySem.F.plainAttrs_tuple, PySem.F.slot_tuple_index, PySem.F.type_tuple_index, ⟨ob, hob, hc⟩, fun b eb => ⟨ob, by cases eb; exact hob, hd⟩, ?_⟩
  have hA := ha.run cpos pins s1 σ H1 _ I1 q1
  rw [hs] at hA ⊢
  refine Calls.callWith_builtin (by rfl) (Calls.evalArgs_plain ?_)
  refine thn hA fun us s2 ⟨xs, H2, I2, r2, ns, k, e1, hq, hk, q2⟩ => ?_
  subst e1
  obtain ⟨w1, rfl, rk⟩ := vals1 r2
  obtain ⟨tk, rfl⟩ := rk
  obtain ⟨its, rv, pt, _⟩ := I2.tuple hq
  exact PySem.SeqAt.tuple_index_ints pt rv.ints hk ⟨.int (ns.idxOf k : Nat), H2, I2.tok _, ⟨_, rfl⟩, q2⟩
def zTix (to : ZE) (t : ZA) : ZE := fun zs h Q => to zs h fun d h1 => match d with
  | .tf xs => match dints xs with
    | some ns => t zs h1 fun ds h2 => match ds with
      | [.int k] => k ∈ ns ∧ Q (.int (ns.idxOf k : Nat)) h2
      | _ => False
    | none => False
  | _ => False
theorem z_tix {X : Cx} {o e : Expr} {to : ZE} {t : ZA} {apos cpos : Pos} (ho : PZ X o to) (ha : PZA X [e] t)
    (hbase : attributeBase o "index" X.env (eval o X.env) = eval o X.env := by rfl)
    (hfew : ((backTo cpos (starEach [e] X.env)).all (fun x => !x.1) && (backToKw cpos (keywordEach [] X.env)).all (fun x => x.1.isSome)
      && decide (([e] : List Expr).length + ([] : List Keyword).length + (if ([] : List Keyword).isEmpty then 0 else 1) < 30)) = true := by rfl)
    (hline : (apos.endLine == cpos.line) = true := by rfl) (hs : starEach [e] X.env = [(false, eval e X.env)] := by rfl) :
    PZ X (.Call (.Attribute o "index" apos) [e] [] cpos) (zTix to t) := PEimp (pe_tix ho ha hbase hfew hline hs) fun s H Q ⟨r, zs, h, Q0, R, S, q, u⟩ => ⟨r, zs, h, _, R, S, q, fun d h1 r1 v H1 q1 E1 R1 D1 => by
    split at q1
    · rename_i xs
      obtain ⟨a, vs, rfl, ⟨o, h2, h3, h4⟩, ou, h5⟩ := D1
      split at q1
      · rename_i ns en
        have ev := dints_ok _ h5 en
        subst ev
        refine ⟨a, o, _, rfl, h2, h3, h4, r1, zs, h1, _, R1, S.mono E1, q1, fun ds h6 r6 vs H6 q6 E6 R6 D6 => ?_⟩
        split at q6
        · rename_i k
          obtain ⟨w, ws, rfl, d1, d2⟩ := D6
          have d1 : w = .int k := d1
          have d2 : ws = [] := d2
          subst d1 d2
          have kp := (E6.keep _ _ h2 ou.1).1
          exact ⟨ns, k, rfl, .inl (.inr ⟨o, kp⟩), q6.1, u _ h6 r6 _ H6 q6.2 (E1.trans E6) R6 rfl⟩
        · exact q6.elim
      · exact q1.elim
    · exact q1.elim⟩
end Z
/-! Z11: sorted(t, reverse=True), t a tuple of triples of ints in ascending order. -/
namespace ZSort
open PySem PySem.Spec PyProof.Rows
abbrev T3 := Int × Int × Int
def lx3 (p q : T3) : Bool := if p.1 = q.1 then (if p.2.1 = q.2.1 then decide (p.2.2 < q.2.2) else decide (p.2.1 < q.2.1)) else decide (p.1 < q.1)
theorem lx3_iff {p q : T3} : lx3 p q = true ↔ p.1 < q.1 ∨ (p.1 = q.1 ∧ (p.2.1 < q.2.1 ∨ (p.2.1 = q.2.1 ∧ p.2.2 < q.2.2))) := by
  unfold lx3
  split
  · split
    · rw [decide_eq_true_eq]; omega
    · rw [decide_eq_true_eq]; omega
  · rw [decide_eq_true_eq]; omega
theorem lx3_no {p q : T3} : lx3 p q = false ↔ ¬ (p.1 < q.1 ∨ (p.1 = q.1 ∧ (p.2.1 < q.2.1 ∨ (p.2.1 = q.2.1 ∧ p.2.2 < q.2.2)))) := by
  rw [← lx3_iff]
  cases lx3 p q <;> simp
theorem swo3 (k : Value → T3) : SrtO.Swo fun a b => lx3 (k a) (k b) := by
  refine ⟨fun a b q => ?_, fun a b c q1 q2 => ?_⟩
  · have q := lx3_iff.mp q
    exact lx3_no.mpr (by omega)
  · have q1 := lx3_no.mp q1
    have q2 := lx3_no.mp q2
    exact lx3_no.mpr (by omega)
def Is3 (h : Heap) (v : Value) (z : T3) : Prop := ∃ a o t u w n, v = .ref a ∧ h.get? a = some o ∧ o.cls = .type "tuple" ∧ o.data = .seq #[.int z.1 t, .int z.2.1 u, .int z.2.2 w] n
theorem Is3.keeps {h g : Heap} {v : Value} {z : T3} (p : Is3 h v z) (k : ∀ b o, h.get? b = some o → o.cls = .type "tuple" → g.get? b = some o) : Is3 g v z := by
  obtain ⟨a, o, t, u, w, n, e, ho, hc, hd⟩ := p
  exact ⟨a, o, t, u, w, n, e, k _ _ ho hc, hc, hd⟩
section
variable {prog : Program} {w : World} {A : Around} {E : Value → Shared → Prop} {s : Shared}
theorem cmp3 {vs : List Value} {k : Value → T3} (hp : ∀ v ∈ vs, Is3 s.heap v (k v)) : SrtO.Cmp prog w A s (tuples' true) (fun p => p.1 ∈ vs) (SrtO.lt2 fun a b => lx3 (k a) (k b)) := by
  intro p q hm hm'
  have g1 := hp _ hm
  have g2 := hp _ hm'
  show wpAny (model prog w) A (keyLt' (tuples' true) p.1 q.1) (fun r s' => s' = s ∧ r = lx3 (k p.1) (k q.1)) (fun _ _ => False) s
  unfold lx3
  generalize k p.1 = f at g1 ⊢
  generalize k q.1 = g at g2 ⊢
  obtain ⟨x, y, z⟩ := f
  obtain ⟨x', y', z'⟩ := g
  obtain ⟨a, o, t, u, t3, n, e, ho, hc, hd⟩ := g1
  obtain ⟨a', o', t', u', t3', n', e', ho', hc', hd'⟩ := g2
  rw [e, e']
  refine PySem.W.kat_lt ho hd ho' hd' ?_
  show PySem.W.KatLex prog w A true (decide (3 < 3)) _ [(.int x t, .int x' t'), (.int y u, .int y' u'), (.int z t3, .int z' t3')] 0 s
  dsimp only
  refine PySem.W.kat_cons (SeqAt.EqAt.int_int x t x' t' prog w _ _ ?_)
  refine PySem.W.kat_go (fun e1 => ?_) (fun e1 => ?_)
  · have ex : x = x' := by simpa using e1
    rw [if_pos ex]
    refine PySem.W.kat_yes (PySem.W.kat_cons (SeqAt.EqAt.int_int y u y' u' prog w _ _ ?_))
    refine PySem.W.kat_go (fun e2 => ?_) (fun e2 => ?_)
    · have ey : y = y' := by simpa using e2
      rw [if_pos ey]
      refine PySem.W.kat_yes (PySem.W.kat_cons (SeqAt.EqAt.int_int z t3 z' t3' prog w _ _ ?_))
      refine PySem.W.kat_go (fun e3 => ?_) (fun e3 => ?_)
      · have ez : z = z' := by simpa using e3
        exact PySem.W.kat_yes (PySem.W.kat_nil ⟨rfl, by rw [ez]; exact (decide_eq_false (Int.lt_irrefl _)).symm⟩)
      · exact PySem.W.kat_no (PySem.W.kat_one _ _ (PyProof.Rows.lt_int ⟨rfl, rfl⟩))
    · have ey : ¬ y = y' := by simpa using e2
      rw [if_neg ey]
      exact PySem.W.kat_no (PySem.W.kat_one _ _ (PyProof.Rows.lt_int ⟨rfl, rfl⟩))
  · have ex : ¬ x = x' := by simpa using e1
    rw [if_neg ex]
    exact PySem.W.kat_no (PyProof.Rows.oneLt_int ⟨rfl, rfl⟩)
theorem firsts3 {h : Heap} {k : Value → T3} : ∀ {vs : List Value}, (∀ v ∈ vs, Is3 h v (k v)) → ∃ fs : List Value, PySem.W.KatTups h vs fs ∧ fs.length = vs.length ∧ ∀ f ∈ fs, ∃ x t, f = Value.int x t
  | [], _ => ⟨[], PySem.W.KatTups.nil, rfl, fun _ hm => by simp at hm⟩
  | v :: vs, hp => by
    obtain ⟨fs, h1, h2, h3⟩ := firsts3 (k := k) (vs := vs) fun u hm => hp u (List.mem_cons_of_mem _ hm)
    obtain ⟨a, o, t, u, w, n, e, ho, hc, hd⟩ := hp v List.mem_cons_self
    generalize hx : k v = kv at hd
    subst e
    refine ⟨.int kv.1 t :: fs, PySem.W.KatTups.cons ho hc hd rfl h1, by rw [List.length_cons, List.length_cons, h2], fun f hm => ?_⟩
    rcases List.mem_cons.mp hm with rfl | hm
    · exact ⟨_, _, rfl⟩
    · exact h3 f hm
theorem sortable3 {a : Addr} {vs : List Value} {k : Value → T3} (h0 : 0 < vs.length) (hp : ∀ v ∈ vs, Is3 s.heap v (k v)) (ha : ∀ o, s.heap.get? a = some o → o.cls ≠ .type "tuple") : SrtO.SortableO prog w A s a vs fun x y => lx3 (k x) (k y) := by
  intro g keep
  have hq : ∀ v ∈ vs, Is3 g v (k v) := fun v hm => (hp v hm).keeps fun b o e c => keep b o (fun z => by subst z; exact ha o e c) e
  obtain ⟨fs, h1, h2, h3⟩ := firsts3 hq
  refine ⟨tuples' true, fun Q E q => ?_, cmp3 hq⟩
  refine PySem.W.kat_kind (T := .type "int") h1 (by omega) (fun f hm => ?_) (by rfl) ?_
  · obtain ⟨x, t, rfl⟩ := h3 f hm
    exact PySem.W.Looks.now
  · have e : (Value.type "int" != Value.type "tuple") = true := by first | decide +kernel | rfl | decide
    rw [e]
    exact q
theorem collect_tup3 {l : Addr} {vs : List Value} {Q : List Value → Shared → Prop} (hl : IsTup s.heap l vs.toArray) (hz : vs.length ≤ sizeLine)
    (h : Q vs { s with heap := (s.heap.push (seqObj "list" #[] 0)).update s.heap.objs.size (Obj.mapSeq (· ++ vs.toArray)) }) : wpAny (model prog w) A (collect (.ref l)) Q E s := by
  obtain ⟨ob, ho, hc, n, hd⟩ := id hl
  unfold collect
  refine wpAny_bind (wpAny_runValue (codeAny_builtin entry_proto_collect' ?_))
  show wpAny (model prog w) _ (do again (.builtin "list.__iadd__" ⟨[← newList [], .ref l], []⟩)) _ _ s
  refine wpAny_bind (wpAny_newList (wpAny_pure ⟨Code.quiet_builtin _ (by decide +kernel), codeAny_builtin entry_list_iadd' ?_⟩))
  show wpAny (model prog w) _ (Builtin.List.listExtendWith (.ref s.heap.objs.size) (.ref l) (.ref s.heap.objs.size)) _ _ { s with heap := s.heap.push (seqObj "list" #[] 0) }
  unfold Builtin.List.listExtendWith
  have h2 : (s.heap.push (seqObj "list" #[] 0)).get? l = some ob := Heap.get?_push_of_some _ ho
  refine wpAny_bind (wpAny_typeOf (T := "tuple") ⟨ob, h2, hc⟩ ?_)
  have ht : (Value.type "tuple" == Value.type "tuple") = true := by rfl
  rw [if_pos (by rw [ht]; simp)]
  refine wpAny_bind (listItems_at h2 hd ?_)
  refine wpAny_bind (listItems_at (n := 0) (xs := #[]) (Heap.get?_push_size _ rfl) rfl ?_)
  rw [if_neg (by simp)]
  refine wpAny_bind (listUpdate_at (n := 0) (xs := #[]) (Heap.get?_push_size _ rfl) rfl ?_ (Nat.zero_le _) (by show (#[] ++ vs.toArray).size ≤ sizeLine + 1; simp only [Array.size_append, List.size_toArray, List.length_nil]; omega))
  refine wpAny_pure ?_
  show wpAny (model prog w) A (do let o ← load s.heap.objs.size; match o.data with | .seq xs _ => pure xs.toList | _ => unsupported "internal:collect") Q E { s with heap := (s.heap.push (seqObj "list" #[] 0)).update s.heap.objs.size (Obj.mapSeq (· ++ vs.toArray)) }
  refine wpAny_bind (wpAny_load (get?_update_seq (Heap.get?_push_size _ rfl) _) ?_)
  show wpAny (model prog w) A (pure ((#[] : Array Value) ++ vs.toArray).toList) Q E _
  rw [show ((#[] : Array Value) ++ vs.toArray).toList = vs by simp]
  exact wpAny_pure h
/-- sorted(t, reverse=True) of a tuple -/
theorem sorted_tupR {l : Addr} {vs : List Value} {ltv : Value → Value → Bool} {Q : Value → Shared → Prop} (O : SrtO.Swo ltv) (hl : IsTup s.heap l vs.toArray) (hz : vs.length ≤ sizeLine)
    (hS : 2 ≤ vs.length → ∀ (g : Heap) (a : Addr), g.get? a = some (seqObj "list" vs.toArray 0) → (∀ b o, s.heap.get? b = some o → b ≠ a ∧ g.get? b = some o) → SrtO.SortableO prog w A.in1.in1 { s with heap := g } a vs ltv)
    (h : ∀ out : List Value, SrtO.Srtd ltv out → SrtO.Stb ltv out vs.reverse → Q (.ref (s.heap.objs.size + 1)) { s with heap := sortedAll s.heap vs out.toArray.reverse }) :
    wpAny (model prog w) A (call (.builtin "sorted") [.ref l] [(Str.ofString "reverse", .bool true)]) Q E s := by
  refine call_function_entry_kw kind_sorted plain_sorted entry_sorted (PyProof.Rows.args_sorted_rev _ _) ?_
  unfold Builtin.«sorted»
  refine wpAny_bind (m := checkCount "sorted" 1 1 _) (wpAny_pure ?_)
  refine wpAny_bind (collect_tup3 hl hz ?_)
  refine wpAny_bind (wpAny_newList ?_ hz)
  have hsz : ((s.heap.push (seqObj "list" #[] 0)).update s.heap.objs.size (Obj.mapSeq (· ++ vs.toArray))).objs.size = s.heap.objs.size + 1 := by rw [Heap.size_update, size_push']
  have hoL : (((s.heap.push (seqObj "list" #[] 0)).update s.heap.objs.size (Obj.mapSeq (· ++ vs.toArray))).push (seqObj "list" vs.toArray 0)).get? (s.heap.objs.size + 1) = some (seqObj "list" vs.toArray 0) := by
    rw [← hsz]; exact Heap.get?_push_size _ rfl
  have kp : ∀ b o, s.heap.get? b = some o → b ≠ s.heap.objs.size + 1 ∧ (((s.heap.push (seqObj "list" #[] 0)).update s.heap.objs.size (Obj.mapSeq (· ++ vs.toArray))).push (seqObj "list" vs.toArray 0)).get? b = some o := fun b o q => by
    have hb : b < s.heap.objs.size := Heap.lt_size q
    refine ⟨Nat.ne_of_lt (Nat.lt_succ_of_lt hb), Heap.get?_push_of_some _ ?_⟩
    rw [Heap.get?_update_ne _ _ _ _ (Nat.ne_of_lt hb)]
    exact Heap.get?_push_of_some _ q
  show wpAny (model prog w) _ _ _ _ { s with heap := ((s.heap.push (seqObj "list" #[] 0)).update s.heap.objs.size (Obj.mapSeq (· ++ vs.toArray))).push (seqObj "list" vs.toArray 0) }
  rw [hsz]
  refine wpAny_bind (wpAny_holding (wpAny_call_entry_kw slot_list_sort ⟨_, hoL, rfl⟩ entry_list_sort ?_ (PyProof.Rows.args_list_sort_rev _ _)))
  refine SrtR.list_sort_ordR (b := true) O hoL hz (fun h2 => hS h2 _ _ hoL kp) fun out hs hb => ⟨_, rfl, ?_⟩
  exact wpAny_pure ⟨_, rfl, h out hs hb⟩
end
theorem asc_cases {α : Type} {lt : α → α → Bool} : ∀ {l : List α}, l.Pairwise (fun x y => lt x y = true) → ∀ x ∈ l, ∀ y ∈ l, x = y ∨ lt x y = true ∨ lt y x = true
  | a :: l, h, x, hx, y, hy => by
    obtain ⟨h1, h2⟩ := List.pairwise_cons.mp h
    rcases List.mem_cons.mp hx with e | hx
    · rcases List.mem_cons.mp hy with e2 | hy
      · exact .inl (e.trans e2.symm)
      · exact .inr (.inl (by rw [e]; exact h1 y hy))
    · rcases List.mem_cons.mp hy with e2 | hy
      · exact .inr (.inr (by rw [e2]; exact h1 x hx))
      · exact asc_cases h2 x hx y hy
theorem asc_same {lt : Value → Value → Bool} (O : SrtO.Swo lt) {l out : List Value} (h : l.Pairwise (fun x y => lt x y = true)) (hs : SrtO.Srtd lt out) (hp : out.Perm l) : out = l := by
  refine List.Perm.eq_of_pairwise (le := fun x y => lt y x = false) (fun a b ha hb q1 q2 => ?_) hs (h.imp fun q => O.asym _ _ q) hp
  rcases asc_cases h a (hp.mem_iff.mp ha) b hb with e | e | e
  · exact e
  · rw [q2] at e; cases e
  · rw [q1] at e; cases e
end ZSort
namespace Z
open PySem PySem.Spec PyProof.Rows L2 ZSort
def rSortR3 (K : PySem.W.Frag) : List V → List V → Hp → VK → Prop := fun vs zs H Q => ∃ (a : Addr) (ys : List V) (k : V → T3), vs = [V.ref a] ∧ zs = [.bl true] ∧ SqT K H a ys ∧
  (∀ y ∈ ys, ∃ t, y = V.ref t ∧ H t = some (.tup [.int (k y).1, .int (k y).2.1, .int (k y).2.2])) ∧ ys.Pairwise (fun x y => lx3 (k x) (k y) = true) ∧ ∀ p, H p = none → Q (.ref p) (upd H p (.lst ys.reverse))
theorem vals3 : ∀ {x y z : V} {us : List Value}, Vals [x, y, z] us → ∃ u v w, us = [u, v, w] ∧ RelV x u ∧ RelV y v ∧ RelV z w
  | _, _, _, _, .cons r (.cons q (.cons p .nil)) => ⟨_, _, _, rfl, r, q, p⟩
theorem cr_sortR3 {X : Cx} : CallRK X (.builtin "sorted") [Str.ofString "reverse"] (rSortR3 X.K) := by
  intro pins s σ H vs zs us ws Q I r rz h
  obtain ⟨a, ys, k, rfl, rfl, hq, hy, hpw, q⟩ := h
  obtain rfl := Vals.ref1 r
  obtain ⟨w1, rfl, e1⟩ := vals1 rz
  obtain rfl : w1 = Value.bool true := e1
  obtain ⟨its, rv, pt, hz⟩ := I.tuple hq
  obtain ⟨e1, e2⟩ := refs_back rv fun x m => by
    obtain ⟨t, e, _⟩ := hy x m
    exact ⟨t, e⟩
  have hp : ∀ v ∈ its, Is3 s.heap v (k (backV v)) := fun v hv => by
    obtain ⟨t, rfl⟩ := e2 v hv
    have hm : V.ref t ∈ ys := by rw [e1]; exact List.mem_map.mpr ⟨_, hv, rfl⟩
    obtain ⟨t', e, ht⟩ := hy _ hm
    cases e
    obtain ⟨_, its2, r2, o, ho, hc, n, hd⟩ := I.hok _ _ ht
    obtain ⟨u1, u2, u3, rfl, ⟨t1, rfl⟩, ⟨t2, rfl⟩, ⟨t3, rfl⟩⟩ := vals3 r2
    exact ⟨t, o, t1, t2, t3, n, rfl, ho, hc, hd⟩
  have hasc : its.Pairwise (fun x y => lx3 (k (backV x)) (k (backV y)) = true) := by
    rw [e1, List.pairwise_map] at hpw
    exact hpw
  have hil : its.length ≤ sizeLine := by rw [← rv.length]; exact hz
  refine sorted_tupR (swo3 fun u => k (backV u)) pt hil (fun h2 g a' hg kk => ?_) fun out h1 h2 => ?_
  · refine sortable3 (s := { s with heap := g }) (by omega) (fun v hm => (hp v hm).keeps fun b o e _ => (kk b o e).2) fun o e => ?_
    have e' : some o = some (seqObj "list" its.toArray 0) := e.symm.trans hg
    cases e'
    intro c
    exact absurd (Value.type.inj c) (by decide)
  · have eo : out = its := asc_same (swo3 fun u => k (backV u)) hasc h1 (h2.perm.trans (List.reverse_perm _))
    subst eo
    obtain ⟨ep, he'⟩ := PyProof.Rows.sortedAll_at s.heap out out.toArray.reverse
    have ea : out.reverse.toArray = out.toArray.reverse := by
      apply Array.ext'
      rw [Array.toList_reverse]
    have h4 : ∀ u ∈ out.reverse, ∃ a, u = Value.ref a := fun u hu => e2 u (List.mem_reverse.mp hu)
    refine ⟨.ref _, upd H (s.heap.objs.size + 1) (.lst ys.reverse), I.laid (t' := s.toks) (fun _ _ => PyProof.Rows.sortedAll_old) (Nat.le_succ _) ⟨by rw [List.length_reverse]; exact hz, out.reverse, ep, ?_, by rw [ea]; exact he'⟩, rfl, q _ (I.hok.fresh (Nat.le_succ _))⟩
    rw [e1, ← List.map_reverse]
    exact vals_back h4
def dtrips : List D → Option (List T3)
  | [] => some []
  | .tup [.int a, .int b, .int c] :: ds => match dtrips ds with
    | some ts => some ((a, b, c) :: ts)
    | none => none
  | _ => none
def tpR : D → Option (List D)
  | .tup ds => some ds
  | .kt ds => some ds
  | .tf ds => some ds
  | _ => none
theorem tpR_ok {K : PySem.W.Frag} {r : Wd} {H : Hp} {d : D} {v : V} {ds : List D} (hv : RelD K r H d v) (e : tpR d = some ds) : ∃ a vs, v = .ref a ∧ SqT K H a vs ∧ RelDs K r H ds vs := by
  unfold tpR at e
  split at e
  · cases e
    obtain ⟨a, vs, rfl, h1, _, h2⟩ := hv
    exact ⟨a, vs, rfl, .of h1, h2⟩
  · cases e
    obtain ⟨a, vs, rfl, h1, h2⟩ := hv
    exact ⟨a, vs, rfl, sqT_k h1, h2⟩
  · cases e
    obtain ⟨a, vs, rfl, ⟨o, h1, _⟩, _, h2⟩ := hv
    exact ⟨a, vs, rfl, .inl (.inr ⟨o, h1⟩), h2⟩
  · cases e
/-- the triple at a reference -/
def key3 (H : Hp) : V → T3
  | .ref a => match H a with
    | some (.tup [.int x, .int y, .int z]) => (x, y, z)
    | _ => (0, 0, 0)
  | _ => (0, 0, 0)
theorem dtrips_ok {K : PySem.W.Frag} {r : Wd} {H : Hp} : ∀ (n : Nat) {xs : List D} {vs : List V} {ts : List T3}, xs.length = n → RelDs K r H xs vs → dtrips xs = some ts →
    vs.map (key3 H) = ts ∧ ∀ y ∈ vs, ∃ t, y = V.ref t ∧ H t = some (.tup [.int (key3 H y).1, .int (key3 H y).2.1, .int (key3 H y).2.2]) := by
  intro n
  induction n with
  | zero =>
    intro xs vs ts hl hd e
    have : xs = [] := List.length_eq_zero_iff.mp hl
    subst this
    have hd : vs = [] := hd
    have e : some ([] : List T3) = some ts := e
    cases e
    subst hd
    exact ⟨rfl, fun y hy => absurd hy (by simp)⟩
  | succ n ih =>
    intro xs vs ts hl hd e
    unfold dtrips at e
    split at e
    · cases hl
    · rename_i x y z ds
      obtain ⟨v, ws, rfl, h1, h2⟩ := hd
      obtain ⟨a, us, rfl, h3, _, w1, u1, rfl, hx, w2, u2, rfl, hy, w3, u3, rfl, hz, h4⟩ := h1
      have h4 : u3 = [] := h4
      have hx : w1 = .int x := hx
      have hy : w2 = .int y := hy
      have hz : w3 = .int z := hz
      subst h4 hx hy hz
      have ek : key3 H (.ref a) = (x, y, z) := by
        show (match H a with | some (.tup [.int x, .int y, .int z]) => (x, y, z) | _ => (0, 0, 0)) = _
        rw [h3]
      split at e
      · rename_i ts' e2
        cases e
        obtain ⟨g1, g2⟩ := ih (by simpa using hl) h2 e2
        refine ⟨by rw [List.map_cons, ek, g1], fun u hu => ?_⟩
        rcases List.mem_cons.mp hu with q | q
        · refine ⟨a, q, ?_⟩
          rw [q, ek]
          exact h3
        · exact g2 u q
      · cases e
    · cases e
abbrev Zk := List D → List D → AH → ZK → Prop
def RkZ (K : PySem.W.Frag) (t : List V → List V → Hp → VK → Prop) (z : Zk) : Prop := ∀ r h H vs us ds es Q Q0, RH K r h H → RelDs K r H ds vs → RelDs K r H es us → z ds es h Q0 → UpQ K r H Q0 Q → t vs us H Q
def zSortR3 : Zk := fun ds es h Q => match ds, es with
  | [d], [.bl true] => match tpR d with
    | some xs => match dtrips xs with
      | some ts => ts.Pairwise (fun x y => lx3 x y = true) ∧ Q (.lst xs.reverse) h
      | none => False
    | none => False
  | _, _ => False
theorem l_sortR3 {K : PySem.W.Frag} : RkZ K (rSortR3 K) zSortR3 := fun r h H vs us ds es Q Q0 R hd he q u => by
  unfold zSortR3 at q
  split at q
  · rename_i d
    obtain ⟨v, ws, rfl, d1, d2⟩ := hd
    have d2 : ws = [] := d2
    subst d2
    obtain ⟨v2, ws2, rfl, d3, d4⟩ := he
    have d3 : v2 = .bl true := d3
    have d4 : ws2 = [] := d4
    subst d3 d4
    split at q
    · rename_i xs ex
      obtain ⟨a, vs, rfl, h1, h2⟩ := tpR_ok d1 ex
      split at q
      · rename_i ts et
        obtain ⟨g1, g2⟩ := dtrips_ok xs.length rfl h2 et
        refine ⟨a, vs, key3 H, rfl, rfl, h1, g2, ?_, fun p hp => up_newL (m := false) R h2.reverse q.2 u hp⟩
        have z := q.1
        rw [← g1, List.pairwise_map] at z
        exact z
      · exact q.elim
    · exact q.elim
  · exact q.elim
def zCKw (z : Zk) (t tk : ZA) : ZE := fun zs h Q => t zs h fun ds h1 => tk zs h1 fun es h2 => z ds es h2 Q
theorem z_callBK {X : Cx} {x : Str} {p pos : Pos} {e : Expr} {es : List Expr} {kws : List Keyword} {t tk : ZA} {id : String} {ks : List Str} {rr : List V → List V → Hp → VK → Prop} {z : Zk} (hc : CallRK X (.builtin id) ks rr) (hz : RkZ X.K rr z) (hg : Gl X x) (hm : X.mg x = none) (hv : bootBuiltins x = some (.builtin id)) (ha : PZA X (e :: es) t) (hk : PZK X kws tk) (hn : x ≠ "__name__" := by decide) (hdb : (x == ("__debug__" : Str)) = false := by decide)
    (he : backTo pos (starEach (e :: es) X.env) = (false, eval e X.env) :: backTo pos (starEach es X.env) := by rfl) (hpl : (backTo pos (starEach (e :: es) X.env)).any (·.1) = false := by rfl)
    (hall : (backToKw pos (keywordEach kws X.env)).all (·.1.isSome) = true := by rfl) (hnone : (backToKw pos (keywordEach kws X.env)).any (·.1.isNone) = false := by rfl) (hks : (backToKw pos (keywordEach kws X.env)).filterMap (·.1) = ks := by rfl) :
    PZ X (.Call (.Name x p) (e :: es) kws pos) (zCKw z t tk) := PEimp (pe_callBK hc hg hm hv ha hk hn hdb he hpl hall hnone hks) fun s H Q ⟨r, zs, h, Q0, R, S, q, u⟩ => ⟨r, zs, h, _, R, S, q, fun ds h1 r1 vs H1 q1 E1 R1 D1 => ⟨r1, zs, h1, _, R1, S.mono E1, q1, fun es' h2 r2 us H2 q2 E2 R2 D2 =>
    hz r2 h2 H2 vs us ds es' _ _ R2 (RelDs.mono E2 _ _ D1) D2 q2 (u.ext (E1.trans E2))⟩⟩
end Z
/-! Z12: defs by the facts of the head, module constants, what the printed derivations use. -/
namespace Z
open PySem PySem.Spec PyProof.Rows L2
abbrev FnP (K : PySem.W.Frag) (x : Str) (st : Stmt) (f : Addr) (fd : FuncData) : Prop := FunD K x x (defArgs st) (defBody st) (defScope st) [] [] f fd
section
variable {P : Program} {w : World} {K : PySem.W.Frag} {mg : Str → Option Value} {base : Heap}
theorem zfunD0 {x : Str} {st : Stmt} {f : Addr} {fd : FuncData} {N ps : List Str} {k : Nat} {sp : ZSp} (F : FnP K x st f fd) (S : FnScope N ps (defScope st)) (len : ∀ ds h Q E, sp ds h Q E → ds.length = ps.length)
    (t : ZTS)
    (hbody : ∀ (cdv : Value) (A : Around) (outer : List Env) (s : Shared) (H : Hp) (E : XK), Room k (A.deeper (envOfC x (defScope st) s.heap.objs.size f cdv)) →
      PZSs (cxOf CX0 P w K mg base N x (defScope st) f cdv A outer s H E).nox (defBody st) t)
    (hp : ∀ ds h Q0 E0, sp ds h Q0 E0 → WfH h → D.cls h.length ds = true → t { nx := fun _ h' => Exit h.length Q0 .non h', rt := Exit h.length Q0 } (zstart N ds) h) : FnOk P w K mg base CX0 (k + 1) f fd ps (liftSp K sp) := by
  refine F.ok S (fun vs H Q E ⟨r, ds, h, Q0, E0, R, D1, q, _⟩ => by rw [← D1.length]; exact len ds h Q0 E0 q) fun cdv A outer s H vs Q E hr ⟨r, ds, h, Q0, E0, R, D1, q, u, _⟩ => ?_
  refine ⟨_, (hbody cdv A outer s H E hr).nox, r, zstart N ds, h, _, R, RS.start D1, hp ds h Q0 E0 q R.wf (by rw [← R.len]; exact RelDs.cl _ _ D1), ?_⟩
  exact ⟨fun zs h' r' s' H' q' E' R' S' => Exit.up R u .non h' r' .non H' q' E' R' rfl, Exit.up R u, fun _ _ _ _ _ z => z.elim, fun _ _ _ _ _ z => z.elim⟩
theorem zfunD {x : Str} {st : Stmt} {f : Addr} {fd : FuncData} {N ps : List Str} {k : Nat} {sp : ZSp} (F : FnP K x st f fd) (S : FnScope N ps (defScope st)) (len : ∀ ds h Q E, sp ds h Q E → ds.length = ps.length)
    (t : ZTS)
    (hbody : ∀ (cdv : Value) (A : Around) (outer : List Env) (s : Shared) (H : Hp) (E : XK), Room k (A.deeper (envOfC x (defScope st) s.heap.objs.size f cdv)) →
      PZSs (cxOf CX0 P w K mg base N x (defScope st) f cdv A outer s H E).nox (defBody st) t)
    (hp : ∀ ds h Q0 E0, sp ds h Q0 E0 → WfH h → D.cls h.length ds = true → t { nx := fun _ h' => Exit h.length Q0 .non h', rt := Exit h.length Q0 } (zstart N ds) h) : FnOk P w K mg base (L2.CX P w) (k + 1) f fd ps (liftSp K sp) :=
  FnOk.any (zfunD0 F S len t hbody hp)
theorem Cal.mono {j k : Nat} {x : Str} {f : Addr} {fd : FuncData} {ps : List Str} {sp : ZSp} (c : Cal P w K mg base j x f fd ps sp) (h : j ≤ k) : Cal P w K mg base k x f fd ps sp := ⟨c.ok.mono h, c.mg, c.kp, c.bd⟩
end
theorem FunD.kwN {K : PySem.W.Frag} {x qual : Str} {params : Arguments} {body : List Stmt} {scope : Scope} {kws : List (Str × V)} {f : Addr} {fd : FuncData} {ps : List Str} (F : FunD K x qual params body scope [] kws f fd)
    (h : ∀ (kV doc pm : Value) (an : Option Addr) (cdv ct : Value) (ws : List Value), ws.length = ps.length → bindArgs (PySem.W.fnOf x qual params body scope .none kV doc pm an cdv ct) ⟨[], ps.zip ws⟩ = pure (ps.zip ws)) : ∀ ws : List Value, ws.length = ps.length → bindArgs fd ⟨[], ps.zip ws⟩ = pure (ps.zip ws) := by
  obtain ⟨oc, od, dV, kV, doc, pm, an, cdv, ct, osl, rfl, lk, hcd, hD, hK⟩ := F.ex
  rcases hD with ⟨_, rfl⟩ | ⟨e, _⟩
  · exact h kV doc pm an cdv ct
  · exact absurd rfl e
/-- a whole number of the module -/
abbrev GInt (mg : Str → Option Value) (x : Str) (i : Int) : Prop := ∃ t, mg x = some (.int i t)
theorem z_gi {X : Cx} {x : Str} {i : Int} {pos : Pos} (h : GInt X.mg x i) (hg : Gl X x := by rfl) (hd : (x == ("__debug__" : Str)) = false := by decide) : PZ X (.Name x pos) (zC (.int i)) := by
  obtain ⟨t, e⟩ := h
  exact z_globI hg e hd
end Z
/-! Z13: rows for the reading of the readings. -/
namespace Z
open PySem PySem.Spec PyProof.Rows L2
theorem kit_tt : kitB "tuple" "tuple" = some true := by rfl
theorem kit_ii : kitB "int" "int" = some true := by rfl
theorem kit_ib : kitB "int" "bool" = some false := by rfl
theorem zEq_ii (a b : Int) (h : AH) (Q : ZK) : zEq (.int a) (.int b) h Q = Q (.bl (decide (a = b))) h := by
  show (SeqAt.shaped (.int a) = true ∧ SeqAt.shaped (.int b) = true ∧ Q (.bl (PyData.eqv (.int a) (.int b))) h) = _
  have e : PyData.eqv (.int a) (.int b) = decide (a = b) := by
    simp [PyData.eqv]
    try rfl
  rw [e]
  exact propext ⟨fun z => z.2.2, fun z => ⟨rfl, rfl, z⟩⟩
theorem zNe_ii (a b : Int) (h : AH) (Q : ZK) : zNe (.int a) (.int b) h Q = Q (.bl (!decide (a = b))) h := by
  show (SeqAt.shaped (.int a) = true ∧ SeqAt.shaped (.int b) = true ∧ Q (.bl (!PyData.eqv (.int a) (.int b))) h) = _
  have e : PyData.eqv (.int a) (.int b) = decide (a = b) := by
    simp [PyData.eqv]
    try rfl
  rw [e]
  exact propext ⟨fun z => z.2.2, fun z => ⟨rfl, rfl, z⟩⟩
theorem zForL_cons {g : ZG} {tb : ZTS} {E : ZEnds} {x : D} {xs : List D} {zs : ZS} {h : AH} : zForL g tb E (x :: xs) zs h = g x zs h fun zs1 h1 => tb { nx := zForL g tb E xs, ct := zForL g tb E xs, bk := E.nx, rt := E.rt } zs1 h1 := rfl
theorem zenum_cons (k : Nat) (d : D) (ds : List D) : zenum k (d :: ds) = .tup [.int k, d] :: zenum (k + 1) ds := rfl
theorem atZ {α : Type} {xs : List α} {i : Int} {x : α} (h0 : 0 ≤ i) (h : xs[i.toNat]? = some x) : atI xs i = some x := by
  have hl := (List.getElem?_eq_some_iff.mp h).1
  unfold atI ixN
  rw [if_pos h0, if_pos (by omega)]
  exact h
theorem atN {α : Type} {xs : List α} {k : Nat} {x : α} (h : xs[k]? = some x) : atI xs (k : Int) = some x := atZ (by omega) (by rw [Int.toNat_natCast]; exact h)
theorem map_get {α β : Type} {f : α → β} {xs : List α} {k : Nat} {x : α} (h : xs[k]? = some x) : (xs.map f)[k]? = some (f x) := by
  rw [List.getElem?_map, h]; rfl
theorem ixN_ok {n : Nat} {i : Int} (h0 : 0 ≤ i) (h1 : i < n) : ixN n i = some i.toNat := by
  unfold ixN
  rw [if_pos h0, if_pos h1]
theorem tail_get {α : Type} (h t : List α) (i : Nat) : (h ++ t)[h.length + i]? = t[i]? := by
  rw [List.getElem?_append_right (by omega)]
  congr 1
  omega
theorem tail_get0 {α : Type} (h t : List α) : (h ++ t)[h.length]? = t[0]? := tail_get h t 0
theorem tail_set {α : Type} (h t : List α) (i : Nat) (x : α) : (h ++ t).set (h.length + i) x = h ++ t.set i x := by
  rw [List.set_append_right _ _ (by omega)]
  congr 2
  omega
theorem tail_set0 {α : Type} (h t : List α) (x : α) : (h ++ t).set h.length x = h ++ t.set 0 x := tail_set h t 0 x
theorem inV_ints (i : Int) : ∀ xs : List Int, inV (.int i) (xs.map V.int) = decide (i ∈ xs)
  | [] => by
    show false = _
    simp
  | x :: xs => by
    have ih := inV_ints i xs
    unfold inV at ih ⊢
    rw [List.map_cons, List.any_cons, ih]
    show (eqV (.int x) (.int i) || _) = _
    have e : eqV (.int x) (.int i) = decide (x = i) := by
      show (x == i) = _
      by_cases h : x = i <;> simp [h]
    rw [e]
    by_cases h : x = i
    · simp [h]
    · have h' : ¬ i = x := fun z => h z.symm
      simp [h, h']
theorem inB_ints {h : AH} {d : D} {xs : List Int} (i : Int) (e : sqR h d = some (xs.map D.int)) : zInB h (.int i) d = some (decide (i ∈ xs)) := by
  unfold zInB
  rw [e]
  show (match flatD (.int i), flatDs (xs.map D.int) with | some v, some vs => some (inV v vs) | _, _ => none) = _
  rw [flatDs_ints]
  show some (inV (.int i) (xs.map V.int)) = _
  rw [inV_ints]
theorem cls_ints (k : Nat) (xs : List Int) : D.cls k (xs.map D.int) = true := D.cls_map (fun _ => rfl) xs
end Z
/-! Z14: comprehensions without effects, dicts with int keys, ranges. -/
namespace Z
open PySem PySem.Spec PyProof.Rows L2
theorem lcl {m : Bool} {g : ZG} {tt : ZT} {te : ZE} {zs : ZS} {h : AH} {α : Type} (f : α → D) (p : α → Bool) (r : α → D) (Q : ZK) : ∀ (xs : List α) (acc : List D),
    (∀ a ∈ xs, ∀ (K : ZK) (N : AH → Prop), (if p a = true then K (r a) h else N h) → g (f a) zs h fun z1 h1 => tt z1 h1 fun b h2 => match b with | true => te z1 h2 K | false => N h2) →
    acc.length + xs.length < sizeLine → newL m (acc ++ (xs.filter p).map r) h Q → zLCL m g tt te zs (xs.map f) acc h Q
  | [], acc, H, hl, q => by
    rw [List.filter_nil, List.map_nil, List.append_nil] at q
    exact q
  | a :: xs, acc, H, hl, q => by
    rw [List.length_cons] at hl
    refine H a List.mem_cons_self (fun y h3 => acc.length < sizeLine ∧ zLCL m g tt te zs (xs.map f) (acc ++ [y]) h3 Q) (fun h2 => zLCL m g tt te zs (xs.map f) acc h2 Q) ?_
    have H' := fun b hb => H b (List.mem_cons_of_mem _ hb)
    by_cases hp : p a = true
    · rw [if_pos hp]
      rw [List.filter_cons_of_pos hp, List.map_cons] at q
      exact ⟨by omega, lcl f p r Q xs (acc ++ [r a]) H' (by simp; omega) (by rw [List.append_assoc]; exact q)⟩
    · rw [if_neg hp]
      rw [List.filter_cons_of_neg hp] at q
      exact lcl f p r Q xs acc H' (by omega) q
/-- the same, every item taken -/
theorem lclA {m : Bool} {g : ZG} {te : ZE} {zs : ZS} {h : AH} {α : Type} (f : α → D) (r : α → D) (Q : ZK) (xs : List α)
    (H : ∀ a ∈ xs, ∀ (K : ZK), K (r a) h → g (f a) zs h fun z1 h1 => te z1 h1 K) (hl : xs.length < sizeLine) (q : newL m (xs.map r) h Q) : zLCL m g zYes te zs (xs.map f) [] h Q := by
  refine lcl f (fun _ => true) r Q xs [] (fun a ha K N z => ?_) (by simpa using hl) ?_
  · rw [if_pos rfl] at z
    exact H a ha K z
  · rw [List.nil_append, List.filter_eq_self.mpr (fun _ _ => rfl)]
    exact q
def enumL {α : Type} : Nat → List α → List (Nat × α)
  | _, [] => []
  | k, x :: xs => (k, x) :: enumL (k + 1) xs
theorem zenum_map {α : Type} (f : α → D) : ∀ (k : Nat) (xs : List α), zenum k (xs.map f) = (enumL k xs).map fun p => .tup [.int p.1, f p.2]
  | _, [] => rfl
  | k, x :: xs => by
    rw [List.map_cons, zenum_cons, zenum_map f (k + 1) xs]; rfl
theorem enumL_length {α : Type} : ∀ (k : Nat) (xs : List α), (enumL k xs).length = xs.length
  | _, [] => rfl
  | k, x :: xs => by
    show (enumL (k + 1) xs).length + 1 = xs.length + 1
    rw [enumL_length]
theorem enumL_mem {α : Type} : ∀ {k : Nat} {xs : List α} {p : Nat × α}, p ∈ enumL k xs → ∃ i, p.1 = k + i ∧ xs[i]? = some p.2
  | k, x :: xs, p, h => by
    rcases List.mem_cons.mp h with e | e
    · exact ⟨0, by rw [e]; rfl, by rw [e]; rfl⟩
    · obtain ⟨i, e1, e2⟩ := enumL_mem e
      exact ⟨i + 1, by omega, by simpa using e2⟩
def intsUp : Int → Nat → List Int
  | _, 0 => []
  | a, n + 1 => a :: intsUp (a + 1) n
def intsDn : Int → Nat → List Int
  | _, 0 => []
  | a, n + 1 => a :: intsDn (a - 1) n
theorem zrange_up : ∀ (a : Int) (n : Nat), zrange 1 a n = (intsUp a n).map D.int
  | _, 0 => rfl
  | a, n + 1 => by
    show D.int a :: zrange 1 (a + 1) n = _
    rw [zrange_up (a + 1) n]; rfl
theorem zrange_dn : ∀ (a : Int) (n : Nat), zrange (-1) a n = (intsDn a n).map D.int
  | _, 0 => rfl
  | a, n + 1 => by
    show D.int a :: zrange (-1) (a + -1) n = _
    rw [show a + -1 = a - 1 by omega, zrange_dn (a - 1) n]; rfl
theorem intsUp_length : ∀ (a : Int) (n : Nat), (intsUp a n).length = n
  | _, 0 => rfl
  | a, n + 1 => by
    show (intsUp (a + 1) n).length + 1 = n + 1
    rw [intsUp_length]
theorem intsUp_mem : ∀ {a x : Int} {n : Nat}, x ∈ intsUp a n ↔ a ≤ x ∧ x < a + n
  | a, x, 0 => ⟨fun h => absurd h (by simp [intsUp]), fun h => by omega⟩
  | a, x, n + 1 => by
    show x ∈ a :: intsUp (a + 1) n ↔ _
    rw [List.mem_cons, intsUp_mem]
    omega
theorem intsDn_mem : ∀ {a x : Int} {n : Nat}, x ∈ intsDn a n ↔ a - n < x ∧ x ≤ a
  | a, x, 0 => ⟨fun h => absurd h (by simp [intsDn]), fun h => by omega⟩
  | a, x, n + 1 => by
    show x ∈ a :: intsDn (a - 1) n ↔ _
    rw [List.mem_cons, intsDn_mem]
    omega
theorem intsUp_asc : ∀ (a : Int) (n : Nat), (intsUp a n).Pairwise (· < ·)
  | _, 0 => .nil
  | a, n + 1 => List.pairwise_cons.mpr ⟨fun x hx => by have := intsUp_mem.mp hx; omega, intsUp_asc (a + 1) n⟩
/-! ### dicts with int keys -/
abbrev ik (F : List Int) : List Key := F.map Sum.inl
theorem mem_ik {x : Int} {F : List Int} : (Sum.inl x : Key) ∈ ik F ↔ x ∈ F := by
  rw [List.mem_map]
  constructor
  · rintro ⟨y, hy, e⟩
    cases e
    exact hy
  · intro h
    exact ⟨x, h, rfl⟩
def putI (F : List Int) (x : Int) : List Int := if x ∈ F then F else F ++ [x]
theorem putK_ik (F : List Int) (x : Int) : zputK (ik F) (Sum.inl x) = ik (putI F x) := by
  unfold zputK putI
  by_cases h : x ∈ F
  · rw [if_pos (mem_ik.mpr h), if_pos h]
  · rw [if_neg (fun z => h (mem_ik.mp z)), if_neg h]
    show F.map Sum.inl ++ _ = (F ++ [x]).map Sum.inl
    rw [List.map_append]; rfl
theorem zrep_const (d : D) : ∀ (ks : List Key) (n : Nat) (x : Key), zrep ks (List.replicate n d) x d = List.replicate n d
  | [], n, x => by
    cases n <;> rfl
  | k :: ks, 0, x => rfl
  | k :: ks, n + 1, x => by
    show (if k = x then d else d) :: zrep ks (List.replicate n d) x d = _
    rw [zrep_const d ks n x, List.replicate_succ]
    split <;> rfl
theorem putV_const (d : D) (F : List Int) (x : Int) : zputV (ik F) (List.replicate F.length d) (Sum.inl x) d = List.replicate (putI F x).length d := by
  unfold zputV putI
  by_cases h : x ∈ F
  · rw [if_pos (mem_ik.mpr h), if_pos h]
    exact zrep_const d _ _ _
  · rw [if_neg (fun z => h (mem_ik.mp z)), if_neg h, List.length_append]
    show _ = List.replicate (F.length + 1) d
    rw [List.replicate_succ']
theorem zval_has : ∀ (F : List Int) (vs : List D) (x : Int), vs.length = F.length → (zval (ik F) vs (Sum.inl x)).isSome = decide (x ∈ F)
  | [], vs, x, h => by
    cases vs with
    | nil => simp [ik, zval]
    | cons _ _ => simp at h
  | k :: F, [], x, h => by simp at h
  | k :: F, v :: vs, x, h => by
    show (if (Sum.inl k : Key) = Sum.inl x then some v else zval (ik F) vs (Sum.inl x)).isSome = _
    by_cases e : k = x
    · rw [if_pos (by rw [e])]
      simp [e]
    · rw [if_neg (fun z => e (Sum.inl.inj z)), zval_has F vs x (by simpa using h)]
      have e' : ¬ x = k := fun z => e z.symm
      simp [e']
theorem intKeys_ik : ∀ F : List Int, intKeys (ik F) = some F
  | [] => rfl
  | x :: F => by
    show (match intKeys (ik F) with | some ns => some (x :: ns) | none => none) = _
    rw [intKeys_ik F]
/-- values that count from j -/
def cnt : Nat → Nat → List D
  | _, 0 => []
  | j, n + 1 => .int j :: cnt (j + 1) n
theorem cnt_length : ∀ (j n : Nat), (cnt j n).length = n
  | _, 0 => rfl
  | j, n + 1 => by
    show (cnt (j + 1) n).length + 1 = n + 1
    rw [cnt_length]
theorem cnt_snoc : ∀ (j n : Nat), cnt j n ++ [.int ((j + n : Nat))] = cnt j (n + 1)
  | j, 0 => rfl
  | j, n + 1 => by
    show .int j :: (cnt (j + 1) n ++ [.int ((j + (n + 1) : Nat))]) = .int j :: cnt (j + 1) (n + 1)
    rw [← cnt_snoc (j + 1) n, show j + (n + 1) = j + 1 + n by omega]
theorem zval_cnt : ∀ (F : List Int) (j : Nat) (x : Int), x ∈ F → zval (ik F) (cnt j F.length) (Sum.inl x) = some (.int ((j + F.idxOf x : Nat)))
  | k :: F, j, x, h => by
    show (if (Sum.inl k : Key) = Sum.inl x then some (D.int j) else zval (ik F) (cnt (j + 1) F.length) (Sum.inl x)) = _
    by_cases e : k = x
    · rw [if_pos (by rw [e]), e, List.idxOf_cons_self, Nat.add_zero]
    · rw [if_neg (fun z => e (Sum.inl.inj z)), zval_cnt F (j + 1) x ((List.mem_cons.mp h).resolve_left fun z => e z.symm)]
      have : (k :: F).idxOf x = F.idxOf x + 1 := by
        rw [List.idxOf_cons]
        have e2 : (k == x) = false := by simpa using e
        rw [e2]; rfl
      rw [this]
      congr 3
      omega
end Z
/-! Z15: == and != of data that stand still. -/
namespace Z
open PySem PySem.Spec PyProof.Rows L2
structure DP (k : Nat) (d : D) (e : PyData) : Prop where
  pd : d.pd = some e
  lay : e.canLay0 = true
  dep : e.depth ≤ k
structure DPs (k : Nat) (ds : List D) (es : List PyData) : Prop where
  pd : D.pds ds = some es
  lay : PyData.canLayAll0 es = true
  dep : PyData.depthAll es ≤ k
theorem DP.int {k : Nat} (i : Int) : DP k (.int i) (.int i) := ⟨rfl, by simp [PyData.canLay0], by simp [PyData.depth]⟩
theorem DP.bl {k : Nat} (i : Bool) : DP k (.bl i) (.bool i) := ⟨rfl, by simp [PyData.canLay0], by simp [PyData.depth]⟩
theorem DP.non {k : Nat} : DP k .non .none := ⟨rfl, by simp [PyData.canLay0], by simp [PyData.depth]⟩
theorem DPs.nil {k : Nat} : DPs k [] [] := ⟨rfl, by simp [PyData.canLayAll0], by simp [PyData.depthAll]⟩
theorem DPs.cons {k : Nat} {d : D} {ds : List D} {e : PyData} {es : List PyData} (x : DP k d e) (y : DPs k ds es) : DPs k (d :: ds) (e :: es) := ⟨by
  show (match D.pd d, D.pds ds with | some y, some ys => some (y :: ys) | _, _ => none) = _
  rw [x.pd, y.pd], by rw [PyData.canLayAll0, x.lay, y.lay]; rfl, by
  rw [PyData.depthAll]
  have := x.dep
  have := y.dep
  omega⟩
theorem DPs.map {k : Nat} {α : Type} {f : α → D} {g : α → PyData} (h : ∀ a, DP k (f a) (g a)) : ∀ xs : List α, DPs k (xs.map f) (xs.map g)
  | [] => .nil
  | x :: xs => .cons (h x) (DPs.map h xs)
theorem DP.tup {k : Nat} {ds : List D} {es : List PyData} (x : DPs k ds es) : DP (k + 1) (.tup ds) (.tuple es) := ⟨by
  show (match D.pds ds with | some ys => some (PyData.tuple ys) | none => none) = _
  rw [x.pd], by rw [PyData.canLay0]; exact x.lay, by
  rw [PyData.depth]
  have := x.dep
  omega⟩
theorem DP.tf {k : Nat} {ds : List D} {es : List PyData} (x : DPs k ds es) : DP (k + 1) (.tf ds) (.tuple es) := ⟨by
  show (match D.pds ds with | some ys => some (PyData.tuple ys) | none => none) = _
  rw [x.pd], by rw [PyData.canLay0]; exact x.lay, by
  rw [PyData.depth]
  have := x.dep
  omega⟩
theorem DP.lst {k : Nat} {ds : List D} {es : List PyData} (x : DPs k ds es) : DP (k + 1) (.lst ds) (.list es) := ⟨by
  show (match D.pds ds with | some ys => some (PyData.list ys) | none => none) = _
  rw [x.pd], by rw [PyData.canLay0]; exact x.lay, by
  rw [PyData.depth]
  have := x.dep
  omega⟩
theorem DP.fz {k : Nat} {ds : List D} {es : List PyData} (x : DPs k ds es) : DP (k + 1) (.fz ds) (.list es) := ⟨by
  show (match D.pds ds with | some ys => some (PyData.list ys) | none => none) = _
  rw [x.pd], by rw [PyData.canLay0]; exact x.lay, by
  rw [PyData.depth]
  have := x.dep
  omega⟩
theorem DPs.ints {k : Nat} (xs : List Int) : DPs k (xs.map D.int) (xs.map PyData.int) := .map (fun i => .int i) xs
theorem DP.shaped {k : Nat} {d : D} {e : PyData} (x : DP k d e) (hk : k ≤ 64) : SeqAt.shaped e = true := by
  unfold SeqAt.shaped
  rw [x.lay, decide_eq_true (Nat.le_trans x.dep hk)]; rfl
theorem DP.h {k : Nat} {d : D} {e : PyData} (x : DP k d e) (h : AH) : pdH h d = some e := by
  cases d with
  | obj n =>
    have := x.pd
    cases this
  | _ => exact x.pd
theorem zNe_dp {k : Nat} {d d' : D} {e e' : PyData} (x : DP k d e) (y : DP k d' e') (hk : k ≤ 64) {h : AH} {Q : ZK} (q : Q (.bl (!PyData.eqv e e')) h) : zNe d d' h Q := by
  unfold zNe
  rw [x.h h, y.h h]
  exact ⟨x.shaped hk, y.shaped hk, q⟩
theorem zEq_dp {k : Nat} {d d' : D} {e e' : PyData} (x : DP k d e) (y : DP k d' e') (hk : k ≤ 64) {h : AH} {Q : ZK} (q : Q (.bl (PyData.eqv e e')) h) : zEq d d' h Q := by
  unfold zEq
  rw [x.h h, y.h h]
  exact ⟨x.shaped hk, y.shaped hk, q⟩
theorem DP.refl {k : Nat} {d : D} {e : PyData} (x : DP k d e) : PyData.eqv e e = true := SeqAt.eqv_refl e x.lay
theorem zNe_same {k : Nat} {d d' : D} {e : PyData} (x : DP k d e) (y : DP k d' e) (hk : k ≤ 64) {h : AH} {Q : ZK} (q : Q (.bl false) h) : zNe d d' h Q := zNe_dp x y hk (by rw [x.refl]; exact q)
theorem zEq_same {k : Nat} {d d' : D} {e : PyData} (x : DP k d e) (y : DP k d' e) (hk : k ≤ 64) {h : AH} {Q : ZK} (q : Q (.bl true) h) : zEq d d' h Q := zEq_dp x y hk (by rw [x.refl]; exact q)
/-- .. != [] -/
theorem eqv_nil (es : List PyData) : PyData.eqv (.list es) (.list []) = decide (es = []) := by
  cases es with
  | nil => simp [PyData.eqv, PyData.eqvAll]
  | cons _ _ => simp [PyData.eqv, PyData.eqvAll]
theorem zNe_nil {k : Nat} {d : D} {es : List PyData} (x : DP (k + 1) d (.list es)) (hk : k < 64) {h : AH} {Q : ZK} (q : Q (.bl (!decide (es = []))) h) : zNe d (.lst []) h Q := zNe_dp x (DP.lst (.nil (k := k))) hk (by rw [eqv_nil]; exact q)
theorem zEq_nil {k : Nat} {d : D} {es : List PyData} (x : DP (k + 1) d (.list es)) (hk : k < 64) {h : AH} {Q : ZK} (q : Q (.bl (decide (es = []))) h) : zEq d (.lst []) h Q := zEq_dp x (DP.lst (.nil (k := k))) hk (by rw [eqv_nil]; exact q)
end Z
namespace Z
open PySem PySem.Spec PyProof.Rows L2
theorem inB_dict {h : AH} {F : List Int} {vs : List D} (x : Int) (hl : vs.length = F.length) : zInB h (.int x) (.dK (ik F) vs) = some (decide (x ∈ F)) := by
  show some (zval (ik F) vs (Sum.inl x)).isSome = _
  rw [zval_has F vs x hl]
theorem put_new {F : List Int} {x : Int} (h : x ∉ F) (v : D) (vs : List D) : zputK (ik F) (Sum.inl x) = ik (F ++ [x]) ∧ zputV (ik F) vs (Sum.inl x) v = vs ++ [v] := by
  refine ⟨?_, ?_⟩
  · rw [putK_ik]
    unfold putI
    rw [if_neg h]
  · unfold zputV
    rw [if_neg (fun z => h (mem_ik.mp z))]
theorem merge_cnt : ∀ (K pre : List Int), (pre ++ K).Nodup → zmerge ((enumL pre.length K).map fun p => (D.int p.2, D.int p.1)) (ik pre) (cnt 0 pre.length) = some (ik (pre ++ K), cnt 0 (pre ++ K).length)
  | [], pre, _ => by
    rw [List.append_nil]; rfl
  | x :: K, pre, hn => by
    have hx : x ∉ pre := fun z => by
      rw [List.nodup_append] at hn
      exact hn.2.2 x z x List.mem_cons_self rfl
    have e := put_new hx (.int (pre.length : Nat)) (cnt 0 pre.length)
    have ih := merge_cnt K (pre ++ [x]) (by rw [List.append_assoc]; exact hn)
    show zmerge ((enumL (pre.length + 1) K).map fun p => (D.int p.2, D.int p.1)) (zputK (ik pre) (Sum.inl x)) (zputV (ik pre) (cnt 0 pre.length) (Sum.inl x) (.int (pre.length : Nat))) = _
    rw [e.1, e.2]
    have ec := cnt_snoc 0 pre.length
    rw [Nat.zero_add] at ec
    rw [ec]
    rw [List.length_append, List.length_singleton, List.append_assoc] at ih
    exact ih
theorem dpairs_of {α : Type} (f g : α → D) : ∀ xs : List α, dpairs (xs.map fun a => .tup [f a, g a]) = some (xs.map fun a => (f a, g a))
  | [] => rfl
  | x :: xs => by
    show (match dpairs (xs.map fun a => .tup [f a, g a]) with | some ps => some ((f x, g x) :: ps) | none => none) = _
    rw [dpairs_of f g xs]; rfl
end Z
namespace Z
open PySem PySem.Spec PyProof.Rows L2
theorem lclI {m : Bool} {g : ZG} {tt : ZT} {te : ZE} {zs : ZS} {α : Type} (f : α → D) (I : List α → List D → AH → Prop) (Q : ZK)
    (step : ∀ a xs acc h, I (a :: xs) acc h → ∀ (K : ZK) (N : AH → Prop), (∀ y h', I xs (acc ++ [y]) h' → K y h') → (∀ h', I xs acc h' → N h') → g (f a) zs h fun z1 h1 => tt z1 h1 fun b h2 => match b with | true => te z1 h2 K | false => N h2)
    (len : ∀ xs acc h, I xs acc h → acc.length ≤ sizeLine) (fin : ∀ acc h, I [] acc h → newL m acc h Q) : ∀ (xs : List α) (acc : List D) (h : AH), I xs acc h → zLCL m g tt te zs (xs.map f) acc h Q
  | [], acc, h, q => fin acc h q
  | a :: xs, acc, h, q => by
    refine step a xs acc h q (fun y h3 => acc.length < sizeLine ∧ zLCL m g tt te zs (xs.map f) (acc ++ [y]) h3 Q) (fun h2 => zLCL m g tt te zs (xs.map f) acc h2 Q) (fun y h' q' => ⟨?_, lclI f I Q step len fin xs _ _ q'⟩) fun h' q' => lclI f I Q step len fin xs _ _ q'
    have := len _ _ _ q'
    rw [List.length_append, List.length_singleton] at this
    omega
end Z
namespace Z54
open PySem PySem.Spec PyProof.Rows L2 Z
abbrev EndOk (h : AH) (Q0 : ZK) : ZEnds := { nx := fun _ h' => Exit h.length Q0 .non h', rt := Exit h.length Q0 }
abbrev T3 := ZSort.T3
def wD (w : T3) : D := .tup [.int w.1, .int w.2.1, .int w.2.2]
def dI (xs : List Int) : D := .tup (xs.map D.int)
def dW (ws : List T3) : D := .tup (ws.map wD)
def netD (M : List Int) (W : List T3) (I : List Int) : D := .tup [dI M, dW W, dI I]
def WOk (n : Nat) (w : T3) : Prop := 0 ≤ w.1 ∧ w.1 < w.2.1 ∧ w.2.1 < n ∧ -100 ≤ w.2.2 ∧ w.2.2 ≤ 100 ∧ w.2.2 ≠ 0
def Lt2 (x y : T3) : Prop := x.1 < y.1 ∨ (x.1 = y.1 ∧ x.2.1 < y.2.1)
structure Valid (M : List Int) (W : List T3) (I : List Int) : Prop where
  n1 : 1 ≤ M.length
  n2 : M.length ≤ 10
  mo : ∀ m ∈ M, 2 ≤ m ∧ m ≤ 1000
  wk : ∀ w ∈ W, WOk M.length w
  asc : W.Pairwise Lt2
  ia : I.Pairwise (· < ·)
  ir : ∀ i ∈ I, 0 ≤ i ∧ i < M.length
  wl : W.length ≤ 100
abbrev N_is_integer : List Str := ["value"]
def r_is_integer : ZTS := (zRet (zAndV (zCB zIsi (zCons (zVar 0) (zCons (zC (.ty "int")) zNil))) (zNotV (zCB zIsi (zCons (zVar 0) (zCons (zC (.ty "bool")) zNil))))))
def sp_is_integer : ZSp := fun ds h Q _ => match ds with
  | [.int _] => Q (.bl true) h
  | _ => False
theorem len_is_integer : ∀ ds h Q E, sp_is_integer ds h Q E → ds.length = 1 := fun ds h Q E z => by
  unfold sp_is_integer at z
  split at z
  · rfl
  · exact z.elim
theorem pure_is_integer : ∀ ds h Q0 E0, sp_is_integer ds h Q0 E0 → WfH h → D.cls h.length ds = true → r_is_integer (EndOk h Q0) (zstart N_is_integer ds) h := fun ds h Q E z hw hc => by
  unfold sp_is_integer at z
  split at z
  · rename_i i
    show r_is_integer (EndOk h Q) [some (.int i)] h
    unfold r_is_integer
    simp only [zSeq, zAsg, zRet, zRetN, zIfS, zNext, zDrop, zBreak, zCont, zVar, zC, zOp, zUn, zName, zgTup, zgCons, zgNil, zgSub, zAug, zAugS, zPar, zPar3, zAndV, zOrV, zNotV, zTest, zTestE, zAnd, zOr, zNot, zIf, zCh, zCB, zCall, zCKw, zCons, zNil, zTup, zLst, newL, newDK, zIx, zLe, zLt, zGt, zGe, zNe_ii, zEq_ii, zIsN, zNotN, zIn, zNotIn, zInB, zSub, zMod, zFdiv, zPow, zMul, zAdd, zNeg, zI2, zI2C, zLen, zIsi, zTuple, zTupleF, zList, zAbs, zInt1, zDivmod, zMin2, zSet, zGet, zSl, zSlV, zPart, zNoPart, zTix, zBM, zAppend, isL, tyName, kit_tt, kit_ii, kit_ib, sqR, lsR, lsM, dkM, dtM, dLook, Z.keyOf, frS, ziSeq, ziEnum, ziR1, ziR2, ziR3, zFor, zLC, zDC, zYes, zwipe, zDisp, zPairs, zmerge, zSortR3, zSortedI, zSortedDI, zDictOf, List.getElem?_cons_zero, List.getElem?_cons_succ, List.set_cons_zero, List.set_cons_succ, List.length_cons, List.length_nil, List.map_cons, List.map_nil, List.length_map, Bool.not_true, Bool.not_false, decide_true, decide_false]
    exact Exit.same0 hw rfl z
  · exact z.elim
abbrev N_is_between : List Str := ["value", "least", "most"]
def r_is_between : ZTS := (zRet (zAndV (zCall sp_is_integer (zCons (zVar 0) zNil)) (zCh zLe zLe (zVar 1) (zVar 0) (zVar 2))))
def sp_is_between : ZSp := fun ds h Q _ => match ds with
  | [.int v, .int a, .int b] => Q (.bl (decide (a ≤ v ∧ v ≤ b))) h
  | _ => False
theorem len_is_between : ∀ ds h Q E, sp_is_between ds h Q E → ds.length = 3 := fun ds h Q E z => by
  unfold sp_is_between at z
  split at z
  · rfl
  · exact z.elim
theorem pure_is_between : ∀ ds h Q0 E0, sp_is_between ds h Q0 E0 → WfH h → D.cls h.length ds = true → r_is_between (EndOk h Q0) (zstart N_is_between ds) h := fun ds h Q E z hw hc => by
  unfold sp_is_between at z
  split at z
  · rename_i v a b
    show r_is_between (EndOk h Q) [some (.int v), some (.int a), some (.int b)] h
    unfold r_is_between
    simp only [zSeq, zAsg, zRet, zRetN, zIfS, zNext, zDrop, zBreak, zCont, zVar, zC, zOp, zUn, zName, zgTup, zgCons, zgNil, zgSub, zAug, zAugS, zPar, zPar3, zAndV, zOrV, zNotV, zTest, zTestE, zAnd, zOr, zNot, zIf, zCh, zCB, zCall, zCKw, zCons, zNil, zTup, zLst, newL, newDK, zIx, zLe, zLt, zGt, zGe, zNe_ii, zEq_ii, zIsN, zNotN, zIn, zNotIn, zInB, zSub, zMod, zFdiv, zPow, zMul, zAdd, zNeg, zI2, zI2C, zLen, zIsi, zTuple, zTupleF, zList, zAbs, zInt1, zDivmod, zMin2, zSet, zGet, zSl, zSlV, zPart, zNoPart, zTix, zBM, zAppend, isL, tyName, kit_tt, kit_ii, kit_ib, sqR, lsR, lsM, dkM, dtM, dLook, Z.keyOf, frS, ziSeq, ziEnum, ziR1, ziR2, ziR3, zFor, zLC, zDC, zYes, zwipe, zDisp, zPairs, zmerge, zSortR3, zSortedI, zSortedDI, zDictOf, List.getElem?_cons_zero, List.getElem?_cons_succ, List.set_cons_zero, List.set_cons_succ, List.length_cons, List.length_nil, List.map_cons, List.map_nil, List.length_map, Bool.not_true, Bool.not_false, decide_true, decide_false, sp_is_integer]
    by_cases h1 : a ≤ v
    · rw [decide_eq_true h1]
      by_cases h2 : v ≤ b
      · rw [decide_eq_true (show a ≤ v ∧ v ≤ b from ⟨h1, h2⟩)] at z
        rw [decide_eq_true h2]
        exact Exit.same0 hw rfl z
      · rw [decide_eq_false (fun y : a ≤ v ∧ v ≤ b => h2 y.2)] at z
        rw [decide_eq_false h2]
        exact Exit.same0 hw rfl z
    · rw [decide_eq_false (fun y : a ≤ v ∧ v ≤ b => h1 y.1)] at z
      rw [decide_eq_false h1]
      exact Exit.same0 hw rfl z
  · exact z.elim
abbrev N_is_wire : List Str := ["value", "many", "source", "target", "weight"]
def r_is_wire : ZTS := (zSeq (zIfS (zOr (zNot (zTest (zCB zIsi (zCons (zVar 0) (zCons (zC (.ty "tuple")) zNil))))) (zTest (zOp zNe (zCB zLen (zCons (zVar 0) zNil)) (zC (.int 3))))) (zRet (zC (.bl false))) zNext) (zSeq (zAsg (zVar 0) (zgTup 3 (zgCons (zName 2) (zgCons (zName 3) (zgCons (zName 4) zgNil))))) (zSeq (zIfS (zOr (zNot (zTest (zCall sp_is_between (zCons (zVar 2) (zCons (zC (.int 0)) (zCons (zOp zSub (zVar 1) (zC (.int 1))) zNil)))))) (zNot (zTest (zCall sp_is_between (zCons (zVar 3) (zCons (zOp (zAdd false) (zVar 2) (zC (.int 1))) (zCons (zOp zSub (zVar 1) (zC (.int 1))) zNil))))))) (zRet (zC (.bl false))) zNext) (zRet (zAndV (zCall sp_is_between (zCons (zVar 4) (zCons (zUn zNeg (zC (.int 100))) (zCons (zC (.int 100)) zNil)))) (zOp zNe (zVar 4) (zC (.int 0))))))))
def sp_is_wire : ZSp := fun ds h Q _ => ∃ (w : T3) (n : Nat), ds = [wD w, .int n] ∧ WOk n w ∧ Q (.bl true) h
theorem len_is_wire : ∀ ds h Q E, sp_is_wire ds h Q E → ds.length = 2 := fun ds h Q E ⟨w, n, e, _⟩ => by rw [e]; rfl
theorem pure_is_wire : ∀ ds h Q0 E0, sp_is_wire ds h Q0 E0 → WfH h → D.cls h.length ds = true → r_is_wire (EndOk h Q0) (zstart N_is_wire ds) h := fun ds h Q E ⟨⟨a, b, c⟩, n, e, ⟨h1, h2, h3, h4, h5, h6⟩, z⟩ hw hc => by
  subst e
  dsimp only at h1 h2 h3 h4 h5 h6
  show r_is_wire (EndOk h Q) [some (.tup [.int a, .int b, .int c]), some (.int n), none, none, none] h
  unfold r_is_wire
  simp only [zSeq, zAsg, zRet, zRetN, zIfS, zNext, zDrop, zBreak, zCont, zVar, zC, zOp, zUn, zName, zgTup, zgCons, zgNil, zgSub, zAug, zAugS, zPar, zPar3, zAndV, zOrV, zNotV, zTest, zTestE, zAnd, zOr, zNot, zIf, zCh, zCB, zCall, zCKw, zCons, zNil, zTup, zLst, newL, newDK, zIx, zLe, zLt, zGt, zGe, zNe_ii, zEq_ii, zIsN, zNotN, zIn, zNotIn, zInB, zSub, zMod, zFdiv, zPow, zMul, zAdd, zNeg, zI2, zI2C, zLen, zIsi, zTuple, zTupleF, zList, zAbs, zInt1, zDivmod, zMin2, zSet, zGet, zSl, zSlV, zPart, zNoPart, zTix, zBM, zAppend, isL, tyName, kit_tt, kit_ii, kit_ib, sqR, lsR, lsM, dkM, dtM, dLook, Z.keyOf, frS, ziSeq, ziEnum, ziR1, ziR2, ziR3, zFor, zLC, zDC, zYes, zwipe, zDisp, zPairs, zmerge, zSortR3, zSortedI, zSortedDI, zDictOf, List.getElem?_cons_zero, List.getElem?_cons_succ, List.set_cons_zero, List.set_cons_succ, List.length_cons, List.length_nil, List.map_cons, List.map_nil, List.length_map, Bool.not_true, Bool.not_false, decide_true, decide_false, sp_is_between]
  rw [decide_eq_true (show 0 ≤ a ∧ a ≤ (n : Int) - 1 by omega), decide_eq_true (show a + 1 ≤ b ∧ b ≤ (n : Int) - 1 by omega), decide_eq_true (show -100 ≤ c ∧ c ≤ 100 by omega), decide_eq_false h6]
  rw [show (decide (((0 + 1 + 1 + 1 : Nat) : Int) = 3)) = true by decide]
  exact ⟨trivial, Exit.same0 hw rfl z⟩
abbrev N_moduli_problem : List Str := ["moduli", "index", "modulus"]
def lg1_moduli_problem : ZG := (zgTup 2 (zgCons (zName 1) (zgCons (zName 2) zgNil)))
def lb1_moduli_problem : ZTS := (zIfS (zNot (zTest (zCall sp_is_between (zCons (zVar 2) (zCons (zC (.int 2)) (zCons (zC (.int 1000)) zNil)))))) (zRet (zTup (zCons (zC (.str "moduli")) (zCons (zVar 1) zNil)))) zNext)
def r_moduli_problem : ZTS := (zSeq (zIfS (zOr (zNot (zTest (zCB zIsi (zCons (zVar 0) (zCons (zC (.ty "tuple")) zNil))))) (zNot (zTestE (zCh zLe zLe (zC (.int 1)) (zCB zLen (zCons (zVar 0) zNil)) (zC (.int 10)))))) (zRet (zTup (zCons (zC (.str "moduli")) (zCons (zC .non) zNil)))) zNext) (zSeq (zFor (ziEnum (zCons (zVar 0) zNil)) lg1_moduli_problem lb1_moduli_problem) (zRet (zC .non))))
def sp_moduli_problem : ZSp := fun ds h Q _ => ∃ M : List Int, ds = [dI M] ∧ 1 ≤ M.length ∧ M.length ≤ 10 ∧ (∀ m ∈ M, 2 ≤ m ∧ m ≤ 1000) ∧ Q .non h
theorem len_moduli_problem : ∀ ds h Q E, sp_moduli_problem ds h Q E → ds.length = 1 := fun ds h Q E ⟨M, e, _⟩ => by rw [e]; rfl
theorem loop_moduli {E : ZEnds} {h : AH} {d : D} : ∀ (M : List Int) (k : Nat) (x y : Option D), (∀ m ∈ M, 2 ≤ m ∧ m ≤ 1000) → (∀ x y, E.nx [some d, x, y] h) → zForL lg1_moduli_problem lb1_moduli_problem E (zenum k (M.map D.int)) [some d, x, y] h
  | [], k, x, y, hm, q => q x y
  | m :: M, k, x, y, hm, q => by
    have h1 := hm m List.mem_cons_self
    simp only [zSeq, zAsg, zRet, zRetN, zIfS, zNext, zDrop, zBreak, zCont, zVar, zC, zOp, zUn, zName, zgTup, zgCons, zgNil, zgSub, zAug, zAugS, zPar, zPar3, zAndV, zOrV, zNotV, zTest, zTestE, zAnd, zOr, zNot, zIf, zCh, zCB, zCall, zCKw, zCons, zNil, zTup, zLst, newL, newDK, zIx, zLe, zLt, zGt, zGe, zNe_ii, zEq_ii, zIsN, zNotN, zIn, zNotIn, zInB, zSub, zMod, zFdiv, zPow, zMul, zAdd, zNeg, zI2, zI2C, zLen, zIsi, zTuple, zTupleF, zList, zAbs, zInt1, zDivmod, zMin2, zSet, zGet, zSl, zSlV, zPart, zNoPart, zTix, zBM, zAppend, isL, tyName, kit_tt, kit_ii, kit_ib, sqR, lsR, lsM, dkM, dtM, dLook, Z.keyOf, frS, ziSeq, ziEnum, ziR1, ziR2, ziR3, zFor, zLC, zDC, zYes, zwipe, zDisp, zPairs, zmerge, zSortR3, zSortedI, zSortedDI, zDictOf, List.getElem?_cons_zero, List.getElem?_cons_succ, List.set_cons_zero, List.set_cons_succ, List.length_cons, List.length_nil, List.map_cons, List.map_nil, List.length_map, Bool.not_true, Bool.not_false, decide_true, decide_false, zForL, zenum, lg1_moduli_problem, lb1_moduli_problem, sp_is_between]
    rw [decide_eq_true h1]
    exact ⟨trivial, loop_moduli M (k + 1) _ _ (fun z hz => hm z (List.mem_cons_of_mem _ hz)) q⟩
theorem pure_moduli_problem : ∀ ds h Q0 E0, sp_moduli_problem ds h Q0 E0 → WfH h → D.cls h.length ds = true → r_moduli_problem (EndOk h Q0) (zstart N_moduli_problem ds) h := fun ds h Q E ⟨M, e, h1, h2, h3, z⟩ hw hc => by
  subst e
  show r_moduli_problem (EndOk h Q) [some (dI M), none, none] h
  unfold r_moduli_problem dI
  simp only [zSeq, zAsg, zRet, zRetN, zIfS, zNext, zDrop, zBreak, zCont, zVar, zC, zOp, zUn, zName, zgTup, zgCons, zgNil, zgSub, zAug, zAugS, zPar, zPar3, zAndV, zOrV, zNotV, zTest, zTestE, zAnd, zOr, zNot, zIf, zCh, zCB, zCall, zCKw, zCons, zNil, zTup, zLst, newL, newDK, zIx, zLe, zLt, zGt, zGe, zNe_ii, zEq_ii, zIsN, zNotN, zIn, zNotIn, zInB, zSub, zMod, zFdiv, zPow, zMul, zAdd, zNeg, zI2, zI2C, zLen, zIsi, zTuple, zTupleF, zList, zAbs, zInt1, zDivmod, zMin2, zSet, zGet, zSl, zSlV, zPart, zNoPart, zTix, zBM, zAppend, isL, tyName, kit_tt, kit_ii, kit_ib, sqR, lsR, lsM, dkM, dtM, dLook, Z.keyOf, frS, ziSeq, ziEnum, ziR1, ziR2, ziR3, zFor, zLC, zDC, zYes, zwipe, zDisp, zPairs, zmerge, zSortR3, zSortedI, zSortedDI, zDictOf, List.getElem?_cons_zero, List.getElem?_cons_succ, List.set_cons_zero, List.set_cons_succ, List.length_cons, List.length_nil, List.map_cons, List.map_nil, List.length_map, Bool.not_true, Bool.not_false, decide_true, decide_false]
  rw [decide_eq_true (show (1 : Int) ≤ (M.length : Nat) by omega), decide_eq_true (show ((M.length : Nat) : Int) ≤ 10 by omega)]
  exact loop_moduli M 0 _ _ h3 fun x y => Exit.same0 hw rfl z
abbrev N_wires_problem : List Str := ["wires", "many", "before", "index", "wire"]
def lg1_wires_problem : ZG := (zgTup 2 (zgCons (zName 3) (zgCons (zName 4) zgNil)))
def lb1_wires_problem : ZTS := (zSeq (zIfS (zOr (zNot (zTest (zCall sp_is_wire (zCons (zVar 4) (zCons (zVar 1) zNil))))) (zTest (zOp zLe (zSl false (zVar 4) zNoPart (zPart (zC (.int 2)))) (zVar 2)))) (zRet (zTup (zCons (zC (.str "wires")) (zCons (zVar 3) zNil)))) zNext) (zAsg (zSl false (zVar 4) zNoPart (zPart (zC (.int 2)))) (zName 2)))
def r_wires_problem : ZTS := (zSeq (zIfS (zNot (zTest (zCB zIsi (zCons (zVar 0) (zCons (zC (.ty "tuple")) zNil))))) (zRet (zTup (zCons (zC (.str "wires")) (zCons (zC .non) zNil)))) zNext) (zSeq (zAsg (zTup (zCons (zC (.int 0)) (zCons (zC (.int 0)) zNil))) (zName 2)) (zSeq (zFor (ziEnum (zCons (zVar 0) zNil)) lg1_wires_problem lb1_wires_problem) (zRet (zC .non)))))
def sp_wires_problem : ZSp := fun ds h Q _ => ∃ (W : List T3) (n : Nat), ds = [dW W, .int n] ∧ (∀ w ∈ W, WOk n w) ∧ W.Pairwise Lt2 ∧ Q .non h
theorem len_wires_problem : ∀ ds h Q E, sp_wires_problem ds h Q E → ds.length = 2 := fun ds h Q E ⟨M, n, e, _⟩ => by rw [e]; rfl
theorem loop_wires {E : ZEnds} {h : AH} {d : D} {n : Nat} : ∀ (W : List T3) (k : Nat) (p q : Int) (x y : Option D), (∀ w ∈ W, WOk n w) → W.Pairwise Lt2 → (∀ w ∈ W, p < w.1 ∨ (p = w.1 ∧ q < w.2.1)) → (∀ p x y, E.nx [some d, some (.int n), p, x, y] h) →
    zForL lg1_wires_problem lb1_wires_problem E (zenum k (W.map wD)) [some d, some (.int n), some (.tup [.int p, .int q]), x, y] h
  | [], k, p, q, x, y, hm, ha, hb, z => z _ x y
  | (a, b, c) :: W, k, p, q, x, y, hm, ha, hb, z => by
    have h1 := hm _ List.mem_cons_self
    have h2 := hb _ List.mem_cons_self
    obtain ⟨h3, h4⟩ := List.pairwise_cons.mp ha
    dsimp only at h2
    have e0 : cutD [D.int a, D.int b, D.int c] none (some 2) = [.int a, .int b] := rfl
    simp only [zSeq, zAsg, zRet, zRetN, zIfS, zNext, zDrop, zBreak, zCont, zVar, zC, zOp, zUn, zName, zgTup, zgCons, zgNil, zgSub, zAug, zAugS, zPar, zPar3, zAndV, zOrV, zNotV, zTest, zTestE, zAnd, zOr, zNot, zIf, zCh, zCB, zCall, zCKw, zCons, zNil, zTup, zLst, newL, newDK, zIx, zLe, zLt, zGt, zGe, zNe_ii, zEq_ii, zIsN, zNotN, zIn, zNotIn, zInB, zSub, zMod, zFdiv, zPow, zMul, zAdd, zNeg, zI2, zI2C, zLen, zIsi, zTuple, zTupleF, zList, zAbs, zInt1, zDivmod, zMin2, zSet, zGet, zSl, zSlV, zPart, zNoPart, zTix, zBM, zAppend, isL, tyName, kit_tt, kit_ii, kit_ib, sqR, lsR, lsM, dkM, dtM, dLook, Z.keyOf, frS, ziSeq, ziEnum, ziR1, ziR2, ziR3, zFor, zLC, zDC, zYes, zwipe, zDisp, zPairs, zmerge, zSortR3, zSortedI, zSortedDI, zDictOf, List.getElem?_cons_zero, List.getElem?_cons_succ, List.set_cons_zero, List.set_cons_succ, List.length_cons, List.length_nil, List.map_cons, List.map_nil, List.length_map, Bool.not_true, Bool.not_false, decide_true, decide_false, zForL, zenum, lg1_wires_problem, lb1_wires_problem, wD]
    refine ⟨trivial, (a, b, c), n, rfl, h1, ?_⟩
    simp only [zSeq, zAsg, zRet, zRetN, zIfS, zNext, zDrop, zBreak, zCont, zVar, zC, zOp, zUn, zName, zgTup, zgCons, zgNil, zgSub, zAug, zAugS, zPar, zPar3, zAndV, zOrV, zNotV, zTest, zTestE, zAnd, zOr, zNot, zIf, zCh, zCB, zCall, zCKw, zCons, zNil, zTup, zLst, newL, newDK, zIx, zLe, zLt, zGt, zGe, zNe_ii, zEq_ii, zIsN, zNotN, zIn, zNotIn, zInB, zSub, zMod, zFdiv, zPow, zMul, zAdd, zNeg, zI2, zI2C, zLen, zIsi, zTuple, zTupleF, zList, zAbs, zInt1, zDivmod, zMin2, zSet, zGet, zSl, zSlV, zPart, zNoPart, zTix, zBM, zAppend, isL, tyName, kit_tt, kit_ii, kit_ib, sqR, lsR, lsM, dkM, dtM, dLook, Z.keyOf, frS, ziSeq, ziEnum, ziR1, ziR2, ziR3, zFor, zLC, zDC, zYes, zwipe, zDisp, zPairs, zmerge, zSortR3, zSortedI, zSortedDI, zDictOf, List.getElem?_cons_zero, List.getElem?_cons_succ, List.set_cons_zero, List.set_cons_succ, List.length_cons, List.length_nil, List.map_cons, List.map_nil, List.length_map, Bool.not_true, Bool.not_false, decide_true, decide_false, e0, dints, lexLeI]
    have e1 : (if a = p then if b = q then true else decide (b ≤ q) else decide (a ≤ p)) = false := by
      split
      · split
        · omega
        · exact decide_eq_false (by omega)
      · exact decide_eq_false (by omega)
    rw [e1]
    exact loop_wires W (k + 1) a b _ _ (fun w hw => hm w (List.mem_cons_of_mem _ hw)) h4 (fun w hw => h3 w hw) z
theorem pure_wires_problem : ∀ ds h Q0 E0, sp_wires_problem ds h Q0 E0 → WfH h → D.cls h.length ds = true → r_wires_problem (EndOk h Q0) (zstart N_wires_problem ds) h := fun ds h Q E ⟨W, n, e, h1, h2, z⟩ hw hc => by
  subst e
  show r_wires_problem (EndOk h Q) [some (dW W), some (.int n), none, none, none] h
  unfold r_wires_problem dW
  simp only [zSeq, zAsg, zRet, zRetN, zIfS, zNext, zDrop, zBreak, zCont, zVar, zC, zOp, zUn, zName, zgTup, zgCons, zgNil, zgSub, zAug, zAugS, zPar, zPar3, zAndV, zOrV, zNotV, zTest, zTestE, zAnd, zOr, zNot, zIf, zCh, zCB, zCall, zCKw, zCons, zNil, zTup, zLst, newL, newDK, zIx, zLe, zLt, zGt, zGe, zNe_ii, zEq_ii, zIsN, zNotN, zIn, zNotIn, zInB, zSub, zMod, zFdiv, zPow, zMul, zAdd, zNeg, zI2, zI2C, zLen, zIsi, zTuple, zTupleF, zList, zAbs, zInt1, zDivmod, zMin2, zSet, zGet, zSl, zSlV, zPart, zNoPart, zTix, zBM, zAppend, isL, tyName, kit_tt, kit_ii, kit_ib, sqR, lsR, lsM, dkM, dtM, dLook, Z.keyOf, frS, ziSeq, ziEnum, ziR1, ziR2, ziR3, zFor, zLC, zDC, zYes, zwipe, zDisp, zPairs, zmerge, zSortR3, zSortedI, zSortedDI, zDictOf, List.getElem?_cons_zero, List.getElem?_cons_succ, List.set_cons_zero, List.set_cons_succ, List.length_cons, List.length_nil, List.map_cons, List.map_nil, List.length_map, Bool.not_true, Bool.not_false, decide_true, decide_false]
  refine ⟨by decide, loop_wires W 0 0 0 _ _ h1 h2 (fun w hw => ?_) fun p x y => Exit.same0 hw rfl z⟩
  have := h1 w hw
  unfold WOk at this
  omega
abbrev N_inputs_problem : List Str := ["inputs", "many", "least", "index", "counter"]
def lg1_inputs_problem : ZG := (zgTup 2 (zgCons (zName 3) (zgCons (zName 4) zgNil)))
def lb1_inputs_problem : ZTS := (zSeq (zIfS (zNot (zTest (zCall sp_is_between (zCons (zVar 4) (zCons (zVar 2) (zCons (zOp zSub (zVar 1) (zC (.int 1))) zNil)))))) (zRet (zTup (zCons (zC (.str "inputs")) (zCons (zVar 3) zNil)))) zNext) (zAsg (zOp (zAdd false) (zVar 4) (zC (.int 1))) (zName 2)))
def r_inputs_problem : ZTS := (zSeq (zIfS (zNot (zTest (zCB zIsi (zCons (zVar 0) (zCons (zC (.ty "tuple")) zNil))))) (zRet (zTup (zCons (zC (.str "inputs")) (zCons (zC .non) zNil)))) zNext) (zSeq (zAsg (zC (.int 0)) (zName 2)) (zSeq (zFor (ziEnum (zCons (zVar 0) zNil)) lg1_inputs_problem lb1_inputs_problem) (zRet (zC .non)))))
def sp_inputs_problem : ZSp := fun ds h Q _ => ∃ (I : List Int) (n : Nat), ds = [dI I, .int n] ∧ I.Pairwise (· < ·) ∧ (∀ i ∈ I, 0 ≤ i ∧ i < n) ∧ Q .non h
theorem len_inputs_problem : ∀ ds h Q E, sp_inputs_problem ds h Q E → ds.length = 2 := fun ds h Q E ⟨M, n, e, _⟩ => by rw [e]; rfl
theorem loop_inputs {E : ZEnds} {h : AH} {d : D} {n : Nat} : ∀ (I : List Int) (k : Nat) (l : Int) (x y : Option D), I.Pairwise (· < ·) → (∀ i ∈ I, l ≤ i ∧ i < n) → (∀ p x y, E.nx [some d, some (.int n), p, x, y] h) →
    zForL lg1_inputs_problem lb1_inputs_problem E (zenum k (I.map D.int)) [some d, some (.int n), some (.int l), x, y] h
  | [], k, l, x, y, ha, hb, z => z _ x y
  | i :: I, k, l, x, y, ha, hb, z => by
    have h1 := hb i List.mem_cons_self
    obtain ⟨h3, h4⟩ := List.pairwise_cons.mp ha
    simp only [zSeq, zAsg, zRet, zRetN, zIfS, zNext, zDrop, zBreak, zCont, zVar, zC, zOp, zUn, zName, zgTup, zgCons, zgNil, zgSub, zAug, zAugS, zPar, zPar3, zAndV, zOrV, zNotV, zTest, zTestE, zAnd, zOr, zNot, zIf, zCh, zCB, zCall, zCKw, zCons, zNil, zTup, zLst, newL, newDK, zIx, zLe, zLt, zGt, zGe, zNe_ii, zEq_ii, zIsN, zNotN, zIn, zNotIn, zInB, zSub, zMod, zFdiv, zPow, zMul, zAdd, zNeg, zI2, zI2C, zLen, zIsi, zTuple, zTupleF, zList, zAbs, zInt1, zDivmod, zMin2, zSet, zGet, zSl, zSlV, zPart, zNoPart, zTix, zBM, zAppend, isL, tyName, kit_tt, kit_ii, kit_ib, sqR, lsR, lsM, dkM, dtM, dLook, Z.keyOf, frS, ziSeq, ziEnum, ziR1, ziR2, ziR3, zFor, zLC, zDC, zYes, zwipe, zDisp, zPairs, zmerge, zSortR3, zSortedI, zSortedDI, zDictOf, List.getElem?_cons_zero, List.getElem?_cons_succ, List.set_cons_zero, List.set_cons_succ, List.length_cons, List.length_nil, List.map_cons, List.map_nil, List.length_map, Bool.not_true, Bool.not_false, decide_true, decide_false, zForL, zenum, lg1_inputs_problem, lb1_inputs_problem, sp_is_between]
    rw [decide_eq_true (show l ≤ i ∧ i ≤ (n : Int) - 1 by omega)]
    refine ⟨trivial, loop_inputs I (k + 1) (i + 1) _ _ h4 (fun j hj => ?_) z⟩
    have := h3 j hj
    have := hb j (List.mem_cons_of_mem _ hj)
    omega
theorem pure_inputs_problem : ∀ ds h Q0 E0, sp_inputs_problem ds h Q0 E0 → WfH h → D.cls h.length ds = true → r_inputs_problem (EndOk h Q0) (zstart N_inputs_problem ds) h := fun ds h Q E ⟨I, n, e, h1, h2, z⟩ hw hc => by
  subst e
  show r_inputs_problem (EndOk h Q) [some (dI I), some (.int n), none, none, none] h
  unfold r_inputs_problem dI
  simp only [zSeq, zAsg, zRet, zRetN, zIfS, zNext, zDrop, zBreak, zCont, zVar, zC, zOp, zUn, zName, zgTup, zgCons, zgNil, zgSub, zAug, zAugS, zPar, zPar3, zAndV, zOrV, zNotV, zTest, zTestE, zAnd, zOr, zNot, zIf, zCh, zCB, zCall, zCKw, zCons, zNil, zTup, zLst, newL, newDK, zIx, zLe, zLt, zGt, zGe, zNe_ii, zEq_ii, zIsN, zNotN, zIn, zNotIn, zInB, zSub, zMod, zFdiv, zPow, zMul, zAdd, zNeg, zI2, zI2C, zLen, zIsi, zTuple, zTupleF, zList, zAbs, zInt1, zDivmod, zMin2, zSet, zGet, zSl, zSlV, zPart, zNoPart, zTix, zBM, zAppend, isL, tyName, kit_tt, kit_ii, kit_ib, sqR, lsR, lsM, dkM, dtM, dLook, Z.keyOf, frS, ziSeq, ziEnum, ziR1, ziR2, ziR3, zFor, zLC, zDC, zYes, zwipe, zDisp, zPairs, zmerge, zSortR3, zSortedI, zSortedDI, zDictOf, List.getElem?_cons_zero, List.getElem?_cons_succ, List.set_cons_zero, List.set_cons_succ, List.length_cons, List.length_nil, List.map_cons, List.map_nil, List.length_map, Bool.not_true, Bool.not_false, decide_true, decide_false]
  exact loop_inputs I 0 0 _ _ h1 h2 fun p x y => Exit.same0 hw rfl z
abbrev N_net_problem : List Str := ["value", "moduli", "wires", "inputs", "problem"]
def r_net_problem : ZTS := (zSeq (zIfS (zOr (zNot (zTest (zCB zIsi (zCons (zVar 0) (zCons (zC (.ty "tuple")) zNil))))) (zTest (zOp zNe (zCB zLen (zCons (zVar 0) zNil)) (zC (.int 3))))) (zRet (zTup (zCons (zC (.str "form")) (zCons (zC .non) zNil)))) zNext) (zSeq (zAsg (zVar 0) (zgTup 3 (zgCons (zName 1) (zgCons (zName 2) (zgCons (zName 3) zgNil))))) (zSeq (zAsg (zCall sp_moduli_problem (zCons (zVar 1) zNil)) (zName 4)) (zSeq (zIfS (zTest (zOp zIsN (zVar 4) (zC .non))) (zAsg (zCall sp_wires_problem (zCons (zVar 2) (zCons (zCB zLen (zCons (zVar 1) zNil)) zNil))) (zName 4)) zNext) (zSeq (zIfS (zTest (zOp zIsN (zVar 4) (zC .non))) (zAsg (zCall sp_inputs_problem (zCons (zVar 3) (zCons (zCB zLen (zCons (zVar 1) zNil)) zNil))) (zName 4)) zNext) (zRet (zVar 4)))))))
def sp_net_problem : ZSp := fun ds h Q _ => ∃ M W I, ds = [netD M W I] ∧ Valid M W I ∧ Q .non h
theorem len_net_problem : ∀ ds h Q E, sp_net_problem ds h Q E → ds.length = 1 := fun ds h Q E ⟨M, W, I, e, _⟩ => by rw [e]; rfl
theorem pure_net_problem : ∀ ds h Q0 E0, sp_net_problem ds h Q0 E0 → WfH h → D.cls h.length ds = true → r_net_problem (EndOk h Q0) (zstart N_net_problem ds) h := fun ds h Q E ⟨M, W, I, e, V, z⟩ hw hc => by
  subst e
  show r_net_problem (EndOk h Q) [some (netD M W I), none, none, none, none] h
  unfold r_net_problem netD
  simp only [zSeq, zAsg, zRet, zRetN, zIfS, zNext, zDrop, zBreak, zCont, zVar, zC, zOp, zUn, zName, zgTup, zgCons, zgNil, zgSub, zAug, zAugS, zPar, zPar3, zAndV, zOrV, zNotV, zTest, zTestE, zAnd, zOr, zNot, zIf, zCh, zCB, zCall, zCKw, zCons, zNil, zTup, zLst, newL, newDK, zIx, zLe, zLt, zGt, zGe, zNe_ii, zEq_ii, zIsN, zNotN, zIn, zNotIn, zInB, zSub, zMod, zFdiv, zPow, zMul, zAdd, zNeg, zI2, zI2C, zLen, zIsi, zTuple, zTupleF, zList, zAbs, zInt1, zDivmod, zMin2, zSet, zGet, zSl, zSlV, zPart, zNoPart, zTix, zBM, zAppend, isL, tyName, kit_tt, kit_ii, kit_ib, sqR, lsR, lsM, dkM, dtM, dLook, Z.keyOf, frS, ziSeq, ziEnum, ziR1, ziR2, ziR3, zFor, zLC, zDC, zYes, zwipe, zDisp, zPairs, zmerge, zSortR3, zSortedI, zSortedDI, zDictOf, List.getElem?_cons_zero, List.getElem?_cons_succ, List.set_cons_zero, List.set_cons_succ, List.length_cons, List.length_nil, List.map_cons, List.map_nil, List.length_map, Bool.not_true, Bool.not_false, decide_true, decide_false]
  rw [show (decide (((0 + 1 + 1 + 1 : Nat) : Int) = 3)) = true by decide]
  refine ⟨trivial, M, rfl, V.n1, V.n2, V.mo, ?_⟩
  simp only [zSeq, zAsg, zRet, zRetN, zIfS, zNext, zDrop, zBreak, zCont, zVar, zC, zOp, zUn, zName, zgTup, zgCons, zgNil, zgSub, zAug, zAugS, zPar, zPar3, zAndV, zOrV, zNotV, zTest, zTestE, zAnd, zOr, zNot, zIf, zCh, zCB, zCall, zCKw, zCons, zNil, zTup, zLst, newL, newDK, zIx, zLe, zLt, zGt, zGe, zNe_ii, zEq_ii, zIsN, zNotN, zIn, zNotIn, zInB, zSub, zMod, zFdiv, zPow, zMul, zAdd, zNeg, zI2, zI2C, zLen, zIsi, zTuple, zTupleF, zList, zAbs, zInt1, zDivmod, zMin2, zSet, zGet, zSl, zSlV, zPart, zNoPart, zTix, zBM, zAppend, isL, tyName, kit_tt, kit_ii, kit_ib, sqR, lsR, lsM, dkM, dtM, dLook, Z.keyOf, frS, ziSeq, ziEnum, ziR1, ziR2, ziR3, zFor, zLC, zDC, zYes, zwipe, zDisp, zPairs, zmerge, zSortR3, zSortedI, zSortedDI, zDictOf, List.getElem?_cons_zero, List.getElem?_cons_succ, List.set_cons_zero, List.set_cons_succ, List.length_cons, List.length_nil, List.map_cons, List.map_nil, List.length_map, Bool.not_true, Bool.not_false, decide_true, decide_false, dI]
  refine ⟨W, M.length, rfl, V.wk, V.asc, ?_⟩
  simp only [zSeq, zAsg, zRet, zRetN, zIfS, zNext, zDrop, zBreak, zCont, zVar, zC, zOp, zUn, zName, zgTup, zgCons, zgNil, zgSub, zAug, zAugS, zPar, zPar3, zAndV, zOrV, zNotV, zTest, zTestE, zAnd, zOr, zNot, zIf, zCh, zCB, zCall, zCKw, zCons, zNil, zTup, zLst, newL, newDK, zIx, zLe, zLt, zGt, zGe, zNe_ii, zEq_ii, zIsN, zNotN, zIn, zNotIn, zInB, zSub, zMod, zFdiv, zPow, zMul, zAdd, zNeg, zI2, zI2C, zLen, zIsi, zTuple, zTupleF, zList, zAbs, zInt1, zDivmod, zMin2, zSet, zGet, zSl, zSlV, zPart, zNoPart, zTix, zBM, zAppend, isL, tyName, kit_tt, kit_ii, kit_ib, sqR, lsR, lsM, dkM, dtM, dLook, Z.keyOf, frS, ziSeq, ziEnum, ziR1, ziR2, ziR3, zFor, zLC, zDC, zYes, zwipe, zDisp, zPairs, zmerge, zSortR3, zSortedI, zSortedDI, zDictOf, List.getElem?_cons_zero, List.getElem?_cons_succ, List.set_cons_zero, List.set_cons_succ, List.length_cons, List.length_nil, List.map_cons, List.map_nil, List.length_map, Bool.not_true, Bool.not_false, decide_true, decide_false]
  exact ⟨I, M.length, rfl, V.ia, V.ir, Exit.same0 hw rfl z⟩
abbrev N_validate_net : List Str := ["net", "problem"]
def r_validate_net : ZTS := (zSeq (zAsg (zCall sp_net_problem (zCons (zVar 0) zNil)) (zName 1)) (zIfS (zTest (zOp zNotN (zVar 1) (zC .non))) zNever zNext))
def sp_validate_net : ZSp := fun ds h Q _ => ∃ M W I, ds = [netD M W I] ∧ Valid M W I ∧ Q .non h
theorem len_validate_net : ∀ ds h Q E, sp_validate_net ds h Q E → ds.length = 1 := fun ds h Q E ⟨M, W, I, e, _⟩ => by rw [e]; rfl
theorem pure_validate_net : ∀ ds h Q0 E0, sp_validate_net ds h Q0 E0 → WfH h → D.cls h.length ds = true → r_validate_net (EndOk h Q0) (zstart N_validate_net ds) h := fun ds h Q E ⟨M, W, I, e, V, z⟩ hw hc => by
  subst e
  show r_validate_net (EndOk h Q) [some (netD M W I), none] h
  unfold r_validate_net
  simp only [zSeq, zAsg, zRet, zRetN, zIfS, zNext, zDrop, zBreak, zCont, zVar, zC, zOp, zUn, zName, zgTup, zgCons, zgNil, zgSub, zAug, zAugS, zPar, zPar3, zAndV, zOrV, zNotV, zTest, zTestE, zAnd, zOr, zNot, zIf, zCh, zCB, zCall, zCKw, zCons, zNil, zTup, zLst, newL, newDK, zIx, zLe, zLt, zGt, zGe, zNe_ii, zEq_ii, zIsN, zNotN, zIn, zNotIn, zInB, zSub, zMod, zFdiv, zPow, zMul, zAdd, zNeg, zI2, zI2C, zLen, zIsi, zTuple, zTupleF, zList, zAbs, zInt1, zDivmod, zMin2, zSet, zGet, zSl, zSlV, zPart, zNoPart, zTix, zBM, zAppend, isL, tyName, kit_tt, kit_ii, kit_ib, sqR, lsR, lsM, dkM, dtM, dLook, Z.keyOf, frS, ziSeq, ziEnum, ziR1, ziR2, ziR3, zFor, zLC, zDC, zYes, zwipe, zDisp, zPairs, zmerge, zSortR3, zSortedI, zSortedDI, zDictOf, List.getElem?_cons_zero, List.getElem?_cons_succ, List.set_cons_zero, List.set_cons_succ, List.length_cons, List.length_nil, List.map_cons, List.map_nil, List.length_map, Bool.not_true, Bool.not_false, decide_true, decide_false]
  refine ⟨M, W, I, rfl, V, ?_⟩
  simp only [zSeq, zAsg, zRet, zRetN, zIfS, zNext, zDrop, zBreak, zCont, zVar, zC, zOp, zUn, zName, zgTup, zgCons, zgNil, zgSub, zAug, zAugS, zPar, zPar3, zAndV, zOrV, zNotV, zTest, zTestE, zAnd, zOr, zNot, zIf, zCh, zCB, zCall, zCKw, zCons, zNil, zTup, zLst, newL, newDK, zIx, zLe, zLt, zGt, zGe, zNe_ii, zEq_ii, zIsN, zNotN, zIn, zNotIn, zInB, zSub, zMod, zFdiv, zPow, zMul, zAdd, zNeg, zI2, zI2C, zLen, zIsi, zTuple, zTupleF, zList, zAbs, zInt1, zDivmod, zMin2, zSet, zGet, zSl, zSlV, zPart, zNoPart, zTix, zBM, zAppend, isL, tyName, kit_tt, kit_ii, kit_ib, sqR, lsR, lsM, dkM, dtM, dLook, Z.keyOf, frS, ziSeq, ziEnum, ziR1, ziR2, ziR3, zFor, zLC, zDC, zYes, zwipe, zDisp, zPairs, zmerge, zSortR3, zSortedI, zSortedDI, zDictOf, List.getElem?_cons_zero, List.getElem?_cons_succ, List.set_cons_zero, List.set_cons_succ, List.length_cons, List.length_nil, List.map_cons, List.map_nil, List.length_map, Bool.not_true, Bool.not_false, decide_true, decide_false]
  exact Exit.same0 hw rfl z
abbrev N_is_net : List Str := ["value"]
def r_is_net : ZTS := (zRet (zOp zIsN (zCall sp_net_problem (zCons (zVar 0) zNil)) (zC .non)))
def sp_is_net : ZSp := fun ds h Q _ => ∃ M W I, ds = [netD M W I] ∧ Valid M W I ∧ Q (.bl true) h
theorem len_is_net : ∀ ds h Q E, sp_is_net ds h Q E → ds.length = 1 := fun ds h Q E ⟨M, W, I, e, _⟩ => by rw [e]; rfl
theorem pure_is_net : ∀ ds h Q0 E0, sp_is_net ds h Q0 E0 → WfH h → D.cls h.length ds = true → r_is_net (EndOk h Q0) (zstart N_is_net ds) h := fun ds h Q E ⟨M, W, I, e, V, z⟩ hw hc => by
  subst e
  show r_is_net (EndOk h Q) [some (netD M W I)] h
  unfold r_is_net
  simp only [zSeq, zAsg, zRet, zRetN, zIfS, zNext, zDrop, zBreak, zCont, zVar, zC, zOp, zUn, zName, zgTup, zgCons, zgNil, zgSub, zAug, zAugS, zPar, zPar3, zAndV, zOrV, zNotV, zTest, zTestE, zAnd, zOr, zNot, zIf, zCh, zCB, zCall, zCKw, zCons, zNil, zTup, zLst, newL, newDK, zIx, zLe, zLt, zGt, zGe, zNe_ii, zEq_ii, zIsN, zNotN, zIn, zNotIn, zInB, zSub, zMod, zFdiv, zPow, zMul, zAdd, zNeg, zI2, zI2C, zLen, zIsi, zTuple, zTupleF, zList, zAbs, zInt1, zDivmod, zMin2, zSet, zGet, zSl, zSlV, zPart, zNoPart, zTix, zBM, zAppend, isL, tyName, kit_tt, kit_ii, kit_ib, sqR, lsR, lsM, dkM, dtM, dLook, Z.keyOf, frS, ziSeq, ziEnum, ziR1, ziR2, ziR3, zFor, zLC, zDC, zYes, zwipe, zDisp, zPairs, zmerge, zSortR3, zSortedI, zSortedDI, zDictOf, List.getElem?_cons_zero, List.getElem?_cons_succ, List.set_cons_zero, List.set_cons_succ, List.length_cons, List.length_nil, List.map_cons, List.map_nil, List.length_map, Bool.not_true, Bool.not_false, decide_true, decide_false]
  exact ⟨M, W, I, rfl, V, Exit.same0 hw rfl z⟩
abbrev N_require_counter : List Str := ["net", "counter"]
def r_require_counter : ZTS := (zIfS (zNot (zTest (zCall sp_is_between (zCons (zVar 1) (zCons (zC (.int 0)) (zCons (zOp zSub (zCB zLen (zCons (zOp zIx (zVar 0) (zC (.int 0))) zNil)) (zC (.int 1))) zNil)))))) zNever zNext)
def sp_require_counter : ZSp := fun ds h Q _ => ∃ M W I c, ds = [netD M W I, .int c] ∧ 0 ≤ c ∧ c < (M.length : Int) ∧ Q .non h
theorem len_require_counter : ∀ ds h Q E, sp_require_counter ds h Q E → ds.length = 2 := fun ds h Q E ⟨M, W, I, c, e, _⟩ => by rw [e]; rfl
theorem at0 {α : Type} (a b c : α) : atI [a, b, c] 0 = some a := rfl
theorem at1 {α : Type} (a b c : α) : atI [a, b, c] 1 = some b := rfl
theorem at2 {α : Type} (a b c : α) : atI [a, b, c] 2 = some c := rfl
theorem pure_require_counter : ∀ ds h Q0 E0, sp_require_counter ds h Q0 E0 → WfH h → D.cls h.length ds = true → r_require_counter (EndOk h Q0) (zstart N_require_counter ds) h := fun ds h Q E ⟨M, W, I, c, e, h1, h2, z⟩ hw hc => by
  subst e
  show r_require_counter (EndOk h Q) [some (netD M W I), some (.int c)] h
  unfold r_require_counter netD dI
  simp only [zSeq, zAsg, zRet, zRetN, zIfS, zNext, zDrop, zBreak, zCont, zVar, zC, zOp, zUn, zName, zgTup, zgCons, zgNil, zgSub, zAug, zAugS, zPar, zPar3, zAndV, zOrV, zNotV, zTest, zTestE, zAnd, zOr, zNot, zIf, zCh, zCB, zCall, zCKw, zCons, zNil, zTup, zLst, newL, newDK, zIx, zLe, zLt, zGt, zGe, zNe_ii, zEq_ii, zIsN, zNotN, zIn, zNotIn, zInB, zSub, zMod, zFdiv, zPow, zMul, zAdd, zNeg, zI2, zI2C, zLen, zIsi, zTuple, zTupleF, zList, zAbs, zInt1, zDivmod, zMin2, zSet, zGet, zSl, zSlV, zPart, zNoPart, zTix, zBM, zAppend, isL, tyName, kit_tt, kit_ii, kit_ib, sqR, lsR, lsM, dkM, dtM, dLook, Z.keyOf, frS, ziSeq, ziEnum, ziR1, ziR2, ziR3, zFor, zLC, zDC, zYes, zwipe, zDisp, zPairs, zmerge, zSortR3, zSortedI, zSortedDI, zDictOf, List.getElem?_cons_zero, List.getElem?_cons_succ, List.set_cons_zero, List.set_cons_succ, List.length_cons, List.length_nil, List.map_cons, List.map_nil, List.length_map, Bool.not_true, Bool.not_false, decide_true, decide_false, at0, sp_is_between]
  rw [decide_eq_true (show 0 ≤ c ∧ c ≤ (M.length : Int) - 1 by omega)]
  exact Exit.same0 hw rfl z
end Z54
namespace Z54
open PySem PySem.Spec PyProof.Rows L2 Z
abbrev N_validate_phases : List Str := ["net", "phases", "index", "modulus"]
def lg1_validate_phases : ZG := (zgTup 2 (zgCons (zName 2) (zgCons (zName 3) zgNil)))
def lb1_validate_phases : ZTS := (zIfS (zNot (zTest (zCall sp_is_between (zCons (zOp zIx (zVar 1) (zVar 2)) (zCons (zC (.int 0)) (zCons (zOp zSub (zVar 3) (zC (.int 1))) zNil)))))) zNever zNext)
def r_validate_phases : ZTS := (zSeq (zDrop (zCall sp_validate_net (zCons (zVar 0) zNil))) (zSeq (zIfS (zOr (zNot (zTest (zCB zIsi (zCons (zVar 1) (zCons (zC (.ty "tuple")) zNil))))) (zTest (zOp zNe (zCB zLen (zCons (zVar 1) zNil)) (zCB zLen (zCons (zOp zIx (zVar 0) (zC (.int 0))) zNil))))) zNever zNext) (zFor (ziEnum (zCons (zOp zIx (zVar 0) (zC (.int 0))) zNil)) lg1_validate_phases lb1_validate_phases)))
def Phs (S M : List Int) : Prop := S.length = M.length ∧ ∀ (i : Nat) (s m : Int), S[i]? = some s → M[i]? = some m → 0 ≤ s ∧ s < m
def sp_validate_phases : ZSp := fun ds h Q _ => ∃ M W I S, ds = [netD M W I, dI S] ∧ Valid M W I ∧ Phs S M ∧ Q .non h
theorem len_validate_phases : ∀ ds h Q E, sp_validate_phases ds h Q E → ds.length = 2 := fun ds h Q E ⟨M, W, I, S, e, _⟩ => by rw [e]; rfl
theorem loop_phases {E : ZEnds} {h : AH} {S : List Int} {d : D} : ∀ (M : List Int) (k : Nat) (x y : Option D), (∀ (i : Nat) (m : Int), M[i]? = some m → ∃ s, S[k + i]? = some s ∧ 0 ≤ s ∧ s < m) → (∀ x y, E.nx [some d, some (dI S), x, y] h) →
    zForL lg1_validate_phases lb1_validate_phases E (zenum k (M.map D.int)) [some d, some (dI S), x, y] h
  | [], k, x, y, hm, z => z x y
  | m :: M, k, x, y, hm, z => by
    obtain ⟨s, e1, e2, e3⟩ := hm 0 m rfl
    have nx := loop_phases M (k + 1) (some (.int k)) (some (.int m)) (fun i m hi => by
      have := hm (i + 1) m (by simpa using hi)
      rw [show k + 1 + i = k + (i + 1) by omega]
      exact this) z
    rw [List.map_cons, zenum_cons, zForL_cons]
    generalize zForL _ _ E _ = Kx at nx ⊢
    unfold dI at nx ⊢
    simp only [zSeq, zAsg, zRet, zRetN, zIfS, zNext, zDrop, zBreak, zCont, zVar, zC, zOp, zUn, zName, zgTup, zgCons, zgNil, zgSub, zAug, zAugS, zPar, zPar3, zAndV, zOrV, zNotV, zTest, zTestE, zAnd, zOr, zNot, zIf, zCh, zCB, zCall, zCKw, zCons, zNil, zTup, zLst, newL, newDK, zIx, zLe, zLt, zGt, zGe, zNe_ii, zEq_ii, zIsN, zNotN, zIn, zNotIn, zInB, zSub, zMod, zFdiv, zPow, zMul, zAdd, zNeg, zI2, zI2C, zLen, zIsi, zTuple, zTupleF, zList, zAbs, zInt1, zDivmod, zMin2, zSet, zGet, zSl, zSlV, zPart, zNoPart, zTix, zBM, zAppend, isL, tyName, kit_tt, kit_ii, kit_ib, sqR, lsR, lsM, dkM, dtM, dLook, Z.keyOf, frS, ziSeq, ziEnum, ziR1, ziR2, ziR3, zFor, zLC, zDC, zYes, zwipe, zDisp, zPairs, zmerge, zSortR3, zSortedI, zSortedDI, zDictOf, List.getElem?_cons_zero, List.getElem?_cons_succ, List.set_cons_zero, List.set_cons_succ, List.length_cons, List.length_nil, List.map_cons, List.map_nil, List.length_map, Bool.not_true, Bool.not_false, decide_true, decide_false, lg1_validate_phases, lb1_validate_phases]
    rw [atN (k := k) (map_get e1)]
    simp only [zSeq, zAsg, zRet, zRetN, zIfS, zNext, zDrop, zBreak, zCont, zVar, zC, zOp, zUn, zName, zgTup, zgCons, zgNil, zgSub, zAug, zAugS, zPar, zPar3, zAndV, zOrV, zNotV, zTest, zTestE, zAnd, zOr, zNot, zIf, zCh, zCB, zCall, zCKw, zCons, zNil, zTup, zLst, newL, newDK, zIx, zLe, zLt, zGt, zGe, zNe_ii, zEq_ii, zIsN, zNotN, zIn, zNotIn, zInB, zSub, zMod, zFdiv, zPow, zMul, zAdd, zNeg, zI2, zI2C, zLen, zIsi, zTuple, zTupleF, zList, zAbs, zInt1, zDivmod, zMin2, zSet, zGet, zSl, zSlV, zPart, zNoPart, zTix, zBM, zAppend, isL, tyName, kit_tt, kit_ii, kit_ib, sqR, lsR, lsM, dkM, dtM, dLook, Z.keyOf, frS, ziSeq, ziEnum, ziR1, ziR2, ziR3, zFor, zLC, zDC, zYes, zwipe, zDisp, zPairs, zmerge, zSortR3, zSortedI, zSortedDI, zDictOf, List.getElem?_cons_zero, List.getElem?_cons_succ, List.set_cons_zero, List.set_cons_succ, List.length_cons, List.length_nil, List.map_cons, List.map_nil, List.length_map, Bool.not_true, Bool.not_false, decide_true, decide_false, sp_is_between]
    rw [decide_eq_true (show 0 ≤ s ∧ s ≤ m - 1 by omega)]
    exact ⟨trivial, nx⟩
theorem Phs.sfx {S M : List Int} (p : Phs S M) : ∀ (i : Nat) (m : Int), M[i]? = some m → ∃ s, S[0 + i]? = some s ∧ 0 ≤ s ∧ s < m := fun i m hi => by
  have hl := (List.getElem?_eq_some_iff.mp hi).1
  have e := p.1
  rw [Nat.zero_add]
  exact ⟨S[i]'(by omega), List.getElem?_eq_getElem (by omega), p.2 i _ m (List.getElem?_eq_getElem (by omega)) hi⟩
theorem pure_validate_phases : ∀ ds h Q0 E0, sp_validate_phases ds h Q0 E0 → WfH h → D.cls h.length ds = true → r_validate_phases (EndOk h Q0) (zstart N_validate_phases ds) h := fun ds h Q E ⟨M, W, I, S, e, V, hp, z⟩ hw hc => by
  subst e
  show r_validate_phases (EndOk h Q) [some (netD M W I), some (dI S), none, none] h
  unfold r_validate_phases
  simp only [zSeq, zAsg, zRet, zRetN, zIfS, zNext, zDrop, zBreak, zCont, zVar, zC, zOp, zUn, zName, zgTup, zgCons, zgNil, zgSub, zAug, zAugS, zPar, zPar3, zAndV, zOrV, zNotV, zTest, zTestE, zAnd, zOr, zNot, zIf, zCh, zCB, zCall, zCKw, zCons, zNil, zTup, zLst, newL, newDK, zIx, zLe, zLt, zGt, zGe, zNe_ii, zEq_ii, zIsN, zNotN, zIn, zNotIn, zInB, zSub, zMod, zFdiv, zPow, zMul, zAdd, zNeg, zI2, zI2C, zLen, zIsi, zTuple, zTupleF, zList, zAbs, zInt1, zDivmod, zMin2, zSet, zGet, zSl, zSlV, zPart, zNoPart, zTix, zBM, zAppend, isL, tyName, kit_tt, kit_ii, kit_ib, sqR, lsR, lsM, dkM, dtM, dLook, Z.keyOf, frS, ziSeq, ziEnum, ziR1, ziR2, ziR3, zFor, zLC, zDC, zYes, zwipe, zDisp, zPairs, zmerge, zSortR3, zSortedI, zSortedDI, zDictOf, List.getElem?_cons_zero, List.getElem?_cons_succ, List.set_cons_zero, List.set_cons_succ, List.length_cons, List.length_nil, List.map_cons, List.map_nil, List.length_map, Bool.not_true, Bool.not_false, decide_true, decide_false]
  refine ⟨M, W, I, rfl, V, ?_⟩
  unfold netD dI
  simp only [zSeq, zAsg, zRet, zRetN, zIfS, zNext, zDrop, zBreak, zCont, zVar, zC, zOp, zUn, zName, zgTup, zgCons, zgNil, zgSub, zAug, zAugS, zPar, zPar3, zAndV, zOrV, zNotV, zTest, zTestE, zAnd, zOr, zNot, zIf, zCh, zCB, zCall, zCKw, zCons, zNil, zTup, zLst, newL, newDK, zIx, zLe, zLt, zGt, zGe, zNe_ii, zEq_ii, zIsN, zNotN, zIn, zNotIn, zInB, zSub, zMod, zFdiv, zPow, zMul, zAdd, zNeg, zI2, zI2C, zLen, zIsi, zTuple, zTupleF, zList, zAbs, zInt1, zDivmod, zMin2, zSet, zGet, zSl, zSlV, zPart, zNoPart, zTix, zBM, zAppend, isL, tyName, kit_tt, kit_ii, kit_ib, sqR, lsR, lsM, dkM, dtM, dLook, Z.keyOf, frS, ziSeq, ziEnum, ziR1, ziR2, ziR3, zFor, zLC, zDC, zYes, zwipe, zDisp, zPairs, zmerge, zSortR3, zSortedI, zSortedDI, zDictOf, List.getElem?_cons_zero, List.getElem?_cons_succ, List.set_cons_zero, List.set_cons_succ, List.length_cons, List.length_nil, List.map_cons, List.map_nil, List.length_map, Bool.not_true, Bool.not_false, decide_true, decide_false, at0]
  rw [decide_eq_true (show ((S.length : Nat) : Int) = (M.length : Nat) by rw [hp.1])]
  exact loop_phases (S := S) M 0 _ _ hp.sfx fun x y => Exit.same0 hw rfl z
abbrev N_validate_ticks : List Str := ["net", "ticks", "index", "number"]
def lg1_validate_ticks : ZG := (zgTup 2 (zgCons (zName 2) (zgCons (zName 3) zgNil)))
def lb1_validate_ticks : ZTS := (zIfS (zOr (zNot (zTest (zCall sp_is_between (zCons (zVar 3) (zCons (zUn zNeg (zC (.int 10000000000000000000000000000000000000000))) (zCons (zC (.int 10000000000000000000000000000000000000000)) zNil)))))) (zAnd (zTest (zOp zNe (zVar 3) (zC (.int 0)))) (zTest (zOp zNotIn (zVar 2) (zOp zIx (zVar 0) (zC (.int 2))))))) zNever zNext)
def r_validate_ticks : ZTS := (zSeq (zDrop (zCall sp_validate_net (zCons (zVar 0) zNil))) (zSeq (zIfS (zOr (zNot (zTest (zCB zIsi (zCons (zVar 1) (zCons (zC (.ty "tuple")) zNil))))) (zTest (zOp zNe (zCB zLen (zCons (zVar 1) zNil)) (zCB zLen (zCons (zOp zIx (zVar 0) (zC (.int 0))) zNil))))) zNever zNext) (zFor (ziEnum (zCons (zVar 1) zNil)) lg1_validate_ticks lb1_validate_ticks)))
def Tks (T : List Int) (n : Nat) (I : List Int) : Prop := T.length = n ∧ ∀ (i : Nat) (t : Int), T[i]? = some t → -10 ^ 40 ≤ t ∧ t ≤ 10 ^ 40 ∧ (t ≠ 0 → (i : Int) ∈ I)
def sp_validate_ticks : ZSp := fun ds h Q _ => ∃ M W I T, ds = [netD M W I, dI T] ∧ Valid M W I ∧ Tks T M.length I ∧ Q .non h
theorem len_validate_ticks : ∀ ds h Q E, sp_validate_ticks ds h Q E → ds.length = 2 := fun ds h Q E ⟨M, W, I, S, e, _⟩ => by rw [e]; rfl
theorem loop_ticks {E : ZEnds} {h : AH} {M : List Int} {W : List T3} {I : List Int} {d : D} : ∀ (T : List Int) (k : Nat) (x y : Option D), (∀ (i : Nat) (t : Int), T[i]? = some t → -10 ^ 40 ≤ t ∧ t ≤ 10 ^ 40 ∧ (t ≠ 0 → ((k + i : Nat) : Int) ∈ I)) → (∀ x y, E.nx [some (netD M W I), some d, x, y] h) →
    zForL lg1_validate_ticks lb1_validate_ticks E (zenum k (T.map D.int)) [some (netD M W I), some d, x, y] h
  | [], k, x, y, hm, z => z x y
  | t :: T, k, x, y, hm, z => by
    obtain ⟨e1, e2, e3⟩ := hm 0 t rfl
    have nx := loop_ticks (d := d) T (k + 1) (some (.int k)) (some (.int t)) (fun i m hi => by
      have := hm (i + 1) m (by simpa using hi)
      rw [show k + 1 + i = k + (i + 1) by omega]
      exact this) z
    rw [List.map_cons, zenum_cons, zForL_cons]
    generalize zForL _ _ E _ = Kx at nx ⊢
    simp only [zSeq, zAsg, zRet, zRetN, zIfS, zNext, zDrop, zBreak, zCont, zVar, zC, zOp, zUn, zName, zgTup, zgCons, zgNil, zgSub, zAug, zAugS, zPar, zPar3, zAndV, zOrV, zNotV, zTest, zTestE, zAnd, zOr, zNot, zIf, zCh, zCB, zCall, zCKw, zCons, zNil, zTup, zLst, newL, newDK, zIx, zLe, zLt, zGt, zGe, zNe_ii, zEq_ii, zIsN, zNotN, zIn, zNotIn, zInB, zSub, zMod, zFdiv, zPow, zMul, zAdd, zNeg, zI2, zI2C, zLen, zIsi, zTuple, zTupleF, zList, zAbs, zInt1, zDivmod, zMin2, zSet, zGet, zSl, zSlV, zPart, zNoPart, zTix, zBM, zAppend, isL, tyName, kit_tt, kit_ii, kit_ib, sqR, lsR, lsM, dkM, dtM, dLook, Z.keyOf, frS, ziSeq, ziEnum, ziR1, ziR2, ziR3, zFor, zLC, zDC, zYes, zwipe, zDisp, zPairs, zmerge, zSortR3, zSortedI, zSortedDI, zDictOf, List.getElem?_cons_zero, List.getElem?_cons_succ, List.set_cons_zero, List.set_cons_succ, List.length_cons, List.length_nil, List.map_cons, List.map_nil, List.length_map, Bool.not_true, Bool.not_false, decide_true, decide_false, lg1_validate_ticks, lb1_validate_ticks, sp_is_between]
    rw [decide_eq_true (show -10000000000000000000000000000000000000000 ≤ t ∧ t ≤ 10000000000000000000000000000000000000000 by omega)]
    refine ⟨trivial, ?_⟩
    by_cases h0 : t = 0
    · rw [decide_eq_true h0]
      exact nx
    · rw [decide_eq_false h0]
      have hi := e3 h0
      simp only [zSeq, zAsg, zRet, zRetN, zIfS, zNext, zDrop, zBreak, zCont, zVar, zC, zOp, zUn, zName, zgTup, zgCons, zgNil, zgSub, zAug, zAugS, zPar, zPar3, zAndV, zOrV, zNotV, zTest, zTestE, zAnd, zOr, zNot, zIf, zCh, zCB, zCall, zCKw, zCons, zNil, zTup, zLst, newL, newDK, zIx, zLe, zLt, zGt, zGe, zNe_ii, zEq_ii, zIsN, zNotN, zIn, zNotIn, zInB, zSub, zMod, zFdiv, zPow, zMul, zAdd, zNeg, zI2, zI2C, zLen, zIsi, zTuple, zTupleF, zList, zAbs, zInt1, zDivmod, zMin2, zSet, zGet, zSl, zSlV, zPart, zNoPart, zTix, zBM, zAppend, isL, tyName, kit_tt, kit_ii, kit_ib, sqR, lsR, lsM, dkM, dtM, dLook, Z.keyOf, frS, ziSeq, ziEnum, ziR1, ziR2, ziR3, zFor, zLC, zDC, zYes, zwipe, zDisp, zPairs, zmerge, zSortR3, zSortedI, zSortedDI, zDictOf, List.getElem?_cons_zero, List.getElem?_cons_succ, List.set_cons_zero, List.set_cons_succ, List.length_cons, List.length_nil, List.map_cons, List.map_nil, List.length_map, Bool.not_true, Bool.not_false, decide_true, decide_false, netD, at2]
      have e : zInB h (.int (k : Nat)) (dI I) = some (decide (((k : Nat) : Int) ∈ I)) := inB_ints _ rfl
      rw [Nat.add_zero] at hi
      rw [decide_eq_true hi] at e
      unfold zInB sqR dI at e
      simp only [zSeq, zAsg, zRet, zRetN, zIfS, zNext, zDrop, zBreak, zCont, zVar, zC, zOp, zUn, zName, zgTup, zgCons, zgNil, zgSub, zAug, zAugS, zPar, zPar3, zAndV, zOrV, zNotV, zTest, zTestE, zAnd, zOr, zNot, zIf, zCh, zCB, zCall, zCKw, zCons, zNil, zTup, zLst, newL, newDK, zIx, zLe, zLt, zGt, zGe, zNe_ii, zEq_ii, zIsN, zNotN, zIn, zNotIn, zInB, zSub, zMod, zFdiv, zPow, zMul, zAdd, zNeg, zI2, zI2C, zLen, zIsi, zTuple, zTupleF, zList, zAbs, zInt1, zDivmod, zMin2, zSet, zGet, zSl, zSlV, zPart, zNoPart, zTix, zBM, zAppend, isL, tyName, kit_tt, kit_ii, kit_ib, sqR, lsR, lsM, dkM, dtM, dLook, Z.keyOf, frS, ziSeq, ziEnum, ziR1, ziR2, ziR3, zFor, zLC, zDC, zYes, zwipe, zDisp, zPairs, zmerge, zSortR3, zSortedI, zSortedDI, zDictOf, List.getElem?_cons_zero, List.getElem?_cons_succ, List.set_cons_zero, List.set_cons_succ, List.length_cons, List.length_nil, List.map_cons, List.map_nil, List.length_map, Bool.not_true, Bool.not_false, decide_true, decide_false] at e
      unfold dI
      simp only [zSeq, zAsg, zRet, zRetN, zIfS, zNext, zDrop, zBreak, zCont, zVar, zC, zOp, zUn, zName, zgTup, zgCons, zgNil, zgSub, zAug, zAugS, zPar, zPar3, zAndV, zOrV, zNotV, zTest, zTestE, zAnd, zOr, zNot, zIf, zCh, zCB, zCall, zCKw, zCons, zNil, zTup, zLst, newL, newDK, zIx, zLe, zLt, zGt, zGe, zNe_ii, zEq_ii, zIsN, zNotN, zIn, zNotIn, zInB, zSub, zMod, zFdiv, zPow, zMul, zAdd, zNeg, zI2, zI2C, zLen, zIsi, zTuple, zTupleF, zList, zAbs, zInt1, zDivmod, zMin2, zSet, zGet, zSl, zSlV, zPart, zNoPart, zTix, zBM, zAppend, isL, tyName, kit_tt, kit_ii, kit_ib, sqR, lsR, lsM, dkM, dtM, dLook, Z.keyOf, frS, ziSeq, ziEnum, ziR1, ziR2, ziR3, zFor, zLC, zDC, zYes, zwipe, zDisp, zPairs, zmerge, zSortR3, zSortedI, zSortedDI, zDictOf, List.getElem?_cons_zero, List.getElem?_cons_succ, List.set_cons_zero, List.set_cons_succ, List.length_cons, List.length_nil, List.map_cons, List.map_nil, List.length_map, Bool.not_true, Bool.not_false, decide_true, decide_false]
      rw [e]
      exact nx
theorem pure_validate_ticks : ∀ ds h Q0 E0, sp_validate_ticks ds h Q0 E0 → WfH h → D.cls h.length ds = true → r_validate_ticks (EndOk h Q0) (zstart N_validate_ticks ds) h := fun ds h Q E ⟨M, W, I, S, e, V, hp, z⟩ hw hc => by
  subst e
  show r_validate_ticks (EndOk h Q) [some (netD M W I), some (dI S), none, none] h
  unfold r_validate_ticks
  simp only [zSeq, zAsg, zRet, zRetN, zIfS, zNext, zDrop, zBreak, zCont, zVar, zC, zOp, zUn, zName, zgTup, zgCons, zgNil, zgSub, zAug, zAugS, zPar, zPar3, zAndV, zOrV, zNotV, zTest, zTestE, zAnd, zOr, zNot, zIf, zCh, zCB, zCall, zCKw, zCons, zNil, zTup, zLst, newL, newDK, zIx, zLe, zLt, zGt, zGe, zNe_ii, zEq_ii, zIsN, zNotN, zIn, zNotIn, zInB, zSub, zMod, zFdiv, zPow, zMul, zAdd, zNeg, zI2, zI2C, zLen, zIsi, zTuple, zTupleF, zList, zAbs, zInt1, zDivmod, zMin2, zSet, zGet, zSl, zSlV, zPart, zNoPart, zTix, zBM, zAppend, isL, tyName, kit_tt, kit_ii, kit_ib, sqR, lsR, lsM, dkM, dtM, dLook, Z.keyOf, frS, ziSeq, ziEnum, ziR1, ziR2, ziR3, zFor, zLC, zDC, zYes, zwipe, zDisp, zPairs, zmerge, zSortR3, zSortedI, zSortedDI, zDictOf, List.getElem?_cons_zero, List.getElem?_cons_succ, List.set_cons_zero, List.set_cons_succ, List.length_cons, List.length_nil, List.map_cons, List.map_nil, List.length_map, Bool.not_true, Bool.not_false, decide_true, decide_false]
  refine ⟨M, W, I, rfl, V, ?_⟩
  have lp := loop_ticks (E := { nx := fun zs h' => Exit h.length Q .non h', rt := Exit h.length Q }) (h := h) (M := M) (W := W) (d := dI S) S 0 none none (fun i t hi => by rw [Nat.zero_add]; exact hp.2 i t hi) fun x y => Exit.same0 hw rfl z
  unfold netD dI at lp ⊢
  simp only [zSeq, zAsg, zRet, zRetN, zIfS, zNext, zDrop, zBreak, zCont, zVar, zC, zOp, zUn, zName, zgTup, zgCons, zgNil, zgSub, zAug, zAugS, zPar, zPar3, zAndV, zOrV, zNotV, zTest, zTestE, zAnd, zOr, zNot, zIf, zCh, zCB, zCall, zCKw, zCons, zNil, zTup, zLst, newL, newDK, zIx, zLe, zLt, zGt, zGe, zNe_ii, zEq_ii, zIsN, zNotN, zIn, zNotIn, zInB, zSub, zMod, zFdiv, zPow, zMul, zAdd, zNeg, zI2, zI2C, zLen, zIsi, zTuple, zTupleF, zList, zAbs, zInt1, zDivmod, zMin2, zSet, zGet, zSl, zSlV, zPart, zNoPart, zTix, zBM, zAppend, isL, tyName, kit_tt, kit_ii, kit_ib, sqR, lsR, lsM, dkM, dtM, dLook, Z.keyOf, frS, ziSeq, ziEnum, ziR1, ziR2, ziR3, zFor, zLC, zDC, zYes, zwipe, zDisp, zPairs, zmerge, zSortR3, zSortedI, zSortedDI, zDictOf, List.getElem?_cons_zero, List.getElem?_cons_succ, List.set_cons_zero, List.set_cons_succ, List.length_cons, List.length_nil, List.map_cons, List.map_nil, List.length_map, Bool.not_true, Bool.not_false, decide_true, decide_false, at0]
  rw [decide_eq_true (show ((S.length : Nat) : Int) = (M.length : Nat) by rw [hp.1])]
  exact lp
end Z54
namespace Z54
open PySem PySem.Spec PyProof.Rows L2 Z
def pushW (k n : Int) : List T3 → List Int → List Int
  | [], C => C
  | w :: W, C => pushW k n W (if w.1 = k then C.set w.2.1.toNat (C.getD w.2.1.toNat 0 + w.2.2 * n) else C)
theorem pushW_length (k n : Int) : ∀ (W : List T3) (C : List Int), (pushW k n W C).length = C.length
  | [], C => rfl
  | w :: W, C => by
    show (pushW k n W _).length = _
    rw [pushW_length k n W]
    split
    · rw [List.length_set]
    · rfl
def flowG (S : List Int) (W : List T3) : List Int → Nat → List Int → List Int → List Int → List Int × List Int × List Int
  | [], _, C, X, L => (C, X, L)
  | m :: M, k, C, X, L => flowG S W M (k + 1) (pushW k ((S.getD k 0 + C.getD k 0) / m) W C) (X ++ [(S.getD k 0 + C.getD k 0) / m]) (L ++ [(S.getD k 0 + C.getD k 0) % m])
theorem getD_of {xs : List Int} {k : Nat} (h : k < xs.length) : xs[k]? = some (xs.getD k 0) := by
  rw [List.getD_eq_getElem?_getD, List.getElem?_eq_getElem h]; rfl
abbrev N_flow : List Str := ["net", "phases", "vector", "coming", "crossed", "later", "counter", "modulus", "number", "phase", "source", "target", "weight"]
def lg1_flow : ZG := (zgTup 3 (zgCons (zName 10) (zgCons (zName 11) (zgCons (zName 12) zgNil))))
def lb1_flow : ZTS := (zIfS (zTest (zOp zEq (zVar 10) (zVar 6))) (zAugS (zVar 3) (zVar 11) (zOp (zMul false) (zVar 12) (zVar 8)) zGet (zI2 fun i j => .int (i + j)) zSet) zNext)
def lg2_flow : ZG := (zgTup 2 (zgCons (zName 6) (zgCons (zName 7) zgNil)))
def lb2_flow : ZTS := (zSeq (zAsg (zCB zDivmod (zCons (zOp (zAdd false) (zOp zIx (zVar 1) (zVar 6)) (zOp zIx (zVar 3) (zVar 6))) (zCons (zVar 7) zNil))) (zgTup 2 (zgCons (zName 8) (zgCons (zName 9) zgNil)))) (zSeq (zDrop (zBM isL zAppend (zVar 4) (zCons (zVar 8) zNil))) (zSeq (zDrop (zBM isL zAppend (zVar 5) (zCons (zVar 9) zNil))) (zFor (ziSeq (zOp zIx (zVar 0) (zC (.int 1)))) lg1_flow lb1_flow))))
def r_flow : ZTS := (zSeq (zPar3 3 4 5 (zCons (zCB (zList true) (zCons (zVar 2) zNil)) (zCons (zLst true zNil) (zCons (zLst true zNil) zNil)))) (zSeq (zFor (ziEnum (zCons (zOp zIx (zVar 0) (zC (.int 0))) zNil)) lg2_flow lb2_flow) (zRet (zTup (zCons (zCB zTuple (zCons (zVar 3) zNil)) (zCons (zCB zTuple (zCons (zVar 4) zNil)) (zCons (zCB zTuple (zCons (zVar 5) zNil)) zNil)))))))
theorem loop_flow1 {E : ZEnds} {h : AH} {N : Nat} {k n : Int} {a b c : D} {d e o1 o2 : Option D} {c1 c2 : Cl} : ∀ (W : List T3) (C : List Int) (x y z : Option D), C.length = N → (∀ w ∈ W, WOk N w) →
    (∀ x y z, E.nx [some a, some b, some c, some (.obj h.length), o1, o2, some (.int k), d, some (.int n), e, x, y, z] (h ++ [.lst ((pushW k n W C).map D.int), c1, c2])) →
    zForL lg1_flow lb1_flow E (W.map wD) [some a, some b, some c, some (.obj h.length), o1, o2, some (.int k), d, some (.int n), e, x, y, z] (h ++ [.lst (C.map D.int), c1, c2])
  | [], C, x, y, z, hC, hW, q => q x y z
  | (u, v, w) :: W, C, x, y, z, hC, hW, q => by
    obtain ⟨g1, g2, g3, g4, g5, g6⟩ := hW _ List.mem_cons_self
    dsimp only at g1 g2 g3 g4 g5 g6
    have nx := fun (C' : List Int) (x y z : Option D) (hC' : C'.length = N) => loop_flow1 (E := E) (h := h) (k := k) (n := n) (a := a) (b := b) (c := c) (d := d) (e := e) (o1 := o1) (o2 := o2) (c1 := c1) (c2 := c2) W C' x y z hC' fun w hw => hW w (List.mem_cons_of_mem _ hw)
    rw [List.map_cons, zForL_cons]
    generalize zForL _ _ E _ = Kx at nx ⊢
    simp only [zSeq, zAsg, zRet, zRetN, zIfS, zNext, zDrop, zBreak, zCont, zVar, zC, zOp, zUn, zName, zgTup, zgCons, zgNil, zgSub, zAug, zAugS, zPar, zPar3, zAndV, zOrV, zNotV, zTest, zTestE, zAnd, zOr, zNot, zIf, zCh, zCB, zCall, zCKw, zCons, zNil, zTup, zLst, newL, newDK, zIx, zLe, zLt, zGt, zGe, zNe_ii, zEq_ii, zIsN, zNotN, zIn, zNotIn, zInB, zSub, zMod, zFdiv, zPow, zMul, zAdd, zNeg, zI2, zI2C, zLen, zIsi, zTuple, zTupleF, zList, zAbs, zInt1, zDivmod, zMin2, zSet, zGet, zSl, zSlV, zPart, zNoPart, zTix, zBM, zAppend, isL, tyName, kit_tt, kit_ii, kit_ib, sqR, lsR, lsM, dkM, dtM, dLook, Z.keyOf, frS, ziSeq, ziEnum, ziR1, ziR2, ziR3, zFor, zLC, zDC, zYes, zwipe, zDisp, zPairs, zmerge, zSortR3, zSortedI, zSortedDI, zDictOf, List.getElem?_cons_zero, List.getElem?_cons_succ, List.set_cons_zero, List.set_cons_succ, List.length_cons, List.length_nil, List.map_cons, List.map_nil, List.length_map, Bool.not_true, Bool.not_false, decide_true, decide_false, lg1_flow, lb1_flow, wD]
    refine ⟨trivial, ?_⟩
    have q' : ∀ x y z, E.nx [some a, some b, some c, some (.obj h.length), o1, o2, some (.int k), d, some (.int n), e, x, y, z] (h ++ [.lst ((pushW k n W (if u = k then C.set v.toNat (C.getD v.toNat 0 + w * n) else C)).map D.int), c1, c2]) := q
    by_cases hk : u = k
    · rw [decide_eq_true hk]
      rw [if_pos hk] at q'
      simp only [zSeq, zAsg, zRet, zRetN, zIfS, zNext, zDrop, zBreak, zCont, zVar, zC, zOp, zUn, zName, zgTup, zgCons, zgNil, zgSub, zAug, zAugS, zPar, zPar3, zAndV, zOrV, zNotV, zTest, zTestE, zAnd, zOr, zNot, zIf, zCh, zCB, zCall, zCKw, zCons, zNil, zTup, zLst, newL, newDK, zIx, zLe, zLt, zGt, zGe, zNe_ii, zEq_ii, zIsN, zNotN, zIn, zNotIn, zInB, zSub, zMod, zFdiv, zPow, zMul, zAdd, zNeg, zI2, zI2C, zLen, zIsi, zTuple, zTupleF, zList, zAbs, zInt1, zDivmod, zMin2, zSet, zGet, zSl, zSlV, zPart, zNoPart, zTix, zBM, zAppend, isL, tyName, kit_tt, kit_ii, kit_ib, sqR, lsR, lsM, dkM, dtM, dLook, Z.keyOf, frS, ziSeq, ziEnum, ziR1, ziR2, ziR3, zFor, zLC, zDC, zYes, zwipe, zDisp, zPairs, zmerge, zSortR3, zSortedI, zSortedDI, zDictOf, List.getElem?_cons_zero, List.getElem?_cons_succ, List.set_cons_zero, List.set_cons_succ, List.length_cons, List.length_nil, List.map_cons, List.map_nil, List.length_map, Bool.not_true, Bool.not_false, decide_true, decide_false, tail_get0]
      have hv : v.toNat < C.length := by omega
      have e1 : (C.map D.int)[v.toNat]? = some (.int (C.getD v.toNat 0)) := map_get (getD_of hv)
      rw [e1]
      refine ⟨by omega, .inl (.inl (by omega)), ?_⟩
      simp only [zSeq, zAsg, zRet, zRetN, zIfS, zNext, zDrop, zBreak, zCont, zVar, zC, zOp, zUn, zName, zgTup, zgCons, zgNil, zgSub, zAug, zAugS, zPar, zPar3, zAndV, zOrV, zNotV, zTest, zTestE, zAnd, zOr, zNot, zIf, zCh, zCB, zCall, zCKw, zCons, zNil, zTup, zLst, newL, newDK, zIx, zLe, zLt, zGt, zGe, zNe_ii, zEq_ii, zIsN, zNotN, zIn, zNotIn, zInB, zSub, zMod, zFdiv, zPow, zMul, zAdd, zNeg, zI2, zI2C, zLen, zIsi, zTuple, zTupleF, zList, zAbs, zInt1, zDivmod, zMin2, zSet, zGet, zSl, zSlV, zPart, zNoPart, zTix, zBM, zAppend, isL, tyName, kit_tt, kit_ii, kit_ib, sqR, lsR, lsM, dkM, dtM, dLook, Z.keyOf, frS, ziSeq, ziEnum, ziR1, ziR2, ziR3, zFor, zLC, zDC, zYes, zwipe, zDisp, zPairs, zmerge, zSortR3, zSortedI, zSortedDI, zDictOf, List.getElem?_cons_zero, List.getElem?_cons_succ, List.set_cons_zero, List.set_cons_succ, List.length_cons, List.length_nil, List.map_cons, List.map_nil, List.length_map, Bool.not_true, Bool.not_false, decide_true, decide_false, tail_get0, tail_set0]
      rw [ixN_ok (by omega) (by omega)]
      have e2 : (C.map D.int).set v.toNat (.int (C.getD v.toNat 0 + w * n)) = (C.set v.toNat (C.getD v.toNat 0 + w * n)).map D.int := List.map_set.symm
      simp only [zSeq, zAsg, zRet, zRetN, zIfS, zNext, zDrop, zBreak, zCont, zVar, zC, zOp, zUn, zName, zgTup, zgCons, zgNil, zgSub, zAug, zAugS, zPar, zPar3, zAndV, zOrV, zNotV, zTest, zTestE, zAnd, zOr, zNot, zIf, zCh, zCB, zCall, zCKw, zCons, zNil, zTup, zLst, newL, newDK, zIx, zLe, zLt, zGt, zGe, zNe_ii, zEq_ii, zIsN, zNotN, zIn, zNotIn, zInB, zSub, zMod, zFdiv, zPow, zMul, zAdd, zNeg, zI2, zI2C, zLen, zIsi, zTuple, zTupleF, zList, zAbs, zInt1, zDivmod, zMin2, zSet, zGet, zSl, zSlV, zPart, zNoPart, zTix, zBM, zAppend, isL, tyName, kit_tt, kit_ii, kit_ib, sqR, lsR, lsM, dkM, dtM, dLook, Z.keyOf, frS, ziSeq, ziEnum, ziR1, ziR2, ziR3, zFor, zLC, zDC, zYes, zwipe, zDisp, zPairs, zmerge, zSortR3, zSortedI, zSortedDI, zDictOf, List.getElem?_cons_zero, List.getElem?_cons_succ, List.set_cons_zero, List.set_cons_succ, List.length_cons, List.length_nil, List.map_cons, List.map_nil, List.length_map, Bool.not_true, Bool.not_false, decide_true, decide_false]
      rw [e2]
      exact nx _ _ _ _ (by rw [List.length_set]; exact hC) q'
    · rw [decide_eq_false hk]
      rw [if_neg hk] at q'
      exact nx _ _ _ _ hC q'
theorem loop_flow2 {E : ZEnds} {h : AH} {M0 : List Int} {W : List T3} {I S : List Int} {c : D} : ∀ (M : List Int) (k : Nat) (C X L : List Int) (s6 s7 s8 s9 s10 s11 s12 : Option D), k + M.length = M0.length → S.length = M0.length → C.length = M0.length → X.length ≤ k → L.length ≤ k → M0.length ≤ 10 → (∀ m ∈ M, 2 ≤ m ∧ m ≤ 1000) → (∀ w ∈ W, WOk M0.length w) →
    (∀ t, E.nx (some (netD M0 W I) :: some (dI S) :: some c :: some (.obj h.length) :: some (.obj (h.length + 1)) :: some (.obj (h.length + 2)) :: t) (h ++ [.lst ((flowG S W M k C X L).1.map D.int), .lst ((flowG S W M k C X L).2.1.map D.int), .lst ((flowG S W M k C X L).2.2.map D.int)])) →
    zForL lg2_flow lb2_flow E (zenum k (M.map D.int)) [some (netD M0 W I), some (dI S), some c, some (.obj h.length), some (.obj (h.length + 1)), some (.obj (h.length + 2)), s6, s7, s8, s9, s10, s11, s12] (h ++ [.lst (C.map D.int), .lst (X.map D.int), .lst (L.map D.int)])
  | [], k, C, X, L, s6, s7, s8, s9, s10, s11, s12, h1, h2, h3, h4, h5, h6, h7, h8, q => q _
  | m :: M, k, C, X, L, s6, s7, s8, s9, s10, s11, s12, h1, h2, h3, h4, h5, h6, h7, h8, q => by
    rw [List.length_cons] at h1
    have hm := h7 m List.mem_cons_self
    have nx := fun (C' X' L' : List Int) (s6 s7 s8 s9 s10 s11 s12 : Option D) (hC' : C'.length = M0.length) (hx : X'.length ≤ k + 1) (hl : L'.length ≤ k + 1) => loop_flow2 (E := E) (h := h) (I := I) (c := c) M (k + 1) C' X' L' s6 s7 s8 s9 s10 s11 s12 (by omega) h2 hC' hx hl h6 (fun z hz => h7 z (List.mem_cons_of_mem _ hz)) h8
    rw [List.map_cons, zenum_cons, zForL_cons]
    generalize zForL _ _ E _ = Kx at nx ⊢
    have eS : (S.map D.int)[k]? = some (.int (S.getD k 0)) := map_get (getD_of (by omega))
    have eC : (C.map D.int)[k]? = some (.int (C.getD k 0)) := map_get (getD_of (by omega))
    have hsl := sizeLine_eq
    unfold dI
    simp only [zSeq, zAsg, zRet, zRetN, zIfS, zNext, zDrop, zBreak, zCont, zVar, zC, zOp, zUn, zName, zgTup, zgCons, zgNil, zgSub, zAug, zAugS, zPar, zPar3, zAndV, zOrV, zNotV, zTest, zTestE, zAnd, zOr, zNot, zIf, zCh, zCB, zCall, zCKw, zCons, zNil, zTup, zLst, newL, newDK, zIx, zLe, zLt, zGt, zGe, zNe_ii, zEq_ii, zIsN, zNotN, zIn, zNotIn, zInB, zSub, zMod, zFdiv, zPow, zMul, zAdd, zNeg, zI2, zI2C, zLen, zIsi, zTuple, zTupleF, zList, zAbs, zInt1, zDivmod, zMin2, zSet, zGet, zSl, zSlV, zPart, zNoPart, zTix, zBM, zAppend, isL, tyName, kit_tt, kit_ii, kit_ib, sqR, lsR, lsM, dkM, dtM, dLook, Z.keyOf, frS, ziSeq, ziEnum, ziR1, ziR2, ziR3, zFor, zLC, zDC, zYes, zwipe, zDisp, zPairs, zmerge, zSortR3, zSortedI, zSortedDI, zDictOf, List.getElem?_cons_zero, List.getElem?_cons_succ, List.set_cons_zero, List.set_cons_succ, List.length_cons, List.length_nil, List.map_cons, List.map_nil, List.length_map, Bool.not_true, Bool.not_false, decide_true, decide_false, lg2_flow, lb2_flow, tail_get0]
    rw [atN eS, atN eC]
    simp only [zSeq, zAsg, zRet, zRetN, zIfS, zNext, zDrop, zBreak, zCont, zVar, zC, zOp, zUn, zName, zgTup, zgCons, zgNil, zgSub, zAug, zAugS, zPar, zPar3, zAndV, zOrV, zNotV, zTest, zTestE, zAnd, zOr, zNot, zIf, zCh, zCB, zCall, zCKw, zCons, zNil, zTup, zLst, newL, newDK, zIx, zLe, zLt, zGt, zGe, zNe_ii, zEq_ii, zIsN, zNotN, zIn, zNotIn, zInB, zSub, zMod, zFdiv, zPow, zMul, zAdd, zNeg, zI2, zI2C, zLen, zIsi, zTuple, zTupleF, zList, zAbs, zInt1, zDivmod, zMin2, zSet, zGet, zSl, zSlV, zPart, zNoPart, zTix, zBM, zAppend, isL, tyName, kit_tt, kit_ii, kit_ib, sqR, lsR, lsM, dkM, dtM, dLook, Z.keyOf, frS, ziSeq, ziEnum, ziR1, ziR2, ziR3, zFor, zLC, zDC, zYes, zwipe, zDisp, zPairs, zmerge, zSortR3, zSortedI, zSortedDI, zDictOf, List.getElem?_cons_zero, List.getElem?_cons_succ, List.set_cons_zero, List.set_cons_succ, List.length_cons, List.length_nil, List.map_cons, List.map_nil, List.length_map, Bool.not_true, Bool.not_false, decide_true, decide_false, tail_get, tail_get0, tail_set, tail_set0]
    refine ⟨trivial, ⟨by omega, by omega⟩, trivial, rfl, by omega, rfl, by omega, ?_⟩
    unfold netD
    simp only [zSeq, zAsg, zRet, zRetN, zIfS, zNext, zDrop, zBreak, zCont, zVar, zC, zOp, zUn, zName, zgTup, zgCons, zgNil, zgSub, zAug, zAugS, zPar, zPar3, zAndV, zOrV, zNotV, zTest, zTestE, zAnd, zOr, zNot, zIf, zCh, zCB, zCall, zCKw, zCons, zNil, zTup, zLst, newL, newDK, zIx, zLe, zLt, zGt, zGe, zNe_ii, zEq_ii, zIsN, zNotN, zIn, zNotIn, zInB, zSub, zMod, zFdiv, zPow, zMul, zAdd, zNeg, zI2, zI2C, zLen, zIsi, zTuple, zTupleF, zList, zAbs, zInt1, zDivmod, zMin2, zSet, zGet, zSl, zSlV, zPart, zNoPart, zTix, zBM, zAppend, isL, tyName, kit_tt, kit_ii, kit_ib, sqR, lsR, lsM, dkM, dtM, dLook, Z.keyOf, frS, ziSeq, ziEnum, ziR1, ziR2, ziR3, zFor, zLC, zDC, zYes, zwipe, zDisp, zPairs, zmerge, zSortR3, zSortedI, zSortedDI, zDictOf, List.getElem?_cons_zero, List.getElem?_cons_succ, List.set_cons_zero, List.set_cons_succ, List.length_cons, List.length_nil, List.map_cons, List.map_nil, List.length_map, Bool.not_true, Bool.not_false, decide_true, decide_false, at1, dW]
    rw [show (X.map D.int ++ [D.int ((S.getD k 0 + C.getD k 0) / m)]) = (X ++ [(S.getD k 0 + C.getD k 0) / m]).map D.int by simp, show (L.map D.int ++ [D.int ((S.getD k 0 + C.getD k 0) % m)]) = (L ++ [(S.getD k 0 + C.getD k 0) % m]).map D.int by simp]
    exact loop_flow1 (N := M0.length) W C _ _ _ h3 h8 fun x y z => nx _ _ _ _ _ _ _ _ _ _ (by rw [pushW_length]; exact h3) (by simp; omega) (by simp; omega) q
def sp_flow : ZSp := fun ds h Q _ => ∃ M W I S T, ds = [netD M W I, dI S, dI T] ∧ Valid M W I ∧ S.length = M.length ∧ T.length = M.length ∧
  Q (.tup [dI (flowG S W M 0 T [] []).1, dI (flowG S W M 0 T [] []).2.1, dI (flowG S W M 0 T [] []).2.2]) h
theorem len_flow : ∀ ds h Q E, sp_flow ds h Q E → ds.length = 3 := fun ds h Q E ⟨M, W, I, S, T, e, _⟩ => by rw [e]; rfl
theorem cl3 (k : Nat) (a b c : List Int) : (D.tup [dI a, dI b, dI c]).cl k = true := by
  show (D.cls k (a.map D.int) && (D.cls k (b.map D.int) && (D.cls k (c.map D.int) && true))) = true
  rw [cls_ints, cls_ints, cls_ints]; rfl
theorem pure_flow : ∀ ds h Q0 E0, sp_flow ds h Q0 E0 → WfH h → D.cls h.length ds = true → r_flow (EndOk h Q0) (zstart N_flow ds) h := fun ds h Q E ⟨M, W, I, S, T, e, V, hS, hT, z⟩ hw hc => by
  subst e
  have hsl := sizeLine_eq
  show r_flow (EndOk h Q) [some (netD M W I), some (dI S), some (dI T), none, none, none, none, none, none, none, none, none, none] h
  have lp := loop_flow2 (E := { nx := (zRet (zTup (zCons (zCB zTuple (zCons (zVar 3) zNil)) (zCons (zCB zTuple (zCons (zVar 4) zNil)) (zCons (zCB zTuple (zCons (zVar 5) zNil)) zNil))))) (EndOk h Q), rt := Exit h.length Q }) (h := h) (M0 := M) (W := W) (I := I) (S := S) (c := dI T) M 0 T [] [] none none none none none none none (by omega) hS hT (by simp) (by simp) V.n2 V.mo V.wk (fun t => by
    simp only [zSeq, zAsg, zRet, zRetN, zIfS, zNext, zDrop, zBreak, zCont, zVar, zC, zOp, zUn, zName, zgTup, zgCons, zgNil, zgSub, zAug, zAugS, zPar, zPar3, zAndV, zOrV, zNotV, zTest, zTestE, zAnd, zOr, zNot, zIf, zCh, zCB, zCall, zCKw, zCons, zNil, zTup, zLst, newL, newDK, zIx, zLe, zLt, zGt, zGe, zNe_ii, zEq_ii, zIsN, zNotN, zIn, zNotIn, zInB, zSub, zMod, zFdiv, zPow, zMul, zAdd, zNeg, zI2, zI2C, zLen, zIsi, zTuple, zTupleF, zList, zAbs, zInt1, zDivmod, zMin2, zSet, zGet, zSl, zSlV, zPart, zNoPart, zTix, zBM, zAppend, isL, tyName, kit_tt, kit_ii, kit_ib, sqR, lsR, lsM, dkM, dtM, dLook, Z.keyOf, frS, ziSeq, ziEnum, ziR1, ziR2, ziR3, zFor, zLC, zDC, zYes, zwipe, zDisp, zPairs, zmerge, zSortR3, zSortedI, zSortedDI, zDictOf, List.getElem?_cons_zero, List.getElem?_cons_succ, List.set_cons_zero, List.set_cons_succ, List.length_cons, List.length_nil, List.map_cons, List.map_nil, List.length_map, Bool.not_true, Bool.not_false, decide_true, decide_false, tail_get, tail_get0]
    exact ⟨by omega, Exit.same hw (cl3 _ _ _ _) z⟩)
  unfold r_flow
  unfold netD dI at lp ⊢
  simp only [zSeq, zAsg, zRet, zRetN, zIfS, zNext, zDrop, zBreak, zCont, zVar, zC, zOp, zUn, zName, zgTup, zgCons, zgNil, zgSub, zAug, zAugS, zPar, zPar3, zAndV, zOrV, zNotV, zTest, zTestE, zAnd, zOr, zNot, zIf, zCh, zCB, zCall, zCKw, zCons, zNil, zTup, zLst, newL, newDK, zIx, zLe, zLt, zGt, zGe, zNe_ii, zEq_ii, zIsN, zNotN, zIn, zNotIn, zInB, zSub, zMod, zFdiv, zPow, zMul, zAdd, zNeg, zI2, zI2C, zLen, zIsi, zTuple, zTupleF, zList, zAbs, zInt1, zDivmod, zMin2, zSet, zGet, zSl, zSlV, zPart, zNoPart, zTix, zBM, zAppend, isL, tyName, kit_tt, kit_ii, kit_ib, sqR, lsR, lsM, dkM, dtM, dLook, Z.keyOf, frS, ziSeq, ziEnum, ziR1, ziR2, ziR3, zFor, zLC, zDC, zYes, zwipe, zDisp, zPairs, zmerge, zSortR3, zSortedI, zSortedDI, zDictOf, List.getElem?_cons_zero, List.getElem?_cons_succ, List.set_cons_zero, List.set_cons_succ, List.length_cons, List.length_nil, List.map_cons, List.map_nil, List.length_map, Bool.not_true, Bool.not_false, decide_true, decide_false, at0, List.length_append, List.append_assoc, List.nil_append, List.cons_append]
  exact ⟨by omega, by omega, lp⟩
end Z54
namespace Z54
open PySem PySem.Spec PyProof.Rows L2 Z
abbrev N_checked_flow : List Str := ["net", "phases", "ticks"]
def r_checked_flow : ZTS := (zSeq (zDrop (zCall sp_validate_phases (zCons (zVar 0) (zCons (zVar 1) zNil)))) (zSeq (zDrop (zCall sp_validate_ticks (zCons (zVar 0) (zCons (zVar 2) zNil)))) (zRet (zCall sp_flow (zCons (zVar 0) (zCons (zVar 1) (zCons (zVar 2) zNil)))))))
def sp_checked_flow : ZSp := fun ds h Q _ => ∃ M W I S T, ds = [netD M W I, dI S, dI T] ∧ Valid M W I ∧ Phs S M ∧ Tks T M.length I ∧
  Q (.tup [dI (flowG S W M 0 T [] []).1, dI (flowG S W M 0 T [] []).2.1, dI (flowG S W M 0 T [] []).2.2]) h
theorem len_checked_flow : ∀ ds h Q E, sp_checked_flow ds h Q E → ds.length = 3 := fun ds h Q E ⟨M, W, I, S, T, e, _⟩ => by rw [e]; rfl
theorem pure_checked_flow : ∀ ds h Q0 E0, sp_checked_flow ds h Q0 E0 → WfH h → D.cls h.length ds = true → r_checked_flow (EndOk h Q0) (zstart N_checked_flow ds) h := fun ds h Q E ⟨M, W, I, S, T, e, V, hS, hT, z⟩ hw hc => by
  subst e
  show r_checked_flow (EndOk h Q) [some (netD M W I), some (dI S), some (dI T)] h
  unfold r_checked_flow
  simp only [zSeq, zAsg, zRet, zRetN, zIfS, zNext, zDrop, zBreak, zCont, zVar, zC, zOp, zUn, zName, zgTup, zgCons, zgNil, zgSub, zAug, zAugS, zPar, zPar3, zAndV, zOrV, zNotV, zTest, zTestE, zAnd, zOr, zNot, zIf, zCh, zCB, zCall, zCKw, zCons, zNil, zTup, zLst, newL, newDK, zIx, zLe, zLt, zGt, zGe, zNe_ii, zEq_ii, zIsN, zNotN, zIn, zNotIn, zInB, zSub, zMod, zFdiv, zPow, zMul, zAdd, zNeg, zI2, zI2C, zLen, zIsi, zTuple, zTupleF, zList, zAbs, zInt1, zDivmod, zMin2, zSet, zGet, zSl, zSlV, zPart, zNoPart, zTix, zBM, zAppend, isL, tyName, kit_tt, kit_ii, kit_ib, sqR, lsR, lsM, dkM, dtM, dLook, Z.keyOf, frS, ziSeq, ziEnum, ziR1, ziR2, ziR3, zFor, zLC, zDC, zYes, zwipe, zDisp, zPairs, zmerge, zSortR3, zSortedI, zSortedDI, zDictOf, List.getElem?_cons_zero, List.getElem?_cons_succ, List.set_cons_zero, List.set_cons_succ, List.length_cons, List.length_nil, List.map_cons, List.map_nil, List.length_map, Bool.not_true, Bool.not_false, decide_true, decide_false]
  refine ⟨M, W, I, S, rfl, V, hS, M, W, I, T, rfl, V, hT, M, W, I, S, T, rfl, V, hS.1, hT.1, ?_⟩
  exact Exit.same0 hw (cl3 _ _ _ _) z
abbrev N_carries : List Str := ["net", "phases", "ticks"]
def r_carries : ZTS := (zRet (zOp zIx (zCall sp_checked_flow (zCons (zVar 0) (zCons (zVar 1) (zCons (zVar 2) zNil)))) (zC (.int 1))))
def sp_carries : ZSp := fun ds h Q _ => ∃ M W I S T, ds = [netD M W I, dI S, dI T] ∧ Valid M W I ∧ Phs S M ∧ Tks T M.length I ∧ Q (dI (flowG S W M 0 T [] []).2.1) h
theorem len_carries : ∀ ds h Q E, sp_carries ds h Q E → ds.length = 3 := fun ds h Q E ⟨M, W, I, S, T, e, _⟩ => by rw [e]; rfl
theorem cl_dI (k : Nat) (xs : List Int) : (dI xs).cl k = true := cls_ints k xs
theorem pure_carries : ∀ ds h Q0 E0, sp_carries ds h Q0 E0 → WfH h → D.cls h.length ds = true → r_carries (EndOk h Q0) (zstart N_carries ds) h := fun ds h Q E ⟨M, W, I, S, T, e, V, hS, hT, z⟩ hw hc => by
  subst e
  show r_carries (EndOk h Q) [some (netD M W I), some (dI S), some (dI T)] h
  unfold r_carries
  simp only [zSeq, zAsg, zRet, zRetN, zIfS, zNext, zDrop, zBreak, zCont, zVar, zC, zOp, zUn, zName, zgTup, zgCons, zgNil, zgSub, zAug, zAugS, zPar, zPar3, zAndV, zOrV, zNotV, zTest, zTestE, zAnd, zOr, zNot, zIf, zCh, zCB, zCall, zCKw, zCons, zNil, zTup, zLst, newL, newDK, zIx, zLe, zLt, zGt, zGe, zNe_ii, zEq_ii, zIsN, zNotN, zIn, zNotIn, zInB, zSub, zMod, zFdiv, zPow, zMul, zAdd, zNeg, zI2, zI2C, zLen, zIsi, zTuple, zTupleF, zList, zAbs, zInt1, zDivmod, zMin2, zSet, zGet, zSl, zSlV, zPart, zNoPart, zTix, zBM, zAppend, isL, tyName, kit_tt, kit_ii, kit_ib, sqR, lsR, lsM, dkM, dtM, dLook, Z.keyOf, frS, ziSeq, ziEnum, ziR1, ziR2, ziR3, zFor, zLC, zDC, zYes, zwipe, zDisp, zPairs, zmerge, zSortR3, zSortedI, zSortedDI, zDictOf, List.getElem?_cons_zero, List.getElem?_cons_succ, List.set_cons_zero, List.set_cons_succ, List.length_cons, List.length_nil, List.map_cons, List.map_nil, List.length_map, Bool.not_true, Bool.not_false, decide_true, decide_false]
  refine ⟨M, W, I, S, T, rfl, V, hS, hT, ?_⟩
  simp only [zSeq, zAsg, zRet, zRetN, zIfS, zNext, zDrop, zBreak, zCont, zVar, zC, zOp, zUn, zName, zgTup, zgCons, zgNil, zgSub, zAug, zAugS, zPar, zPar3, zAndV, zOrV, zNotV, zTest, zTestE, zAnd, zOr, zNot, zIf, zCh, zCB, zCall, zCKw, zCons, zNil, zTup, zLst, newL, newDK, zIx, zLe, zLt, zGt, zGe, zNe_ii, zEq_ii, zIsN, zNotN, zIn, zNotIn, zInB, zSub, zMod, zFdiv, zPow, zMul, zAdd, zNeg, zI2, zI2C, zLen, zIsi, zTuple, zTupleF, zList, zAbs, zInt1, zDivmod, zMin2, zSet, zGet, zSl, zSlV, zPart, zNoPart, zTix, zBM, zAppend, isL, tyName, kit_tt, kit_ii, kit_ib, sqR, lsR, lsM, dkM, dtM, dLook, Z.keyOf, frS, ziSeq, ziEnum, ziR1, ziR2, ziR3, zFor, zLC, zDC, zYes, zwipe, zDisp, zPairs, zmerge, zSortR3, zSortedI, zSortedDI, zDictOf, List.getElem?_cons_zero, List.getElem?_cons_succ, List.set_cons_zero, List.set_cons_succ, List.length_cons, List.length_nil, List.map_cons, List.map_nil, List.length_map, Bool.not_true, Bool.not_false, decide_true, decide_false, at1]
  exact Exit.same0 hw (cl_dI _ _) z
abbrev N_lowest_terms : List Str := ["above", "below", "one", "other", "sign"]
def wc1_lowest_terms : ZT := (zTest (zOp zGt (zVar 3) (zC (.int 0))))
def wb1_lowest_terms : ZTS := (zPar 2 3 (zCons (zVar 3) (zCons (zOp zMod (zVar 2) (zVar 3)) zNil)))
def r_lowest_terms : ZTS := (zSeq (zPar 2 3 (zCons (zCB zAbs (zCons (zVar 0) zNil)) (zCons (zCB zAbs (zCons (zVar 1) zNil)) zNil))) (zSeq (zWhile wc1_lowest_terms wb1_lowest_terms) (zSeq (zAsg (zIf (zTest (zOp zGt (zVar 1) (zC (.int 0)))) (zC (.int 1)) (zUn zNeg (zC (.int 1)))) (zName 4)) (zRet (zTup (zCons (zOp zFdiv (zOp (zMul false) (zVar 4) (zVar 0)) (zVar 2)) (zCons (zOp zFdiv (zOp (zMul false) (zVar 4) (zVar 1)) (zVar 2)) zNil)))))))
abbrev P2 := Int × Int
def pD (p : P2) : D := .tup [.int p.1, .int p.2]
def ltm (a b : Int) : P2 := (a / (Int.gcd a b : Nat), b / (Int.gcd a b : Nat))
def sp_lowest_terms : ZSp := fun ds h Q _ => ∃ a b : Int, ds = [.int a, .int b] ∧ 0 < b ∧ b < 2 ^ 250 ∧ Q (pD (ltm a b)) h
theorem len_lowest_terms : ∀ ds h Q E, sp_lowest_terms ds h Q E → ds.length = 2 := fun ds h Q E ⟨a, b, e, _⟩ => by rw [e]; rfl
theorem loop_gcd {E : ZEnds} {h : AH} {a b : D} {s : Option D} : ∀ (n y x : Nat), y ≤ n → E.nx [some a, some b, some (.int (Nat.gcd x y)), some (.int 0), s] h →
    ∃ n, zWhileN wc1_lowest_terms wb1_lowest_terms E n [some a, some b, some (.int x), some (.int y), s] h := by
  intro n
  induction n with
  | zero =>
    intro y x hy q
    have : y = 0 := by omega
    subst this
    refine ⟨1, ?_⟩
    simp only [zSeq, zAsg, zRet, zRetN, zIfS, zNext, zDrop, zBreak, zCont, zVar, zC, zOp, zUn, zName, zgTup, zgCons, zgNil, zgSub, zAug, zAugS, zPar, zPar3, zAndV, zOrV, zNotV, zTest, zTestE, zAnd, zOr, zNot, zIf, zCh, zCB, zCall, zCKw, zCons, zNil, zTup, zLst, newL, newDK, zIx, zLe, zLt, zGt, zGe, zNe_ii, zEq_ii, zIsN, zNotN, zIn, zNotIn, zInB, zSub, zMod, zFdiv, zPow, zMul, zAdd, zNeg, zI2, zI2C, zLen, zIsi, zTuple, zTupleF, zList, zAbs, zInt1, zDivmod, zMin2, zSet, zGet, zSl, zSlV, zPart, zNoPart, zTix, zBM, zAppend, isL, tyName, kit_tt, kit_ii, kit_ib, sqR, lsR, lsM, dkM, dtM, dLook, Z.keyOf, frS, ziSeq, ziEnum, ziR1, ziR2, ziR3, zFor, zLC, zDC, zYes, zwipe, zDisp, zPairs, zmerge, zSortR3, zSortedI, zSortedDI, zDictOf, List.getElem?_cons_zero, List.getElem?_cons_succ, List.set_cons_zero, List.set_cons_succ, List.length_cons, List.length_nil, List.map_cons, List.map_nil, List.length_map, Bool.not_true, Bool.not_false, decide_true, decide_false, zWhileN, wc1_lowest_terms]
    rw [Nat.gcd_zero_right] at q
    rw [decide_eq_false (by omega)]
    exact q
  | succ n ih =>
    intro y x hy q
    by_cases h0 : y = 0
    · exact ih y x (by omega) q
    · have hlt : x % y < y := Nat.mod_lt _ (by omega)
      rw [Nat.gcd_comm, Nat.gcd_rec, Nat.gcd_comm] at q
      obtain ⟨m, hm⟩ := ih (x % y) y (by omega) q
      refine ⟨m + 1, ?_⟩
      show wc1_lowest_terms _ h _
      generalize zWhileN _ _ E m = Kx at hm ⊢
      simp only [zSeq, zAsg, zRet, zRetN, zIfS, zNext, zDrop, zBreak, zCont, zVar, zC, zOp, zUn, zName, zgTup, zgCons, zgNil, zgSub, zAug, zAugS, zPar, zPar3, zAndV, zOrV, zNotV, zTest, zTestE, zAnd, zOr, zNot, zIf, zCh, zCB, zCall, zCKw, zCons, zNil, zTup, zLst, newL, newDK, zIx, zLe, zLt, zGt, zGe, zNe_ii, zEq_ii, zIsN, zNotN, zIn, zNotIn, zInB, zSub, zMod, zFdiv, zPow, zMul, zAdd, zNeg, zI2, zI2C, zLen, zIsi, zTuple, zTupleF, zList, zAbs, zInt1, zDivmod, zMin2, zSet, zGet, zSl, zSlV, zPart, zNoPart, zTix, zBM, zAppend, isL, tyName, kit_tt, kit_ii, kit_ib, sqR, lsR, lsM, dkM, dtM, dLook, Z.keyOf, frS, ziSeq, ziEnum, ziR1, ziR2, ziR3, zFor, zLC, zDC, zYes, zwipe, zDisp, zPairs, zmerge, zSortR3, zSortedI, zSortedDI, zDictOf, List.getElem?_cons_zero, List.getElem?_cons_succ, List.set_cons_zero, List.set_cons_succ, List.length_cons, List.length_nil, List.map_cons, List.map_nil, List.length_map, Bool.not_true, Bool.not_false, decide_true, decide_false, wc1_lowest_terms, wb1_lowest_terms]
      rw [decide_eq_true (show (0 : Int) < (y : Nat) by omega)]
      simp only [zSeq, zAsg, zRet, zRetN, zIfS, zNext, zDrop, zBreak, zCont, zVar, zC, zOp, zUn, zName, zgTup, zgCons, zgNil, zgSub, zAug, zAugS, zPar, zPar3, zAndV, zOrV, zNotV, zTest, zTestE, zAnd, zOr, zNot, zIf, zCh, zCB, zCall, zCKw, zCons, zNil, zTup, zLst, newL, newDK, zIx, zLe, zLt, zGt, zGe, zNe_ii, zEq_ii, zIsN, zNotN, zIn, zNotIn, zInB, zSub, zMod, zFdiv, zPow, zMul, zAdd, zNeg, zI2, zI2C, zLen, zIsi, zTuple, zTupleF, zList, zAbs, zInt1, zDivmod, zMin2, zSet, zGet, zSl, zSlV, zPart, zNoPart, zTix, zBM, zAppend, isL, tyName, kit_tt, kit_ii, kit_ib, sqR, lsR, lsM, dkM, dtM, dLook, Z.keyOf, frS, ziSeq, ziEnum, ziR1, ziR2, ziR3, zFor, zLC, zDC, zYes, zwipe, zDisp, zPairs, zmerge, zSortR3, zSortedI, zSortedDI, zDictOf, List.getElem?_cons_zero, List.getElem?_cons_succ, List.set_cons_zero, List.set_cons_succ, List.length_cons, List.length_nil, List.map_cons, List.map_nil, List.length_map, Bool.not_true, Bool.not_false, decide_true, decide_false]
      refine ⟨by omega, ?_⟩
      rw [← Int.natCast_emod]
      exact hm
theorem natAbs_cast (a : Int) : (if a < 0 then -a else a) = (a.natAbs : Nat) := by
  split <;> omega
theorem pure_lowest_terms : ∀ ds h Q0 E0, sp_lowest_terms ds h Q0 E0 → WfH h → D.cls h.length ds = true → r_lowest_terms (EndOk h Q0) (zstart N_lowest_terms ds) h := fun ds h Q E ⟨a, b, e, h1, h2, z⟩ hw hc => by
  subst e
  have hsl := sizeLine_eq
  show r_lowest_terms (EndOk h Q) [some (.int a), some (.int b), none, none, none] h
  have hg : 0 < Int.gcd a b := Int.gcd_pos_of_ne_zero_right a (by omega)
  have hgb : Int.gcd a b ≤ b.natAbs := Nat.gcd_le_right _ (by omega)
  have hb : b.natAbs < 2 ^ 250 := by omega
  have hlog : (Int.gcd a b).log2 < 9000 := (Nat.log2_lt (by omega)).mpr (Nat.lt_of_le_of_lt hgb (Nat.lt_of_lt_of_le hb (Nat.pow_le_pow_right (by decide) (by decide))))
  have lp := loop_gcd (E := { nx := (zSeq (zAsg (zIf (zTest (zOp zGt (zVar 1) (zC (.int 0)))) (zC (.int 1)) (zUn zNeg (zC (.int 1)))) (zName 4)) (zRet (zTup (zCons (zOp zFdiv (zOp (zMul false) (zVar 4) (zVar 0)) (zVar 2)) (zCons (zOp zFdiv (zOp (zMul false) (zVar 4) (zVar 1)) (zVar 2)) zNil))))) (EndOk h Q), rt := Exit h.length Q }) (h := h) (a := .int a) (b := .int b) (s := none) b.natAbs b.natAbs a.natAbs (Nat.le_refl _) (by
    simp only [zSeq, zAsg, zRet, zRetN, zIfS, zNext, zDrop, zBreak, zCont, zVar, zC, zOp, zUn, zName, zgTup, zgCons, zgNil, zgSub, zAug, zAugS, zPar, zPar3, zAndV, zOrV, zNotV, zTest, zTestE, zAnd, zOr, zNot, zIf, zCh, zCB, zCall, zCKw, zCons, zNil, zTup, zLst, newL, newDK, zIx, zLe, zLt, zGt, zGe, zNe_ii, zEq_ii, zIsN, zNotN, zIn, zNotIn, zInB, zSub, zMod, zFdiv, zPow, zMul, zAdd, zNeg, zI2, zI2C, zLen, zIsi, zTuple, zTupleF, zList, zAbs, zInt1, zDivmod, zMin2, zSet, zGet, zSl, zSlV, zPart, zNoPart, zTix, zBM, zAppend, isL, tyName, kit_tt, kit_ii, kit_ib, sqR, lsR, lsM, dkM, dtM, dLook, Z.keyOf, frS, ziSeq, ziEnum, ziR1, ziR2, ziR3, zFor, zLC, zDC, zYes, zwipe, zDisp, zPairs, zmerge, zSortR3, zSortedI, zSortedDI, zDictOf, List.getElem?_cons_zero, List.getElem?_cons_succ, List.set_cons_zero, List.set_cons_succ, List.length_cons, List.length_nil, List.map_cons, List.map_nil, List.length_map, Bool.not_true, Bool.not_false, decide_true, decide_false]
    rw [decide_eq_true h1]
    simp only [zSeq, zAsg, zRet, zRetN, zIfS, zNext, zDrop, zBreak, zCont, zVar, zC, zOp, zUn, zName, zgTup, zgCons, zgNil, zgSub, zAug, zAugS, zPar, zPar3, zAndV, zOrV, zNotV, zTest, zTestE, zAnd, zOr, zNot, zIf, zCh, zCB, zCall, zCKw, zCons, zNil, zTup, zLst, newL, newDK, zIx, zLe, zLt, zGt, zGe, zNe_ii, zEq_ii, zIsN, zNotN, zIn, zNotIn, zInB, zSub, zMod, zFdiv, zPow, zMul, zAdd, zNeg, zI2, zI2C, zLen, zIsi, zTuple, zTupleF, zList, zAbs, zInt1, zDivmod, zMin2, zSet, zGet, zSl, zSlV, zPart, zNoPart, zTix, zBM, zAppend, isL, tyName, kit_tt, kit_ii, kit_ib, sqR, lsR, lsM, dkM, dtM, dLook, Z.keyOf, frS, ziSeq, ziEnum, ziR1, ziR2, ziR3, zFor, zLC, zDC, zYes, zwipe, zDisp, zPairs, zmerge, zSortR3, zSortedI, zSortedDI, zDictOf, List.getElem?_cons_zero, List.getElem?_cons_succ, List.set_cons_zero, List.set_cons_succ, List.length_cons, List.length_nil, List.map_cons, List.map_nil, List.length_map, Bool.not_true, Bool.not_false, decide_true, decide_false]
    refine ⟨.inl (.inl (by omega)), ⟨by show (0 : Int) < (Int.gcd a b : Nat); omega, hlog⟩, .inl (.inl (by omega)), ⟨by show (0 : Int) < (Int.gcd a b : Nat); omega, hlog⟩, by omega, ?_⟩
    rw [Int.one_mul, Int.one_mul]
    exact Exit.same0 hw rfl z)
  unfold r_lowest_terms zWhile
  simp only [zSeq, zAsg, zRet, zRetN, zIfS, zNext, zDrop, zBreak, zCont, zVar, zC, zOp, zUn, zName, zgTup, zgCons, zgNil, zgSub, zAug, zAugS, zPar, zPar3, zAndV, zOrV, zNotV, zTest, zTestE, zAnd, zOr, zNot, zIf, zCh, zCB, zCall, zCKw, zCons, zNil, zTup, zLst, newL, newDK, zIx, zLe, zLt, zGt, zGe, zNe_ii, zEq_ii, zIsN, zNotN, zIn, zNotIn, zInB, zSub, zMod, zFdiv, zPow, zMul, zAdd, zNeg, zI2, zI2C, zLen, zIsi, zTuple, zTupleF, zList, zAbs, zInt1, zDivmod, zMin2, zSet, zGet, zSl, zSlV, zPart, zNoPart, zTix, zBM, zAppend, isL, tyName, kit_tt, kit_ii, kit_ib, sqR, lsR, lsM, dkM, dtM, dLook, Z.keyOf, frS, ziSeq, ziEnum, ziR1, ziR2, ziR3, zFor, zLC, zDC, zYes, zwipe, zDisp, zPairs, zmerge, zSortR3, zSortedI, zSortedDI, zDictOf, List.getElem?_cons_zero, List.getElem?_cons_succ, List.set_cons_zero, List.set_cons_succ, List.length_cons, List.length_nil, List.map_cons, List.map_nil, List.length_map, Bool.not_true, Bool.not_false, decide_true, decide_false, natAbs_cast]
  exact lp
end Z54
/-! fractions in lowest terms; the gains and their bounds -/
namespace Z54
open PySem PySem.Spec PyProof.Rows L2 Z
theorem ltm_eq {a b : Int} (hb : 0 < b) : ∃ g : Int, 0 < g ∧ a = g * (ltm a b).1 ∧ b = g * (ltm a b).2 ∧ 0 < (ltm a b).2 ∧ Int.gcd (ltm a b).1 (ltm a b).2 = 1 := by
  have hg : 0 < Int.gcd a b := Int.gcd_pos_of_ne_zero_right a (by omega)
  have h1 : ((Int.gcd a b : Nat) : Int) ∣ a := Int.gcd_dvd_left a b
  have h2 : ((Int.gcd a b : Nat) : Int) ∣ b := Int.gcd_dvd_right a b
  have e1 := Int.mul_ediv_cancel' h1
  have e2 := Int.mul_ediv_cancel' h2
  have hpos : 0 < b / (Int.gcd a b : Nat) := by
    refine Int.lt_of_not_ge fun z => ?_
    have : ((Int.gcd a b : Nat) : Int) * (b / (Int.gcd a b : Nat)) ≤ 0 := Int.mul_nonpos_of_nonneg_of_nonpos (by omega) z
    omega
  refine ⟨(Int.gcd a b : Nat), by omega, e1.symm, e2.symm, hpos, ?_⟩
  show Int.gcd (a / (Int.gcd a b : Nat)) (b / (Int.gcd a b : Nat)) = 1
  have hc := Nat.coprime_div_gcd_div_gcd (m := a.natAbs) (n := b.natAbs) hg
  show Nat.gcd (a / (Int.gcd a b : Nat)).natAbs (b / (Int.gcd a b : Nat)).natAbs = 1
  rw [Int.natAbs_ediv_of_dvd h1, Int.natAbs_ediv_of_dvd h2, Int.natAbs_natCast]
  exact hc
theorem ltm_low {a b : Int} (h : Int.gcd a b = 1) : ltm a b = (a, b) := by
  unfold ltm
  rw [h]
  simp
theorem ltm_dvd {a b P z : Int} (hb : 0 < b) (h : a * P = z * b) : (ltm a b).2 ∣ P := by
  obtain ⟨g, g0, e1, e2, h1, h2⟩ := ltm_eq (a := a) hb
  have h3 : (ltm a b).2 ∣ (ltm a b).1 * P := by
    refine ⟨z, ?_⟩
    have e3 : g * ((ltm a b).1 * P) = g * ((ltm a b).2 * z) := by
      rw [← Int.mul_assoc, ← e1, h, ← Int.mul_assoc, ← e2, Int.mul_comm]
    exact Int.eq_of_mul_eq_mul_left (by omega) e3
  have h4 : (ltm a b).2.natAbs ∣ (ltm a b).1.natAbs * P.natAbs := by
    rw [← Int.natAbs_mul]
    exact Int.natAbs_dvd_natAbs.mpr h3
  have h5 : Nat.Coprime (ltm a b).2.natAbs (ltm a b).1.natAbs := by
    unfold Nat.Coprime
    rw [Nat.gcd_comm]
    exact h2
  exact Int.natAbs_dvd_natAbs.mp (Nat.Coprime.dvd_of_dvd_mul_left h5 h4)
theorem ltm_bound {a b B : Int} (hb : 0 < b) (h1 : -(B * b) ≤ a) (h2 : a ≤ B * b) : -(B * (ltm a b).2) ≤ (ltm a b).1 ∧ (ltm a b).1 ≤ B * (ltm a b).2 := by
  obtain ⟨g, g0, e1, e2, h3, h4⟩ := ltm_eq (a := a) hb
  have e3 : B * b = g * (B * (ltm a b).2) := by
    rw [Int.mul_left_comm, ← e2]
  rw [e3] at h1 h2
  generalize (ltm a b).1 = x at e1 ⊢
  subst e1
  refine ⟨?_, Int.le_of_mul_le_mul_left h2 g0⟩
  rw [← Int.mul_neg] at h1
  exact Int.le_of_mul_le_mul_left h1 g0
/-- a fraction with den a divisor of P, of size at most B -/
structure FrB (P B : Int) (p : P2) : Prop where
  d0 : 0 < p.2
  dv : p.2 ∣ P
  lo : -(B * p.2) ≤ p.1
  hi : p.1 ≤ B * p.2
  low : Int.gcd p.1 p.2 = 1
def addP (p q : P2) : P2 := ltm (p.1 * q.2 + q.1 * p.2) (p.2 * q.2)
def sclP (p : P2) (w : Int) : P2 := ltm (p.1 * w) p.2
theorem mul_le4 {a b c d : Int} (h1 : -(c * d) ≤ a) (h2 : a ≤ c * d) (hb : 0 < b) : -(c * (d * b)) ≤ a * b ∧ a * b ≤ c * (d * b) := by
  have e : c * (d * b) = (c * d) * b := by rw [Int.mul_assoc]
  rw [e, ← Int.neg_mul]
  exact ⟨Int.mul_le_mul_of_nonneg_right h1 (by omega), Int.mul_le_mul_of_nonneg_right h2 (by omega)⟩
theorem FrB.add {P B C : Int} {p q : P2} (x : FrB P B p) (y : FrB P C q) : FrB P (B + C) (addP p q) := by
  have hb : 0 < p.2 * q.2 := Int.mul_pos x.d0 y.d0
  obtain ⟨u, hu⟩ := x.dv
  obtain ⟨v, hv⟩ := y.dv
  obtain ⟨g, g0, e1, e2, h3, h4⟩ := ltm_eq (a := p.1 * q.2 + q.1 * p.2) hb
  have b1 := mul_le4 x.lo x.hi y.d0
  have b2 := mul_le4 y.lo y.hi x.d0
  have e3 : (B + C) * (p.2 * q.2) = B * (p.2 * q.2) + C * (q.2 * p.2) := by rw [Int.add_mul, Int.mul_comm p.2 q.2]
  have b3 := ltm_bound (B := B + C) (a := p.1 * q.2 + q.1 * p.2) hb (by rw [e3]; omega) (by rw [e3]; omega)
  refine ⟨h3, ltm_dvd (z := p.1 * u + q.1 * v) hb ?_, b3.1, b3.2, h4⟩
  have f1 : p.1 * q.2 * P = p.1 * u * (p.2 * q.2) := by
    rw [hu]
    simp only [Int.mul_assoc, Int.mul_left_comm, Int.mul_comm]
  have f2 : q.1 * p.2 * P = q.1 * v * (p.2 * q.2) := by
    rw [hv]
    simp only [Int.mul_assoc, Int.mul_left_comm, Int.mul_comm]
  rw [Int.add_mul, Int.add_mul, f1, f2]
theorem FrB.scl {P B w : Int} {p : P2} (hB : 0 ≤ B) (x : FrB P B p) (h1 : -100 ≤ w) (h2 : w ≤ 100) : FrB P (100 * B) (sclP p w) := by
  obtain ⟨g, g0, e1, e2, h3, h4⟩ := ltm_eq (a := p.1 * w) x.d0
  have hd : 0 ≤ B * p.2 := Int.mul_nonneg hB (by have := x.d0; omega)
  have b0 : -(100 * B * p.2) ≤ p.1 * w ∧ p.1 * w ≤ 100 * B * p.2 := by
    have hx := x.lo
    have hy := x.hi
    rw [Int.mul_assoc]
    generalize B * p.2 = t at hd hx hy ⊢
    have k1 : (p.1 * w).natAbs ≤ t.natAbs * 100 := by
      rw [Int.natAbs_mul]
      exact Nat.mul_le_mul (by omega) (by omega)
    have e : ((t.natAbs * 100 : Nat) : Int) = 100 * t := by omega
    omega
  have b3 := ltm_bound (B := 100 * B) x.d0 b0.1 b0.2
  refine ⟨h3, ?_, b3.1, b3.2, h4⟩
  have : (ltm (p.1 * w) p.2).2 ∣ p.2 := ⟨g, by rw [Int.mul_comm]; exact e2⟩
  exact Int.dvd_trans this x.dv
theorem FrB.fin {P B m : Int} {p : P2} (hB : 0 ≤ B) (x : FrB P B p) (hm : 1 ≤ m) : FrB (P * m) B (ltm p.1 (p.2 * m)) := by
  have hb : 0 < p.2 * m := Int.mul_pos x.d0 (by omega)
  obtain ⟨g, g0, e1, e2, h3, h4⟩ := ltm_eq (a := p.1) hb
  have hd : 0 ≤ B * p.2 := Int.mul_nonneg hB (by have := x.d0; omega)
  have b0 : -(B * (p.2 * m)) ≤ p.1 ∧ p.1 ≤ B * (p.2 * m) := by
    have hx := x.lo
    have hy := x.hi
    rw [← Int.mul_assoc]
    have : B * p.2 * 1 ≤ B * p.2 * m := Int.mul_le_mul_of_nonneg_left hm hd
    omega
  have b3 := ltm_bound hb b0.1 b0.2
  obtain ⟨u, hu⟩ := x.dv
  refine ⟨h3, ltm_dvd (z := p.1 * u) hb ?_, b3.1, b3.2, h4⟩
  rw [hu]
  simp only [Int.mul_assoc, Int.mul_left_comm, Int.mul_comm]
theorem FrB.mono {P P' B B' : Int} {p : P2} (x : FrB P B p) (h : P ∣ P') (hB : B ≤ B') : FrB P' B' p := by
  have hd : B * p.2 ≤ B' * p.2 := Int.mul_le_mul_of_nonneg_right hB (by have := x.d0; omega)
  have := x.lo
  have := x.hi
  exact ⟨x.d0, Int.dvd_trans x.dv h, by omega, by omega, x.low⟩
theorem FrB.zero {P B : Int} (hB : 0 ≤ B) : FrB P B (0, 1) := ⟨by decide, Int.one_dvd P, by dsimp only; omega, by dsimp only; omega, by decide⟩
theorem FrB.one {P B : Int} (hB : 1 ≤ B) : FrB P B (1, 1) := ⟨by decide, Int.one_dvd P, by dsimp only; omega, by dsimp only; omega, by decide⟩
end Z54
namespace Z54
open PySem PySem.Spec PyProof.Rows L2 Z
def FrOk (p : P2) : Prop := 0 < p.2 ∧ p.2 ≤ 10 ^ 30 ∧ -(10 ^ 80) ≤ p.1 ∧ p.1 ≤ 10 ^ 80
theorem log_lt {a : Int} (h : a.natAbs < 2 ^ 400) : a.natAbs.log2 < 400 := by
  by_cases h0 : a.natAbs = 0
  · rw [h0]; decide
  · exact (Nat.log2_lt h0).mpr h
theorem big80 : (10 : Nat) ^ 80 < 2 ^ 300 := by decide
theorem mulOk {a b : Int} (h1 : -(10 ^ 80) ≤ a) (h2 : a ≤ 10 ^ 80) (h3 : -(10 ^ 80) ≤ b) (h4 : b ≤ 10 ^ 80) : MulOk a b := by
  have e : ∀ x : Int, -(10 ^ 80) ≤ x → x ≤ 10 ^ 80 → x.natAbs.log2 < 400 := fun x q1 q2 => by
    refine log_lt ?_
    have : x.natAbs ≤ 10 ^ 80 := by
      have e1 : ((10 ^ 80 : Nat) : Int) = 10 ^ 80 := by simp
      omega
    exact Nat.lt_of_le_of_lt this (Nat.lt_trans big80 (Nat.pow_lt_pow_right (by decide) (by decide)))
  have := e a h1 h2
  have := e b h3 h4
  exact .inr (by unfold CMulW; omega)
abbrev N_added : List Str := ["one", "other"]
def r_added : ZTS := (zRet (zCall sp_lowest_terms (zCons (zOp (zAdd false) (zOp (zMul false) (zOp zIx (zVar 0) (zC (.int 0))) (zOp zIx (zVar 1) (zC (.int 1)))) (zOp (zMul false) (zOp zIx (zVar 1) (zC (.int 0))) (zOp zIx (zVar 0) (zC (.int 1))))) (zCons (zOp (zMul false) (zOp zIx (zVar 0) (zC (.int 1))) (zOp zIx (zVar 1) (zC (.int 1)))) zNil))))
def sp_added : ZSp := fun ds h Q _ => ∃ p q : P2, ds = [pD p, pD q] ∧ FrOk p ∧ FrOk q ∧ Q (pD (addP p q)) h
theorem len_added : ∀ ds h Q E, sp_added ds h Q E → ds.length = 2 := fun ds h Q E ⟨a, b, e, _⟩ => by rw [e]; rfl
theorem at20 {α : Type} (a b : α) : atI [a, b] 0 = some a := rfl
theorem at21 {α : Type} (a b : α) : atI [a, b] 1 = some b := rfl
theorem mul30 {a b : Int} (h1 : 0 < a) (h2 : a ≤ 10 ^ 30) (h3 : 0 < b) (h4 : b ≤ 10 ^ 30) : 0 < a * b ∧ a * b < 2 ^ 250 := by
  refine ⟨Int.mul_pos h1 h3, ?_⟩
  have : a * b ≤ 10 ^ 30 * 10 ^ 30 := Int.mul_le_mul h2 h4 (by omega) (by decide)
  exact Int.lt_of_le_of_lt this (by decide)
theorem pure_added : ∀ ds h Q0 E0, sp_added ds h Q0 E0 → WfH h → D.cls h.length ds = true → r_added (EndOk h Q0) (zstart N_added ds) h := fun ds h Q E ⟨⟨a, b⟩, ⟨c, d⟩, e, ⟨h1, h2, h3, h4⟩, ⟨h5, h6, h7, h8⟩, z⟩ hw hc => by
  subst e
  dsimp only at h1 h2 h3 h4 h5 h6 h7 h8
  show r_added (EndOk h Q) [some (pD (a, b)), some (pD (c, d))] h
  unfold r_added pD
  simp only [zSeq, zAsg, zRet, zRetN, zIfS, zNext, zDrop, zBreak, zCont, zVar, zC, zOp, zUn, zName, zgTup, zgCons, zgNil, zgSub, zAug, zAugS, zPar, zPar3, zAndV, zOrV, zNotV, zTest, zTestE, zAnd, zOr, zNot, zIf, zCh, zCB, zCall, zCKw, zCons, zNil, zTup, zLst, newL, newDK, zIx, zLe, zLt, zGt, zGe, zNe_ii, zEq_ii, zIsN, zNotN, zIn, zNotIn, zInB, zSub, zMod, zFdiv, zPow, zMul, zAdd, zNeg, zI2, zI2C, zLen, zIsi, zTuple, zTupleF, zList, zAbs, zInt1, zDivmod, zMin2, zSet, zGet, zSl, zSlV, zPart, zNoPart, zTix, zBM, zAppend, isL, tyName, kit_tt, kit_ii, kit_ib, sqR, lsR, lsM, dkM, dtM, dLook, Z.keyOf, frS, ziSeq, ziEnum, ziR1, ziR2, ziR3, zFor, zLC, zDC, zYes, zwipe, zDisp, zPairs, zmerge, zSortR3, zSortedI, zSortedDI, zDictOf, List.getElem?_cons_zero, List.getElem?_cons_succ, List.set_cons_zero, List.set_cons_succ, List.length_cons, List.length_nil, List.map_cons, List.map_nil, List.length_map, Bool.not_true, Bool.not_false, decide_true, decide_false, at20, at21]
  have m := mul30 h1 h2 h5 h6
  refine ⟨mulOk h3 h4 (by omega) (by omega), mulOk h7 h8 (by omega) (by omega), mulOk (by omega) (by omega) (by omega) (by omega), _, _, rfl, m.1, m.2, ?_⟩
  exact Exit.same0 hw rfl z
abbrev N_scaled : List Str := ["fraction", "factor"]
def r_scaled : ZTS := (zRet (zCall sp_lowest_terms (zCons (zOp (zMul false) (zOp zIx (zVar 0) (zC (.int 0))) (zVar 1)) (zCons (zOp zIx (zVar 0) (zC (.int 1))) zNil))))
def sp_scaled : ZSp := fun ds h Q _ => ∃ (p : P2) (w : Int), ds = [pD p, .int w] ∧ FrOk p ∧ -100 ≤ w ∧ w ≤ 100 ∧ Q (pD (sclP p w)) h
theorem len_scaled : ∀ ds h Q E, sp_scaled ds h Q E → ds.length = 2 := fun ds h Q E ⟨a, b, e, _⟩ => by rw [e]; rfl
theorem pure_scaled : ∀ ds h Q0 E0, sp_scaled ds h Q0 E0 → WfH h → D.cls h.length ds = true → r_scaled (EndOk h Q0) (zstart N_scaled ds) h := fun ds h Q E ⟨⟨a, b⟩, w, e, ⟨h1, h2, h3, h4⟩, h5, h6, z⟩ hw hc => by
  subst e
  dsimp only at h1 h2 h3 h4
  show r_scaled (EndOk h Q) [some (pD (a, b)), some (.int w)] h
  unfold r_scaled pD
  simp only [zSeq, zAsg, zRet, zRetN, zIfS, zNext, zDrop, zBreak, zCont, zVar, zC, zOp, zUn, zName, zgTup, zgCons, zgNil, zgSub, zAug, zAugS, zPar, zPar3, zAndV, zOrV, zNotV, zTest, zTestE, zAnd, zOr, zNot, zIf, zCh, zCB, zCall, zCKw, zCons, zNil, zTup, zLst, newL, newDK, zIx, zLe, zLt, zGt, zGe, zNe_ii, zEq_ii, zIsN, zNotN, zIn, zNotIn, zInB, zSub, zMod, zFdiv, zPow, zMul, zAdd, zNeg, zI2, zI2C, zLen, zIsi, zTuple, zTupleF, zList, zAbs, zInt1, zDivmod, zMin2, zSet, zGet, zSl, zSlV, zPart, zNoPart, zTix, zBM, zAppend, isL, tyName, kit_tt, kit_ii, kit_ib, sqR, lsR, lsM, dkM, dtM, dLook, Z.keyOf, frS, ziSeq, ziEnum, ziR1, ziR2, ziR3, zFor, zLC, zDC, zYes, zwipe, zDisp, zPairs, zmerge, zSortR3, zSortedI, zSortedDI, zDictOf, List.getElem?_cons_zero, List.getElem?_cons_succ, List.set_cons_zero, List.set_cons_succ, List.length_cons, List.length_nil, List.map_cons, List.map_nil, List.length_map, Bool.not_true, Bool.not_false, decide_true, decide_false, at20, at21]
  refine ⟨mulOk h3 h4 (by omega) (by omega), _, _, rfl, h1, Int.lt_of_le_of_lt h2 (by decide), ?_⟩
  exact Exit.same0 hw rfl z
/-! ### the gains -/
def prodI : List Int → Int
  | [] => 1
  | m :: M => m * prodI M
theorem prodI_bd : ∀ {M : List Int}, (∀ m ∈ M, 2 ≤ m ∧ m ≤ 1000) → 1 ≤ prodI M ∧ prodI M ≤ 1000 ^ M.length
  | [], _ => by decide
  | m :: M, h => by
    have ih := prodI_bd fun z hz => h z (List.mem_cons_of_mem _ hz)
    have hm := h m List.mem_cons_self
    show 1 ≤ m * prodI M ∧ m * prodI M ≤ 1000 ^ (M.length + 1)
    have h1 : 1 * 1 ≤ m * prodI M := Int.mul_le_mul (by omega) ih.1 (by omega) (by omega)
    have h2 : m * prodI M ≤ 1000 * 1000 ^ M.length := Int.mul_le_mul hm.2 ih.2 (by omega) (by omega)
    rw [Int.pow_succ, Int.mul_comm (1000 ^ M.length)]
    omega
theorem pow_mono {a : Int} (ha : 1 ≤ a) : ∀ {i j : Nat}, i ≤ j → a ^ i ≤ a ^ j
  | i, 0, h => by
    have : i = 0 := by omega
    rw [this]; omega
  | i, j + 1, h => by
    by_cases e : i = j + 1
    · rw [e]; omega
    · have ih := pow_mono ha (show i ≤ j by omega)
      have hp : 0 ≤ a ^ j := Int.pow_nonneg (by omega)
      have : a ^ j * 1 ≤ a ^ j * a := Int.mul_le_mul_of_nonneg_left ha hp
      rw [Int.pow_succ]
      omega
theorem FrB.ok {P B : Int} {p : P2} (x : FrB P B p) (h1 : 0 < P) (h2 : P ≤ 10 ^ 30) (h3 : 0 ≤ B) (h4 : B ≤ 10 ^ 50) : FrOk p := by
  have hd : p.2 ≤ P := Int.le_of_dvd h1 x.dv
  have h0 := x.d0
  have hb : B * p.2 ≤ 10 ^ 50 * 10 ^ 30 := Int.mul_le_mul h4 (by omega) (by omega) (by decide)
  have := x.lo
  have := x.hi
  exact ⟨h0, by omega, by omega, by omega⟩
def totG (F : List P2) (k : Int) : List T3 → P2 → P2
  | [], t => t
  | w :: W, t => totG F k W (if w.1 = k then addP t (sclP (F.getD w.2.1.toNat (0, 1)) w.2.2) else t)
def gainG (M : List Int) (W : List T3) (c : Int) : Nat → List P2 → List P2
  | 0, F => F
  | k + 1, F => gainG M W c k (F.set k (ltm (totG F k W (if (k : Int) = c then 1 else 0, 1)).1 ((totG F k W (if (k : Int) = c then 1 else 0, 1)).2 * M.getD k 0)))
theorem getD2 {xs : List P2} {k : Nat} (h : k < xs.length) : xs[k]? = some (xs.getD k (0, 1)) := by
  rw [List.getD_eq_getElem?_getD, List.getElem?_eq_getElem h]; rfl
theorem totG_fr {P C : Int} {F : List P2} {k : Int} {n : Nat} (hC : 0 ≤ C) (hF : ∀ (i : Nat) (p : P2), F[i]? = some p → FrB P C p) (hl : F.length = n) : ∀ (W : List T3) (t : P2) (B : Int), (∀ w ∈ W, WOk n w) → FrB P B t → FrB P (B + W.length * (100 * C)) (totG F k W t)
  | [], t, B, hW, ht => ht.mono (Int.dvd_refl P) (by simp)
  | w :: W, t, B, hW, ht => by
    obtain ⟨g1, g2, g3, g4, g5, g6⟩ := hW _ List.mem_cons_self
    show FrB P _ (totG F k W _)
    have hf := hF w.2.1.toNat _ (getD2 (by omega))
    have h100 : 0 ≤ 100 * C := by omega
    have e : B + ((w :: W).length : Nat) * (100 * C) = (B + 100 * C) + (W.length : Nat) * (100 * C) := by
      rw [List.length_cons, Int.natCast_add, Int.add_mul]
      omega
    rw [e]
    refine totG_fr hC hF hl W _ _ (fun z hz => hW z (List.mem_cons_of_mem _ hz)) ?_
    split
    · exact ht.add (hf.scl hC g4 g5)
    · exact ht.mono (Int.dvd_refl P) (by omega)
end Z54
namespace Z54
open PySem PySem.Spec PyProof.Rows L2 Z
def dP (F : List P2) : D := .tup (F.map pD)
theorem cls_pD (k : Nat) (F : List P2) : D.cls k (F.map pD) = true := D.cls_map (fun _ => rfl) F
abbrev N_own_gains : List Str := ["net", "output", "moduli", "wires", "inputs", "found", "counter", "total", "source", "target", "weight"]
def lg1_own_gains : ZG := (zgTup 3 (zgCons (zName 8) (zgCons (zName 9) (zgCons (zName 10) zgNil))))
def lb1_own_gains : ZTS := (zIfS (zTest (zOp zEq (zVar 8) (zVar 6))) (zAsg (zCall sp_added (zCons (zVar 7) (zCons (zCall sp_scaled (zCons (zOp zIx (zVar 5) (zVar 9)) (zCons (zVar 10) zNil))) zNil))) (zName 7)) zNext)
def lg2_own_gains : ZG := (zName 6)
def lb2_own_gains : ZTS := (zSeq (zAsg (zTup (zCons (zCB zInt1 (zCons (zOp zEq (zVar 6) (zVar 1)) zNil)) (zCons (zC (.int 1)) zNil))) (zName 7)) (zSeq (zFor (ziSeq (zVar 3)) lg1_own_gains lb1_own_gains) (zAsg (zCall sp_lowest_terms (zCons (zOp zIx (zVar 7) (zC (.int 0))) (zCons (zOp (zMul false) (zOp zIx (zVar 7) (zC (.int 1))) (zOp zIx (zVar 2) (zVar 6))) zNil))) (zgSub (zVar 5) (zVar 6) zSet))))
def r_own_gains : ZTS := (zSeq (zAsg (zVar 0) (zgTup 3 (zgCons (zName 2) (zgCons (zName 3) (zgCons (zName 4) zgNil))))) (zSeq (zAsg (zOp (zMul true) (zLst false (zCons (zTup (zCons (zC (.int 0)) (zCons (zC (.int 1)) zNil))) zNil)) (zCB zLen (zCons (zVar 2) zNil))) (zName 5)) (zSeq (zFor (ziR3 (zCons (zOp zSub (zCB zLen (zCons (zVar 2) zNil)) (zC (.int 1))) (zCons (zUn zNeg (zC (.int 1))) (zCons (zUn zNeg (zC (.int 1))) zNil)))) lg2_own_gains lb2_own_gains) (zRet (zCB zTuple (zCons (zVar 5) zNil))))))
theorem loop_gain1 {E : ZEnds} {h : AH} {F : List P2} {k : Int} {n : Nat} {P C : Int} {a0 a1 a2 a3 a4 : Option D} (hF : ∀ (i : Nat) (p : P2), F[i]? = some p → FrB P C p) (hl : F.length = n) (hP : 0 < P) (hP2 : P ≤ 10 ^ 30) (hC : 0 ≤ C) :
    ∀ (W : List T3) (t : P2) (B : Int) (x y z : Option D), (∀ w ∈ W, WOk n w) → FrB P B t → 0 ≤ B → B + W.length * (100 * C) ≤ 10 ^ 50 →
    (∀ x y z, E.nx [a0, a1, a2, a3, a4, some (.obj h.length), some (.int k), some (pD (totG F k W t)), x, y, z] (h ++ [.lst (F.map pD)])) →
    zForL lg1_own_gains lb1_own_gains E (W.map wD) [a0, a1, a2, a3, a4, some (.obj h.length), some (.int k), some (pD t), x, y, z] (h ++ [.lst (F.map pD)])
  | [], t, B, x, y, z, hW, ht, hB, hb, q => q x y z
  | (u, v, w) :: W, t, B, x, y, z, hW, ht, hB, hb, q => by
    obtain ⟨g1, g2, g3, g4, g5, g6⟩ := hW _ List.mem_cons_self
    dsimp only at g1 g2 g3 g4 g5 g6
    have h100 : 0 ≤ 100 * C := by omega
    have hWC : 0 ≤ (W.length : Nat) * (100 * C) := Int.mul_nonneg (by omega) h100
    have e : B + ((u, v, w) :: W).length * (100 * C) = (B + 100 * C) + (W.length : Nat) * (100 * C) := by
      rw [List.length_cons, Int.natCast_add, Int.add_mul]
      omega
    rw [e] at hb
    have hf := hF v.toNat _ (getD2 (xs := F) (by omega))
    have hs := hf.scl hC g4 g5
    have nx := fun (t' : P2) (x y z : Option D) (ht' : FrB P (B + 100 * C) t') => loop_gain1 (E := E) (h := h) (k := k) (a0 := a0) (a1 := a1) (a2 := a2) (a3 := a3) (a4 := a4) hF hl hP hP2 hC W t' (B + 100 * C) x y z (fun z hz => hW z (List.mem_cons_of_mem _ hz)) ht' (by omega) hb
    rw [List.map_cons, zForL_cons]
    generalize zForL _ _ E _ = Kx at nx ⊢
    have q' : ∀ x y z, E.nx [a0, a1, a2, a3, a4, some (.obj h.length), some (.int k), some (pD (totG F k W (if u = k then addP t (sclP (F.getD v.toNat (0, 1)) w) else t))), x, y, z] (h ++ [.lst (F.map pD)]) := q
    simp only [zSeq, zAsg, zRet, zRetN, zIfS, zNext, zDrop, zBreak, zCont, zVar, zC, zOp, zUn, zName, zgTup, zgCons, zgNil, zgSub, zAug, zAugS, zPar, zPar3, zAndV, zOrV, zNotV, zTest, zTestE, zAnd, zOr, zNot, zIf, zCh, zCB, zCall, zCKw, zCons, zNil, zTup, zLst, newL, newDK, zIx, zLe, zLt, zGt, zGe, zNe_ii, zEq_ii, zIsN, zNotN, zIn, zNotIn, zInB, zSub, zMod, zFdiv, zPow, zMul, zAdd, zNeg, zI2, zI2C, zLen, zIsi, zTuple, zTupleF, zList, zAbs, zInt1, zDivmod, zMin2, zSet, zGet, zSl, zSlV, zPart, zNoPart, zTix, zBM, zAppend, isL, tyName, kit_tt, kit_ii, kit_ib, sqR, lsR, lsM, dkM, dtM, dLook, Z.keyOf, frS, ziSeq, ziEnum, ziR1, ziR2, ziR3, zFor, zLC, zDC, zYes, zwipe, zDisp, zPairs, zmerge, zSortR3, zSortedI, zSortedDI, zDictOf, List.getElem?_cons_zero, List.getElem?_cons_succ, List.set_cons_zero, List.set_cons_succ, List.length_cons, List.length_nil, List.map_cons, List.map_nil, List.length_map, Bool.not_true, Bool.not_false, decide_true, decide_false, lg1_own_gains, lb1_own_gains, wD]
    refine ⟨trivial, ?_⟩
    by_cases hk : u = k
    · rw [decide_eq_true hk]
      rw [if_pos hk] at q'
      simp only [zSeq, zAsg, zRet, zRetN, zIfS, zNext, zDrop, zBreak, zCont, zVar, zC, zOp, zUn, zName, zgTup, zgCons, zgNil, zgSub, zAug, zAugS, zPar, zPar3, zAndV, zOrV, zNotV, zTest, zTestE, zAnd, zOr, zNot, zIf, zCh, zCB, zCall, zCKw, zCons, zNil, zTup, zLst, newL, newDK, zIx, zLe, zLt, zGt, zGe, zNe_ii, zEq_ii, zIsN, zNotN, zIn, zNotIn, zInB, zSub, zMod, zFdiv, zPow, zMul, zAdd, zNeg, zI2, zI2C, zLen, zIsi, zTuple, zTupleF, zList, zAbs, zInt1, zDivmod, zMin2, zSet, zGet, zSl, zSlV, zPart, zNoPart, zTix, zBM, zAppend, isL, tyName, kit_tt, kit_ii, kit_ib, sqR, lsR, lsM, dkM, dtM, dLook, Z.keyOf, frS, ziSeq, ziEnum, ziR1, ziR2, ziR3, zFor, zLC, zDC, zYes, zwipe, zDisp, zPairs, zmerge, zSortR3, zSortedI, zSortedDI, zDictOf, List.getElem?_cons_zero, List.getElem?_cons_succ, List.set_cons_zero, List.set_cons_succ, List.length_cons, List.length_nil, List.map_cons, List.map_nil, List.length_map, Bool.not_true, Bool.not_false, decide_true, decide_false, tail_get0]
      rw [atZ (by omega) (map_get (getD2 (xs := F) (k := v.toNat) (by omega)))]
      simp only [zSeq, zAsg, zRet, zRetN, zIfS, zNext, zDrop, zBreak, zCont, zVar, zC, zOp, zUn, zName, zgTup, zgCons, zgNil, zgSub, zAug, zAugS, zPar, zPar3, zAndV, zOrV, zNotV, zTest, zTestE, zAnd, zOr, zNot, zIf, zCh, zCB, zCall, zCKw, zCons, zNil, zTup, zLst, newL, newDK, zIx, zLe, zLt, zGt, zGe, zNe_ii, zEq_ii, zIsN, zNotN, zIn, zNotIn, zInB, zSub, zMod, zFdiv, zPow, zMul, zAdd, zNeg, zI2, zI2C, zLen, zIsi, zTuple, zTupleF, zList, zAbs, zInt1, zDivmod, zMin2, zSet, zGet, zSl, zSlV, zPart, zNoPart, zTix, zBM, zAppend, isL, tyName, kit_tt, kit_ii, kit_ib, sqR, lsR, lsM, dkM, dtM, dLook, Z.keyOf, frS, ziSeq, ziEnum, ziR1, ziR2, ziR3, zFor, zLC, zDC, zYes, zwipe, zDisp, zPairs, zmerge, zSortR3, zSortedI, zSortedDI, zDictOf, List.getElem?_cons_zero, List.getElem?_cons_succ, List.set_cons_zero, List.set_cons_succ, List.length_cons, List.length_nil, List.map_cons, List.map_nil, List.length_map, Bool.not_true, Bool.not_false, decide_true, decide_false]
      refine ⟨_, w, rfl, hf.ok hP hP2 hC (by omega), g4, g5, ?_⟩
      simp only [zSeq, zAsg, zRet, zRetN, zIfS, zNext, zDrop, zBreak, zCont, zVar, zC, zOp, zUn, zName, zgTup, zgCons, zgNil, zgSub, zAug, zAugS, zPar, zPar3, zAndV, zOrV, zNotV, zTest, zTestE, zAnd, zOr, zNot, zIf, zCh, zCB, zCall, zCKw, zCons, zNil, zTup, zLst, newL, newDK, zIx, zLe, zLt, zGt, zGe, zNe_ii, zEq_ii, zIsN, zNotN, zIn, zNotIn, zInB, zSub, zMod, zFdiv, zPow, zMul, zAdd, zNeg, zI2, zI2C, zLen, zIsi, zTuple, zTupleF, zList, zAbs, zInt1, zDivmod, zMin2, zSet, zGet, zSl, zSlV, zPart, zNoPart, zTix, zBM, zAppend, isL, tyName, kit_tt, kit_ii, kit_ib, sqR, lsR, lsM, dkM, dtM, dLook, Z.keyOf, frS, ziSeq, ziEnum, ziR1, ziR2, ziR3, zFor, zLC, zDC, zYes, zwipe, zDisp, zPairs, zmerge, zSortR3, zSortedI, zSortedDI, zDictOf, List.getElem?_cons_zero, List.getElem?_cons_succ, List.set_cons_zero, List.set_cons_succ, List.length_cons, List.length_nil, List.map_cons, List.map_nil, List.length_map, Bool.not_true, Bool.not_false, decide_true, decide_false]
      refine ⟨t, _, rfl, ht.ok hP hP2 hB (by omega), hs.ok hP hP2 h100 (by omega), ?_⟩
      exact nx _ _ _ _ (ht.add hs) q'
    · rw [decide_eq_false hk]
      rw [if_neg hk] at q'
      exact nx _ _ _ _ (ht.mono (Int.dvd_refl P) (by omega)) q'
structure GInv (M : List Int) (k : Nat) (F : List P2) : Prop where
  len : F.length = M.length
  fr : ∀ (i : Nat) (p : P2), F[i]? = some p → FrB (prodI (M.drop k)) (10001 ^ (M.length - k)) p
theorem GInv.start (M : List Int) : GInv M M.length (List.replicate M.length (0, 1)) := ⟨by simp, fun i p e => by
  have := List.mem_of_getElem? e
  rw [List.mem_replicate] at this
  rw [this.2]
  exact FrB.zero (Int.pow_nonneg (by omega))⟩
theorem drop_bd {M : List Int} (hM : ∀ m ∈ M, 2 ≤ m ∧ m ≤ 1000) (hl : M.length ≤ 10) (k : Nat) : 1 ≤ prodI (M.drop k) ∧ prodI (M.drop k) ≤ 10 ^ 30 := by
  have h := prodI_bd (M := M.drop k) fun m hm => hM m (List.mem_of_mem_drop hm)
  have h2 : (1000 : Int) ^ (M.drop k).length ≤ 1000 ^ 10 := pow_mono (by omega) (by rw [List.length_drop]; omega)
  have h3 : (1000 : Int) ^ 10 = 10 ^ 30 := by decide
  omega
theorem BB_bd {n k : Nat} (h : n ≤ 10) : (1 : Int) ≤ 10001 ^ (n - k) ∧ (10001 : Int) ^ (n - k) ≤ 10 ^ 41 := by
  have h1 : (10001 : Int) ^ 0 ≤ 10001 ^ (n - k) := pow_mono (by omega) (Nat.zero_le _)
  have h2 : (10001 : Int) ^ (n - k) ≤ 10001 ^ 10 := pow_mono (by omega) (by omega)
  have h3 : (10001 : Int) ^ 10 ≤ 10 ^ 41 := by decide
  exact ⟨by rw [Int.pow_zero] at h1; exact h1, by omega⟩
theorem t0_fr {P : Int} {c : Prop} [Decidable c] : FrB P 1 (if c then 1 else 0, 1) := by
  split
  · exact FrB.one (by omega)
  · exact FrB.zero (by omega)
theorem GInv.tot {M : List Int} {W : List T3} {k : Nat} {F : List P2} {c : Prop} [Decidable c] (g : GInv M (k + 1) F) (hW : ∀ w ∈ W, WOk M.length w) : FrB (prodI (M.drop (k + 1))) (1 + W.length * (100 * 10001 ^ (M.length - (k + 1)))) (totG F k W (if c then 1 else 0, 1)) :=
  totG_fr (Int.pow_nonneg (by omega)) g.fr g.len W _ 1 hW t0_fr
theorem GInv.next {M : List Int} {W : List T3} {k : Nat} {F : List P2} {c : Prop} [Decidable c] (g : GInv M (k + 1) F) (hk : k < M.length) (hM : ∀ m ∈ M, 2 ≤ m ∧ m ≤ 1000) (hW : ∀ w ∈ W, WOk M.length w) (hl : W.length ≤ 100) :
    GInv M k (F.set k (ltm (totG F k W (if c then 1 else 0, 1)).1 ((totG F k W (if c then 1 else 0, 1)).2 * M.getD k 0))) := by
  have em : M.drop k = M.getD k 0 :: M.drop (k + 1) := by
    rw [List.drop_eq_getElem_cons hk]
    congr 1
    have := getD_of hk
    rw [List.getElem?_eq_getElem hk] at this
    exact Option.some.inj this
  have hm : 2 ≤ M.getD k 0 ∧ M.getD k 0 ≤ 1000 := hM _ (List.mem_of_getElem? (getD_of hk))
  have ep : prodI (M.drop k) = prodI (M.drop (k + 1)) * M.getD k 0 := by
    rw [em]
    show M.getD k 0 * prodI (M.drop (k + 1)) = _
    rw [Int.mul_comm]
  have eb : (10001 : Int) ^ (M.length - k) = 10001 ^ (M.length - (k + 1)) * 10001 := by
    rw [show M.length - k = (M.length - (k + 1)) + 1 by omega, Int.pow_succ]
  have hp : (1 : Int) ≤ 10001 ^ (M.length - (k + 1)) := by
    have h1 : (10001 : Int) ^ 0 ≤ 10001 ^ (M.length - (k + 1)) := pow_mono (by omega) (Nat.zero_le _)
    rw [Int.pow_zero] at h1
    exact h1
  have ht := g.tot (c := c) hW
  have gf := g.fr
  generalize (10001 : Int) ^ (M.length - (k + 1)) = C at *
  have hb : 1 + (W.length : Nat) * (100 * C) ≤ C * 10001 := by
    have : ((W.length : Nat) : Int) * (100 * C) ≤ 100 * (100 * C) := Int.mul_le_mul_of_nonneg_right (by omega) (by omega)
    omega
  have hb0 : 0 ≤ ((W.length : Nat) : Int) * (100 * C) := Int.mul_nonneg (by omega) (by omega)
  refine ⟨by rw [List.length_set]; exact g.len, fun i p e => ?_⟩
  rw [ep, eb]
  rw [List.getElem?_set] at e
  split at e
  · split at e
    · have e := Option.some.inj e
      rw [← e]
      exact (ht.fin (by omega) (by omega)).mono (Int.dvd_refl _) hb
    · cases e
  · exact (gf i p e).mono ⟨_, rfl⟩ (by omega)
theorem loop_gain2 {E : ZEnds} {h : AH} {M : List Int} {W : List T3} {c : Int} {a0 a4 : Option D} (hM : ∀ m ∈ M, 2 ≤ m ∧ m ≤ 1000) (hn : M.length ≤ 10) (hW : ∀ w ∈ W, WOk M.length w) (hl : W.length ≤ 100) :
    ∀ (k : Nat) (F : List P2) (s6 s7 s8 s9 s10 : Option D), k ≤ M.length → GInv M k F → (∀ t, E.nx (a0 :: some (.int c) :: some (dI M) :: some (dW W) :: a4 :: some (.obj h.length) :: t) (h ++ [.lst ((gainG M W c k F).map pD)])) →
    zForL lg2_own_gains lb2_own_gains E (zrange (-1) ((k : Int) - 1) k) [a0, some (.int c), some (dI M), some (dW W), a4, some (.obj h.length), s6, s7, s8, s9, s10] (h ++ [.lst (F.map pD)])
  | 0, F, s6, s7, s8, s9, s10, hk, g, q => q _
  | k + 1, F, s6, s7, s8, s9, s10, hk, g, q => by
    have nx := fun (F' : List P2) (s6 s7 s8 s9 s10 : Option D) (g' : GInv M k F') => loop_gain2 (E := E) (h := h) (a0 := a0) (a4 := a4) (c := c) hM hn hW hl k F' s6 s7 s8 s9 s10 (by omega) g'
    have er : zrange (-1) (((k + 1 : Nat) : Int) - 1) (k + 1) = .int (k : Nat) :: zrange (-1) ((k : Int) - 1) k := by
      show D.int (((k + 1 : Nat) : Int) - 1) :: zrange (-1) ((((k + 1 : Nat) : Int) - 1) + -1) k = _
      rw [show ((k + 1 : Nat) : Int) - 1 = (k : Nat) by omega]
      rfl
    rw [er, zForL_cons]
    generalize zForL _ _ E _ = Kx at nx ⊢
    have hp := drop_bd hM hn (k + 1)
    have hb := BB_bd (k := k + 1) hn
    have g2 := fun (c : Prop) [Decidable c] => g.next (W := W) (c := c) (by omega) hM hW hl
    have gt := fun (c : Prop) [Decidable c] => g.tot (W := W) (c := c) hW
    have hf := g.fr
    have hlen := g.len
    generalize (10001 : Int) ^ (M.length - (k + 1)) = C at hb gt hf
    have hWC : ((W.length : Nat) : Int) * (100 * C) ≤ 100 * (100 * C) := Int.mul_le_mul_of_nonneg_right (by omega) (by omega)
    have hWC0 : 0 ≤ ((W.length : Nat) : Int) * (100 * C) := Int.mul_nonneg (by omega) (by omega)
    have hm : 2 ≤ M.getD k 0 ∧ M.getD k 0 ≤ 1000 := hM _ (List.mem_of_getElem? (getD_of (by omega)))
    have hsl := sizeLine_eq
    have ei : (match [D.bl (decide (((k : Nat) : Int) = c))] with | [.bl true] => D.int 1 | _ => D.int 0) = D.int (if ((k : Nat) : Int) = c then 1 else 0) := by
      by_cases e : ((k : Nat) : Int) = c <;> simp [e]
    have key : zForL lg1_own_gains lb1_own_gains { nx := fun zs h' => (zAsg (zCall sp_lowest_terms (zCons (zOp zIx (zVar 7) (zC (.int 0))) (zCons (zOp (zMul false) (zOp zIx (zVar 7) (zC (.int 1))) (zOp zIx (zVar 2) (zVar 6))) zNil))) (zgSub (zVar 5) (zVar 6) zSet)) { nx := Kx, rt := E.rt, bk := E.nx, ct := Kx } zs h', rt := E.rt, bk := E.nx, ct := Kx } (W.map wD) [a0, some (.int c), some (dI M), some (dW W), a4, some (.obj h.length), some (.int (k : Nat)), some (pD (if ((k : Nat) : Int) = c then 1 else 0, 1)), s8, s9, s10] (h ++ [.lst (F.map pD)]) := by
      refine loop_gain1 (n := M.length) hf hlen (by omega) hp.2 (by omega) W _ 1 _ _ _ hW t0_fr (by omega) (by omega) fun x y z => ?_
      have q' := q
      have ht := gt (((k : Nat) : Int) = c)
      have ho := ht.ok (by omega) hp.2 (by omega) (by omega)
      have gn := g2 (((k : Nat) : Int) = c)
      have q2 : ∀ t, E.nx (a0 :: some (.int c) :: some (dI M) :: some (dW W) :: a4 :: some (.obj h.length) :: t) (h ++ [.lst ((gainG M W c k (F.set k (ltm (totG F k W (if ((k : Nat) : Int) = c then 1 else 0, 1)).1 ((totG F k W (if ((k : Nat) : Int) = c then 1 else 0, 1)).2 * M.getD k 0)))).map pD)]) := q
      generalize totG F k W (if ((k : Nat) : Int) = c then 1 else 0, 1) = t at ho gn q2 ⊢
      obtain ⟨o1, o2, o3, o4⟩ := ho
      unfold pD dI
      simp only [zSeq, zAsg, zRet, zRetN, zIfS, zNext, zDrop, zBreak, zCont, zVar, zC, zOp, zUn, zName, zgTup, zgCons, zgNil, zgSub, zAug, zAugS, zPar, zPar3, zAndV, zOrV, zNotV, zTest, zTestE, zAnd, zOr, zNot, zIf, zCh, zCB, zCall, zCKw, zCons, zNil, zTup, zLst, newL, newDK, zIx, zLe, zLt, zGt, zGe, zNe_ii, zEq_ii, zIsN, zNotN, zIn, zNotIn, zInB, zSub, zMod, zFdiv, zPow, zMul, zAdd, zNeg, zI2, zI2C, zLen, zIsi, zTuple, zTupleF, zList, zAbs, zInt1, zDivmod, zMin2, zSet, zGet, zSl, zSlV, zPart, zNoPart, zTix, zBM, zAppend, isL, tyName, kit_tt, kit_ii, kit_ib, sqR, lsR, lsM, dkM, dtM, dLook, Z.keyOf, frS, ziSeq, ziEnum, ziR1, ziR2, ziR3, zFor, zLC, zDC, zYes, zwipe, zDisp, zPairs, zmerge, zSortR3, zSortedI, zSortedDI, zDictOf, List.getElem?_cons_zero, List.getElem?_cons_succ, List.set_cons_zero, List.set_cons_succ, List.length_cons, List.length_nil, List.map_cons, List.map_nil, List.length_map, Bool.not_true, Bool.not_false, decide_true, decide_false, at20, at21]
      rw [atN (map_get (getD_of (xs := M) (k := k) (by omega)))]
      simp only [zSeq, zAsg, zRet, zRetN, zIfS, zNext, zDrop, zBreak, zCont, zVar, zC, zOp, zUn, zName, zgTup, zgCons, zgNil, zgSub, zAug, zAugS, zPar, zPar3, zAndV, zOrV, zNotV, zTest, zTestE, zAnd, zOr, zNot, zIf, zCh, zCB, zCall, zCKw, zCons, zNil, zTup, zLst, newL, newDK, zIx, zLe, zLt, zGt, zGe, zNe_ii, zEq_ii, zIsN, zNotN, zIn, zNotIn, zInB, zSub, zMod, zFdiv, zPow, zMul, zAdd, zNeg, zI2, zI2C, zLen, zIsi, zTuple, zTupleF, zList, zAbs, zInt1, zDivmod, zMin2, zSet, zGet, zSl, zSlV, zPart, zNoPart, zTix, zBM, zAppend, isL, tyName, kit_tt, kit_ii, kit_ib, sqR, lsR, lsM, dkM, dtM, dLook, Z.keyOf, frS, ziSeq, ziEnum, ziR1, ziR2, ziR3, zFor, zLC, zDC, zYes, zwipe, zDisp, zPairs, zmerge, zSortR3, zSortedI, zSortedDI, zDictOf, List.getElem?_cons_zero, List.getElem?_cons_succ, List.set_cons_zero, List.set_cons_succ, List.length_cons, List.length_nil, List.map_cons, List.map_nil, List.length_map, Bool.not_true, Bool.not_false, decide_true, decide_false]
      have hmm : 0 < t.2 * M.getD k 0 ∧ t.2 * M.getD k 0 < 2 ^ 250 := mul30 o1 o2 (by omega) (by omega)
      refine ⟨mulOk (by omega) (by omega) (by omega) (by omega), _, _, rfl, hmm.1, hmm.2, ?_⟩
      simp only [zSeq, zAsg, zRet, zRetN, zIfS, zNext, zDrop, zBreak, zCont, zVar, zC, zOp, zUn, zName, zgTup, zgCons, zgNil, zgSub, zAug, zAugS, zPar, zPar3, zAndV, zOrV, zNotV, zTest, zTestE, zAnd, zOr, zNot, zIf, zCh, zCB, zCall, zCKw, zCons, zNil, zTup, zLst, newL, newDK, zIx, zLe, zLt, zGt, zGe, zNe_ii, zEq_ii, zIsN, zNotN, zIn, zNotIn, zInB, zSub, zMod, zFdiv, zPow, zMul, zAdd, zNeg, zI2, zI2C, zLen, zIsi, zTuple, zTupleF, zList, zAbs, zInt1, zDivmod, zMin2, zSet, zGet, zSl, zSlV, zPart, zNoPart, zTix, zBM, zAppend, isL, tyName, kit_tt, kit_ii, kit_ib, sqR, lsR, lsM, dkM, dtM, dLook, Z.keyOf, frS, ziSeq, ziEnum, ziR1, ziR2, ziR3, zFor, zLC, zDC, zYes, zwipe, zDisp, zPairs, zmerge, zSortR3, zSortedI, zSortedDI, zDictOf, List.getElem?_cons_zero, List.getElem?_cons_succ, List.set_cons_zero, List.set_cons_succ, List.length_cons, List.length_nil, List.map_cons, List.map_nil, List.length_map, Bool.not_true, Bool.not_false, decide_true, decide_false, tail_get0, tail_set0]
      rw [ixN_ok (by omega) (by omega)]
      have e3 : (F.map pD).set (k : Int).toNat (pD (ltm t.1 (t.2 * M.getD k 0))) = (F.set k (ltm t.1 (t.2 * M.getD k 0))).map pD := by
        rw [List.map_set, Int.toNat_natCast]
      have nk := nx _ (some (.int (k : Nat))) (some (pD t)) x y z gn q2
      rw [← e3] at nk
      exact nk
    unfold lg2_own_gains lb2_own_gains
    by_cases e : ((k : Nat) : Int) = c
    · rw [if_pos e] at key
      unfold pD dI dW at key ⊢
      simp only [zSeq, zAsg, zRet, zRetN, zIfS, zNext, zDrop, zBreak, zCont, zVar, zC, zOp, zUn, zName, zgTup, zgCons, zgNil, zgSub, zAug, zAugS, zPar, zPar3, zAndV, zOrV, zNotV, zTest, zTestE, zAnd, zOr, zNot, zIf, zCh, zCB, zCall, zCKw, zCons, zNil, zTup, zLst, newL, newDK, zIx, zLe, zLt, zGt, zGe, zNe_ii, zEq_ii, zIsN, zNotN, zIn, zNotIn, zInB, zSub, zMod, zFdiv, zPow, zMul, zAdd, zNeg, zI2, zI2C, zLen, zIsi, zTuple, zTupleF, zList, zAbs, zInt1, zDivmod, zMin2, zSet, zGet, zSl, zSlV, zPart, zNoPart, zTix, zBM, zAppend, isL, tyName, kit_tt, kit_ii, kit_ib, sqR, lsR, lsM, dkM, dtM, dLook, Z.keyOf, frS, ziSeq, ziEnum, ziR1, ziR2, ziR3, zFor, zLC, zDC, zYes, zwipe, zDisp, zPairs, zmerge, zSortR3, zSortedI, zSortedDI, zDictOf, List.getElem?_cons_zero, List.getElem?_cons_succ, List.set_cons_zero, List.set_cons_succ, List.length_cons, List.length_nil, List.map_cons, List.map_nil, List.length_map, Bool.not_true, Bool.not_false, decide_true, decide_false]
      rw [decide_eq_true e]
      exact ⟨by omega, key⟩
    · rw [if_neg e] at key
      unfold pD dI dW at key ⊢
      simp only [zSeq, zAsg, zRet, zRetN, zIfS, zNext, zDrop, zBreak, zCont, zVar, zC, zOp, zUn, zName, zgTup, zgCons, zgNil, zgSub, zAug, zAugS, zPar, zPar3, zAndV, zOrV, zNotV, zTest, zTestE, zAnd, zOr, zNot, zIf, zCh, zCB, zCall, zCKw, zCons, zNil, zTup, zLst, newL, newDK, zIx, zLe, zLt, zGt, zGe, zNe_ii, zEq_ii, zIsN, zNotN, zIn, zNotIn, zInB, zSub, zMod, zFdiv, zPow, zMul, zAdd, zNeg, zI2, zI2C, zLen, zIsi, zTuple, zTupleF, zList, zAbs, zInt1, zDivmod, zMin2, zSet, zGet, zSl, zSlV, zPart, zNoPart, zTix, zBM, zAppend, isL, tyName, kit_tt, kit_ii, kit_ib, sqR, lsR, lsM, dkM, dtM, dLook, Z.keyOf, frS, ziSeq, ziEnum, ziR1, ziR2, ziR3, zFor, zLC, zDC, zYes, zwipe, zDisp, zPairs, zmerge, zSortR3, zSortedI, zSortedDI, zDictOf, List.getElem?_cons_zero, List.getElem?_cons_succ, List.set_cons_zero, List.set_cons_succ, List.length_cons, List.length_nil, List.map_cons, List.map_nil, List.length_map, Bool.not_true, Bool.not_false, decide_true, decide_false]
      rw [decide_eq_false e]
      exact ⟨by omega, key⟩
theorem flat_rep (n : Nat) (p : P2) : (List.replicate n [pD p]).flatten = (List.replicate n p).map pD := by
  induction n with
  | zero => rfl
  | succ n ih =>
    rw [List.replicate_succ, List.flatten_cons, ih, List.replicate_succ, List.map_cons]; rfl
def gainL (M : List Int) (W : List T3) (c : Int) : List P2 := gainG M W c M.length (List.replicate M.length (0, 1))
def sp_own_gains : ZSp := fun ds h Q _ => ∃ M W I c, ds = [netD M W I, .int c] ∧ Valid M W I ∧ Q (dP (gainL M W c)) h
theorem len_own_gains : ∀ ds h Q E, sp_own_gains ds h Q E → ds.length = 2 := fun ds h Q E ⟨M, W, I, c, e, _⟩ => by rw [e]; rfl
theorem pure_own_gains : ∀ ds h Q0 E0, sp_own_gains ds h Q0 E0 → WfH h → D.cls h.length ds = true → r_own_gains (EndOk h Q0) (zstart N_own_gains ds) h := fun ds h Q E ⟨M, W, I, c, e, V, z⟩ hw hc => by
  subst e
  have hsl := sizeLine_eq
  have hn := V.n2
  show r_own_gains (EndOk h Q) [some (netD M W I), some (.int c), none, none, none, none, none, none, none, none, none] h
  have lp := loop_gain2 (E := { nx := (zRet (zCB zTuple (zCons (zVar 5) zNil))) (EndOk h Q), rt := Exit h.length Q }) (h := h) (M := M) (W := W) (c := c) (a0 := some (netD M W I)) (a4 := some (dI I)) V.mo V.n2 V.wk V.wl M.length _ none none none none none (Nat.le_refl _) (GInv.start M) (fun t => by
    simp only [zSeq, zAsg, zRet, zRetN, zIfS, zNext, zDrop, zBreak, zCont, zVar, zC, zOp, zUn, zName, zgTup, zgCons, zgNil, zgSub, zAug, zAugS, zPar, zPar3, zAndV, zOrV, zNotV, zTest, zTestE, zAnd, zOr, zNot, zIf, zCh, zCB, zCall, zCKw, zCons, zNil, zTup, zLst, newL, newDK, zIx, zLe, zLt, zGt, zGe, zNe_ii, zEq_ii, zIsN, zNotN, zIn, zNotIn, zInB, zSub, zMod, zFdiv, zPow, zMul, zAdd, zNeg, zI2, zI2C, zLen, zIsi, zTuple, zTupleF, zList, zAbs, zInt1, zDivmod, zMin2, zSet, zGet, zSl, zSlV, zPart, zNoPart, zTix, zBM, zAppend, isL, tyName, kit_tt, kit_ii, kit_ib, sqR, lsR, lsM, dkM, dtM, dLook, Z.keyOf, frS, ziSeq, ziEnum, ziR1, ziR2, ziR3, zFor, zLC, zDC, zYes, zwipe, zDisp, zPairs, zmerge, zSortR3, zSortedI, zSortedDI, zDictOf, List.getElem?_cons_zero, List.getElem?_cons_succ, List.set_cons_zero, List.set_cons_succ, List.length_cons, List.length_nil, List.map_cons, List.map_nil, List.length_map, Bool.not_true, Bool.not_false, decide_true, decide_false, tail_get0]
    exact Exit.same hw (cls_pD _ _) z)
  rw [← flat_rep] at lp
  unfold r_own_gains
  unfold netD dI dW at lp ⊢
  unfold pD at lp
  simp only [zSeq, zAsg, zRet, zRetN, zIfS, zNext, zDrop, zBreak, zCont, zVar, zC, zOp, zUn, zName, zgTup, zgCons, zgNil, zgSub, zAug, zAugS, zPar, zPar3, zAndV, zOrV, zNotV, zTest, zTestE, zAnd, zOr, zNot, zIf, zCh, zCB, zCall, zCKw, zCons, zNil, zTup, zLst, newL, newDK, zIx, zLe, zLt, zGt, zGe, zNe_ii, zEq_ii, zIsN, zNotN, zIn, zNotIn, zInB, zSub, zMod, zFdiv, zPow, zMul, zAdd, zNeg, zI2, zI2C, zLen, zIsi, zTuple, zTupleF, zList, zAbs, zInt1, zDivmod, zMin2, zSet, zGet, zSl, zSlV, zPart, zNoPart, zTix, zBM, zAppend, isL, tyName, kit_tt, kit_ii, kit_ib, sqR, lsR, lsM, dkM, dtM, dLook, Z.keyOf, frS, ziSeq, ziEnum, ziR1, ziR2, ziR3, zFor, zLC, zDC, zYes, zwipe, zDisp, zPairs, zmerge, zSortR3, zSortedI, zSortedDI, zDictOf, List.getElem?_cons_zero, List.getElem?_cons_succ, List.set_cons_zero, List.set_cons_succ, List.length_cons, List.length_nil, List.map_cons, List.map_nil, List.length_map, Bool.not_true, Bool.not_false, decide_true, decide_false]
  refine ⟨trivial, by omega, by omega, by omega, by omega, by omega, ⟨by omega, by omega, by omega, by omega⟩, ?_⟩
  rw [show (((M.length : Nat) : Int) - 1 - -1).toNat = M.length by omega, Int.toNat_natCast]
  exact ⟨trivial, lp⟩
abbrev N_gains : List Str := ["net", "output"]
def r_gains : ZTS := (zSeq (zDrop (zCall sp_validate_net (zCons (zVar 0) zNil))) (zSeq (zDrop (zCall sp_require_counter (zCons (zVar 0) (zCons (zVar 1) zNil)))) (zRet (zCall sp_own_gains (zCons (zVar 0) (zCons (zVar 1) zNil))))))
def sp_gains : ZSp := fun ds h Q _ => ∃ M W I c, ds = [netD M W I, .int c] ∧ Valid M W I ∧ 0 ≤ c ∧ c < (M.length : Int) ∧ Q (dP (gainL M W c)) h
theorem len_gains : ∀ ds h Q E, sp_gains ds h Q E → ds.length = 2 := fun ds h Q E ⟨M, W, I, c, e, _⟩ => by rw [e]; rfl
theorem pure_gains : ∀ ds h Q0 E0, sp_gains ds h Q0 E0 → WfH h → D.cls h.length ds = true → r_gains (EndOk h Q0) (zstart N_gains ds) h := fun ds h Q E ⟨M, W, I, c, e, V, h1, h2, z⟩ hw hc => by
  subst e
  show r_gains (EndOk h Q) [some (netD M W I), some (.int c)] h
  unfold r_gains
  simp only [zSeq, zAsg, zRet, zRetN, zIfS, zNext, zDrop, zBreak, zCont, zVar, zC, zOp, zUn, zName, zgTup, zgCons, zgNil, zgSub, zAug, zAugS, zPar, zPar3, zAndV, zOrV, zNotV, zTest, zTestE, zAnd, zOr, zNot, zIf, zCh, zCB, zCall, zCKw, zCons, zNil, zTup, zLst, newL, newDK, zIx, zLe, zLt, zGt, zGe, zNe_ii, zEq_ii, zIsN, zNotN, zIn, zNotIn, zInB, zSub, zMod, zFdiv, zPow, zMul, zAdd, zNeg, zI2, zI2C, zLen, zIsi, zTuple, zTupleF, zList, zAbs, zInt1, zDivmod, zMin2, zSet, zGet, zSl, zSlV, zPart, zNoPart, zTix, zBM, zAppend, isL, tyName, kit_tt, kit_ii, kit_ib, sqR, lsR, lsM, dkM, dtM, dLook, Z.keyOf, frS, ziSeq, ziEnum, ziR1, ziR2, ziR3, zFor, zLC, zDC, zYes, zwipe, zDisp, zPairs, zmerge, zSortR3, zSortedI, zSortedDI, zDictOf, List.getElem?_cons_zero, List.getElem?_cons_succ, List.set_cons_zero, List.set_cons_succ, List.length_cons, List.length_nil, List.map_cons, List.map_nil, List.length_map, Bool.not_true, Bool.not_false, decide_true, decide_false]
  exact ⟨M, W, I, rfl, V, M, W, I, c, rfl, h1, h2, M, W, I, c, rfl, V, Exit.same0 hw (cls_pD _ _) z⟩
end Z54
/-! the counters that lead to one -/
namespace Z54
open PySem PySem.Spec PyProof.Rows L2 Z
inductive Lead (W : List T3) (c : Int) : Int → Prop
  | base : Lead W c c
  | step {w : T3} : w ∈ W → Lead W c w.2.1 → Lead W c w.1
def relK : List T3 → List Int → List Int
  | [], F => F
  | w :: W, F => relK W (if w.2.1 ∈ F then putI F w.1 else F)
theorem mem_putI {F : List Int} {x y : Int} : y ∈ putI F x ↔ y ∈ F ∨ y = x := by
  unfold putI
  split
  · rename_i h
    exact ⟨.inl, fun z => z.elim id fun e => e ▸ h⟩
  · rw [List.mem_append, List.mem_singleton]
theorem nodup_putI {F : List Int} {x : Int} (h : F.Nodup) : (putI F x).Nodup := by
  unfold putI
  split
  · exact h
  · rename_i n
    rw [List.nodup_append]
    exact ⟨h, by simp, fun a ha b hb e => n (by rw [List.mem_singleton.mp hb] at e; exact e ▸ ha)⟩
theorem relK_sub : ∀ (L : List T3) (F : List Int), ∀ x ∈ F, x ∈ relK L F
  | [], F, x, h => h
  | w :: L, F, x, h => by
    refine relK_sub L _ x ?_
    split
    · exact mem_putI.mpr (.inl h)
    · exact h
theorem relK_new : ∀ (L : List T3) (F : List Int) (x : Int), x ∈ relK L F → x ∈ F ∨ ∃ w ∈ L, w.1 = x
  | [], F, x, h => .inl h
  | w :: L, F, x, h => by
    rcases relK_new L _ x h with e | ⟨v, hv, e⟩
    · split at e
      · rcases mem_putI.mp e with e | e
        · exact .inl e
        · exact .inr ⟨w, List.mem_cons_self, e.symm⟩
      · exact .inl e
    · exact .inr ⟨v, List.mem_cons_of_mem _ hv, e⟩
theorem relK_nodup : ∀ (L : List T3) (F : List Int), F.Nodup → (relK L F).Nodup
  | [], F, h => h
  | w :: L, F, h => by
    refine relK_nodup L _ ?_
    split
    · exact nodup_putI h
    · exact h
theorem relK_lead {W : List T3} {c : Int} : ∀ (L : List T3) (F : List Int), (∀ w ∈ L, w ∈ W) → (∀ x ∈ F, Lead W c x) → ∀ x ∈ relK L F, Lead W c x
  | [], F, hL, hF, x, h => hF x h
  | w :: L, F, hL, hF, x, h => by
    refine relK_lead L _ (fun v hv => hL v (List.mem_cons_of_mem _ hv)) (fun y hy => ?_) x h
    split at hy
    · rename_i ht
      rcases mem_putI.mp hy with e | e
      · exact hF y e
      · rw [e]
        exact .step (hL w List.mem_cons_self) (hF _ ht)
    · exact hF y hy
theorem relK_step : ∀ (L : List T3) (F : List Int), L.Pairwise (fun x y => y.1 ≤ x.1) → ∀ w ∈ L, w.1 < w.2.1 → w.2.1 ∈ relK L F → w.1 ∈ relK L F
  | a :: L, F, hp, w, hw, hlt, ht => by
    obtain ⟨h1, h2⟩ := List.pairwise_cons.mp hp
    rcases List.mem_cons.mp hw with e | hw
    · subst e
      have ht' : w.2.1 ∈ relK L (if w.2.1 ∈ F then putI F w.1 else F) := ht
      show w.1 ∈ relK L (if w.2.1 ∈ F then putI F w.1 else F)
      by_cases hF : w.2.1 ∈ F
      · rw [if_pos hF]
        exact relK_sub L _ _ (mem_putI.mpr (.inr rfl))
      · rw [if_neg hF] at ht'
        rcases relK_new L F _ ht' with e | ⟨v, hv, e⟩
        · exact absurd e hF
        · have := h1 v hv
          omega
    · exact relK_step L _ h2 w hw hlt ht
theorem relK_iff {W : List T3} {c : Int} (ha : W.Pairwise Lt2) (hw : ∀ w ∈ W, w.1 < w.2.1) (x : Int) : x ∈ relK W.reverse [c] ↔ Lead W c x := by
  constructor
  · exact relK_lead _ _ (fun w h => List.mem_reverse.mp h) (fun y hy => by rw [List.mem_singleton.mp hy]; exact .base) x
  · intro h
    induction h with
    | base => exact relK_sub _ _ _ (by simp)
    | step hm _ ih =>
      refine relK_step _ _ ?_ _ (List.mem_reverse.mpr hm) (hw _ hm) ih
      rw [List.pairwise_reverse]
      exact ha.imp fun {a b} h => by
        unfold Lt2 at h
        omega
theorem lead_le {W : List T3} {c x : Int} (hw : ∀ w ∈ W, w.1 < w.2.1) (h : Lead W c x) : x ≤ c := by
  induction h with
  | base => exact Int.le_refl _
  | step hm _ ih =>
    have := hw _ hm
    omega
theorem lead_nn {W : List T3} {c x : Int} (hw : ∀ w ∈ W, 0 ≤ w.1) (hc : 0 ≤ c) (h : Lead W c x) : 0 ≤ x := by
  cases h with
  | base => exact hc
  | step hm _ => exact hw _ hm
/-- the leading ones of the first n, in order -/
def keptL (W : List T3) (c : Int) (n : Nat) : List Int := (intsUp 0 n).filter fun x => decide (x ∈ relK W.reverse [c])
theorem keptL_asc (W : List T3) (c : Int) (n : Nat) : (keptL W c n).Pairwise (· < ·) := (intsUp_asc 0 n).filter _
theorem mem_keptL {W : List T3} {c : Int} {n : Nat} {x : Int} : x ∈ keptL W c n ↔ (0 ≤ x ∧ x < n) ∧ x ∈ relK W.reverse [c] := by
  unfold keptL
  rw [List.mem_filter, intsUp_mem, decide_eq_true_eq]
  simp
theorem sorted_kept {W : List T3} {c : Int} {n : Nat} {F ms : List Int} (h : SortedI F ms) (nd : F.Nodup) (hm : ∀ x, x ∈ F ↔ x ∈ keptL W c n) : ms = keptL W c n := by
  have nk : (keptL W c n).Nodup := (keptL_asc W c n).imp fun h e => by omega
  have p : ms.Perm (keptL W c n) := h.1.trans ((List.perm_ext_iff_of_nodup nd nk).mpr hm)
  exact p.eq_of_pairwise (le := (· ≤ ·)) (fun a b _ _ h1 h2 => by omega) h.2 ((keptL_asc W c n).imp fun h => by omega)
structure WLt (W : List T3) (n : Nat) : Prop where
  lt : ∀ w ∈ W, w.1 < w.2.1
  nn : ∀ w ∈ W, 0 ≤ w.1
theorem wlt_of {W : List T3} {n : Nat} (h : ∀ w ∈ W, WOk n w) : WLt W n := ⟨fun w hw => (h w hw).2.1, fun w hw => (h w hw).1⟩
theorem relK_kept {W : List T3} {c : Int} {n : Nat} (ha : W.Pairwise Lt2) (hw : ∀ w ∈ W, WOk n w) (h0 : 0 ≤ c) (h1 : c < n) (x : Int) : x ∈ relK W.reverse [c] ↔ x ∈ keptL W c n := by
  rw [mem_keptL]
  refine ⟨fun h => ⟨?_, h⟩, fun h => h.2⟩
  have hl := (relK_iff ha (wlt_of hw).lt x).mp h
  have := lead_le (wlt_of hw).lt hl
  have := lead_nn (wlt_of hw).nn h0 hl
  omega
theorem dtrips_map : ∀ ws : List T3, dtrips (ws.map wD) = some ws
  | [] => rfl
  | (a, b, c) :: ws => by
    show (match dtrips (ws.map wD) with | some ts => some ((a, b, c) :: ts) | none => none) = _
    rw [dtrips_map ws]
theorem asc_lx {W : List T3} (h : W.Pairwise Lt2) : W.Pairwise (fun x y => ZSort.lx3 x y = true) := h.imp fun {a b} q => ZSort.lx3_iff.mpr (by
  unfold Lt2 at q
  omega)
abbrev N_own_relevant : List Str := ["net", "output", "found", "source", "target", "weight"]
def lg1_own_relevant : ZG := (zgTup 3 (zgCons (zName 3) (zgCons (zName 4) (zgCons (zName 5) zgNil))))
def lb1_own_relevant : ZTS := (zIfS (zTest (zOp zIn (zVar 4) (zVar 2))) (zAsg (zC (.bl true)) (zgSub (zVar 2) (zVar 3) zSet)) zNext)
def r_own_relevant : ZTS := (zSeq (zAsg (zDisp true [((zVar 1), (zC (.bl true)))]) (zName 2)) (zSeq (zFor (ziSeq (zCKw zSortR3 (zCons (zOp zIx (zVar 0) (zC (.int 1))) zNil) (zCons (zC (.bl true)) zNil))) lg1_own_relevant lb1_own_relevant) (zRet (zCB zTupleF (zCons (zCB zSortedDI (zCons (zVar 2) zNil)) zNil)))))
theorem loop_rel {E : ZEnds} {h : AH} {a b : Option D} : ∀ (L : List T3) (F : List Int) (x y z : Option D), F.length + L.length < sizeLine →
    (∀ x y z, E.nx [a, b, some (.obj h.length), x, y, z] (h ++ [.dK (ik (relK L F)) (List.replicate (relK L F).length (.bl true))])) →
    zForL lg1_own_relevant lb1_own_relevant E (L.map wD) [a, b, some (.obj h.length), x, y, z] (h ++ [.dK (ik F) (List.replicate F.length (.bl true))])
  | [], F, x, y, z, hl, q => q x y z
  | (u, v, w) :: L, F, x, y, z, hl, q => by
    rw [List.length_cons] at hl
    have nx := fun (F' : List Int) (x y z : Option D) (hl' : F'.length + L.length < sizeLine) => loop_rel (E := E) (h := h) (a := a) (b := b) L F' x y z hl'
    have q' : ∀ x y z, E.nx [a, b, some (.obj h.length), x, y, z] (h ++ [.dK (ik (relK L (if v ∈ F then putI F u else F))) (List.replicate (relK L (if v ∈ F then putI F u else F)).length (.bl true))]) := q
    rw [List.map_cons, zForL_cons]
    generalize zForL _ _ E _ = Kx at nx ⊢
    have e1 := zval_has F (List.replicate F.length (.bl true)) v (by simp)
    simp only [zSeq, zAsg, zRet, zRetN, zIfS, zNext, zDrop, zBreak, zCont, zVar, zC, zOp, zUn, zName, zgTup, zgCons, zgNil, zgSub, zAug, zAugS, zPar, zPar3, zAndV, zOrV, zNotV, zTest, zTestE, zAnd, zOr, zNot, zIf, zCh, zCB, zCall, zCKw, zCons, zNil, zTup, zLst, newL, newDK, zIx, zLe, zLt, zGt, zGe, zNe_ii, zEq_ii, zIsN, zNotN, zIn, zNotIn, zInB, zSub, zMod, zFdiv, zPow, zMul, zAdd, zNeg, zI2, zI2C, zLen, zIsi, zTuple, zTupleF, zList, zAbs, zInt1, zDivmod, zMin2, zSet, zGet, zSl, zSlV, zPart, zNoPart, zTix, zBM, zAppend, isL, tyName, kit_tt, kit_ii, kit_ib, sqR, lsR, lsM, dkM, dtM, dLook, Z.keyOf, frS, ziSeq, ziEnum, ziR1, ziR2, ziR3, zFor, zLC, zDC, zYes, zwipe, zDisp, zPairs, zmerge, zSortR3, zSortedI, zSortedDI, zDictOf, List.getElem?_cons_zero, List.getElem?_cons_succ, List.set_cons_zero, List.set_cons_succ, List.length_cons, List.length_nil, List.map_cons, List.map_nil, List.length_map, Bool.not_true, Bool.not_false, decide_true, decide_false, lg1_own_relevant, lb1_own_relevant, wD, tail_get0]
    rw [e1]
    refine ⟨trivial, ?_⟩
    by_cases hv : v ∈ F
    · rw [decide_eq_true hv]
      rw [if_pos hv] at q'
      simp only [zSeq, zAsg, zRet, zRetN, zIfS, zNext, zDrop, zBreak, zCont, zVar, zC, zOp, zUn, zName, zgTup, zgCons, zgNil, zgSub, zAug, zAugS, zPar, zPar3, zAndV, zOrV, zNotV, zTest, zTestE, zAnd, zOr, zNot, zIf, zCh, zCB, zCall, zCKw, zCons, zNil, zTup, zLst, newL, newDK, zIx, zLe, zLt, zGt, zGe, zNe_ii, zEq_ii, zIsN, zNotN, zIn, zNotIn, zInB, zSub, zMod, zFdiv, zPow, zMul, zAdd, zNeg, zI2, zI2C, zLen, zIsi, zTuple, zTupleF, zList, zAbs, zInt1, zDivmod, zMin2, zSet, zGet, zSl, zSlV, zPart, zNoPart, zTix, zBM, zAppend, isL, tyName, kit_tt, kit_ii, kit_ib, sqR, lsR, lsM, dkM, dtM, dLook, Z.keyOf, frS, ziSeq, ziEnum, ziR1, ziR2, ziR3, zFor, zLC, zDC, zYes, zwipe, zDisp, zPairs, zmerge, zSortR3, zSortedI, zSortedDI, zDictOf, List.getElem?_cons_zero, List.getElem?_cons_succ, List.set_cons_zero, List.set_cons_succ, List.length_cons, List.length_nil, List.map_cons, List.map_nil, List.length_map, Bool.not_true, Bool.not_false, decide_true, decide_false, tail_get0, tail_set0]
      rw [putK_ik, putV_const]
      refine ⟨by omega, nx _ _ _ _ ?_ q'⟩
      unfold putI
      split
      · omega
      · rw [List.length_append, List.length_singleton]; omega
    · rw [decide_eq_false hv]
      rw [if_neg hv] at q'
      exact nx _ _ _ _ (by omega) q'
def sp_own_relevant : ZSp := fun ds h Q _ => ∃ M W I c, ds = [netD M W I, .int c] ∧ Valid M W I ∧ 0 ≤ c ∧ c < (M.length : Int) ∧ Q (.tf ((keptL W c M.length).map D.int)) h
theorem len_own_relevant : ∀ ds h Q E, sp_own_relevant ds h Q E → ds.length = 2 := fun ds h Q E ⟨M, W, I, c, e, _⟩ => by rw [e]; rfl
theorem keptL_len (W : List T3) (c : Int) (n : Nat) : (keptL W c n).length ≤ n := by
  have h := List.length_filter_le (fun x => decide (x ∈ relK W.reverse [c])) (intsUp 0 n)
  rw [intsUp_length] at h
  exact h
theorem pure_own_relevant : ∀ ds h Q0 E0, sp_own_relevant ds h Q0 E0 → WfH h → D.cls h.length ds = true → r_own_relevant (EndOk h Q0) (zstart N_own_relevant ds) h := fun ds h Q E ⟨M, W, I, c, e, V, h0, h1, z⟩ hw hc => by
  subst e
  have hsl := sizeLine_eq
  have hwl := V.wl
  have hn := V.n2
  have hm := relK_kept V.asc V.wk h0 h1
  have nd : (relK W.reverse [c]).Nodup := relK_nodup _ _ (by simp)
  have nk : (keptL W c M.length).Nodup := (keptL_asc W c M.length).imp fun h e => by omega
  have hlen : (relK W.reverse [c]).length ≤ 10 := by
    have := ((List.perm_ext_iff_of_nodup nd nk).mpr hm).length_eq
    have := keptL_len W c M.length
    omega
  show r_own_relevant (EndOk h Q) [some (netD M W I), some (.int c), none, none, none, none] h
  have lp := loop_rel (E := { nx := (zRet (zCB zTupleF (zCons (zCB zSortedDI (zCons (zVar 2) zNil)) zNil))) (EndOk h Q), rt := Exit h.length Q }) (h := h) (a := some (netD M W I)) (b := some (.int c)) W.reverse [c] none none none (by simp; omega) (fun x y z' => by
    simp only [zSeq, zAsg, zRet, zRetN, zIfS, zNext, zDrop, zBreak, zCont, zVar, zC, zOp, zUn, zName, zgTup, zgCons, zgNil, zgSub, zAug, zAugS, zPar, zPar3, zAndV, zOrV, zNotV, zTest, zTestE, zAnd, zOr, zNot, zIf, zCh, zCB, zCall, zCKw, zCons, zNil, zTup, zLst, newL, newDK, zIx, zLe, zLt, zGt, zGe, zNe_ii, zEq_ii, zIsN, zNotN, zIn, zNotIn, zInB, zSub, zMod, zFdiv, zPow, zMul, zAdd, zNeg, zI2, zI2C, zLen, zIsi, zTuple, zTupleF, zList, zAbs, zInt1, zDivmod, zMin2, zSet, zGet, zSl, zSlV, zPart, zNoPart, zTix, zBM, zAppend, isL, tyName, kit_tt, kit_ii, kit_ib, sqR, lsR, lsM, dkM, dtM, dLook, Z.keyOf, frS, ziSeq, ziEnum, ziR1, ziR2, ziR3, zFor, zLC, zDC, zYes, zwipe, zDisp, zPairs, zmerge, zSortR3, zSortedI, zSortedDI, zDictOf, List.getElem?_cons_zero, List.getElem?_cons_succ, List.set_cons_zero, List.set_cons_succ, List.length_cons, List.length_nil, List.map_cons, List.map_nil, List.length_map, Bool.not_true, Bool.not_false, decide_true, decide_false, tail_get0, intKeys_ik]
    refine ⟨by omega, fun ms hs => ?_⟩
    rw [sorted_kept hs nd hm]
    exact Exit.same hw (cls_ints _ _) z)
  unfold r_own_relevant
  unfold netD dI dW at lp ⊢
  simp only [zSeq, zAsg, zRet, zRetN, zIfS, zNext, zDrop, zBreak, zCont, zVar, zC, zOp, zUn, zName, zgTup, zgCons, zgNil, zgSub, zAug, zAugS, zPar, zPar3, zAndV, zOrV, zNotV, zTest, zTestE, zAnd, zOr, zNot, zIf, zCh, zCB, zCall, zCKw, zCons, zNil, zTup, zLst, newL, newDK, zIx, zLe, zLt, zGt, zGe, zNe_ii, zEq_ii, zIsN, zNotN, zIn, zNotIn, zInB, zSub, zMod, zFdiv, zPow, zMul, zAdd, zNeg, zI2, zI2C, zLen, zIsi, zTuple, zTupleF, zList, zAbs, zInt1, zDivmod, zMin2, zSet, zGet, zSl, zSlV, zPart, zNoPart, zTix, zBM, zAppend, isL, tyName, kit_tt, kit_ii, kit_ib, sqR, lsR, lsM, dkM, dtM, dLook, Z.keyOf, frS, ziSeq, ziEnum, ziR1, ziR2, ziR3, zFor, zLC, zDC, zYes, zwipe, zDisp, zPairs, zmerge, zSortR3, zSortedI, zSortedDI, zDictOf, List.getElem?_cons_zero, List.getElem?_cons_succ, List.set_cons_zero, List.set_cons_succ, List.length_cons, List.length_nil, List.map_cons, List.map_nil, List.length_map, Bool.not_true, Bool.not_false, decide_true, decide_false, at1, tpR]
  rw [dtrips_map]
  refine ⟨by omega, asc_lx V.asc, ?_⟩
  rw [List.map_reverse] at lp
  exact lp
abbrev N_relevant : List Str := ["net", "output"]
def r_relevant : ZTS := (zSeq (zDrop (zCall sp_validate_net (zCons (zVar 0) zNil))) (zSeq (zDrop (zCall sp_require_counter (zCons (zVar 0) (zCons (zVar 1) zNil)))) (zRet (zCall sp_own_relevant (zCons (zVar 0) (zCons (zVar 1) zNil))))))
def sp_relevant : ZSp := fun ds h Q _ => ∃ M W I c, ds = [netD M W I, .int c] ∧ Valid M W I ∧ 0 ≤ c ∧ c < (M.length : Int) ∧ Q (.tf ((keptL W c M.length).map D.int)) h
theorem len_relevant : ∀ ds h Q E, sp_relevant ds h Q E → ds.length = 2 := fun ds h Q E ⟨M, W, I, c, e, _⟩ => by rw [e]; rfl
theorem pure_relevant : ∀ ds h Q0 E0, sp_relevant ds h Q0 E0 → WfH h → D.cls h.length ds = true → r_relevant (EndOk h Q0) (zstart N_relevant ds) h := fun ds h Q E ⟨M, W, I, c, e, V, h0, h1, z⟩ hw hc => by
  subst e
  show r_relevant (EndOk h Q) [some (netD M W I), some (.int c)] h
  unfold r_relevant
  simp only [zSeq, zAsg, zRet, zRetN, zIfS, zNext, zDrop, zBreak, zCont, zVar, zC, zOp, zUn, zName, zgTup, zgCons, zgNil, zgSub, zAug, zAugS, zPar, zPar3, zAndV, zOrV, zNotV, zTest, zTestE, zAnd, zOr, zNot, zIf, zCh, zCB, zCall, zCKw, zCons, zNil, zTup, zLst, newL, newDK, zIx, zLe, zLt, zGt, zGe, zNe_ii, zEq_ii, zIsN, zNotN, zIn, zNotIn, zInB, zSub, zMod, zFdiv, zPow, zMul, zAdd, zNeg, zI2, zI2C, zLen, zIsi, zTuple, zTupleF, zList, zAbs, zInt1, zDivmod, zMin2, zSet, zGet, zSl, zSlV, zPart, zNoPart, zTix, zBM, zAppend, isL, tyName, kit_tt, kit_ii, kit_ib, sqR, lsR, lsM, dkM, dtM, dLook, Z.keyOf, frS, ziSeq, ziEnum, ziR1, ziR2, ziR3, zFor, zLC, zDC, zYes, zwipe, zDisp, zPairs, zmerge, zSortR3, zSortedI, zSortedDI, zDictOf, List.getElem?_cons_zero, List.getElem?_cons_succ, List.set_cons_zero, List.set_cons_succ, List.length_cons, List.length_nil, List.map_cons, List.map_nil, List.length_map, Bool.not_true, Bool.not_false, decide_true, decide_false]
  exact ⟨M, W, I, rfl, V, M, W, I, c, rfl, h0, h1, M, W, I, c, rfl, V, h0, h1, Exit.same0 hw (cls_ints _ _) z⟩
end Z54
namespace Z54
open PySem PySem.Spec PyProof.Rows L2 Z
def hit (W : List T3) (F : List Int) (u : Int) (w : T3) : Bool := decide (w.1 = u) && decide (w.2.1 ∈ F)
def ldS (W : List T3) (F : List Int) (u : Int) : List Int := if W.filter (hit W F u) = [] then F else F ++ [u]
def ldK (W : List T3) : List Int → List Int → List Int
  | [], F => F
  | u :: us, F => ldK W us (ldS W F u)
theorem mem_ldS {W : List T3} {F : List Int} {u x : Int} : x ∈ ldS W F u ↔ x ∈ F ∨ (x = u ∧ ∃ w ∈ W, w.1 = u ∧ w.2.1 ∈ F) := by
  unfold ldS
  split
  · rename_i e
    refine ⟨.inl, fun h => h.elim id fun ⟨_, w, hw, e1, e2⟩ => ?_⟩
    have : w ∈ W.filter (hit W F u) := List.mem_filter.mpr ⟨hw, by unfold hit; rw [decide_eq_true e1, decide_eq_true e2]; rfl⟩
    rw [e] at this
    cases this
  · rename_i e
    rw [List.mem_append, List.mem_singleton]
    refine ⟨fun h => h.imp id fun z => ⟨z, ?_⟩, fun h => h.imp id fun z => z.1⟩
    obtain ⟨w, hw⟩ := List.exists_mem_of_ne_nil _ e
    obtain ⟨h1, h2⟩ := List.mem_filter.mp hw
    unfold hit at h2
    rw [Bool.and_eq_true, decide_eq_true_eq, decide_eq_true_eq] at h2
    exact ⟨w, h1, h2⟩
theorem ldK_sub {W : List T3} : ∀ (us F : List Int), ∀ x ∈ F, x ∈ ldK W us F
  | [], F, x, h => h
  | u :: us, F, x, h => ldK_sub us _ x (mem_ldS.mpr (.inl h))
theorem ldK_new {W : List T3} : ∀ (us F : List Int) (x : Int), x ∈ ldK W us F → x ∈ F ∨ x ∈ us
  | [], F, x, h => .inl h
  | u :: us, F, x, h => by
    rcases ldK_new us _ x h with e | e
    · rcases mem_ldS.mp e with e | e
      · exact .inl e
      · exact .inr (by rw [e.1]; exact List.mem_cons_self)
    · exact .inr (List.mem_cons_of_mem _ e)
theorem ldK_lead {W : List T3} {c : Int} : ∀ (us F : List Int), (∀ x ∈ F, Lead W c x) → ∀ x ∈ ldK W us F, Lead W c x
  | [], F, hF, x, h => hF x h
  | u :: us, F, hF, x, h => by
    refine ldK_lead us _ (fun y hy => ?_) x h
    rcases mem_ldS.mp hy with e | ⟨rfl, w, hw, e1, e2⟩
    · exact hF y e
    · rw [← e1]
      exact .step hw (hF _ e2)
theorem ldK_step {W : List T3} : ∀ (us F : List Int), us.Pairwise (fun x y => y < x) → ∀ w ∈ W, w.1 ∈ us → w.1 < w.2.1 → w.2.1 ∈ ldK W us F → w.1 ∈ ldK W us F
  | u :: us, F, hp, w, hw, hu, hlt, ht => by
    obtain ⟨h1, h2⟩ := List.pairwise_cons.mp hp
    rcases List.mem_cons.mp hu with e | hu
    · have ht' : w.2.1 ∈ ldK W us (ldS W F u) := ht
      show w.1 ∈ ldK W us (ldS W F u)
      refine ldK_sub us _ _ (mem_ldS.mpr (.inr ⟨e, w, hw, e, ?_⟩))
      rcases ldK_new us _ _ ht' with z | z
      · rcases mem_ldS.mp z with z | z
        · exact z
        · have := z.1
          omega
      · have := h1 _ z
        omega
    · exact ldK_step us _ h2 w hw hu hlt ht
theorem ldK_nodup {W : List T3} : ∀ (us F : List Int), us.Pairwise (fun x y => y < x) → F.Nodup → (∀ x ∈ F, x ∉ us) → (ldK W us F).Nodup
  | [], F, _, hF, _ => hF
  | u :: us, F, hp, hF, hd => by
    obtain ⟨h1, h2⟩ := List.pairwise_cons.mp hp
    refine ldK_nodup us _ h2 ?_ fun x hx hxu => ?_
    · unfold ldS
      split
      · exact hF
      · rw [List.nodup_append]
        exact ⟨hF, by simp, fun a ha b hb e => hd a ha (by rw [e, List.mem_singleton.mp hb]; exact List.mem_cons_self)⟩
    · rcases mem_ldS.mp hx with z | z
      · exact hd x z (List.mem_cons_of_mem _ hxu)
      · have := h1 x hxu
        have := z.1
        omega
theorem intsDn_desc : ∀ (a : Int) (n : Nat), (intsDn a n).Pairwise (fun x y => y < x)
  | _, 0 => .nil
  | a, n + 1 => List.pairwise_cons.mpr ⟨fun x hx => by have := intsDn_mem.mp hx; omega, intsDn_desc (a - 1) n⟩
theorem ldK_iff {W : List T3} {c : Int} (h0 : 0 ≤ c) (hw : ∀ w ∈ W, 0 ≤ w.1 ∧ w.1 < w.2.1) (x : Int) : x ∈ ldK W (intsDn (c - 1) c.toNat) [c] ↔ Lead W c x := by
  constructor
  · exact ldK_lead _ _ (fun y hy => by rw [List.mem_singleton.mp hy]; exact .base) x
  · intro h
    induction h with
    | base => exact ldK_sub _ _ _ (by simp)
    | step hm hl ih =>
      have h1 := hw _ hm
      have h2 := lead_le (fun w h => (hw w h).2) hl
      exact ldK_step _ _ (intsDn_desc _ _) _ hm (intsDn_mem.mpr (by omega)) h1.2 ih
abbrev N__law_leading : List Str := ["mesh", "v", "found", "u", "a", "b", "w"]
def cg1__law_leading : ZG := (zgTup 3 (zgCons (zName 4) (zgCons (zName 5) (zgCons (zName 6) zgNil))))
def ce1__law_leading : ZE := (zC (.int 1))
def ct1__law_leading : ZT := (zAnd (zTest (zOp zEq (zVar 4) (zVar 3))) (zTest (zOp zIn (zVar 5) (zVar 2))))
def lg1__law_leading : ZG := (zName 3)
def lb1__law_leading : ZTS := (zIfS (zTest (zOp zNe (zLC false (ziSeq (zOp zIx (zVar 0) (zC (.int 1)))) cg1__law_leading ct1__law_leading ce1__law_leading [4, 5, 6]) (zLst false zNil))) (zDrop (zBM isL zAppend (zVar 2) (zCons (zVar 3) zNil))) zNext)
def r__law_leading : ZTS := (zSeq (zAsg (zLst true (zCons (zVar 1) zNil)) (zName 2)) (zSeq (zFor (ziR3 (zCons (zOp zSub (zVar 1) (zC (.int 1))) (zCons (zOp zSub (zC (.int 0)) (zC (.int 1))) (zCons (zOp zSub (zC (.int 0)) (zC (.int 1))) zNil)))) lg1__law_leading lb1__law_leading) (zRet (zCB zTupleF (zCons (zCB zSortedI (zCons (zVar 2) zNil)) zNil)))))
theorem loop_lead {E : ZEnds} {h : AH} {M : List Int} {W : List T3} {I : List Int} {b : Option D} (hwl : W.length ≤ 100) : ∀ (us F : List Int) (x s4 s5 s6 : Option D), F.length + us.length < 1000 →
    (∀ t, E.nx (some (netD M W I) :: b :: some (.obj h.length) :: t) (h ++ [.lst ((ldK W us F).map D.int)])) →
    zForL lg1__law_leading lb1__law_leading E (us.map D.int) [some (netD M W I), b, some (.obj h.length), x, s4, s5, s6] (h ++ [.lst (F.map D.int)])
  | [], F, x, s4, s5, s6, hl, q => q _
  | u :: us, F, x, s4, s5, s6, hl, q => by
    rw [List.length_cons] at hl
    have hsl := sizeLine_eq
    have nx := fun (F' : List Int) (x s4 s5 s6 : Option D) (hl' : F'.length + us.length < 1000) => loop_lead (E := E) (h := h) (M := M) (W := W) (I := I) (b := b) hwl us F' x s4 s5 s6 hl'
    have q' : ∀ t, E.nx (some (netD M W I) :: b :: some (.obj h.length) :: t) (h ++ [.lst ((ldK W us (ldS W F u)).map D.int)]) := q
    rw [List.map_cons, zForL_cons]
    generalize zForL _ _ E _ = Kx at nx ⊢
    unfold netD dW at nx q' ⊢
    simp only [zSeq, zAsg, zRet, zRetN, zIfS, zNext, zDrop, zBreak, zCont, zVar, zC, zOp, zUn, zName, zgTup, zgCons, zgNil, zgSub, zAug, zAugS, zPar, zPar3, zAndV, zOrV, zNotV, zTest, zTestE, zAnd, zOr, zNot, zIf, zCh, zCB, zCall, zCKw, zCons, zNil, zTup, zLst, newL, newDK, zIx, zLe, zLt, zGt, zGe, zNe_ii, zEq_ii, zIsN, zNotN, zIn, zNotIn, zSub, zMod, zFdiv, zPow, zMul, zAdd, zNeg, zI2, zI2C, zLen, zIsi, zTuple, zTupleF, zList, zAbs, zInt1, zDivmod, zMin2, zSet, zGet, zSl, zSlV, zPart, zNoPart, zTix, zBM, zAppend, isL, tyName, kit_tt, kit_ii, kit_ib, sqR, lsR, lsM, dkM, dtM, dLook, Z.keyOf, frS, ziSeq, ziEnum, ziR1, ziR2, ziR3, zFor, zLC, zDC, zYes, zwipe, zDisp, zPairs, zmerge, zSortR3, zSortedI, zSortedDI, zDictOf, List.getElem?_cons_zero, List.getElem?_cons_succ, List.set_cons_zero, List.set_cons_succ, List.length_cons, List.length_nil, List.map_cons, List.map_nil, List.length_map, Bool.not_true, Bool.not_false, decide_true, decide_false, lg1__law_leading, lb1__law_leading, at1]
    refine lcl wD (hit W F u) (fun _ => .int 1) _ W [] (fun w hw K N z => ?_) (by rw [List.length_nil]; omega) ?_
    · obtain ⟨a, c, d⟩ := w
      have eB : zInB (h ++ [.lst (F.map D.int)]) (.int c) (.obj h.length) = some (decide (c ∈ F)) := inB_ints c (by simp only [sqR, lsR, lsM, tail_get0, List.getElem?_cons_zero])
      have z' : if (decide (a = u) && decide (c ∈ F)) = true then K (.int 1) (h ++ [.lst (F.map D.int)]) else N (h ++ [.lst (F.map D.int)]) := z
      simp only [zSeq, zAsg, zRet, zRetN, zIfS, zNext, zDrop, zBreak, zCont, zVar, zC, zOp, zUn, zName, zgTup, zgCons, zgNil, zgSub, zAug, zAugS, zPar, zPar3, zAndV, zOrV, zNotV, zTest, zTestE, zAnd, zOr, zNot, zIf, zCh, zCB, zCall, zCKw, zCons, zNil, zTup, zLst, newL, newDK, zIx, zLe, zLt, zGt, zGe, zNe_ii, zEq_ii, zIsN, zNotN, zIn, zNotIn, zSub, zMod, zFdiv, zPow, zMul, zAdd, zNeg, zI2, zI2C, zLen, zIsi, zTuple, zTupleF, zList, zAbs, zInt1, zDivmod, zMin2, zSet, zGet, zSl, zSlV, zPart, zNoPart, zTix, zBM, zAppend, isL, tyName, kit_tt, kit_ii, kit_ib, sqR, lsR, lsM, dkM, dtM, dLook, Z.keyOf, frS, ziSeq, ziEnum, ziR1, ziR2, ziR3, zFor, zLC, zDC, zYes, zwipe, zDisp, zPairs, zmerge, zSortR3, zSortedI, zSortedDI, zDictOf, List.getElem?_cons_zero, List.getElem?_cons_succ, List.set_cons_zero, List.set_cons_succ, List.length_cons, List.length_nil, List.map_cons, List.map_nil, List.length_map, Bool.not_true, Bool.not_false, decide_true, decide_false, cg1__law_leading, ct1__law_leading, ce1__law_leading, wD]
      refine ⟨trivial, ?_⟩
      by_cases ha : a = u
      · rw [decide_eq_true ha] at z' ⊢
        simp only [zSeq, zAsg, zRet, zRetN, zIfS, zNext, zDrop, zBreak, zCont, zVar, zC, zOp, zUn, zName, zgTup, zgCons, zgNil, zgSub, zAug, zAugS, zPar, zPar3, zAndV, zOrV, zNotV, zTest, zTestE, zAnd, zOr, zNot, zIf, zCh, zCB, zCall, zCKw, zCons, zNil, zTup, zLst, newL, newDK, zIx, zLe, zLt, zGt, zGe, zNe_ii, zEq_ii, zIsN, zNotN, zIn, zNotIn, zSub, zMod, zFdiv, zPow, zMul, zAdd, zNeg, zI2, zI2C, zLen, zIsi, zTuple, zTupleF, zList, zAbs, zInt1, zDivmod, zMin2, zSet, zGet, zSl, zSlV, zPart, zNoPart, zTix, zBM, zAppend, isL, tyName, kit_tt, kit_ii, kit_ib, sqR, lsR, lsM, dkM, dtM, dLook, Z.keyOf, frS, ziSeq, ziEnum, ziR1, ziR2, ziR3, zFor, zLC, zDC, zYes, zwipe, zDisp, zPairs, zmerge, zSortR3, zSortedI, zSortedDI, zDictOf, List.getElem?_cons_zero, List.getElem?_cons_succ, List.set_cons_zero, List.set_cons_succ, List.length_cons, List.length_nil, List.map_cons, List.map_nil, List.length_map, Bool.not_true, Bool.not_false, decide_true, decide_false, eB]
        by_cases hc : c ∈ F
        · rw [decide_eq_true hc] at z' ⊢
          exact z'
        · rw [decide_eq_false hc] at z' ⊢
          exact z'
      · rw [decide_eq_false ha] at z' ⊢
        exact z'
    · simp only [zSeq, zAsg, zRet, zRetN, zIfS, zNext, zDrop, zBreak, zCont, zVar, zC, zOp, zUn, zName, zgTup, zgCons, zgNil, zgSub, zAug, zAugS, zPar, zPar3, zAndV, zOrV, zNotV, zTest, zTestE, zAnd, zOr, zNot, zIf, zCh, zCB, zCall, zCKw, zCons, zNil, zTup, zLst, newL, newDK, zIx, zLe, zLt, zGt, zGe, zNe_ii, zEq_ii, zIsN, zNotN, zIn, zNotIn, zInB, zSub, zMod, zFdiv, zPow, zMul, zAdd, zNeg, zI2, zI2C, zLen, zIsi, zTuple, zTupleF, zList, zAbs, zInt1, zDivmod, zMin2, zSet, zGet, zSl, zSlV, zPart, zNoPart, zTix, zBM, zAppend, isL, tyName, kit_tt, kit_ii, kit_ib, sqR, lsR, lsM, dkM, dtM, dLook, Z.keyOf, frS, ziSeq, ziEnum, ziR1, ziR2, ziR3, zFor, zLC, zDC, zYes, zwipe, zDisp, zPairs, zmerge, zSortR3, zSortedI, zSortedDI, zDictOf, List.getElem?_cons_zero, List.getElem?_cons_succ, List.set_cons_zero, List.set_cons_succ, List.length_cons, List.length_nil, List.map_cons, List.map_nil, List.length_map, Bool.not_true, Bool.not_false, decide_true, decide_false]
      refine ⟨by omega, ?_⟩
      refine zNe_nil (k := 3) (DP.lst (.map (f := fun _ => .int 1) (g := fun _ => .int 1) (fun _ => .int 1) _)) (by omega) ?_
      unfold ldS at q'
      by_cases he : W.filter (hit W F u) = []
      · rw [if_pos he] at q'
        rw [decide_eq_true (by rw [he]; rfl)]
        exact nx _ _ _ _ _ (by omega) q'
      · rw [if_neg he] at q'
        rw [decide_eq_false (by simpa using he)]
        simp only [zSeq, zAsg, zRet, zRetN, zIfS, zNext, zDrop, zBreak, zCont, zVar, zC, zOp, zUn, zName, zgTup, zgCons, zgNil, zgSub, zAug, zAugS, zPar, zPar3, zAndV, zOrV, zNotV, zTest, zTestE, zAnd, zOr, zNot, zIf, zCh, zCB, zCall, zCKw, zCons, zNil, zTup, zLst, newL, newDK, zIx, zLe, zLt, zGt, zGe, zNe_ii, zEq_ii, zIsN, zNotN, zIn, zNotIn, zInB, zSub, zMod, zFdiv, zPow, zMul, zAdd, zNeg, zI2, zI2C, zLen, zIsi, zTuple, zTupleF, zList, zAbs, zInt1, zDivmod, zMin2, zSet, zGet, zSl, zSlV, zPart, zNoPart, zTix, zBM, zAppend, isL, tyName, kit_tt, kit_ii, kit_ib, sqR, lsR, lsM, dkM, dtM, dLook, Z.keyOf, frS, ziSeq, ziEnum, ziR1, ziR2, ziR3, zFor, zLC, zDC, zYes, zwipe, zDisp, zPairs, zmerge, zSortR3, zSortedI, zSortedDI, zDictOf, List.getElem?_cons_zero, List.getElem?_cons_succ, List.set_cons_zero, List.set_cons_succ, List.length_cons, List.length_nil, List.map_cons, List.map_nil, List.length_map, Bool.not_true, Bool.not_false, decide_true, decide_false, tail_get0, tail_set0]
        refine ⟨rfl, by omega, ?_⟩
        rw [show F.map D.int ++ [D.int u] = (F ++ [u]).map D.int by simp]
        exact nx _ _ _ _ _ (by rw [List.length_append, List.length_singleton]; omega) q'
def sp__law_leading : ZSp := fun ds h Q _ => ∃ M W I c, ds = [netD M W I, .int c] ∧ Valid M W I ∧ 0 ≤ c ∧ c < (M.length : Int) ∧ Q (.tf ((keptL W c M.length).map D.int)) h
theorem len__law_leading : ∀ ds h Q E, sp__law_leading ds h Q E → ds.length = 2 := fun ds h Q E ⟨M, W, I, c, e, _⟩ => by rw [e]; rfl
theorem dints_ints (xs : List Int) : dints (xs.map D.int) = some xs := dints_map xs
theorem pure__law_leading : ∀ ds h Q0 E0, sp__law_leading ds h Q0 E0 → WfH h → D.cls h.length ds = true → r__law_leading (EndOk h Q0) (zstart N__law_leading ds) h := fun ds h Q E ⟨M, W, I, c, e, V, h0, h1, z⟩ hw hc => by
  subst e
  have hsl := sizeLine_eq
  have hn := V.n2
  have hm : ∀ x, x ∈ ldK W (intsDn (c - 1) c.toNat) [c] ↔ x ∈ keptL W c M.length := fun x => by
    rw [ldK_iff h0 (fun w hw => ⟨(V.wk w hw).1, (V.wk w hw).2.1⟩), ← relK_iff V.asc (wlt_of V.wk).lt]
    exact relK_kept V.asc V.wk h0 h1 x
  have nd : (ldK W (intsDn (c - 1) c.toNat) [c]).Nodup := ldK_nodup _ _ (intsDn_desc _ _) (by simp) fun x hx hu => by
    rw [List.mem_singleton.mp hx] at hu
    have := intsDn_mem.mp hu
    omega
  have dl : ∀ (a : Int) (n : Nat), (intsDn a n).length = n := fun a n => by
    have := zrange_length (-1) a n
    rw [zrange_dn, List.length_map] at this
    exact this
  show r__law_leading (EndOk h Q) [some (netD M W I), some (.int c), none, none, none, none, none] h
  have lp := loop_lead (E := { nx := (zRet (zCB zTupleF (zCons (zCB zSortedI (zCons (zVar 2) zNil)) zNil))) (EndOk h Q), rt := Exit h.length Q }) (h := h) (M := M) (W := W) (I := I) (b := some (.int c)) V.wl (intsDn (c - 1) c.toNat) [c] none none none none (by rw [dl]; simp; omega) (fun t => by
    simp only [zSeq, zAsg, zRet, zRetN, zIfS, zNext, zDrop, zBreak, zCont, zVar, zC, zOp, zUn, zName, zgTup, zgCons, zgNil, zgSub, zAug, zAugS, zPar, zPar3, zAndV, zOrV, zNotV, zTest, zTestE, zAnd, zOr, zNot, zIf, zCh, zCB, zCall, zCKw, zCons, zNil, zTup, zLst, newL, newDK, zIx, zLe, zLt, zGt, zGe, zNe_ii, zEq_ii, zIsN, zNotN, zIn, zNotIn, zInB, zSub, zMod, zFdiv, zPow, zMul, zAdd, zNeg, zI2, zI2C, zLen, zIsi, zTuple, zTupleF, zList, zAbs, zInt1, zDivmod, zMin2, zSet, zGet, zSl, zSlV, zPart, zNoPart, zTix, zBM, zAppend, isL, tyName, kit_tt, kit_ii, kit_ib, sqR, lsR, lsM, dkM, dtM, dLook, Z.keyOf, frS, ziSeq, ziEnum, ziR1, ziR2, ziR3, zFor, zLC, zDC, zYes, zwipe, zDisp, zPairs, zmerge, zSortR3, zSortedI, zSortedDI, zDictOf, List.getElem?_cons_zero, List.getElem?_cons_succ, List.set_cons_zero, List.set_cons_succ, List.length_cons, List.length_nil, List.map_cons, List.map_nil, List.length_map, Bool.not_true, Bool.not_false, decide_true, decide_false, tail_get0, dints_ints]
    intro ms hs
    rw [sorted_kept hs nd hm]
    exact Exit.same hw (cls_ints _ _) z)
  unfold r__law_leading
  simp only [zSeq, zAsg, zRet, zRetN, zIfS, zNext, zDrop, zBreak, zCont, zVar, zC, zOp, zUn, zName, zgTup, zgCons, zgNil, zgSub, zAug, zAugS, zPar, zPar3, zAndV, zOrV, zNotV, zTest, zTestE, zAnd, zOr, zNot, zIf, zCh, zCB, zCall, zCKw, zCons, zNil, zTup, zLst, newL, newDK, zIx, zLe, zLt, zGt, zGe, zNe_ii, zEq_ii, zIsN, zNotN, zIn, zNotIn, zInB, zSub, zMod, zFdiv, zPow, zMul, zAdd, zNeg, zI2, zI2C, zLen, zIsi, zTuple, zTupleF, zList, zAbs, zInt1, zDivmod, zMin2, zSet, zGet, zSl, zSlV, zPart, zNoPart, zTix, zBM, zAppend, isL, tyName, kit_tt, kit_ii, kit_ib, sqR, lsR, lsM, dkM, dtM, dLook, Z.keyOf, frS, ziSeq, ziEnum, ziR1, ziR2, ziR3, zFor, zLC, zDC, zYes, zwipe, zDisp, zPairs, zmerge, zSortR3, zSortedI, zSortedDI, zDictOf, List.getElem?_cons_zero, List.getElem?_cons_succ, List.set_cons_zero, List.set_cons_succ, List.length_cons, List.length_nil, List.map_cons, List.map_nil, List.length_map, Bool.not_true, Bool.not_false, decide_true, decide_false]
  refine ⟨by omega, ⟨by omega, by omega, by omega, by omega⟩, by omega, ?_⟩
  rw [show (c - 1 - (0 - 1)).toNat = c.toNat by omega, zrange_dn]
  exact lp
end Z54
namespace Z54
open PySem PySem.Spec PyProof.Rows L2 Z
def tW (K : List Int) (w : T3) : T3 := ((K.idxOf w.1 : Nat), (K.idxOf w.2.1 : Nat), w.2.2)
def trimM (M K : List Int) : List Int := K.map fun x => M.getD x.toNat 0
def trimW (W : List T3) (K : List Int) : List T3 := (W.filter fun w => decide (w.2.1 ∈ K)).map (tW K)
def trimI (I K : List Int) : List Int := (I.filter fun i => decide (i ∈ K)).map fun i => ((K.idxOf i : Nat) : Int)
/-- what is asked of the kept counters -/
structure KOk (W : List T3) (n : Nat) (K : List Int) : Prop where
  asc : K.Pairwise (· < ·)
  rng : ∀ x ∈ K, 0 ≤ x ∧ x < n
  cl : ∀ w ∈ W, w.2.1 ∈ K → w.1 ∈ K
theorem KOk.nd {W : List T3} {n : Nat} {K : List Int} (k : KOk W n K) : K.Nodup := k.asc.imp fun h e => by omega
theorem kept_ok {M : List Int} {W : List T3} {I : List Int} {c : Int} (V : Valid M W I) (h0 : 0 ≤ c) (h1 : c < (M.length : Int)) : KOk W M.length (keptL W c M.length) := by
  refine ⟨keptL_asc _ _ _, fun x hx => (mem_keptL.mp hx).1, fun w hw hx => ?_⟩
  have h := relK_kept V.asc V.wk h0 h1
  rw [← h, relK_iff V.asc (wlt_of V.wk).lt] at hx ⊢
  exact .step hw hx
abbrev N_trimmed : List Str := ["net", "output", "kept", "moduli", "wires", "inputs", "places", "place", "counter", "left", "wire", "chosen"]
def cg1_trimmed : ZG := (zgTup 2 (zgCons (zName 7) (zgCons (zName 8) zgNil)))
def ck1_trimmed : ZE := (zVar 8)
def ce1_trimmed : ZE := (zVar 7)
def cg2_trimmed : ZG := (zName 10)
def ce2_trimmed : ZE := (zTup (zCons (zOp zIx (zVar 6) (zOp zIx (zVar 10) (zC (.int 0)))) (zCons (zOp zIx (zVar 6) (zOp zIx (zVar 10) (zC (.int 1)))) (zCons (zOp zIx (zVar 10) (zC (.int 2))) zNil))))
def ct1_trimmed : ZT := (zTest (zOp zIn (zOp zIx (zVar 10) (zC (.int 1))) (zVar 6)))
def cg3_trimmed : ZG := (zName 8)
def ce3_trimmed : ZE := (zOp zIx (zVar 6) (zVar 8))
def ct2_trimmed : ZT := (zTest (zOp zIn (zVar 8) (zVar 6)))
def cg4_trimmed : ZG := (zName 8)
def ce4_trimmed : ZE := (zOp zIx (zVar 3) (zVar 8))
def r_trimmed : ZTS := (zSeq (zAsg (zCall sp_relevant (zCons (zVar 0) (zCons (zVar 1) zNil))) (zName 2)) (zSeq (zAsg (zVar 0) (zgTup 3 (zgCons (zName 3) (zgCons (zName 4) (zgCons (zName 5) zgNil))))) (zSeq (zAsg (zDC false (ziEnum (zCons (zVar 2) zNil)) cg1_trimmed zYes ck1_trimmed ce1_trimmed [7, 8]) (zName 6)) (zSeq (zAsg (zLC false (ziSeq (zVar 4)) cg2_trimmed ct1_trimmed ce2_trimmed [10]) (zName 9)) (zSeq (zAsg (zCB zTuple (zCons (zLC false (ziSeq (zVar 5)) cg3_trimmed ct2_trimmed ce3_trimmed [8]) zNil)) (zName 11)) (zRet (zTup (zCons (zTup (zCons (zCB zTuple (zCons (zLC false (ziSeq (zVar 2)) cg4_trimmed zYes ce4_trimmed [8]) zNil)) (zCons (zCB zTuple (zCons (zVar 9) zNil)) (zCons (zVar 11) zNil)))) (zCons (zVar 2) zNil)))))))))
theorem loop_places {h : AH} {Q : ZK} {s0 s1 s2 s3 s4 s5 s6 s7 s8 s9 s10 s11 : Option D} : ∀ (K pre : List Int), (pre ++ K).Nodup → (pre ++ K).length < 1000 → Q (.dK (ik (pre ++ K)) (cnt 0 (pre ++ K).length)) h →
    zDCL false cg1_trimmed zYes ck1_trimmed ce1_trimmed [s0, s1, s2, s3, s4, s5, s6, s7, s8, s9, s10, s11] (zenum pre.length (K.map D.int)) (ik pre) (cnt 0 pre.length) h Q
  | [], pre, hn, hl, q => by
    rw [List.append_nil] at q
    exact q
  | x :: K, pre, hn, hl, q => by
    have hsl := sizeLine_eq
    have hx : x ∉ pre := fun z => by
      rw [List.nodup_append] at hn
      exact hn.2.2 x z x List.mem_cons_self rfl
    have e := put_new hx (.int (pre.length : Nat)) (cnt 0 pre.length)
    have ih := loop_places (h := h) (Q := Q) (s0 := s0) (s1 := s1) (s2 := s2) (s3 := s3) (s4 := s4) (s5 := s5) (s6 := s6) (s7 := s7) (s8 := s8) (s9 := s9) (s10 := s10) (s11 := s11) K (pre ++ [x]) (by rw [List.append_assoc]; exact hn) (by rw [List.append_assoc]; exact hl) (by rw [List.append_assoc]; exact q)
    rw [List.length_append, List.length_singleton] at ih
    have ec := cnt_snoc 0 pre.length
    rw [Nat.zero_add] at ec
    rw [← ec, ← e.2, ← e.1] at ih
    rw [List.length_append, List.length_cons] at hl
    rw [List.map_cons, zenum_cons]
    show cg1_trimmed _ _ h _
    generalize zDCL _ _ _ _ _ _ _ = Kx at ih ⊢
    simp only [zSeq, zAsg, zRet, zRetN, zIfS, zNext, zDrop, zBreak, zCont, zVar, zC, zOp, zUn, zName, zgTup, zgCons, zgNil, zgSub, zAug, zAugS, zPar, zPar3, zAndV, zOrV, zNotV, zTest, zTestE, zAnd, zOr, zNot, zIf, zCh, zCB, zCall, zCKw, zCons, zNil, zTup, zLst, newL, newDK, zIx, zLe, zLt, zGt, zGe, zNe_ii, zEq_ii, zIsN, zNotN, zIn, zNotIn, zInB, zSub, zMod, zFdiv, zPow, zMul, zAdd, zNeg, zI2, zI2C, zLen, zIsi, zTuple, zTupleF, zList, zAbs, zInt1, zDivmod, zMin2, zSet, zGet, zSl, zSlV, zPart, zNoPart, zTix, zBM, zAppend, isL, tyName, kit_tt, kit_ii, kit_ib, sqR, lsR, lsM, dkM, dtM, dLook, Z.keyOf, frS, ziSeq, ziEnum, ziR1, ziR2, ziR3, zFor, zLC, zDC, zYes, zwipe, zDisp, zPairs, zmerge, zSortR3, zSortedI, zSortedDI, zDictOf, List.getElem?_cons_zero, List.getElem?_cons_succ, List.set_cons_zero, List.set_cons_succ, List.length_cons, List.length_nil, List.map_cons, List.map_nil, List.length_map, Bool.not_true, Bool.not_false, decide_true, decide_false, cg1_trimmed, ck1_trimmed, ce1_trimmed]
    exact ⟨trivial, by omega, ih⟩
def sp_trimmed : ZSp := fun ds h Q _ => ∃ M W I c, ds = [netD M W I, .int c] ∧ Valid M W I ∧ 0 ≤ c ∧ c < (M.length : Int) ∧
  Q (.tup [netD (trimM M (keptL W c M.length)) (trimW W (keptL W c M.length)) (trimI I (keptL W c M.length)), .tf ((keptL W c M.length).map D.int)]) h
theorem len_trimmed : ∀ ds h Q E, sp_trimmed ds h Q E → ds.length = 2 := fun ds h Q E ⟨M, W, I, c, e, _⟩ => by rw [e]; rfl
theorem cls_wD (k : Nat) (W : List T3) : D.cls k (W.map wD) = true := D.cls_map (fun _ => rfl) W
theorem cl_netD (k : Nat) (M : List Int) (W : List T3) (I : List Int) : (netD M W I).cl k = true := by
  show (D.cls k (M.map D.int) && (D.cls k (W.map wD) && (D.cls k (I.map D.int) && true))) = true
  rw [cls_ints, cls_ints, cls_wD]; rfl
theorem I_len : ∀ {I : List Int} {a b : Int}, I.Pairwise (· < ·) → (∀ i ∈ I, a ≤ i ∧ i < b) → (I.length : Int) ≤ max 0 (b - a)
  | [], a, b, _, _ => by simp; omega
  | x :: I, a, b, hp, hr => by
    obtain ⟨h1, h2⟩ := List.pairwise_cons.mp hp
    have hx := hr x List.mem_cons_self
    have ih := I_len (a := x + 1) (b := b) h2 fun i hi => by
      have := h1 i hi
      have := hr i (List.mem_cons_of_mem _ hi)
      omega
    rw [List.length_cons]
    omega
theorem pure_trimmed : ∀ ds h Q0 E0, sp_trimmed ds h Q0 E0 → WfH h → D.cls h.length ds = true → r_trimmed (EndOk h Q0) (zstart N_trimmed ds) h := fun ds h Q E ⟨M, W, I, c, e, V, h0, h1, z⟩ hw hc => by
  subst e
  have hsl := sizeLine_eq
  have kk := kept_ok V h0 h1
  have hn := V.n2
  have hwl := V.wl
  have hkl := keptL_len W c M.length
  have hIl := I_len V.ia V.ir
  show r_trimmed (EndOk h Q) [some (netD M W I), some (.int c), none, none, none, none, none, none, none, none, none, none] h
  unfold r_trimmed
  simp only [zSeq, zAsg, zRet, zRetN, zIfS, zNext, zDrop, zBreak, zCont, zVar, zC, zOp, zUn, zName, zgTup, zgCons, zgNil, zgSub, zAug, zAugS, zPar, zPar3, zAndV, zOrV, zNotV, zTest, zTestE, zAnd, zOr, zNot, zIf, zCh, zCB, zCall, zCKw, zCons, zNil, zTup, zLst, newL, newDK, zIx, zLe, zLt, zGt, zGe, zNe_ii, zEq_ii, zIsN, zNotN, zIn, zNotIn, zSub, zMod, zFdiv, zPow, zMul, zAdd, zNeg, zI2, zI2C, zLen, zIsi, zTuple, zTupleF, zList, zAbs, zInt1, zDivmod, zMin2, zSet, zGet, zSl, zSlV, zPart, zNoPart, zTix, zBM, zAppend, isL, tyName, kit_tt, kit_ii, kit_ib, sqR, lsR, lsM, dkM, dtM, dLook, Z.keyOf, frS, ziSeq, ziEnum, ziR1, ziR2, ziR3, zFor, zLC, zDC, zYes, zwipe, zDisp, zPairs, zmerge, zSortR3, zSortedI, zSortedDI, zDictOf, List.getElem?_cons_zero, List.getElem?_cons_succ, List.set_cons_zero, List.set_cons_succ, List.length_cons, List.length_nil, List.map_cons, List.map_nil, List.length_map, Bool.not_true, Bool.not_false, decide_true, decide_false]
  refine ⟨M, W, I, c, rfl, V, h0, h1, ?_⟩
  generalize hK : keptL W c M.length = K at kk z hkl ⊢
  unfold netD dI dW
  simp only [zSeq, zAsg, zRet, zRetN, zIfS, zNext, zDrop, zBreak, zCont, zVar, zC, zOp, zUn, zName, zgTup, zgCons, zgNil, zgSub, zAug, zAugS, zPar, zPar3, zAndV, zOrV, zNotV, zTest, zTestE, zAnd, zOr, zNot, zIf, zCh, zCB, zCall, zCKw, zCons, zNil, zTup, zLst, newL, newDK, zIx, zLe, zLt, zGt, zGe, zNe_ii, zEq_ii, zIsN, zNotN, zIn, zNotIn, zSub, zMod, zFdiv, zPow, zMul, zAdd, zNeg, zI2, zI2C, zLen, zIsi, zTuple, zTupleF, zList, zAbs, zInt1, zDivmod, zMin2, zSet, zGet, zSl, zSlV, zPart, zNoPart, zTix, zBM, zAppend, isL, tyName, kit_tt, kit_ii, kit_ib, sqR, lsR, lsM, dkM, dtM, dLook, Z.keyOf, frS, ziSeq, ziEnum, ziR1, ziR2, ziR3, zFor, zLC, zDC, zYes, zwipe, zDisp, zPairs, zmerge, zSortR3, zSortedI, zSortedDI, zDictOf, List.getElem?_cons_zero, List.getElem?_cons_succ, List.set_cons_zero, List.set_cons_succ, List.length_cons, List.length_nil, List.map_cons, List.map_nil, List.length_map, Bool.not_true, Bool.not_false, decide_true, decide_false]
  refine ⟨trivial, loop_places K [] kk.nd (by simp; omega) ?_⟩
  rw [List.nil_append]
  have hcl : (cnt 0 K.length).length = K.length := cnt_length 0 _
  refine lcl wD (fun w => decide (w.2.1 ∈ K)) (fun w => wD (tW K w)) _ W [] (fun w hw K' N y => ?_) (by rw [List.length_nil]; omega) ?_
  · obtain ⟨a, b, d⟩ := w
    have y' : if decide (b ∈ K) = true then K' (wD (tW K (a, b, d))) h else N h := y
    simp only [zSeq, zAsg, zRet, zRetN, zIfS, zNext, zDrop, zBreak, zCont, zVar, zC, zOp, zUn, zName, zgTup, zgCons, zgNil, zgSub, zAug, zAugS, zPar, zPar3, zAndV, zOrV, zNotV, zTest, zTestE, zAnd, zOr, zNot, zIf, zCh, zCB, zCall, zCKw, zCons, zNil, zTup, zLst, newL, newDK, zIx, zLe, zLt, zGt, zGe, zNe_ii, zEq_ii, zIsN, zNotN, zIn, zNotIn, zSub, zMod, zFdiv, zPow, zMul, zAdd, zNeg, zI2, zI2C, zLen, zIsi, zTuple, zTupleF, zList, zAbs, zInt1, zDivmod, zMin2, zSet, zGet, zSl, zSlV, zPart, zNoPart, zTix, zBM, zAppend, isL, tyName, kit_tt, kit_ii, kit_ib, sqR, lsR, lsM, dkM, dtM, dLook, Z.keyOf, frS, ziSeq, ziEnum, ziR1, ziR2, ziR3, zFor, zLC, zDC, zYes, zwipe, zDisp, zPairs, zmerge, zSortR3, zSortedI, zSortedDI, zDictOf, List.getElem?_cons_zero, List.getElem?_cons_succ, List.set_cons_zero, List.set_cons_succ, List.length_cons, List.length_nil, List.map_cons, List.map_nil, List.length_map, Bool.not_true, Bool.not_false, decide_true, decide_false, cg2_trimmed, ct1_trimmed, ce2_trimmed, wD, at0, at1, at2, inB_dict b hcl]
    by_cases hb : b ∈ K
    · rw [decide_eq_true hb] at y' ⊢
      rw [zval_cnt K 0 b hb, zval_cnt K 0 a (kk.cl _ hw hb)]
      simp only [zSeq, zAsg, zRet, zRetN, zIfS, zNext, zDrop, zBreak, zCont, zVar, zC, zOp, zUn, zName, zgTup, zgCons, zgNil, zgSub, zAug, zAugS, zPar, zPar3, zAndV, zOrV, zNotV, zTest, zTestE, zAnd, zOr, zNot, zIf, zCh, zCB, zCall, zCKw, zCons, zNil, zTup, zLst, newL, newDK, zIx, zLe, zLt, zGt, zGe, zNe_ii, zEq_ii, zIsN, zNotN, zIn, zNotIn, zSub, zMod, zFdiv, zPow, zMul, zAdd, zNeg, zI2, zI2C, zLen, zIsi, zTuple, zTupleF, zList, zAbs, zInt1, zDivmod, zMin2, zSet, zGet, zSl, zSlV, zPart, zNoPart, zTix, zBM, zAppend, isL, tyName, kit_tt, kit_ii, kit_ib, sqR, lsR, lsM, dkM, dtM, dLook, Z.keyOf, frS, ziSeq, ziEnum, ziR1, ziR2, ziR3, zFor, zLC, zDC, zYes, zwipe, zDisp, zPairs, zmerge, zSortR3, zSortedI, zSortedDI, zDictOf, List.getElem?_cons_zero, List.getElem?_cons_succ, List.set_cons_zero, List.set_cons_succ, List.length_cons, List.length_nil, List.map_cons, List.map_nil, List.length_map, Bool.not_true, Bool.not_false, decide_true, decide_false, Nat.zero_add]
      exact ⟨by omega, y'⟩
    · rw [decide_eq_false hb] at y' ⊢
      exact y'
  · simp only [zSeq, zAsg, zRet, zRetN, zIfS, zNext, zDrop, zBreak, zCont, zVar, zC, zOp, zUn, zName, zgTup, zgCons, zgNil, zgSub, zAug, zAugS, zPar, zPar3, zAndV, zOrV, zNotV, zTest, zTestE, zAnd, zOr, zNot, zIf, zCh, zCB, zCall, zCKw, zCons, zNil, zTup, zLst, newL, newDK, zIx, zLe, zLt, zGt, zGe, zNe_ii, zEq_ii, zIsN, zNotN, zIn, zNotIn, zSub, zMod, zFdiv, zPow, zMul, zAdd, zNeg, zI2, zI2C, zLen, zIsi, zTuple, zTupleF, zList, zAbs, zInt1, zDivmod, zMin2, zSet, zGet, zSl, zSlV, zPart, zNoPart, zTix, zBM, zAppend, isL, tyName, kit_tt, kit_ii, kit_ib, sqR, lsR, lsM, dkM, dtM, dLook, Z.keyOf, frS, ziSeq, ziEnum, ziR1, ziR2, ziR3, zFor, zLC, zDC, zYes, zwipe, zDisp, zPairs, zmerge, zSortR3, zSortedI, zSortedDI, zDictOf, List.getElem?_cons_zero, List.getElem?_cons_succ, List.set_cons_zero, List.set_cons_succ, List.length_cons, List.length_nil, List.map_cons, List.map_nil, List.length_map, Bool.not_true, Bool.not_false, decide_true, decide_false]
    refine lcl D.int (fun i => decide (i ∈ K)) (fun i => .int ((K.idxOf i : Nat))) _ I [] (fun i hi K' N y => ?_) (by rw [List.length_nil]; omega) ?_
    · simp only [zSeq, zAsg, zRet, zRetN, zIfS, zNext, zDrop, zBreak, zCont, zVar, zC, zOp, zUn, zName, zgTup, zgCons, zgNil, zgSub, zAug, zAugS, zPar, zPar3, zAndV, zOrV, zNotV, zTest, zTestE, zAnd, zOr, zNot, zIf, zCh, zCB, zCall, zCKw, zCons, zNil, zTup, zLst, newL, newDK, zIx, zLe, zLt, zGt, zGe, zNe_ii, zEq_ii, zIsN, zNotN, zIn, zNotIn, zSub, zMod, zFdiv, zPow, zMul, zAdd, zNeg, zI2, zI2C, zLen, zIsi, zTuple, zTupleF, zList, zAbs, zInt1, zDivmod, zMin2, zSet, zGet, zSl, zSlV, zPart, zNoPart, zTix, zBM, zAppend, isL, tyName, kit_tt, kit_ii, kit_ib, sqR, lsR, lsM, dkM, dtM, dLook, Z.keyOf, frS, ziSeq, ziEnum, ziR1, ziR2, ziR3, zFor, zLC, zDC, zYes, zwipe, zDisp, zPairs, zmerge, zSortR3, zSortedI, zSortedDI, zDictOf, List.getElem?_cons_zero, List.getElem?_cons_succ, List.set_cons_zero, List.set_cons_succ, List.length_cons, List.length_nil, List.map_cons, List.map_nil, List.length_map, Bool.not_true, Bool.not_false, decide_true, decide_false, cg3_trimmed, ct2_trimmed, ce3_trimmed, inB_dict i hcl]
      by_cases hb : i ∈ K
      · rw [decide_eq_true hb] at y ⊢
        rw [zval_cnt K 0 i hb]
        simp only [zSeq, zAsg, zRet, zRetN, zIfS, zNext, zDrop, zBreak, zCont, zVar, zC, zOp, zUn, zName, zgTup, zgCons, zgNil, zgSub, zAug, zAugS, zPar, zPar3, zAndV, zOrV, zNotV, zTest, zTestE, zAnd, zOr, zNot, zIf, zCh, zCB, zCall, zCKw, zCons, zNil, zTup, zLst, newL, newDK, zIx, zLe, zLt, zGt, zGe, zNe_ii, zEq_ii, zIsN, zNotN, zIn, zNotIn, zSub, zMod, zFdiv, zPow, zMul, zAdd, zNeg, zI2, zI2C, zLen, zIsi, zTuple, zTupleF, zList, zAbs, zInt1, zDivmod, zMin2, zSet, zGet, zSl, zSlV, zPart, zNoPart, zTix, zBM, zAppend, isL, tyName, kit_tt, kit_ii, kit_ib, sqR, lsR, lsM, dkM, dtM, dLook, Z.keyOf, frS, ziSeq, ziEnum, ziR1, ziR2, ziR3, zFor, zLC, zDC, zYes, zwipe, zDisp, zPairs, zmerge, zSortR3, zSortedI, zSortedDI, zDictOf, List.getElem?_cons_zero, List.getElem?_cons_succ, List.set_cons_zero, List.set_cons_succ, List.length_cons, List.length_nil, List.map_cons, List.map_nil, List.length_map, Bool.not_true, Bool.not_false, decide_true, decide_false, Nat.zero_add]
        exact y
      · rw [decide_eq_false hb] at y ⊢
        exact y
    · simp only [zSeq, zAsg, zRet, zRetN, zIfS, zNext, zDrop, zBreak, zCont, zVar, zC, zOp, zUn, zName, zgTup, zgCons, zgNil, zgSub, zAug, zAugS, zPar, zPar3, zAndV, zOrV, zNotV, zTest, zTestE, zAnd, zOr, zNot, zIf, zCh, zCB, zCall, zCKw, zCons, zNil, zTup, zLst, newL, newDK, zIx, zLe, zLt, zGt, zGe, zNe_ii, zEq_ii, zIsN, zNotN, zIn, zNotIn, zSub, zMod, zFdiv, zPow, zMul, zAdd, zNeg, zI2, zI2C, zLen, zIsi, zTuple, zTupleF, zList, zAbs, zInt1, zDivmod, zMin2, zSet, zGet, zSl, zSlV, zPart, zNoPart, zTix, zBM, zAppend, isL, tyName, kit_tt, kit_ii, kit_ib, sqR, lsR, lsM, dkM, dtM, dLook, Z.keyOf, frS, ziSeq, ziEnum, ziR1, ziR2, ziR3, zFor, zLC, zDC, zYes, zwipe, zDisp, zPairs, zmerge, zSortR3, zSortedI, zSortedDI, zDictOf, List.getElem?_cons_zero, List.getElem?_cons_succ, List.set_cons_zero, List.set_cons_succ, List.length_cons, List.length_nil, List.map_cons, List.map_nil, List.length_map, Bool.not_true, Bool.not_false, decide_true, decide_false]
      refine lclA D.int (fun x => .int (M.getD x.toNat 0)) _ K (fun x hx K' y => ?_) (by omega) ?_
      · have hr := kk.rng x hx
        simp only [zSeq, zAsg, zRet, zRetN, zIfS, zNext, zDrop, zBreak, zCont, zVar, zC, zOp, zUn, zName, zgTup, zgCons, zgNil, zgSub, zAug, zAugS, zPar, zPar3, zAndV, zOrV, zNotV, zTest, zTestE, zAnd, zOr, zNot, zIf, zCh, zCB, zCall, zCKw, zCons, zNil, zTup, zLst, newL, newDK, zIx, zLe, zLt, zGt, zGe, zNe_ii, zEq_ii, zIsN, zNotN, zIn, zNotIn, zSub, zMod, zFdiv, zPow, zMul, zAdd, zNeg, zI2, zI2C, zLen, zIsi, zTuple, zTupleF, zList, zAbs, zInt1, zDivmod, zMin2, zSet, zGet, zSl, zSlV, zPart, zNoPart, zTix, zBM, zAppend, isL, tyName, kit_tt, kit_ii, kit_ib, sqR, lsR, lsM, dkM, dtM, dLook, Z.keyOf, frS, ziSeq, ziEnum, ziR1, ziR2, ziR3, zFor, zLC, zDC, zYes, zwipe, zDisp, zPairs, zmerge, zSortR3, zSortedI, zSortedDI, zDictOf, List.getElem?_cons_zero, List.getElem?_cons_succ, List.set_cons_zero, List.set_cons_succ, List.length_cons, List.length_nil, List.map_cons, List.map_nil, List.length_map, Bool.not_true, Bool.not_false, decide_true, decide_false, cg4_trimmed, ce4_trimmed]
        rw [atZ hr.1 (map_get (getD_of (by omega)))]
        exact y
      · simp only [zSeq, zAsg, zRet, zRetN, zIfS, zNext, zDrop, zBreak, zCont, zVar, zC, zOp, zUn, zName, zgTup, zgCons, zgNil, zgSub, zAug, zAugS, zPar, zPar3, zAndV, zOrV, zNotV, zTest, zTestE, zAnd, zOr, zNot, zIf, zCh, zCB, zCall, zCKw, zCons, zNil, zTup, zLst, newL, newDK, zIx, zLe, zLt, zGt, zGe, zNe_ii, zEq_ii, zIsN, zNotN, zIn, zNotIn, zSub, zMod, zFdiv, zPow, zMul, zAdd, zNeg, zI2, zI2C, zLen, zIsi, zTuple, zTupleF, zList, zAbs, zInt1, zDivmod, zMin2, zSet, zGet, zSl, zSlV, zPart, zNoPart, zTix, zBM, zAppend, isL, tyName, kit_tt, kit_ii, kit_ib, sqR, lsR, lsM, dkM, dtM, dLook, Z.keyOf, frS, ziSeq, ziEnum, ziR1, ziR2, ziR3, zFor, zLC, zDC, zYes, zwipe, zDisp, zPairs, zmerge, zSortR3, zSortedI, zSortedDI, zDictOf, List.getElem?_cons_zero, List.getElem?_cons_succ, List.set_cons_zero, List.set_cons_succ, List.length_cons, List.length_nil, List.map_cons, List.map_nil, List.length_map, Bool.not_true, Bool.not_false, decide_true, decide_false, List.nil_append]
        refine ⟨by omega, by omega, ?_⟩
        have e1 : K.map (fun x => D.int (M.getD x.toNat 0)) = (trimM M K).map D.int := by
          unfold trimM
          rw [List.map_map]; rfl
        have e2 : (W.filter fun w => decide (w.2.1 ∈ K)).map (fun w => wD (tW K w)) = (trimW W K).map wD := by
          unfold trimW
          rw [List.map_map]; rfl
        have e3 : (I.filter fun i => decide (i ∈ K)).map (fun i => D.int ((K.idxOf i : Nat))) = (trimI I K).map D.int := by
          unfold trimI
          rw [List.map_map]; rfl
        rw [e1, e2, e3]
        refine Exit.same0 hw ?_ z
        show ((netD (trimM M K) (trimW W K) (trimI I K)).cl _ && (D.cls _ (K.map D.int) && true)) = true
        rw [cl_netD, cls_ints]; rfl
end Z54
namespace Z54
open PySem PySem.Spec PyProof.Rows L2 Z
abbrev N__law_kept : List Str := ["mesh", "some", "place", "k", "v", "wires", "u", "w"]
def cg1__law_kept : ZG := (zgTup 2 (zgCons (zName 3) (zgCons (zName 4) zgNil)))
def ce1__law_kept : ZE := (zTup (zCons (zVar 4) (zCons (zVar 3) zNil)))
def cg2__law_kept : ZG := (zgTup 3 (zgCons (zName 6) (zgCons (zName 4) (zgCons (zName 7) zgNil))))
def ce2__law_kept : ZE := (zTup (zCons (zOp zIx (zVar 2) (zVar 6)) (zCons (zOp zIx (zVar 2) (zVar 4)) (zCons (zVar 7) zNil))))
def ct1__law_kept : ZT := (zAnd (zTest (zOp zIn (zVar 6) (zVar 2))) (zTest (zOp zIn (zVar 4) (zVar 2))))
def cg3__law_kept : ZG := (zName 4)
def ce3__law_kept : ZE := (zOp zIx (zOp zIx (zVar 0) (zC (.int 0))) (zVar 4))
def cg4__law_kept : ZG := (zName 4)
def ce4__law_kept : ZE := (zOp zIx (zVar 2) (zVar 4))
def ct2__law_kept : ZT := (zTest (zOp zIn (zVar 4) (zVar 2)))
def r__law_kept : ZTS := (zSeq (zAsg (zCB (zDictOf false) (zCons (zLC false (ziEnum (zCons (zVar 1) zNil)) cg1__law_kept zYes ce1__law_kept [3, 4]) zNil)) (zName 2)) (zSeq (zAsg (zCB zTuple (zCons (zLC false (ziSeq (zOp zIx (zVar 0) (zC (.int 1)))) cg2__law_kept ct1__law_kept ce2__law_kept [6, 4, 7]) zNil)) (zName 5)) (zRet (zTup (zCons (zCB zTuple (zCons (zLC false (ziSeq (zVar 1)) cg3__law_kept zYes ce3__law_kept [4]) zNil)) (zCons (zVar 5) (zCons (zCB zTuple (zCons (zLC false (ziSeq (zOp zIx (zVar 0) (zC (.int 2)))) cg4__law_kept ct2__law_kept ce4__law_kept [4]) zNil)) zNil)))))))
def sp__law_kept : ZSp := fun ds h Q _ => ∃ M W I K, ds = [netD M W I, .tf (K.map D.int)] ∧ Valid M W I ∧ KOk W M.length K ∧ Q (netD (trimM M K) (trimW W K) (trimI I K)) h
theorem len__law_kept : ∀ ds h Q E, sp__law_kept ds h Q E → ds.length = 2 := fun ds h Q E ⟨M, W, I, c, e, _⟩ => by rw [e]; rfl
theorem KOk.len {W : List T3} {n : Nat} {K : List Int} (k : KOk W n K) : K.length ≤ n := by
  have := I_len k.asc k.rng
  omega
theorem pure__law_kept : ∀ ds h Q0 E0, sp__law_kept ds h Q0 E0 → WfH h → D.cls h.length ds = true → r__law_kept (EndOk h Q0) (zstart N__law_kept ds) h := fun ds h Q E ⟨M, W, I, K, e, V, kk, z⟩ hw hc => by
  subst e
  have hsl := sizeLine_eq
  have hn := V.n2
  have hwl := V.wl
  have hkl := kk.len
  have hIl := I_len V.ia V.ir
  have hcl : (cnt 0 K.length).length = K.length := cnt_length 0 _
  show r__law_kept (EndOk h Q) [some (netD M W I), some (.tf (K.map D.int)), none, none, none, none, none, none] h
  unfold r__law_kept
  simp only [zSeq, zAsg, zRet, zRetN, zIfS, zNext, zDrop, zBreak, zCont, zVar, zC, zOp, zUn, zName, zgTup, zgCons, zgNil, zgSub, zAug, zAugS, zPar, zPar3, zAndV, zOrV, zNotV, zTest, zTestE, zAnd, zOr, zNot, zIf, zCh, zCB, zCall, zCKw, zCons, zNil, zTup, zLst, newL, newDK, zIx, zLe, zLt, zGt, zGe, zNe_ii, zEq_ii, zIsN, zNotN, zIn, zNotIn, zSub, zMod, zFdiv, zPow, zMul, zAdd, zNeg, zI2, zI2C, zLen, zIsi, zTuple, zTupleF, zList, zAbs, zInt1, zDivmod, zMin2, zSet, zGet, zSl, zSlV, zPart, zNoPart, zTix, zBM, zAppend, isL, tyName, kit_tt, kit_ii, kit_ib, sqR, lsR, lsM, dkM, dtM, dLook, Z.keyOf, frS, ziSeq, ziEnum, ziR1, ziR2, ziR3, zFor, zLC, zDC, zYes, zwipe, zDisp, zPairs, zmerge, zSortR3, zSortedI, zSortedDI, zDictOf, List.getElem?_cons_zero, List.getElem?_cons_succ, List.set_cons_zero, List.set_cons_succ, List.length_cons, List.length_nil, List.map_cons, List.map_nil, List.length_map, Bool.not_true, Bool.not_false, decide_true, decide_false]
  rw [zenum_map]
  refine lclA (fun p : Nat × Int => .tup [.int p.1, .int p.2]) (fun p => .tup [.int p.2, .int p.1]) _ (enumL 0 K) (fun p hp K' y => ?_) (by rw [enumL_length]; omega) ?_
  · simp only [zSeq, zAsg, zRet, zRetN, zIfS, zNext, zDrop, zBreak, zCont, zVar, zC, zOp, zUn, zName, zgTup, zgCons, zgNil, zgSub, zAug, zAugS, zPar, zPar3, zAndV, zOrV, zNotV, zTest, zTestE, zAnd, zOr, zNot, zIf, zCh, zCB, zCall, zCKw, zCons, zNil, zTup, zLst, newL, newDK, zIx, zLe, zLt, zGt, zGe, zNe_ii, zEq_ii, zIsN, zNotN, zIn, zNotIn, zSub, zMod, zFdiv, zPow, zMul, zAdd, zNeg, zI2, zI2C, zLen, zIsi, zTuple, zTupleF, zList, zAbs, zInt1, zDivmod, zMin2, zSet, zGet, zSl, zSlV, zPart, zNoPart, zTix, zBM, zAppend, isL, tyName, kit_tt, kit_ii, kit_ib, sqR, lsR, lsM, dkM, dtM, dLook, Z.keyOf, frS, ziSeq, ziEnum, ziR1, ziR2, ziR3, zFor, zLC, zDC, zYes, zwipe, zDisp, zPairs, zmerge, zSortR3, zSortedI, zSortedDI, zDictOf, List.getElem?_cons_zero, List.getElem?_cons_succ, List.set_cons_zero, List.set_cons_succ, List.length_cons, List.length_nil, List.map_cons, List.map_nil, List.length_map, Bool.not_true, Bool.not_false, decide_true, decide_false, cg1__law_kept, ce1__law_kept]
    exact ⟨trivial, by omega, y⟩
  · have em := merge_cnt K [] kk.nd
    have ed := dpairs_of (fun p : Nat × Int => D.int p.2) (fun p => D.int p.1) (enumL 0 K)
    rw [List.nil_append] at em
    have em' : zmerge ((enumL 0 K).map fun p => (D.int p.2, D.int p.1)) [] [] = some (ik K, cnt 0 K.length) := em
    simp only [zSeq, zAsg, zRet, zRetN, zIfS, zNext, zDrop, zBreak, zCont, zVar, zC, zOp, zUn, zName, zgTup, zgCons, zgNil, zgSub, zAug, zAugS, zPar, zPar3, zAndV, zOrV, zNotV, zTest, zTestE, zAnd, zOr, zNot, zIf, zCh, zCB, zCall, zCKw, zCons, zNil, zTup, zLst, newL, newDK, zIx, zLe, zLt, zGt, zGe, zNe_ii, zEq_ii, zIsN, zNotN, zIn, zNotIn, zSub, zMod, zFdiv, zPow, zMul, zAdd, zNeg, zI2, zI2C, zLen, zIsi, zTuple, zTupleF, zList, zAbs, zInt1, zDivmod, zMin2, zSet, zGet, zSl, zSlV, zPart, zNoPart, zTix, zBM, zAppend, isL, tyName, kit_tt, kit_ii, kit_ib, sqR, lsR, lsM, dkM, dtM, dLook, Z.keyOf, frS, ziSeq, ziEnum, ziR1, ziR2, ziR3, zFor, zLC, zDC, zYes, zwipe, zDisp, zPairs, zmerge, zSortR3, zSortedI, zSortedDI, zDictOf, List.getElem?_cons_zero, List.getElem?_cons_succ, List.set_cons_zero, List.set_cons_succ, List.length_cons, List.length_nil, List.map_cons, List.map_nil, List.length_map, Bool.not_true, Bool.not_false, decide_true, decide_false, ed, em']
    unfold netD dI dW
    simp only [zSeq, zAsg, zRet, zRetN, zIfS, zNext, zDrop, zBreak, zCont, zVar, zC, zOp, zUn, zName, zgTup, zgCons, zgNil, zgSub, zAug, zAugS, zPar, zPar3, zAndV, zOrV, zNotV, zTest, zTestE, zAnd, zOr, zNot, zIf, zCh, zCB, zCall, zCKw, zCons, zNil, zTup, zLst, newL, newDK, zIx, zLe, zLt, zGt, zGe, zNe_ii, zEq_ii, zIsN, zNotN, zIn, zNotIn, zSub, zMod, zFdiv, zPow, zMul, zAdd, zNeg, zI2, zI2C, zLen, zIsi, zTuple, zTupleF, zList, zAbs, zInt1, zDivmod, zMin2, zSet, zGet, zSl, zSlV, zPart, zNoPart, zTix, zBM, zAppend, isL, tyName, kit_tt, kit_ii, kit_ib, sqR, lsR, lsM, dkM, dtM, dLook, Z.keyOf, frS, ziSeq, ziEnum, ziR1, ziR2, ziR3, zFor, zLC, zDC, zYes, zwipe, zDisp, zPairs, zmerge, zSortR3, zSortedI, zSortedDI, zDictOf, List.getElem?_cons_zero, List.getElem?_cons_succ, List.set_cons_zero, List.set_cons_succ, List.length_cons, List.length_nil, List.map_cons, List.map_nil, List.length_map, Bool.not_true, Bool.not_false, decide_true, decide_false, at0, at1, at2]
    refine lcl wD (fun w => decide (w.2.1 ∈ K)) (fun w => wD (tW K w)) _ W [] (fun w hw K' N y => ?_) (by rw [List.length_nil]; omega) ?_
    · obtain ⟨a, b, d⟩ := w
      have y' : if decide (b ∈ K) = true then K' (wD (tW K (a, b, d))) h else N h := y
      simp only [zSeq, zAsg, zRet, zRetN, zIfS, zNext, zDrop, zBreak, zCont, zVar, zC, zOp, zUn, zName, zgTup, zgCons, zgNil, zgSub, zAug, zAugS, zPar, zPar3, zAndV, zOrV, zNotV, zTest, zTestE, zAnd, zOr, zNot, zIf, zCh, zCB, zCall, zCKw, zCons, zNil, zTup, zLst, newL, newDK, zIx, zLe, zLt, zGt, zGe, zNe_ii, zEq_ii, zIsN, zNotN, zIn, zNotIn, zSub, zMod, zFdiv, zPow, zMul, zAdd, zNeg, zI2, zI2C, zLen, zIsi, zTuple, zTupleF, zList, zAbs, zInt1, zDivmod, zMin2, zSet, zGet, zSl, zSlV, zPart, zNoPart, zTix, zBM, zAppend, isL, tyName, kit_tt, kit_ii, kit_ib, sqR, lsR, lsM, dkM, dtM, dLook, Z.keyOf, frS, ziSeq, ziEnum, ziR1, ziR2, ziR3, zFor, zLC, zDC, zYes, zwipe, zDisp, zPairs, zmerge, zSortR3, zSortedI, zSortedDI, zDictOf, List.getElem?_cons_zero, List.getElem?_cons_succ, List.set_cons_zero, List.set_cons_succ, List.length_cons, List.length_nil, List.map_cons, List.map_nil, List.length_map, Bool.not_true, Bool.not_false, decide_true, decide_false, cg2__law_kept, ct1__law_kept, ce2__law_kept, wD, inB_dict b hcl, inB_dict a hcl]
      refine ⟨trivial, ?_⟩
      by_cases hb : b ∈ K
      · have ha := kk.cl _ hw hb
        dsimp only at ha
        rw [decide_eq_true ha]
        rw [decide_eq_true hb] at y' ⊢
        rw [zval_cnt K 0 b hb, zval_cnt K 0 a ha]
        simp only [zSeq, zAsg, zRet, zRetN, zIfS, zNext, zDrop, zBreak, zCont, zVar, zC, zOp, zUn, zName, zgTup, zgCons, zgNil, zgSub, zAug, zAugS, zPar, zPar3, zAndV, zOrV, zNotV, zTest, zTestE, zAnd, zOr, zNot, zIf, zCh, zCB, zCall, zCKw, zCons, zNil, zTup, zLst, newL, newDK, zIx, zLe, zLt, zGt, zGe, zNe_ii, zEq_ii, zIsN, zNotN, zIn, zNotIn, zSub, zMod, zFdiv, zPow, zMul, zAdd, zNeg, zI2, zI2C, zLen, zIsi, zTuple, zTupleF, zList, zAbs, zInt1, zDivmod, zMin2, zSet, zGet, zSl, zSlV, zPart, zNoPart, zTix, zBM, zAppend, isL, tyName, kit_tt, kit_ii, kit_ib, sqR, lsR, lsM, dkM, dtM, dLook, Z.keyOf, frS, ziSeq, ziEnum, ziR1, ziR2, ziR3, zFor, zLC, zDC, zYes, zwipe, zDisp, zPairs, zmerge, zSortR3, zSortedI, zSortedDI, zDictOf, List.getElem?_cons_zero, List.getElem?_cons_succ, List.set_cons_zero, List.set_cons_succ, List.length_cons, List.length_nil, List.map_cons, List.map_nil, List.length_map, Bool.not_true, Bool.not_false, decide_true, decide_false, Nat.zero_add]
        exact ⟨by omega, y'⟩
      · rw [decide_eq_false hb] at y' ⊢
        by_cases ha : a ∈ K
        · rw [decide_eq_true ha]
          exact y'
        · rw [decide_eq_false ha]
          exact y'
    · simp only [zSeq, zAsg, zRet, zRetN, zIfS, zNext, zDrop, zBreak, zCont, zVar, zC, zOp, zUn, zName, zgTup, zgCons, zgNil, zgSub, zAug, zAugS, zPar, zPar3, zAndV, zOrV, zNotV, zTest, zTestE, zAnd, zOr, zNot, zIf, zCh, zCB, zCall, zCKw, zCons, zNil, zTup, zLst, newL, newDK, zIx, zLe, zLt, zGt, zGe, zNe_ii, zEq_ii, zIsN, zNotN, zIn, zNotIn, zSub, zMod, zFdiv, zPow, zMul, zAdd, zNeg, zI2, zI2C, zLen, zIsi, zTuple, zTupleF, zList, zAbs, zInt1, zDivmod, zMin2, zSet, zGet, zSl, zSlV, zPart, zNoPart, zTix, zBM, zAppend, isL, tyName, kit_tt, kit_ii, kit_ib, sqR, lsR, lsM, dkM, dtM, dLook, Z.keyOf, frS, ziSeq, ziEnum, ziR1, ziR2, ziR3, zFor, zLC, zDC, zYes, zwipe, zDisp, zPairs, zmerge, zSortR3, zSortedI, zSortedDI, zDictOf, List.getElem?_cons_zero, List.getElem?_cons_succ, List.set_cons_zero, List.set_cons_succ, List.length_cons, List.length_nil, List.map_cons, List.map_nil, List.length_map, Bool.not_true, Bool.not_false, decide_true, decide_false, List.nil_append]
      refine lclA D.int (fun x => .int (M.getD x.toNat 0)) _ K (fun x hx K' y => ?_) (by omega) ?_
      · have hr := kk.rng x hx
        simp only [zSeq, zAsg, zRet, zRetN, zIfS, zNext, zDrop, zBreak, zCont, zVar, zC, zOp, zUn, zName, zgTup, zgCons, zgNil, zgSub, zAug, zAugS, zPar, zPar3, zAndV, zOrV, zNotV, zTest, zTestE, zAnd, zOr, zNot, zIf, zCh, zCB, zCall, zCKw, zCons, zNil, zTup, zLst, newL, newDK, zIx, zLe, zLt, zGt, zGe, zNe_ii, zEq_ii, zIsN, zNotN, zIn, zNotIn, zSub, zMod, zFdiv, zPow, zMul, zAdd, zNeg, zI2, zI2C, zLen, zIsi, zTuple, zTupleF, zList, zAbs, zInt1, zDivmod, zMin2, zSet, zGet, zSl, zSlV, zPart, zNoPart, zTix, zBM, zAppend, isL, tyName, kit_tt, kit_ii, kit_ib, sqR, lsR, lsM, dkM, dtM, dLook, Z.keyOf, frS, ziSeq, ziEnum, ziR1, ziR2, ziR3, zFor, zLC, zDC, zYes, zwipe, zDisp, zPairs, zmerge, zSortR3, zSortedI, zSortedDI, zDictOf, List.getElem?_cons_zero, List.getElem?_cons_succ, List.set_cons_zero, List.set_cons_succ, List.length_cons, List.length_nil, List.map_cons, List.map_nil, List.length_map, Bool.not_true, Bool.not_false, decide_true, decide_false, cg3__law_kept, ce3__law_kept, at0]
        rw [atZ hr.1 (map_get (getD_of (by omega)))]
        exact y
      · simp only [zSeq, zAsg, zRet, zRetN, zIfS, zNext, zDrop, zBreak, zCont, zVar, zC, zOp, zUn, zName, zgTup, zgCons, zgNil, zgSub, zAug, zAugS, zPar, zPar3, zAndV, zOrV, zNotV, zTest, zTestE, zAnd, zOr, zNot, zIf, zCh, zCB, zCall, zCKw, zCons, zNil, zTup, zLst, newL, newDK, zIx, zLe, zLt, zGt, zGe, zNe_ii, zEq_ii, zIsN, zNotN, zIn, zNotIn, zSub, zMod, zFdiv, zPow, zMul, zAdd, zNeg, zI2, zI2C, zLen, zIsi, zTuple, zTupleF, zList, zAbs, zInt1, zDivmod, zMin2, zSet, zGet, zSl, zSlV, zPart, zNoPart, zTix, zBM, zAppend, isL, tyName, kit_tt, kit_ii, kit_ib, sqR, lsR, lsM, dkM, dtM, dLook, Z.keyOf, frS, ziSeq, ziEnum, ziR1, ziR2, ziR3, zFor, zLC, zDC, zYes, zwipe, zDisp, zPairs, zmerge, zSortR3, zSortedI, zSortedDI, zDictOf, List.getElem?_cons_zero, List.getElem?_cons_succ, List.set_cons_zero, List.set_cons_succ, List.length_cons, List.length_nil, List.map_cons, List.map_nil, List.length_map, Bool.not_true, Bool.not_false, decide_true, decide_false, at2]
        refine lcl D.int (fun i => decide (i ∈ K)) (fun i => .int ((K.idxOf i : Nat))) _ I [] (fun i hi K' N y => ?_) (by rw [List.length_nil]; omega) ?_
        · simp only [zSeq, zAsg, zRet, zRetN, zIfS, zNext, zDrop, zBreak, zCont, zVar, zC, zOp, zUn, zName, zgTup, zgCons, zgNil, zgSub, zAug, zAugS, zPar, zPar3, zAndV, zOrV, zNotV, zTest, zTestE, zAnd, zOr, zNot, zIf, zCh, zCB, zCall, zCKw, zCons, zNil, zTup, zLst, newL, newDK, zIx, zLe, zLt, zGt, zGe, zNe_ii, zEq_ii, zIsN, zNotN, zIn, zNotIn, zSub, zMod, zFdiv, zPow, zMul, zAdd, zNeg, zI2, zI2C, zLen, zIsi, zTuple, zTupleF, zList, zAbs, zInt1, zDivmod, zMin2, zSet, zGet, zSl, zSlV, zPart, zNoPart, zTix, zBM, zAppend, isL, tyName, kit_tt, kit_ii, kit_ib, sqR, lsR, lsM, dkM, dtM, dLook, Z.keyOf, frS, ziSeq, ziEnum, ziR1, ziR2, ziR3, zFor, zLC, zDC, zYes, zwipe, zDisp, zPairs, zmerge, zSortR3, zSortedI, zSortedDI, zDictOf, List.getElem?_cons_zero, List.getElem?_cons_succ, List.set_cons_zero, List.set_cons_succ, List.length_cons, List.length_nil, List.map_cons, List.map_nil, List.length_map, Bool.not_true, Bool.not_false, decide_true, decide_false, cg4__law_kept, ct2__law_kept, ce4__law_kept, inB_dict i hcl]
          by_cases hb : i ∈ K
          · rw [decide_eq_true hb] at y ⊢
            rw [zval_cnt K 0 i hb]
            simp only [zSeq, zAsg, zRet, zRetN, zIfS, zNext, zDrop, zBreak, zCont, zVar, zC, zOp, zUn, zName, zgTup, zgCons, zgNil, zgSub, zAug, zAugS, zPar, zPar3, zAndV, zOrV, zNotV, zTest, zTestE, zAnd, zOr, zNot, zIf, zCh, zCB, zCall, zCKw, zCons, zNil, zTup, zLst, newL, newDK, zIx, zLe, zLt, zGt, zGe, zNe_ii, zEq_ii, zIsN, zNotN, zIn, zNotIn, zSub, zMod, zFdiv, zPow, zMul, zAdd, zNeg, zI2, zI2C, zLen, zIsi, zTuple, zTupleF, zList, zAbs, zInt1, zDivmod, zMin2, zSet, zGet, zSl, zSlV, zPart, zNoPart, zTix, zBM, zAppend, isL, tyName, kit_tt, kit_ii, kit_ib, sqR, lsR, lsM, dkM, dtM, dLook, Z.keyOf, frS, ziSeq, ziEnum, ziR1, ziR2, ziR3, zFor, zLC, zDC, zYes, zwipe, zDisp, zPairs, zmerge, zSortR3, zSortedI, zSortedDI, zDictOf, List.getElem?_cons_zero, List.getElem?_cons_succ, List.set_cons_zero, List.set_cons_succ, List.length_cons, List.length_nil, List.map_cons, List.map_nil, List.length_map, Bool.not_true, Bool.not_false, decide_true, decide_false, Nat.zero_add]
            exact y
          · rw [decide_eq_false hb] at y ⊢
            exact y
        · simp only [zSeq, zAsg, zRet, zRetN, zIfS, zNext, zDrop, zBreak, zCont, zVar, zC, zOp, zUn, zName, zgTup, zgCons, zgNil, zgSub, zAug, zAugS, zPar, zPar3, zAndV, zOrV, zNotV, zTest, zTestE, zAnd, zOr, zNot, zIf, zCh, zCB, zCall, zCKw, zCons, zNil, zTup, zLst, newL, newDK, zIx, zLe, zLt, zGt, zGe, zNe_ii, zEq_ii, zIsN, zNotN, zIn, zNotIn, zSub, zMod, zFdiv, zPow, zMul, zAdd, zNeg, zI2, zI2C, zLen, zIsi, zTuple, zTupleF, zList, zAbs, zInt1, zDivmod, zMin2, zSet, zGet, zSl, zSlV, zPart, zNoPart, zTix, zBM, zAppend, isL, tyName, kit_tt, kit_ii, kit_ib, sqR, lsR, lsM, dkM, dtM, dLook, Z.keyOf, frS, ziSeq, ziEnum, ziR1, ziR2, ziR3, zFor, zLC, zDC, zYes, zwipe, zDisp, zPairs, zmerge, zSortR3, zSortedI, zSortedDI, zDictOf, List.getElem?_cons_zero, List.getElem?_cons_succ, List.set_cons_zero, List.set_cons_succ, List.length_cons, List.length_nil, List.map_cons, List.map_nil, List.length_map, Bool.not_true, Bool.not_false, decide_true, decide_false, List.nil_append]
          refine ⟨by omega, ?_⟩
          have e1 : K.map (fun x => D.int (M.getD x.toNat 0)) = (trimM M K).map D.int := by
            unfold trimM
            rw [List.map_map]; rfl
          have e2 : (W.filter fun w => decide (w.2.1 ∈ K)).map (fun w => wD (tW K w)) = (trimW W K).map wD := by
            unfold trimW
            rw [List.map_map]; rfl
          have e3 : (I.filter fun i => decide (i ∈ K)).map (fun i => D.int ((K.idxOf i : Nat))) = (trimI I K).map D.int := by
            unfold trimI
            rw [List.map_map]; rfl
          rw [e1, e2, e3]
          exact Exit.same0 hw (cl_netD _ _ _ _) z
end Z54
/-! what the law draws -/
namespace Z54
open PySem PySem.Spec PyProof.Rows L2 Z
abbrev mk : List Key := [.inr "script", .inr "at", .inr "left"]
def DrC (ns : List Int) (a : Nat) (c : Cl) : Prop := ∃ p q : Int, c = .dK mk [.fz (ns.map D.int), .int p, .int q] ∧ 0 ≤ p ∧ p ≤ a ∧ 0 ≤ q ∧ ns.length ≤ 63
theorem DrC.mono {ns : List Int} {a b : Nat} {c : Cl} (h : DrC ns a c) (hab : a ≤ b) : DrC ns b c := by
  obtain ⟨p, q, e, h1, h2, h3, h4⟩ := h
  exact ⟨p, q, e, h1, by omega, h3, h4⟩
theorem DrC.cl {ns : List Int} {a : Nat} {c : Cl} (h : DrC ns a c) (k : Nat) : c.cl k = true := by
  obtain ⟨p, q, rfl, _⟩ := h
  show (D.cls k (ns.map D.int) && (true && (true && true))) = true
  rw [cls_ints]; rfl
theorem look_s (x y z : D) : zval mk [x, y, z] (.inr "script") = some x := rfl
theorem look_a (x y z : D) : zval mk [x, y, z] (.inr "at") = some y := rfl
theorem look_l (x y z : D) : zval mk [x, y, z] (.inr "left") = some z := rfl
theorem putK_a : zputK mk (.inr "at") = mk := rfl
theorem putK_l : zputK mk (.inr "left") = mk := rfl
theorem putV_a (x y z w : D) : zputV mk [x, y, z] (.inr "at") w = [x, w, z] := rfl
theorem putV_l (x y z w : D) : zputV mk [x, y, z] (.inr "left") w = [x, y, w] := rfl
theorem set_at {α : Type} {h : List α} {n : Nat} {c0 : α} (e : h[n]? = some c0) (c : α) : (h.set n c)[n]? = some c := List.getElem?_set_self (List.getElem?_eq_some_iff.mp e).1
abbrev N__law_begun : List Str := ["script"]
def r__law_begun : ZTS := (zRet (zDisp true [((zC (.str "script")), (zVar 0)), ((zC (.str "at")), (zC (.int 0))), ((zC (.str "left")), (zC (.int 0)))]))
def sp__law_begun : ZSp := fun ds h Q _ => ∃ ns : List Int, ds = [.fz (ns.map D.int)] ∧ ns.length ≤ 63 ∧ ∀ c, DrC ns 0 c → Q (.obj h.length) (h ++ [c])
theorem len__law_begun : ∀ ds h Q E, sp__law_begun ds h Q E → ds.length = 1 := fun ds h Q E ⟨ns, e, _⟩ => by rw [e]; rfl
theorem pure__law_begun : ∀ ds h Q0 E0, sp__law_begun ds h Q0 E0 → WfH h → D.cls h.length ds = true → r__law_begun (EndOk h Q0) (zstart N__law_begun ds) h := fun ds h Q E ⟨ns, e, hl, z⟩ hw hc => by
  subst e
  show r__law_begun (EndOk h Q) [some (.fz (ns.map D.int))] h
  unfold r__law_begun
  have em : zmerge [(D.str "script", D.fz (ns.map D.int)), (D.str "at", .int 0), (D.str "left", .int 0)] [] [] = some (mk, [.fz (ns.map D.int), .int 0, .int 0]) := rfl
  simp only [zRet, zDisp, zPairs, zC, zVar, List.getElem?_cons_zero, em, newDK]
  have hd : DrC ns 0 (.dK mk [.fz (ns.map D.int), .int 0, .int 0]) := ⟨0, 0, rfl, by omega, by omega, by omega, hl⟩
  refine ⟨by show 3 ≤ 15; decide, .obj h.length, h ++ [.dK mk [.fz (ns.map D.int), .int 0, .int 0]], by simp, ⟨[], by simp⟩, hw.push (hd.cl _), ⟨rfl, by simp⟩, z _ hd⟩
abbrev N__law_next : List Str := ["m", "total", "found", "k", "cell", "number"]
def ie1__law_next : ZE := (zIf (zTest (zOp zNe (zOp zIx (zVar 0) (zC (.str "script"))) (zLst false zNil))) (zOp zIx (zOp zIx (zVar 0) (zC (.str "script"))) (zOp zMod (zVar 3) (zCB zLen (zCons (zOp zIx (zVar 0) (zC (.str "script"))) zNil)))) (zC (.int 0)))
def r__law_next : ZTS := (zSeq (zIfS (zTest (zOp zGt (zOp zIx (zVar 0) (zC (.str "left"))) (zC (.int 0)))) (zSeq (zAsg (zOp zMod (zOp zIx (zVar 0) (zC (.str "left"))) (zVar 1)) (zName 2)) (zSeq (zAsg (zOp zFdiv (zOp zIx (zVar 0) (zC (.str "left"))) (zVar 1)) (zgSub (zVar 0) (zC (.str "left")) zSet)) (zRet (zVar 2)))) zNext) (zSeq (zAsg (zOp zIx (zVar 0) (zC (.str "at"))) (zName 3)) (zSeq (zAsg (zOp (zAdd false) (zVar 3) (zC (.int 1))) (zgSub (zVar 0) (zC (.str "at")) zSet)) (zSeq (zAsg ie1__law_next (zName 4)) (zSeq (zIfS (zAnd (zTest (zOp zGe (zVar 4) (zOp zPow (zC (.int 10)) (zC (.int 18))))) (zTest (zOp zLt (zVar 3) (zCB zLen (zCons (zOp zIx (zVar 0) (zC (.str "script"))) zNil))))) (zSeq (zAsg (zOp zFdiv (zVar 4) (zVar 1)) (zgSub (zVar 0) (zC (.str "left")) zSet)) (zRet (zOp zMod (zVar 4) (zVar 1)))) zNext) (zSeq (zAsg (zOp (zAdd false) (zOp (zMul false) (zOp zMod (zVar 4) (zC (.int 1000003))) (zC (.int 48271))) (zOp zMod (zOp zFdiv (zVar 4) (zC (.int 1000003))) (zC (.int 1000003)))) (zName 5)) (zSeq (zAsg (zOp zMod (zOp (zAdd false) (zOp (zAdd false) (zOp (zAdd false) (zVar 5) (zOp (zMul false) (zOp (zMul false) (zC (.int 7919)) (zVar 3)) (zVar 3))) (zOp (zMul false) (zC (.int 104729)) (zVar 3))) (zC (.int 53))) (zC (.int 2147483647))) (zName 5)) (zRet (zOp zMod (zOp zFdiv (zOp zMod (zOp (zMul false) (zOp zMod (zOp (zMul false) (zVar 5) (zVar 5)) (zC (.int 2147483629))) (zC (.int 69621))) (zC (.int 2147483587))) (zC (.int 7))) (zVar 1))))))))))
def sp__law_next : ZSp := fun ds h Q _ => ∃ (n : Nat) (t : Int) (ns : List Int) (a : Nat) (c : Cl), ds = [.obj n, .int t] ∧ h[n]? = some c ∧ DrC ns a c ∧ a < 2 ^ 60 ∧ 0 < t ∧ t < 2 ^ 60 ∧ ∀ c' r, DrC ns (a + 1) c' → 0 ≤ r → r < t → Q (.int r) (h.set n c')
theorem len__law_next : ∀ ds h Q E, sp__law_next ds h Q E → ds.length = 2 := fun ds h Q E ⟨n, t, ns, a, c, e, _⟩ => by rw [e]; rfl
theorem cell_ok {n : Nat} {h : AH} {ns : List Int} {k : Int} {x y : D} {s1 s2 s4 s5 : Option D} {Q : ZK} (e : h[n]? = some (.dK mk [.fz (ns.map D.int), x, y])) (hk : 0 ≤ k) (hl : ns.length ≤ 63) (q : ∀ i : Int, Q (.int i) h) : ie1__law_next [some (.obj n), s1, s2, some (.int k), s4, s5] h Q := by
  unfold ie1__law_next
  simp only [zSeq, zAsg, zRet, zRetN, zIfS, zNext, zDrop, zBreak, zCont, zVar, zC, zOp, zUn, zName, zgTup, zgCons, zgNil, zgSub, zAug, zAugS, zPar, zPar3, zAndV, zOrV, zNotV, zTest, zTestE, zAnd, zOr, zNot, zIf, zCh, zCB, zCall, zCKw, zCons, zNil, zTup, zLst, newL, newDK, zIx, zLe, zLt, zGt, zGe, zNe_ii, zEq_ii, zIsN, zNotN, zIn, zNotIn, zInB, zSub, zMod, zFdiv, zPow, zMul, zAdd, zNeg, zI2, zI2C, zLen, zIsi, zTuple, zTupleF, zList, zAbs, zInt1, zDivmod, zMin2, zSet, zGet, zSl, zSlV, zPart, zNoPart, zTix, zBM, zAppend, isL, tyName, kit_tt, kit_ii, kit_ib, sqR, lsR, lsM, dkM, dtM, dLook, Z.keyOf, frS, ziSeq, ziEnum, ziR1, ziR2, ziR3, zFor, zLC, zDC, zYes, zwipe, zDisp, zPairs, zmerge, zSortR3, zSortedI, zSortedDI, zDictOf, List.getElem?_cons_zero, List.getElem?_cons_succ, List.set_cons_zero, List.set_cons_succ, List.length_cons, List.length_nil, List.map_cons, List.map_nil, List.length_map, Bool.not_true, Bool.not_false, decide_true, decide_false, e, look_s]
  refine ⟨by omega, zNe_nil (k := 3) (DP.fz (.ints ns)) (by omega) ?_⟩
  by_cases h0 : ns = []
  · subst h0
    exact q 0
  · rw [decide_eq_false (by simpa using h0)]
    simp only [zSeq, zAsg, zRet, zRetN, zIfS, zNext, zDrop, zBreak, zCont, zVar, zC, zOp, zUn, zName, zgTup, zgCons, zgNil, zgSub, zAug, zAugS, zPar, zPar3, zAndV, zOrV, zNotV, zTest, zTestE, zAnd, zOr, zNot, zIf, zCh, zCB, zCall, zCKw, zCons, zNil, zTup, zLst, newL, newDK, zIx, zLe, zLt, zGt, zGe, zNe_ii, zEq_ii, zIsN, zNotN, zIn, zNotIn, zInB, zSub, zMod, zFdiv, zPow, zMul, zAdd, zNeg, zI2, zI2C, zLen, zIsi, zTuple, zTupleF, zList, zAbs, zInt1, zDivmod, zMin2, zSet, zGet, zSl, zSlV, zPart, zNoPart, zTix, zBM, zAppend, isL, tyName, kit_tt, kit_ii, kit_ib, sqR, lsR, lsM, dkM, dtM, dLook, Z.keyOf, frS, ziSeq, ziEnum, ziR1, ziR2, ziR3, zFor, zLC, zDC, zYes, zwipe, zDisp, zPairs, zmerge, zSortR3, zSortedI, zSortedDI, zDictOf, List.getElem?_cons_zero, List.getElem?_cons_succ, List.set_cons_zero, List.set_cons_succ, List.length_cons, List.length_nil, List.map_cons, List.map_nil, List.length_map, Bool.not_true, Bool.not_false, decide_true, decide_false, e, look_s]
    have hp : 0 < ns.length := List.length_pos_iff.mpr h0
    refine ⟨by omega, ?_⟩
    have h1 := Int.emod_nonneg k (show ((ns.length : Nat) : Int) ≠ 0 by omega)
    have h2 := Int.emod_lt_of_pos k (show 0 < ((ns.length : Nat) : Int) by omega)
    rw [atZ h1 (map_get (getD_of (xs := ns) (k := (k % (ns.length : Nat)).toNat) (by omega)))]
    exact q _
theorem divOk60 {t : Int} (h0 : 0 < t) (h1 : t < 2 ^ 60) : DivOk (0 : Int) t := ⟨h0, (Nat.log2_lt (by omega)).mpr (Nat.lt_trans (show t.natAbs < 2 ^ 60 by omega) (Nat.pow_lt_pow_right (by decide) (by decide)))⟩
theorem pure__law_next : ∀ ds h Q0 E0, sp__law_next ds h Q0 E0 → WfH h → D.cls h.length ds = true → r__law_next (EndOk h Q0) (zstart N__law_next ds) h := fun ds h Q E ⟨n, t, ns, a, c, e, ec, ⟨p, q, e1, h1, h2, h3, h4⟩, ha, ht, ht2, z⟩ hw hc => by
  subst e e1
  have hdv := divOk60 ht ht2
  have hset := fun c => set_at ec c
  show r__law_next (EndOk h Q) [some (.obj n), some (.int t), none, none, none, none] h
  unfold r__law_next
  simp only [zSeq, zAsg, zRet, zRetN, zIfS, zNext, zDrop, zBreak, zCont, zVar, zC, zOp, zUn, zName, zgTup, zgCons, zgNil, zgSub, zAug, zAugS, zPar, zPar3, zAndV, zOrV, zNotV, zTest, zTestE, zAnd, zOr, zNot, zIf, zCh, zCB, zCall, zCKw, zCons, zNil, zTup, zLst, newL, newDK, zIx, zLe, zLt, zGt, zGe, zNe_ii, zEq_ii, zIsN, zNotN, zIn, zNotIn, zInB, zSub, zMod, zFdiv, zPow, zMul, zAdd, zNeg, zI2, zI2C, zLen, zIsi, zTuple, zTupleF, zList, zAbs, zInt1, zDivmod, zMin2, zSet, zGet, zSl, zSlV, zPart, zNoPart, zTix, zBM, zAppend, isL, tyName, kit_tt, kit_ii, kit_ib, sqR, lsR, lsM, dkM, dtM, dLook, Z.keyOf, frS, ziSeq, ziEnum, ziR1, ziR2, ziR3, zFor, zLC, zDC, zYes, zwipe, zDisp, zPairs, zmerge, zSortR3, zSortedI, zSortedDI, zDictOf, List.getElem?_cons_zero, List.getElem?_cons_succ, List.set_cons_zero, List.set_cons_succ, List.length_cons, List.length_nil, List.map_cons, List.map_nil, List.length_map, Bool.not_true, Bool.not_false, decide_true, decide_false, ec, look_l]
  by_cases hq : 0 < q
  · rw [decide_eq_true hq]
    simp only [zSeq, zAsg, zRet, zRetN, zIfS, zNext, zDrop, zBreak, zCont, zVar, zC, zOp, zUn, zName, zgTup, zgCons, zgNil, zgSub, zAug, zAugS, zPar, zPar3, zAndV, zOrV, zNotV, zTest, zTestE, zAnd, zOr, zNot, zIf, zCh, zCB, zCall, zCKw, zCons, zNil, zTup, zLst, newL, newDK, zIx, zLe, zLt, zGt, zGe, zNe_ii, zEq_ii, zIsN, zNotN, zIn, zNotIn, zInB, zSub, zMod, zFdiv, zPow, zMul, zAdd, zNeg, zI2, zI2C, zLen, zIsi, zTuple, zTupleF, zList, zAbs, zInt1, zDivmod, zMin2, zSet, zGet, zSl, zSlV, zPart, zNoPart, zTix, zBM, zAppend, isL, tyName, kit_tt, kit_ii, kit_ib, sqR, lsR, lsM, dkM, dtM, dLook, Z.keyOf, frS, ziSeq, ziEnum, ziR1, ziR2, ziR3, zFor, zLC, zDC, zYes, zwipe, zDisp, zPairs, zmerge, zSortR3, zSortedI, zSortedDI, zDictOf, List.getElem?_cons_zero, List.getElem?_cons_succ, List.set_cons_zero, List.set_cons_succ, List.length_cons, List.length_nil, List.map_cons, List.map_nil, List.length_map, Bool.not_true, Bool.not_false, decide_true, decide_false, ec, look_l]
    refine ⟨ht, hdv, by decide, ?_⟩
    rw [putK_l, putV_l]
    have d : DrC ns (a + 1) (.dK mk [.fz (ns.map D.int), .int p, .int (q / t)]) := ⟨p, q / t, rfl, h1, by omega, Int.ediv_nonneg (by omega) (by omega), h4⟩
    exact Exit.put0 hw (d.cl _) rfl (z _ _ d (Int.emod_nonneg _ (by omega)) (Int.emod_lt_of_pos _ ht))
  · rw [decide_eq_false hq]
    simp only [zSeq, zAsg, zRet, zRetN, zIfS, zNext, zDrop, zBreak, zCont, zVar, zC, zOp, zUn, zName, zgTup, zgCons, zgNil, zgSub, zAug, zAugS, zPar, zPar3, zAndV, zOrV, zNotV, zTest, zTestE, zAnd, zOr, zNot, zIf, zCh, zCB, zCall, zCKw, zCons, zNil, zTup, zLst, newL, newDK, zIx, zLe, zLt, zGt, zGe, zNe_ii, zEq_ii, zIsN, zNotN, zIn, zNotIn, zInB, zSub, zMod, zFdiv, zPow, zMul, zAdd, zNeg, zI2, zI2C, zLen, zIsi, zTuple, zTupleF, zList, zAbs, zInt1, zDivmod, zMin2, zSet, zGet, zSl, zSlV, zPart, zNoPart, zTix, zBM, zAppend, isL, tyName, kit_tt, kit_ii, kit_ib, sqR, lsR, lsM, dkM, dtM, dLook, Z.keyOf, frS, ziSeq, ziEnum, ziR1, ziR2, ziR3, zFor, zLC, zDC, zYes, zwipe, zDisp, zPairs, zmerge, zSortR3, zSortedI, zSortedDI, zDictOf, List.getElem?_cons_zero, List.getElem?_cons_succ, List.set_cons_zero, List.set_cons_succ, List.length_cons, List.length_nil, List.map_cons, List.map_nil, List.length_map, Bool.not_true, Bool.not_false, decide_true, decide_false, ec, look_a]
    refine ⟨by decide, ?_⟩
    rw [putK_a, putV_a]
    refine cell_ok (hset _) h1 h4 fun i => ?_
    have dd : DrC ns (a + 1) (.dK mk [.fz (ns.map D.int), .int (p + 1), .int q]) := ⟨p + 1, q, rfl, by omega, by omega, h3, h4⟩
    simp only [zSeq, zAsg, zRet, zRetN, zIfS, zNext, zDrop, zBreak, zCont, zVar, zC, zOp, zUn, zName, zgTup, zgCons, zgNil, zgSub, zAug, zAugS, zPar, zPar3, zAndV, zOrV, zNotV, zTest, zTestE, zAnd, zOr, zNot, zIf, zCh, zCB, zCall, zCKw, zCons, zNil, zTup, zLst, newL, newDK, zIx, zLe, zLt, zGt, zGe, zNe_ii, zEq_ii, zIsN, zNotN, zIn, zNotIn, zInB, zSub, zMod, zFdiv, zPow, zMul, zAdd, zNeg, zI2, zI2C, zLen, zIsi, zTuple, zTupleF, zList, zAbs, zInt1, zDivmod, zMin2, zSet, zGet, zSl, zSlV, zPart, zNoPart, zTix, zBM, zAppend, isL, tyName, kit_tt, kit_ii, kit_ib, sqR, lsR, lsM, dkM, dtM, dLook, Z.keyOf, frS, ziSeq, ziEnum, ziR1, ziR2, ziR3, zFor, zLC, zDC, zYes, zwipe, zDisp, zPairs, zmerge, zSortR3, zSortedI, zSortedDI, zDictOf, List.getElem?_cons_zero, List.getElem?_cons_succ, List.set_cons_zero, List.set_cons_succ, List.length_cons, List.length_nil, List.map_cons, List.map_nil, List.length_map, Bool.not_true, Bool.not_false, decide_true, decide_false]
    refine ⟨⟨by omega, by omega, by decide⟩, ?_⟩
    have small : ∀ x : Int, 0 ≤ x % 2147483647 ∧ x % 2147483647 < 2147483647 := fun x => ⟨Int.emod_nonneg _ (by omega), Int.emod_lt_of_pos _ (by omega)⟩
    have fin : ∀ x : Int, Exit h.length Q (.int (x % t)) (h.set n (.dK mk [.fz (ns.map D.int), .int (p + 1), .int q])) := fun x =>
      Exit.put0 hw (dd.cl _) rfl (z _ _ dd (Int.emod_nonneg _ (by omega)) (Int.emod_lt_of_pos _ ht))
    have m1 : Z.MulOk (i % 1000003) 48271 := .inl (.inr ⟨by omega, by omega⟩)
    have m2 : Z.MulOk 7919 p := .inl (.inl ⟨by omega, by omega⟩)
    have m3 : Z.MulOk (7919 * p) p := .inl (.inr ⟨by omega, by omega⟩)
    have m4 : Z.MulOk 104729 p := .inl (.inl ⟨by omega, by omega⟩)
    have m5 : ∀ x y : Int, Z.MulOk (x % 2147483647) y := fun x y => .inl (.inl ⟨by have := small x; omega, by have := small x; omega⟩)
    have m6 : ∀ x : Int, Z.MulOk x 69621 := fun x => .inl (.inr ⟨by omega, by omega⟩)
    have d1 : ∀ x : Int, DivOk x 1000003 := fun x => ⟨by omega, by decide⟩
    have d2 : ∀ x : Int, DivOk x 7 := fun x => ⟨by omega, by decide⟩
    by_cases h18 : (10 : Int) ^ Int.toNat 18 ≤ i
    · have hi : (0 : Int) ≤ i := Int.le_trans (by decide) h18
      rw [decide_eq_true h18]
      simp only [zSeq, zAsg, zRet, zRetN, zIfS, zNext, zDrop, zBreak, zCont, zVar, zC, zOp, zUn, zName, zgTup, zgCons, zgNil, zgSub, zAug, zAugS, zPar, zPar3, zAndV, zOrV, zNotV, zTest, zTestE, zAnd, zOr, zNot, zIf, zCh, zCB, zCall, zCKw, zCons, zNil, zTup, zLst, newL, newDK, zIx, zLe, zLt, zGt, zGe, zNe_ii, zEq_ii, zIsN, zNotN, zIn, zNotIn, zInB, zSub, zMod, zFdiv, zPow, zMul, zAdd, zNeg, zI2, zI2C, zLen, zIsi, zTuple, zTupleF, zList, zAbs, zInt1, zDivmod, zMin2, zSet, zGet, zSl, zSlV, zPart, zNoPart, zTix, zBM, zAppend, isL, tyName, kit_tt, kit_ii, kit_ib, sqR, lsR, lsM, dkM, dtM, dLook, Z.keyOf, frS, ziSeq, ziEnum, ziR1, ziR2, ziR3, zFor, zLC, zDC, zYes, zwipe, zDisp, zPairs, zmerge, zSortR3, zSortedI, zSortedDI, zDictOf, List.getElem?_cons_zero, List.getElem?_cons_succ, List.set_cons_zero, List.set_cons_succ, List.length_cons, List.length_nil, List.map_cons, List.map_nil, List.length_map, Bool.not_true, Bool.not_false, decide_true, decide_false, hset, look_s]
      by_cases hp : p < (ns.length : Nat)
      · rw [decide_eq_true hp]
        simp only [zSeq, zAsg, zRet, zRetN, zIfS, zNext, zDrop, zBreak, zCont, zVar, zC, zOp, zUn, zName, zgTup, zgCons, zgNil, zgSub, zAug, zAugS, zPar, zPar3, zAndV, zOrV, zNotV, zTest, zTestE, zAnd, zOr, zNot, zIf, zCh, zCB, zCall, zCKw, zCons, zNil, zTup, zLst, newL, newDK, zIx, zLe, zLt, zGt, zGe, zNe_ii, zEq_ii, zIsN, zNotN, zIn, zNotIn, zInB, zSub, zMod, zFdiv, zPow, zMul, zAdd, zNeg, zI2, zI2C, zLen, zIsi, zTuple, zTupleF, zList, zAbs, zInt1, zDivmod, zMin2, zSet, zGet, zSl, zSlV, zPart, zNoPart, zTix, zBM, zAppend, isL, tyName, kit_tt, kit_ii, kit_ib, sqR, lsR, lsM, dkM, dtM, dLook, Z.keyOf, frS, ziSeq, ziEnum, ziR1, ziR2, ziR3, zFor, zLC, zDC, zYes, zwipe, zDisp, zPairs, zmerge, zSortR3, zSortedI, zSortedDI, zDictOf, List.getElem?_cons_zero, List.getElem?_cons_succ, List.set_cons_zero, List.set_cons_succ, List.length_cons, List.length_nil, List.map_cons, List.map_nil, List.length_map, Bool.not_true, Bool.not_false, decide_true, decide_false, hset, putK_l, putV_l, List.set_set]
        have d : DrC ns (a + 1) (.dK mk [.fz (ns.map D.int), .int (p + 1), .int (i / t)]) := ⟨p + 1, i / t, rfl, by omega, by omega, Int.ediv_nonneg hi (by omega), h4⟩
        exact ⟨hdv, by decide, ht, Exit.put0 hw (d.cl _) rfl (z _ _ d (Int.emod_nonneg _ (by omega)) (Int.emod_lt_of_pos _ ht))⟩
      · rw [decide_eq_false hp]
        exact ⟨by omega, m1, d1 _, by omega, m2, m3, m4, by omega, m5 _ _, by omega, m6 _, by omega, d2 _, ht, fin _⟩
    · rw [decide_eq_false h18]
      exact ⟨by omega, m1, d1 _, by omega, m2, m3, m4, by omega, m5 _ _, by omega, m6 _, by omega, d2 _, ht, fin _⟩
end Z54
namespace Z54
open PySem PySem.Spec PyProof.Rows L2 Z
abbrev N__law_run : List Str := ["mesh", "origin", "pulses", "arriving", "later", "carried", "v", "modulus", "total", "u", "x", "w"]
def lg1__law_run : ZG := (zgTup 3 (zgCons (zName 9) (zgCons (zName 10) (zgCons (zName 11) zgNil))))
def lb1__law_run : ZTS := (zIfS (zTest (zOp zEq (zVar 9) (zVar 6))) (zAsg (zOp (zAdd false) (zOp zIx (zVar 3) (zVar 10)) (zOp (zMul false) (zVar 11) (zOp zIx (zVar 5) (zVar 6)))) (zgSub (zVar 3) (zVar 10) zSet)) zNext)
def lg2__law_run : ZG := (zgTup 2 (zgCons (zName 6) (zgCons (zName 7) zgNil)))
def lb2__law_run : ZTS := (zSeq (zAsg (zOp (zAdd false) (zOp zIx (zVar 1) (zVar 6)) (zOp zIx (zVar 3) (zVar 6))) (zName 8)) (zSeq (zDrop (zBM isL zAppend (zVar 4) (zCons (zOp zMod (zVar 8) (zVar 7)) zNil))) (zSeq (zDrop (zBM isL zAppend (zVar 5) (zCons (zOp zFdiv (zVar 8) (zVar 7)) zNil))) (zFor (ziSeq (zOp zIx (zVar 0) (zC (.int 1)))) lg1__law_run lb1__law_run))))
def r__law_run : ZTS := (zSeq (zPar3 3 4 5 (zCons (zCB (zList true) (zCons (zVar 2) zNil)) (zCons (zLst true zNil) (zCons (zLst true zNil) zNil)))) (zSeq (zFor (ziEnum (zCons (zOp zIx (zVar 0) (zC (.int 0))) zNil)) lg2__law_run lb2__law_run) (zRet (zTup (zCons (zCB zTuple (zCons (zVar 4) zNil)) (zCons (zCB zTuple (zCons (zVar 5) zNil)) zNil))))))
theorem loop_run1 {E : ZEnds} {h : AH} {N : Nat} {k : Nat} {n : Int} {a b c : Option D} {d e : Option D} {L : Cl} {X : List Int} (hX : X[k]? = some n) : ∀ (W : List T3) (C : List Int) (x y z : Option D), C.length = N → (∀ w ∈ W, WOk N w) →
    (∀ x y z, E.nx [a, b, c, some (.obj h.length), some (.obj (h.length + 1)), some (.obj (h.length + 2)), some (.int (k : Nat)), d, e, x, y, z] (h ++ [.lst ((pushW k n W C).map D.int), L, .lst (X.map D.int)])) →
    zForL lg1__law_run lb1__law_run E (W.map wD) [a, b, c, some (.obj h.length), some (.obj (h.length + 1)), some (.obj (h.length + 2)), some (.int (k : Nat)), d, e, x, y, z] (h ++ [.lst (C.map D.int), L, .lst (X.map D.int)])
  | [], C, x, y, z, hC, hW, q => q x y z
  | (u, v, w) :: W, C, x, y, z, hC, hW, q => by
    obtain ⟨g1, g2, g3, g4, g5, g6⟩ := hW _ List.mem_cons_self
    dsimp only at g1 g2 g3 g4 g5 g6
    have nx := fun (C' : List Int) (x y z : Option D) (hC' : C'.length = N) => loop_run1 (E := E) (h := h) (k := k) (n := n) (a := a) (b := b) (c := c) (d := d) (e := e) (L := L) hX W C' x y z hC' fun w hw => hW w (List.mem_cons_of_mem _ hw)
    rw [List.map_cons, zForL_cons]
    generalize zForL _ _ E _ = Kx at nx ⊢
    have q' : ∀ x y z, E.nx [a, b, c, some (.obj h.length), some (.obj (h.length + 1)), some (.obj (h.length + 2)), some (.int (k : Nat)), d, e, x, y, z] (h ++ [.lst ((pushW k n W (if u = (k : Nat) then C.set v.toNat (C.getD v.toNat 0 + w * n) else C)).map D.int), L, .lst (X.map D.int)]) := q
    simp only [zSeq, zAsg, zRet, zRetN, zIfS, zNext, zDrop, zBreak, zCont, zVar, zC, zOp, zUn, zName, zgTup, zgCons, zgNil, zgSub, zAug, zAugS, zPar, zPar3, zAndV, zOrV, zNotV, zTest, zTestE, zAnd, zOr, zNot, zIf, zCh, zCB, zCall, zCKw, zCons, zNil, zTup, zLst, newL, newDK, zIx, zLe, zLt, zGt, zGe, zNe_ii, zEq_ii, zIsN, zNotN, zIn, zNotIn, zInB, zSub, zMod, zFdiv, zPow, zMul, zAdd, zNeg, zI2, zI2C, zLen, zIsi, zTuple, zTupleF, zList, zAbs, zInt1, zDivmod, zMin2, zSet, zGet, zSl, zSlV, zPart, zNoPart, zTix, zBM, zAppend, isL, tyName, kit_tt, kit_ii, kit_ib, sqR, lsR, lsM, dkM, dtM, dLook, Z.keyOf, frS, ziSeq, ziEnum, ziR1, ziR2, ziR3, zFor, zLC, zDC, zYes, zwipe, zDisp, zPairs, zmerge, zSortR3, zSortedI, zSortedDI, zDictOf, List.getElem?_cons_zero, List.getElem?_cons_succ, List.set_cons_zero, List.set_cons_succ, List.length_cons, List.length_nil, List.map_cons, List.map_nil, List.length_map, Bool.not_true, Bool.not_false, decide_true, decide_false, lg1__law_run, lb1__law_run, wD]
    refine ⟨trivial, ?_⟩
    by_cases hk : u = (k : Nat)
    · rw [decide_eq_true hk]
      rw [if_pos hk] at q'
      simp only [zSeq, zAsg, zRet, zRetN, zIfS, zNext, zDrop, zBreak, zCont, zVar, zC, zOp, zUn, zName, zgTup, zgCons, zgNil, zgSub, zAug, zAugS, zPar, zPar3, zAndV, zOrV, zNotV, zTest, zTestE, zAnd, zOr, zNot, zIf, zCh, zCB, zCall, zCKw, zCons, zNil, zTup, zLst, newL, newDK, zIx, zLe, zLt, zGt, zGe, zNe_ii, zEq_ii, zIsN, zNotN, zIn, zNotIn, zInB, zSub, zMod, zFdiv, zPow, zMul, zAdd, zNeg, zI2, zI2C, zLen, zIsi, zTuple, zTupleF, zList, zAbs, zInt1, zDivmod, zMin2, zSet, zGet, zSl, zSlV, zPart, zNoPart, zTix, zBM, zAppend, isL, tyName, kit_tt, kit_ii, kit_ib, sqR, lsR, lsM, dkM, dtM, dLook, Z.keyOf, frS, ziSeq, ziEnum, ziR1, ziR2, ziR3, zFor, zLC, zDC, zYes, zwipe, zDisp, zPairs, zmerge, zSortR3, zSortedI, zSortedDI, zDictOf, List.getElem?_cons_zero, List.getElem?_cons_succ, List.set_cons_zero, List.set_cons_succ, List.length_cons, List.length_nil, List.map_cons, List.map_nil, List.length_map, Bool.not_true, Bool.not_false, decide_true, decide_false, tail_get0, tail_get]
      rw [atZ (by omega) (map_get (getD_of (xs := C) (k := v.toNat) (by omega))), atN (map_get hX)]
      simp only [zSeq, zAsg, zRet, zRetN, zIfS, zNext, zDrop, zBreak, zCont, zVar, zC, zOp, zUn, zName, zgTup, zgCons, zgNil, zgSub, zAug, zAugS, zPar, zPar3, zAndV, zOrV, zNotV, zTest, zTestE, zAnd, zOr, zNot, zIf, zCh, zCB, zCall, zCKw, zCons, zNil, zTup, zLst, newL, newDK, zIx, zLe, zLt, zGt, zGe, zNe_ii, zEq_ii, zIsN, zNotN, zIn, zNotIn, zInB, zSub, zMod, zFdiv, zPow, zMul, zAdd, zNeg, zI2, zI2C, zLen, zIsi, zTuple, zTupleF, zList, zAbs, zInt1, zDivmod, zMin2, zSet, zGet, zSl, zSlV, zPart, zNoPart, zTix, zBM, zAppend, isL, tyName, kit_tt, kit_ii, kit_ib, sqR, lsR, lsM, dkM, dtM, dLook, Z.keyOf, frS, ziSeq, ziEnum, ziR1, ziR2, ziR3, zFor, zLC, zDC, zYes, zwipe, zDisp, zPairs, zmerge, zSortR3, zSortedI, zSortedDI, zDictOf, List.getElem?_cons_zero, List.getElem?_cons_succ, List.set_cons_zero, List.set_cons_succ, List.length_cons, List.length_nil, List.map_cons, List.map_nil, List.length_map, Bool.not_true, Bool.not_false, decide_true, decide_false, tail_get0, tail_set0]
      rw [ixN_ok (by omega) (by omega)]
      refine ⟨.inl (.inl (by omega)), ?_⟩
      have e2 : (C.map D.int).set v.toNat (.int (C.getD v.toNat 0 + w * n)) = (C.set v.toNat (C.getD v.toNat 0 + w * n)).map D.int := List.map_set.symm
      simp only [zSeq, zAsg, zRet, zRetN, zIfS, zNext, zDrop, zBreak, zCont, zVar, zC, zOp, zUn, zName, zgTup, zgCons, zgNil, zgSub, zAug, zAugS, zPar, zPar3, zAndV, zOrV, zNotV, zTest, zTestE, zAnd, zOr, zNot, zIf, zCh, zCB, zCall, zCKw, zCons, zNil, zTup, zLst, newL, newDK, zIx, zLe, zLt, zGt, zGe, zNe_ii, zEq_ii, zIsN, zNotN, zIn, zNotIn, zInB, zSub, zMod, zFdiv, zPow, zMul, zAdd, zNeg, zI2, zI2C, zLen, zIsi, zTuple, zTupleF, zList, zAbs, zInt1, zDivmod, zMin2, zSet, zGet, zSl, zSlV, zPart, zNoPart, zTix, zBM, zAppend, isL, tyName, kit_tt, kit_ii, kit_ib, sqR, lsR, lsM, dkM, dtM, dLook, Z.keyOf, frS, ziSeq, ziEnum, ziR1, ziR2, ziR3, zFor, zLC, zDC, zYes, zwipe, zDisp, zPairs, zmerge, zSortR3, zSortedI, zSortedDI, zDictOf, List.getElem?_cons_zero, List.getElem?_cons_succ, List.set_cons_zero, List.set_cons_succ, List.length_cons, List.length_nil, List.map_cons, List.map_nil, List.length_map, Bool.not_true, Bool.not_false, decide_true, decide_false]
      rw [e2]
      exact nx _ _ _ _ (by rw [List.length_set]; exact hC) q'
    · rw [decide_eq_false hk]
      rw [if_neg hk] at q'
      exact nx _ _ _ _ hC q'
theorem loop_run2 {E : ZEnds} {h : AH} {M0 : List Int} {W : List T3} {I S : List Int} {c : Option D} : ∀ (M : List Int) (k : Nat) (C X L : List Int) (s6 s7 s8 s9 s10 s11 : Option D), k + M.length = M0.length → S.length = M0.length → C.length = M0.length → X.length = k → L.length ≤ k → M0.length ≤ 10 → (∀ m ∈ M, 2 ≤ m ∧ m ≤ 1000) → (∀ w ∈ W, WOk M0.length w) →
    (∀ t, E.nx (some (netD M0 W I) :: some (dI S) :: c :: some (.obj h.length) :: some (.obj (h.length + 1)) :: some (.obj (h.length + 2)) :: t) (h ++ [.lst ((flowG S W M k C X L).1.map D.int), .lst ((flowG S W M k C X L).2.2.map D.int), .lst ((flowG S W M k C X L).2.1.map D.int)])) →
    zForL lg2__law_run lb2__law_run E (zenum k (M.map D.int)) [some (netD M0 W I), some (dI S), c, some (.obj h.length), some (.obj (h.length + 1)), some (.obj (h.length + 2)), s6, s7, s8, s9, s10, s11] (h ++ [.lst (C.map D.int), .lst (L.map D.int), .lst (X.map D.int)])
  | [], k, C, X, L, s6, s7, s8, s9, s10, s11, h1, h2, h3, h4, h5, h6, h7, h8, q => q _
  | m :: M, k, C, X, L, s6, s7, s8, s9, s10, s11, h1, h2, h3, h4, h5, h6, h7, h8, q => by
    rw [List.length_cons] at h1
    have hm := h7 m List.mem_cons_self
    have nx := fun (C' X' L' : List Int) (s6 s7 s8 s9 s10 s11 : Option D) (hC' : C'.length = M0.length) (hx : X'.length = k + 1) (hl : L'.length ≤ k + 1) => loop_run2 (E := E) (h := h) (I := I) (c := c) M (k + 1) C' X' L' s6 s7 s8 s9 s10 s11 (by omega) h2 hC' hx hl h6 (fun z hz => h7 z (List.mem_cons_of_mem _ hz)) h8
    rw [List.map_cons, zenum_cons, zForL_cons]
    generalize zForL _ _ E _ = Kx at nx ⊢
    have eS : (S.map D.int)[k]? = some (.int (S.getD k 0)) := map_get (getD_of (by omega))
    have eC : (C.map D.int)[k]? = some (.int (C.getD k 0)) := map_get (getD_of (by omega))
    have hsl := sizeLine_eq
    have hlog : m.natAbs.log2 < 9000 := (Nat.log2_lt (by omega)).mpr (Nat.lt_of_lt_of_le (show m.natAbs < 2 ^ 10 by omega) (Nat.pow_le_pow_right (by decide) (by decide)))
    unfold dI
    simp only [zSeq, zAsg, zRet, zRetN, zIfS, zNext, zDrop, zBreak, zCont, zVar, zC, zOp, zUn, zName, zgTup, zgCons, zgNil, zgSub, zAug, zAugS, zPar, zPar3, zAndV, zOrV, zNotV, zTest, zTestE, zAnd, zOr, zNot, zIf, zCh, zCB, zCall, zCKw, zCons, zNil, zTup, zLst, newL, newDK, zIx, zLe, zLt, zGt, zGe, zNe_ii, zEq_ii, zIsN, zNotN, zIn, zNotIn, zInB, zSub, zMod, zFdiv, zPow, zMul, zAdd, zNeg, zI2, zI2C, zLen, zIsi, zTuple, zTupleF, zList, zAbs, zInt1, zDivmod, zMin2, zSet, zGet, zSl, zSlV, zPart, zNoPart, zTix, zBM, zAppend, isL, tyName, kit_tt, kit_ii, kit_ib, sqR, lsR, lsM, dkM, dtM, dLook, Z.keyOf, frS, ziSeq, ziEnum, ziR1, ziR2, ziR3, zFor, zLC, zDC, zYes, zwipe, zDisp, zPairs, zmerge, zSortR3, zSortedI, zSortedDI, zDictOf, List.getElem?_cons_zero, List.getElem?_cons_succ, List.set_cons_zero, List.set_cons_succ, List.length_cons, List.length_nil, List.map_cons, List.map_nil, List.length_map, Bool.not_true, Bool.not_false, decide_true, decide_false, lg2__law_run, lb2__law_run, tail_get0]
    rw [atN eS, atN eC]
    simp only [zSeq, zAsg, zRet, zRetN, zIfS, zNext, zDrop, zBreak, zCont, zVar, zC, zOp, zUn, zName, zgTup, zgCons, zgNil, zgSub, zAug, zAugS, zPar, zPar3, zAndV, zOrV, zNotV, zTest, zTestE, zAnd, zOr, zNot, zIf, zCh, zCB, zCall, zCKw, zCons, zNil, zTup, zLst, newL, newDK, zIx, zLe, zLt, zGt, zGe, zNe_ii, zEq_ii, zIsN, zNotN, zIn, zNotIn, zInB, zSub, zMod, zFdiv, zPow, zMul, zAdd, zNeg, zI2, zI2C, zLen, zIsi, zTuple, zTupleF, zList, zAbs, zInt1, zDivmod, zMin2, zSet, zGet, zSl, zSlV, zPart, zNoPart, zTix, zBM, zAppend, isL, tyName, kit_tt, kit_ii, kit_ib, sqR, lsR, lsM, dkM, dtM, dLook, Z.keyOf, frS, ziSeq, ziEnum, ziR1, ziR2, ziR3, zFor, zLC, zDC, zYes, zwipe, zDisp, zPairs, zmerge, zSortR3, zSortedI, zSortedDI, zDictOf, List.getElem?_cons_zero, List.getElem?_cons_succ, List.set_cons_zero, List.set_cons_succ, List.length_cons, List.length_nil, List.map_cons, List.map_nil, List.length_map, Bool.not_true, Bool.not_false, decide_true, decide_false, tail_get, tail_get0, tail_set, tail_set0]
    refine ⟨trivial, rfl, by omega, by omega, rfl, ⟨by omega, hlog⟩, by omega, ?_⟩
    unfold netD
    simp only [zSeq, zAsg, zRet, zRetN, zIfS, zNext, zDrop, zBreak, zCont, zVar, zC, zOp, zUn, zName, zgTup, zgCons, zgNil, zgSub, zAug, zAugS, zPar, zPar3, zAndV, zOrV, zNotV, zTest, zTestE, zAnd, zOr, zNot, zIf, zCh, zCB, zCall, zCKw, zCons, zNil, zTup, zLst, newL, newDK, zIx, zLe, zLt, zGt, zGe, zNe_ii, zEq_ii, zIsN, zNotN, zIn, zNotIn, zInB, zSub, zMod, zFdiv, zPow, zMul, zAdd, zNeg, zI2, zI2C, zLen, zIsi, zTuple, zTupleF, zList, zAbs, zInt1, zDivmod, zMin2, zSet, zGet, zSl, zSlV, zPart, zNoPart, zTix, zBM, zAppend, isL, tyName, kit_tt, kit_ii, kit_ib, sqR, lsR, lsM, dkM, dtM, dLook, Z.keyOf, frS, ziSeq, ziEnum, ziR1, ziR2, ziR3, zFor, zLC, zDC, zYes, zwipe, zDisp, zPairs, zmerge, zSortR3, zSortedI, zSortedDI, zDictOf, List.getElem?_cons_zero, List.getElem?_cons_succ, List.set_cons_zero, List.set_cons_succ, List.length_cons, List.length_nil, List.map_cons, List.map_nil, List.length_map, Bool.not_true, Bool.not_false, decide_true, decide_false, at1, dW]
    rw [show (X.map D.int ++ [D.int ((S.getD k 0 + C.getD k 0) / m)]) = (X ++ [(S.getD k 0 + C.getD k 0) / m]).map D.int by simp, show (L.map D.int ++ [D.int ((S.getD k 0 + C.getD k 0) % m)]) = (L ++ [(S.getD k 0 + C.getD k 0) % m]).map D.int by simp]
    exact loop_run1 (N := M0.length) (n := (S.getD k 0 + C.getD k 0) / m) (X := X ++ [(S.getD k 0 + C.getD k 0) / m]) (by rw [← h4]; simp) W C _ _ _ h3 h8 fun x y z => nx _ _ _ _ _ _ _ _ _ (by rw [pushW_length]; exact h3) (by simp; omega) (by simp; omega) q
def sp__law_run : ZSp := fun ds h Q _ => ∃ M W I S T, ds = [netD M W I, dI S, dI T] ∧ Valid M W I ∧ S.length = M.length ∧ T.length = M.length ∧
  Q (.tup [dI (flowG S W M 0 T [] []).2.2, dI (flowG S W M 0 T [] []).2.1]) h
theorem len__law_run : ∀ ds h Q E, sp__law_run ds h Q E → ds.length = 3 := fun ds h Q E ⟨M, W, I, S, T, e, _⟩ => by rw [e]; rfl
theorem cl2 (k : Nat) (a b : List Int) : (D.tup [dI a, dI b]).cl k = true := by
  show (D.cls k (a.map D.int) && (D.cls k (b.map D.int) && true)) = true
  rw [cls_ints, cls_ints]; rfl
theorem pure__law_run : ∀ ds h Q0 E0, sp__law_run ds h Q0 E0 → WfH h → D.cls h.length ds = true → r__law_run (EndOk h Q0) (zstart N__law_run ds) h := fun ds h Q E ⟨M, W, I, S, T, e, V, hS, hT, z⟩ hw hc => by
  subst e
  have hsl := sizeLine_eq
  show r__law_run (EndOk h Q) [some (netD M W I), some (dI S), some (dI T), none, none, none, none, none, none, none, none, none] h
  have lp := loop_run2 (E := { nx := (zRet (zTup (zCons (zCB zTuple (zCons (zVar 4) zNil)) (zCons (zCB zTuple (zCons (zVar 5) zNil)) zNil)))) (EndOk h Q), rt := Exit h.length Q }) (h := h) (M0 := M) (W := W) (I := I) (S := S) (c := some (dI T)) M 0 T [] [] none none none none none none (by omega) hS hT (by simp) (by simp) V.n2 V.mo V.wk (fun t => by
    simp only [zSeq, zAsg, zRet, zRetN, zIfS, zNext, zDrop, zBreak, zCont, zVar, zC, zOp, zUn, zName, zgTup, zgCons, zgNil, zgSub, zAug, zAugS, zPar, zPar3, zAndV, zOrV, zNotV, zTest, zTestE, zAnd, zOr, zNot, zIf, zCh, zCB, zCall, zCKw, zCons, zNil, zTup, zLst, newL, newDK, zIx, zLe, zLt, zGt, zGe, zNe_ii, zEq_ii, zIsN, zNotN, zIn, zNotIn, zInB, zSub, zMod, zFdiv, zPow, zMul, zAdd, zNeg, zI2, zI2C, zLen, zIsi, zTuple, zTupleF, zList, zAbs, zInt1, zDivmod, zMin2, zSet, zGet, zSl, zSlV, zPart, zNoPart, zTix, zBM, zAppend, isL, tyName, kit_tt, kit_ii, kit_ib, sqR, lsR, lsM, dkM, dtM, dLook, Z.keyOf, frS, ziSeq, ziEnum, ziR1, ziR2, ziR3, zFor, zLC, zDC, zYes, zwipe, zDisp, zPairs, zmerge, zSortR3, zSortedI, zSortedDI, zDictOf, List.getElem?_cons_zero, List.getElem?_cons_succ, List.set_cons_zero, List.set_cons_succ, List.length_cons, List.length_nil, List.map_cons, List.map_nil, List.length_map, Bool.not_true, Bool.not_false, decide_true, decide_false, tail_get, tail_get0]
    exact ⟨by omega, Exit.same hw (cl2 _ _ _) z⟩)
  unfold r__law_run
  unfold netD dI at lp ⊢
  simp only [zSeq, zAsg, zRet, zRetN, zIfS, zNext, zDrop, zBreak, zCont, zVar, zC, zOp, zUn, zName, zgTup, zgCons, zgNil, zgSub, zAug, zAugS, zPar, zPar3, zAndV, zOrV, zNotV, zTest, zTestE, zAnd, zOr, zNot, zIf, zCh, zCB, zCall, zCKw, zCons, zNil, zTup, zLst, newL, newDK, zIx, zLe, zLt, zGt, zGe, zNe_ii, zEq_ii, zIsN, zNotN, zIn, zNotIn, zInB, zSub, zMod, zFdiv, zPow, zMul, zAdd, zNeg, zI2, zI2C, zLen, zIsi, zTuple, zTupleF, zList, zAbs, zInt1, zDivmod, zMin2, zSet, zGet, zSl, zSlV, zPart, zNoPart, zTix, zBM, zAppend, isL, tyName, kit_tt, kit_ii, kit_ib, sqR, lsR, lsM, dkM, dtM, dLook, Z.keyOf, frS, ziSeq, ziEnum, ziR1, ziR2, ziR3, zFor, zLC, zDC, zYes, zwipe, zDisp, zPairs, zmerge, zSortR3, zSortedI, zSortedDI, zDictOf, List.getElem?_cons_zero, List.getElem?_cons_succ, List.set_cons_zero, List.set_cons_succ, List.length_cons, List.length_nil, List.map_cons, List.map_nil, List.length_map, Bool.not_true, Bool.not_false, decide_true, decide_false, at0, List.length_append, List.append_assoc, List.nil_append, List.cons_append]
  exact ⟨by omega, by omega, lp⟩
abbrev N__law_weight : List Str := ["m", "some"]
def r__law_weight : ZTS := (zSeq (zAsg (zLst false (zCons (zC (.int 1)) (zCons (zOp zSub (zC (.int 0)) (zC (.int 1))) (zCons (zOp (zAdd false) (zC (.int 2)) (zCall sp__law_next (zCons (zVar 0) (zCons (zC (.int 5)) zNil)))) (zCons (zOp zSub (zOp zSub (zC (.int 0)) (zC (.int 2))) (zCall sp__law_next (zCons (zVar 0) (zCons (zC (.int 5)) zNil)))) (zCons (zC (.int 100)) (zCons (zOp zSub (zC (.int 0)) (zC (.int 100))) zNil))))))) (zName 1)) (zRet (zOp zIx (zVar 1) (zCall sp__law_next (zCons (zVar 0) (zCons (zC (.int 6)) zNil))))))
def sp__law_weight : ZSp := fun ds h Q _ => ∃ (n : Nat) (ns : List Int) (a : Nat) (c : Cl), ds = [.obj n] ∧ h[n]? = some c ∧ DrC ns a c ∧ a + 3 < 2 ^ 60 ∧ ∀ c' r, DrC ns (a + 3) c' → -100 ≤ r → r ≤ 100 → r ≠ 0 → Q (.int r) (h.set n c')
theorem len__law_weight : ∀ ds h Q E, sp__law_weight ds h Q E → ds.length = 1 := fun ds h Q E ⟨n, t, ns, c, e, _⟩ => by rw [e]; rfl
theorem pure__law_weight : ∀ ds h Q0 E0, sp__law_weight ds h Q0 E0 → WfH h → D.cls h.length ds = true → r__law_weight (EndOk h Q0) (zstart N__law_weight ds) h := fun ds h Q E ⟨n, ns, a, c, e, ec, hd, ha, z⟩ hw hc => by
  subst e
  have hsl := sizeLine_eq
  have hset := fun c => set_at ec c
  show r__law_weight (EndOk h Q) [some (.obj n), none] h
  unfold r__law_weight
  simp only [zSeq, zAsg, zRet, zRetN, zIfS, zNext, zDrop, zBreak, zCont, zVar, zC, zOp, zUn, zName, zgTup, zgCons, zgNil, zgSub, zAug, zAugS, zPar, zPar3, zAndV, zOrV, zNotV, zTest, zTestE, zAnd, zOr, zNot, zIf, zCh, zCB, zCall, zCKw, zCons, zNil, zTup, zLst, newL, newDK, zIx, zLe, zLt, zGt, zGe, zNe_ii, zEq_ii, zIsN, zNotN, zIn, zNotIn, zInB, zSub, zMod, zFdiv, zPow, zMul, zAdd, zNeg, zI2, zI2C, zLen, zIsi, zTuple, zTupleF, zList, zAbs, zInt1, zDivmod, zMin2, zSet, zGet, zSl, zSlV, zPart, zNoPart, zTix, zBM, zAppend, isL, tyName, kit_tt, kit_ii, kit_ib, sqR, lsR, lsM, dkM, dtM, dLook, Z.keyOf, frS, ziSeq, ziEnum, ziR1, ziR2, ziR3, zFor, zLC, zDC, zYes, zwipe, zDisp, zPairs, zmerge, zSortR3, zSortedI, zSortedDI, zDictOf, List.getElem?_cons_zero, List.getElem?_cons_succ, List.set_cons_zero, List.set_cons_succ, List.length_cons, List.length_nil, List.map_cons, List.map_nil, List.length_map, Bool.not_true, Bool.not_false, decide_true, decide_false]
  refine ⟨n, 5, ns, a, c, rfl, ec, hd, by omega, by omega, by omega, fun c1 r1 d1 p1 p2 => ?_⟩
  simp only [zSeq, zAsg, zRet, zRetN, zIfS, zNext, zDrop, zBreak, zCont, zVar, zC, zOp, zUn, zName, zgTup, zgCons, zgNil, zgSub, zAug, zAugS, zPar, zPar3, zAndV, zOrV, zNotV, zTest, zTestE, zAnd, zOr, zNot, zIf, zCh, zCB, zCall, zCKw, zCons, zNil, zTup, zLst, newL, newDK, zIx, zLe, zLt, zGt, zGe, zNe_ii, zEq_ii, zIsN, zNotN, zIn, zNotIn, zInB, zSub, zMod, zFdiv, zPow, zMul, zAdd, zNeg, zI2, zI2C, zLen, zIsi, zTuple, zTupleF, zList, zAbs, zInt1, zDivmod, zMin2, zSet, zGet, zSl, zSlV, zPart, zNoPart, zTix, zBM, zAppend, isL, tyName, kit_tt, kit_ii, kit_ib, sqR, lsR, lsM, dkM, dtM, dLook, Z.keyOf, frS, ziSeq, ziEnum, ziR1, ziR2, ziR3, zFor, zLC, zDC, zYes, zwipe, zDisp, zPairs, zmerge, zSortR3, zSortedI, zSortedDI, zDictOf, List.getElem?_cons_zero, List.getElem?_cons_succ, List.set_cons_zero, List.set_cons_succ, List.length_cons, List.length_nil, List.map_cons, List.map_nil, List.length_map, Bool.not_true, Bool.not_false, decide_true, decide_false]
  refine ⟨n, 5, ns, a + 1, c1, rfl, hset _, d1, by omega, by omega, by omega, fun c2 r2 d2 p3 p4 => ?_⟩
  simp only [zSeq, zAsg, zRet, zRetN, zIfS, zNext, zDrop, zBreak, zCont, zVar, zC, zOp, zUn, zName, zgTup, zgCons, zgNil, zgSub, zAug, zAugS, zPar, zPar3, zAndV, zOrV, zNotV, zTest, zTestE, zAnd, zOr, zNot, zIf, zCh, zCB, zCall, zCKw, zCons, zNil, zTup, zLst, newL, newDK, zIx, zLe, zLt, zGt, zGe, zNe_ii, zEq_ii, zIsN, zNotN, zIn, zNotIn, zInB, zSub, zMod, zFdiv, zPow, zMul, zAdd, zNeg, zI2, zI2C, zLen, zIsi, zTuple, zTupleF, zList, zAbs, zInt1, zDivmod, zMin2, zSet, zGet, zSl, zSlV, zPart, zNoPart, zTix, zBM, zAppend, isL, tyName, kit_tt, kit_ii, kit_ib, sqR, lsR, lsM, dkM, dtM, dLook, Z.keyOf, frS, ziSeq, ziEnum, ziR1, ziR2, ziR3, zFor, zLC, zDC, zYes, zwipe, zDisp, zPairs, zmerge, zSortR3, zSortedI, zSortedDI, zDictOf, List.getElem?_cons_zero, List.getElem?_cons_succ, List.set_cons_zero, List.set_cons_succ, List.length_cons, List.length_nil, List.map_cons, List.map_nil, List.length_map, Bool.not_true, Bool.not_false, decide_true, decide_false, List.set_set]
  refine ⟨by omega, n, 6, ns, a + 1 + 1, c2, rfl, hset _, d2, by omega, by omega, by omega, fun c3 r3 d3 p5 p6 => ?_⟩
  simp only [zSeq, zAsg, zRet, zRetN, zIfS, zNext, zDrop, zBreak, zCont, zVar, zC, zOp, zUn, zName, zgTup, zgCons, zgNil, zgSub, zAug, zAugS, zPar, zPar3, zAndV, zOrV, zNotV, zTest, zTestE, zAnd, zOr, zNot, zIf, zCh, zCB, zCall, zCKw, zCons, zNil, zTup, zLst, newL, newDK, zIx, zLe, zLt, zGt, zGe, zNe_ii, zEq_ii, zIsN, zNotN, zIn, zNotIn, zInB, zSub, zMod, zFdiv, zPow, zMul, zAdd, zNeg, zI2, zI2C, zLen, zIsi, zTuple, zTupleF, zList, zAbs, zInt1, zDivmod, zMin2, zSet, zGet, zSl, zSlV, zPart, zNoPart, zTix, zBM, zAppend, isL, tyName, kit_tt, kit_ii, kit_ib, sqR, lsR, lsM, dkM, dtM, dLook, Z.keyOf, frS, ziSeq, ziEnum, ziR1, ziR2, ziR3, zFor, zLC, zDC, zYes, zwipe, zDisp, zPairs, zmerge, zSortR3, zSortedI, zSortedDI, zDictOf, List.getElem?_cons_zero, List.getElem?_cons_succ, List.set_cons_zero, List.set_cons_succ, List.length_cons, List.length_nil, List.map_cons, List.map_nil, List.length_map, Bool.not_true, Bool.not_false, decide_true, decide_false, List.set_set]
  have fin : ∀ r : Int, -100 ≤ r → r ≤ 100 → r ≠ 0 → Exit h.length Q (.int r) (h.set n c3) := fun r q1 q2 q3 => Exit.put0 hw (d3.cl _) rfl (z _ _ d3 q1 q2 q3)
  have hr : r3 = 0 ∨ r3 = 1 ∨ r3 = 2 ∨ r3 = 3 ∨ r3 = 4 ∨ r3 = 5 := by omega
  rcases hr with rfl | rfl | rfl | rfl | rfl | rfl
  · exact fin _ (by omega) (by omega) (by omega)
  · exact fin _ (by omega) (by omega) (by omega)
  · exact fin _ (by omega) (by omega) (by omega)
  · exact fin _ (by omega) (by omega) (by omega)
  · exact fin _ (by omega) (by omega) (by omega)
  · exact fin _ (by omega) (by omega) (by omega)
theorem set_self {h : AH} {n : Nat} {c : Cl} (e : h[n]? = some c) : h.set n c = h := by
  obtain ⟨h1, h2⟩ := List.getElem?_eq_some_iff.mp e
  rw [← h2, List.set_getElem_self]
abbrev N__law_start : List Str := ["m", "mesh", "modulus"]
def cg1__law_start : ZG := (zName 2)
def ce1__law_start : ZE := (zCall sp__law_next (zCons (zVar 0) (zCons (zVar 2) zNil)))
def r__law_start : ZTS := (zRet (zCB zTuple (zCons (zLC false (ziSeq (zOp zIx (zVar 1) (zC (.int 0)))) cg1__law_start zYes ce1__law_start [2]) zNil)))
def sp__law_start : ZSp := fun ds h Q _ => ∃ (n : Nat) (ns : List Int) (a : Nat) (c : Cl) (M : List Int) (W : List T3) (I : List Int), ds = [.obj n, netD M W I] ∧ h[n]? = some c ∧ DrC ns a c ∧ a + 10 < 2 ^ 60 ∧ Valid M W I ∧
  ∀ c' S, DrC ns (a + 10) c' → Phs S M → Q (dI S) (h.set n c')
theorem len__law_start : ∀ ds h Q E, sp__law_start ds h Q E → ds.length = 2 := fun ds h Q E ⟨n, t, ns, c, M, W, I, e, _⟩ => by rw [e]; rfl
theorem pure__law_start : ∀ ds h Q0 E0, sp__law_start ds h Q0 E0 → WfH h → D.cls h.length ds = true → r__law_start (EndOk h Q0) (zstart N__law_start ds) h := fun ds h Q E ⟨n, ns, a, c, M, W, I, e, ec, hd, ha, V, z⟩ hw hc => by
  subst e
  have hsl := sizeLine_eq
  have hset := fun c => set_at ec c
  have hn2 := V.n2
  show r__law_start (EndOk h Q) [some (.obj n), some (netD M W I), none] h
  unfold r__law_start netD dI
  simp only [zSeq, zAsg, zRet, zRetN, zIfS, zNext, zDrop, zBreak, zCont, zVar, zC, zOp, zUn, zName, zgTup, zgCons, zgNil, zgSub, zAug, zAugS, zPar, zPar3, zAndV, zOrV, zNotV, zTest, zTestE, zAnd, zOr, zNot, zIf, zCh, zCB, zCall, zCKw, zCons, zNil, zTup, zLst, newL, newDK, zIx, zLe, zLt, zGt, zGe, zNe_ii, zEq_ii, zIsN, zNotN, zIn, zNotIn, zInB, zSub, zMod, zFdiv, zPow, zMul, zAdd, zNeg, zI2, zI2C, zLen, zIsi, zTuple, zTupleF, zList, zAbs, zInt1, zDivmod, zMin2, zSet, zGet, zSl, zSlV, zPart, zNoPart, zTix, zBM, zAppend, isL, tyName, kit_tt, kit_ii, kit_ib, sqR, lsR, lsM, dkM, dtM, dLook, Z.keyOf, frS, ziSeq, ziEnum, ziR1, ziR2, ziR3, zFor, zLC, zDC, zYes, zwipe, zDisp, zPairs, zmerge, zSortR3, zSortedI, zSortedDI, zDictOf, List.getElem?_cons_zero, List.getElem?_cons_succ, List.set_cons_zero, List.set_cons_succ, List.length_cons, List.length_nil, List.map_cons, List.map_nil, List.length_map, Bool.not_true, Bool.not_false, decide_true, decide_false, at0]
  let J : List Int → List D → AH → Prop := fun rem acc h' => ∃ (c' : Cl) (pre S : List Int), acc = S.map D.int ∧ M = pre ++ rem ∧ S.length = pre.length ∧ Phs S pre ∧ h' = h.set n c' ∧ DrC ns (a + pre.length) c'
  have jl : ∀ xs acc h', J xs acc h' → acc.length ≤ sizeLine := fun xs acc h' ⟨c', pre, S, e1, e2, e3, _⟩ => by
    subst e1
    have := congrArg List.length e2
    rw [List.length_append] at this
    rw [List.length_map]
    omega
  refine lclI D.int J _ (fun m xs acc h' ⟨c', pre, S, e1, e2, e3, e4, e5, e6⟩ K N hK _ => ?step) jl (fun acc h' ⟨c', pre, S, e1, e2, e3, e4, e5, e6⟩ => ?fin) M [] h ⟨c, [], [], rfl, rfl, rfl, ⟨rfl, fun i s m h => by simp at h⟩, (set_self ec).symm, hd⟩
  case step =>
    subst e1 e5
    have hl : pre.length < 10 := by
      have := congrArg List.length e2
      rw [List.length_append, List.length_cons] at this
      omega
    have hm := V.mo m (by rw [e2]; simp)
    simp only [zSeq, zAsg, zRet, zRetN, zIfS, zNext, zDrop, zBreak, zCont, zVar, zC, zOp, zUn, zName, zgTup, zgCons, zgNil, zgSub, zAug, zAugS, zPar, zPar3, zAndV, zOrV, zNotV, zTest, zTestE, zAnd, zOr, zNot, zIf, zCh, zCB, zCall, zCKw, zCons, zNil, zTup, zLst, newL, newDK, zIx, zLe, zLt, zGt, zGe, zNe_ii, zEq_ii, zIsN, zNotN, zIn, zNotIn, zInB, zSub, zMod, zFdiv, zPow, zMul, zAdd, zNeg, zI2, zI2C, zLen, zIsi, zTuple, zTupleF, zList, zAbs, zInt1, zDivmod, zMin2, zSet, zGet, zSl, zSlV, zPart, zNoPart, zTix, zBM, zAppend, isL, tyName, kit_tt, kit_ii, kit_ib, sqR, lsR, lsM, dkM, dtM, dLook, Z.keyOf, frS, ziSeq, ziEnum, ziR1, ziR2, ziR3, zFor, zLC, zDC, zYes, zwipe, zDisp, zPairs, zmerge, zSortR3, zSortedI, zSortedDI, zDictOf, List.getElem?_cons_zero, List.getElem?_cons_succ, List.set_cons_zero, List.set_cons_succ, List.length_cons, List.length_nil, List.map_cons, List.map_nil, List.length_map, Bool.not_true, Bool.not_false, decide_true, decide_false, cg1__law_start, ce1__law_start]
    refine ⟨n, m, ns, a + pre.length, c', rfl, hset _, e6, by omega, by omega, by omega, fun c2 r d2 p1 p2 => ?_⟩
    refine hK _ _ ⟨c2, pre ++ [m], S ++ [r], by simp, by rw [e2, List.append_assoc]; rfl, by simp [e3], ⟨by simp [e3], fun i s m' q1 q2 => ?_⟩, by rw [List.set_set], by rw [List.length_append, List.length_singleton, ← Nat.add_assoc]; exact d2⟩
    by_cases hi : i < pre.length
    · rw [List.getElem?_append_left (by omega)] at q1 q2
      exact e4.2 i s m' q1 q2
    · rw [List.getElem?_append_right (by omega)] at q1 q2
      have h1 : i - S.length = 0 := by
        have := (List.getElem?_eq_some_iff.mp q1).1
        simp at this
        omega
      have h2 : i - pre.length = 0 := by omega
      rw [h1] at q1
      rw [h2] at q2
      have q1 := Option.some.inj q1
      have q2 := Option.some.inj q2
      rw [← q1, ← q2]
      exact ⟨p1, p2⟩
  case fin =>
    subst e1 e5
    rw [List.append_nil] at e2
    subst e2
    simp only [zSeq, zAsg, zRet, zRetN, zIfS, zNext, zDrop, zBreak, zCont, zVar, zC, zOp, zUn, zName, zgTup, zgCons, zgNil, zgSub, zAug, zAugS, zPar, zPar3, zAndV, zOrV, zNotV, zTest, zTestE, zAnd, zOr, zNot, zIf, zCh, zCB, zCall, zCKw, zCons, zNil, zTup, zLst, newL, newDK, zIx, zLe, zLt, zGt, zGe, zNe_ii, zEq_ii, zIsN, zNotN, zIn, zNotIn, zInB, zSub, zMod, zFdiv, zPow, zMul, zAdd, zNeg, zI2, zI2C, zLen, zIsi, zTuple, zTupleF, zList, zAbs, zInt1, zDivmod, zMin2, zSet, zGet, zSl, zSlV, zPart, zNoPart, zTix, zBM, zAppend, isL, tyName, kit_tt, kit_ii, kit_ib, sqR, lsR, lsM, dkM, dtM, dLook, Z.keyOf, frS, ziSeq, ziEnum, ziR1, ziR2, ziR3, zFor, zLC, zDC, zYes, zwipe, zDisp, zPairs, zmerge, zSortR3, zSortedI, zSortedDI, zDictOf, List.getElem?_cons_zero, List.getElem?_cons_succ, List.set_cons_zero, List.set_cons_succ, List.length_cons, List.length_nil, List.map_cons, List.map_nil, List.length_map, Bool.not_true, Bool.not_false, decide_true, decide_false]
    exact Exit.put0 hw (e6.cl _) (cls_ints _ _) (z _ _ (e6.mono (by omega)) e4)
end Z54
namespace Z54
open PySem PySem.Spec PyProof.Rows L2 Z
section
variable {h : AH} {n : Nat} {c0 : Cl} (e : h[n]? = some c0)
theorem dget (c : Cl) (t : List Cl) : n < h.length → (h.set n c ++ t)[n]? = some c := fun hn => by
  rw [List.getElem?_append_left (by rw [List.length_set]; exact hn), List.getElem?_set_self hn]
theorem dset (c c' : Cl) (t : List Cl) (hn : n < h.length) : (h.set n c ++ t).set n c' = h.set n c' ++ t := by
  rw [List.set_append_left _ _ (by rw [List.length_set]; exact hn), List.set_set]
theorem dtail (c : Cl) (t : List Cl) : (h.set n c ++ t)[h.length]? = t[0]? := by
  have := tail_get0 (h.set n c) t
  rw [List.length_set] at this
  exact this
theorem dtset (c x : Cl) (t : List Cl) : (h.set n c ++ t).set h.length x = h.set n c ++ t.set 0 x := by
  have := tail_set0 (h.set n c) t x
  rw [List.length_set] at this
  exact this
end
theorem lt_of_get {α : Type} {h : List α} {n : Nat} {c : α} (e : h[n]? = some c) : n < h.length := (List.getElem?_eq_some_iff.mp e).1
abbrev N__law_pulses : List Str := ["m", "mesh", "bound", "found", "v", "some"]
def lg1__law_pulses : ZG := (zName 4)
def lb1__law_pulses : ZTS := (zSeq (zAsg (zLst false (zCons (zOp zSub (zCall sp__law_next (zCons (zVar 0) (zCons (zOp (zAdd false) (zOp (zMul false) (zC (.int 2)) (zVar 2)) (zC (.int 1))) zNil))) (zVar 2)) (zCons (zC (.int 0)) (zCons (zC (.int 1)) (zCons (zOp zSub (zOp zPow (zC (.int 10)) (zC (.int 40))) (zCall sp__law_next (zCons (zVar 0) (zCons (zC (.int 2)) zNil)))) (zCons (zOp zSub (zCall sp__law_next (zCons (zVar 0) (zCons (zC (.int 2)) zNil))) (zOp zPow (zC (.int 10)) (zC (.int 40)))) zNil)))))) (zName 5)) (zDrop (zBM isL zAppend (zVar 3) (zCons (zIf (zTest (zOp zIn (zVar 4) (zOp zIx (zVar 1) (zC (.int 2))))) (zOp zIx (zVar 5) (zOp zIx (zLst false (zCons (zC (.int 0)) (zCons (zC (.int 0)) (zCons (zC (.int 0)) (zCons (zC (.int 0)) (zCons (zC (.int 1)) (zCons (zC (.int 2)) (zCons (zC (.int 3)) (zCons (zC (.int 4)) zNil))))))))) (zCall sp__law_next (zCons (zVar 0) (zCons (zC (.int 8)) zNil))))) (zC (.int 0))) zNil))))
def r__law_pulses : ZTS := (zSeq (zAsg (zLst true zNil) (zName 3)) (zSeq (zFor (ziR1 (zCons (zCB zLen (zCons (zOp zIx (zVar 1) (zC (.int 0))) zNil)) zNil)) lg1__law_pulses lb1__law_pulses) (zRet (zCB zTuple (zCons (zVar 3) zNil)))))
theorem loop_pulses {E : ZEnds} {h : AH} {n : Nat} {ns : List Int} {a : Nat} {M : List Int} {W : List T3} {I : List Int} (hn : n < h.length) (ha : a + 100 < 2 ^ 60) (hM : M.length ≤ 10) : ∀ (k : Nat) (T : List Int) (c : Cl) (x y : Option D), T.length + k = M.length → DrC ns (a + 5 * T.length) c →
    (∀ (i : Nat) (t : Int), T[i]? = some t → -10 ^ 40 ≤ t ∧ t ≤ 10 ^ 40 ∧ (t ≠ 0 → (i : Int) ∈ I)) →
    (∀ c' T', DrC ns (a + 100) c' → Tks T' M.length I → ∀ t, E.nx (some (.obj n) :: some (netD M W I) :: some (.int 300) :: some (.obj h.length) :: t) (h.set n c' ++ [.lst (T'.map D.int)])) →
    zForL lg1__law_pulses lb1__law_pulses E ((intsUp (T.length : Nat) k).map D.int) [some (.obj n), some (netD M W I), some (.int 300), some (.obj h.length), x, y] (h.set n c ++ [.lst (T.map D.int)])
  | 0, T, c, x, y, hk, hd, hT, q => q c T (hd.mono (by omega)) ⟨by omega, hT⟩ _
  | k + 1, T, c, x, y, hk, hd, hT, q => by
    have hsl := sizeLine_eq
    have nx := fun (r : Int) (c' : Cl) (x y : Option D) (d : DrC ns (a + 5 * (T.length + 1)) c') (hr : -10 ^ 40 ≤ r ∧ r ≤ 10 ^ 40 ∧ (r ≠ 0 → ((T.length : Nat) : Int) ∈ I)) => loop_pulses (E := E) (W := W) (I := I) hn ha hM k (T ++ [r]) c' x y (by simp; omega) (by rw [List.length_append]; exact d) (fun i t ht => by
      by_cases hi : i < T.length
      · rw [List.getElem?_append_left hi] at ht
        exact hT i t ht
      · rw [List.getElem?_append_right (by omega)] at ht
        have h1 : i - T.length = 0 := by
          have := (List.getElem?_eq_some_iff.mp ht).1
          simp at this
          omega
        rw [h1] at ht
        have ht := Option.some.inj ht
        rw [← ht, show i = T.length by omega]
        exact hr) q
    have eu : intsUp ((T.length : Nat) : Int) (k + 1) = ((T.length : Nat) : Int) :: intsUp (((T.length + 1 : Nat)) : Int) k := rfl
    have el : ∀ r : Int, (T ++ [r]).length = T.length + 1 := fun r => by simp
    rw [eu, List.map_cons, zForL_cons]
    have nx' : ∀ (r : Int) (c' : Cl) (x y : Option D), DrC ns (a + 5 * (T.length + 1)) c' → (-10 ^ 40 ≤ r ∧ r ≤ 10 ^ 40 ∧ (r ≠ 0 → ((T.length : Nat) : Int) ∈ I)) → zForL lg1__law_pulses lb1__law_pulses E ((intsUp ((T.length + 1 : Nat) : Int) k).map D.int) [some (.obj n), some (netD M W I), some (.int 300), some (.obj h.length), x, y] (h.set n c' ++ [.lst ((T ++ [r]).map D.int)]) := fun r c' x y d hr => by
      have := nx r c' x y d hr
      rw [el] at this
      exact this
    clear nx
    generalize zForL _ _ E _ = Kx at nx' ⊢
    simp only [zSeq, zAsg, zRet, zRetN, zIfS, zNext, zDrop, zBreak, zCont, zVar, zC, zOp, zUn, zName, zgTup, zgCons, zgNil, zgSub, zAug, zAugS, zPar, zPar3, zAndV, zOrV, zNotV, zTest, zTestE, zAnd, zOr, zNot, zIf, zCh, zCB, zCall, zCKw, zCons, zNil, zTup, zLst, newL, newDK, zIx, zLe, zLt, zGt, zGe, zNe_ii, zEq_ii, zIsN, zNotN, zIn, zNotIn, zSub, zMod, zFdiv, zPow, zMul, zAdd, zNeg, zI2, zI2C, zLen, zIsi, zTuple, zTupleF, zList, zAbs, zInt1, zDivmod, zMin2, zSet, zGet, zSl, zSlV, zPart, zNoPart, zTix, zBM, zAppend, isL, tyName, kit_tt, kit_ii, kit_ib, sqR, lsR, lsM, dkM, dtM, dLook, Z.keyOf, frS, ziSeq, ziEnum, ziR1, ziR2, ziR3, zFor, zLC, zDC, zYes, zwipe, zDisp, zPairs, zmerge, zSortR3, zSortedI, zSortedDI, zDictOf, List.getElem?_cons_zero, List.getElem?_cons_succ, List.set_cons_zero, List.set_cons_succ, List.length_cons, List.length_nil, List.map_cons, List.map_nil, List.length_map, Bool.not_true, Bool.not_false, decide_true, decide_false, lg1__law_pulses, lb1__law_pulses]
    refine ⟨.inl (.inl (by omega)), n, _, ns, a + 5 * T.length, c, rfl, dget _ _ hn, hd, by omega, by omega, by omega, fun c1 r1 d1 p1 p2 => ?_⟩
    simp only [zSeq, zAsg, zRet, zRetN, zIfS, zNext, zDrop, zBreak, zCont, zVar, zC, zOp, zUn, zName, zgTup, zgCons, zgNil, zgSub, zAug, zAugS, zPar, zPar3, zAndV, zOrV, zNotV, zTest, zTestE, zAnd, zOr, zNot, zIf, zCh, zCB, zCall, zCKw, zCons, zNil, zTup, zLst, newL, newDK, zIx, zLe, zLt, zGt, zGe, zNe_ii, zEq_ii, zIsN, zNotN, zIn, zNotIn, zSub, zMod, zFdiv, zPow, zMul, zAdd, zNeg, zI2, zI2C, zLen, zIsi, zTuple, zTupleF, zList, zAbs, zInt1, zDivmod, zMin2, zSet, zGet, zSl, zSlV, zPart, zNoPart, zTix, zBM, zAppend, isL, tyName, kit_tt, kit_ii, kit_ib, sqR, lsR, lsM, dkM, dtM, dLook, Z.keyOf, frS, ziSeq, ziEnum, ziR1, ziR2, ziR3, zFor, zLC, zDC, zYes, zwipe, zDisp, zPairs, zmerge, zSortR3, zSortedI, zSortedDI, zDictOf, List.getElem?_cons_zero, List.getElem?_cons_succ, List.set_cons_zero, List.set_cons_succ, List.length_cons, List.length_nil, List.map_cons, List.map_nil, List.length_map, Bool.not_true, Bool.not_false, decide_true, decide_false, dset _ _ _ hn]
    refine ⟨⟨by omega, by omega, by decide⟩, n, 2, ns, _, c1, rfl, dget _ _ hn, d1, by omega, by omega, by omega, fun c2 r2 d2 p3 p4 => ?_⟩
    simp only [zSeq, zAsg, zRet, zRetN, zIfS, zNext, zDrop, zBreak, zCont, zVar, zC, zOp, zUn, zName, zgTup, zgCons, zgNil, zgSub, zAug, zAugS, zPar, zPar3, zAndV, zOrV, zNotV, zTest, zTestE, zAnd, zOr, zNot, zIf, zCh, zCB, zCall, zCKw, zCons, zNil, zTup, zLst, newL, newDK, zIx, zLe, zLt, zGt, zGe, zNe_ii, zEq_ii, zIsN, zNotN, zIn, zNotIn, zSub, zMod, zFdiv, zPow, zMul, zAdd, zNeg, zI2, zI2C, zLen, zIsi, zTuple, zTupleF, zList, zAbs, zInt1, zDivmod, zMin2, zSet, zGet, zSl, zSlV, zPart, zNoPart, zTix, zBM, zAppend, isL, tyName, kit_tt, kit_ii, kit_ib, sqR, lsR, lsM, dkM, dtM, dLook, Z.keyOf, frS, ziSeq, ziEnum, ziR1, ziR2, ziR3, zFor, zLC, zDC, zYes, zwipe, zDisp, zPairs, zmerge, zSortR3, zSortedI, zSortedDI, zDictOf, List.getElem?_cons_zero, List.getElem?_cons_succ, List.set_cons_zero, List.set_cons_succ, List.length_cons, List.length_nil, List.map_cons, List.map_nil, List.length_map, Bool.not_true, Bool.not_false, decide_true, decide_false, dset _ _ _ hn]
    refine ⟨n, 2, ns, _, c2, rfl, dget _ _ hn, d2, by omega, by omega, by omega, fun c3 r3 d3 p5 p6 => ?_⟩
    simp only [zSeq, zAsg, zRet, zRetN, zIfS, zNext, zDrop, zBreak, zCont, zVar, zC, zOp, zUn, zName, zgTup, zgCons, zgNil, zgSub, zAug, zAugS, zPar, zPar3, zAndV, zOrV, zNotV, zTest, zTestE, zAnd, zOr, zNot, zIf, zCh, zCB, zCall, zCKw, zCons, zNil, zTup, zLst, newL, newDK, zIx, zLe, zLt, zGt, zGe, zNe_ii, zEq_ii, zIsN, zNotN, zIn, zNotIn, zSub, zMod, zFdiv, zPow, zMul, zAdd, zNeg, zI2, zI2C, zLen, zIsi, zTuple, zTupleF, zList, zAbs, zInt1, zDivmod, zMin2, zSet, zGet, zSl, zSlV, zPart, zNoPart, zTix, zBM, zAppend, isL, tyName, kit_tt, kit_ii, kit_ib, sqR, lsR, lsM, dkM, dtM, dLook, Z.keyOf, frS, ziSeq, ziEnum, ziR1, ziR2, ziR3, zFor, zLC, zDC, zYes, zwipe, zDisp, zPairs, zmerge, zSortR3, zSortedI, zSortedDI, zDictOf, List.getElem?_cons_zero, List.getElem?_cons_succ, List.set_cons_zero, List.set_cons_succ, List.length_cons, List.length_nil, List.map_cons, List.map_nil, List.length_map, Bool.not_true, Bool.not_false, decide_true, decide_false, dset _ _ _ hn]
    refine ⟨⟨by omega, by omega, by decide⟩, by omega, ?_⟩
    have e40 : (10 : Int) ^ Int.toNat 40 = 10 ^ 40 := rfl
    unfold netD at nx' ⊢
    simp only [zSeq, zAsg, zRet, zRetN, zIfS, zNext, zDrop, zBreak, zCont, zVar, zC, zOp, zUn, zName, zgTup, zgCons, zgNil, zgSub, zAug, zAugS, zPar, zPar3, zAndV, zOrV, zNotV, zTest, zTestE, zAnd, zOr, zNot, zIf, zCh, zCB, zCall, zCKw, zCons, zNil, zTup, zLst, newL, newDK, zIx, zLe, zLt, zGt, zGe, zNe_ii, zEq_ii, zIsN, zNotN, zIn, zNotIn, zSub, zMod, zFdiv, zPow, zMul, zAdd, zNeg, zI2, zI2C, zLen, zIsi, zTuple, zTupleF, zList, zAbs, zInt1, zDivmod, zMin2, zSet, zGet, zSl, zSlV, zPart, zNoPart, zTix, zBM, zAppend, isL, tyName, kit_tt, kit_ii, kit_ib, sqR, lsR, lsM, dkM, dtM, dLook, Z.keyOf, frS, ziSeq, ziEnum, ziR1, ziR2, ziR3, zFor, zLC, zDC, zYes, zwipe, zDisp, zPairs, zmerge, zSortR3, zSortedI, zSortedDI, zDictOf, List.getElem?_cons_zero, List.getElem?_cons_succ, List.set_cons_zero, List.set_cons_succ, List.length_cons, List.length_nil, List.map_cons, List.map_nil, List.length_map, Bool.not_true, Bool.not_false, decide_true, decide_false, at2, dtail, e40]
    have eB : ∀ (hh : AH), zInB hh (.int (T.length : Nat)) (dI I) = some (decide (((T.length : Nat) : Int) ∈ I)) := fun hh => inB_ints _ rfl
    have fin : ∀ (r : Int) (c' : Cl), DrC ns (a + 5 * (T.length + 1)) c' → (-10 ^ 40 ≤ r ∧ r ≤ 10 ^ 40 ∧ (r ≠ 0 → ((T.length : Nat) : Int) ∈ I)) → ∀ y, Kx [some (.obj n), some (.tup [dI M, dW W, dI I]), some (.int 300), some (.obj h.length), some (.int (T.length : Nat)), y] (h.set n c' ++ [.lst (T.map D.int ++ [.int r])]) := fun r c' d hr y => by
      have := nx' r c' (some (.int (T.length : Nat))) y d hr
      rw [List.map_append] at this
      exact this
    refine ⟨rfl, ?_⟩
    rw [eB]
    by_cases hv : ((T.length : Nat) : Int) ∈ I
    · rw [decide_eq_true hv]
      simp only [zSeq, zAsg, zRet, zRetN, zIfS, zNext, zDrop, zBreak, zCont, zVar, zC, zOp, zUn, zName, zgTup, zgCons, zgNil, zgSub, zAug, zAugS, zPar, zPar3, zAndV, zOrV, zNotV, zTest, zTestE, zAnd, zOr, zNot, zIf, zCh, zCB, zCall, zCKw, zCons, zNil, zTup, zLst, newL, newDK, zIx, zLe, zLt, zGt, zGe, zNe_ii, zEq_ii, zIsN, zNotN, zIn, zNotIn, zSub, zMod, zFdiv, zPow, zMul, zAdd, zNeg, zI2, zI2C, zLen, zIsi, zTuple, zTupleF, zList, zAbs, zInt1, zDivmod, zMin2, zSet, zGet, zSl, zSlV, zPart, zNoPart, zTix, zBM, zAppend, isL, tyName, kit_tt, kit_ii, kit_ib, sqR, lsR, lsM, dkM, dtM, dLook, Z.keyOf, frS, ziSeq, ziEnum, ziR1, ziR2, ziR3, zFor, zLC, zDC, zYes, zwipe, zDisp, zPairs, zmerge, zSortR3, zSortedI, zSortedDI, zDictOf, List.getElem?_cons_zero, List.getElem?_cons_succ, List.set_cons_zero, List.set_cons_succ, List.length_cons, List.length_nil, List.map_cons, List.map_nil, List.length_map, Bool.not_true, Bool.not_false, decide_true, decide_false]
      refine ⟨by omega, n, 8, ns, _, c3, rfl, dget _ _ hn, d3, by omega, by omega, by omega, fun c4 r4 d4 p7 p8 => ?_⟩
      have d5 : DrC ns (a + 5 * (T.length + 1)) c4 := d4.mono (by omega)
      have hr : r4 = 0 ∨ r4 = 1 ∨ r4 = 2 ∨ r4 = 3 ∨ r4 = 4 ∨ r4 = 5 ∨ r4 = 6 ∨ r4 = 7 := by omega
      simp only [zSeq, zAsg, zRet, zRetN, zIfS, zNext, zDrop, zBreak, zCont, zVar, zC, zOp, zUn, zName, zgTup, zgCons, zgNil, zgSub, zAug, zAugS, zPar, zPar3, zAndV, zOrV, zNotV, zTest, zTestE, zAnd, zOr, zNot, zIf, zCh, zCB, zCall, zCKw, zCons, zNil, zTup, zLst, newL, newDK, zIx, zLe, zLt, zGt, zGe, zNe_ii, zEq_ii, zIsN, zNotN, zIn, zNotIn, zSub, zMod, zFdiv, zPow, zMul, zAdd, zNeg, zI2, zI2C, zLen, zIsi, zTuple, zTupleF, zList, zAbs, zInt1, zDivmod, zMin2, zSet, zGet, zSl, zSlV, zPart, zNoPart, zTix, zBM, zAppend, isL, tyName, kit_tt, kit_ii, kit_ib, sqR, lsR, lsM, dkM, dtM, dLook, Z.keyOf, frS, ziSeq, ziEnum, ziR1, ziR2, ziR3, zFor, zLC, zDC, zYes, zwipe, zDisp, zPairs, zmerge, zSortR3, zSortedI, zSortedDI, zDictOf, List.getElem?_cons_zero, List.getElem?_cons_succ, List.set_cons_zero, List.set_cons_succ, List.length_cons, List.length_nil, List.map_cons, List.map_nil, List.length_map, Bool.not_true, Bool.not_false, decide_true, decide_false, dset _ _ _ hn, dtail, dtset]
      have hT' : T.length < sizeLine := by omega
      rcases hr with rfl | rfl | rfl | rfl | rfl | rfl | rfl | rfl
      · exact ⟨hT', fin _ _ d5 ⟨by omega, by omega, fun _ => hv⟩ _⟩
      · exact ⟨hT', fin _ _ d5 ⟨by omega, by omega, fun _ => hv⟩ _⟩
      · exact ⟨hT', fin _ _ d5 ⟨by omega, by omega, fun _ => hv⟩ _⟩
      · exact ⟨hT', fin _ _ d5 ⟨by omega, by omega, fun _ => hv⟩ _⟩
      · exact ⟨hT', fin _ _ d5 ⟨by omega, by omega, fun _ => hv⟩ _⟩
      · exact ⟨hT', fin _ _ d5 ⟨by omega, by omega, fun _ => hv⟩ _⟩
      · exact ⟨hT', fin _ _ d5 ⟨by omega, by omega, fun _ => hv⟩ _⟩
      · exact ⟨hT', fin _ _ d5 ⟨by omega, by omega, fun _ => hv⟩ _⟩
    · rw [decide_eq_false hv]
      simp only [zSeq, zAsg, zRet, zRetN, zIfS, zNext, zDrop, zBreak, zCont, zVar, zC, zOp, zUn, zName, zgTup, zgCons, zgNil, zgSub, zAug, zAugS, zPar, zPar3, zAndV, zOrV, zNotV, zTest, zTestE, zAnd, zOr, zNot, zIf, zCh, zCB, zCall, zCKw, zCons, zNil, zTup, zLst, newL, newDK, zIx, zLe, zLt, zGt, zGe, zNe_ii, zEq_ii, zIsN, zNotN, zIn, zNotIn, zSub, zMod, zFdiv, zPow, zMul, zAdd, zNeg, zI2, zI2C, zLen, zIsi, zTuple, zTupleF, zList, zAbs, zInt1, zDivmod, zMin2, zSet, zGet, zSl, zSlV, zPart, zNoPart, zTix, zBM, zAppend, isL, tyName, kit_tt, kit_ii, kit_ib, sqR, lsR, lsM, dkM, dtM, dLook, Z.keyOf, frS, ziSeq, ziEnum, ziR1, ziR2, ziR3, zFor, zLC, zDC, zYes, zwipe, zDisp, zPairs, zmerge, zSortR3, zSortedI, zSortedDI, zDictOf, List.getElem?_cons_zero, List.getElem?_cons_succ, List.set_cons_zero, List.set_cons_succ, List.length_cons, List.length_nil, List.map_cons, List.map_nil, List.length_map, Bool.not_true, Bool.not_false, decide_true, decide_false, dtail, dtset]
      exact ⟨by omega, fin 0 _ (d3.mono (by omega)) ⟨by omega, by omega, fun z => absurd rfl z⟩ _⟩
def sp__law_pulses : ZSp := fun ds h Q _ => ∃ (n : Nat) (ns : List Int) (a : Nat) (c : Cl) (M : List Int) (W : List T3) (I : List Int), ds = [.obj n, netD M W I, .int 300] ∧ h[n]? = some c ∧ DrC ns a c ∧ a + 100 < 2 ^ 60 ∧ Valid M W I ∧
  ∀ c' T, DrC ns (a + 100) c' → Tks T M.length I → Q (dI T) (h.set n c')
theorem len__law_pulses : ∀ ds h Q E, sp__law_pulses ds h Q E → ds.length = 3 := fun ds h Q E ⟨n, t, ns, c, M, W, I, e, _⟩ => by rw [e]; rfl
theorem pure__law_pulses : ∀ ds h Q0 E0, sp__law_pulses ds h Q0 E0 → WfH h → D.cls h.length ds = true → r__law_pulses (EndOk h Q0) (zstart N__law_pulses ds) h := fun ds h Q E ⟨n, ns, a, c, M, W, I, e, ec, hd, ha, V, z⟩ hw hc => by
  subst e
  have hsl := sizeLine_eq
  have hn2 := V.n2
  show r__law_pulses (EndOk h Q) [some (.obj n), some (netD M W I), some (.int 300), none, none, none] h
  have lp := loop_pulses (E := { nx := (zRet (zCB zTuple (zCons (zVar 3) zNil))) (EndOk h Q), rt := Exit h.length Q }) (ns := ns) (W := W) (I := I) (lt_of_get ec) ha hn2 M.length [] c none none (by simp) hd (fun i t ht => by simp at ht) (fun c' T' d' hT' t => by
    simp only [zSeq, zAsg, zRet, zRetN, zIfS, zNext, zDrop, zBreak, zCont, zVar, zC, zOp, zUn, zName, zgTup, zgCons, zgNil, zgSub, zAug, zAugS, zPar, zPar3, zAndV, zOrV, zNotV, zTest, zTestE, zAnd, zOr, zNot, zIf, zCh, zCB, zCall, zCKw, zCons, zNil, zTup, zLst, newL, newDK, zIx, zLe, zLt, zGt, zGe, zNe_ii, zEq_ii, zIsN, zNotN, zIn, zNotIn, zInB, zSub, zMod, zFdiv, zPow, zMul, zAdd, zNeg, zI2, zI2C, zLen, zIsi, zTuple, zTupleF, zList, zAbs, zInt1, zDivmod, zMin2, zSet, zGet, zSl, zSlV, zPart, zNoPart, zTix, zBM, zAppend, isL, tyName, kit_tt, kit_ii, kit_ib, sqR, lsR, lsM, dkM, dtM, dLook, Z.keyOf, frS, ziSeq, ziEnum, ziR1, ziR2, ziR3, zFor, zLC, zDC, zYes, zwipe, zDisp, zPairs, zmerge, zSortR3, zSortedI, zSortedDI, zDictOf, List.getElem?_cons_zero, List.getElem?_cons_succ, List.set_cons_zero, List.set_cons_succ, List.length_cons, List.length_nil, List.map_cons, List.map_nil, List.length_map, Bool.not_true, Bool.not_false, decide_true, decide_false, dtail]
    exact Exit.put hw (d'.cl _) (cls_ints _ _) (z _ _ d' hT'))
  rw [set_self ec] at lp
  unfold r__law_pulses
  unfold netD dI at lp ⊢
  simp only [zSeq, zAsg, zRet, zRetN, zIfS, zNext, zDrop, zBreak, zCont, zVar, zC, zOp, zUn, zName, zgTup, zgCons, zgNil, zgSub, zAug, zAugS, zPar, zPar3, zAndV, zOrV, zNotV, zTest, zTestE, zAnd, zOr, zNot, zIf, zCh, zCB, zCall, zCKw, zCons, zNil, zTup, zLst, newL, newDK, zIx, zLe, zLt, zGt, zGe, zNe_ii, zEq_ii, zIsN, zNotN, zIn, zNotIn, zInB, zSub, zMod, zFdiv, zPow, zMul, zAdd, zNeg, zI2, zI2C, zLen, zIsi, zTuple, zTupleF, zList, zAbs, zInt1, zDivmod, zMin2, zSet, zGet, zSl, zSlV, zPart, zNoPart, zTix, zBM, zAppend, isL, tyName, kit_tt, kit_ii, kit_ib, sqR, lsR, lsM, dkM, dtM, dLook, Z.keyOf, frS, ziSeq, ziEnum, ziR1, ziR2, ziR3, zFor, zLC, zDC, zYes, zwipe, zDisp, zPairs, zmerge, zSortR3, zSortedI, zSortedDI, zDictOf, List.getElem?_cons_zero, List.getElem?_cons_succ, List.set_cons_zero, List.set_cons_succ, List.length_cons, List.length_nil, List.map_cons, List.map_nil, List.length_map, Bool.not_true, Bool.not_false, decide_true, decide_false, at0]
  refine ⟨by omega, ⟨by omega, by omega⟩, ?_⟩
  rw [Int.toNat_natCast, zrange_up]
  exact lp
end Z54
namespace Z54
open PySem PySem.Spec PyProof.Rows L2 Z
/-- wires so far, sources up to u, of u the targets below v -/
structure WSo (m : Nat) (u v : Int) (W : List T3) : Prop where
  ok : ∀ w ∈ W, WOk m w
  asc : W.Pairwise Lt2
  bel : ∀ w ∈ W, w.1 < u ∨ (w.1 = u ∧ w.2.1 < v)
theorem WSo.mono {m : Nat} {u v v' : Int} {W : List T3} (h : WSo m u v W) (hv : v ≤ v') : WSo m u v' W := ⟨h.ok, h.asc, fun w hw => by
  have := h.bel w hw
  omega⟩
theorem WSo.next {m : Nat} {u v v' : Int} {W : List T3} (h : WSo m u v W) : WSo m (u + 1) v' W := ⟨h.ok, h.asc, fun w hw => by
  have := h.bel w hw
  omega⟩
theorem WSo.push {m : Nat} {u v r : Int} {W : List T3} (h : WSo m u v W) (hw : WOk m (u, v, r)) : WSo m u (v + 1) (W ++ [(u, v, r)]) := by
  refine ⟨fun w hm => ?_, ?_, fun w hm => ?_⟩
  · rcases List.mem_append.mp hm with q | q
    · exact h.ok w q
    · rw [List.mem_singleton.mp q]; exact hw
  · rw [List.pairwise_append]
    refine ⟨h.asc, by simp, fun a ha b hb => ?_⟩
    rw [List.mem_singleton.mp hb]
    have := h.bel a ha
    unfold Lt2
    dsimp only
    omega
  · rcases List.mem_append.mp hm with q | q
    · have := h.bel w q
      omega
    · rw [List.mem_singleton.mp q]
      dsimp only
      omega
abbrev N__law_net : List Str := ["m", "most", "wide", "many", "moduli", "v", "wires", "u", "chosen"]
def cg1__law_net : ZG := (zName 5)
def ce1__law_net : ZE := (zOp (zAdd false) (zC (.int 2)) (zCall sp__law_next (zCons (zVar 0) (zCons (zVar 2) zNil))))
def lg1__law_net : ZG := (zName 5)
def lb1__law_net : ZTS := (zIfS (zTest (zOp zEq (zCall sp__law_next (zCons (zVar 0) (zCons (zC (.int 2)) zNil))) (zC (.int 0)))) (zDrop (zBM isL zAppend (zVar 6) (zCons (zTup (zCons (zVar 7) (zCons (zVar 5) (zCons (zCall sp__law_weight (zCons (zVar 0) zNil)) zNil)))) zNil))) zNext)
def lg2__law_net : ZG := (zName 7)
def lb2__law_net : ZTS := (zFor (ziR2 (zCons (zOp (zAdd false) (zVar 7) (zC (.int 1))) (zCons (zVar 3) zNil))) lg1__law_net lb1__law_net)
def cg2__law_net : ZG := (zName 5)
def ce2__law_net : ZE := (zVar 5)
def ct1__law_net : ZT := (zTest (zOp zEq (zCall sp__law_next (zCons (zVar 0) (zCons (zC (.int 2)) zNil))) (zC (.int 0))))
def r__law_net : ZTS := (zSeq (zAsg (zOp (zAdd false) (zC (.int 1)) (zCall sp__law_next (zCons (zVar 0) (zCons (zVar 1) zNil)))) (zName 3)) (zSeq (zAsg (zCB zTuple (zCons (zLC false (ziR1 (zCons (zVar 3) zNil)) cg1__law_net zYes ce1__law_net [5]) zNil)) (zName 4)) (zSeq (zAsg (zLst true zNil) (zName 6)) (zSeq (zFor (ziR1 (zCons (zVar 3) zNil)) lg2__law_net lb2__law_net) (zSeq (zAsg (zLC false (ziR1 (zCons (zVar 3) zNil)) cg2__law_net ct1__law_net ce2__law_net [5]) (zName 8)) (zSeq (zIfS (zAnd (zTest (zOp zEq (zVar 8) (zLst false zNil))) (zTest (zOp zGt (zCall sp__law_next (zCons (zVar 0) (zCons (zC (.int 10)) zNil))) (zC (.int 0))))) (zAsg (zLst false (zCons (zCall sp__law_next (zCons (zVar 0) (zCons (zVar 3) zNil))) zNil)) (zName 8)) zNext) (zRet (zTup (zCons (zVar 4) (zCons (zCB zTuple (zCons (zVar 6) zNil)) (zCons (zCB zTuple (zCons (zVar 8) zNil)) zNil)))))))))))
theorem loop_net1 {E : ZEnds} {h : AH} {n : Nat} {ns : List Int} {b : Nat} {m : Nat} {u : Nat} {s1 s2 s4 s8 : Option D} (hn : n < h.length) (hb : b + 40 < 2 ^ 60) (hm : m ≤ 10) : ∀ (k j : Nat) (W : List T3) (c : Cl) (x : Option D), u + 1 + j + k = m → DrC ns (b + 4 * j) c → WSo m u (u + 1 + j : Nat) W → W.length ≤ 10 * u + j →
    (∀ c' W', DrC ns (b + 40) c' → WSo m u m W' → W'.length ≤ 10 * u + 10 → ∀ x, E.nx [some (.obj n), s1, s2, some (.int m), s4, x, some (.obj h.length), some (.int u), s8] (h.set n c' ++ [.lst (W'.map wD)])) →
    zForL lg1__law_net lb1__law_net E ((intsUp ((u + 1 + j : Nat) : Int) k).map D.int) [some (.obj n), s1, s2, some (.int m), s4, x, some (.obj h.length), some (.int u), s8] (h.set n c ++ [.lst (W.map wD)])
  | 0, j, W, c, x, hk, hd, hW, hl, q => q c W (hd.mono (by omega)) (hW.mono (by omega)) (by omega) x
  | k + 1, j, W, c, x, hk, hd, hW, hl, q => by
    have hsl := sizeLine_eq
    have nx := fun (W' : List T3) (c' : Cl) (x : Option D) (d : DrC ns (b + 4 * (j + 1)) c') (hW' : WSo m u (u + 1 + (j + 1) : Nat) W') (hl' : W'.length ≤ 10 * u + (j + 1)) => loop_net1 (E := E) (s1 := s1) (s2 := s2) (s4 := s4) (s8 := s8) hn hb hm k (j + 1) W' c' x (by omega) d hW' hl' q
    have eu : intsUp ((u + 1 + j : Nat) : Int) (k + 1) = ((u + 1 + j : Nat) : Int) :: intsUp ((u + 1 + (j + 1) : Nat) : Int) k := rfl
    rw [eu, List.map_cons, zForL_cons]
    generalize zForL _ _ E _ = Kx at nx ⊢
    simp only [zSeq, zAsg, zRet, zRetN, zIfS, zNext, zDrop, zBreak, zCont, zVar, zC, zOp, zUn, zName, zgTup, zgCons, zgNil, zgSub, zAug, zAugS, zPar, zPar3, zAndV, zOrV, zNotV, zTest, zTestE, zAnd, zOr, zNot, zIf, zCh, zCB, zCall, zCKw, zCons, zNil, zTup, zLst, newL, newDK, zIx, zLe, zLt, zGt, zGe, zNe_ii, zEq_ii, zIsN, zNotN, zIn, zNotIn, zSub, zMod, zFdiv, zPow, zMul, zAdd, zNeg, zI2, zI2C, zLen, zIsi, zTuple, zTupleF, zList, zAbs, zInt1, zDivmod, zMin2, zSet, zGet, zSl, zSlV, zPart, zNoPart, zTix, zBM, zAppend, isL, tyName, kit_tt, kit_ii, kit_ib, sqR, lsR, lsM, dkM, dtM, dLook, Z.keyOf, frS, ziSeq, ziEnum, ziR1, ziR2, ziR3, zFor, zLC, zDC, zYes, zwipe, zDisp, zPairs, zmerge, zSortR3, zSortedI, zSortedDI, zDictOf, List.getElem?_cons_zero, List.getElem?_cons_succ, List.set_cons_zero, List.set_cons_succ, List.length_cons, List.length_nil, List.map_cons, List.map_nil, List.length_map, Bool.not_true, Bool.not_false, decide_true, decide_false, lg1__law_net, lb1__law_net]
    refine ⟨n, 2, ns, _, c, rfl, dget _ _ hn, hd, by omega, by omega, by omega, fun c1 r1 d1 p1 p2 => ?_⟩
    simp only [zSeq, zAsg, zRet, zRetN, zIfS, zNext, zDrop, zBreak, zCont, zVar, zC, zOp, zUn, zName, zgTup, zgCons, zgNil, zgSub, zAug, zAugS, zPar, zPar3, zAndV, zOrV, zNotV, zTest, zTestE, zAnd, zOr, zNot, zIf, zCh, zCB, zCall, zCKw, zCons, zNil, zTup, zLst, newL, newDK, zIx, zLe, zLt, zGt, zGe, zNe_ii, zEq_ii, zIsN, zNotN, zIn, zNotIn, zSub, zMod, zFdiv, zPow, zMul, zAdd, zNeg, zI2, zI2C, zLen, zIsi, zTuple, zTupleF, zList, zAbs, zInt1, zDivmod, zMin2, zSet, zGet, zSl, zSlV, zPart, zNoPart, zTix, zBM, zAppend, isL, tyName, kit_tt, kit_ii, kit_ib, sqR, lsR, lsM, dkM, dtM, dLook, Z.keyOf, frS, ziSeq, ziEnum, ziR1, ziR2, ziR3, zFor, zLC, zDC, zYes, zwipe, zDisp, zPairs, zmerge, zSortR3, zSortedI, zSortedDI, zDictOf, List.getElem?_cons_zero, List.getElem?_cons_succ, List.set_cons_zero, List.set_cons_succ, List.length_cons, List.length_nil, List.map_cons, List.map_nil, List.length_map, Bool.not_true, Bool.not_false, decide_true, decide_false, dset _ _ _ hn]
    by_cases hr : r1 = 0
    · rw [decide_eq_true hr]
      simp only [zSeq, zAsg, zRet, zRetN, zIfS, zNext, zDrop, zBreak, zCont, zVar, zC, zOp, zUn, zName, zgTup, zgCons, zgNil, zgSub, zAug, zAugS, zPar, zPar3, zAndV, zOrV, zNotV, zTest, zTestE, zAnd, zOr, zNot, zIf, zCh, zCB, zCall, zCKw, zCons, zNil, zTup, zLst, newL, newDK, zIx, zLe, zLt, zGt, zGe, zNe_ii, zEq_ii, zIsN, zNotN, zIn, zNotIn, zSub, zMod, zFdiv, zPow, zMul, zAdd, zNeg, zI2, zI2C, zLen, zIsi, zTuple, zTupleF, zList, zAbs, zInt1, zDivmod, zMin2, zSet, zGet, zSl, zSlV, zPart, zNoPart, zTix, zBM, zAppend, isL, tyName, kit_tt, kit_ii, kit_ib, sqR, lsR, lsM, dkM, dtM, dLook, Z.keyOf, frS, ziSeq, ziEnum, ziR1, ziR2, ziR3, zFor, zLC, zDC, zYes, zwipe, zDisp, zPairs, zmerge, zSortR3, zSortedI, zSortedDI, zDictOf, List.getElem?_cons_zero, List.getElem?_cons_succ, List.set_cons_zero, List.set_cons_succ, List.length_cons, List.length_nil, List.map_cons, List.map_nil, List.length_map, Bool.not_true, Bool.not_false, decide_true, decide_false]
      refine ⟨?_, n, ns, _, c1, rfl, dget _ _ hn, d1, by omega, fun c2 r2 d2 p3 p4 p5 => ?_⟩
      · simp only [lsR, lsM, dtail, List.getElem?_cons_zero, Option.isSome_some]
      · simp only [zSeq, zAsg, zRet, zRetN, zIfS, zNext, zDrop, zBreak, zCont, zVar, zC, zOp, zUn, zName, zgTup, zgCons, zgNil, zgSub, zAug, zAugS, zPar, zPar3, zAndV, zOrV, zNotV, zTest, zTestE, zAnd, zOr, zNot, zIf, zCh, zCB, zCall, zCKw, zCons, zNil, zTup, zLst, newL, newDK, zIx, zLe, zLt, zGt, zGe, zNe_ii, zEq_ii, zIsN, zNotN, zIn, zNotIn, zSub, zMod, zFdiv, zPow, zMul, zAdd, zNeg, zI2, zI2C, zLen, zIsi, zTuple, zTupleF, zList, zAbs, zInt1, zDivmod, zMin2, zSet, zGet, zSl, zSlV, zPart, zNoPart, zTix, zBM, zAppend, isL, tyName, kit_tt, kit_ii, kit_ib, sqR, lsR, lsM, dkM, dtM, dLook, Z.keyOf, frS, ziSeq, ziEnum, ziR1, ziR2, ziR3, zFor, zLC, zDC, zYes, zwipe, zDisp, zPairs, zmerge, zSortR3, zSortedI, zSortedDI, zDictOf, List.getElem?_cons_zero, List.getElem?_cons_succ, List.set_cons_zero, List.set_cons_succ, List.length_cons, List.length_nil, List.map_cons, List.map_nil, List.length_map, Bool.not_true, Bool.not_false, decide_true, decide_false, dset _ _ _ hn, dtail, dtset]
        refine ⟨by omega, by omega, ?_⟩
        have ew : W.map wD ++ [.tup [.int u, .int ((u + 1 + j : Nat) : Int), .int r2]] = (W ++ [((u : Int), ((u + 1 + j : Nat) : Int), r2)]).map wD := by simp [wD]
        rw [ew]
        refine nx _ _ _ (d2.mono (by omega)) ((hW.push ?_).mono (by omega)) (by simp; omega)
        unfold WOk
        dsimp only
        omega
    · rw [decide_eq_false hr]
      exact nx _ _ _ (d1.mono (by omega)) (hW.mono (by omega)) (by omega)
theorem loop_net2 {E : ZEnds} {h : AH} {n : Nat} {ns : List Int} {b : Nat} {m : Nat} {s1 s2 s4 s8 : Option D} (hn : n < h.length) (hb : b + 400 < 2 ^ 60) (hm : m ≤ 10) : ∀ (k u : Nat) (W : List T3) (c : Cl) (x y : Option D), u + k = m → DrC ns (b + 40 * u) c → (∃ v, WSo m u v W ∧ v ≤ u + 1) → W.length ≤ 10 * u →
    (∀ c' W', DrC ns (b + 400) c' → WSo m m 0 W' → W'.length ≤ 100 → ∀ x y, E.nx [some (.obj n), s1, s2, some (.int m), s4, x, some (.obj h.length), y, s8] (h.set n c' ++ [.lst (W'.map wD)])) →
    zForL lg2__law_net lb2__law_net E ((intsUp (u : Nat) k).map D.int) [some (.obj n), s1, s2, some (.int m), s4, x, some (.obj h.length), y, s8] (h.set n c ++ [.lst (W.map wD)])
  | 0, u, W, c, x, y, hk, hd, ⟨v, hW, hv⟩, hl, q => q c W (hd.mono (by omega)) ⟨hW.ok, hW.asc, fun w hw => .inl (by
      have := hW.ok w hw
      unfold WOk at this
      omega)⟩ (by omega) x y
  | k + 1, u, W, c, x, y, hk, hd, ⟨v, hW, hv⟩, hl, q => by
    have nx := fun (W' : List T3) (c' : Cl) (x y : Option D) (d : DrC ns (b + 40 * (u + 1)) c') (hW' : ∃ v : Int, WSo m (u + 1 : Nat) v W' ∧ v ≤ (u + 1 : Nat) + 1) (hl' : W'.length ≤ 10 * (u + 1)) => loop_net2 (E := E) (s1 := s1) (s2 := s2) (s4 := s4) (s8 := s8) hn hb hm k (u + 1) W' c' x y (by omega) d hW' hl' q
    have eu : intsUp ((u : Nat) : Int) (k + 1) = ((u : Nat) : Int) :: intsUp ((u + 1 : Nat) : Int) k := rfl
    rw [eu, List.map_cons, zForL_cons]
    generalize zForL _ _ E _ = Kx at nx ⊢
    simp only [zSeq, zAsg, zRet, zRetN, zIfS, zNext, zDrop, zBreak, zCont, zVar, zC, zOp, zUn, zName, zgTup, zgCons, zgNil, zgSub, zAug, zAugS, zPar, zPar3, zAndV, zOrV, zNotV, zTest, zTestE, zAnd, zOr, zNot, zIf, zCh, zCB, zCall, zCKw, zCons, zNil, zTup, zLst, newL, newDK, zIx, zLe, zLt, zGt, zGe, zNe_ii, zEq_ii, zIsN, zNotN, zIn, zNotIn, zSub, zMod, zFdiv, zPow, zMul, zAdd, zNeg, zI2, zI2C, zLen, zIsi, zTuple, zTupleF, zList, zAbs, zInt1, zDivmod, zMin2, zSet, zGet, zSl, zSlV, zPart, zNoPart, zTix, zBM, zAppend, isL, tyName, kit_tt, kit_ii, kit_ib, sqR, lsR, lsM, dkM, dtM, dLook, Z.keyOf, frS, ziSeq, ziEnum, ziR1, ziR2, ziR3, zFor, zLC, zDC, zYes, zwipe, zDisp, zPairs, zmerge, zSortR3, zSortedI, zSortedDI, zDictOf, List.getElem?_cons_zero, List.getElem?_cons_succ, List.set_cons_zero, List.set_cons_succ, List.length_cons, List.length_nil, List.map_cons, List.map_nil, List.length_map, Bool.not_true, Bool.not_false, decide_true, decide_false, lg2__law_net, lb2__law_net]
    refine ⟨⟨by omega, by omega, by omega, by omega⟩, ?_⟩
    rw [zrange_up, show (((m : Nat) : Int) - (((u : Nat) : Int) + 1)).toNat = k by omega]
    refine loop_net1 (b := b + 40 * u) hn (by omega) hm k 0 W c x (by omega) hd ((hW.mono (by omega))) (by omega) fun c' W' d' hW' hl' x => ?_
    refine nx W' c' x _ (d'.mono (by omega)) ⟨0, ?_, by omega⟩ (by omega)
    exact hW'.next
def sp__law_net : ZSp := fun ds h Q _ => ∃ (n : Nat) (ns : List Int) (a : Nat) (c : Cl) (wide : Int), ds = [.obj n, .int 10, .int wide] ∧ h[n]? = some c ∧ DrC ns a c ∧ a + 1000 < 2 ^ 60 ∧ 0 < wide ∧ wide ≤ 999 ∧
  ∀ c' M W I, DrC ns (a + 1000) c' → Valid M W I → Q (netD M W I) (h.set n c')
theorem len__law_net : ∀ ds h Q E, sp__law_net ds h Q E → ds.length = 3 := fun ds h Q E ⟨n, t, ns, c, M, e, _⟩ => by rw [e]; rfl
theorem asc_push {I : List Int} {x : Int} (h : I.Pairwise (· < ·)) (hx : ∀ i ∈ I, i < x) : (I ++ [x]).Pairwise (· < ·) := by
  rw [List.pairwise_append]
  exact ⟨h, by simp, fun a ha b hb => by rw [List.mem_singleton.mp hb]; exact hx a ha⟩
theorem pure__law_net : ∀ ds h Q0 E0, sp__law_net ds h Q0 E0 → WfH h → D.cls h.length ds = true → r__law_net (EndOk h Q0) (zstart N__law_net ds) h := fun ds h Q E ⟨n, ns, a, c, wide, e, ec, hd, ha, w1, w2, z⟩ hw hc => by
  subst e
  have hsl := sizeLine_eq
  have hn := lt_of_get ec
  have hset := fun c => set_at ec c
  show r__law_net (EndOk h Q) [some (.obj n), some (.int 10), some (.int wide), none, none, none, none, none, none] h
  unfold r__law_net
  simp only [zSeq, zAsg]
  simp only [zSeq, zAsg, zRet, zRetN, zIfS, zNext, zDrop, zBreak, zCont, zVar, zC, zOp, zUn, zName, zgTup, zgCons, zgNil, zgSub, zAug, zAugS, zPar, zPar3, zAndV, zOrV, zNotV, zTest, zTestE, zAnd, zOr, zNot, zIf, zCh, zCB, zCall, zCKw, zCons, zNil, zTup, zLst, newL, newDK, zIx, zLe, zLt, zGt, zGe, zNe_ii, zEq_ii, zIsN, zNotN, zIn, zNotIn, zSub, zMod, zFdiv, zPow, zMul, zAdd, zNeg, zI2, zI2C, zLen, zIsi, zTuple, zTupleF, zList, zAbs, zInt1, zDivmod, zMin2, zSet, zGet, zSl, zSlV, zPart, zNoPart, zTix, zBM, zAppend, isL, tyName, kit_tt, kit_ii, kit_ib, sqR, lsR, lsM, dkM, dtM, dLook, Z.keyOf, frS, ziSeq, ziEnum, ziR1, ziR2, ziR3, zFor, zLC, zDC, zYes, zwipe, zDisp, zPairs, zmerge, zSortR3, zSortedI, zSortedDI, zDictOf, List.getElem?_cons_zero, List.getElem?_cons_succ, List.set_cons_zero, List.set_cons_succ, List.length_cons, List.length_nil, List.map_cons, List.map_nil, List.length_map, Bool.not_true, Bool.not_false, decide_true, decide_false]
  refine ⟨n, 10, ns, a, c, rfl, ec, hd, by omega, by omega, by omega, fun c1 r1 d1 p1 p2 => ?_⟩
  obtain ⟨m, hm⟩ : ∃ m : Nat, (m : Int) = 1 + r1 := ⟨(1 + r1).toNat, by omega⟩
  have hm1 : 1 ≤ m ∧ m ≤ 10 := by omega
  simp only [zSeq, zAsg, zRet, zRetN, zIfS, zNext, zDrop, zBreak, zCont, zVar, zC, zOp, zUn, zName, zgTup, zgCons, zgNil, zgSub, zAug, zAugS, zPar, zPar3, zAndV, zOrV, zNotV, zTest, zTestE, zAnd, zOr, zNot, zIf, zCh, zCB, zCall, zCKw, zCons, zNil, zTup, zLst, newL, newDK, zIx, zLe, zLt, zGt, zGe, zNe_ii, zEq_ii, zIsN, zNotN, zIn, zNotIn, zSub, zMod, zFdiv, zPow, zMul, zAdd, zNeg, zI2, zI2C, zLen, zIsi, zTuple, zTupleF, zList, zAbs, zInt1, zDivmod, zMin2, zSet, zGet, zSl, zSlV, zPart, zNoPart, zTix, zBM, zAppend, isL, tyName, kit_tt, kit_ii, kit_ib, sqR, lsR, lsM, dkM, dtM, dLook, Z.keyOf, frS, ziSeq, ziEnum, ziR1, ziR2, ziR3, zFor, zLC, zDC, zYes, zwipe, zDisp, zPairs, zmerge, zSortR3, zSortedI, zSortedDI, zDictOf, List.getElem?_cons_zero, List.getElem?_cons_succ, List.set_cons_zero, List.set_cons_succ, List.length_cons, List.length_nil, List.map_cons, List.map_nil, List.length_map, Bool.not_true, Bool.not_false, decide_true, decide_false, ← hm]
  refine ⟨⟨by omega, by omega⟩, ?_⟩
  rw [zrange_up, Int.toNat_natCast]
  let J : List Int → List D → AH → Prop := fun rem acc h' => ∃ (c' : Cl) (M : List Int), acc = M.map D.int ∧ M.length + rem.length = m ∧ (∀ x ∈ M, 2 ≤ x ∧ x ≤ 1000) ∧ h' = h.set n c' ∧ DrC ns (a + 1 + M.length) c'
  have jl : ∀ xs acc h', J xs acc h' → acc.length ≤ sizeLine := fun xs acc h' ⟨c', M, e1, e2, _⟩ => by
    subst e1
    rw [List.length_map]
    omega
  refine lclI D.int J _ (fun i xs acc h' ⟨c', M, e1, e2, e3, e4, e5⟩ K N hK _ => ?step) jl (fun acc h' ⟨c', M, e1, e2, e3, e4, e5⟩ => ?fin) (intsUp 0 m) [] (h.set n c1) ⟨c1, [], rfl, by simp [intsUp_length], fun x hx => by simp at hx, rfl, d1⟩
  case step =>
    subst e1 e4
    rw [List.length_cons] at e2
    simp only [zSeq, zAsg, zRet, zRetN, zIfS, zNext, zDrop, zBreak, zCont, zVar, zC, zOp, zUn, zName, zgTup, zgCons, zgNil, zgSub, zAug, zAugS, zPar, zPar3, zAndV, zOrV, zNotV, zTest, zTestE, zAnd, zOr, zNot, zIf, zCh, zCB, zCall, zCKw, zCons, zNil, zTup, zLst, newL, newDK, zIx, zLe, zLt, zGt, zGe, zNe_ii, zEq_ii, zIsN, zNotN, zIn, zNotIn, zSub, zMod, zFdiv, zPow, zMul, zAdd, zNeg, zI2, zI2C, zLen, zIsi, zTuple, zTupleF, zList, zAbs, zInt1, zDivmod, zMin2, zSet, zGet, zSl, zSlV, zPart, zNoPart, zTix, zBM, zAppend, isL, tyName, kit_tt, kit_ii, kit_ib, sqR, lsR, lsM, dkM, dtM, dLook, Z.keyOf, frS, ziSeq, ziEnum, ziR1, ziR2, ziR3, zFor, zLC, zDC, zYes, zwipe, zDisp, zPairs, zmerge, zSortR3, zSortedI, zSortedDI, zDictOf, List.getElem?_cons_zero, List.getElem?_cons_succ, List.set_cons_zero, List.set_cons_succ, List.length_cons, List.length_nil, List.map_cons, List.map_nil, List.length_map, Bool.not_true, Bool.not_false, decide_true, decide_false, cg1__law_net, ce1__law_net]
    refine ⟨n, wide, ns, _, c', rfl, hset _, e5, by omega, by omega, by omega, fun c2 r2 d2 p3 p4 => ?_⟩
    refine hK _ _ ⟨c2, M ++ [2 + r2], by simp, by simp; omega, fun x hx => ?_, by rw [List.set_set], by rw [List.length_append]; exact d2⟩
    rcases List.mem_append.mp hx with q | q
    · exact e3 x q
    · rw [List.mem_singleton.mp q]
      omega
  case fin =>
    subst e1 e4
    rw [List.length_nil] at e2
    simp only [zSeq, zAsg, zRet, zRetN, zIfS, zNext, zDrop, zBreak, zCont, zVar, zC, zOp, zUn, zName, zgTup, zgCons, zgNil, zgSub, zAug, zAugS, zPar, zPar3, zAndV, zOrV, zNotV, zTest, zTestE, zAnd, zOr, zNot, zIf, zCh, zCB, zCall, zCKw, zCons, zNil, zTup, zLst, newL, newDK, zIx, zLe, zLt, zGt, zGe, zNe_ii, zEq_ii, zIsN, zNotN, zIn, zNotIn, zSub, zMod, zFdiv, zPow, zMul, zAdd, zNeg, zI2, zI2C, zLen, zIsi, zTuple, zTupleF, zList, zAbs, zInt1, zDivmod, zMin2, zSet, zGet, zSl, zSlV, zPart, zNoPart, zTix, zBM, zAppend, isL, tyName, kit_tt, kit_ii, kit_ib, sqR, lsR, lsM, dkM, dtM, dLook, Z.keyOf, frS, ziSeq, ziEnum, ziR1, ziR2, ziR3, zFor, zLC, zDC, zYes, zwipe, zDisp, zPairs, zmerge, zSortR3, zSortedI, zSortedDI, zDictOf, List.getElem?_cons_zero, List.getElem?_cons_succ, List.set_cons_zero, List.set_cons_succ, List.length_cons, List.length_nil, List.map_cons, List.map_nil, List.length_map, Bool.not_true, Bool.not_false, decide_true, decide_false, List.length_set]
    refine ⟨by omega, ⟨by omega, by omega⟩, ?_⟩
    refine loop_net2 (b := a + 1 + M.length) (ns := ns) hn (by omega) hm1.2 m 0 [] c' _ _ (by omega) e5 ⟨0, ⟨fun w hw => by simp at hw, by simp, fun w hw => by simp at hw⟩, by omega⟩ (by simp) fun c3 W d3 hW hWl x y => ?_
    simp only [zSeq, zAsg, zRet, zRetN, zIfS, zNext, zDrop, zBreak, zCont, zVar, zC, zOp, zUn, zName, zgTup, zgCons, zgNil, zgSub, zAug, zAugS, zPar, zPar3, zAndV, zOrV, zNotV, zTest, zTestE, zAnd, zOr, zNot, zIf, zCh, zCB, zCall, zCKw, zCons, zNil, zTup, zLst, newL, newDK, zIx, zLe, zLt, zGt, zGe, zNe_ii, zEq_ii, zIsN, zNotN, zIn, zNotIn, zSub, zMod, zFdiv, zPow, zMul, zAdd, zNeg, zI2, zI2C, zLen, zIsi, zTuple, zTupleF, zList, zAbs, zInt1, zDivmod, zMin2, zSet, zGet, zSl, zSlV, zPart, zNoPart, zTix, zBM, zAppend, isL, tyName, kit_tt, kit_ii, kit_ib, sqR, lsR, lsM, dkM, dtM, dLook, Z.keyOf, frS, ziSeq, ziEnum, ziR1, ziR2, ziR3, zFor, zLC, zDC, zYes, zwipe, zDisp, zPairs, zmerge, zSortR3, zSortedI, zSortedDI, zDictOf, List.getElem?_cons_zero, List.getElem?_cons_succ, List.set_cons_zero, List.set_cons_succ, List.length_cons, List.length_nil, List.map_cons, List.map_nil, List.length_map, Bool.not_true, Bool.not_false, decide_true, decide_false]
    refine ⟨⟨by omega, by omega⟩, ?_⟩
    rw [zrange_up, Int.toNat_natCast]
    let J2 : List Int → List D → AH → Prop := fun rem acc h' => ∃ (c' : Cl) (I : List Int) (k : Nat), acc = I.map D.int ∧ rem = intsUp k rem.length ∧ k + rem.length = m ∧ I.Pairwise (· < ·) ∧ (∀ i ∈ I, 0 ≤ i ∧ i < k) ∧ h' = h.set n c' ++ [.lst (W.map wD)] ∧ DrC ns (a + 1 + M.length + 400 + k) c'
    have jl2 : ∀ xs acc h', J2 xs acc h' → acc.length ≤ sizeLine := fun xs acc h' ⟨c', I, k, e1, e2, e3, e4, e5, _⟩ => by
      subst e1
      have := I_len e4 e5
      rw [List.length_map]
      omega
    have rest : ∀ (I : List Int) (c4 : Cl), I.Pairwise (· < ·) → (∀ i ∈ I, 0 ≤ i ∧ i < (m : Int)) → DrC ns (a + 1000) c4 → Exit h.length Q (netD M W I) (h.set n c4 ++ [.lst (W.map wD)]) := fun I c4 q1 q2 q3 =>
      Exit.put hw (q3.cl _) (cl_netD _ _ _ _) (z _ _ _ _ q3 ⟨by omega, by omega, e3, fun w hw => by
        have := hW.ok w hw
        rw [show M.length = m by omega]
        exact this, hW.asc, q1, fun i hi => by
        have := q2 i hi
        omega, hWl⟩)
    unfold netD dI dW at rest
    refine lclI D.int J2 _ (fun i xs acc h' ⟨c', I, k, f1, f2, f3, f4, f5, f6, f7⟩ K N hK hN => ?step2) jl2 (fun acc h' ⟨c', I, k, f1, f2, f3, f4, f5, f6, f7⟩ => ?fin2) (intsUp 0 m) [] _ ⟨c3, [], 0, rfl, by rw [intsUp_length]; rfl, by rw [intsUp_length]; omega, by simp, fun i hi => by simp at hi, rfl, d3⟩
    case step2 =>
      subst f1 f6
      rw [List.length_cons] at f2 f3
      have g1 : i = (k : Nat) := (List.cons.inj f2).1
      have g2 : xs = intsUp ((k : Nat) + 1) xs.length := (List.cons.inj f2).2
      simp only [zSeq, zAsg, zRet, zRetN, zIfS, zNext, zDrop, zBreak, zCont, zVar, zC, zOp, zUn, zName, zgTup, zgCons, zgNil, zgSub, zAug, zAugS, zPar, zPar3, zAndV, zOrV, zNotV, zTest, zTestE, zAnd, zOr, zNot, zIf, zCh, zCB, zCall, zCKw, zCons, zNil, zTup, zLst, newL, newDK, zIx, zLe, zLt, zGt, zGe, zNe_ii, zEq_ii, zIsN, zNotN, zIn, zNotIn, zSub, zMod, zFdiv, zPow, zMul, zAdd, zNeg, zI2, zI2C, zLen, zIsi, zTuple, zTupleF, zList, zAbs, zInt1, zDivmod, zMin2, zSet, zGet, zSl, zSlV, zPart, zNoPart, zTix, zBM, zAppend, isL, tyName, kit_tt, kit_ii, kit_ib, sqR, lsR, lsM, dkM, dtM, dLook, Z.keyOf, frS, ziSeq, ziEnum, ziR1, ziR2, ziR3, zFor, zLC, zDC, zYes, zwipe, zDisp, zPairs, zmerge, zSortR3, zSortedI, zSortedDI, zDictOf, List.getElem?_cons_zero, List.getElem?_cons_succ, List.set_cons_zero, List.set_cons_succ, List.length_cons, List.length_nil, List.map_cons, List.map_nil, List.length_map, Bool.not_true, Bool.not_false, decide_true, decide_false, cg2__law_net, ct1__law_net, ce2__law_net]
      refine ⟨n, 2, ns, _, c', rfl, dget _ _ hn, f7, by omega, by omega, by omega, fun c4 r4 d4 p5 p6 => ?_⟩
      simp only [zSeq, zAsg, zRet, zRetN, zIfS, zNext, zDrop, zBreak, zCont, zVar, zC, zOp, zUn, zName, zgTup, zgCons, zgNil, zgSub, zAug, zAugS, zPar, zPar3, zAndV, zOrV, zNotV, zTest, zTestE, zAnd, zOr, zNot, zIf, zCh, zCB, zCall, zCKw, zCons, zNil, zTup, zLst, newL, newDK, zIx, zLe, zLt, zGt, zGe, zNe_ii, zEq_ii, zIsN, zNotN, zIn, zNotIn, zSub, zMod, zFdiv, zPow, zMul, zAdd, zNeg, zI2, zI2C, zLen, zIsi, zTuple, zTupleF, zList, zAbs, zInt1, zDivmod, zMin2, zSet, zGet, zSl, zSlV, zPart, zNoPart, zTix, zBM, zAppend, isL, tyName, kit_tt, kit_ii, kit_ib, sqR, lsR, lsM, dkM, dtM, dLook, Z.keyOf, frS, ziSeq, ziEnum, ziR1, ziR2, ziR3, zFor, zLC, zDC, zYes, zwipe, zDisp, zPairs, zmerge, zSortR3, zSortedI, zSortedDI, zDictOf, List.getElem?_cons_zero, List.getElem?_cons_succ, List.set_cons_zero, List.set_cons_succ, List.length_cons, List.length_nil, List.map_cons, List.map_nil, List.length_map, Bool.not_true, Bool.not_false, decide_true, decide_false, dset _ _ _ hn]
      by_cases hr : r4 = 0
      · rw [decide_eq_true hr]
        refine hK _ _ ⟨c4, I ++ [i], k + 1, by simp, g2, by omega, asc_push f4 fun j hj => by have := f5 j hj; omega, fun j hj => ?_, rfl, d4⟩
        rcases List.mem_append.mp hj with q | q
        · have := f5 j q
          omega
        · rw [List.mem_singleton.mp q]
          omega
      · rw [decide_eq_false hr]
        exact hN _ ⟨c4, I, k + 1, rfl, g2, by omega, f4, fun j hj => by have := f5 j hj; omega, rfl, d4⟩
    case fin2 =>
      subst f1 f6
      rw [List.length_nil] at f3
      simp only [zSeq, zAsg, zRet, zRetN, zIfS, zNext, zDrop, zBreak, zCont, zVar, zC, zOp, zUn, zName, zgTup, zgCons, zgNil, zgSub, zAug, zAugS, zPar, zPar3, zAndV, zOrV, zNotV, zTest, zTestE, zAnd, zOr, zNot, zIf, zCh, zCB, zCall, zCKw, zCons, zNil, zTup, zLst, newL, newDK, zIx, zLe, zLt, zGt, zGe, zNe_ii, zEq_ii, zIsN, zNotN, zIn, zNotIn, zSub, zMod, zFdiv, zPow, zMul, zAdd, zNeg, zI2, zI2C, zLen, zIsi, zTuple, zTupleF, zList, zAbs, zInt1, zDivmod, zMin2, zSet, zGet, zSl, zSlV, zPart, zNoPart, zTix, zBM, zAppend, isL, tyName, kit_tt, kit_ii, kit_ib, sqR, lsR, lsM, dkM, dtM, dLook, Z.keyOf, frS, ziSeq, ziEnum, ziR1, ziR2, ziR3, zFor, zLC, zDC, zYes, zwipe, zDisp, zPairs, zmerge, zSortR3, zSortedI, zSortedDI, zDictOf, List.getElem?_cons_zero, List.getElem?_cons_succ, List.set_cons_zero, List.set_cons_succ, List.length_cons, List.length_nil, List.map_cons, List.map_nil, List.length_map, Bool.not_true, Bool.not_false, decide_true, decide_false]
      refine ⟨by omega, zEq_nil (k := 3) (DP.lst (.ints I)) (by omega) ?_⟩
      by_cases hI : I = []
      · rw [decide_eq_true (by rw [hI]; rfl)]
        simp only [zSeq, zAsg, zRet, zRetN, zIfS, zNext, zDrop, zBreak, zCont, zVar, zC, zOp, zUn, zName, zgTup, zgCons, zgNil, zgSub, zAug, zAugS, zPar, zPar3, zAndV, zOrV, zNotV, zTest, zTestE, zAnd, zOr, zNot, zIf, zCh, zCB, zCall, zCKw, zCons, zNil, zTup, zLst, newL, newDK, zIx, zLe, zLt, zGt, zGe, zNe_ii, zEq_ii, zIsN, zNotN, zIn, zNotIn, zSub, zMod, zFdiv, zPow, zMul, zAdd, zNeg, zI2, zI2C, zLen, zIsi, zTuple, zTupleF, zList, zAbs, zInt1, zDivmod, zMin2, zSet, zGet, zSl, zSlV, zPart, zNoPart, zTix, zBM, zAppend, isL, tyName, kit_tt, kit_ii, kit_ib, sqR, lsR, lsM, dkM, dtM, dLook, Z.keyOf, frS, ziSeq, ziEnum, ziR1, ziR2, ziR3, zFor, zLC, zDC, zYes, zwipe, zDisp, zPairs, zmerge, zSortR3, zSortedI, zSortedDI, zDictOf, List.getElem?_cons_zero, List.getElem?_cons_succ, List.set_cons_zero, List.set_cons_succ, List.length_cons, List.length_nil, List.map_cons, List.map_nil, List.length_map, Bool.not_true, Bool.not_false, decide_true, decide_false]
        refine ⟨n, 10, ns, _, c', rfl, dget _ _ hn, f7, by omega, by omega, by omega, fun c5 r5 d5 p7 p8 => ?_⟩
        simp only [zSeq, zAsg, zRet, zRetN, zIfS, zNext, zDrop, zBreak, zCont, zVar, zC, zOp, zUn, zName, zgTup, zgCons, zgNil, zgSub, zAug, zAugS, zPar, zPar3, zAndV, zOrV, zNotV, zTest, zTestE, zAnd, zOr, zNot, zIf, zCh, zCB, zCall, zCKw, zCons, zNil, zTup, zLst, newL, newDK, zIx, zLe, zLt, zGt, zGe, zNe_ii, zEq_ii, zIsN, zNotN, zIn, zNotIn, zSub, zMod, zFdiv, zPow, zMul, zAdd, zNeg, zI2, zI2C, zLen, zIsi, zTuple, zTupleF, zList, zAbs, zInt1, zDivmod, zMin2, zSet, zGet, zSl, zSlV, zPart, zNoPart, zTix, zBM, zAppend, isL, tyName, kit_tt, kit_ii, kit_ib, sqR, lsR, lsM, dkM, dtM, dLook, Z.keyOf, frS, ziSeq, ziEnum, ziR1, ziR2, ziR3, zFor, zLC, zDC, zYes, zwipe, zDisp, zPairs, zmerge, zSortR3, zSortedI, zSortedDI, zDictOf, List.getElem?_cons_zero, List.getElem?_cons_succ, List.set_cons_zero, List.set_cons_succ, List.length_cons, List.length_nil, List.map_cons, List.map_nil, List.length_map, Bool.not_true, Bool.not_false, decide_true, decide_false, dset _ _ _ hn]
        by_cases hr : 0 < r5
        · rw [decide_eq_true hr]
          simp only [zSeq, zAsg, zRet, zRetN, zIfS, zNext, zDrop, zBreak, zCont, zVar, zC, zOp, zUn, zName, zgTup, zgCons, zgNil, zgSub, zAug, zAugS, zPar, zPar3, zAndV, zOrV, zNotV, zTest, zTestE, zAnd, zOr, zNot, zIf, zCh, zCB, zCall, zCKw, zCons, zNil, zTup, zLst, newL, newDK, zIx, zLe, zLt, zGt, zGe, zNe_ii, zEq_ii, zIsN, zNotN, zIn, zNotIn, zSub, zMod, zFdiv, zPow, zMul, zAdd, zNeg, zI2, zI2C, zLen, zIsi, zTuple, zTupleF, zList, zAbs, zInt1, zDivmod, zMin2, zSet, zGet, zSl, zSlV, zPart, zNoPart, zTix, zBM, zAppend, isL, tyName, kit_tt, kit_ii, kit_ib, sqR, lsR, lsM, dkM, dtM, dLook, Z.keyOf, frS, ziSeq, ziEnum, ziR1, ziR2, ziR3, zFor, zLC, zDC, zYes, zwipe, zDisp, zPairs, zmerge, zSortR3, zSortedI, zSortedDI, zDictOf, List.getElem?_cons_zero, List.getElem?_cons_succ, List.set_cons_zero, List.set_cons_succ, List.length_cons, List.length_nil, List.map_cons, List.map_nil, List.length_map, Bool.not_true, Bool.not_false, decide_true, decide_false]
          refine ⟨n, m, ns, _, c5, rfl, dget _ _ hn, d5, by omega, by omega, by omega, fun c6 r6 d6 p9 p10 => ?_⟩
          simp only [zSeq, zAsg, zRet, zRetN, zIfS, zNext, zDrop, zBreak, zCont, zVar, zC, zOp, zUn, zName, zgTup, zgCons, zgNil, zgSub, zAug, zAugS, zPar, zPar3, zAndV, zOrV, zNotV, zTest, zTestE, zAnd, zOr, zNot, zIf, zCh, zCB, zCall, zCKw, zCons, zNil, zTup, zLst, newL, newDK, zIx, zLe, zLt, zGt, zGe, zNe_ii, zEq_ii, zIsN, zNotN, zIn, zNotIn, zSub, zMod, zFdiv, zPow, zMul, zAdd, zNeg, zI2, zI2C, zLen, zIsi, zTuple, zTupleF, zList, zAbs, zInt1, zDivmod, zMin2, zSet, zGet, zSl, zSlV, zPart, zNoPart, zTix, zBM, zAppend, isL, tyName, kit_tt, kit_ii, kit_ib, sqR, lsR, lsM, dkM, dtM, dLook, Z.keyOf, frS, ziSeq, ziEnum, ziR1, ziR2, ziR3, zFor, zLC, zDC, zYes, zwipe, zDisp, zPairs, zmerge, zSortR3, zSortedI, zSortedDI, zDictOf, List.getElem?_cons_zero, List.getElem?_cons_succ, List.set_cons_zero, List.set_cons_succ, List.length_cons, List.length_nil, List.map_cons, List.map_nil, List.length_map, Bool.not_true, Bool.not_false, decide_true, decide_false, dset _ _ _ hn, dtail]
          refine ⟨by omega, by omega, ?_⟩
          exact rest [r6] c6 (by simp) (fun i hi => by rw [List.mem_singleton.mp hi]; omega) (d6.mono (by omega))
        · rw [decide_eq_false hr]
          simp only [zSeq, zAsg, zRet, zRetN, zIfS, zNext, zDrop, zBreak, zCont, zVar, zC, zOp, zUn, zName, zgTup, zgCons, zgNil, zgSub, zAug, zAugS, zPar, zPar3, zAndV, zOrV, zNotV, zTest, zTestE, zAnd, zOr, zNot, zIf, zCh, zCB, zCall, zCKw, zCons, zNil, zTup, zLst, newL, newDK, zIx, zLe, zLt, zGt, zGe, zNe_ii, zEq_ii, zIsN, zNotN, zIn, zNotIn, zSub, zMod, zFdiv, zPow, zMul, zAdd, zNeg, zI2, zI2C, zLen, zIsi, zTuple, zTupleF, zList, zAbs, zInt1, zDivmod, zMin2, zSet, zGet, zSl, zSlV, zPart, zNoPart, zTix, zBM, zAppend, isL, tyName, kit_tt, kit_ii, kit_ib, sqR, lsR, lsM, dkM, dtM, dLook, Z.keyOf, frS, ziSeq, ziEnum, ziR1, ziR2, ziR3, zFor, zLC, zDC, zYes, zwipe, zDisp, zPairs, zmerge, zSortR3, zSortedI, zSortedDI, zDictOf, List.getElem?_cons_zero, List.getElem?_cons_succ, List.set_cons_zero, List.set_cons_succ, List.length_cons, List.length_nil, List.map_cons, List.map_nil, List.length_map, Bool.not_true, Bool.not_false, decide_true, decide_false, dtail]
          exact ⟨by omega, rest I c5 f4 (fun i hi => by have := f5 i hi; omega) (d5.mono (by omega))⟩
      · rw [decide_eq_false (by simpa using hI)]
        simp only [zSeq, zAsg, zRet, zRetN, zIfS, zNext, zDrop, zBreak, zCont, zVar, zC, zOp, zUn, zName, zgTup, zgCons, zgNil, zgSub, zAug, zAugS, zPar, zPar3, zAndV, zOrV, zNotV, zTest, zTestE, zAnd, zOr, zNot, zIf, zCh, zCB, zCall, zCKw, zCons, zNil, zTup, zLst, newL, newDK, zIx, zLe, zLt, zGt, zGe, zNe_ii, zEq_ii, zIsN, zNotN, zIn, zNotIn, zSub, zMod, zFdiv, zPow, zMul, zAdd, zNeg, zI2, zI2C, zLen, zIsi, zTuple, zTupleF, zList, zAbs, zInt1, zDivmod, zMin2, zSet, zGet, zSl, zSlV, zPart, zNoPart, zTix, zBM, zAppend, isL, tyName, kit_tt, kit_ii, kit_ib, sqR, lsR, lsM, dkM, dtM, dLook, Z.keyOf, frS, ziSeq, ziEnum, ziR1, ziR2, ziR3, zFor, zLC, zDC, zYes, zwipe, zDisp, zPairs, zmerge, zSortR3, zSortedI, zSortedDI, zDictOf, List.getElem?_cons_zero, List.getElem?_cons_succ, List.set_cons_zero, List.set_cons_succ, List.length_cons, List.length_nil, List.map_cons, List.map_nil, List.length_map, Bool.not_true, Bool.not_false, decide_true, decide_false, dtail]
        exact ⟨by omega, rest I c' f4 (fun i hi => by have := f5 i hi; omega) (f7.mono (by omega))⟩
end Z54
/-! the trimmed net answers the same: its form, its carries -/
namespace Z54
open PySem PySem.Spec PyProof.Rows L2 Z
theorem idx_get {K : List Int} {x : Int} (h : x ∈ K) : K[K.idxOf x]? = some x := by
  have hl : K.idxOf x < K.length := List.idxOf_lt_length_iff.mpr h
  rw [List.getElem?_eq_getElem hl, List.getElem_idxOf]
theorem idx_lt {K : List Int} (ha : K.Pairwise (· < ·)) {x y : Int} (hx : x ∈ K) (hy : y ∈ K) (h : x < y) : K.idxOf x < K.idxOf y := by
  have h1 : K.idxOf x < K.length := List.idxOf_lt_length_iff.mpr hx
  have h2 : K.idxOf y < K.length := List.idxOf_lt_length_iff.mpr hy
  have e1 : K[K.idxOf x] = x := List.getElem_idxOf h1
  have e2 : K[K.idxOf y] = y := List.getElem_idxOf h2
  rcases Nat.lt_or_ge (K.idxOf x) (K.idxOf y) with g | g
  · exact g
  · rcases Nat.eq_or_lt_of_le g with g | g
    · have : x = y := by
        rw [← e1, ← e2]
        congr 1
        exact g.symm
      omega
    · have := List.pairwise_iff_getElem.mp ha _ _ h2 h1 g
      omega
theorem idx_inj {K : List Int} {x y : Int} (hx : x ∈ K) (hy : y ∈ K) (h : K.idxOf x = K.idxOf y) : x = y := by
  have e1 := idx_get hx
  have e2 := idx_get hy
  rw [h, e2] at e1
  exact (Option.some.inj e1).symm
theorem idx_at {K : List Int} (nd : K.Nodup) {i : Nat} {x : Int} (h : K[i]? = some x) : K.idxOf x = i := by
  have hx := List.mem_of_getElem? h
  have e := idx_get hx
  obtain ⟨h1, h2⟩ := List.getElem?_eq_some_iff.mp h
  obtain ⟨h3, h4⟩ := List.getElem?_eq_some_iff.mp e
  exact (List.getElem_inj nd).mp (h4.trans h2.symm)
theorem mem_trimW {W : List T3} {K : List Int} {v : T3} (h : v ∈ trimW W K) : ∃ w ∈ W, w.2.1 ∈ K ∧ v = tW K w := by
  unfold trimW at h
  obtain ⟨w, hw, e⟩ := List.mem_map.mp h
  obtain ⟨h1, h2⟩ := List.mem_filter.mp hw
  exact ⟨w, h1, of_decide_eq_true h2, e.symm⟩
theorem valid_trim {M : List Int} {W : List T3} {I : List Int} {K : List Int} (V : Valid M W I) (kk : KOk W M.length K) (hne : K ≠ []) : Valid (trimM M K) (trimW W K) (trimI I K) := by
  have hl := kk.len
  have hML : (trimM M K).length = K.length := by unfold trimM; rw [List.length_map]
  have hV := V.n2
  refine ⟨?_, by omega, fun m hm => ?_, fun v hv => ?_, ?_, ?_, fun i hi => ?_, ?_⟩
  · rw [hML]
    exact List.length_pos_iff.mpr hne
  · unfold trimM at hm
    obtain ⟨x, hx, e⟩ := List.mem_map.mp hm
    have := kk.rng x hx
    exact V.mo m (List.mem_of_getElem? (by rw [← e]; exact getD_of (by omega)))
  · obtain ⟨w, hw, ht, rfl⟩ := mem_trimW hv
    have hs := kk.cl w hw ht
    have ok := V.wk w hw
    have h1 := idx_lt kk.asc hs ht ok.2.1
    have h2 : K.idxOf w.2.1 < K.length := List.idxOf_lt_length_iff.mpr ht
    unfold WOk at ok ⊢
    unfold tW
    rw [hML]
    dsimp only
    omega
  · unfold trimW
    rw [List.pairwise_map]
    refine List.Pairwise.imp_of_mem (fun {a b} ha hb hab => ?_) (V.asc.filter _)
    obtain ⟨ha1, ha2⟩ := List.mem_filter.mp ha
    obtain ⟨hb1, hb2⟩ := List.mem_filter.mp hb
    have ha2 := of_decide_eq_true ha2
    have hb2 := of_decide_eq_true hb2
    have ha3 := kk.cl a ha1 ha2
    have hb3 := kk.cl b hb1 hb2
    unfold Lt2 tW
    dsimp only
    rcases hab with q | ⟨q1, q2⟩
    · have := idx_lt kk.asc ha3 hb3 q
      omega
    · have := idx_lt kk.asc ha2 hb2 q2
      rw [q1]
      omega
  · unfold trimI
    rw [List.pairwise_map]
    refine List.Pairwise.imp_of_mem (fun {a b} ha hb hab => ?_) (V.ia.filter _)
    have ha2 := of_decide_eq_true (List.mem_filter.mp ha).2
    have hb2 := of_decide_eq_true (List.mem_filter.mp hb).2
    have := idx_lt kk.asc ha2 hb2 hab
    omega
  · unfold trimI at hi
    obtain ⟨x, hx, e⟩ := List.mem_map.mp hi
    have hx2 := of_decide_eq_true (List.mem_filter.mp hx).2
    have : K.idxOf x < K.length := List.idxOf_lt_length_iff.mpr hx2
    rw [hML]
    omega
  · unfold trimW
    rw [List.length_map]
    exact Nat.le_trans (List.length_filter_le _ _) V.wl
/-! ### the carries -/
def sm (p : T3 → Bool) (f : Int → Int) : List T3 → Int
  | [] => 0
  | w :: W => (if p w = true then w.2.2 * f w.1 else 0) + sm p f W
theorem sm_congr {p p' : T3 → Bool} {f f' : Int → Int} : ∀ {W : List T3}, (∀ w ∈ W, p w = p' w) → (∀ w ∈ W, p w = true → f w.1 = f' w.1) → sm p f W = sm p' f' W
  | [], _, _ => rfl
  | w :: W, h1, h2 => by
    show (if p w = true then w.2.2 * f w.1 else 0) + sm p f W = (if p' w = true then w.2.2 * f' w.1 else 0) + sm p' f' W
    rw [sm_congr (fun v hv => h1 v (List.mem_cons_of_mem _ hv)) fun v hv => h2 v (List.mem_cons_of_mem _ hv), h1 w List.mem_cons_self]
    by_cases q : p' w = true
    · rw [if_pos q, if_pos q, h2 w List.mem_cons_self (by rw [h1 w List.mem_cons_self]; exact q)]
    · rw [if_neg q, if_neg q]
def inP (j : Nat) (w : T3) : Bool := decide (w.2.1 = (j : Nat))
def inB (k j : Nat) (w : T3) : Bool := decide (w.2.1 = (j : Nat)) && decide (w.1 < (k : Nat))
def inE (k j : Nat) (w : T3) : Bool := decide (w.2.1 = (j : Nat)) && decide (w.1 = (k : Nat))
theorem sm_split (k j : Nat) (f : Int → Int) : ∀ W : List T3, sm (inB (k + 1) j) f W = sm (inB k j) f W + sm (inE k j) f W
  | [] => rfl
  | w :: W => by
    show (if inB (k + 1) j w = true then _ else _) + sm _ f W = ((if inB k j w = true then _ else _) + sm _ f W) + ((if inE k j w = true then _ else _) + sm _ f W)
    rw [sm_split k j f W]
    have hBt : ∀ k : Nat, w.2.1 = (j : Nat) → w.1 < (k : Nat) → inB k j w = true := fun k q1 q2 => by
      unfold inB
      rw [decide_eq_true q1, decide_eq_true q2]; rfl
    have hBf : ∀ k : Nat, ¬ (w.2.1 = (j : Nat) ∧ w.1 < (k : Nat)) → ¬ inB k j w = true := fun k q z => by
      unfold inB at z
      rw [Bool.and_eq_true] at z
      exact q ⟨of_decide_eq_true z.1, of_decide_eq_true z.2⟩
    have hEt : w.2.1 = (j : Nat) → w.1 = (k : Nat) → inE k j w = true := fun q1 q2 => by
      unfold inE
      rw [decide_eq_true q1, decide_eq_true q2]; rfl
    have hEf : ¬ (w.2.1 = (j : Nat) ∧ w.1 = (k : Nat)) → ¬ inE k j w = true := fun q z => by
      unfold inE at z
      rw [Bool.and_eq_true] at z
      exact q ⟨of_decide_eq_true z.1, of_decide_eq_true z.2⟩
    by_cases h1 : w.2.1 = (j : Nat)
    · by_cases h2 : w.1 < (k : Nat)
      · rw [if_pos (hBt (k + 1) h1 (by omega)), if_pos (hBt k h1 h2), if_neg (hEf fun z => by omega)]
        omega
      · by_cases h4 : w.1 = (k : Nat)
        · rw [if_pos (hBt (k + 1) h1 (by omega)), if_neg (hBf k fun z => h2 z.2), if_pos (hEt h1 h4)]
          omega
        · rw [if_neg (hBf (k + 1) fun z => by omega), if_neg (hBf k fun z => h2 z.2), if_neg (hEf fun z => h4 z.2)]
          omega
    · rw [if_neg (hBf (k + 1) fun z => h1 z.1), if_neg (hBf k fun z => h1 z.1), if_neg (hEf fun z => h1 z.1)]
      omega
theorem getD_set (C : List Int) (i j : Nat) (v : Int) (hi : i < C.length) : (C.set i v).getD j 0 = if i = j then v else C.getD j 0 := by
  rw [List.getD_eq_getElem?_getD, List.getD_eq_getElem?_getD, List.getElem?_set]
  by_cases h : i = j
  · rw [if_pos h, if_pos h]
    rw [if_pos hi]; rfl
  · rw [if_neg h, if_neg h]
theorem push_get {N k j : Nat} {n : Int} : ∀ (W : List T3) (C : List Int), C.length = N → (∀ w ∈ W, WOk N w) → (pushW k n W C).getD j 0 = C.getD j 0 + sm (inE k j) (fun _ => n) W
  | [], C, _, _ => by
    show _ = _ + 0
    rw [Int.add_zero]; rfl
  | w :: W, C, hC, hW => by
    obtain ⟨g1, g2, g3, g4, g5, g6⟩ := hW w List.mem_cons_self
    show (pushW k n W _).getD j 0 = C.getD j 0 + ((if inE k j w = true then w.2.2 * n else 0) + sm (inE k j) (fun _ => n) W)
    unfold inE
    by_cases h : w.1 = (k : Nat)
    · rw [if_pos h, push_get W _ (by rw [List.length_set]; exact hC) fun v hv => hW v (List.mem_cons_of_mem _ hv), getD_set _ _ _ _ (by omega)]
      unfold inE
      by_cases h2 : w.2.1 = (j : Nat)
      · rw [if_pos (by omega)]
        simp only [h, h2, decide_true, Bool.true_and, if_true, Int.toNat_natCast]
        omega
      · rw [if_neg (by omega)]
        simp only [h2, decide_false, Bool.false_and, Bool.false_eq_true, if_false]
        omega
    · rw [if_neg h, push_get W _ hC fun v hv => hW v (List.mem_cons_of_mem _ hv)]
      unfold inE
      simp only [h, decide_false, Bool.and_false, Bool.false_eq_true, if_false]
      omega
theorem getD_app_lt {X : List Int} {q : Int} {i : Nat} (h : i < X.length) : (X ++ [q]).getD i 0 = X.getD i 0 := by
  rw [List.getD_eq_getElem?_getD, List.getD_eq_getElem?_getD, List.getElem?_append_left h]
theorem getD_app_eq {X : List Int} {q : Int} {i : Nat} (h : X.length = i) : (X ++ [q]).getD i 0 = q := by
  rw [List.getD_eq_getElem?_getD, List.getElem?_append_right (by omega), h, Nat.sub_self]; rfl
abbrev fX (X : List Int) : Int → Int := fun x => X.getD x.toNat 0
structure FlowOk (M0 S T : List Int) (W : List T3) (X : List Int) : Prop where
  len : X.length = M0.length
  eq : ∀ j : Nat, j < M0.length → X.getD j 0 = (S.getD j 0 + T.getD j 0 + sm (inP j) (fX X) W) / M0.getD j 0
theorem flow_char {M0 S T : List Int} {W : List T3} (hW : ∀ w ∈ W, WOk M0.length w) : ∀ (M : List Int) (k : Nat) (C X L : List Int), M0.drop k = M → k + M.length = M0.length → C.length = M0.length → X.length = k →
    (∀ j : Nat, C.getD j 0 = T.getD j 0 + sm (inB k j) (fX X) W) → (∀ j : Nat, j < k → X.getD j 0 = (S.getD j 0 + T.getD j 0 + sm (inP j) (fX X) W) / M0.getD j 0) → FlowOk M0 S T W (flowG S W M k C X L).2.1
  | [], k, C, X, L, hd, hk, hC, hX, h1, h2 => ⟨by rw [List.length_nil] at hk; show X.length = _; omega, fun j hj => h2 j (by rw [List.length_nil] at hk; omega)⟩
  | m :: M, k, C, X, L, hd, hk, hC, hX, h1, h2 => by
    rw [List.length_cons] at hk
    have em : M0.getD k 0 = m := by
      have : M0[k]? = some m := by
        have := congrArg (fun l => l[0]?) hd
        simpa using this
      rw [List.getD_eq_getElem?_getD, this]; rfl
    have hd' : M0.drop (k + 1) = M := by
      rw [← List.drop_drop, hd]; rfl
    -- sources of wires into j ≤ k stand below k
    have ext : ∀ (q : Int) (p : T3 → Bool), (∀ w ∈ W, p w = true → w.1 < (k : Nat)) → sm p (fX (X ++ [q])) W = sm p (fX X) W := fun q p hp => sm_congr (fun _ _ => rfl) fun w hw hpw => by
      have := hp w hw hpw
      have := (hW w hw).1
      exact getD_app_lt (by omega)
    refine flow_char hW M (k + 1) _ _ _ hd' (by omega) (by rw [pushW_length]; exact hC) (by simp [hX]) (fun j => ?_) fun j hj => ?_
    · rw [push_get (N := M0.length) W C hC hW, h1 j, sm_split, ext _ _ (fun w hw hp => by
        unfold inB at hp
        rw [Bool.and_eq_true] at hp
        exact of_decide_eq_true hp.2)]
      have : sm (inE k j) (fun _ => (S.getD k 0 + C.getD k 0) / m) W = sm (inE k j) (fX (X ++ [(S.getD k 0 + C.getD k 0) / m])) W := sm_congr (fun _ _ => rfl) fun w hw hp => by
        unfold inE at hp
        rw [Bool.and_eq_true] at hp
        have := of_decide_eq_true hp.2
        show _ = (X ++ [(S.getD k 0 + C.getD k 0) / m]).getD w.1.toNat 0
        rw [getD_app_eq (by omega)]
      rw [← this, Int.add_assoc]
    · have src : ∀ w ∈ W, inP j w = true → w.1 < (k : Nat) := fun w hw hp => by
        unfold inP at hp
        have := of_decide_eq_true hp
        have := (hW w hw).2.1
        omega
      rw [ext _ _ src]
      by_cases hjk : j = k
      · subst hjk
        rw [getD_app_eq hX, em, h1 j, Int.add_assoc]
        congr 2
        congr 1
        exact sm_congr (fun w hw => by
          unfold inB inP
          by_cases h : w.2.1 = (j : Nat)
          · have := (hW w hw).2.1
            have h3 : w.1 < (j : Nat) := by omega
            simp [h, h3]
          · simp [h]) fun _ _ _ => rfl
      · rw [getD_app_lt (by omega)]
        exact h2 j (by omega)
theorem flow_ok {M S T : List Int} {W : List T3} (hW : ∀ w ∈ W, WOk M.length w) (hT : T.length = M.length) : FlowOk M S T W (flowG S W M 0 T [] []).2.1 := by
  refine flow_char hW M 0 T [] [] rfl (by simp) hT rfl (fun j => ?_) fun j hj => absurd hj (by omega)
  have : sm (inB 0 j) (fX []) W = 0 := by
    have : ∀ (W : List T3), (∀ w ∈ W, 0 ≤ w.1) → sm (inB 0 j) (fX []) W = 0 := by
      intro W
      induction W with
      | nil => intro _; rfl
      | cons w W ih =>
        intro h
        show (if inB 0 j w = true then _ else _) + sm _ _ W = 0
        rw [ih fun v hv => h v (List.mem_cons_of_mem _ hv), if_neg]
        · rfl
        · unfold inB
          have := h w List.mem_cons_self
          have h2 : ¬ w.1 < ((0 : Nat) : Int) := by omega
          rw [decide_eq_false h2, Bool.and_false]
          exact Bool.false_ne_true
    exact this W fun w hw => (hW w hw).1
  rw [this, Int.add_zero]
def pick (K T : List Int) : List Int := K.map fun x => T.getD x.toNat 0
theorem pick_at {K T : List Int} {x : Int} (hx : x ∈ K) : (pick K T).getD (K.idxOf x) 0 = T.getD x.toNat 0 := by
  unfold pick
  rw [List.getD_eq_getElem?_getD, List.getElem?_map, idx_get hx]; rfl
theorem sm_trim {K : List Int} {f g : Int → Int} {x : Int} (hx : x ∈ K) (hx0 : 0 ≤ x) : ∀ (W : List T3), (∀ w ∈ W, w.2.1 = x → g w.1 = f ((K.idxOf w.1 : Nat) : Int)) →
    sm (inP (K.idxOf x)) f (trimW W K) = sm (inP x.toNat) g W
  | [], _ => rfl
  | w :: W, h => by
    have ih := sm_trim (f := f) (g := g) hx hx0 W fun v hv => h v (List.mem_cons_of_mem _ hv)
    show _ = (if inP x.toNat w = true then w.2.2 * g w.1 else 0) + sm (inP x.toNat) g W
    unfold trimW at ih ⊢
    by_cases hk : w.2.1 ∈ K
    · rw [List.filter_cons_of_pos (by simpa using hk), List.map_cons]
      show (if inP (K.idxOf x) (tW K w) = true then w.2.2 * f ((K.idxOf w.1 : Nat) : Int) else 0) + _ = _
      rw [ih]
      by_cases e : w.2.1 = x
      · have e1 : inP (K.idxOf x) (tW K w) = true := decide_eq_true (by show ((K.idxOf w.2.1 : Nat) : Int) = (K.idxOf x : Nat); rw [e])
        have e2 : inP x.toNat w = true := decide_eq_true (by omega)
        rw [if_pos e1, if_pos e2, h w List.mem_cons_self e]
      · have e1 : ¬ inP (K.idxOf x) (tW K w) = true := fun z => by
          have z : ((K.idxOf w.2.1 : Nat) : Int) = (K.idxOf x : Nat) := of_decide_eq_true z
          exact e (idx_inj hk hx (by omega))
        have e2 : ¬ inP x.toNat w = true := fun z => by
          have z : w.2.1 = ((x.toNat : Nat) : Int) := of_decide_eq_true z
          omega
        rw [if_neg e1, if_neg e2]
    · rw [List.filter_cons_of_neg (by simpa using hk), ih]
      have e2 : ¬ inP x.toNat w = true := fun z => by
        have z : w.2.1 = ((x.toNat : Nat) : Int) := of_decide_eq_true z
        exact hk (by rw [show w.2.1 = x by omega]; exact hx)
      rw [if_neg e2]
      omega
theorem carry_same {M S T : List Int} {W : List T3} {I K : List Int} (V : Valid M W I) (kk : KOk W M.length K) (hT : T.length = M.length) :
    ∀ (b : Nat) (x : Int), x ∈ K → x < b → (flowG (pick K S) (trimW W K) (trimM M K) 0 (pick K T) [] []).2.1.getD (K.idxOf x) 0 = (flowG S W M 0 T [] []).2.1.getD x.toNat 0 := by
  have hML : (trimM M K).length = K.length := by unfold trimM; rw [List.length_map]
  have V1 : ∀ v ∈ trimW W K, WOk (trimM M K).length v := fun v hv => by
    by_cases hne : K = []
    · obtain ⟨w, _, ht, _⟩ := mem_trimW hv
      rw [hne] at ht
      cases ht
    · exact (valid_trim V kk hne).wk v hv
  have F1 := flow_ok (S := pick K S) V1 (show (pick K T).length = (trimM M K).length by unfold pick; rw [List.length_map, hML])
  have F := flow_ok (S := S) V.wk hT
  generalize (flowG (pick K S) (trimW W K) (trimM M K) 0 (pick K T) [] []).2.1 = X1 at F1 ⊢
  generalize (flowG S W M 0 T [] []).2.1 = X at F ⊢
  intro b
  induction b with
  | zero =>
    intro x hx hb
    have := (kk.rng x hx).1
    omega
  | succ b ih =>
    intro x hx hb
    have hr := kk.rng x hx
    have hi : K.idxOf x < K.length := List.idxOf_lt_length_iff.mpr hx
    rw [F1.eq _ (by omega), F.eq x.toNat (by omega), pick_at hx, pick_at hx]
    have e3 : (trimM M K).getD (K.idxOf x) 0 = M.getD x.toNat 0 := pick_at hx
    rw [e3]
    congr 2
    refine sm_trim hx hr.1 W fun w hw e => ?_
    have hs := kk.cl w hw (by rw [e]; exact hx)
    have hlt := (V.wk w hw).2.1
    show X.getD w.1.toNat 0 = X1.getD ((K.idxOf w.1 : Nat) : Int).toNat 0
    rw [Int.toNat_natCast]
    exact (ih w.1 hs (by omega)).symm
theorem phs_pick {M S : List Int} {W : List T3} {K : List Int} (kk : KOk W M.length K) (p : Phs S M) : Phs (pick K S) (trimM M K) := by
  refine ⟨by unfold pick trimM; rw [List.length_map, List.length_map], fun i s m h1 h2 => ?_⟩
  unfold pick at h1
  unfold trimM at h2
  rw [List.getElem?_map] at h1 h2
  cases e : K[i]? with
  | none => rw [e] at h1; cases h1
  | some x =>
    rw [e] at h1 h2
    have h1 := Option.some.inj h1
    have h2 := Option.some.inj h2
    have hr := kk.rng x (List.mem_of_getElem? e)
    have e1 := p.1
    rw [← h1, ← h2]
    exact p.2 x.toNat _ _ (getD_of (by omega)) (getD_of (by omega))
theorem tks_pick {M T : List Int} {W : List T3} {I K : List Int} (kk : KOk W M.length K) (p : Tks T M.length I) : Tks (pick K T) (trimM M K).length (trimI I K) := by
  refine ⟨by unfold pick trimM; rw [List.length_map, List.length_map], fun i t h1 => ?_⟩
  unfold pick at h1
  rw [List.getElem?_map] at h1
  cases e : K[i]? with
  | none => rw [e] at h1; cases h1
  | some x =>
    rw [e] at h1
    have h1 := Option.some.inj h1
    have hx := List.mem_of_getElem? e
    have hr := kk.rng x hx
    have e1 := p.1
    have q := p.2 x.toNat (T.getD x.toNat 0) (getD_of (by omega))
    have h1 : T.getD x.toNat 0 = t := h1
    rw [← h1]
    refine ⟨q.1, q.2.1, fun z => ?_⟩
    have hI := q.2.2 z
    unfold trimI
    refine List.mem_map.mpr ⟨x, List.mem_filter.mpr ⟨?_, decide_eq_true hx⟩, ?_⟩
    · rw [show ((x.toNat : Nat) : Int) = x by omega] at hI
      exact hI
    · rw [idx_at kk.nd e]
end Z54
/-! the trimmed net answers the same: its gains -/
namespace Z54
open PySem PySem.Spec PyProof.Rows L2 Z
abbrev gP (F : List P2) (x : Int) : P2 := F.getD x.toNat (0, 1)
abbrev dl (k c : Int) : P2 := (if k = c then 1 else 0, 1)
theorem totG_congr {F G : List P2} {k : Int} : ∀ (W : List T3) (t : P2), (∀ w ∈ W, w.1 = k → gP F w.2.1 = gP G w.2.1) → totG F k W t = totG G k W t
  | [], t, _ => rfl
  | w :: W, t, h => by
    show totG F k W _ = totG G k W _
    have e : (if w.1 = k then addP t (sclP (F.getD w.2.1.toNat (0, 1)) w.2.2) else t) = (if w.1 = k then addP t (sclP (G.getD w.2.1.toNat (0, 1)) w.2.2) else t) := by
      by_cases hk : w.1 = k
      · have := h w List.mem_cons_self hk
        unfold gP at this
        rw [if_pos hk, if_pos hk, this]
      · rw [if_neg hk, if_neg hk]
    rw [e]
    exact totG_congr W _ fun v hv => h v (List.mem_cons_of_mem _ hv)
theorem getD_setP (F : List P2) (i j : Nat) (v : P2) (hi : i < F.length) : (F.set i v).getD j (0, 1) = if i = j then v else F.getD j (0, 1) := by
  rw [List.getD_eq_getElem?_getD, List.getD_eq_getElem?_getD, List.getElem?_set]
  by_cases h : i = j
  · rw [if_pos h, if_pos h, if_pos hi]; rfl
  · rw [if_neg h, if_neg h]
theorem gainG_char {M : List Int} {W : List T3} {c : Int} (hW : ∀ w ∈ W, WOk M.length w) : ∀ (k : Nat) (F : List P2), k ≤ M.length → F.length = M.length →
    (gainG M W c k F).length = M.length ∧ (∀ i : Nat, k ≤ i → (gainG M W c k F).getD i (0, 1) = F.getD i (0, 1)) ∧
    ∀ i : Nat, i < k → (gainG M W c k F).getD i (0, 1) = ltm (totG (gainG M W c k F) i W (dl i c)).1 ((totG (gainG M W c k F) i W (dl i c)).2 * M.getD i 0)
  | 0, F, hk, hF => ⟨hF, fun _ _ => rfl, fun i h => absurd h (by omega)⟩
  | k + 1, F, hk, hF => by
    have hset : ∀ v : P2, (F.set k v).length = M.length := fun v => by rw [List.length_set]; exact hF
    obtain ⟨h1, h2, h3⟩ := gainG_char (c := c) hW k (F.set k (ltm (totG F k W (dl k c)).1 ((totG F k W (dl k c)).2 * M.getD k 0))) (by omega) (hset _)
    show (gainG M W c k (F.set k (ltm (totG F k W (dl k c)).1 ((totG F k W (dl k c)).2 * M.getD k 0)))).length = _ ∧ (∀ i : Nat, k + 1 ≤ i → (gainG M W c k (F.set k (ltm (totG F k W (dl k c)).1 ((totG F k W (dl k c)).2 * M.getD k 0)))).getD i (0, 1) = _) ∧
      ∀ i : Nat, i < k + 1 → (gainG M W c k (F.set k (ltm (totG F k W (dl k c)).1 ((totG F k W (dl k c)).2 * M.getD k 0)))).getD i (0, 1) = ltm (totG (gainG M W c k (F.set k (ltm (totG F k W (dl k c)).1 ((totG F k W (dl k c)).2 * M.getD k 0)))) i W (dl i c)).1 ((totG (gainG M W c k (F.set k (ltm (totG F k W (dl k c)).1 ((totG F k W (dl k c)).2 * M.getD k 0)))) i W (dl i c)).2 * M.getD i 0)
    generalize hv : ltm (totG F k W (dl k c)).1 ((totG F k W (dl k c)).2 * M.getD k 0) = v at h1 h2 h3 ⊢
    generalize hR : gainG M W c k (F.set k v) = R at h1 h2 h3 ⊢
    have hgt : ∀ i : Nat, k + 1 ≤ i → R.getD i (0, 1) = F.getD i (0, 1) := fun i hi => by
      rw [h2 i (by omega), getD_setP _ _ _ _ (by omega), if_neg (by omega)]
    refine ⟨h1, hgt, fun i hi => ?_⟩
    by_cases e : i = k
    · subst e
      have et : totG F i W (dl i c) = totG R i W (dl i c) := totG_congr W _ fun w hw q => by
        have := (hW w hw).2.1
        exact (hgt w.2.1.toNat (by omega)).symm
      rw [h2 i (Nat.le_refl _), getD_setP _ _ _ _ (by omega), if_pos rfl, ← hv, et]
    · exact h3 i (by omega)
structure GainOk (M : List Int) (W : List T3) (c : Int) (F : List P2) : Prop where
  len : F.length = M.length
  eq : ∀ i : Nat, i < M.length → F.getD i (0, 1) = ltm (totG F i W (dl i c)).1 ((totG F i W (dl i c)).2 * M.getD i 0)
theorem gain_ok {M : List Int} {W : List T3} {c : Int} (hW : ∀ w ∈ W, WOk M.length w) : GainOk M W c (gainL M W c) := by
  obtain ⟨h1, _, h3⟩ := gainG_char (c := c) hW M.length (List.replicate M.length (0, 1)) (Nat.le_refl _) (by simp)
  exact ⟨h1, h3⟩
structure Low (t : P2) : Prop where
  d : 0 < t.2
  g : Int.gcd t.1 t.2 = 1
theorem low_dl (k c : Int) : Low (dl k c) := by
  unfold dl
  split
  · exact ⟨by decide, by decide⟩
  · exact ⟨by decide, by decide⟩
theorem low_add {t u : P2} (h1 : 0 < t.2) (h2 : 0 < u.2) : Low (addP t u) := by
  obtain ⟨g, g0, e1, e2, h3, h4⟩ := ltm_eq (a := t.1 * u.2 + u.1 * t.2) (Int.mul_pos h1 h2)
  exact ⟨h3, h4⟩
theorem scl_pos {p : P2} {w : Int} (h : 0 < p.2) : 0 < (sclP p w).2 := by
  obtain ⟨g, g0, e1, e2, h3, h4⟩ := ltm_eq (a := p.1 * w) h
  exact h3
theorem scl_zero (w : Int) : sclP (0, 1) w = (0, 1) := by
  unfold sclP
  rw [Int.zero_mul]
  exact ltm_low (by decide)
theorem add_zero' {t : P2} (h : Low t) : addP t (0, 1) = t := by
  unfold addP
  show ltm (t.1 * 1 + 0 * t.2) (t.2 * 1) = t
  rw [Int.mul_one, Int.mul_one, Int.zero_mul, Int.add_zero]
  exact ltm_low h.g
theorem ltm_zero {m : Int} (h : 0 < m) : ltm 0 m = (0, 1) := by
  unfold ltm
  rw [Int.gcd_zero_left, Int.natAbs_of_nonneg (by omega), Int.zero_ediv, Int.ediv_self (by omega)]
/-- all entries have a positive den -/
def Pos2 (F : List P2) : Prop := ∀ i : Nat, 0 < (F.getD i (0, 1)).2
theorem pos_of {F : List P2} (h : ∀ (i : Nat) (p : P2), F[i]? = some p → 0 < p.2) : Pos2 F := fun i => by
  rw [List.getD_eq_getElem?_getD]
  cases e : F[i]? with
  | none => decide
  | some p => exact h i p e
theorem gain_inv {M : List Int} {W : List T3} {c : Int} (hM : ∀ m ∈ M, 2 ≤ m ∧ m ≤ 1000) (hW : ∀ w ∈ W, WOk M.length w) (hl : W.length ≤ 100) : ∀ (k : Nat) (F : List P2), k ≤ M.length → GInv M k F → GInv M 0 (gainG M W c k F)
  | 0, F, _, g => g
  | k + 1, F, hk, g => gain_inv hM hW hl k _ (by omega) (g.next (by omega) hM hW hl)
theorem gain_pos {M : List Int} {W : List T3} {I : List Int} {c : Int} (V : Valid M W I) : Pos2 (gainL M W c) := pos_of fun i p e => ((gain_inv V.mo V.wk V.wl M.length _ (Nat.le_refl _) (GInv.start M)).fr i p e).d0
theorem tot_trim {F G : List P2} {K : List Int} {x : Int} (hx : x ∈ K) (hp : Pos2 F) : ∀ (W : List T3) (t : P2), (∀ w ∈ W, w.2.1 ∈ K → w.1 ∈ K) → (∀ w ∈ W, w.1 = x → w.2.1 ∈ K → gP G ((K.idxOf w.2.1 : Nat) : Int) = gP F w.2.1) → (∀ w ∈ W, w.1 = x → w.2.1 ∉ K → gP F w.2.1 = (0, 1)) → Low t →
    totG G ((K.idxOf x : Nat) : Int) (trimW W K) t = totG F x W t
  | [], t, _, _, _, _ => rfl
  | w :: W, t, hc, h1, h2, ht => by
    have ih := fun t' (ht' : Low t') => tot_trim (F := F) (G := G) hx hp W t' (fun v hv => hc v (List.mem_cons_of_mem _ hv)) (fun v hv => h1 v (List.mem_cons_of_mem _ hv)) (fun v hv => h2 v (List.mem_cons_of_mem _ hv)) ht'
    show _ = totG F x W (if w.1 = x then addP t (sclP (F.getD w.2.1.toNat (0, 1)) w.2.2) else t)
    unfold trimW at ih ⊢
    by_cases hk : w.2.1 ∈ K
    · rw [List.filter_cons_of_pos (by simpa using hk), List.map_cons]
      have hs := hc w List.mem_cons_self hk
      show totG G _ _ (if ((K.idxOf w.1 : Nat) : Int) = ((K.idxOf x : Nat) : Int) then addP t (sclP (G.getD ((K.idxOf w.2.1 : Nat) : Int).toNat (0, 1)) w.2.2) else t) = _
      by_cases e : w.1 = x
      · rw [if_pos (by rw [e]), if_pos e]
        have e1 := h1 w List.mem_cons_self e hk
        unfold gP at e1
        rw [e1]
        exact ih _ (low_add ht.d (scl_pos (hp _)))
      · rw [if_neg (fun z => e (idx_inj hs hx (by omega))), if_neg e]
        exact ih _ ht
    · rw [List.filter_cons_of_neg (by simpa using hk)]
      by_cases e : w.1 = x
      · rw [if_pos e]
        have e1 := h2 w List.mem_cons_self e hk
        unfold gP at e1
        rw [e1, scl_zero, add_zero' ht]
        exact ih _ ht
      · rw [if_neg e]
        exact ih _ ht
theorem tot_none {F : List P2} {x : Int} : ∀ (W : List T3), (∀ w ∈ W, w.1 = x → gP F w.2.1 = (0, 1)) → totG F x W (0, 1) = (0, 1)
  | [], _ => rfl
  | w :: W, h => by
    have ih := tot_none (F := F) (x := x) W fun v hv => h v (List.mem_cons_of_mem _ hv)
    show totG F x W (if w.1 = x then addP (0, 1) (sclP (F.getD w.2.1.toNat (0, 1)) w.2.2) else (0, 1)) = _
    by_cases e : w.1 = x
    · rw [if_pos e]
      have e1 := h w List.mem_cons_self e
      unfold gP at e1
      rw [e1, scl_zero, add_zero' ⟨by decide, by decide⟩]
      exact ih
    · rw [if_neg e]
      exact ih
theorem gain_same {M : List Int} {W : List T3} {I K : List Int} {c : Int} (V : Valid M W I) (kk : KOk W M.length K) (hc : c ∈ K) :
    ∀ (b : Nat) (x : Int), 0 ≤ x → (M.length : Int) - b ≤ x → x < M.length → (x ∈ K → gP (gainL (trimM M K) (trimW W K) ((K.idxOf c : Nat) : Int)) ((K.idxOf x : Nat) : Int) = gP (gainL M W c) x) ∧ (x ∉ K → gP (gainL M W c) x = (0, 1)) := by
  have hML : (trimM M K).length = K.length := by unfold trimM; rw [List.length_map]
  have hne : K ≠ [] := fun z => by rw [z] at hc; cases hc
  have F1 := gain_ok (c := ((K.idxOf c : Nat) : Int)) (valid_trim V kk hne).wk
  have F := gain_ok (c := c) V.wk
  have hp := gain_pos (c := c) V
  generalize gainL (trimM M K) (trimW W K) ((K.idxOf c : Nat) : Int) = G at F1 ⊢
  generalize gainL M W c = X at F hp ⊢
  intro b
  induction b with
  | zero =>
    intro x h0 h1 h2
    omega
  | succ b ih =>
    intro x h0 h1 h2
    have up : ∀ w ∈ W, w.1 = x → (w.2.1 ∈ K → gP G ((K.idxOf w.2.1 : Nat) : Int) = gP X w.2.1) ∧ (w.2.1 ∉ K → gP X w.2.1 = (0, 1)) := fun w hw e => by
      have ok := V.wk w hw
      unfold WOk at ok
      exact ih w.2.1 (by omega) (by omega) (by omega)
    have ex : X.getD x.toNat (0, 1) = ltm (totG X x W (dl x c)).1 ((totG X x W (dl x c)).2 * M.getD x.toNat 0) := by
      have := F.eq x.toNat (by omega)
      rw [show ((x.toNat : Nat) : Int) = x by omega] at this
      exact this
    have hm : 2 ≤ M.getD x.toNat 0 := (V.mo _ (List.mem_of_getElem? (getD_of (by omega)))).1
    refine ⟨fun hx => ?_, fun hx => ?_⟩
    · have hi : K.idxOf x < K.length := List.idxOf_lt_length_iff.mpr hx
      unfold gP
      rw [Int.toNat_natCast, F1.eq _ (by omega), ex]
      have ed : dl ((K.idxOf x : Nat) : Int) ((K.idxOf c : Nat) : Int) = dl x c := by
        unfold dl
        by_cases e : x = c
        · rw [if_pos (by rw [e]), if_pos e]
        · rw [if_neg (fun z => e (idx_inj hx hc (by omega))), if_neg e]
      have et : totG G ((K.idxOf x : Nat) : Int) (trimW W K) (dl x c) = totG X x W (dl x c) := tot_trim hx hp W _ kk.cl (fun w hw e hk => (up w hw e).1 hk) (fun w hw e hk => (up w hw e).2 hk) (low_dl _ _)
      have em : (trimM M K).getD (K.idxOf x) 0 = M.getD x.toNat 0 := pick_at hx
      rw [ed, et, em]
    · have e : ¬ x = c := fun z => hx (z ▸ hc)
      unfold gP
      rw [ex]
      have ed : dl x c = (0, 1) := by
        unfold dl
        rw [if_neg e]
      rw [ed, tot_none W fun w hw q => (up w hw q).2 fun z => hx (by rw [← q]; exact kk.cl w hw z)]
      show ltm 0 (1 * M.getD x.toNat 0) = (0, 1)
      rw [Int.one_mul]
      exact ltm_zero (by omega)
theorem gain_list {M : List Int} {W : List T3} {I K : List Int} {c : Int} (V : Valid M W I) (kk : KOk W M.length K) (hc : c ∈ K) :
    gainL (trimM M K) (trimW W K) ((K.idxOf c : Nat) : Int) = K.map fun x => gP (gainL M W c) x := by
  have hML : (trimM M K).length = K.length := by unfold trimM; rw [List.length_map]
  have hne : K ≠ [] := fun z => by rw [z] at hc; cases hc
  have F1 := gain_ok (c := ((K.idxOf c : Nat) : Int)) (valid_trim V kk hne).wk
  have hl : (gainL (trimM M K) (trimW W K) ((K.idxOf c : Nat) : Int)).length = K.length := by rw [F1.len, hML]
  refine List.ext_getElem? fun i => ?_
  by_cases hi : i < K.length
  · have ek : K[i]? = some K[i] := List.getElem?_eq_getElem hi
    have hx := List.mem_of_getElem? ek
    have hr := kk.rng _ hx
    rw [List.getElem?_map, ek, getD2 (xs := gainL (trimM M K) (trimW W K) ((K.idxOf c : Nat) : Int)) (k := i) (by omega)]
    have := (gain_same V kk hc M.length K[i] hr.1 (by omega) hr.2).1 hx
    unfold gP at this
    rw [Int.toNat_natCast, idx_at kk.nd ek] at this
    rw [this]; rfl
  · rw [List.getElem?_eq_none (by omega), List.getElem?_eq_none (by rw [List.length_map]; omega)]
end Z54
namespace Z54
open PySem PySem.Spec PyProof.Rows L2 Z
def eI (xs : List Int) : PyData := .tuple (xs.map .int)
def eW (w : T3) : PyData := .tuple [.int w.1, .int w.2.1, .int w.2.2]
def eNet (M : List Int) (W : List T3) (I : List Int) : PyData := .tuple [eI M, .tuple (W.map eW), eI I]
theorem dp_I (k : Nat) (xs : List Int) : DP (k + 1) (dI xs) (eI xs) := .tup (.ints xs)
theorem dp_net (M : List Int) (W : List T3) (I : List Int) : DP 3 (netD M W I) (eNet M W I) := .tup (.cons (dp_I 1 M) (.cons (.tup (.map (f := wD) (g := eW) (fun w => .tup (.cons (.int _) (.cons (.int _) (.cons (.int _) .nil)))) W)) (.cons (dp_I 1 I) .nil)))
theorem dp_P (F : List P2) : DP 2 (dP F) (.tuple (F.map fun p => .tuple [.int p.1, .int p.2])) := .tup (.map (f := pD) (fun p => .tup (.cons (.int _) (.cons (.int _) .nil))) F)
abbrev N_law : List Str := ["script", "m", "turn", "mesh", "v", "some", "kept", "state", "pulses", "small", "x", "values", "due", "fractions", "share"]
def cg1_law : ZG := (zName 10)
def ce1_law : ZE := (zOp zIx (zVar 11) (zVar 10))
def cg2_law : ZG := (zName 11)
def ce2_law : ZE := (zCB zTuple (zCons (zLC false (ziSeq (zVar 5)) cg1_law zYes ce1_law [10]) zNil))
def cg3_law : ZG := (zName 10)
def ce3_law : ZE := (zOp zIx (zVar 13) (zVar 10))
def cg4_law : ZG := (zgTup 2 (zgCons (zName 10) (zgCons (zName 14) zgNil)))
def ce4_law : ZE := (zC (.int 1))
def ct1_law : ZT := (zAnd (zTest (zOp zNotIn (zVar 10) (zVar 5))) (zTest (zOp zNe (zVar 14) (zTup (zCons (zC (.int 0)) (zCons (zC (.int 1)) zNil))))))
def tl1_law : ZTS := (zIfS (zTest (zOp zNe (zLC false (ziEnum (zCons (zVar 13) zNil)) cg4_law ct1_law ce4_law [10, 14]) (zLst false zNil))) (zRet (zC (.bl false))) zNext)
def tl2_law : ZTS := (zSeq (zIfS (zTest (zOp zNe (zCB zTuple (zCons (zLC false (ziSeq (zVar 5)) cg3_law zYes ce3_law [10]) zNil)) (zCall sp_gains (zCons (zVar 6) (zCons (zTix (zVar 5) (zCons (zVar 4) zNil)) zNil))))) (zRet (zC (.bl false))) zNext) tl1_law)
def tl3_law : ZTS := (zSeq (zAsg (zCall sp_gains (zCons (zVar 3) (zCons (zVar 4) zNil))) (zName 13)) tl2_law)
def tl4_law : ZTS := (zSeq (zIfS (zOr (zTest (zOp zNe (zOp zIx (zCall sp_carries (zCons (zVar 3) (zCons (zVar 7) (zCons (zVar 8) zNil)))) (zVar 4)) (zVar 12))) (zTest (zOp zNe (zOp zIx (zCall sp_carries (zCons (zVar 6) (zCons (zOp zIx (zVar 9) (zC (.int 0))) (zCons (zOp zIx (zVar 9) (zC (.int 1))) zNil)))) (zTix (zVar 5) (zCons (zVar 4) zNil))) (zVar 12)))) (zRet (zC (.bl false))) zNext) tl3_law)
def tl5_law : ZTS := (zSeq (zAsg (zOp zIx (zOp zIx (zCall sp__law_run (zCons (zVar 3) (zCons (zVar 7) (zCons (zVar 8) zNil)))) (zC (.int 1))) (zVar 4)) (zName 12)) tl4_law)
def tl6_law : ZTS := (zSeq (zAsg (zLC false (ziSeq (zTup (zCons (zVar 7) (zCons (zVar 8) zNil)))) cg2_law zYes ce2_law [11]) (zName 9)) tl5_law)
def tl7_law : ZTS := (zSeq (zPar 7 8 (zCons (zCall sp__law_start (zCons (zVar 1) (zCons (zVar 3) zNil))) (zCons (zCall sp__law_pulses (zCons (zVar 1) (zCons (zVar 3) (zCons (zC (.int 300)) zNil)))) zNil))) tl6_law)
def tl8_law : ZTS := (zSeq (zIfS (zOr (zTest (zOp zNe (zCall sp_relevant (zCons (zVar 3) (zCons (zVar 4) zNil))) (zVar 5))) (zOr (zTest (zOp zNe (zCall sp_trimmed (zCons (zVar 3) (zCons (zVar 4) zNil))) (zTup (zCons (zVar 6) (zCons (zVar 5) zNil))))) (zNot (zTest (zCall sp_is_net (zCons (zVar 6) zNil)))))) (zRet (zC (.bl false))) zNext) tl7_law)
def tl9_law : ZTS := (zSeq (zAsg (zCall sp__law_kept (zCons (zVar 3) (zCons (zVar 5) zNil))) (zName 6)) tl8_law)
def tl10_law : ZTS := (zSeq (zAsg (zCall sp__law_leading (zCons (zVar 3) (zCons (zVar 4) zNil))) (zName 5)) tl9_law)
def tl11_law : ZTS := (zSeq (zAsg (zCall sp__law_next (zCons (zVar 1) (zCons (zCB zLen (zCons (zOp zIx (zVar 3) (zC (.int 0))) zNil)) zNil))) (zName 4)) tl10_law)
def lg1_law : ZG := (zName 2)
def lb1_law : ZTS := (zSeq (zAsg (zCall sp__law_net (zCons (zVar 1) (zCons (zC (.int 10)) (zCons (zOp zIx (zLst false (zCons (zC (.int 5)) (zCons (zC (.int 999)) zNil))) (zCall sp__law_next (zCons (zVar 1) (zCons (zC (.int 2)) zNil)))) zNil)))) (zName 3)) tl11_law)
def tl12_law : ZTS := (zRet (zC (.bl true)))
def tl13_law : ZTS := (zSeq (zFor (ziR1 (zCons (zOp (zAdd false) (zC (.int 4)) (zCB zMin2 (zCons (zC (.int 8)) (zCons (zCB zLen (zCons (zVar 0) zNil)) zNil)))) zNil)) lg1_law lb1_law) tl12_law)
def r_law : ZTS := (zSeq (zAsg (zCall sp__law_begun (zCons (zVar 0) zNil)) (zName 1)) tl13_law)
def sp_law : ZSp := fun ds h Q _ => ∃ ns : List Int, ds = [.fz (ns.map D.int)] ∧ ns.length ≤ 63 ∧ Q (.bl true) h
theorem len_law : ∀ ds h Q E, sp_law ds h Q E → ds.length = 1 := fun ds h Q E ⟨n, e, _⟩ => by rw [e]; rfl
section
variable {E : ZEnds} {h : AH} {ns : List Int} {M : List Int} {W : List T3} {I : List Int} {v : Int} {K S T : List Int}
/-- the last two tests: the gains -/
theorem law_end (V : Valid M W I) (kk : KOk W M.length K) (h0 : 0 ≤ v) (h1 : v < (M.length : Int)) (hv : v ∈ K) {s0 s1 s2 s7 s8 s9 s10 s11 s12 s13 s14 : Option D} {hp0 : AH}
    (q : ∀ t : List (Option D), t.length = 13 → E.nx (s0 :: s1 :: t) hp0) : tl3_law E [s0, s1, s2, some (netD M W I), some (.int v), some (.tf (K.map D.int)), some (netD (trimM M K) (trimW W K) (trimI I K)), s7, s8, s9, s10, s11, s12, s13, s14] hp0 := by
  have hsl := sizeLine_eq
  have hn := V.n2
  have hl := kk.len
  have hne : K ≠ [] := fun z => by rw [z] at hv; cases hv
  have V2 := valid_trim V kk hne
  have hML : (trimM M K).length = K.length := by unfold trimM; rw [List.length_map]
  have hi : K.idxOf v < K.length := List.idxOf_lt_length_iff.mpr hv
  have hF := (gain_ok (c := v) V.wk).len
  unfold tl3_law
  simp only [zSeq, zAsg, zRet, zRetN, zIfS, zNext, zDrop, zBreak, zCont, zVar, zC, zOp, zUn, zName, zgTup, zgCons, zgNil, zgSub, zAug, zAugS, zPar, zPar3, zAndV, zOrV, zNotV, zTest, zTestE, zAnd, zOr, zNot, zIf, zCh, zCB, zCall, zCKw, zCons, zNil, zTup, zLst, newL, newDK, zIx, zLe, zLt, zGt, zGe, zNe_ii, zEq_ii, zIsN, zNotN, zIn, zNotIn, zSub, zMod, zFdiv, zPow, zMul, zAdd, zNeg, zI2, zI2C, zLen, zIsi, zTuple, zTupleF, zList, zAbs, zInt1, zDivmod, zMin2, zSet, zGet, zSl, zSlV, zPart, zNoPart, zTix, zBM, zAppend, isL, tyName, kit_tt, kit_ii, kit_ib, sqR, lsR, lsM, dkM, dtM, dLook, Z.keyOf, frS, ziSeq, ziEnum, ziR1, ziR2, ziR3, zFor, zLC, zDC, zYes, zwipe, zDisp, zPairs, zmerge, zSortR3, zSortedI, zSortedDI, zDictOf, List.getElem?_cons_zero, List.getElem?_cons_succ, List.set_cons_zero, List.set_cons_succ, List.length_cons, List.length_nil, List.map_cons, List.map_nil, List.length_map, Bool.not_true, Bool.not_false, decide_true, decide_false]
  refine ⟨M, W, I, v, rfl, V, h0, h1, ?_⟩
  unfold tl2_law
  simp only [zSeq, zAsg, zRet, zRetN, zIfS, zNext, zDrop, zBreak, zCont, zVar, zC, zOp, zUn, zName, zgTup, zgCons, zgNil, zgSub, zAug, zAugS, zPar, zPar3, zAndV, zOrV, zNotV, zTest, zTestE, zAnd, zOr, zNot, zIf, zCh, zCB, zCall, zCKw, zCons, zNil, zTup, zLst, newL, newDK, zIx, zLe, zLt, zGt, zGe, zNe_ii, zEq_ii, zIsN, zNotN, zIn, zNotIn, zSub, zMod, zFdiv, zPow, zMul, zAdd, zNeg, zI2, zI2C, zLen, zIsi, zTuple, zTupleF, zList, zAbs, zInt1, zDivmod, zMin2, zSet, zGet, zSl, zSlV, zPart, zNoPart, zTix, zBM, zAppend, isL, tyName, kit_tt, kit_ii, kit_ib, sqR, lsR, lsM, dkM, dtM, dLook, Z.keyOf, frS, ziSeq, ziEnum, ziR1, ziR2, ziR3, zFor, zLC, zDC, zYes, zwipe, zDisp, zPairs, zmerge, zSortR3, zSortedI, zSortedDI, zDictOf, List.getElem?_cons_zero, List.getElem?_cons_succ, List.set_cons_zero, List.set_cons_succ, List.length_cons, List.length_nil, List.map_cons, List.map_nil, List.length_map, Bool.not_true, Bool.not_false, decide_true, decide_false]
  refine lclA D.int (fun x => pD (gP (gainL M W v) x)) _ K (fun x hx K' y => ?_) (by omega) ?_
  · have hr := kk.rng x hx
    unfold dP
    simp only [zSeq, zAsg, zRet, zRetN, zIfS, zNext, zDrop, zBreak, zCont, zVar, zC, zOp, zUn, zName, zgTup, zgCons, zgNil, zgSub, zAug, zAugS, zPar, zPar3, zAndV, zOrV, zNotV, zTest, zTestE, zAnd, zOr, zNot, zIf, zCh, zCB, zCall, zCKw, zCons, zNil, zTup, zLst, newL, newDK, zIx, zLe, zLt, zGt, zGe, zNe_ii, zEq_ii, zIsN, zNotN, zIn, zNotIn, zSub, zMod, zFdiv, zPow, zMul, zAdd, zNeg, zI2, zI2C, zLen, zIsi, zTuple, zTupleF, zList, zAbs, zInt1, zDivmod, zMin2, zSet, zGet, zSl, zSlV, zPart, zNoPart, zTix, zBM, zAppend, isL, tyName, kit_tt, kit_ii, kit_ib, sqR, lsR, lsM, dkM, dtM, dLook, Z.keyOf, frS, ziSeq, ziEnum, ziR1, ziR2, ziR3, zFor, zLC, zDC, zYes, zwipe, zDisp, zPairs, zmerge, zSortR3, zSortedI, zSortedDI, zDictOf, List.getElem?_cons_zero, List.getElem?_cons_succ, List.set_cons_zero, List.set_cons_succ, List.length_cons, List.length_nil, List.map_cons, List.map_nil, List.length_map, Bool.not_true, Bool.not_false, decide_true, decide_false, cg3_law, ce3_law]
    rw [atZ hr.1 (map_get (getD2 (by omega)))]
    exact y
  · simp only [zSeq, zAsg, zRet, zRetN, zIfS, zNext, zDrop, zBreak, zCont, zVar, zC, zOp, zUn, zName, zgTup, zgCons, zgNil, zgSub, zAug, zAugS, zPar, zPar3, zAndV, zOrV, zNotV, zTest, zTestE, zAnd, zOr, zNot, zIf, zCh, zCB, zCall, zCKw, zCons, zNil, zTup, zLst, newL, newDK, zIx, zLe, zLt, zGt, zGe, zNe_ii, zEq_ii, zIsN, zNotN, zIn, zNotIn, zSub, zMod, zFdiv, zPow, zMul, zAdd, zNeg, zI2, zI2C, zLen, zIsi, zTuple, zTupleF, zList, zAbs, zInt1, zDivmod, zMin2, zSet, zGet, zSl, zSlV, zPart, zNoPart, zTix, zBM, zAppend, isL, tyName, kit_tt, kit_ii, kit_ib, sqR, lsR, lsM, dkM, dtM, dLook, Z.keyOf, frS, ziSeq, ziEnum, ziR1, ziR2, ziR3, zFor, zLC, zDC, zYes, zwipe, zDisp, zPairs, zmerge, zSortR3, zSortedI, zSortedDI, zDictOf, List.getElem?_cons_zero, List.getElem?_cons_succ, List.set_cons_zero, List.set_cons_succ, List.length_cons, List.length_nil, List.map_cons, List.map_nil, List.length_map, Bool.not_true, Bool.not_false, decide_true, decide_false, dints_ints]
    refine ⟨hv, _, _, _, ((K.idxOf v : Nat) : Int), rfl, V2, by omega, by omega, ?_⟩
    have e1 : D.tup (K.map fun x => pD (gP (gainL M W v) x)) = dP (gainL (trimM M K) (trimW W K) ((K.idxOf v : Nat) : Int)) := by
      rw [gain_list V kk hv]
      unfold dP
      rw [List.map_map]; rfl
    rw [e1]
    refine zNe_same (dp_P _) (dp_P _) (by omega) ?_
    simp only [zSeq, zAsg, zRet, zRetN, zIfS, zNext, zDrop, zBreak, zCont, zVar, zC, zOp, zUn, zName, zgTup, zgCons, zgNil, zgSub, zAug, zAugS, zPar, zPar3, zAndV, zOrV, zNotV, zTest, zTestE, zAnd, zOr, zNot, zIf, zCh, zCB, zCall, zCKw, zCons, zNil, zTup, zLst, newL, newDK, zIx, zLe, zLt, zGt, zGe, zNe_ii, zEq_ii, zIsN, zNotN, zIn, zNotIn, zSub, zMod, zFdiv, zPow, zMul, zAdd, zNeg, zI2, zI2C, zLen, zIsi, zTuple, zTupleF, zList, zAbs, zInt1, zDivmod, zMin2, zSet, zGet, zSl, zSlV, zPart, zNoPart, zTix, zBM, zAppend, isL, tyName, kit_tt, kit_ii, kit_ib, sqR, lsR, lsM, dkM, dtM, dLook, Z.keyOf, frS, ziSeq, ziEnum, ziR1, ziR2, ziR3, zFor, zLC, zDC, zYes, zwipe, zDisp, zPairs, zmerge, zSortR3, zSortedI, zSortedDI, zDictOf, List.getElem?_cons_zero, List.getElem?_cons_succ, List.set_cons_zero, List.set_cons_succ, List.length_cons, List.length_nil, List.map_cons, List.map_nil, List.length_map, Bool.not_true, Bool.not_false, decide_true, decide_false]
    unfold tl1_law dP
    simp only [zSeq, zAsg, zRet, zRetN, zIfS, zNext, zDrop, zBreak, zCont, zVar, zC, zOp, zUn, zName, zgTup, zgCons, zgNil, zgSub, zAug, zAugS, zPar, zPar3, zAndV, zOrV, zNotV, zTest, zTestE, zAnd, zOr, zNot, zIf, zCh, zCB, zCall, zCKw, zCons, zNil, zTup, zLst, newL, newDK, zIx, zLe, zLt, zGt, zGe, zNe_ii, zEq_ii, zIsN, zNotN, zIn, zNotIn, zSub, zMod, zFdiv, zPow, zMul, zAdd, zNeg, zI2, zI2C, zLen, zIsi, zTuple, zTupleF, zList, zAbs, zInt1, zDivmod, zMin2, zSet, zGet, zSl, zSlV, zPart, zNoPart, zTix, zBM, zAppend, isL, tyName, kit_tt, kit_ii, kit_ib, sqR, lsR, lsM, dkM, dtM, dLook, Z.keyOf, frS, ziSeq, ziEnum, ziR1, ziR2, ziR3, zFor, zLC, zDC, zYes, zwipe, zDisp, zPairs, zmerge, zSortR3, zSortedI, zSortedDI, zDictOf, List.getElem?_cons_zero, List.getElem?_cons_succ, List.set_cons_zero, List.set_cons_succ, List.length_cons, List.length_nil, List.map_cons, List.map_nil, List.length_map, Bool.not_true, Bool.not_false, decide_true, decide_false]
    rw [zenum_map]
    refine lcl (fun p : Nat × P2 => .tup [.int p.1, pD p.2]) (fun _ => false) (fun _ => .int 1) _ (enumL 0 (gainL M W v)) [] (fun p hp K' N y => ?_) (by rw [enumL_length, List.length_nil]; omega) ?_
    · obtain ⟨i, e2, e3⟩ := enumL_mem hp
      rw [if_neg Bool.false_ne_true] at y
      have eB : zInB hp0 (.int (p.1 : Nat)) (.tf (K.map D.int)) = some (decide (((p.1 : Nat) : Int) ∈ K)) := inB_ints _ rfl
      obtain ⟨j, p2⟩ := p
      have e2 : j = 0 + i := e2
      have e3 : (gainL M W v)[i]? = some p2 := e3
      rw [Nat.zero_add] at e2
      subst e2
      simp only [zSeq, zAsg, zRet, zRetN, zIfS, zNext, zDrop, zBreak, zCont, zVar, zC, zOp, zUn, zName, zgTup, zgCons, zgNil, zgSub, zAug, zAugS, zPar, zPar3, zAndV, zOrV, zNotV, zTest, zTestE, zAnd, zOr, zNot, zIf, zCh, zCB, zCall, zCKw, zCons, zNil, zTup, zLst, newL, newDK, zIx, zLe, zLt, zGt, zGe, zNe_ii, zEq_ii, zIsN, zNotN, zIn, zNotIn, zSub, zMod, zFdiv, zPow, zMul, zAdd, zNeg, zI2, zI2C, zLen, zIsi, zTuple, zTupleF, zList, zAbs, zInt1, zDivmod, zMin2, zSet, zGet, zSl, zSlV, zPart, zNoPart, zTix, zBM, zAppend, isL, tyName, kit_tt, kit_ii, kit_ib, sqR, lsR, lsM, dkM, dtM, dLook, Z.keyOf, frS, ziSeq, ziEnum, ziR1, ziR2, ziR3, zFor, zLC, zDC, zYes, zwipe, zDisp, zPairs, zmerge, zSortR3, zSortedI, zSortedDI, zDictOf, List.getElem?_cons_zero, List.getElem?_cons_succ, List.set_cons_zero, List.set_cons_succ, List.length_cons, List.length_nil, List.map_cons, List.map_nil, List.length_map, Bool.not_true, Bool.not_false, decide_true, decide_false, cg4_law, ct1_law, ce4_law]
      rw [eB]
      refine ⟨trivial, ?_⟩
      by_cases hk : ((j : Nat) : Int) ∈ K
      · rw [decide_eq_true hk]
        exact y
      · rw [decide_eq_false hk]
        simp only [zSeq, zAsg, zRet, zRetN, zIfS, zNext, zDrop, zBreak, zCont, zVar, zC, zOp, zUn, zName, zgTup, zgCons, zgNil, zgSub, zAug, zAugS, zPar, zPar3, zAndV, zOrV, zNotV, zTest, zTestE, zAnd, zOr, zNot, zIf, zCh, zCB, zCall, zCKw, zCons, zNil, zTup, zLst, newL, newDK, zIx, zLe, zLt, zGt, zGe, zNe_ii, zEq_ii, zIsN, zNotN, zIn, zNotIn, zSub, zMod, zFdiv, zPow, zMul, zAdd, zNeg, zI2, zI2C, zLen, zIsi, zTuple, zTupleF, zList, zAbs, zInt1, zDivmod, zMin2, zSet, zGet, zSl, zSlV, zPart, zNoPart, zTix, zBM, zAppend, isL, tyName, kit_tt, kit_ii, kit_ib, sqR, lsR, lsM, dkM, dtM, dLook, Z.keyOf, frS, ziSeq, ziEnum, ziR1, ziR2, ziR3, zFor, zLC, zDC, zYes, zwipe, zDisp, zPairs, zmerge, zSortR3, zSortedI, zSortedDI, zDictOf, List.getElem?_cons_zero, List.getElem?_cons_succ, List.set_cons_zero, List.set_cons_succ, List.length_cons, List.length_nil, List.map_cons, List.map_nil, List.length_map, Bool.not_true, Bool.not_false, decide_true, decide_false]
        have hj := (List.getElem?_eq_some_iff.mp e3).1
        have g := (gain_same V kk hv M.length ((j : Nat) : Int) (by omega) (by omega) (by omega)).2 hk
        have g2 : p2 = (0, 1) := by
          unfold gP at g
          rw [Int.toNat_natCast, List.getD_eq_getElem?_getD, e3] at g
          exact g
        subst g2
        have dp1 : DP 1 (D.tup [.int 0, .int 1]) (.tuple [.int 0, .int 1]) := .tup (.cons (.int _) (.cons (.int _) .nil))
        exact ⟨by omega, zNe_same (k := 1) dp1 dp1 (by omega) y⟩
    · rw [show (enumL 0 (gainL M W v)).filter (fun _ => false) = [] from List.filter_eq_nil_iff.mpr fun _ _ => Bool.false_ne_true]
      simp only [zSeq, zAsg, zRet, zRetN, zIfS, zNext, zDrop, zBreak, zCont, zVar, zC, zOp, zUn, zName, zgTup, zgCons, zgNil, zgSub, zAug, zAugS, zPar, zPar3, zAndV, zOrV, zNotV, zTest, zTestE, zAnd, zOr, zNot, zIf, zCh, zCB, zCall, zCKw, zCons, zNil, zTup, zLst, newL, newDK, zIx, zLe, zLt, zGt, zGe, zNe_ii, zEq_ii, zIsN, zNotN, zIn, zNotIn, zSub, zMod, zFdiv, zPow, zMul, zAdd, zNeg, zI2, zI2C, zLen, zIsi, zTuple, zTupleF, zList, zAbs, zInt1, zDivmod, zMin2, zSet, zGet, zSl, zSlV, zPart, zNoPart, zTix, zBM, zAppend, isL, tyName, kit_tt, kit_ii, kit_ib, sqR, lsR, lsM, dkM, dtM, dLook, Z.keyOf, frS, ziSeq, ziEnum, ziR1, ziR2, ziR3, zFor, zLC, zDC, zYes, zwipe, zDisp, zPairs, zmerge, zSortR3, zSortedI, zSortedDI, zDictOf, List.getElem?_cons_zero, List.getElem?_cons_succ, List.set_cons_zero, List.set_cons_succ, List.length_cons, List.length_nil, List.map_cons, List.map_nil, List.length_map, Bool.not_true, Bool.not_false, decide_true, decide_false, List.append_nil]
      refine ⟨by omega, zNe_nil (k := 3) (DP.lst .nil) (by omega) ?_⟩
      exact q _ rfl
/-- the carries of both nets -/
theorem law_mid (V : Valid M W I) (kk : KOk W M.length K) (h0 : 0 ≤ v) (h1 : v < (M.length : Int)) (hv : v ∈ K) (hS : Phs S M) (hT : Tks T M.length I) {s0 s1 s2 s9 s10 s11 s12 s13 s14 : Option D} {hp0 : AH}
    (q : ∀ t : List (Option D), t.length = 13 → E.nx (s0 :: s1 :: t) hp0) : tl6_law E [s0, s1, s2, some (netD M W I), some (.int v), some (.tf (K.map D.int)), some (netD (trimM M K) (trimW W K) (trimI I K)), some (dI S), some (dI T), s9, s10, s11, s12, s13, s14] hp0 := by
  have hsl := sizeLine_eq
  have hn := V.n2
  have hl := kk.len
  have hne : K ≠ [] := fun z => by rw [z] at hv; cases hv
  have V2 := valid_trim V kk hne
  have hML : (trimM M K).length = K.length := by unfold trimM; rw [List.length_map]
  have hi : K.idxOf v < K.length := List.idxOf_lt_length_iff.mpr hv
  unfold tl6_law
  simp only [zSeq, zAsg, zRet, zRetN, zIfS, zNext, zDrop, zBreak, zCont, zVar, zC, zOp, zUn, zName, zgTup, zgCons, zgNil, zgSub, zAug, zAugS, zPar, zPar3, zAndV, zOrV, zNotV, zTest, zTestE, zAnd, zOr, zNot, zIf, zCh, zCB, zCall, zCKw, zCons, zNil, zTup, zLst, newL, newDK, zIx, zLe, zLt, zGt, zGe, zNe_ii, zEq_ii, zIsN, zNotN, zIn, zNotIn, zSub, zMod, zFdiv, zPow, zMul, zAdd, zNeg, zI2, zI2C, zLen, zIsi, zTuple, zTupleF, zList, zAbs, zInt1, zDivmod, zMin2, zSet, zGet, zSl, zSlV, zPart, zNoPart, zTix, zBM, zAppend, isL, tyName, kit_tt, kit_ii, kit_ib, sqR, lsR, lsM, dkM, dtM, dLook, Z.keyOf, frS, ziSeq, ziEnum, ziR1, ziR2, ziR3, zFor, zLC, zDC, zYes, zwipe, zDisp, zPairs, zmerge, zSortR3, zSortedI, zSortedDI, zDictOf, List.getElem?_cons_zero, List.getElem?_cons_succ, List.set_cons_zero, List.set_cons_succ, List.length_cons, List.length_nil, List.map_cons, List.map_nil, List.length_map, Bool.not_true, Bool.not_false, decide_true, decide_false]
  refine ⟨by omega, ?_⟩
  have e0 : [dI S, dI T] = [S, T].map dI := rfl
  rw [e0]
  refine lclA dI (fun R => dI (pick K R)) _ [S, T] (fun R hR K' y => ?_) (by simp; omega) ?_
  · have hRl : R.length = M.length := by
      rcases List.mem_cons.mp hR with z | z
      · rw [z]; exact hS.1
      · rw [List.mem_singleton.mp z]; exact hT.1
    simp only [zSeq, zAsg, zRet, zRetN, zIfS, zNext, zDrop, zBreak, zCont, zVar, zC, zOp, zUn, zName, zgTup, zgCons, zgNil, zgSub, zAug, zAugS, zPar, zPar3, zAndV, zOrV, zNotV, zTest, zTestE, zAnd, zOr, zNot, zIf, zCh, zCB, zCall, zCKw, zCons, zNil, zTup, zLst, newL, newDK, zIx, zLe, zLt, zGt, zGe, zNe_ii, zEq_ii, zIsN, zNotN, zIn, zNotIn, zSub, zMod, zFdiv, zPow, zMul, zAdd, zNeg, zI2, zI2C, zLen, zIsi, zTuple, zTupleF, zList, zAbs, zInt1, zDivmod, zMin2, zSet, zGet, zSl, zSlV, zPart, zNoPart, zTix, zBM, zAppend, isL, tyName, kit_tt, kit_ii, kit_ib, sqR, lsR, lsM, dkM, dtM, dLook, Z.keyOf, frS, ziSeq, ziEnum, ziR1, ziR2, ziR3, zFor, zLC, zDC, zYes, zwipe, zDisp, zPairs, zmerge, zSortR3, zSortedI, zSortedDI, zDictOf, List.getElem?_cons_zero, List.getElem?_cons_succ, List.set_cons_zero, List.set_cons_succ, List.length_cons, List.length_nil, List.map_cons, List.map_nil, List.length_map, Bool.not_true, Bool.not_false, decide_true, decide_false, cg2_law, ce2_law]
    refine lclA D.int (fun x => .int (R.getD x.toNat 0)) _ K (fun x hx K'' y2 => ?_) (by omega) ?_
    · have hr := kk.rng x hx
      unfold dI
      simp only [zSeq, zAsg, zRet, zRetN, zIfS, zNext, zDrop, zBreak, zCont, zVar, zC, zOp, zUn, zName, zgTup, zgCons, zgNil, zgSub, zAug, zAugS, zPar, zPar3, zAndV, zOrV, zNotV, zTest, zTestE, zAnd, zOr, zNot, zIf, zCh, zCB, zCall, zCKw, zCons, zNil, zTup, zLst, newL, newDK, zIx, zLe, zLt, zGt, zGe, zNe_ii, zEq_ii, zIsN, zNotN, zIn, zNotIn, zSub, zMod, zFdiv, zPow, zMul, zAdd, zNeg, zI2, zI2C, zLen, zIsi, zTuple, zTupleF, zList, zAbs, zInt1, zDivmod, zMin2, zSet, zGet, zSl, zSlV, zPart, zNoPart, zTix, zBM, zAppend, isL, tyName, kit_tt, kit_ii, kit_ib, sqR, lsR, lsM, dkM, dtM, dLook, Z.keyOf, frS, ziSeq, ziEnum, ziR1, ziR2, ziR3, zFor, zLC, zDC, zYes, zwipe, zDisp, zPairs, zmerge, zSortR3, zSortedI, zSortedDI, zDictOf, List.getElem?_cons_zero, List.getElem?_cons_succ, List.set_cons_zero, List.set_cons_succ, List.length_cons, List.length_nil, List.map_cons, List.map_nil, List.length_map, Bool.not_true, Bool.not_false, decide_true, decide_false, cg1_law, ce1_law]
      rw [atZ hr.1 (map_get (getD_of (xs := R) (k := x.toNat) (by omega)))]
      exact y2
    · have e1 : K.map (fun x => D.int (R.getD x.toNat 0)) = (pick K R).map D.int := by
        unfold pick
        rw [List.map_map]; rfl
      simp only [zSeq, zAsg, zRet, zRetN, zIfS, zNext, zDrop, zBreak, zCont, zVar, zC, zOp, zUn, zName, zgTup, zgCons, zgNil, zgSub, zAug, zAugS, zPar, zPar3, zAndV, zOrV, zNotV, zTest, zTestE, zAnd, zOr, zNot, zIf, zCh, zCB, zCall, zCKw, zCons, zNil, zTup, zLst, newL, newDK, zIx, zLe, zLt, zGt, zGe, zNe_ii, zEq_ii, zIsN, zNotN, zIn, zNotIn, zSub, zMod, zFdiv, zPow, zMul, zAdd, zNeg, zI2, zI2C, zLen, zIsi, zTuple, zTupleF, zList, zAbs, zInt1, zDivmod, zMin2, zSet, zGet, zSl, zSlV, zPart, zNoPart, zTix, zBM, zAppend, isL, tyName, kit_tt, kit_ii, kit_ib, sqR, lsR, lsM, dkM, dtM, dLook, Z.keyOf, frS, ziSeq, ziEnum, ziR1, ziR2, ziR3, zFor, zLC, zDC, zYes, zwipe, zDisp, zPairs, zmerge, zSortR3, zSortedI, zSortedDI, zDictOf, List.getElem?_cons_zero, List.getElem?_cons_succ, List.set_cons_zero, List.set_cons_succ, List.length_cons, List.length_nil, List.map_cons, List.map_nil, List.length_map, Bool.not_true, Bool.not_false, decide_true, decide_false, e1]
      exact y
  · simp only [zSeq, zAsg, zRet, zRetN, zIfS, zNext, zDrop, zBreak, zCont, zVar, zC, zOp, zUn, zName, zgTup, zgCons, zgNil, zgSub, zAug, zAugS, zPar, zPar3, zAndV, zOrV, zNotV, zTest, zTestE, zAnd, zOr, zNot, zIf, zCh, zCB, zCall, zCKw, zCons, zNil, zTup, zLst, newL, newDK, zIx, zLe, zLt, zGt, zGe, zNe_ii, zEq_ii, zIsN, zNotN, zIn, zNotIn, zSub, zMod, zFdiv, zPow, zMul, zAdd, zNeg, zI2, zI2C, zLen, zIsi, zTuple, zTupleF, zList, zAbs, zInt1, zDivmod, zMin2, zSet, zGet, zSl, zSlV, zPart, zNoPart, zTix, zBM, zAppend, isL, tyName, kit_tt, kit_ii, kit_ib, sqR, lsR, lsM, dkM, dtM, dLook, Z.keyOf, frS, ziSeq, ziEnum, ziR1, ziR2, ziR3, zFor, zLC, zDC, zYes, zwipe, zDisp, zPairs, zmerge, zSortR3, zSortedI, zSortedDI, zDictOf, List.getElem?_cons_zero, List.getElem?_cons_succ, List.set_cons_zero, List.set_cons_succ, List.length_cons, List.length_nil, List.map_cons, List.map_nil, List.length_map, Bool.not_true, Bool.not_false, decide_true, decide_false]
    unfold tl5_law
    simp only [zSeq, zAsg, zRet, zRetN, zIfS, zNext, zDrop, zBreak, zCont, zVar, zC, zOp, zUn, zName, zgTup, zgCons, zgNil, zgSub, zAug, zAugS, zPar, zPar3, zAndV, zOrV, zNotV, zTest, zTestE, zAnd, zOr, zNot, zIf, zCh, zCB, zCall, zCKw, zCons, zNil, zTup, zLst, newL, newDK, zIx, zLe, zLt, zGt, zGe, zNe_ii, zEq_ii, zIsN, zNotN, zIn, zNotIn, zSub, zMod, zFdiv, zPow, zMul, zAdd, zNeg, zI2, zI2C, zLen, zIsi, zTuple, zTupleF, zList, zAbs, zInt1, zDivmod, zMin2, zSet, zGet, zSl, zSlV, zPart, zNoPart, zTix, zBM, zAppend, isL, tyName, kit_tt, kit_ii, kit_ib, sqR, lsR, lsM, dkM, dtM, dLook, Z.keyOf, frS, ziSeq, ziEnum, ziR1, ziR2, ziR3, zFor, zLC, zDC, zYes, zwipe, zDisp, zPairs, zmerge, zSortR3, zSortedI, zSortedDI, zDictOf, List.getElem?_cons_zero, List.getElem?_cons_succ, List.set_cons_zero, List.set_cons_succ, List.length_cons, List.length_nil, List.map_cons, List.map_nil, List.length_map, Bool.not_true, Bool.not_false, decide_true, decide_false]
    refine ⟨M, W, I, S, T, rfl, V, hS.1, hT.1, ?_⟩
    have F := flow_ok (S := S) V.wk hT.1
    have F2 := flow_ok (M := trimM M K) (S := pick K S) V2.wk (show (pick K T).length = _ by unfold pick; rw [List.length_map, hML])
    have ec := carry_same (S := S) V kk hT.1 (v.toNat + 1) v hv (by omega)
    have f1 := F.len
    have f2 := F2.len
    unfold dI
    simp only [zSeq, zAsg, zRet, zRetN, zIfS, zNext, zDrop, zBreak, zCont, zVar, zC, zOp, zUn, zName, zgTup, zgCons, zgNil, zgSub, zAug, zAugS, zPar, zPar3, zAndV, zOrV, zNotV, zTest, zTestE, zAnd, zOr, zNot, zIf, zCh, zCB, zCall, zCKw, zCons, zNil, zTup, zLst, newL, newDK, zIx, zLe, zLt, zGt, zGe, zNe_ii, zEq_ii, zIsN, zNotN, zIn, zNotIn, zSub, zMod, zFdiv, zPow, zMul, zAdd, zNeg, zI2, zI2C, zLen, zIsi, zTuple, zTupleF, zList, zAbs, zInt1, zDivmod, zMin2, zSet, zGet, zSl, zSlV, zPart, zNoPart, zTix, zBM, zAppend, isL, tyName, kit_tt, kit_ii, kit_ib, sqR, lsR, lsM, dkM, dtM, dLook, Z.keyOf, frS, ziSeq, ziEnum, ziR1, ziR2, ziR3, zFor, zLC, zDC, zYes, zwipe, zDisp, zPairs, zmerge, zSortR3, zSortedI, zSortedDI, zDictOf, List.getElem?_cons_zero, List.getElem?_cons_succ, List.set_cons_zero, List.set_cons_succ, List.length_cons, List.length_nil, List.map_cons, List.map_nil, List.length_map, Bool.not_true, Bool.not_false, decide_true, decide_false, at21]
    rw [atZ h0 (map_get (getD_of (xs := (flowG S W M 0 T [] []).2.1) (k := v.toNat) (by omega)))]
    simp only [zSeq, zAsg, zRet, zRetN, zIfS, zNext, zDrop, zBreak, zCont, zVar, zC, zOp, zUn, zName, zgTup, zgCons, zgNil, zgSub, zAug, zAugS, zPar, zPar3, zAndV, zOrV, zNotV, zTest, zTestE, zAnd, zOr, zNot, zIf, zCh, zCB, zCall, zCKw, zCons, zNil, zTup, zLst, newL, newDK, zIx, zLe, zLt, zGt, zGe, zNe_ii, zEq_ii, zIsN, zNotN, zIn, zNotIn, zSub, zMod, zFdiv, zPow, zMul, zAdd, zNeg, zI2, zI2C, zLen, zIsi, zTuple, zTupleF, zList, zAbs, zInt1, zDivmod, zMin2, zSet, zGet, zSl, zSlV, zPart, zNoPart, zTix, zBM, zAppend, isL, tyName, kit_tt, kit_ii, kit_ib, sqR, lsR, lsM, dkM, dtM, dLook, Z.keyOf, frS, ziSeq, ziEnum, ziR1, ziR2, ziR3, zFor, zLC, zDC, zYes, zwipe, zDisp, zPairs, zmerge, zSortR3, zSortedI, zSortedDI, zDictOf, List.getElem?_cons_zero, List.getElem?_cons_succ, List.set_cons_zero, List.set_cons_succ, List.length_cons, List.length_nil, List.map_cons, List.map_nil, List.length_map, Bool.not_true, Bool.not_false, decide_true, decide_false]
    unfold tl4_law
    simp only [zSeq, zAsg, zRet, zRetN, zIfS, zNext, zDrop, zBreak, zCont, zVar, zC, zOp, zUn, zName, zgTup, zgCons, zgNil, zgSub, zAug, zAugS, zPar, zPar3, zAndV, zOrV, zNotV, zTest, zTestE, zAnd, zOr, zNot, zIf, zCh, zCB, zCall, zCKw, zCons, zNil, zTup, zLst, newL, newDK, zIx, zLe, zLt, zGt, zGe, zNe_ii, zEq_ii, zIsN, zNotN, zIn, zNotIn, zSub, zMod, zFdiv, zPow, zMul, zAdd, zNeg, zI2, zI2C, zLen, zIsi, zTuple, zTupleF, zList, zAbs, zInt1, zDivmod, zMin2, zSet, zGet, zSl, zSlV, zPart, zNoPart, zTix, zBM, zAppend, isL, tyName, kit_tt, kit_ii, kit_ib, sqR, lsR, lsM, dkM, dtM, dLook, Z.keyOf, frS, ziSeq, ziEnum, ziR1, ziR2, ziR3, zFor, zLC, zDC, zYes, zwipe, zDisp, zPairs, zmerge, zSortR3, zSortedI, zSortedDI, zDictOf, List.getElem?_cons_zero, List.getElem?_cons_succ, List.set_cons_zero, List.set_cons_succ, List.length_cons, List.length_nil, List.map_cons, List.map_nil, List.length_map, Bool.not_true, Bool.not_false, decide_true, decide_false]
    refine ⟨M, W, I, S, T, rfl, V, hS, hT, ?_⟩
    unfold dI
    simp only [zSeq, zAsg, zRet, zRetN, zIfS, zNext, zDrop, zBreak, zCont, zVar, zC, zOp, zUn, zName, zgTup, zgCons, zgNil, zgSub, zAug, zAugS, zPar, zPar3, zAndV, zOrV, zNotV, zTest, zTestE, zAnd, zOr, zNot, zIf, zCh, zCB, zCall, zCKw, zCons, zNil, zTup, zLst, newL, newDK, zIx, zLe, zLt, zGt, zGe, zNe_ii, zEq_ii, zIsN, zNotN, zIn, zNotIn, zSub, zMod, zFdiv, zPow, zMul, zAdd, zNeg, zI2, zI2C, zLen, zIsi, zTuple, zTupleF, zList, zAbs, zInt1, zDivmod, zMin2, zSet, zGet, zSl, zSlV, zPart, zNoPart, zTix, zBM, zAppend, isL, tyName, kit_tt, kit_ii, kit_ib, sqR, lsR, lsM, dkM, dtM, dLook, Z.keyOf, frS, ziSeq, ziEnum, ziR1, ziR2, ziR3, zFor, zLC, zDC, zYes, zwipe, zDisp, zPairs, zmerge, zSortR3, zSortedI, zSortedDI, zDictOf, List.getElem?_cons_zero, List.getElem?_cons_succ, List.set_cons_zero, List.set_cons_succ, List.length_cons, List.length_nil, List.map_cons, List.map_nil, List.length_map, Bool.not_true, Bool.not_false, decide_true, decide_false]
    rw [atZ h0 (map_get (getD_of (xs := (flowG S W M 0 T [] []).2.1) (k := v.toNat) (by omega)))]
    simp only [zSeq, zAsg, zRet, zRetN, zIfS, zNext, zDrop, zBreak, zCont, zVar, zC, zOp, zUn, zName, zgTup, zgCons, zgNil, zgSub, zAug, zAugS, zPar, zPar3, zAndV, zOrV, zNotV, zTest, zTestE, zAnd, zOr, zNot, zIf, zCh, zCB, zCall, zCKw, zCons, zNil, zTup, zLst, newL, newDK, zIx, zLe, zLt, zGt, zGe, zNe_ii, zEq_ii, zIsN, zNotN, zIn, zNotIn, zSub, zMod, zFdiv, zPow, zMul, zAdd, zNeg, zI2, zI2C, zLen, zIsi, zTuple, zTupleF, zList, zAbs, zInt1, zDivmod, zMin2, zSet, zGet, zSl, zSlV, zPart, zNoPart, zTix, zBM, zAppend, isL, tyName, kit_tt, kit_ii, kit_ib, sqR, lsR, lsM, dkM, dtM, dLook, Z.keyOf, frS, ziSeq, ziEnum, ziR1, ziR2, ziR3, zFor, zLC, zDC, zYes, zwipe, zDisp, zPairs, zmerge, zSortR3, zSortedI, zSortedDI, zDictOf, List.getElem?_cons_zero, List.getElem?_cons_succ, List.set_cons_zero, List.set_cons_succ, List.length_cons, List.length_nil, List.map_cons, List.map_nil, List.length_map, Bool.not_true, Bool.not_false, decide_true, decide_false, at20, at21]
    refine ⟨_, _, _, pick K S, pick K T, rfl, V2, phs_pick kk hS, tks_pick kk hT, ?_⟩
    simp only [zSeq, zAsg, zRet, zRetN, zIfS, zNext, zDrop, zBreak, zCont, zVar, zC, zOp, zUn, zName, zgTup, zgCons, zgNil, zgSub, zAug, zAugS, zPar, zPar3, zAndV, zOrV, zNotV, zTest, zTestE, zAnd, zOr, zNot, zIf, zCh, zCB, zCall, zCKw, zCons, zNil, zTup, zLst, newL, newDK, zIx, zLe, zLt, zGt, zGe, zNe_ii, zEq_ii, zIsN, zNotN, zIn, zNotIn, zSub, zMod, zFdiv, zPow, zMul, zAdd, zNeg, zI2, zI2C, zLen, zIsi, zTuple, zTupleF, zList, zAbs, zInt1, zDivmod, zMin2, zSet, zGet, zSl, zSlV, zPart, zNoPart, zTix, zBM, zAppend, isL, tyName, kit_tt, kit_ii, kit_ib, sqR, lsR, lsM, dkM, dtM, dLook, Z.keyOf, frS, ziSeq, ziEnum, ziR1, ziR2, ziR3, zFor, zLC, zDC, zYes, zwipe, zDisp, zPairs, zmerge, zSortR3, zSortedI, zSortedDI, zDictOf, List.getElem?_cons_zero, List.getElem?_cons_succ, List.set_cons_zero, List.set_cons_succ, List.length_cons, List.length_nil, List.map_cons, List.map_nil, List.length_map, Bool.not_true, Bool.not_false, decide_true, decide_false, dints_ints]
    refine ⟨hv, ?_⟩
    unfold dI
    simp only [zSeq, zAsg, zRet, zRetN, zIfS, zNext, zDrop, zBreak, zCont, zVar, zC, zOp, zUn, zName, zgTup, zgCons, zgNil, zgSub, zAug, zAugS, zPar, zPar3, zAndV, zOrV, zNotV, zTest, zTestE, zAnd, zOr, zNot, zIf, zCh, zCB, zCall, zCKw, zCons, zNil, zTup, zLst, newL, newDK, zIx, zLe, zLt, zGt, zGe, zNe_ii, zEq_ii, zIsN, zNotN, zIn, zNotIn, zSub, zMod, zFdiv, zPow, zMul, zAdd, zNeg, zI2, zI2C, zLen, zIsi, zTuple, zTupleF, zList, zAbs, zInt1, zDivmod, zMin2, zSet, zGet, zSl, zSlV, zPart, zNoPart, zTix, zBM, zAppend, isL, tyName, kit_tt, kit_ii, kit_ib, sqR, lsR, lsM, dkM, dtM, dLook, Z.keyOf, frS, ziSeq, ziEnum, ziR1, ziR2, ziR3, zFor, zLC, zDC, zYes, zwipe, zDisp, zPairs, zmerge, zSortR3, zSortedI, zSortedDI, zDictOf, List.getElem?_cons_zero, List.getElem?_cons_succ, List.set_cons_zero, List.set_cons_succ, List.length_cons, List.length_nil, List.map_cons, List.map_nil, List.length_map, Bool.not_true, Bool.not_false, decide_true, decide_false]
    rw [atN (map_get (getD_of (xs := (flowG (pick K S) (trimW W K) (trimM M K) 0 (pick K T) [] []).2.1) (k := K.idxOf v) (by omega)))]
    simp only [zSeq, zAsg, zRet, zRetN, zIfS, zNext, zDrop, zBreak, zCont, zVar, zC, zOp, zUn, zName, zgTup, zgCons, zgNil, zgSub, zAug, zAugS, zPar, zPar3, zAndV, zOrV, zNotV, zTest, zTestE, zAnd, zOr, zNot, zIf, zCh, zCB, zCall, zCKw, zCons, zNil, zTup, zLst, newL, newDK, zIx, zLe, zLt, zGt, zGe, zNe_ii, zEq_ii, zIsN, zNotN, zIn, zNotIn, zSub, zMod, zFdiv, zPow, zMul, zAdd, zNeg, zI2, zI2C, zLen, zIsi, zTuple, zTupleF, zList, zAbs, zInt1, zDivmod, zMin2, zSet, zGet, zSl, zSlV, zPart, zNoPart, zTix, zBM, zAppend, isL, tyName, kit_tt, kit_ii, kit_ib, sqR, lsR, lsM, dkM, dtM, dLook, Z.keyOf, frS, ziSeq, ziEnum, ziR1, ziR2, ziR3, zFor, zLC, zDC, zYes, zwipe, zDisp, zPairs, zmerge, zSortR3, zSortedI, zSortedDI, zDictOf, List.getElem?_cons_zero, List.getElem?_cons_succ, List.set_cons_zero, List.set_cons_succ, List.length_cons, List.length_nil, List.map_cons, List.map_nil, List.length_map, Bool.not_true, Bool.not_false, decide_true, decide_false, ec]
    exact law_end V kk h0 h1 hv q
end
end Z54
namespace Z54
open PySem PySem.Spec PyProof.Rows L2 Z
theorem law_body {E : ZEnds} {h : AH} {ns : List Int} {a : Nat} {c : Cl} (hd : DrC ns a c) (ha : a + 2000 < 2 ^ 60) {s0 x2 x3 x4 x5 x6 x7 x8 x9 x10 x11 x12 x13 x14 : Option D}
    (q : ∀ (c' : Cl) (t : List (Option D)), t.length = 13 → DrC ns (a + 2000) c' → E.nx (s0 :: some (.obj h.length) :: t) (h ++ [c'])) :
    lb1_law E [s0, some (.obj h.length), x2, x3, x4, x5, x6, x7, x8, x9, x10, x11, x12, x13, x14] (h ++ [c]) := by
  have hsl := sizeLine_eq
  have hg : ∀ c : Cl, (h ++ [c])[h.length]? = some c := fun c => tail_get0 h [c]
  have hs : ∀ c c' : Cl, (h ++ [c]).set h.length c' = h ++ [c'] := fun c c' => tail_set0 h [c] c'
  unfold lb1_law
  simp only [zSeq, zAsg, zRet, zRetN, zIfS, zNext, zDrop, zBreak, zCont, zVar, zC, zOp, zUn, zName, zgTup, zgCons, zgNil, zgSub, zAug, zAugS, zPar, zPar3, zAndV, zOrV, zNotV, zTest, zTestE, zAnd, zOr, zNot, zIf, zCh, zCB, zCall, zCKw, zCons, zNil, zTup, zLst, newL, newDK, zIx, zLe, zLt, zGt, zGe, zNe_ii, zEq_ii, zIsN, zNotN, zIn, zNotIn, zSub, zMod, zFdiv, zPow, zMul, zAdd, zNeg, zI2, zI2C, zLen, zIsi, zTuple, zTupleF, zList, zAbs, zInt1, zDivmod, zMin2, zSet, zGet, zSl, zSlV, zPart, zNoPart, zTix, zBM, zAppend, isL, tyName, kit_tt, kit_ii, kit_ib, sqR, lsR, lsM, dkM, dtM, dLook, Z.keyOf, frS, ziSeq, ziEnum, ziR1, ziR2, ziR3, zFor, zLC, zDC, zYes, zwipe, zDisp, zPairs, zmerge, zSortR3, zSortedI, zSortedDI, zDictOf, List.getElem?_cons_zero, List.getElem?_cons_succ, List.set_cons_zero, List.set_cons_succ, List.length_cons, List.length_nil, List.map_cons, List.map_nil, List.length_map, Bool.not_true, Bool.not_false, decide_true, decide_false]
  refine ⟨by omega, h.length, 2, ns, a, c, rfl, hg _, hd, by omega, by omega, by omega, fun c1 r1 d1 p1 p2 => ?_⟩
  simp only [zSeq, zAsg, zRet, zRetN, zIfS, zNext, zDrop, zBreak, zCont, zVar, zC, zOp, zUn, zName, zgTup, zgCons, zgNil, zgSub, zAug, zAugS, zPar, zPar3, zAndV, zOrV, zNotV, zTest, zTestE, zAnd, zOr, zNot, zIf, zCh, zCB, zCall, zCKw, zCons, zNil, zTup, zLst, newL, newDK, zIx, zLe, zLt, zGt, zGe, zNe_ii, zEq_ii, zIsN, zNotN, zIn, zNotIn, zSub, zMod, zFdiv, zPow, zMul, zAdd, zNeg, zI2, zI2C, zLen, zIsi, zTuple, zTupleF, zList, zAbs, zInt1, zDivmod, zMin2, zSet, zGet, zSl, zSlV, zPart, zNoPart, zTix, zBM, zAppend, isL, tyName, kit_tt, kit_ii, kit_ib, sqR, lsR, lsM, dkM, dtM, dLook, Z.keyOf, frS, ziSeq, ziEnum, ziR1, ziR2, ziR3, zFor, zLC, zDC, zYes, zwipe, zDisp, zPairs, zmerge, zSortR3, zSortedI, zSortedDI, zDictOf, List.getElem?_cons_zero, List.getElem?_cons_succ, List.set_cons_zero, List.set_cons_succ, List.length_cons, List.length_nil, List.map_cons, List.map_nil, List.length_map, Bool.not_true, Bool.not_false, decide_true, decide_false, hs]
  have hw : ∃ wide : Int, atI [D.int 5, D.int 999] r1 = some (.int wide) ∧ 0 < wide ∧ wide ≤ 999 := by
    rcases (show r1 = 0 ∨ r1 = 1 by omega) with rfl | rfl
    · exact ⟨5, rfl, by omega, by omega⟩
    · exact ⟨999, rfl, by omega, by omega⟩
  obtain ⟨wide, ew, w1, w2⟩ := hw
  rw [ew]
  simp only [zSeq, zAsg, zRet, zRetN, zIfS, zNext, zDrop, zBreak, zCont, zVar, zC, zOp, zUn, zName, zgTup, zgCons, zgNil, zgSub, zAug, zAugS, zPar, zPar3, zAndV, zOrV, zNotV, zTest, zTestE, zAnd, zOr, zNot, zIf, zCh, zCB, zCall, zCKw, zCons, zNil, zTup, zLst, newL, newDK, zIx, zLe, zLt, zGt, zGe, zNe_ii, zEq_ii, zIsN, zNotN, zIn, zNotIn, zSub, zMod, zFdiv, zPow, zMul, zAdd, zNeg, zI2, zI2C, zLen, zIsi, zTuple, zTupleF, zList, zAbs, zInt1, zDivmod, zMin2, zSet, zGet, zSl, zSlV, zPart, zNoPart, zTix, zBM, zAppend, isL, tyName, kit_tt, kit_ii, kit_ib, sqR, lsR, lsM, dkM, dtM, dLook, Z.keyOf, frS, ziSeq, ziEnum, ziR1, ziR2, ziR3, zFor, zLC, zDC, zYes, zwipe, zDisp, zPairs, zmerge, zSortR3, zSortedI, zSortedDI, zDictOf, List.getElem?_cons_zero, List.getElem?_cons_succ, List.set_cons_zero, List.set_cons_succ, List.length_cons, List.length_nil, List.map_cons, List.map_nil, List.length_map, Bool.not_true, Bool.not_false, decide_true, decide_false]
  refine ⟨h.length, ns, a + 1, c1, wide, rfl, hg _, d1, by omega, w1, w2, fun c2 M W I d2 V => ?_⟩
  have hn1 := V.n1
  have hn2 := V.n2
  simp only [zSeq, zAsg, zRet, zRetN, zIfS, zNext, zDrop, zBreak, zCont, zVar, zC, zOp, zUn, zName, zgTup, zgCons, zgNil, zgSub, zAug, zAugS, zPar, zPar3, zAndV, zOrV, zNotV, zTest, zTestE, zAnd, zOr, zNot, zIf, zCh, zCB, zCall, zCKw, zCons, zNil, zTup, zLst, newL, newDK, zIx, zLe, zLt, zGt, zGe, zNe_ii, zEq_ii, zIsN, zNotN, zIn, zNotIn, zSub, zMod, zFdiv, zPow, zMul, zAdd, zNeg, zI2, zI2C, zLen, zIsi, zTuple, zTupleF, zList, zAbs, zInt1, zDivmod, zMin2, zSet, zGet, zSl, zSlV, zPart, zNoPart, zTix, zBM, zAppend, isL, tyName, kit_tt, kit_ii, kit_ib, sqR, lsR, lsM, dkM, dtM, dLook, Z.keyOf, frS, ziSeq, ziEnum, ziR1, ziR2, ziR3, zFor, zLC, zDC, zYes, zwipe, zDisp, zPairs, zmerge, zSortR3, zSortedI, zSortedDI, zDictOf, List.getElem?_cons_zero, List.getElem?_cons_succ, List.set_cons_zero, List.set_cons_succ, List.length_cons, List.length_nil, List.map_cons, List.map_nil, List.length_map, Bool.not_true, Bool.not_false, decide_true, decide_false, hs]
  unfold tl11_law
  have el : ∀ hh : AH, zIx (netD M W I) (.int 0) hh = fun Q => Q (dI M) hh := fun hh => rfl
  simp only [zSeq, zAsg, zCall, zCons, zVar, zCB, zOp, zC, zNil, List.getElem?_cons_zero, List.getElem?_cons_succ, el]
  unfold dI
  simp only [zSeq, zAsg, zRet, zRetN, zIfS, zNext, zDrop, zBreak, zCont, zVar, zC, zOp, zUn, zName, zgTup, zgCons, zgNil, zgSub, zAug, zAugS, zPar, zPar3, zAndV, zOrV, zNotV, zTest, zTestE, zAnd, zOr, zNot, zIf, zCh, zCB, zCall, zCKw, zCons, zNil, zTup, zLst, newL, newDK, zIx, zLe, zLt, zGt, zGe, zNe_ii, zEq_ii, zIsN, zNotN, zIn, zNotIn, zSub, zMod, zFdiv, zPow, zMul, zAdd, zNeg, zI2, zI2C, zLen, zIsi, zTuple, zTupleF, zList, zAbs, zInt1, zDivmod, zMin2, zSet, zGet, zSl, zSlV, zPart, zNoPart, zTix, zBM, zAppend, isL, tyName, kit_tt, kit_ii, kit_ib, sqR, lsR, lsM, dkM, dtM, dLook, Z.keyOf, frS, ziSeq, ziEnum, ziR1, ziR2, ziR3, zFor, zLC, zDC, zYes, zwipe, zDisp, zPairs, zmerge, zSortR3, zSortedI, zSortedDI, zDictOf, List.getElem?_cons_zero, List.getElem?_cons_succ, List.set_cons_zero, List.set_cons_succ, List.length_cons, List.length_nil, List.map_cons, List.map_nil, List.length_map, Bool.not_true, Bool.not_false, decide_true, decide_false]
  refine ⟨h.length, (M.length : Nat), ns, _, c2, rfl, hg _, d2, by omega, by omega, by omega, fun c3 v d3 p3 p4 => ?_⟩
  simp only [zSeq, zAsg, zRet, zRetN, zIfS, zNext, zDrop, zBreak, zCont, zVar, zC, zOp, zUn, zName, zgTup, zgCons, zgNil, zgSub, zAug, zAugS, zPar, zPar3, zAndV, zOrV, zNotV, zTest, zTestE, zAnd, zOr, zNot, zIf, zCh, zCB, zCall, zCKw, zCons, zNil, zTup, zLst, newL, newDK, zIx, zLe, zLt, zGt, zGe, zNe_ii, zEq_ii, zIsN, zNotN, zIn, zNotIn, zSub, zMod, zFdiv, zPow, zMul, zAdd, zNeg, zI2, zI2C, zLen, zIsi, zTuple, zTupleF, zList, zAbs, zInt1, zDivmod, zMin2, zSet, zGet, zSl, zSlV, zPart, zNoPart, zTix, zBM, zAppend, isL, tyName, kit_tt, kit_ii, kit_ib, sqR, lsR, lsM, dkM, dtM, dLook, Z.keyOf, frS, ziSeq, ziEnum, ziR1, ziR2, ziR3, zFor, zLC, zDC, zYes, zwipe, zDisp, zPairs, zmerge, zSortR3, zSortedI, zSortedDI, zDictOf, List.getElem?_cons_zero, List.getElem?_cons_succ, List.set_cons_zero, List.set_cons_succ, List.length_cons, List.length_nil, List.map_cons, List.map_nil, List.length_map, Bool.not_true, Bool.not_false, decide_true, decide_false, hs]
  unfold tl10_law
  simp only [zSeq, zAsg, zRet, zRetN, zIfS, zNext, zDrop, zBreak, zCont, zVar, zC, zOp, zUn, zName, zgTup, zgCons, zgNil, zgSub, zAug, zAugS, zPar, zPar3, zAndV, zOrV, zNotV, zTest, zTestE, zAnd, zOr, zNot, zIf, zCh, zCB, zCall, zCKw, zCons, zNil, zTup, zLst, newL, newDK, zIx, zLe, zLt, zGt, zGe, zNe_ii, zEq_ii, zIsN, zNotN, zIn, zNotIn, zSub, zMod, zFdiv, zPow, zMul, zAdd, zNeg, zI2, zI2C, zLen, zIsi, zTuple, zTupleF, zList, zAbs, zInt1, zDivmod, zMin2, zSet, zGet, zSl, zSlV, zPart, zNoPart, zTix, zBM, zAppend, isL, tyName, kit_tt, kit_ii, kit_ib, sqR, lsR, lsM, dkM, dtM, dLook, Z.keyOf, frS, ziSeq, ziEnum, ziR1, ziR2, ziR3, zFor, zLC, zDC, zYes, zwipe, zDisp, zPairs, zmerge, zSortR3, zSortedI, zSortedDI, zDictOf, List.getElem?_cons_zero, List.getElem?_cons_succ, List.set_cons_zero, List.set_cons_succ, List.length_cons, List.length_nil, List.map_cons, List.map_nil, List.length_map, Bool.not_true, Bool.not_false, decide_true, decide_false]
  refine ⟨M, W, I, v, rfl, V, p3, p4, ?_⟩
  have kk := kept_ok V p3 p4
  have hv : v ∈ keptL W v M.length := (relK_kept V.asc V.wk p3 p4 v).mp ((relK_iff V.asc (wlt_of V.wk).lt v).mpr .base)
  have hK : keptL W v M.length = keptL W v M.length := rfl
  have V2 := valid_trim V kk (fun z => by rw [z] at hv; cases hv)
  simp only [zSeq, zAsg, zRet, zRetN, zIfS, zNext, zDrop, zBreak, zCont, zVar, zC, zOp, zUn, zName, zgTup, zgCons, zgNil, zgSub, zAug, zAugS, zPar, zPar3, zAndV, zOrV, zNotV, zTest, zTestE, zAnd, zOr, zNot, zIf, zCh, zCB, zCall, zCKw, zCons, zNil, zTup, zLst, newL, newDK, zIx, zLe, zLt, zGt, zGe, zNe_ii, zEq_ii, zIsN, zNotN, zIn, zNotIn, zSub, zMod, zFdiv, zPow, zMul, zAdd, zNeg, zI2, zI2C, zLen, zIsi, zTuple, zTupleF, zList, zAbs, zInt1, zDivmod, zMin2, zSet, zGet, zSl, zSlV, zPart, zNoPart, zTix, zBM, zAppend, isL, tyName, kit_tt, kit_ii, kit_ib, sqR, lsR, lsM, dkM, dtM, dLook, Z.keyOf, frS, ziSeq, ziEnum, ziR1, ziR2, ziR3, zFor, zLC, zDC, zYes, zwipe, zDisp, zPairs, zmerge, zSortR3, zSortedI, zSortedDI, zDictOf, List.getElem?_cons_zero, List.getElem?_cons_succ, List.set_cons_zero, List.set_cons_succ, List.length_cons, List.length_nil, List.map_cons, List.map_nil, List.length_map, Bool.not_true, Bool.not_false, decide_true, decide_false]
  unfold tl9_law
  simp only [zSeq, zAsg, zRet, zRetN, zIfS, zNext, zDrop, zBreak, zCont, zVar, zC, zOp, zUn, zName, zgTup, zgCons, zgNil, zgSub, zAug, zAugS, zPar, zPar3, zAndV, zOrV, zNotV, zTest, zTestE, zAnd, zOr, zNot, zIf, zCh, zCB, zCall, zCKw, zCons, zNil, zTup, zLst, newL, newDK, zIx, zLe, zLt, zGt, zGe, zNe_ii, zEq_ii, zIsN, zNotN, zIn, zNotIn, zSub, zMod, zFdiv, zPow, zMul, zAdd, zNeg, zI2, zI2C, zLen, zIsi, zTuple, zTupleF, zList, zAbs, zInt1, zDivmod, zMin2, zSet, zGet, zSl, zSlV, zPart, zNoPart, zTix, zBM, zAppend, isL, tyName, kit_tt, kit_ii, kit_ib, sqR, lsR, lsM, dkM, dtM, dLook, Z.keyOf, frS, ziSeq, ziEnum, ziR1, ziR2, ziR3, zFor, zLC, zDC, zYes, zwipe, zDisp, zPairs, zmerge, zSortR3, zSortedI, zSortedDI, zDictOf, List.getElem?_cons_zero, List.getElem?_cons_succ, List.set_cons_zero, List.set_cons_succ, List.length_cons, List.length_nil, List.map_cons, List.map_nil, List.length_map, Bool.not_true, Bool.not_false, decide_true, decide_false]
  refine ⟨M, W, I, keptL W v M.length, rfl, V, kk, ?_⟩
  simp only [zSeq, zAsg, zRet, zRetN, zIfS, zNext, zDrop, zBreak, zCont, zVar, zC, zOp, zUn, zName, zgTup, zgCons, zgNil, zgSub, zAug, zAugS, zPar, zPar3, zAndV, zOrV, zNotV, zTest, zTestE, zAnd, zOr, zNot, zIf, zCh, zCB, zCall, zCKw, zCons, zNil, zTup, zLst, newL, newDK, zIx, zLe, zLt, zGt, zGe, zNe_ii, zEq_ii, zIsN, zNotN, zIn, zNotIn, zSub, zMod, zFdiv, zPow, zMul, zAdd, zNeg, zI2, zI2C, zLen, zIsi, zTuple, zTupleF, zList, zAbs, zInt1, zDivmod, zMin2, zSet, zGet, zSl, zSlV, zPart, zNoPart, zTix, zBM, zAppend, isL, tyName, kit_tt, kit_ii, kit_ib, sqR, lsR, lsM, dkM, dtM, dLook, Z.keyOf, frS, ziSeq, ziEnum, ziR1, ziR2, ziR3, zFor, zLC, zDC, zYes, zwipe, zDisp, zPairs, zmerge, zSortR3, zSortedI, zSortedDI, zDictOf, List.getElem?_cons_zero, List.getElem?_cons_succ, List.set_cons_zero, List.set_cons_succ, List.length_cons, List.length_nil, List.map_cons, List.map_nil, List.length_map, Bool.not_true, Bool.not_false, decide_true, decide_false]
  unfold tl8_law
  simp only [zSeq, zAsg, zRet, zRetN, zIfS, zNext, zDrop, zBreak, zCont, zVar, zC, zOp, zUn, zName, zgTup, zgCons, zgNil, zgSub, zAug, zAugS, zPar, zPar3, zAndV, zOrV, zNotV, zTest, zTestE, zAnd, zOr, zNot, zIf, zCh, zCB, zCall, zCKw, zCons, zNil, zTup, zLst, newL, newDK, zIx, zLe, zLt, zGt, zGe, zNe_ii, zEq_ii, zIsN, zNotN, zIn, zNotIn, zSub, zMod, zFdiv, zPow, zMul, zAdd, zNeg, zI2, zI2C, zLen, zIsi, zTuple, zTupleF, zList, zAbs, zInt1, zDivmod, zMin2, zSet, zGet, zSl, zSlV, zPart, zNoPart, zTix, zBM, zAppend, isL, tyName, kit_tt, kit_ii, kit_ib, sqR, lsR, lsM, dkM, dtM, dLook, Z.keyOf, frS, ziSeq, ziEnum, ziR1, ziR2, ziR3, zFor, zLC, zDC, zYes, zwipe, zDisp, zPairs, zmerge, zSortR3, zSortedI, zSortedDI, zDictOf, List.getElem?_cons_zero, List.getElem?_cons_succ, List.set_cons_zero, List.set_cons_succ, List.length_cons, List.length_nil, List.map_cons, List.map_nil, List.length_map, Bool.not_true, Bool.not_false, decide_true, decide_false]
  refine ⟨M, W, I, v, rfl, V, p3, p4, ?_⟩
  refine zNe_same (k := 1) (DP.tf (.ints _)) (DP.tf (.ints _)) (by omega) ?_
  simp only [zSeq, zAsg, zRet, zRetN, zIfS, zNext, zDrop, zBreak, zCont, zVar, zC, zOp, zUn, zName, zgTup, zgCons, zgNil, zgSub, zAug, zAugS, zPar, zPar3, zAndV, zOrV, zNotV, zTest, zTestE, zAnd, zOr, zNot, zIf, zCh, zCB, zCall, zCKw, zCons, zNil, zTup, zLst, newL, newDK, zIx, zLe, zLt, zGt, zGe, zNe_ii, zEq_ii, zIsN, zNotN, zIn, zNotIn, zSub, zMod, zFdiv, zPow, zMul, zAdd, zNeg, zI2, zI2C, zLen, zIsi, zTuple, zTupleF, zList, zAbs, zInt1, zDivmod, zMin2, zSet, zGet, zSl, zSlV, zPart, zNoPart, zTix, zBM, zAppend, isL, tyName, kit_tt, kit_ii, kit_ib, sqR, lsR, lsM, dkM, dtM, dLook, Z.keyOf, frS, ziSeq, ziEnum, ziR1, ziR2, ziR3, zFor, zLC, zDC, zYes, zwipe, zDisp, zPairs, zmerge, zSortR3, zSortedI, zSortedDI, zDictOf, List.getElem?_cons_zero, List.getElem?_cons_succ, List.set_cons_zero, List.set_cons_succ, List.length_cons, List.length_nil, List.map_cons, List.map_nil, List.length_map, Bool.not_true, Bool.not_false, decide_true, decide_false]
  refine ⟨M, W, I, v, rfl, V, p3, p4, by omega, ?_⟩
  refine zNe_same (k := 4) (DP.tup (.cons (dp_net _ _ _) (.cons (DP.tf (.ints _)) .nil))) (DP.tup (.cons (dp_net _ _ _) (.cons (DP.tf (.ints _)) .nil))) (by omega) ?_
  simp only [zSeq, zAsg, zRet, zRetN, zIfS, zNext, zDrop, zBreak, zCont, zVar, zC, zOp, zUn, zName, zgTup, zgCons, zgNil, zgSub, zAug, zAugS, zPar, zPar3, zAndV, zOrV, zNotV, zTest, zTestE, zAnd, zOr, zNot, zIf, zCh, zCB, zCall, zCKw, zCons, zNil, zTup, zLst, newL, newDK, zIx, zLe, zLt, zGt, zGe, zNe_ii, zEq_ii, zIsN, zNotN, zIn, zNotIn, zSub, zMod, zFdiv, zPow, zMul, zAdd, zNeg, zI2, zI2C, zLen, zIsi, zTuple, zTupleF, zList, zAbs, zInt1, zDivmod, zMin2, zSet, zGet, zSl, zSlV, zPart, zNoPart, zTix, zBM, zAppend, isL, tyName, kit_tt, kit_ii, kit_ib, sqR, lsR, lsM, dkM, dtM, dLook, Z.keyOf, frS, ziSeq, ziEnum, ziR1, ziR2, ziR3, zFor, zLC, zDC, zYes, zwipe, zDisp, zPairs, zmerge, zSortR3, zSortedI, zSortedDI, zDictOf, List.getElem?_cons_zero, List.getElem?_cons_succ, List.set_cons_zero, List.set_cons_succ, List.length_cons, List.length_nil, List.map_cons, List.map_nil, List.length_map, Bool.not_true, Bool.not_false, decide_true, decide_false]
  refine ⟨_, _, _, rfl, V2, ?_⟩
  simp only [zSeq, zAsg, zRet, zRetN, zIfS, zNext, zDrop, zBreak, zCont, zVar, zC, zOp, zUn, zName, zgTup, zgCons, zgNil, zgSub, zAug, zAugS, zPar, zPar3, zAndV, zOrV, zNotV, zTest, zTestE, zAnd, zOr, zNot, zIf, zCh, zCB, zCall, zCKw, zCons, zNil, zTup, zLst, newL, newDK, zIx, zLe, zLt, zGt, zGe, zNe_ii, zEq_ii, zIsN, zNotN, zIn, zNotIn, zSub, zMod, zFdiv, zPow, zMul, zAdd, zNeg, zI2, zI2C, zLen, zIsi, zTuple, zTupleF, zList, zAbs, zInt1, zDivmod, zMin2, zSet, zGet, zSl, zSlV, zPart, zNoPart, zTix, zBM, zAppend, isL, tyName, kit_tt, kit_ii, kit_ib, sqR, lsR, lsM, dkM, dtM, dLook, Z.keyOf, frS, ziSeq, ziEnum, ziR1, ziR2, ziR3, zFor, zLC, zDC, zYes, zwipe, zDisp, zPairs, zmerge, zSortR3, zSortedI, zSortedDI, zDictOf, List.getElem?_cons_zero, List.getElem?_cons_succ, List.set_cons_zero, List.set_cons_succ, List.length_cons, List.length_nil, List.map_cons, List.map_nil, List.length_map, Bool.not_true, Bool.not_false, decide_true, decide_false]
  unfold tl7_law
  simp only [zSeq, zAsg, zRet, zRetN, zIfS, zNext, zDrop, zBreak, zCont, zVar, zC, zOp, zUn, zName, zgTup, zgCons, zgNil, zgSub, zAug, zAugS, zPar, zPar3, zAndV, zOrV, zNotV, zTest, zTestE, zAnd, zOr, zNot, zIf, zCh, zCB, zCall, zCKw, zCons, zNil, zTup, zLst, newL, newDK, zIx, zLe, zLt, zGt, zGe, zNe_ii, zEq_ii, zIsN, zNotN, zIn, zNotIn, zSub, zMod, zFdiv, zPow, zMul, zAdd, zNeg, zI2, zI2C, zLen, zIsi, zTuple, zTupleF, zList, zAbs, zInt1, zDivmod, zMin2, zSet, zGet, zSl, zSlV, zPart, zNoPart, zTix, zBM, zAppend, isL, tyName, kit_tt, kit_ii, kit_ib, sqR, lsR, lsM, dkM, dtM, dLook, Z.keyOf, frS, ziSeq, ziEnum, ziR1, ziR2, ziR3, zFor, zLC, zDC, zYes, zwipe, zDisp, zPairs, zmerge, zSortR3, zSortedI, zSortedDI, zDictOf, List.getElem?_cons_zero, List.getElem?_cons_succ, List.set_cons_zero, List.set_cons_succ, List.length_cons, List.length_nil, List.map_cons, List.map_nil, List.length_map, Bool.not_true, Bool.not_false, decide_true, decide_false]
  refine ⟨h.length, ns, _, c3, M, W, I, rfl, hg _, d3, by omega, V, fun c4 S d4 hS => ?_⟩
  simp only [zSeq, zAsg, zRet, zRetN, zIfS, zNext, zDrop, zBreak, zCont, zVar, zC, zOp, zUn, zName, zgTup, zgCons, zgNil, zgSub, zAug, zAugS, zPar, zPar3, zAndV, zOrV, zNotV, zTest, zTestE, zAnd, zOr, zNot, zIf, zCh, zCB, zCall, zCKw, zCons, zNil, zTup, zLst, newL, newDK, zIx, zLe, zLt, zGt, zGe, zNe_ii, zEq_ii, zIsN, zNotN, zIn, zNotIn, zSub, zMod, zFdiv, zPow, zMul, zAdd, zNeg, zI2, zI2C, zLen, zIsi, zTuple, zTupleF, zList, zAbs, zInt1, zDivmod, zMin2, zSet, zGet, zSl, zSlV, zPart, zNoPart, zTix, zBM, zAppend, isL, tyName, kit_tt, kit_ii, kit_ib, sqR, lsR, lsM, dkM, dtM, dLook, Z.keyOf, frS, ziSeq, ziEnum, ziR1, ziR2, ziR3, zFor, zLC, zDC, zYes, zwipe, zDisp, zPairs, zmerge, zSortR3, zSortedI, zSortedDI, zDictOf, List.getElem?_cons_zero, List.getElem?_cons_succ, List.set_cons_zero, List.set_cons_succ, List.length_cons, List.length_nil, List.map_cons, List.map_nil, List.length_map, Bool.not_true, Bool.not_false, decide_true, decide_false, hs]
  refine ⟨h.length, ns, _, c4, M, W, I, rfl, hg _, d4, by omega, V, fun c5 T d5 hT => ?_⟩
  simp only [zSeq, zAsg, zRet, zRetN, zIfS, zNext, zDrop, zBreak, zCont, zVar, zC, zOp, zUn, zName, zgTup, zgCons, zgNil, zgSub, zAug, zAugS, zPar, zPar3, zAndV, zOrV, zNotV, zTest, zTestE, zAnd, zOr, zNot, zIf, zCh, zCB, zCall, zCKw, zCons, zNil, zTup, zLst, newL, newDK, zIx, zLe, zLt, zGt, zGe, zNe_ii, zEq_ii, zIsN, zNotN, zIn, zNotIn, zSub, zMod, zFdiv, zPow, zMul, zAdd, zNeg, zI2, zI2C, zLen, zIsi, zTuple, zTupleF, zList, zAbs, zInt1, zDivmod, zMin2, zSet, zGet, zSl, zSlV, zPart, zNoPart, zTix, zBM, zAppend, isL, tyName, kit_tt, kit_ii, kit_ib, sqR, lsR, lsM, dkM, dtM, dLook, Z.keyOf, frS, ziSeq, ziEnum, ziR1, ziR2, ziR3, zFor, zLC, zDC, zYes, zwipe, zDisp, zPairs, zmerge, zSortR3, zSortedI, zSortedDI, zDictOf, List.getElem?_cons_zero, List.getElem?_cons_succ, List.set_cons_zero, List.set_cons_succ, List.length_cons, List.length_nil, List.map_cons, List.map_nil, List.length_map, Bool.not_true, Bool.not_false, decide_true, decide_false, hs]
  exact law_mid V kk p3 p4 hv hS hT fun t ht => q c5 t ht (d5.mono (by omega))
theorem list13 {t : List (Option D)} (h : t.length = 13) : ∃ a b c d e f g i j k l m n, t = [a, b, c, d, e, f, g, i, j, k, l, m, n] := by
  match t, h with
  | [a, b, c, d, e, f, g, i, j, k, l, m, n], _ => exact ⟨a, b, c, d, e, f, g, i, j, k, l, m, n, rfl⟩
theorem law_loop {E : ZEnds} {h : AH} {ns : List Int} {s0 : Option D} : ∀ (xs : List Int) (a : Nat) (c : Cl) (x2 x3 x4 x5 x6 x7 x8 x9 x10 x11 x12 x13 x14 : Option D), DrC ns a c → a + 2000 * (xs.length + 1) < 2 ^ 60 →
    (∀ c' t, E.nx (s0 :: some (.obj h.length) :: t) (h ++ [c'])) →
    zForL lg1_law lb1_law E (xs.map D.int) [s0, some (.obj h.length), x2, x3, x4, x5, x6, x7, x8, x9, x10, x11, x12, x13, x14] (h ++ [c])
  | [], a, c, x2, x3, x4, x5, x6, x7, x8, x9, x10, x11, x12, x13, x14, hd, ha, q => q c _
  | x :: xs, a, c, x2, x3, x4, x5, x6, x7, x8, x9, x10, x11, x12, x13, x14, hd, ha, q => by
    rw [List.length_cons] at ha
    rw [List.map_cons, zForL_cons]
    have eg : ∀ (d : D) (zs : ZS) (hh : AH) (Q : ZS → AH → Prop), lg1_law d zs hh Q = Q (zs.set 2 (some d)) hh := fun _ _ _ _ => rfl
    rw [eg]
    simp only [List.set_cons_succ, List.set_cons_zero]
    refine law_body hd (by omega) fun c' t ht d' => ?_
    obtain ⟨y2, y3, y4, y5, y6, y7, y8, y9, y10, y11, y12, y13, y14, rfl⟩ := list13 ht
    exact law_loop xs (a + 2000) c' _ _ _ _ _ _ _ _ _ _ _ _ _ d' (by omega) q
theorem pure_law : ∀ ds h Q0 E0, sp_law ds h Q0 E0 → WfH h → D.cls h.length ds = true → r_law (EndOk h Q0) (zstart N_law ds) h := fun ds h Q E ⟨ns, e, hl, z⟩ hw hc => by
  subst e
  show r_law (EndOk h Q) [some (.fz (ns.map D.int)), none, none, none, none, none, none, none, none, none, none, none, none, none, none] h
  unfold r_law
  simp only [zSeq, zAsg, zRet, zRetN, zIfS, zNext, zDrop, zBreak, zCont, zVar, zC, zOp, zUn, zName, zgTup, zgCons, zgNil, zgSub, zAug, zAugS, zPar, zPar3, zAndV, zOrV, zNotV, zTest, zTestE, zAnd, zOr, zNot, zIf, zCh, zCB, zCall, zCKw, zCons, zNil, zTup, zLst, newL, newDK, zIx, zLe, zLt, zGt, zGe, zNe_ii, zEq_ii, zIsN, zNotN, zIn, zNotIn, zSub, zMod, zFdiv, zPow, zMul, zAdd, zNeg, zI2, zI2C, zLen, zIsi, zTuple, zTupleF, zList, zAbs, zInt1, zDivmod, zMin2, zSet, zGet, zSl, zSlV, zPart, zNoPart, zTix, zBM, zAppend, isL, tyName, kit_tt, kit_ii, kit_ib, sqR, lsR, lsM, dkM, dtM, dLook, Z.keyOf, frS, ziSeq, ziEnum, ziR1, ziR2, ziR3, zFor, zLC, zDC, zYes, zwipe, zDisp, zPairs, zmerge, zSortR3, zSortedI, zSortedDI, zDictOf, List.getElem?_cons_zero, List.getElem?_cons_succ, List.set_cons_zero, List.set_cons_succ, List.length_cons, List.length_nil, List.map_cons, List.map_nil, List.length_map, Bool.not_true, Bool.not_false, decide_true, decide_false]
  refine ⟨ns, rfl, hl, fun c hd => ?_⟩
  unfold tl13_law
  simp only [zSeq, zAsg, zRet, zRetN, zIfS, zNext, zDrop, zBreak, zCont, zVar, zC, zOp, zUn, zName, zgTup, zgCons, zgNil, zgSub, zAug, zAugS, zPar, zPar3, zAndV, zOrV, zNotV, zTest, zTestE, zAnd, zOr, zNot, zIf, zCh, zCB, zCall, zCKw, zCons, zNil, zTup, zLst, newL, newDK, zIx, zLe, zLt, zGt, zGe, zNe_ii, zEq_ii, zIsN, zNotN, zIn, zNotIn, zSub, zMod, zFdiv, zPow, zMul, zAdd, zNeg, zI2, zI2C, zLen, zIsi, zTuple, zTupleF, zList, zAbs, zInt1, zDivmod, zMin2, zSet, zGet, zSl, zSlV, zPart, zNoPart, zTix, zBM, zAppend, isL, tyName, kit_tt, kit_ii, kit_ib, sqR, lsR, lsM, dkM, dtM, dLook, Z.keyOf, frS, ziSeq, ziEnum, ziR1, ziR2, ziR3, zFor, zLC, zDC, zYes, zwipe, zDisp, zPairs, zmerge, zSortR3, zSortedI, zSortedDI, zDictOf, List.getElem?_cons_zero, List.getElem?_cons_succ, List.set_cons_zero, List.set_cons_succ, List.length_cons, List.length_nil, List.map_cons, List.map_nil, List.length_map, Bool.not_true, Bool.not_false, decide_true, decide_false]
  have hb : (if ((ns.length : Nat) : Int) < 8 then ((ns.length : Nat) : Int) else 8) ≤ 8 ∧ 0 ≤ (if ((ns.length : Nat) : Int) < 8 then ((ns.length : Nat) : Int) else 8) := by
    split <;> omega
  generalize (if ((ns.length : Nat) : Int) < 8 then ((ns.length : Nat) : Int) else 8) = k at hb ⊢
  refine ⟨⟨by omega, by omega⟩, ?_⟩
  rw [zrange_up]
  refine law_loop _ 0 c _ _ _ _ _ _ _ _ _ _ _ _ _ hd (by rw [intsUp_length]; omega) fun c' t => ?_
  unfold tl12_law
  simp only [zSeq, zAsg, zRet, zRetN, zIfS, zNext, zDrop, zBreak, zCont, zVar, zC, zOp, zUn, zName, zgTup, zgCons, zgNil, zgSub, zAug, zAugS, zPar, zPar3, zAndV, zOrV, zNotV, zTest, zTestE, zAnd, zOr, zNot, zIf, zCh, zCB, zCall, zCKw, zCons, zNil, zTup, zLst, newL, newDK, zIx, zLe, zLt, zGt, zGe, zNe_ii, zEq_ii, zIsN, zNotN, zIn, zNotIn, zSub, zMod, zFdiv, zPow, zMul, zAdd, zNeg, zI2, zI2C, zLen, zIsi, zTuple, zTupleF, zList, zAbs, zInt1, zDivmod, zMin2, zSet, zGet, zSl, zSlV, zPart, zNoPart, zTix, zBM, zAppend, isL, tyName, kit_tt, kit_ii, kit_ib, sqR, lsR, lsM, dkM, dtM, dLook, Z.keyOf, frS, ziSeq, ziEnum, ziR1, ziR2, ziR3, zFor, zLC, zDC, zYes, zwipe, zDisp, zPairs, zmerge, zSortR3, zSortedI, zSortedDI, zDictOf, List.getElem?_cons_zero, List.getElem?_cons_succ, List.set_cons_zero, List.set_cons_succ, List.length_cons, List.length_nil, List.map_cons, List.map_nil, List.length_map, Bool.not_true, Bool.not_false, decide_true, decide_false]
  exact Exit.same hw rfl z
theorem law_start {K : PySem.W.Frag} (H : Hp) (a : Addr) (ns : List Int) (hl : ns.length ≤ 63) (hO : Only H) (hS : SqL K H a (ns.map V.int)) : liftSp K sp_law [.ref a] H (fun v _ => v = .bl true) fun _ _ _ => False := by
  refine ⟨⟨[], []⟩, [.fz (ns.map D.int)], [], fun d _ => d = .bl true, fun _ _ => False, ⟨rfl, List.nodup_nil, fun a ha => (by cases ha), fun n c e => (by simp at e), fun a ha => (by cases ha)⟩, ⟨_, [], rfl, ⟨a, _, rfl, ?_, .of_ints ns⟩, rfl⟩, ⟨ns, rfl, hl, rfl⟩, fun d h' r' v H' e _ _ hd => ?_, fun _ _ _ _ _ _ z => z.elim⟩
  · rcases hS with hS | hS
    · rcases hS with hS | ⟨o, hS⟩
      · rcases hO a with z | ⟨o, xs, z⟩
        · rw [z] at hS; cases hS
        · rw [z] at hS; cases hS
      · exact .inl ⟨⟨o, hS⟩, by simp, by simp⟩
    · exact .inr (.inr hS)
  · have e : d = .bl true := e
    subst e
    exact hd
end Z54
namespace Z54
open PySem PySem.Spec PyProof.Rows L2 Z
def topS (i : Nat) : Stmt := PySem.Challenge.pw_carrynet_k54_whole_trimmed_nets.main.body.getD i (.Pass ⟨0, 0, 0, 0⟩)
section
variable {P : Program} {w : World} {K : PySem.W.Frag} {mg : Str → Option Value} {base : Heap}
abbrev s_is_integer : Stmt := topS 11
theorem sc_is_integer : FnScope N_is_integer ["value"] (defScope s_is_integer) := ⟨rfl, rfl, rfl, by decide +kernel, rfl, by decide +kernel, by decide +kernel⟩
theorem ok_is_integer {f : Addr} {fd : FuncData} (F : FnP K "is_integer" s_is_integer f fd) (g_isinstance : mg "isinstance" = none) (g_int : mg "int" = none) (g_bool : mg "bool" = none) : FnOk P w K mg base (L2.CX P w) 1 f fd ["value"] (liftSp K sp_is_integer) := by
  refine zfunD (k := 0) F sc_is_integer len_is_integer r_is_integer (fun cdv A outer s H E hr => ?_) pure_is_integer
  have nd := sc_is_integer.nd
  exact (zss_one (zs_ret (z_and (z_callB call_isi l_isi rfl g_isinstance boot_isinstance (za_cons (zv 0) (za_cons (z_bty rfl g_int boot_int) za_nil))) (z_one (z_not (z_callB call_isi l_isi rfl g_isinstance boot_isinstance (za_cons (zv 0) (za_cons (z_bty rfl g_bool boot_bool) za_nil))))))))
abbrev s_is_between : Stmt := topS 12
theorem sc_is_between : FnScope N_is_between ["value", "least", "most"] (defScope s_is_between) := ⟨rfl, rfl, rfl, by decide +kernel, rfl, by decide +kernel, by decide +kernel⟩
theorem ok_is_between {f : Addr} {fd : FuncData} {f_is_integer : Addr} {d_is_integer : FuncData} (F : FnP K "is_between" s_is_between f fd) (c_is_integer : Cal P w K mg base 1 "is_integer" f_is_integer d_is_integer ["value"] sp_is_integer) : FnOk P w K mg base (L2.CX P w) 2 f fd ["value", "least", "most"] (liftSp K sp_is_between) := by
  refine zfunD (k := 1) F sc_is_between len_is_between r_is_between (fun cdv A outer s H E hr => ?_) pure_is_between
  have nd := sc_is_between.nd
  exact (zss_one (zs_ret (z_and (z_call c_is_integer (hr.mono (by decide)) (za_cons (zv 0) za_nil)) (z_one (z_chain (OpR.or op_le (op_leT hr.units0)) l_le (OpR.or op_le (op_leT hr.units0)) l_le (zv 1) (zv 0) (zv 2))))))
abbrev s_is_wire : Stmt := topS 13
theorem sc_is_wire : FnScope N_is_wire ["value", "many"] (defScope s_is_wire) := ⟨rfl, rfl, rfl, by decide +kernel, rfl, by decide +kernel, by decide +kernel⟩
theorem ok_is_wire {f : Addr} {fd : FuncData} {f_is_between : Addr} {d_is_between : FuncData} (F : FnP K "is_wire" s_is_wire f fd) (g_isinstance : mg "isinstance" = none) (g_tuple : mg "tuple" = none) (g_len : mg "len" = none) (g_MOST_WEIGHT : GInt mg "MOST_WEIGHT" 100) (c_is_between : Cal P w K mg base 2 "is_between" f_is_between d_is_between ["value", "least", "most"] sp_is_between) : FnOk P w K mg base (L2.CX P w) 3 f fd ["value", "many"] (liftSp K sp_is_wire) := by
  refine zfunD (k := 2) F sc_is_wire len_is_wire r_is_wire (fun cdv A outer s H E hr => ?_) pure_is_wire
  have nd := sc_is_wire.nd
  exact (zss_cons (zs_if (zt_w (zw_or (zt_not (zt_val (z_callB call_isi l_isi rfl g_isinstance boot_isinstance (za_cons (zv 0) (za_cons (z_bty rfl g_tuple boot_tuple) za_nil))))) (zw_or1 (zt_cmp (op_neD hr.units) l_ne (z_callB call_lenAll l_len rfl g_len boot_len (za_cons (zv 0) za_nil)) z_int (nomark _))))) (zss_one (zs_ret z_bl)) zss_nil) (zss_cons (zs_asg (zv 0) (zg_tup rfl (zgs_cons (zg_name 2 nd) (zgs_cons (zg_name 3 nd) (zgs_cons (zg_name 4 nd) zgs_nil))))) (zss_cons (zs_if (zt_w (zw_or (zt_not (zt_val (z_call c_is_between (hr.mono (by decide)) (za_cons (zv 2) (za_cons z_int (za_cons (z_op op_sub l_sub (zv 1) z_int) za_nil)))))) (zw_or1 (zt_not (zt_val (z_call c_is_between (hr.mono (by decide)) (za_cons (zv 3) (za_cons (z_op op_addAll (l_add false) (zv 2) z_int) (za_cons (z_op op_sub l_sub (zv 1) z_int) za_nil))))))))) (zss_one (zs_ret z_bl)) zss_nil) (zss_one (zs_ret (z_and (z_call c_is_between (hr.mono (by decide)) (za_cons (zv 4) (za_cons (z_un un_neg l_neg (z_gi g_MOST_WEIGHT)) (za_cons (z_gi g_MOST_WEIGHT) za_nil)))) (z_one (z_cmp (op_neD hr.units) l_ne (zv 4) z_int (nomark _)))))))))
abbrev s_moduli_problem : Stmt := topS 14
theorem sc_moduli_problem : FnScope N_moduli_problem ["moduli"] (defScope s_moduli_problem) := ⟨rfl, rfl, rfl, by decide +kernel, rfl, by decide +kernel, by decide +kernel⟩
theorem ok_moduli_problem {f : Addr} {fd : FuncData} {f_is_between : Addr} {d_is_between : FuncData} (F : FnP K "moduli_problem" s_moduli_problem f fd) (g_isinstance : mg "isinstance" = none) (g_tuple : mg "tuple" = none) (g_len : mg "len" = none) (g_MOST_COUNTERS : GInt mg "MOST_COUNTERS" 10) (g_enumerate : mg "enumerate" = none) (g_MOST_MODULUS : GInt mg "MOST_MODULUS" 1000) (c_is_between : Cal P w K mg base 2 "is_between" f_is_between d_is_between ["value", "least", "most"] sp_is_between) : FnOk P w K mg base (L2.CX P w) 3 f fd ["moduli"] (liftSp K sp_moduli_problem) := by
  refine zfunD (k := 2) F sc_moduli_problem len_moduli_problem r_moduli_problem (fun cdv A outer s H E hr => ?_) pure_moduli_problem
  have nd := sc_moduli_problem.nd
  exact (zss_cons (zs_if (zt_w (zw_or (zt_not (zt_val (z_callB call_isi l_isi rfl g_isinstance boot_isinstance (za_cons (zv 0) (za_cons (z_bty rfl g_tuple boot_tuple) za_nil))))) (zw_or1 (zt_not (zt_chain (OpR.or op_le (op_leT hr.units0)) l_le (OpR.or op_le (op_leT hr.units0)) l_le z_int (z_callB call_lenAll l_len rfl g_len boot_len (za_cons (zv 0) za_nil)) (z_gi g_MOST_COUNTERS)))))) (zss_one (zs_ret (z_tup (za_cons z_str (za_cons z_non za_nil))))) zss_nil) (zss_cons (zs_for PassesOwn.never rfl (zi_enum g_enumerate (za_cons (zv 0) za_nil)) (zg_tup rfl (zgs_cons (zg_name 1 nd) (zgs_cons (zg_name 2 nd) zgs_nil))) (zss_one (zs_if (zt_not (zt_val (z_call c_is_between (hr.mono (by decide)) (za_cons (zv 2) (za_cons z_int (za_cons (z_gi g_MOST_MODULUS) za_nil)))))) (zss_one (zs_ret (z_tup (za_cons z_str (za_cons (zv 1) za_nil))))) zss_nil))) (zss_one (zs_ret z_non))))
abbrev s_wires_problem : Stmt := topS 15
theorem sc_wires_problem : FnScope N_wires_problem ["wires", "many"] (defScope s_wires_problem) := ⟨rfl, rfl, rfl, by decide +kernel, rfl, by decide +kernel, by decide +kernel⟩
theorem ok_wires_problem {f : Addr} {fd : FuncData} {f_is_wire : Addr} {d_is_wire : FuncData} (F : FnP K "wires_problem" s_wires_problem f fd) (g_isinstance : mg "isinstance" = none) (g_tuple : mg "tuple" = none) (g_enumerate : mg "enumerate" = none) (c_is_wire : Cal P w K mg base 3 "is_wire" f_is_wire d_is_wire ["value", "many"] sp_is_wire) : FnOk P w K mg base (L2.CX P w) 4 f fd ["wires", "many"] (liftSp K sp_wires_problem) := by
  refine zfunD (k := 3) F sc_wires_problem len_wires_problem r_wires_problem (fun cdv A outer s H E hr => ?_) pure_wires_problem
  have nd := sc_wires_problem.nd
  exact (zss_cons (zs_if (zt_not (zt_val (z_callB call_isi l_isi rfl g_isinstance boot_isinstance (za_cons (zv 0) (za_cons (z_bty rfl g_tuple boot_tuple) za_nil))))) (zss_one (zs_ret (z_tup (za_cons z_str (za_cons z_non za_nil))))) zss_nil) (zss_cons (zs_set 2 nd (z_tup (za_cons z_int (za_cons z_int za_nil)))) (zss_cons (zs_for PassesOwn.never rfl (zi_enum g_enumerate (za_cons (zv 0) za_nil)) (zg_tup rfl (zgs_cons (zg_name 3 nd) (zgs_cons (zg_name 4 nd) zgs_nil))) (zss_cons (zs_if (zt_w (zw_or (zt_not (zt_val (z_call c_is_wire (hr.mono (by decide)) (za_cons (zv 4) (za_cons (zv 1) za_nil))))) (zw_or1 (zt_cmp (OpR.or op_le (op_leT hr.units0)) l_le (z_slice false (zv 4) zo_none (zo_some z_int)) (zv 2) (nomark _))))) (zss_one (zs_ret (z_tup (za_cons z_str (za_cons (zv 3) za_nil))))) zss_nil) (zss_one (zs_set 2 nd (z_slice false (zv 4) zo_none (zo_some z_int)))))) (zss_one (zs_ret z_non)))))
abbrev s_inputs_problem : Stmt := topS 16
theorem sc_inputs_problem : FnScope N_inputs_problem ["inputs", "many"] (defScope s_inputs_problem) := ⟨rfl, rfl, rfl, by decide +kernel, rfl, by decide +kernel, by decide +kernel⟩
theorem ok_inputs_problem {f : Addr} {fd : FuncData} {f_is_between : Addr} {d_is_between : FuncData} (F : FnP K "inputs_problem" s_inputs_problem f fd) (g_isinstance : mg "isinstance" = none) (g_tuple : mg "tuple" = none) (g_enumerate : mg "enumerate" = none) (c_is_between : Cal P w K mg base 2 "is_between" f_is_between d_is_between ["value", "least", "most"] sp_is_between) : FnOk P w K mg base (L2.CX P w) 3 f fd ["inputs", "many"] (liftSp K sp_inputs_problem) := by
  refine zfunD (k := 2) F sc_inputs_problem len_inputs_problem r_inputs_problem (fun cdv A outer s H E hr => ?_) pure_inputs_problem
  have nd := sc_inputs_problem.nd
  exact (zss_cons (zs_if (zt_not (zt_val (z_callB call_isi l_isi rfl g_isinstance boot_isinstance (za_cons (zv 0) (za_cons (z_bty rfl g_tuple boot_tuple) za_nil))))) (zss_one (zs_ret (z_tup (za_cons z_str (za_cons z_non za_nil))))) zss_nil) (zss_cons (zs_set 2 nd z_int) (zss_cons (zs_for PassesOwn.never rfl (zi_enum g_enumerate (za_cons (zv 0) za_nil)) (zg_tup rfl (zgs_cons (zg_name 3 nd) (zgs_cons (zg_name 4 nd) zgs_nil))) (zss_cons (zs_if (zt_not (zt_val (z_call c_is_between (hr.mono (by decide)) (za_cons (zv 4) (za_cons (zv 2) (za_cons (z_op op_sub l_sub (zv 1) z_int) za_nil)))))) (zss_one (zs_ret (z_tup (za_cons z_str (za_cons (zv 3) za_nil))))) zss_nil) (zss_one (zs_set 2 nd (z_op op_addAll (l_add false) (zv 4) z_int))))) (zss_one (zs_ret z_non)))))
abbrev s_net_problem : Stmt := topS 17
theorem sc_net_problem : FnScope N_net_problem ["value"] (defScope s_net_problem) := ⟨rfl, rfl, rfl, by decide +kernel, rfl, by decide +kernel, by decide +kernel⟩
theorem ok_net_problem {f : Addr} {fd : FuncData} {f_moduli_problem : Addr} {d_moduli_problem : FuncData} {f_wires_problem : Addr} {d_wires_problem : FuncData} {f_inputs_problem : Addr} {d_inputs_problem : FuncData} (F : FnP K "net_problem" s_net_problem f fd) (g_isinstance : mg "isinstance" = none) (g_tuple : mg "tuple" = none) (g_len : mg "len" = none) (c_moduli_problem : Cal P w K mg base 3 "moduli_problem" f_moduli_problem d_moduli_problem ["moduli"] sp_moduli_problem) (c_wires_problem : Cal P w K mg base 4 "wires_problem" f_wires_problem d_wires_problem ["wires", "many"] sp_wires_problem) (c_inputs_problem : Cal P w K mg base 3 "inputs_problem" f_inputs_problem d_inputs_problem ["inputs", "many"] sp_inputs_problem) : FnOk P w K mg base (L2.CX P w) 5 f fd ["value"] (liftSp K sp_net_problem) := by
  refine zfunD (k := 4) F sc_net_problem len_net_problem r_net_problem (fun cdv A outer s H E hr => ?_) pure_net_problem
  have nd := sc_net_problem.nd
  exact (zss_cons (zs_if (zt_w (zw_or (zt_not (zt_val (z_callB call_isi l_isi rfl g_isinstance boot_isinstance (za_cons (zv 0) (za_cons (z_bty rfl g_tuple boot_tuple) za_nil))))) (zw_or1 (zt_cmp (op_neD hr.units) l_ne (z_callB call_lenAll l_len rfl g_len boot_len (za_cons (zv 0) za_nil)) z_int (nomark _))))) (zss_one (zs_ret (z_tup (za_cons z_str (za_cons z_non za_nil))))) zss_nil) (zss_cons (zs_asg (zv 0) (zg_tup rfl (zgs_cons (zg_name 1 nd) (zgs_cons (zg_name 2 nd) (zgs_cons (zg_name 3 nd) zgs_nil))))) (zss_cons (zs_set 4 nd (z_call c_moduli_problem (hr.mono (by decide)) (za_cons (zv 1) za_nil))) (zss_cons (zs_if (zt_cmp op_isN l_isN (zv 4) z_non (nomark _)) (zss_one (zs_set 4 nd (z_call c_wires_problem (hr.mono (by decide)) (za_cons (zv 2) (za_cons (z_callB call_lenAll l_len rfl g_len boot_len (za_cons (zv 1) za_nil)) za_nil))))) zss_nil) (zss_cons (zs_if (zt_cmp op_isN l_isN (zv 4) z_non (nomark _)) (zss_one (zs_set 4 nd (z_call c_inputs_problem (hr.mono (by decide)) (za_cons (zv 3) (za_cons (z_callB call_lenAll l_len rfl g_len boot_len (za_cons (zv 1) za_nil)) za_nil))))) zss_nil) (zss_one (zs_ret (zv 4))))))))
abbrev s_validate_net : Stmt := topS 18
theorem sc_validate_net : FnScope N_validate_net ["net"] (defScope s_validate_net) := ⟨rfl, rfl, rfl, by decide +kernel, rfl, by decide +kernel, by decide +kernel⟩
theorem ok_validate_net {f : Addr} {fd : FuncData} {f_net_problem : Addr} {d_net_problem : FuncData} (F : FnP K "validate_net" s_validate_net f fd) (c_net_problem : Cal P w K mg base 5 "net_problem" f_net_problem d_net_problem ["value"] sp_net_problem) : FnOk P w K mg base (L2.CX P w) 6 f fd ["net"] (liftSp K sp_validate_net) := by
  refine zfunD (k := 5) F sc_validate_net len_validate_net r_validate_net (fun cdv A outer s H E hr => ?_) pure_validate_net
  have nd := sc_validate_net.nd
  exact (zss_cons (zs_set 1 nd (z_call c_net_problem (hr.mono (by decide)) (za_cons (zv 0) za_nil))) (zss_one (zs_if (zt_cmp op_notN l_notN (zv 1) z_non (nomark _)) (zss_one zs_never) zss_nil)))
abbrev s_is_net : Stmt := topS 19
theorem sc_is_net : FnScope N_is_net ["value"] (defScope s_is_net) := ⟨rfl, rfl, rfl, by decide +kernel, rfl, by decide +kernel, by decide +kernel⟩
theorem ok_is_net {f : Addr} {fd : FuncData} {f_net_problem : Addr} {d_net_problem : FuncData} (F : FnP K "is_net" s_is_net f fd) (c_net_problem : Cal P w K mg base 5 "net_problem" f_net_problem d_net_problem ["value"] sp_net_problem) : FnOk P w K mg base (L2.CX P w) 6 f fd ["value"] (liftSp K sp_is_net) := by
  refine zfunD (k := 5) F sc_is_net len_is_net r_is_net (fun cdv A outer s H E hr => ?_) pure_is_net
  have nd := sc_is_net.nd
  exact (zss_one (zs_ret (z_cmp op_isN l_isN (z_call c_net_problem (hr.mono (by decide)) (za_cons (zv 0) za_nil)) z_non (nomark _))))
abbrev s_require_counter : Stmt := topS 20
theorem sc_require_counter : FnScope N_require_counter ["net", "counter"] (defScope s_require_counter) := ⟨rfl, rfl, rfl, by decide +kernel, rfl, by decide +kernel, by decide +kernel⟩
theorem ok_require_counter {f : Addr} {fd : FuncData} {f_is_between : Addr} {d_is_between : FuncData} (F : FnP K "require_counter" s_require_counter f fd) (g_len : mg "len" = none) (c_is_between : Cal P w K mg base 2 "is_between" f_is_between d_is_between ["value", "least", "most"] sp_is_between) : FnOk P w K mg base (L2.CX P w) 3 f fd ["net", "counter"] (liftSp K sp_require_counter) := by
  refine zfunD (k := 2) F sc_require_counter len_require_counter r_require_counter (fun cdv A outer s H E hr => ?_) pure_require_counter
  have nd := sc_require_counter.nd
  have hu := hu_of hr
  exact (zss_one (zs_if (zt_not (zt_val (z_call c_is_between (hr.mono (by decide)) (za_cons (zv 1) (za_cons z_int (za_cons (z_op op_sub l_sub (z_callB call_lenAll l_len rfl g_len boot_len (za_cons (z_ix (ix_all hu) l_ix (zv 0) z_int (fun _ _ => rfl)) za_nil)) z_int) za_nil)))))) (zss_one zs_never) zss_nil))
abbrev s_validate_phases : Stmt := topS 21
theorem sc_validate_phases : FnScope N_validate_phases ["net", "phases"] (defScope s_validate_phases) := ⟨rfl, rfl, rfl, by decide +kernel, rfl, by decide +kernel, by decide +kernel⟩
theorem ok_validate_phases {f : Addr} {fd : FuncData} {f_validate_net : Addr} {d_validate_net : FuncData} {f_is_between : Addr} {d_is_between : FuncData} (F : FnP K "validate_phases" s_validate_phases f fd) (g_isinstance : mg "isinstance" = none) (g_tuple : mg "tuple" = none) (g_len : mg "len" = none) (g_enumerate : mg "enumerate" = none) (c_validate_net : Cal P w K mg base 6 "validate_net" f_validate_net d_validate_net ["net"] sp_validate_net) (c_is_between : Cal P w K mg base 2 "is_between" f_is_between d_is_between ["value", "least", "most"] sp_is_between) : FnOk P w K mg base (L2.CX P w) 7 f fd ["net", "phases"] (liftSp K sp_validate_phases) := by
  refine zfunD (k := 6) F sc_validate_phases len_validate_phases r_validate_phases (fun cdv A outer s H E hr => ?_) pure_validate_phases
  have nd := sc_validate_phases.nd
  have hu := hu_of hr
  exact (zss_cons (zs_expr (z_call c_validate_net (hr.mono (by decide)) (za_cons (zv 0) za_nil))) (zss_cons (zs_if (zt_w (zw_or (zt_not (zt_val (z_callB call_isi l_isi rfl g_isinstance boot_isinstance (za_cons (zv 1) (za_cons (z_bty rfl g_tuple boot_tuple) za_nil))))) (zw_or1 (zt_cmp (op_neD hr.units) l_ne (z_callB call_lenAll l_len rfl g_len boot_len (za_cons (zv 1) za_nil)) (z_callB call_lenAll l_len rfl g_len boot_len (za_cons (z_ix (ix_all hu) l_ix (zv 0) z_int (fun _ _ => rfl)) za_nil)) (nomark _))))) (zss_one zs_never) zss_nil) (zss_one (zs_for PassesOwn.never rfl (zi_enum g_enumerate (za_cons (z_ix (ix_all hu) l_ix (zv 0) z_int (fun _ _ => rfl)) za_nil)) (zg_tup rfl (zgs_cons (zg_name 2 nd) (zgs_cons (zg_name 3 nd) zgs_nil))) (zss_one (zs_if (zt_not (zt_val (z_call c_is_between (hr.mono (by decide)) (za_cons (z_ix (ix_all hu) l_ix (zv 1) (zv 2) (fun _ _ => rfl)) (za_cons z_int (za_cons (z_op op_sub l_sub (zv 3) z_int) za_nil)))))) (zss_one zs_never) zss_nil))))))
abbrev s_validate_ticks : Stmt := topS 23
theorem sc_validate_ticks : FnScope N_validate_ticks ["net", "ticks"] (defScope s_validate_ticks) := ⟨rfl, rfl, rfl, by decide +kernel, rfl, by decide +kernel, by decide +kernel⟩
theorem ok_validate_ticks {f : Addr} {fd : FuncData} {f_validate_net : Addr} {d_validate_net : FuncData} {f_is_between : Addr} {d_is_between : FuncData} (F : FnP K "validate_ticks" s_validate_ticks f fd) (g_isinstance : mg "isinstance" = none) (g_tuple : mg "tuple" = none) (g_len : mg "len" = none) (g_enumerate : mg "enumerate" = none) (g_MOST_TICKS : GInt mg "MOST_TICKS" 10000000000000000000000000000000000000000) (c_validate_net : Cal P w K mg base 6 "validate_net" f_validate_net d_validate_net ["net"] sp_validate_net) (c_is_between : Cal P w K mg base 2 "is_between" f_is_between d_is_between ["value", "least", "most"] sp_is_between) : FnOk P w K mg base (L2.CX P w) 7 f fd ["net", "ticks"] (liftSp K sp_validate_ticks) := by
  refine zfunD (k := 6) F sc_validate_ticks len_validate_ticks r_validate_ticks (fun cdv A outer s H E hr => ?_) pure_validate_ticks
  have nd := sc_validate_ticks.nd
  have hu := hu_of hr
  exact (zss_cons (zs_expr (z_call c_validate_net (hr.mono (by decide)) (za_cons (zv 0) za_nil))) (zss_cons (zs_if (zt_w (zw_or (zt_not (zt_val (z_callB call_isi l_isi rfl g_isinstance boot_isinstance (za_cons (zv 1) (za_cons (z_bty rfl g_tuple boot_tuple) za_nil))))) (zw_or1 (zt_cmp (op_neD hr.units) l_ne (z_callB call_lenAll l_len rfl g_len boot_len (za_cons (zv 1) za_nil)) (z_callB call_lenAll l_len rfl g_len boot_len (za_cons (z_ix (ix_all hu) l_ix (zv 0) z_int (fun _ _ => rfl)) za_nil)) (nomark _))))) (zss_one zs_never) zss_nil) (zss_one (zs_for PassesOwn.never rfl (zi_enum g_enumerate (za_cons (zv 1) za_nil)) (zg_tup rfl (zgs_cons (zg_name 2 nd) (zgs_cons (zg_name 3 nd) zgs_nil))) (zss_one (zs_if (zt_w (zw_or (zt_not (zt_val (z_call c_is_between (hr.mono (by decide)) (za_cons (zv 3) (za_cons (z_un un_neg l_neg (z_gi g_MOST_TICKS)) (za_cons (z_gi g_MOST_TICKS) za_nil)))))) (zw_or1 (zt_w (zw_and (zt_cmp (op_neD hr.units) l_ne (zv 3) z_int (nomark _)) (zw_and1 (zt_cmp (op_notInAll hu) l_notIn (zv 2) (z_ix (ix_all hu) l_ix (zv 0) z_int (fun _ _ => rfl)) rfl))))))) (zss_one zs_never) zss_nil))))))
abbrev s_flow : Stmt := topS 24
theorem sc_flow : FnScope N_flow ["net", "phases", "vector"] (defScope s_flow) := ⟨rfl, rfl, rfl, by decide +kernel, rfl, by decide +kernel, by decide +kernel⟩
theorem ok_flow {f : Addr} {fd : FuncData} (F : FnP K "flow" s_flow f fd) (g_list : mg "list" = none) (g_enumerate : mg "enumerate" = none) (g_divmod : mg "divmod" = none) (g_tuple : mg "tuple" = none) : FnOk P w K mg base (L2.CX P w) 1 f fd ["net", "phases", "vector"] (liftSp K sp_flow) := by
  refine zfunD (k := 0) F sc_flow len_flow r_flow (fun cdv A outer s H E hr => ?_) pure_flow
  have nd := sc_flow.nd
  have hu := hu_of hr
  exact (zss_cons (zs_par3 3 4 5 rfl nd (za_cons (z_callTy call_list_of (l_list true) rfl g_list boot_list (za_cons (zv 2) za_nil)) (za_cons (z_lst true za_nil) (za_cons (z_lst true za_nil) za_nil)))) (zss_cons (zs_for PassesOwn.never rfl (zi_enum g_enumerate (za_cons (z_ix (ix_all hu) l_ix (zv 0) z_int (fun _ _ => rfl)) za_nil)) (zg_tup rfl (zgs_cons (zg_name 6 nd) (zgs_cons (zg_name 7 nd) zgs_nil))) (zss_cons (zs_asg (z_callB call_divmod l_divmod rfl g_divmod boot_divmod (za_cons (z_op op_addAll (l_add false) (z_ix (ix_all hu) l_ix (zv 1) (zv 6) (fun _ _ => rfl)) (z_ix (ix_all hu) l_ix (zv 3) (zv 6) (fun _ _ => rfl))) (za_cons (zv 7) za_nil))) (zg_tup rfl (zgs_cons (zg_name 8 nd) (zgs_cons (zg_name 9 nd) zgs_nil)))) (zss_cons (zs_expr (z_bm PySem.F.plainAttrs_list PySem.F.slot_list_append PySem.F.type_list_append mt_append l_append ty_list (zv 4) (za_cons (zv 8) za_nil))) (zss_cons (zs_expr (z_bm PySem.F.plainAttrs_list PySem.F.slot_list_append PySem.F.type_list_append mt_append l_append ty_list (zv 5) (za_cons (zv 9) za_nil))) (zss_one (zs_for PassesOwn.never rfl (zi_seq (z_ix (ix_all hu) l_ix (zv 0) z_int (fun _ _ => rfl))) (zg_tup rfl (zgs_cons (zg_name 10 nd) (zgs_cons (zg_name 11 nd) (zgs_cons (zg_name 12 nd) zgs_nil)))) (zss_one (zs_if (zt_cmp (op_eqD hr.units) l_eq (zv 10) (zv 6) (nomark _)) (zss_one (zs_augS (zv 3) (zv 11) (get_all hu) l_get (z_op op_mulAll (l_mul false) (zv 12) (zv 8)) ip_add l_ipadd (set_all hu) l_set)) zss_nil)))))))) (zss_one (zs_ret (z_tup (za_cons (z_callTy call_tuple_of l_tuple rfl g_tuple boot_tuple (za_cons (zv 3) za_nil)) (za_cons (z_callTy call_tuple_of l_tuple rfl g_tuple boot_tuple (za_cons (zv 4) za_nil)) (za_cons (z_callTy call_tuple_of l_tuple rfl g_tuple boot_tuple (za_cons (zv 5) za_nil)) za_nil))))))))
abbrev s_checked_flow : Stmt := topS 25
theorem sc_checked_flow : FnScope N_checked_flow ["net", "phases", "ticks"] (defScope s_checked_flow) := ⟨rfl, rfl, rfl, by decide +kernel, rfl, by decide +kernel, by decide +kernel⟩
theorem ok_checked_flow {f : Addr} {fd : FuncData} {f_validate_phases : Addr} {d_validate_phases : FuncData} {f_validate_ticks : Addr} {d_validate_ticks : FuncData} {f_flow : Addr} {d_flow : FuncData} (F : FnP K "checked_flow" s_checked_flow f fd) (c_validate_phases : Cal P w K mg base 7 "validate_phases" f_validate_phases d_validate_phases ["net", "phases"] sp_validate_phases) (c_validate_ticks : Cal P w K mg base 7 "validate_ticks" f_validate_ticks d_validate_ticks ["net", "ticks"] sp_validate_ticks) (c_flow : Cal P w K mg base 1 "flow" f_flow d_flow ["net", "phases", "vector"] sp_flow) : FnOk P w K mg base (L2.CX P w) 8 f fd ["net", "phases", "ticks"] (liftSp K sp_checked_flow) := by
  refine zfunD (k := 7) F sc_checked_flow len_checked_flow r_checked_flow (fun cdv A outer s H E hr => ?_) pure_checked_flow
  have nd := sc_checked_flow.nd
  exact (zss_cons (zs_expr (z_call c_validate_phases (hr.mono (by decide)) (za_cons (zv 0) (za_cons (zv 1) za_nil)))) (zss_cons (zs_expr (z_call c_validate_ticks (hr.mono (by decide)) (za_cons (zv 0) (za_cons (zv 2) za_nil)))) (zss_one (zs_ret (z_call c_flow (hr.mono (by decide)) (za_cons (zv 0) (za_cons (zv 1) (za_cons (zv 2) za_nil))))))))
abbrev s_carries : Stmt := topS 26
theorem sc_carries : FnScope N_carries ["net", "phases", "ticks"] (defScope s_carries) := ⟨rfl, rfl, rfl, by decide +kernel, rfl, by decide +kernel, by decide +kernel⟩
theorem ok_carries {f : Addr} {fd : FuncData} {f_checked_flow : Addr} {d_checked_flow : FuncData} (F : FnP K "carries" s_carries f fd) (c_checked_flow : Cal P w K mg base 8 "checked_flow" f_checked_flow d_checked_flow ["net", "phases", "ticks"] sp_checked_flow) : FnOk P w K mg base (L2.CX P w) 9 f fd ["net", "phases", "ticks"] (liftSp K sp_carries) := by
  refine zfunD (k := 8) F sc_carries len_carries r_carries (fun cdv A outer s H E hr => ?_) pure_carries
  have nd := sc_carries.nd
  have hu := hu_of hr
  exact (zss_one (zs_ret (z_ix (ix_all hu) l_ix (z_call c_checked_flow (hr.mono (by decide)) (za_cons (zv 0) (za_cons (zv 1) (za_cons (zv 2) za_nil)))) z_int (fun _ _ => rfl))))
abbrev s_own_relevant : Stmt := topS 28
theorem sc_own_relevant : FnScope N_own_relevant ["net", "output"] (defScope s_own_relevant) := ⟨rfl, rfl, rfl, by decide +kernel, rfl, by decide +kernel, by decide +kernel⟩
theorem ok_own_relevant {f : Addr} {fd : FuncData} (F : FnP K "own_relevant" s_own_relevant f fd) (g_sorted : mg "sorted" = none) (g_tuple : mg "tuple" = none) : FnOk P w K mg base (L2.CX P w) 1 f fd ["net", "output"] (liftSp K sp_own_relevant) := by
  refine zfunD (k := 0) F sc_own_relevant len_own_relevant r_own_relevant (fun cdv A outer s H E hr => ?_) pure_own_relevant
  have nd := sc_own_relevant.nd
  have hu := hu_of hr
  exact (zss_cons (zs_set 2 nd (z_disp true (trs := [((zVar 1), (zC (.bl true)))]) (pps_cons (zv 1) z_bl pps_nil))) (zss_cons (zs_for PassesOwn.never rfl (zi_seq (z_callBK cr_sortR3 l_sortR3 rfl g_sorted boot_sorted (za_cons (z_ix (ix_all hu) l_ix (zv 0) z_int (fun _ _ => rfl)) za_nil) (zk_cons z_bl zk_nil))) (zg_tup rfl (zgs_cons (zg_name 3 nd) (zgs_cons (zg_name 4 nd) (zgs_cons (zg_name 5 nd) zgs_nil)))) (zss_one (zs_if (zt_cmp (op_inAll hu) l_in (zv 4) (zv 2) rfl) (zss_one (zs_asg z_bl (zg_sub (zv 2) (zv 3) (set_all hu) l_set))) zss_nil))) (zss_one (zs_ret (z_callTy call_tupF l_tupleF rfl g_tuple boot_tuple (za_cons (z_callB (call_sortedDI rfl) l_sortedDI rfl g_sorted boot_sorted (za_cons (zv 2) za_nil)) za_nil))))))
abbrev s_relevant : Stmt := topS 29
theorem sc_relevant : FnScope N_relevant ["net", "output"] (defScope s_relevant) := ⟨rfl, rfl, rfl, by decide +kernel, rfl, by decide +kernel, by decide +kernel⟩
theorem ok_relevant {f : Addr} {fd : FuncData} {f_validate_net : Addr} {d_validate_net : FuncData} {f_require_counter : Addr} {d_require_counter : FuncData} {f_own_relevant : Addr} {d_own_relevant : FuncData} (F : FnP K "relevant" s_relevant f fd) (c_validate_net : Cal P w K mg base 6 "validate_net" f_validate_net d_validate_net ["net"] sp_validate_net) (c_require_counter : Cal P w K mg base 3 "require_counter" f_require_counter d_require_counter ["net", "counter"] sp_require_counter) (c_own_relevant : Cal P w K mg base 1 "own_relevant" f_own_relevant d_own_relevant ["net", "output"] sp_own_relevant) : FnOk P w K mg base (L2.CX P w) 7 f fd ["net", "output"] (liftSp K sp_relevant) := by
  refine zfunD (k := 6) F sc_relevant len_relevant r_relevant (fun cdv A outer s H E hr => ?_) pure_relevant
  have nd := sc_relevant.nd
  exact (zss_cons (zs_expr (z_call c_validate_net (hr.mono (by decide)) (za_cons (zv 0) za_nil))) (zss_cons (zs_expr (z_call c_require_counter (hr.mono (by decide)) (za_cons (zv 0) (za_cons (zv 1) za_nil)))) (zss_one (zs_ret (z_call c_own_relevant (hr.mono (by decide)) (za_cons (zv 0) (za_cons (zv 1) za_nil)))))))
abbrev s_trimmed : Stmt := topS 30
theorem sc_trimmed : FnScope N_trimmed ["net", "output"] (defScope s_trimmed) := ⟨rfl, rfl, rfl, by decide +kernel, rfl, by decide +kernel, by decide +kernel⟩
theorem ok_trimmed {f : Addr} {fd : FuncData} {f_relevant : Addr} {d_relevant : FuncData} (F : FnP K "trimmed" s_trimmed f fd) (g_enumerate : mg "enumerate" = none) (g_tuple : mg "tuple" = none) (c_relevant : Cal P w K mg base 7 "relevant" f_relevant d_relevant ["net", "output"] sp_relevant) : FnOk P w K mg base (L2.CX P w) 8 f fd ["net", "output"] (liftSp K sp_trimmed) := by
  refine zfunD (k := 7) F sc_trimmed len_trimmed r_trimmed (fun cdv A outer s H E hr => ?_) pure_trimmed
  have nd := sc_trimmed.nd
  have hu := hu_of hr
  exact (zss_cons (zs_set 2 nd (z_call c_relevant (hr.mono (by decide)) (za_cons (zv 0) (za_cons (zv 1) za_nil)))) (zss_cons (zs_asg (zv 0) (zg_tup rfl (zgs_cons (zg_name 3 nd) (zgs_cons (zg_name 4 nd) (zgs_cons (zg_name 5 nd) zgs_nil))))) (zss_cons (zs_set 6 nd (z_dc false rfl nd (zi_enum g_enumerate (za_cons (zv 2) za_nil)) (blkOk_by (own := [("place", 7), ("counter", 8)]) (by show blkC N_trimmed (defScope s_trimmed) _ _ = true; decide +kernel)) (fun _ _ _ _ _ => (pg_tup rfl (pgs_cons (pg_name (i := 7) nd rfl (by first | exact .inl rfl | exact .inr rfl)) (pgs_cons (pg_name (i := 8) nd rfl (by first | exact .inl rfl | exact .inr rfl)) pgs_nil)))) (gw_tup (gws_cons (gw_name 7) (gws_cons (gw_name 8) gws_nil))) (fun _ _ _ _ _ => zts_nil) (fun _ _ _ _ _ => (zv 8)) (fun _ _ _ _ _ => (zv 7)))) (zss_cons (zs_setLc false 9 rfl nd (sw_true rfl rfl rfl (by decide +kernel)) (zi_seq (zv 4)) (blkOk_by (own := [("wire", 10)]) (by show blkC N_trimmed (defScope s_trimmed) _ _ = true; decide +kernel)) (fun _ _ _ _ _ => (pg_name (i := 10) nd rfl (by first | exact .inl rfl | exact .inr rfl))) (gw_name 10) (fun _ _ _ _ _ => zts_one (zt_cmp (op_inAll hu) l_in (z_ix (ix_all hu) l_ix (zv 10) z_int (fun _ _ => rfl)) (zv 6) rfl)) (fun _ _ _ _ _ => (z_tup (za_cons (z_ix (ix_all hu) l_ix (zv 6) (z_ix (ix_all hu) l_ix (zv 10) z_int (fun _ _ => rfl)) (fun _ _ => rfl)) (za_cons (z_ix (ix_all hu) l_ix (zv 6) (z_ix (ix_all hu) l_ix (zv 10) z_int (fun _ _ => rfl)) (fun _ _ => rfl)) (za_cons (z_ix (ix_all hu) l_ix (zv 10) z_int (fun _ _ => rfl)) za_nil)))))) (zss_cons (zs_set 11 nd (z_callTy call_tuple_of l_tuple rfl g_tuple boot_tuple (za_cons (z_lc false rfl nd (zi_seq (zv 5)) (blkOk_by (own := [("counter", 8)]) (by show blkC N_trimmed (defScope s_trimmed) _ _ = true; decide +kernel)) (fun _ _ _ _ _ => (pg_name (i := 8) nd rfl (by first | exact .inl rfl | exact .inr rfl))) (gw_name 8) (fun _ _ _ _ _ => zts_one (zt_cmp (op_inAll hu) l_in (zv 8) (zv 6) rfl)) (fun _ _ _ _ _ => (z_ix (ix_all hu) l_ix (zv 6) (zv 8) (fun _ _ => rfl)))) za_nil))) (zss_one (zs_ret (z_tup (za_cons (z_tup (za_cons (z_callTy call_tuple_of l_tuple rfl g_tuple boot_tuple (za_cons (z_lc false rfl nd (zi_seq (zv 2)) (blkOk_by (own := [("counter", 8)]) (by show blkC N_trimmed (defScope s_trimmed) _ _ = true; decide +kernel)) (fun _ _ _ _ _ => (pg_name (i := 8) nd rfl (by first | exact .inl rfl | exact .inr rfl))) (gw_name 8) (fun _ _ _ _ _ => zts_nil) (fun _ _ _ _ _ => (z_ix (ix_all hu) l_ix (zv 3) (zv 8) (fun _ _ => rfl)))) za_nil)) (za_cons (z_callTy call_tuple_of l_tuple rfl g_tuple boot_tuple (za_cons (zv 9) za_nil)) (za_cons (zv 11) za_nil)))) (za_cons (zv 2) za_nil))))))))))
abbrev s_lowest_terms : Stmt := topS 32
theorem sc_lowest_terms : FnScope N_lowest_terms ["above", "below"] (defScope s_lowest_terms) := ⟨rfl, rfl, rfl, by decide +kernel, rfl, by decide +kernel, by decide +kernel⟩
theorem ok_lowest_terms {f : Addr} {fd : FuncData} (F : FnP K "lowest_terms" s_lowest_terms f fd) (g_abs : mg "abs" = none) : FnOk P w K mg base (L2.CX P w) 1 f fd ["above", "below"] (liftSp K sp_lowest_terms) := by
  refine zfunD (k := 0) F sc_lowest_terms len_lowest_terms r_lowest_terms (fun cdv A outer s H E hr => ?_) pure_lowest_terms
  have nd := sc_lowest_terms.nd
  exact (zss_cons (zs_par 2 3 rfl nd (za_cons (z_callB call_abs l_abs rfl g_abs boot_abs (za_cons (zv 0) za_nil)) (za_cons (z_callB call_abs l_abs rfl g_abs boot_abs (za_cons (zv 1) za_nil)) za_nil))) (zss_cons (zs_while PassesOwn.never (zt_cmp op_gt l_gt (zv 3) z_int (nomark _)) (zss_one (zs_par 2 3 rfl nd (za_cons (zv 3) (za_cons (z_op op_mod l_mod (zv 2) (zv 3)) za_nil))))) (zss_cons (zs_set 4 nd (z_ifExp (zt_cmp op_gt l_gt (zv 1) z_int (nomark _)) z_int (z_un un_neg l_neg z_int))) (zss_one (zs_ret (z_tup (za_cons (z_op op_fdivW l_fdiv (z_op op_mulAll (l_mul false) (zv 4) (zv 0)) (zv 2)) (za_cons (z_op op_fdivW l_fdiv (z_op op_mulAll (l_mul false) (zv 4) (zv 1)) (zv 2)) za_nil))))))))
abbrev s_added : Stmt := topS 33
theorem sc_added : FnScope N_added ["one", "other"] (defScope s_added) := ⟨rfl, rfl, rfl, by decide +kernel, rfl, by decide +kernel, by decide +kernel⟩
theorem ok_added {f : Addr} {fd : FuncData} {f_lowest_terms : Addr} {d_lowest_terms : FuncData} (F : FnP K "added" s_added f fd) (c_lowest_terms : Cal P w K mg base 1 "lowest_terms" f_lowest_terms d_lowest_terms ["above", "below"] sp_lowest_terms) : FnOk P w K mg base (L2.CX P w) 2 f fd ["one", "other"] (liftSp K sp_added) := by
  refine zfunD (k := 1) F sc_added len_added r_added (fun cdv A outer s H E hr => ?_) pure_added
  have nd := sc_added.nd
  have hu := hu_of hr
  exact (zss_one (zs_ret (z_call c_lowest_terms (hr.mono (by decide)) (za_cons (z_op op_addAll (l_add false) (z_op op_mulAll (l_mul false) (z_ix (ix_all hu) l_ix (zv 0) z_int (fun _ _ => rfl)) (z_ix (ix_all hu) l_ix (zv 1) z_int (fun _ _ => rfl))) (z_op op_mulAll (l_mul false) (z_ix (ix_all hu) l_ix (zv 1) z_int (fun _ _ => rfl)) (z_ix (ix_all hu) l_ix (zv 0) z_int (fun _ _ => rfl)))) (za_cons (z_op op_mulAll (l_mul false) (z_ix (ix_all hu) l_ix (zv 0) z_int (fun _ _ => rfl)) (z_ix (ix_all hu) l_ix (zv 1) z_int (fun _ _ => rfl))) za_nil)))))
abbrev s_scaled : Stmt := topS 34
theorem sc_scaled : FnScope N_scaled ["fraction", "factor"] (defScope s_scaled) := ⟨rfl, rfl, rfl, by decide +kernel, rfl, by decide +kernel, by decide +kernel⟩
theorem ok_scaled {f : Addr} {fd : FuncData} {f_lowest_terms : Addr} {d_lowest_terms : FuncData} (F : FnP K "scaled" s_scaled f fd) (c_lowest_terms : Cal P w K mg base 1 "lowest_terms" f_lowest_terms d_lowest_terms ["above", "below"] sp_lowest_terms) : FnOk P w K mg base (L2.CX P w) 2 f fd ["fraction", "factor"] (liftSp K sp_scaled) := by
  refine zfunD (k := 1) F sc_scaled len_scaled r_scaled (fun cdv A outer s H E hr => ?_) pure_scaled
  have nd := sc_scaled.nd
  have hu := hu_of hr
  exact (zss_one (zs_ret (z_call c_lowest_terms (hr.mono (by decide)) (za_cons (z_op op_mulAll (l_mul false) (z_ix (ix_all hu) l_ix (zv 0) z_int (fun _ _ => rfl)) (zv 1)) (za_cons (z_ix (ix_all hu) l_ix (zv 0) z_int (fun _ _ => rfl)) za_nil)))))
abbrev s_own_gains : Stmt := topS 35
theorem sc_own_gains : FnScope N_own_gains ["net", "output"] (defScope s_own_gains) := ⟨rfl, rfl, rfl, by decide +kernel, rfl, by decide +kernel, by decide +kernel⟩
theorem ok_own_gains {f : Addr} {fd : FuncData} {f_added : Addr} {d_added : FuncData} {f_scaled : Addr} {d_scaled : FuncData} {f_lowest_terms : Addr} {d_lowest_terms : FuncData} (F : FnP K "own_gains" s_own_gains f fd) (g_len : mg "len" = none) (g_range : mg "range" = none) (g_int : mg "int" = none) (g_tuple : mg "tuple" = none) (c_added : Cal P w K mg base 2 "added" f_added d_added ["one", "other"] sp_added) (c_scaled : Cal P w K mg base 2 "scaled" f_scaled d_scaled ["fraction", "factor"] sp_scaled) (c_lowest_terms : Cal P w K mg base 1 "lowest_terms" f_lowest_terms d_lowest_terms ["above", "below"] sp_lowest_terms) : FnOk P w K mg base (L2.CX P w) 3 f fd ["net", "output"] (liftSp K sp_own_gains) := by
  refine zfunD (k := 2) F sc_own_gains len_own_gains r_own_gains (fun cdv A outer s H E hr => ?_) pure_own_gains
  have nd := sc_own_gains.nd
  have hu := hu_of hr
  exact (zss_cons (zs_asg (zv 0) (zg_tup rfl (zgs_cons (zg_name 2 nd) (zgs_cons (zg_name 3 nd) (zgs_cons (zg_name 4 nd) zgs_nil))))) (zss_cons (zs_set 5 nd (z_op op_mulAll (l_mul true) (z_lst false (za_cons (z_tup (za_cons z_int (za_cons z_int za_nil))) za_nil)) (z_callB call_lenAll l_len rfl g_len boot_len (za_cons (zv 2) za_nil)))) (zss_cons (zs_for PassesOwn.never rfl (zi_range3 g_range (za_cons (z_op op_sub l_sub (z_callB call_lenAll l_len rfl g_len boot_len (za_cons (zv 2) za_nil)) z_int) (za_cons (z_un un_neg l_neg z_int) (za_cons (z_un un_neg l_neg z_int) za_nil)))) (zg_name 6 nd) (zss_cons (zs_set 7 nd (z_tup (za_cons (z_callTy call_int1 l_int1 rfl g_int boot_int (za_cons (z_cmp (op_eqD hr.units) l_eq (zv 6) (zv 1) (nomark _)) za_nil)) (za_cons z_int za_nil)))) (zss_cons (zs_for PassesOwn.never rfl (zi_seq (zv 3)) (zg_tup rfl (zgs_cons (zg_name 8 nd) (zgs_cons (zg_name 9 nd) (zgs_cons (zg_name 10 nd) zgs_nil)))) (zss_one (zs_if (zt_cmp (op_eqD hr.units) l_eq (zv 8) (zv 6) (nomark _)) (zss_one (zs_set 7 nd (z_call c_added (hr.mono (by decide)) (za_cons (zv 7) (za_cons (z_call c_scaled (hr.mono (by decide)) (za_cons (z_ix (ix_all hu) l_ix (zv 5) (zv 9) (fun _ _ => rfl)) (za_cons (zv 10) za_nil))) za_nil))))) zss_nil))) (zss_one (zs_asg (z_call c_lowest_terms (hr.mono (by decide)) (za_cons (z_ix (ix_all hu) l_ix (zv 7) z_int (fun _ _ => rfl)) (za_cons (z_op op_mulAll (l_mul false) (z_ix (ix_all hu) l_ix (zv 7) z_int (fun _ _ => rfl)) (z_ix (ix_all hu) l_ix (zv 2) (zv 6) (fun _ _ => rfl))) za_nil))) (zg_sub (zv 5) (zv 6) (set_all hu) l_set)))))) (zss_one (zs_ret (z_callTy call_tuple_of l_tuple rfl g_tuple boot_tuple (za_cons (zv 5) za_nil)))))))
abbrev s_gains : Stmt := topS 36
theorem sc_gains : FnScope N_gains ["net", "output"] (defScope s_gains) := ⟨rfl, rfl, rfl, by decide +kernel, rfl, by decide +kernel, by decide +kernel⟩
theorem ok_gains {f : Addr} {fd : FuncData} {f_validate_net : Addr} {d_validate_net : FuncData} {f_require_counter : Addr} {d_require_counter : FuncData} {f_own_gains : Addr} {d_own_gains : FuncData} (F : FnP K "gains" s_gains f fd) (c_validate_net : Cal P w K mg base 6 "validate_net" f_validate_net d_validate_net ["net"] sp_validate_net) (c_require_counter : Cal P w K mg base 3 "require_counter" f_require_counter d_require_counter ["net", "counter"] sp_require_counter) (c_own_gains : Cal P w K mg base 3 "own_gains" f_own_gains d_own_gains ["net", "output"] sp_own_gains) : FnOk P w K mg base (L2.CX P w) 7 f fd ["net", "output"] (liftSp K sp_gains) := by
  refine zfunD (k := 6) F sc_gains len_gains r_gains (fun cdv A outer s H E hr => ?_) pure_gains
  have nd := sc_gains.nd
  exact (zss_cons (zs_expr (z_call c_validate_net (hr.mono (by decide)) (za_cons (zv 0) za_nil))) (zss_cons (zs_expr (z_call c_require_counter (hr.mono (by decide)) (za_cons (zv 0) (za_cons (zv 1) za_nil)))) (zss_one (zs_ret (z_call c_own_gains (hr.mono (by decide)) (za_cons (zv 0) (za_cons (zv 1) za_nil)))))))
abbrev s__law_begun : Stmt := topS 38
theorem sc__law_begun : FnScope N__law_begun ["script"] (defScope s__law_begun) := ⟨rfl, rfl, rfl, by decide +kernel, rfl, by decide +kernel, by decide +kernel⟩
theorem ok__law_begun {f : Addr} {fd : FuncData} (F : FnP K "_law_begun" s__law_begun f fd) : FnOk P w K mg base (L2.CX P w) 1 f fd ["script"] (liftSp K sp__law_begun) := by
  refine zfunD (k := 0) F sc__law_begun len__law_begun r__law_begun (fun cdv A outer s H E hr => ?_) pure__law_begun
  have nd := sc__law_begun.nd
  exact (zss_one (zs_ret (z_disp true (trs := [((zC (.str "script")), (zVar 0)), ((zC (.str "at")), (zC (.int 0))), ((zC (.str "left")), (zC (.int 0)))]) (pps_cons z_str (zv 0) (pps_cons z_str z_int (pps_cons z_str z_int pps_nil))))))
abbrev s__law_next : Stmt := topS 39
theorem sc__law_next : FnScope N__law_next ["m", "total"] (defScope s__law_next) := ⟨rfl, rfl, rfl, by decide +kernel, rfl, by decide +kernel, by decide +kernel⟩
theorem ok__law_next {f : Addr} {fd : FuncData} (F : FnP K "_law_next" s__law_next f fd) (g_len : mg "len" = none) : FnOk P w K mg base (L2.CX P w) 1 f fd ["m", "total"] (liftSp K sp__law_next) := by
  refine zfunD (k := 0) F sc__law_next len__law_next r__law_next (fun cdv A outer s H E hr => ?_) pure__law_next
  have nd := sc__law_next.nd
  have hu := hu_of hr
  exact (zss_cons (zs_if (zt_cmp op_gt l_gt (z_ix (ix_all hu) l_ix (zv 0) z_str (fun _ _ => rfl)) z_int (nomark _)) (zss_cons (zs_set 2 nd (z_op op_mod l_mod (z_ix (ix_all hu) l_ix (zv 0) z_str (fun _ _ => rfl)) (zv 1))) (zss_cons (zs_asg (z_op op_fdivW l_fdiv (z_ix (ix_all hu) l_ix (zv 0) z_str (fun _ _ => rfl)) (zv 1)) (zg_sub (zv 0) z_str (set_all hu) l_set)) (zss_one (zs_ret (zv 2))))) zss_nil) (zss_cons (zs_set 3 nd (z_ix (ix_all hu) l_ix (zv 0) z_str (fun _ _ => rfl))) (zss_cons (zs_asg (z_op op_addAll (l_add false) (zv 3) z_int) (zg_sub (zv 0) z_str (set_all hu) l_set)) (zss_cons (zs_set 4 nd (z_ifExp (zt_cmp (op_neD hr.units) l_ne (z_ix (ix_all hu) l_ix (zv 0) z_str (fun _ _ => rfl)) (z_lst false za_nil) (nomark _)) (z_ix (ix_all hu) l_ix (z_ix (ix_all hu) l_ix (zv 0) z_str (fun _ _ => rfl)) (z_op op_mod l_mod (zv 3) (z_callB call_lenAll l_len rfl g_len boot_len (za_cons (z_ix (ix_all hu) l_ix (zv 0) z_str (fun _ _ => rfl)) za_nil))) (fun _ _ => rfl)) z_int)) (zss_cons (zs_if (zt_w (zw_and (zt_cmp op_ge l_ge (zv 4) (z_op op_pow l_pow z_int z_int) (nomark _)) (zw_and1 (zt_cmp op_lt l_lt (zv 3) (z_callB call_lenAll l_len rfl g_len boot_len (za_cons (z_ix (ix_all hu) l_ix (zv 0) z_str (fun _ _ => rfl)) za_nil)) (nomark _))))) (zss_cons (zs_asg (z_op op_fdivW l_fdiv (zv 4) (zv 1)) (zg_sub (zv 0) z_str (set_all hu) l_set)) (zss_one (zs_ret (z_op op_mod l_mod (zv 4) (zv 1))))) zss_nil) (zss_cons (zs_set 5 nd (z_op op_addAll (l_add false) (z_op op_mulAll (l_mul false) (z_op op_mod l_mod (zv 4) z_int) z_int) (z_op op_mod l_mod (z_op op_fdivW l_fdiv (zv 4) z_int) z_int))) (zss_cons (zs_set 5 nd (z_op op_mod l_mod (z_op op_addAll (l_add false) (z_op op_addAll (l_add false) (z_op op_addAll (l_add false) (zv 5) (z_op op_mulAll (l_mul false) (z_op op_mulAll (l_mul false) z_int (zv 3)) (zv 3))) (z_op op_mulAll (l_mul false) z_int (zv 3))) z_int) z_int)) (zss_one (zs_ret (z_op op_mod l_mod (z_op op_fdivW l_fdiv (z_op op_mod l_mod (z_op op_mulAll (l_mul false) (z_op op_mod l_mod (z_op op_mulAll (l_mul false) (zv 5) (zv 5)) z_int) z_int) z_int) z_int) (zv 1)))))))))))
abbrev s__law_weight : Stmt := topS 41
theorem sc__law_weight : FnScope N__law_weight ["m"] (defScope s__law_weight) := ⟨rfl, rfl, rfl, by decide +kernel, rfl, by decide +kernel, by decide +kernel⟩
theorem ok__law_weight {f : Addr} {fd : FuncData} {f__law_next : Addr} {d__law_next : FuncData} (F : FnP K "_law_weight" s__law_weight f fd) (c__law_next : Cal P w K mg base 1 "_law_next" f__law_next d__law_next ["m", "total"] sp__law_next) : FnOk P w K mg base (L2.CX P w) 2 f fd ["m"] (liftSp K sp__law_weight) := by
  refine zfunD (k := 1) F sc__law_weight len__law_weight r__law_weight (fun cdv A outer s H E hr => ?_) pure__law_weight
  have nd := sc__law_weight.nd
  have hu := hu_of hr
  exact (zss_cons (zs_set 1 nd (z_lst false (za_cons z_int (za_cons (z_op op_sub l_sub z_int z_int) (za_cons (z_op op_addAll (l_add false) z_int (z_call c__law_next (hr.mono (by decide)) (za_cons (zv 0) (za_cons z_int za_nil)))) (za_cons (z_op op_sub l_sub (z_op op_sub l_sub z_int z_int) (z_call c__law_next (hr.mono (by decide)) (za_cons (zv 0) (za_cons z_int za_nil)))) (za_cons z_int (za_cons (z_op op_sub l_sub z_int z_int) za_nil)))))))) (zss_one (zs_ret (z_ix (ix_all hu) l_ix (zv 1) (z_call c__law_next (hr.mono (by decide)) (za_cons (zv 0) (za_cons z_int za_nil))) (fun _ _ => rfl)))))
abbrev s__law_net : Stmt := topS 42
theorem sc__law_net : FnScope N__law_net ["m", "most", "wide"] (defScope s__law_net) := ⟨rfl, rfl, rfl, by decide +kernel, rfl, by decide +kernel, by decide +kernel⟩
theorem ok__law_net {f : Addr} {fd : FuncData} {f__law_next : Addr} {d__law_next : FuncData} {f__law_weight : Addr} {d__law_weight : FuncData} (F : FnP K "_law_net" s__law_net f fd) (g_tuple : mg "tuple" = none) (g_range : mg "range" = none) (c__law_next : Cal P w K mg base 1 "_law_next" f__law_next d__law_next ["m", "total"] sp__law_next) (c__law_weight : Cal P w K mg base 2 "_law_weight" f__law_weight d__law_weight ["m"] sp__law_weight) : FnOk P w K mg base (L2.CX P w) 3 f fd ["m", "most", "wide"] (liftSp K sp__law_net) := by
  refine zfunD (k := 2) F sc__law_net len__law_net r__law_net (fun cdv A outer s H E hr => ?_) pure__law_net
  have nd := sc__law_net.nd
  exact (zss_cons (zs_set 3 nd (z_op op_addAll (l_add false) z_int (z_call c__law_next (hr.mono (by decide)) (za_cons (zv 0) (za_cons (zv 1) za_nil))))) (zss_cons (zs_set 4 nd (z_callTy call_tuple_of l_tuple rfl g_tuple boot_tuple (za_cons (z_lc false rfl nd (zi_range1 g_range (za_cons (zv 3) za_nil)) (blkOk_by (own := [("v", 5)]) (by show blkC N__law_net (defScope s__law_net) _ _ = true; decide +kernel)) (fun _ _ _ _ _ => (pg_name (i := 5) nd rfl (by first | exact .inl rfl | exact .inr rfl))) (gw_name 5) (fun _ _ _ _ _ => zts_nil) (fun _ _ _ _ _ => (z_op op_addAll (l_add false) z_int (z_call c__law_next (hr.mono (by decide)) (za_cons (zv 0) (za_cons (zv 2) za_nil)))))) za_nil))) (zss_cons (zs_set 6 nd (z_lst true za_nil)) (zss_cons (zs_for PassesOwn.never rfl (zi_range1 g_range (za_cons (zv 3) za_nil)) (zg_name 7 nd) (zss_one (zs_for PassesOwn.never rfl (zi_range2 g_range (za_cons (z_op op_addAll (l_add false) (zv 7) z_int) (za_cons (zv 3) za_nil))) (zg_name 5 nd) (zss_one (zs_if (zt_cmp (op_eqD hr.units) l_eq (z_call c__law_next (hr.mono (by decide)) (za_cons (zv 0) (za_cons z_int za_nil))) z_int (nomark _)) (zss_one (zs_expr (z_bm PySem.F.plainAttrs_list PySem.F.slot_list_append PySem.F.type_list_append mt_append l_append ty_list (zv 6) (za_cons (z_tup (za_cons (zv 7) (za_cons (zv 5) (za_cons (z_call c__law_weight (hr.mono (by decide)) (za_cons (zv 0) za_nil)) za_nil)))) za_nil)))) zss_nil))))) (zss_cons (zs_setLc false 8 rfl nd (sw_true rfl rfl rfl (by decide +kernel)) (zi_range1 g_range (za_cons (zv 3) za_nil)) (blkOk_by (own := [("v", 5)]) (by show blkC N__law_net (defScope s__law_net) _ _ = true; decide +kernel)) (fun _ _ _ _ _ => (pg_name (i := 5) nd rfl (by first | exact .inl rfl | exact .inr rfl))) (gw_name 5) (fun _ _ _ _ _ => zts_one (zt_cmp (op_eqD hr.units) l_eq (z_call c__law_next (hr.mono (by decide)) (za_cons (zv 0) (za_cons z_int za_nil))) z_int (nomark _))) (fun _ _ _ _ _ => (zv 5))) (zss_cons (zs_if (zt_w (zw_and (zt_cmp (op_eqD hr.units) l_eq (zv 8) (z_lst false za_nil) (nomark _)) (zw_and1 (zt_cmp op_gt l_gt (z_call c__law_next (hr.mono (by decide)) (za_cons (zv 0) (za_cons z_int za_nil))) z_int (nomark _))))) (zss_one (zs_set 8 nd (z_lst false (za_cons (z_call c__law_next (hr.mono (by decide)) (za_cons (zv 0) (za_cons (zv 3) za_nil))) za_nil)))) zss_nil) (zss_one (zs_ret (z_tup (za_cons (zv 4) (za_cons (z_callTy call_tuple_of l_tuple rfl g_tuple boot_tuple (za_cons (zv 6) za_nil)) (za_cons (z_callTy call_tuple_of l_tuple rfl g_tuple boot_tuple (za_cons (zv 8) za_nil)) za_nil))))))))))))
abbrev s__law_run : Stmt := topS 43
theorem sc__law_run : FnScope N__law_run ["mesh", "origin", "pulses"] (defScope s__law_run) := ⟨rfl, rfl, rfl, by decide +kernel, rfl, by decide +kernel, by decide +kernel⟩
theorem ok__law_run {f : Addr} {fd : FuncData} (F : FnP K "_law_run" s__law_run f fd) (g_list : mg "list" = none) (g_enumerate : mg "enumerate" = none) (g_tuple : mg "tuple" = none) : FnOk P w K mg base (L2.CX P w) 1 f fd ["mesh", "origin", "pulses"] (liftSp K sp__law_run) := by
  refine zfunD (k := 0) F sc__law_run len__law_run r__law_run (fun cdv A outer s H E hr => ?_) pure__law_run
  have nd := sc__law_run.nd
  have hu := hu_of hr
  exact (zss_cons (zs_par3 3 4 5 rfl nd (za_cons (z_callTy call_list_of (l_list true) rfl g_list boot_list (za_cons (zv 2) za_nil)) (za_cons (z_lst true za_nil) (za_cons (z_lst true za_nil) za_nil)))) (zss_cons (zs_for PassesOwn.never rfl (zi_enum g_enumerate (za_cons (z_ix (ix_all hu) l_ix (zv 0) z_int (fun _ _ => rfl)) za_nil)) (zg_tup rfl (zgs_cons (zg_name 6 nd) (zgs_cons (zg_name 7 nd) zgs_nil))) (zss_cons (zs_set 8 nd (z_op op_addAll (l_add false) (z_ix (ix_all hu) l_ix (zv 1) (zv 6) (fun _ _ => rfl)) (z_ix (ix_all hu) l_ix (zv 3) (zv 6) (fun _ _ => rfl)))) (zss_cons (zs_expr (z_bm PySem.F.plainAttrs_list PySem.F.slot_list_append PySem.F.type_list_append mt_append l_append ty_list (zv 4) (za_cons (z_op op_mod l_mod (zv 8) (zv 7)) za_nil))) (zss_cons (zs_expr (z_bm PySem.F.plainAttrs_list PySem.F.slot_list_append PySem.F.type_list_append mt_append l_append ty_list (zv 5) (za_cons (z_op op_fdivW l_fdiv (zv 8) (zv 7)) za_nil))) (zss_one (zs_for PassesOwn.never rfl (zi_seq (z_ix (ix_all hu) l_ix (zv 0) z_int (fun _ _ => rfl))) (zg_tup rfl (zgs_cons (zg_name 9 nd) (zgs_cons (zg_name 10 nd) (zgs_cons (zg_name 11 nd) zgs_nil)))) (zss_one (zs_if (zt_cmp (op_eqD hr.units) l_eq (zv 9) (zv 6) (nomark _)) (zss_one (zs_asg (z_op op_addAll (l_add false) (z_ix (ix_all hu) l_ix (zv 3) (zv 10) (fun _ _ => rfl)) (z_op op_mulAll (l_mul false) (zv 11) (z_ix (ix_all hu) l_ix (zv 5) (zv 6) (fun _ _ => rfl)))) (zg_sub (zv 3) (zv 10) (set_all hu) l_set))) zss_nil)))))))) (zss_one (zs_ret (z_tup (za_cons (z_callTy call_tuple_of l_tuple rfl g_tuple boot_tuple (za_cons (zv 4) za_nil)) (za_cons (z_callTy call_tuple_of l_tuple rfl g_tuple boot_tuple (za_cons (zv 5) za_nil)) za_nil)))))))
abbrev s__law_start : Stmt := topS 44
theorem sc__law_start : FnScope N__law_start ["m", "mesh"] (defScope s__law_start) := ⟨rfl, rfl, rfl, by decide +kernel, rfl, by decide +kernel, by decide +kernel⟩
theorem ok__law_start {f : Addr} {fd : FuncData} {f__law_next : Addr} {d__law_next : FuncData} (F : FnP K "_law_start" s__law_start f fd) (g_tuple : mg "tuple" = none) (c__law_next : Cal P w K mg base 1 "_law_next" f__law_next d__law_next ["m", "total"] sp__law_next) : FnOk P w K mg base (L2.CX P w) 2 f fd ["m", "mesh"] (liftSp K sp__law_start) := by
  refine zfunD (k := 1) F sc__law_start len__law_start r__law_start (fun cdv A outer s H E hr => ?_) pure__law_start
  have nd := sc__law_start.nd
  have hu := hu_of hr
  exact (zss_one (zs_ret (z_callTy call_tuple_of l_tuple rfl g_tuple boot_tuple (za_cons (z_lc false rfl nd (zi_seq (z_ix (ix_all hu) l_ix (zv 1) z_int (fun _ _ => rfl))) (blkOk_by (own := [("modulus", 2)]) (by show blkC N__law_start (defScope s__law_start) _ _ = true; decide +kernel)) (fun _ _ _ _ _ => (pg_name (i := 2) nd rfl (by first | exact .inl rfl | exact .inr rfl))) (gw_name 2) (fun _ _ _ _ _ => zts_nil) (fun _ _ _ _ _ => (z_call c__law_next (hr.mono (by decide)) (za_cons (zv 0) (za_cons (zv 2) za_nil))))) za_nil))))
abbrev s__law_pulses : Stmt := topS 45
theorem sc__law_pulses : FnScope N__law_pulses ["m", "mesh", "bound"] (defScope s__law_pulses) := ⟨rfl, rfl, rfl, by decide +kernel, rfl, by decide +kernel, by decide +kernel⟩
theorem ok__law_pulses {f : Addr} {fd : FuncData} {f__law_next : Addr} {d__law_next : FuncData} (F : FnP K "_law_pulses" s__law_pulses f fd) (g_range : mg "range" = none) (g_len : mg "len" = none) (g_tuple : mg "tuple" = none) (c__law_next : Cal P w K mg base 1 "_law_next" f__law_next d__law_next ["m", "total"] sp__law_next) : FnOk P w K mg base (L2.CX P w) 2 f fd ["m", "mesh", "bound"] (liftSp K sp__law_pulses) := by
  refine zfunD (k := 1) F sc__law_pulses len__law_pulses r__law_pulses (fun cdv A outer s H E hr => ?_) pure__law_pulses
  have nd := sc__law_pulses.nd
  have hu := hu_of hr
  exact (zss_cons (zs_set 3 nd (z_lst true za_nil)) (zss_cons (zs_for PassesOwn.never rfl (zi_range1 g_range (za_cons (z_callB call_lenAll l_len rfl g_len boot_len (za_cons (z_ix (ix_all hu) l_ix (zv 1) z_int (fun _ _ => rfl)) za_nil)) za_nil)) (zg_name 4 nd) (zss_cons (zs_set 5 nd (z_lst false (za_cons (z_op op_sub l_sub (z_call c__law_next (hr.mono (by decide)) (za_cons (zv 0) (za_cons (z_op op_addAll (l_add false) (z_op op_mulAll (l_mul false) z_int (zv 2)) z_int) za_nil))) (zv 2)) (za_cons z_int (za_cons z_int (za_cons (z_op op_sub l_sub (z_op op_pow l_pow z_int z_int) (z_call c__law_next (hr.mono (by decide)) (za_cons (zv 0) (za_cons z_int za_nil)))) (za_cons (z_op op_sub l_sub (z_call c__law_next (hr.mono (by decide)) (za_cons (zv 0) (za_cons z_int za_nil))) (z_op op_pow l_pow z_int z_int)) za_nil))))))) (zss_one (zs_expr (z_bm PySem.F.plainAttrs_list PySem.F.slot_list_append PySem.F.type_list_append mt_append l_append ty_list (zv 3) (za_cons (z_ifExp (zt_cmp (op_inAll hu) l_in (zv 4) (z_ix (ix_all hu) l_ix (zv 1) z_int (fun _ _ => rfl)) rfl) (z_ix (ix_all hu) l_ix (zv 5) (z_ix (ix_all hu) l_ix (z_lst false (za_cons z_int (za_cons z_int (za_cons z_int (za_cons z_int (za_cons z_int (za_cons z_int (za_cons z_int (za_cons z_int za_nil))))))))) (z_call c__law_next (hr.mono (by decide)) (za_cons (zv 0) (za_cons z_int za_nil))) (fun _ _ => rfl)) (fun _ _ => rfl)) z_int) za_nil)))))) (zss_one (zs_ret (z_callTy call_tuple_of l_tuple rfl g_tuple boot_tuple (za_cons (zv 3) za_nil))))))
abbrev s__law_leading : Stmt := topS 46
theorem sc__law_leading : FnScope N__law_leading ["mesh", "v"] (defScope s__law_leading) := ⟨rfl, rfl, rfl, by decide +kernel, rfl, by decide +kernel, by decide +kernel⟩
theorem ok__law_leading {f : Addr} {fd : FuncData} (F : FnP K "_law_leading" s__law_leading f fd) (g_range : mg "range" = none) (g_tuple : mg "tuple" = none) (g_sorted : mg "sorted" = none) : FnOk P w K mg base (L2.CX P w) 1 f fd ["mesh", "v"] (liftSp K sp__law_leading) := by
  refine zfunD (k := 0) F sc__law_leading len__law_leading r__law_leading (fun cdv A outer s H E hr => ?_) pure__law_leading
  have nd := sc__law_leading.nd
  have hu := hu_of hr
  exact (zss_cons (zs_set 2 nd (z_lst true (za_cons (zv 1) za_nil))) (zss_cons (zs_for PassesOwn.never rfl (zi_range3 g_range (za_cons (z_op op_sub l_sub (zv 1) z_int) (za_cons (z_op op_sub l_sub z_int z_int) (za_cons (z_op op_sub l_sub z_int z_int) za_nil)))) (zg_name 3 nd) (zss_one (zs_if (zt_cmp (op_neD hr.units) l_ne (z_lc false rfl nd (zi_seq (z_ix (ix_all hu) l_ix (zv 0) z_int (fun _ _ => rfl))) (blkOk_by (own := [("a", 4), ("b", 5), ("w", 6)]) (by show blkC N__law_leading (defScope s__law_leading) _ _ = true; decide +kernel)) (fun _ _ _ _ _ => (pg_tup rfl (pgs_cons (pg_name (i := 4) nd rfl (by first | exact .inl rfl | exact .inr rfl)) (pgs_cons (pg_name (i := 5) nd rfl (by first | exact .inl rfl | exact .inr rfl)) (pgs_cons (pg_name (i := 6) nd rfl (by first | exact .inl rfl | exact .inr rfl)) pgs_nil))))) (gw_tup (gws_cons (gw_name 4) (gws_cons (gw_name 5) (gws_cons (gw_name 6) gws_nil)))) (fun _ _ _ _ _ => zts_one (zt_w (zw_and (zt_cmp (op_eqD hr.units) l_eq (zv 4) (zv 3) (nomark _)) (zw_and1 (zt_cmp (op_inAll hu) l_in (zv 5) (zv 2) rfl))))) (fun _ _ _ _ _ => z_int)) (z_lst false za_nil) (nomark _)) (zss_one (zs_expr (z_bm PySem.F.plainAttrs_list PySem.F.slot_list_append PySem.F.type_list_append mt_append l_append ty_list (zv 2) (za_cons (zv 3) za_nil)))) zss_nil))) (zss_one (zs_ret (z_callTy call_tupF l_tupleF rfl g_tuple boot_tuple (za_cons (z_callB cr_sortedI l_sortedI rfl g_sorted boot_sorted (za_cons (zv 2) za_nil)) za_nil))))))
abbrev s__law_kept : Stmt := topS 47
theorem sc__law_kept : FnScope N__law_kept ["mesh", "some"] (defScope s__law_kept) := ⟨rfl, rfl, rfl, by decide +kernel, rfl, by decide +kernel, by decide +kernel⟩
theorem ok__law_kept {f : Addr} {fd : FuncData} (F : FnP K "_law_kept" s__law_kept f fd) (g_dict : mg "dict" = none) (g_enumerate : mg "enumerate" = none) (g_tuple : mg "tuple" = none) : FnOk P w K mg base (L2.CX P w) 1 f fd ["mesh", "some"] (liftSp K sp__law_kept) := by
  refine zfunD (k := 0) F sc__law_kept len__law_kept r__law_kept (fun cdv A outer s H E hr => ?_) pure__law_kept
  have nd := sc__law_kept.nd
  have hu := hu_of hr
  exact (zss_cons (zs_set 2 nd (z_callTy (call_dictP rfl) (l_dictOf false) rfl g_dict boot_dict (za_cons (z_lc false rfl nd (zi_enum g_enumerate (za_cons (zv 1) za_nil)) (blkOk_by (own := [("k", 3), ("v", 4)]) (by show blkC N__law_kept (defScope s__law_kept) _ _ = true; decide +kernel)) (fun _ _ _ _ _ => (pg_tup rfl (pgs_cons (pg_name (i := 3) nd rfl (by first | exact .inl rfl | exact .inr rfl)) (pgs_cons (pg_name (i := 4) nd rfl (by first | exact .inl rfl | exact .inr rfl)) pgs_nil)))) (gw_tup (gws_cons (gw_name 3) (gws_cons (gw_name 4) gws_nil))) (fun _ _ _ _ _ => zts_nil) (fun _ _ _ _ _ => (z_tup (za_cons (zv 4) (za_cons (zv 3) za_nil))))) za_nil))) (zss_cons (zs_set 5 nd (z_callTy call_tuple_of l_tuple rfl g_tuple boot_tuple (za_cons (z_lc false rfl nd (zi_seq (z_ix (ix_all hu) l_ix (zv 0) z_int (fun _ _ => rfl))) (blkOk_by (own := [("u", 6), ("v", 4), ("w", 7)]) (by show blkC N__law_kept (defScope s__law_kept) _ _ = true; decide +kernel)) (fun _ _ _ _ _ => (pg_tup rfl (pgs_cons (pg_name (i := 6) nd rfl (by first | exact .inl rfl | exact .inr rfl)) (pgs_cons (pg_name (i := 4) nd rfl (by first | exact .inl rfl | exact .inr rfl)) (pgs_cons (pg_name (i := 7) nd rfl (by first | exact .inl rfl | exact .inr rfl)) pgs_nil))))) (gw_tup (gws_cons (gw_name 6) (gws_cons (gw_name 4) (gws_cons (gw_name 7) gws_nil)))) (fun _ _ _ _ _ => zts_one (zt_w (zw_and (zt_cmp (op_inAll hu) l_in (zv 6) (zv 2) rfl) (zw_and1 (zt_cmp (op_inAll hu) l_in (zv 4) (zv 2) rfl))))) (fun _ _ _ _ _ => (z_tup (za_cons (z_ix (ix_all hu) l_ix (zv 2) (zv 6) (fun _ _ => rfl)) (za_cons (z_ix (ix_all hu) l_ix (zv 2) (zv 4) (fun _ _ => rfl)) (za_cons (zv 7) za_nil)))))) za_nil))) (zss_one (zs_ret (z_tup (za_cons (z_callTy call_tuple_of l_tuple rfl g_tuple boot_tuple (za_cons (z_lc false rfl nd (zi_seq (zv 1)) (blkOk_by (own := [("v", 4)]) (by show blkC N__law_kept (defScope s__law_kept) _ _ = true; decide +kernel)) (fun _ _ _ _ _ => (pg_name (i := 4) nd rfl (by first | exact .inl rfl | exact .inr rfl))) (gw_name 4) (fun _ _ _ _ _ => zts_nil) (fun _ _ _ _ _ => (z_ix (ix_all hu) l_ix (z_ix (ix_all hu) l_ix (zv 0) z_int (fun _ _ => rfl)) (zv 4) (fun _ _ => rfl)))) za_nil)) (za_cons (zv 5) (za_cons (z_callTy call_tuple_of l_tuple rfl g_tuple boot_tuple (za_cons (z_lc false rfl nd (zi_seq (z_ix (ix_all hu) l_ix (zv 0) z_int (fun _ _ => rfl))) (blkOk_by (own := [("v", 4)]) (by show blkC N__law_kept (defScope s__law_kept) _ _ = true; decide +kernel)) (fun _ _ _ _ _ => (pg_name (i := 4) nd rfl (by first | exact .inl rfl | exact .inr rfl))) (gw_name 4) (fun _ _ _ _ _ => zts_one (zt_cmp (op_inAll hu) l_in (zv 4) (zv 2) rfl)) (fun _ _ _ _ _ => (z_ix (ix_all hu) l_ix (zv 2) (zv 4) (fun _ _ => rfl)))) za_nil)) za_nil))))))))
abbrev s_law : Stmt := topS 48
theorem sc_law : FnScope N_law ["script"] (defScope s_law) := ⟨rfl, rfl, rfl, by decide +kernel, rfl, by decide +kernel, by decide +kernel⟩
theorem ok_law {f : Addr} {fd : FuncData} {f__law_begun : Addr} {d__law_begun : FuncData} {f__law_net : Addr} {d__law_net : FuncData} {f__law_next : Addr} {d__law_next : FuncData} {f__law_leading : Addr} {d__law_leading : FuncData} {f__law_kept : Addr} {d__law_kept : FuncData} {f_relevant : Addr} {d_relevant : FuncData} {f_trimmed : Addr} {d_trimmed : FuncData} {f_is_net : Addr} {d_is_net : FuncData} {f__law_start : Addr} {d__law_start : FuncData} {f__law_pulses : Addr} {d__law_pulses : FuncData} {f__law_run : Addr} {d__law_run : FuncData} {f_carries : Addr} {d_carries : FuncData} {f_gains : Addr} {d_gains : FuncData} (F : FnP K "law" s_law f fd) (g_range : mg "range" = none) (g_min : mg "min" = none) (g_len : mg "len" = none) (g_tuple : mg "tuple" = none) (g_enumerate : mg "enumerate" = none) (c__law_begun : Cal P w K mg base 1 "_law_begun" f__law_begun d__law_begun ["script"] sp__law_begun) (c__law_net : Cal P w K mg base 3 "_law_net" f__law_net d__law_net ["m", "most", "wide"] sp__law_net) (c__law_next : Cal P w K mg base 1 "_law_next" f__law_next d__law_next ["m", "total"] sp__law_next) (c__law_leading : Cal P w K mg base 1 "_law_leading" f__law_leading d__law_leading ["mesh", "v"] sp__law_leading) (c__law_kept : Cal P w K mg base 1 "_law_kept" f__law_kept d__law_kept ["mesh", "some"] sp__law_kept) (c_relevant : Cal P w K mg base 7 "relevant" f_relevant d_relevant ["net", "output"] sp_relevant) (k_relevant : ∀ ws : List Value, ws.length = ["net", "output"].length → bindArgs d_relevant ⟨[], (["net", "output"] : List Str).zip ws⟩ = pure ((["net", "output"] : List Str).zip ws)) (c_trimmed : Cal P w K mg base 8 "trimmed" f_trimmed d_trimmed ["net", "output"] sp_trimmed) (k_trimmed : ∀ ws : List Value, ws.length = ["net", "output"].length → bindArgs d_trimmed ⟨[], (["net", "output"] : List Str).zip ws⟩ = pure ((["net", "output"] : List Str).zip ws)) (c_is_net : Cal P w K mg base 6 "is_net" f_is_net d_is_net ["value"] sp_is_net) (c__law_start : Cal P w K mg base 2 "_law_start" f__law_start d__law_start ["m", "mesh"] sp__law_start) (c__law_pulses : Cal P w K mg base 2 "_law_pulses" f__law_pulses d__law_pulses ["m", "mesh", "bound"] sp__law_pulses) (c__law_run : Cal P w K mg base 1 "_law_run" f__law_run d__law_run ["mesh", "origin", "pulses"] sp__law_run) (c_carries : Cal P w K mg base 9 "carries" f_carries d_carries ["net", "phases", "ticks"] sp_carries) (c_gains : Cal P w K mg base 7 "gains" f_gains d_gains ["net", "output"] sp_gains) : FnOk P w K mg base CX0 10 f fd ["script"] (liftSp K sp_law) := by
  refine zfunD0 (k := 9) F sc_law len_law r_law (fun cdv A outer s H E hr => ?_) pure_law
  have nd := sc_law.nd
  have hu := hu_of hr
  exact (zss_cons (zs_set 1 nd (z_call c__law_begun (hr.mono (by decide)) (za_cons (zv 0) za_nil))) (zss_cons (zs_for PassesOwn.never rfl (zi_range1 g_range (za_cons (z_op op_addAll (l_add false) z_int (z_callB (call_min2 rfl) l_min2 rfl g_min boot_min (za_cons z_int (za_cons (z_callB call_lenAll l_len rfl g_len boot_len (za_cons (zv 0) za_nil)) za_nil)))) za_nil)) (zg_name 2 nd) (zss_cons (zs_set 3 nd (z_call c__law_net (hr.mono (by decide)) (za_cons (zv 1) (za_cons z_int (za_cons (z_ix (ix_all hu) l_ix (z_lst false (za_cons z_int (za_cons z_int za_nil))) (z_call c__law_next (hr.mono (by decide)) (za_cons (zv 1) (za_cons z_int za_nil))) (fun _ _ => rfl)) za_nil))))) (zss_cons (zs_set 4 nd (z_call c__law_next (hr.mono (by decide)) (za_cons (zv 1) (za_cons (z_callB call_lenAll l_len rfl g_len boot_len (za_cons (z_ix (ix_all hu) l_ix (zv 3) z_int (fun _ _ => rfl)) za_nil)) za_nil)))) (zss_cons (zs_set 5 nd (z_call c__law_leading (hr.mono (by decide)) (za_cons (zv 3) (za_cons (zv 4) za_nil)))) (zss_cons (zs_set 6 nd (z_call c__law_kept (hr.mono (by decide)) (za_cons (zv 3) (za_cons (zv 5) za_nil)))) (zss_cons (zs_if (zt_w (zw_or (zt_cmp (op_neD hr.units) l_ne (z_callK0 c_relevant (hr.mono (by decide)) (zk_cons (zv 3) (zk_cons (zv 4) zk_nil)) k_relevant) (zv 5) (nomark _)) (zw_or (zt_cmp (op_neD hr.units) l_ne (z_callK0 c_trimmed (hr.mono (by decide)) (zk_cons (zv 3) (zk_cons (zv 4) zk_nil)) k_trimmed) (z_tup (za_cons (zv 6) (za_cons (zv 5) za_nil))) (nomark _)) (zw_or1 (zt_not (zt_val (z_call c_is_net (hr.mono (by decide)) (za_cons (zv 6) za_nil)))))))) (zss_one (zs_ret z_bl)) zss_nil) (zss_cons (zs_par 7 8 rfl nd (za_cons (z_call c__law_start (hr.mono (by decide)) (za_cons (zv 1) (za_cons (zv 3) za_nil))) (za_cons (z_call c__law_pulses (hr.mono (by decide)) (za_cons (zv 1) (za_cons (zv 3) (za_cons z_int za_nil)))) za_nil))) (zss_cons (zs_setLc false 9 rfl nd (sw_true rfl rfl rfl (by decide +kernel)) (zi_seq (z_tup (za_cons (zv 7) (za_cons (zv 8) za_nil)))) (blkOk_by (own := [("values", 11)]) (by show blkC N_law (defScope s_law) _ _ = true; decide +kernel)) (fun _ _ _ _ _ => (pg_name (i := 11) nd rfl (by first | exact .inl rfl | exact .inr rfl))) (gw_name 11) (fun _ _ _ _ _ => zts_nil) (fun _ _ _ _ _ => (z_callTy call_tuple_of l_tuple rfl g_tuple boot_tuple (za_cons (z_lc false rfl nd (zi_seq (zv 5)) (blkOk_by (own := [("x", 10)]) (by rfl)) (fun _ _ _ _ _ => (pg_name (i := 10) nd rfl (by first | exact .inl rfl | exact .inr rfl))) (gw_name 10) (fun _ _ _ _ _ => zts_nil) (fun _ _ _ _ _ => (z_ix (ix_all hu) l_ix (zv 11) (zv 10) (fun _ _ => rfl)))) za_nil)))) (zss_cons (zs_set 12 nd (z_ix (ix_all hu) l_ix (z_ix (ix_all hu) l_ix (z_call c__law_run (hr.mono (by decide)) (za_cons (zv 3) (za_cons (zv 7) (za_cons (zv 8) za_nil)))) z_int (fun _ _ => rfl)) (zv 4) (fun _ _ => rfl))) (zss_cons (zs_if (zt_w (zw_or (zt_cmp (op_neD hr.units) l_ne (z_ix (ix_all hu) l_ix (z_call c_carries (hr.mono (by decide)) (za_cons (zv 3) (za_cons (zv 7) (za_cons (zv 8) za_nil)))) (zv 4) (fun _ _ => rfl)) (zv 12) (nomark _)) (zw_or1 (zt_cmp (op_neD hr.units) l_ne (z_ix (ix_all hu) l_ix (z_call c_carries (hr.mono (by decide)) (za_cons (zv 6) (za_cons (z_ix (ix_all hu) l_ix (zv 9) z_int (fun _ _ => rfl)) (za_cons (z_ix (ix_all hu) l_ix (zv 9) z_int (fun _ _ => rfl)) za_nil)))) (z_tix (zv 5) (za_cons (zv 4) za_nil)) (fun _ _ => rfl)) (zv 12) (nomark _))))) (zss_one (zs_ret z_bl)) zss_nil) (zss_cons (zs_set 13 nd (z_call c_gains (hr.mono (by decide)) (za_cons (zv 3) (za_cons (zv 4) za_nil)))) (zss_cons (zs_if (zt_cmp (op_neD hr.units) l_ne (z_callTy call_tuple_of l_tuple rfl g_tuple boot_tuple (za_cons (z_lc false rfl nd (zi_seq (zv 5)) (blkOk_by (own := [("x", 10)]) (by show blkC N_law (defScope s_law) _ _ = true; decide +kernel)) (fun _ _ _ _ _ => (pg_name (i := 10) nd rfl (by first | exact .inl rfl | exact .inr rfl))) (gw_name 10) (fun _ _ _ _ _ => zts_nil) (fun _ _ _ _ _ => (z_ix (ix_all hu) l_ix (zv 13) (zv 10) (fun _ _ => rfl)))) za_nil)) (z_call c_gains (hr.mono (by decide)) (za_cons (zv 6) (za_cons (z_tix (zv 5) (za_cons (zv 4) za_nil)) za_nil))) (nomark _)) (zss_one (zs_ret z_bl)) zss_nil) (zss_one (zs_if (zt_cmp (op_neD hr.units) l_ne (z_lc false rfl nd (zi_enum g_enumerate (za_cons (zv 13) za_nil)) (blkOk_by (own := [("x", 10), ("share", 14)]) (by show blkC N_law (defScope s_law) _ _ = true; decide +kernel)) (fun _ _ _ _ _ => (pg_tup rfl (pgs_cons (pg_name (i := 10) nd rfl (by first | exact .inl rfl | exact .inr rfl)) (pgs_cons (pg_name (i := 14) nd rfl (by first | exact .inl rfl | exact .inr rfl)) pgs_nil)))) (gw_tup (gws_cons (gw_name 10) (gws_cons (gw_name 14) gws_nil))) (fun _ _ _ _ _ => zts_one (zt_w (zw_and (zt_cmp (op_notInAll hu) l_notIn (zv 10) (zv 5) rfl) (zw_and1 (zt_cmp (op_neD hr.units) l_ne (zv 14) (z_tup (za_cons z_int (za_cons z_int za_nil))) (nomark _)))))) (fun _ _ _ _ _ => z_int)) (z_lst false za_nil) (nomark _)) (zss_one (zs_ret z_bl)) zss_nil)))))))))))))) (zss_one (zs_ret z_bl))))
end
set_option maxHeartbeats 0
/-! ### the head -/
def h_is_integer : He.DefD := ⟨("is_integer", none), "is_integer", "is_integer", defArgs s_is_integer, defBody s_is_integer, defScope s_is_integer, [], []⟩
def h_is_between : He.DefD := ⟨("is_between", none), "is_between", "is_between", defArgs s_is_between, defBody s_is_between, defScope s_is_between, [], []⟩
def h_is_wire : He.DefD := ⟨("is_wire", none), "is_wire", "is_wire", defArgs s_is_wire, defBody s_is_wire, defScope s_is_wire, [], []⟩
def h_moduli_problem : He.DefD := ⟨("moduli_problem", none), "moduli_problem", "moduli_problem", defArgs s_moduli_problem, defBody s_moduli_problem, defScope s_moduli_problem, [], []⟩
def h_wires_problem : He.DefD := ⟨("wires_problem", none), "wires_problem", "wires_problem", defArgs s_wires_problem, defBody s_wires_problem, defScope s_wires_problem, [], []⟩
def h_inputs_problem : He.DefD := ⟨("inputs_problem", none), "inputs_problem", "inputs_problem", defArgs s_inputs_problem, defBody s_inputs_problem, defScope s_inputs_problem, [], []⟩
def h_net_problem : He.DefD := ⟨("net_problem", none), "net_problem", "net_problem", defArgs s_net_problem, defBody s_net_problem, defScope s_net_problem, [], []⟩
def h_validate_net : He.DefD := ⟨("validate_net", none), "validate_net", "validate_net", defArgs s_validate_net, defBody s_validate_net, defScope s_validate_net, [], []⟩
def h_is_net : He.DefD := ⟨("is_net", none), "is_net", "is_net", defArgs s_is_net, defBody s_is_net, defScope s_is_net, [], []⟩
def h_require_counter : He.DefD := ⟨("require_counter", none), "require_counter", "require_counter", defArgs s_require_counter, defBody s_require_counter, defScope s_require_counter, [], []⟩
def h_validate_phases : He.DefD := ⟨("validate_phases", none), "validate_phases", "validate_phases", defArgs s_validate_phases, defBody s_validate_phases, defScope s_validate_phases, [], []⟩
def h_validate_ticks : He.DefD := ⟨("validate_ticks", none), "validate_ticks", "validate_ticks", defArgs s_validate_ticks, defBody s_validate_ticks, defScope s_validate_ticks, [], []⟩
def h_flow : He.DefD := ⟨("flow", none), "flow", "flow", defArgs s_flow, defBody s_flow, defScope s_flow, [], []⟩
def h_checked_flow : He.DefD := ⟨("checked_flow", none), "checked_flow", "checked_flow", defArgs s_checked_flow, defBody s_checked_flow, defScope s_checked_flow, [], []⟩
def h_carries : He.DefD := ⟨("carries", none), "carries", "carries", defArgs s_carries, defBody s_carries, defScope s_carries, [], []⟩
def h_own_relevant : He.DefD := ⟨("own_relevant", none), "own_relevant", "own_relevant", defArgs s_own_relevant, defBody s_own_relevant, defScope s_own_relevant, [], []⟩
def h_relevant : He.DefD := ⟨("relevant", none), "relevant", "relevant", defArgs s_relevant, defBody s_relevant, defScope s_relevant, [], []⟩
def h_trimmed : He.DefD := ⟨("trimmed", none), "trimmed", "trimmed", defArgs s_trimmed, defBody s_trimmed, defScope s_trimmed, [], []⟩
def h_lowest_terms : He.DefD := ⟨("lowest_terms", none), "lowest_terms", "lowest_terms", defArgs s_lowest_terms, defBody s_lowest_terms, defScope s_lowest_terms, [], []⟩
def h_added : He.DefD := ⟨("added", none), "added", "added", defArgs s_added, defBody s_added, defScope s_added, [], []⟩
def h_scaled : He.DefD := ⟨("scaled", none), "scaled", "scaled", defArgs s_scaled, defBody s_scaled, defScope s_scaled, [], []⟩
def h_own_gains : He.DefD := ⟨("own_gains", none), "own_gains", "own_gains", defArgs s_own_gains, defBody s_own_gains, defScope s_own_gains, [], []⟩
def h_gains : He.DefD := ⟨("gains", none), "gains", "gains", defArgs s_gains, defBody s_gains, defScope s_gains, [], []⟩
def h__law_begun : He.DefD := ⟨("_law_begun", none), "_law_begun", "_law_begun", defArgs s__law_begun, defBody s__law_begun, defScope s__law_begun, [], []⟩
def h__law_next : He.DefD := ⟨("_law_next", none), "_law_next", "_law_next", defArgs s__law_next, defBody s__law_next, defScope s__law_next, [], []⟩
def h__law_weight : He.DefD := ⟨("_law_weight", none), "_law_weight", "_law_weight", defArgs s__law_weight, defBody s__law_weight, defScope s__law_weight, [], []⟩
def h__law_net : He.DefD := ⟨("_law_net", none), "_law_net", "_law_net", defArgs s__law_net, defBody s__law_net, defScope s__law_net, [], []⟩
def h__law_run : He.DefD := ⟨("_law_run", none), "_law_run", "_law_run", defArgs s__law_run, defBody s__law_run, defScope s__law_run, [], []⟩
def h__law_start : He.DefD := ⟨("_law_start", none), "_law_start", "_law_start", defArgs s__law_start, defBody s__law_start, defScope s__law_start, [], []⟩
def h__law_pulses : He.DefD := ⟨("_law_pulses", none), "_law_pulses", "_law_pulses", defArgs s__law_pulses, defBody s__law_pulses, defScope s__law_pulses, [], []⟩
def h__law_leading : He.DefD := ⟨("_law_leading", none), "_law_leading", "_law_leading", defArgs s__law_leading, defBody s__law_leading, defScope s__law_leading, [], []⟩
def h__law_kept : He.DefD := ⟨("_law_kept", none), "_law_kept", "_law_kept", defArgs s__law_kept, defBody s__law_kept, defScope s__law_kept, [], []⟩
def h_law : He.DefD := ⟨("law", none), "law", "law", defArgs s_law, defBody s_law, defScope s_law, [], []⟩
def fn : List He.DefD := [h_is_integer, h_is_between, h_is_wire, h_moduli_problem, h_wires_problem, h_inputs_problem, h_net_problem, h_validate_net, h_is_net, h_require_counter, h_validate_phases, h_validate_ticks, h_flow, h_checked_flow, h_carries, h_own_relevant, h_relevant, h_trimmed, h_lowest_terms, h_added, h_scaled, h_own_gains, h_gains, h__law_begun, h__law_next, h__law_weight, h__law_net, h__law_run, h__law_start, h__law_pulses, h__law_leading, h__law_kept, h_law]
def fa : List He.Fa := [.glo "is_integer", .glo "is_between", .glo "is_wire", .glo "moduli_problem", .glo "wires_problem", .glo "inputs_problem", .glo "net_problem", .glo "validate_net", .glo "is_net", .glo "require_counter", .glo "validate_phases", .glo "validate_ticks", .glo "flow", .glo "checked_flow", .glo "carries", .glo "own_relevant", .glo "relevant", .glo "trimmed", .glo "lowest_terms", .glo "added", .glo "scaled", .glo "own_gains", .glo "gains", .glo "_law_begun", .glo "_law_next", .glo "_law_weight", .glo "_law_net", .glo "_law_run", .glo "_law_start", .glo "_law_pulses", .glo "_law_leading", .glo "_law_kept", .glo "law", .free "isinstance", .free "int", .free "bool", .free "tuple", .free "len", .int "MOST_WEIGHT" 100, .int "MOST_COUNTERS" 10, .free "enumerate", .int "MOST_MODULUS" 1000, .int "MOST_TICKS" 10000000000000000000000000000000000000000, .free "list", .free "divmod", .free "sorted", .free "abs", .free "range", .free "dict", .free "min"]
abbrev R : PySem.W.OpenRow := PySem.W.OpenLaw.row PySem.Challenge.rw_carrynet_k54_whole_trimmed_nets
abbrev hk : PySem.W.Hook := He.hookD 4 fa fn
def ob (s : PySem.W.SharedT) : He.AlD := He.obsDG 4 fa fn (HandSHeadRun.getT s)
theorem ob_eq (s : PySem.W.SharedT) : ob s = hk.obs s.abs := He.obsDG_eq (HandSHeadRun.getT_eq s)
def loose : List PySem.Str := (["CarryError", "InvalidNet", "InvalidPhases", "InvalidTicks", "InvalidCounter", "MOST_COUNTERS", "MOST_MODULUS", "MOST_WEIGHT", "MOST_TICKS", "is_integer", "is_between", "is_wire", "moduli_problem", "wires_problem", "inputs_problem", "net_problem", "validate_net", "is_net", "require_counter", "validate_phases", "validate_ticks", "flow", "checked_flow", "carries", "own_relevant", "relevant", "trimmed", "lowest_terms", "added", "scaled"] : List PySem.Str) ++ (["own_gains", "gains", "_law_begun", "_law_next", "_law_of", "_law_weight", "_law_net", "_law_run", "_law_start", "_law_pulses", "_law_leading", "_law_kept"] : List PySem.Str)
theorem run (w : World) : HandSHeadRun.RunEq R (PySem.W.view R.prog [48]) hk ob 4000 loose w := by
  intro os
  kernel_rfl
theorem facts {P : Program} {w : World} {K : PySem.W.Frag} {h : Heap} {mg : Str → Option Value} {f : Addr} (X : K.In h) (G : h.Ns mainGlobals mg) (hfa : mg ("law" : Str) = some (.ref f)) (c : He.SaysD fa fn K) :
    ∃ fd : FuncData, (∀ (s : Shared) (v : Value), BindsTo s fd ⟨[v], []⟩ [("script", v)]) ∧ ∀ base : Heap, K.In base → base.Ns mainGlobals mg → FnOk P w K mg base CX0 10 f fd ["script"] (liftSp K sp_law) := by
  obtain ⟨d_is_integer, F_is_integer⟩ := c.def_ 0 (d := h_is_integer) rfl
  obtain ⟨d_is_between, F_is_between⟩ := c.def_ 1 (d := h_is_between) rfl
  obtain ⟨d_is_wire, F_is_wire⟩ := c.def_ 2 (d := h_is_wire) rfl
  obtain ⟨d_moduli_problem, F_moduli_problem⟩ := c.def_ 3 (d := h_moduli_problem) rfl
  obtain ⟨d_wires_problem, F_wires_problem⟩ := c.def_ 4 (d := h_wires_problem) rfl
  obtain ⟨d_inputs_problem, F_inputs_problem⟩ := c.def_ 5 (d := h_inputs_problem) rfl
  obtain ⟨d_net_problem, F_net_problem⟩ := c.def_ 6 (d := h_net_problem) rfl
  obtain ⟨d_validate_net, F_validate_net⟩ := c.def_ 7 (d := h_validate_net) rfl
  obtain ⟨d_is_net, F_is_net⟩ := c.def_ 8 (d := h_is_net) rfl
  obtain ⟨d_require_counter, F_require_counter⟩ := c.def_ 9 (d := h_require_counter) rfl
  obtain ⟨d_validate_phases, F_validate_phases⟩ := c.def_ 10 (d := h_validate_phases) rfl
  obtain ⟨d_validate_ticks, F_validate_ticks⟩ := c.def_ 11 (d := h_validate_ticks) rfl
  obtain ⟨d_flow, F_flow⟩ := c.def_ 12 (d := h_flow) rfl
  obtain ⟨d_checked_flow, F_checked_flow⟩ := c.def_ 13 (d := h_checked_flow) rfl
  obtain ⟨d_carries, F_carries⟩ := c.def_ 14 (d := h_carries) rfl
  obtain ⟨d_own_relevant, F_own_relevant⟩ := c.def_ 15 (d := h_own_relevant) rfl
  obtain ⟨d_relevant, F_relevant⟩ := c.def_ 16 (d := h_relevant) rfl
  obtain ⟨d_trimmed, F_trimmed⟩ := c.def_ 17 (d := h_trimmed) rfl
  obtain ⟨d_lowest_terms, F_lowest_terms⟩ := c.def_ 18 (d := h_lowest_terms) rfl
  obtain ⟨d_added, F_added⟩ := c.def_ 19 (d := h_added) rfl
  obtain ⟨d_scaled, F_scaled⟩ := c.def_ 20 (d := h_scaled) rfl
  obtain ⟨d_own_gains, F_own_gains⟩ := c.def_ 21 (d := h_own_gains) rfl
  obtain ⟨d_gains, F_gains⟩ := c.def_ 22 (d := h_gains) rfl
  obtain ⟨d__law_begun, F__law_begun⟩ := c.def_ 23 (d := h__law_begun) rfl
  obtain ⟨d__law_next, F__law_next⟩ := c.def_ 24 (d := h__law_next) rfl
  obtain ⟨d__law_weight, F__law_weight⟩ := c.def_ 25 (d := h__law_weight) rfl
  obtain ⟨d__law_net, F__law_net⟩ := c.def_ 26 (d := h__law_net) rfl
  obtain ⟨d__law_run, F__law_run⟩ := c.def_ 27 (d := h__law_run) rfl
  obtain ⟨d__law_start, F__law_start⟩ := c.def_ 28 (d := h__law_start) rfl
  obtain ⟨d__law_pulses, F__law_pulses⟩ := c.def_ 29 (d := h__law_pulses) rfl
  obtain ⟨d__law_leading, F__law_leading⟩ := c.def_ 30 (d := h__law_leading) rfl
  obtain ⟨d__law_kept, F__law_kept⟩ := c.def_ 31 (d := h__law_kept) rfl
  obtain ⟨d_law, F_law⟩ := c.def_ 32 (d := h_law) rfl
  have m_is_integer := He.glo_ok X G (c.fact 0 (f := .glo "is_integer") rfl)
  have m_is_between := He.glo_ok X G (c.fact 1 (f := .glo "is_between") rfl)
  have m_is_wire := He.glo_ok X G (c.fact 2 (f := .glo "is_wire") rfl)
  have m_moduli_problem := He.glo_ok X G (c.fact 3 (f := .glo "moduli_problem") rfl)
  have m_wires_problem := He.glo_ok X G (c.fact 4 (f := .glo "wires_problem") rfl)
  have m_inputs_problem := He.glo_ok X G (c.fact 5 (f := .glo "inputs_problem") rfl)
  have m_net_problem := He.glo_ok X G (c.fact 6 (f := .glo "net_problem") rfl)
  have m_validate_net := He.glo_ok X G (c.fact 7 (f := .glo "validate_net") rfl)
  have m_is_net := He.glo_ok X G (c.fact 8 (f := .glo "is_net") rfl)
  have m_require_counter := He.glo_ok X G (c.fact 9 (f := .glo "require_counter") rfl)
  have m_validate_phases := He.glo_ok X G (c.fact 10 (f := .glo "validate_phases") rfl)
  have m_validate_ticks := He.glo_ok X G (c.fact 11 (f := .glo "validate_ticks") rfl)
  have m_flow := He.glo_ok X G (c.fact 12 (f := .glo "flow") rfl)
  have m_checked_flow := He.glo_ok X G (c.fact 13 (f := .glo "checked_flow") rfl)
  have m_carries := He.glo_ok X G (c.fact 14 (f := .glo "carries") rfl)
  have m_own_relevant := He.glo_ok X G (c.fact 15 (f := .glo "own_relevant") rfl)
  have m_relevant := He.glo_ok X G (c.fact 16 (f := .glo "relevant") rfl)
  have m_trimmed := He.glo_ok X G (c.fact 17 (f := .glo "trimmed") rfl)
  have m_lowest_terms := He.glo_ok X G (c.fact 18 (f := .glo "lowest_terms") rfl)
  have m_added := He.glo_ok X G (c.fact 19 (f := .glo "added") rfl)
  have m_scaled := He.glo_ok X G (c.fact 20 (f := .glo "scaled") rfl)
  have m_own_gains := He.glo_ok X G (c.fact 21 (f := .glo "own_gains") rfl)
  have m_gains := He.glo_ok X G (c.fact 22 (f := .glo "gains") rfl)
  have m__law_begun := He.glo_ok X G (c.fact 23 (f := .glo "_law_begun") rfl)
  have m__law_next := He.glo_ok X G (c.fact 24 (f := .glo "_law_next") rfl)
  have m__law_weight := He.glo_ok X G (c.fact 25 (f := .glo "_law_weight") rfl)
  have m__law_net := He.glo_ok X G (c.fact 26 (f := .glo "_law_net") rfl)
  have m__law_run := He.glo_ok X G (c.fact 27 (f := .glo "_law_run") rfl)
  have m__law_start := He.glo_ok X G (c.fact 28 (f := .glo "_law_start") rfl)
  have m__law_pulses := He.glo_ok X G (c.fact 29 (f := .glo "_law_pulses") rfl)
  have m__law_leading := He.glo_ok X G (c.fact 30 (f := .glo "_law_leading") rfl)
  have m__law_kept := He.glo_ok X G (c.fact 31 (f := .glo "_law_kept") rfl)
  have m_law := He.glo_ok X G (c.fact 32 (f := .glo "law") rfl)
  have g_isinstance := He.free_ok X G (c.fact 33 (f := .free "isinstance") rfl)
  have g_int := He.free_ok X G (c.fact 34 (f := .free "int") rfl)
  have g_bool := He.free_ok X G (c.fact 35 (f := .free "bool") rfl)
  have g_tuple := He.free_ok X G (c.fact 36 (f := .free "tuple") rfl)
  have g_len := He.free_ok X G (c.fact 37 (f := .free "len") rfl)
  have g_MOST_WEIGHT : GInt mg "MOST_WEIGHT" 100 := He.int_ok X G (c.fact 38 (f := .int "MOST_WEIGHT" 100) rfl)
  have g_MOST_COUNTERS : GInt mg "MOST_COUNTERS" 10 := He.int_ok X G (c.fact 39 (f := .int "MOST_COUNTERS" 10) rfl)
  have g_enumerate := He.free_ok X G (c.fact 40 (f := .free "enumerate") rfl)
  have g_MOST_MODULUS : GInt mg "MOST_MODULUS" 1000 := He.int_ok X G (c.fact 41 (f := .int "MOST_MODULUS" 1000) rfl)
  have g_MOST_TICKS : GInt mg "MOST_TICKS" 10000000000000000000000000000000000000000 := He.int_ok X G (c.fact 42 (f := .int "MOST_TICKS" 10000000000000000000000000000000000000000) rfl)
  have g_list := He.free_ok X G (c.fact 43 (f := .free "list") rfl)
  have g_divmod := He.free_ok X G (c.fact 44 (f := .free "divmod") rfl)
  have g_sorted := He.free_ok X G (c.fact 45 (f := .free "sorted") rfl)
  have g_abs := He.free_ok X G (c.fact 46 (f := .free "abs") rfl)
  have g_range := He.free_ok X G (c.fact 47 (f := .free "range") rfl)
  have g_dict := He.free_ok X G (c.fact 48 (f := .free "dict") rfl)
  have g_min := He.free_ok X G (c.fact 49 (f := .free "min") rfl)
  have e := hfa.symm.trans m_law
  cases e
  have b := FunD.bindsA (ps := ["script"]) F_law fun _ _ _ _ _ _ us hl => match us, hl with | [_], _ => rfl
  refine ⟨_, fun s v => b s [v] rfl, fun base _ _ => ?_⟩
  have c_is_integer : Cal P w K mg base 1 "is_integer" _ d_is_integer ["value"] sp_is_integer := ⟨ok_is_integer F_is_integer g_isinstance g_int g_bool, m_is_integer, F_is_integer.kp, FunD.bindsN F_is_integer fun _ _ _ _ _ _ us hl => match us, hl with | [_], _ => rfl⟩
  have c_is_between : Cal P w K mg base 2 "is_between" _ d_is_between ["value", "least", "most"] sp_is_between := ⟨ok_is_between F_is_between  c_is_integer, m_is_between, F_is_between.kp, FunD.bindsN F_is_between fun _ _ _ _ _ _ us hl => match us, hl with | [_, _, _], _ => rfl⟩
  have c_is_wire : Cal P w K mg base 3 "is_wire" _ d_is_wire ["value", "many"] sp_is_wire := ⟨ok_is_wire F_is_wire g_isinstance g_tuple g_len g_MOST_WEIGHT c_is_between, m_is_wire, F_is_wire.kp, FunD.bindsN F_is_wire fun _ _ _ _ _ _ us hl => match us, hl with | [_, _], _ => rfl⟩
  have c_moduli_problem : Cal P w K mg base 3 "moduli_problem" _ d_moduli_problem ["moduli"] sp_moduli_problem := ⟨ok_moduli_problem F_moduli_problem g_isinstance g_tuple g_len g_MOST_COUNTERS g_enumerate g_MOST_MODULUS c_is_between, m_moduli_problem, F_moduli_problem.kp, FunD.bindsN F_moduli_problem fun _ _ _ _ _ _ us hl => match us, hl with | [_], _ => rfl⟩
  have c_wires_problem : Cal P w K mg base 4 "wires_problem" _ d_wires_problem ["wires", "many"] sp_wires_problem := ⟨ok_wires_problem F_wires_problem g_isinstance g_tuple g_enumerate c_is_wire, m_wires_problem, F_wires_problem.kp, FunD.bindsN F_wires_problem fun _ _ _ _ _ _ us hl => match us, hl with | [_, _], _ => rfl⟩
  have c_inputs_problem : Cal P w K mg base 3 "inputs_problem" _ d_inputs_problem ["inputs", "many"] sp_inputs_problem := ⟨ok_inputs_problem F_inputs_problem g_isinstance g_tuple g_enumerate c_is_between, m_inputs_problem, F_inputs_problem.kp, FunD.bindsN F_inputs_problem fun _ _ _ _ _ _ us hl => match us, hl with | [_, _], _ => rfl⟩
  have c_net_problem : Cal P w K mg base 5 "net_problem" _ d_net_problem ["value"] sp_net_problem := ⟨ok_net_problem F_net_problem g_isinstance g_tuple g_len c_moduli_problem c_wires_problem c_inputs_problem, m_net_problem, F_net_problem.kp, FunD.bindsN F_net_problem fun _ _ _ _ _ _ us hl => match us, hl with | [_], _ => rfl⟩
  have c_validate_net : Cal P w K mg base 6 "validate_net" _ d_validate_net ["net"] sp_validate_net := ⟨ok_validate_net F_validate_net  c_net_problem, m_validate_net, F_validate_net.kp, FunD.bindsN F_validate_net fun _ _ _ _ _ _ us hl => match us, hl with | [_], _ => rfl⟩
  have c_is_net : Cal P w K mg base 6 "is_net" _ d_is_net ["value"] sp_is_net := ⟨ok_is_net F_is_net  c_net_problem, m_is_net, F_is_net.kp, FunD.bindsN F_is_net fun _ _ _ _ _ _ us hl => match us, hl with | [_], _ => rfl⟩
  have c_require_counter : Cal P w K mg base 3 "require_counter" _ d_require_counter ["net", "counter"] sp_require_counter := ⟨ok_require_counter F_require_counter g_len c_is_between, m_require_counter, F_require_counter.kp, FunD.bindsN F_require_counter fun _ _ _ _ _ _ us hl => match us, hl with | [_, _], _ => rfl⟩
  have c_validate_phases : Cal P w K mg base 7 "validate_phases" _ d_validate_phases ["net", "phases"] sp_validate_phases := ⟨ok_validate_phases F_validate_phases g_isinstance g_tuple g_len g_enumerate c_validate_net c_is_between, m_validate_phases, F_validate_phases.kp, FunD.bindsN F_validate_phases fun _ _ _ _ _ _ us hl => match us, hl with | [_, _], _ => rfl⟩
  have c_validate_ticks : Cal P w K mg base 7 "validate_ticks" _ d_validate_ticks ["net", "ticks"] sp_validate_ticks := ⟨ok_validate_ticks F_validate_ticks g_isinstance g_tuple g_len g_enumerate g_MOST_TICKS c_validate_net c_is_between, m_validate_ticks, F_validate_ticks.kp, FunD.bindsN F_validate_ticks fun _ _ _ _ _ _ us hl => match us, hl with | [_, _], _ => rfl⟩
  have c_flow : Cal P w K mg base 1 "flow" _ d_flow ["net", "phases", "vector"] sp_flow := ⟨ok_flow F_flow g_list g_enumerate g_divmod g_tuple, m_flow, F_flow.kp, FunD.bindsN F_flow fun _ _ _ _ _ _ us hl => match us, hl with | [_, _, _], _ => rfl⟩
  have c_checked_flow : Cal P w K mg base 8 "checked_flow" _ d_checked_flow ["net", "phases", "ticks"] sp_checked_flow := ⟨ok_checked_flow F_checked_flow  c_validate_phases c_validate_ticks c_flow, m_checked_flow, F_checked_flow.kp, FunD.bindsN F_checked_flow fun _ _ _ _ _ _ us hl => match us, hl with | [_, _, _], _ => rfl⟩
  have c_carries : Cal P w K mg base 9 "carries" _ d_carries ["net", "phases", "ticks"] sp_carries := ⟨ok_carries F_carries  c_checked_flow, m_carries, F_carries.kp, FunD.bindsN F_carries fun _ _ _ _ _ _ us hl => match us, hl with | [_, _, _], _ => rfl⟩
  have c_own_relevant : Cal P w K mg base 1 "own_relevant" _ d_own_relevant ["net", "output"] sp_own_relevant := ⟨ok_own_relevant F_own_relevant g_sorted g_tuple, m_own_relevant, F_own_relevant.kp, FunD.bindsN F_own_relevant fun _ _ _ _ _ _ us hl => match us, hl with | [_, _], _ => rfl⟩
  have c_relevant : Cal P w K mg base 7 "relevant" _ d_relevant ["net", "output"] sp_relevant := ⟨ok_relevant F_relevant  c_validate_net c_require_counter c_own_relevant, m_relevant, F_relevant.kp, FunD.bindsN F_relevant fun _ _ _ _ _ _ us hl => match us, hl with | [_, _], _ => rfl⟩
  have k_relevant : ∀ ws : List Value, ws.length = ["net", "output"].length → bindArgs d_relevant ⟨[], (["net", "output"] : List Str).zip ws⟩ = pure ((["net", "output"] : List Str).zip ws) := FunD.kwN (ps := ["net", "output"]) F_relevant fun _ _ _ _ _ _ us hl => match us, hl with | [_, _], _ => rfl
  have c_trimmed : Cal P w K mg base 8 "trimmed" _ d_trimmed ["net", "output"] sp_trimmed := ⟨ok_trimmed F_trimmed g_enumerate g_tuple c_relevant, m_trimmed, F_trimmed.kp, FunD.bindsN F_trimmed fun _ _ _ _ _ _ us hl => match us, hl with | [_, _], _ => rfl⟩
  have k_trimmed : ∀ ws : List Value, ws.length = ["net", "output"].length → bindArgs d_trimmed ⟨[], (["net", "output"] : List Str).zip ws⟩ = pure ((["net", "output"] : List Str).zip ws) := FunD.kwN (ps := ["net", "output"]) F_trimmed fun _ _ _ _ _ _ us hl => match us, hl with | [_, _], _ => rfl
  have c_lowest_terms : Cal P w K mg base 1 "lowest_terms" _ d_lowest_terms ["above", "below"] sp_lowest_terms := ⟨ok_lowest_terms F_lowest_terms g_abs, m_lowest_terms, F_lowest_terms.kp, FunD.bindsN F_lowest_terms fun _ _ _ _ _ _ us hl => match us, hl with | [_, _], _ => rfl⟩
  have c_added : Cal P w K mg base 2 "added" _ d_added ["one", "other"] sp_added := ⟨ok_added F_added  c_lowest_terms, m_added, F_added.kp, FunD.bindsN F_added fun _ _ _ _ _ _ us hl => match us, hl with | [_, _], _ => rfl⟩
  have c_scaled : Cal P w K mg base 2 "scaled" _ d_scaled ["fraction", "factor"] sp_scaled := ⟨ok_scaled F_scaled  c_lowest_terms, m_scaled, F_scaled.kp, FunD.bindsN F_scaled fun _ _ _ _ _ _ us hl => match us, hl with | [_, _], _ => rfl⟩
  have c_own_gains : Cal P w K mg base 3 "own_gains" _ d_own_gains ["net", "output"] sp_own_gains := ⟨ok_own_gains F_own_gains g_len g_range g_int g_tuple c_added c_scaled c_lowest_terms, m_own_gains, F_own_gains.kp, FunD.bindsN F_own_gains fun _ _ _ _ _ _ us hl => match us, hl with | [_, _], _ => rfl⟩
  have c_gains : Cal P w K mg base 7 "gains" _ d_gains ["net", "output"] sp_gains := ⟨ok_gains F_gains  c_validate_net c_require_counter c_own_gains, m_gains, F_gains.kp, FunD.bindsN F_gains fun _ _ _ _ _ _ us hl => match us, hl with | [_, _], _ => rfl⟩
  have c__law_begun : Cal P w K mg base 1 "_law_begun" _ d__law_begun ["script"] sp__law_begun := ⟨ok__law_begun F__law_begun, m__law_begun, F__law_begun.kp, FunD.bindsN F__law_begun fun _ _ _ _ _ _ us hl => match us, hl with | [_], _ => rfl⟩
  have c__law_next : Cal P w K mg base 1 "_law_next" _ d__law_next ["m", "total"] sp__law_next := ⟨ok__law_next F__law_next g_len, m__law_next, F__law_next.kp, FunD.bindsN F__law_next fun _ _ _ _ _ _ us hl => match us, hl with | [_, _], _ => rfl⟩
  have c__law_weight : Cal P w K mg base 2 "_law_weight" _ d__law_weight ["m"] sp__law_weight := ⟨ok__law_weight F__law_weight  c__law_next, m__law_weight, F__law_weight.kp, FunD.bindsN F__law_weight fun _ _ _ _ _ _ us hl => match us, hl with | [_], _ => rfl⟩
  have c__law_net : Cal P w K mg base 3 "_law_net" _ d__law_net ["m", "most", "wide"] sp__law_net := ⟨ok__law_net F__law_net g_tuple g_range c__law_next c__law_weight, m__law_net, F__law_net.kp, FunD.bindsN F__law_net fun _ _ _ _ _ _ us hl => match us, hl with | [_, _, _], _ => rfl⟩
  have c__law_run : Cal P w K mg base 1 "_law_run" _ d__law_run ["mesh", "origin", "pulses"] sp__law_run := ⟨ok__law_run F__law_run g_list g_enumerate g_tuple, m__law_run, F__law_run.kp, FunD.bindsN F__law_run fun _ _ _ _ _ _ us hl => match us, hl with | [_, _, _], _ => rfl⟩
  have c__law_start : Cal P w K mg base 2 "_law_start" _ d__law_start ["m", "mesh"] sp__law_start := ⟨ok__law_start F__law_start g_tuple c__law_next, m__law_start, F__law_start.kp, FunD.bindsN F__law_start fun _ _ _ _ _ _ us hl => match us, hl with | [_, _], _ => rfl⟩
  have c__law_pulses : Cal P w K mg base 2 "_law_pulses" _ d__law_pulses ["m", "mesh", "bound"] sp__law_pulses := ⟨ok__law_pulses F__law_pulses g_range g_len g_tuple c__law_next, m__law_pulses, F__law_pulses.kp, FunD.bindsN F__law_pulses fun _ _ _ _ _ _ us hl => match us, hl with | [_, _, _], _ => rfl⟩
  have c__law_leading : Cal P w K mg base 1 "_law_leading" _ d__law_leading ["mesh", "v"] sp__law_leading := ⟨ok__law_leading F__law_leading g_range g_tuple g_sorted, m__law_leading, F__law_leading.kp, FunD.bindsN F__law_leading fun _ _ _ _ _ _ us hl => match us, hl with | [_, _], _ => rfl⟩
  have c__law_kept : Cal P w K mg base 1 "_law_kept" _ d__law_kept ["mesh", "some"] sp__law_kept := ⟨ok__law_kept F__law_kept g_dict g_enumerate g_tuple, m__law_kept, F__law_kept.kp, FunD.bindsN F__law_kept fun _ _ _ _ _ _ us hl => match us, hl with | [_, _], _ => rfl⟩
  exact ok_law F_law g_range g_min g_len g_tuple g_enumerate c__law_begun c__law_net c__law_next c__law_leading c__law_kept c_relevant k_relevant c_trimmed k_trimmed c_is_net c__law_start c__law_pulses c__law_run c_carries c_gains
end Z54
open PySem PySem.W PySem.Calls PyProof.Rows
set_option maxHeartbeats 0 in
theorem PySem.Challenge.cw_carrynet_k54_whole_trimmed_nets_holds : PySem.Challenge.rw_carrynet_k54_whole_trimmed_nets.Holds := by
  w_on; o_law
  refine HandSHeadRun.head_any (r := OpenLaw.row PySem.Challenge.rw_carrynet_k54_whole_trimmed_nets) (q := view (OpenLaw.row PySem.Challenge.rw_carrynet_k54_whole_trimmed_nets).prog [48]) (H := Z54.hk) (ob := Z54.ob) (M := 4000) (loose := Z54.loose) (d := HandSHeadRun.topDef (OpenLaw.row PySem.Challenge.rw_carrynet_k54_whole_trimmed_nets).prog 48) (kwd := []) Z54.ob_eq
    (by kernel_rfl) (fun s => by kernel_rfl) Z54.run (by kernel_rfl) (by kernel_rfl) (by kernel_rfl) (by rfl) (by first | assumption | decide +kernel) (by decide +kernel) ⟨rfl, rfl, rfl, rfl, rfl, by decide +kernel⟩ ?hw ?hc
  case hw => w_witness2
  case hc =>
    refine L2.walk_ofE (l := PySem.Challenge.rw_carrynet_k54_whole_trimmed_nets) (n := 63) (k := 10) (x := "script") (CX := L2.CX0) rfl (by decide) (by kernel_rfl) ⟨rfl, by decide, by decide⟩ ?F (fun _ _ _ _ z => z)
    intro w mg fa h Y G hmg0
    obtain ⟨K, KX, c⟩ := Y
    have hmg : mg ("law" : PySem.Str) = some (.ref fa) := by
      have e : (HandSHeadRun.topDef (OpenLaw.row PySem.Challenge.rw_carrynet_k54_whole_trimmed_nets).prog 48).name = ("law" : PySem.Str) := by kernel_rfl
      rw [← e]
      exact hmg0
    obtain ⟨fd, hb, hF⟩ := Z54.facts (P := (PySem.Challenge.rw_carrynet_k54_whole_trimmed_nets).prog) (w := w) KX G hmg c
    exact ⟨K, fd, _, KX, hb, fun H a ns hl hO hS => Z54.law_start H a ns hl hO hS, hF⟩
