import PyProof.Rows.All
import Wide.All
import OpenK.AllK
import Wide.FinOn
import HandS.Base
import HandS.Call
import HandS.List
import HandS.Words
import HandS.Exc
import HandS.WordsExc
import HandS.Comp
import HandS.Defaults
import KE.KStateDown
import Lean
import HandS.Head0
import HandS.Head1
import HandS.Head2
import HandS.HeadEnd
import HandS.HeadHook1
import HandS.HeadHook2
import HandS.HeadHook3
import HandS.HeadHook4
import KE.KeyNested
import HandS.SortInts
import PyProof.TupleOfSeq
import HandS.TupAny
import HandS.Conv
import HandS.Deep
import HandS.Wide
import HandS.IsInst
import HandS.Star
import HandS.Style
import HandS.ExcOwn
import HandS.Iter
import HandS.Zip
import HandS.Rev
import HandS.Dict
import HandS.More
import HandS.Small
import HandS.WordsDict
import HandS.TupLen
import HandS.RevTup
import KE.GoesMore
import HandS.Ends
import PyProof.SeqIndex
import PySem.Challenge.RW_plainlybest_k03_whole_others_and_least_w
set_option Elab.async false
set_option linter.all false
set_option maxRecDepth 100000
set_option maxHeartbeats 0
namespace Pl
open PySem L2 PySem.Spec PyProof.Rows

abbrev D := PyData
abbrev St := L2.St

/-- a tuple whose object has no dict of its own -/
def SqN (K : PySem.W.Frag) (H : Hp) (a : Addr) (xs : List V) : Prop :=
  (∃ o : Obj, H a = some (.frz o (.tup xs)) ∧ o.dict = none) ∨
    ∃ (o : Obj) (its : Array Value) (n : Nat), K.lookup a = some o ∧ o.dict = none ∧ o.cls = .type "tuple" ∧ o.data = .seq its n ∧ its.size ≤ sizeLine ∧ Vals xs its.toList
theorem SqN.t {K : PySem.W.Frag} {H : Hp} {a : Addr} {xs : List V} (h : SqN K H a xs) : SqT K H a xs := by
  rcases h with ⟨o, h, _⟩ | ⟨o, its, n, h1, _, h2, h3, h4, h5⟩
  · exact .inl (.inr ⟨o, h⟩)
  · exact .inr ⟨o, its, n, h1, h2, h3, h4, h5⟩
/-- data: a tuple stands as one without a dict of its own; a pair that a loop over zip or enumerate yields stands as .dict [(d, e)] -/
inductive Dp (K : PySem.W.Frag) (H : Hp) : V → D → Prop
  | non : Dp K H .non .none
  | bl (b : Bool) : Dp K H (.bl b) (.bool b)
  | int (i : Int) : Dp K H (.int i) (.int i)
  | str (x : Str) : Dp K H (.str x) (.str x)
  | lst {a : Addr} {xs : List V} {ds : List D} : SqL K H a xs → Paired (Dp K H) xs ds → Dp K H (.ref a) (.list ds)
  | tup {a : Addr} {xs : List V} {ds : List D} : SqN K H a xs → Paired (Dp K H) xs ds → Dp K H (.ref a) (.tuple ds)
  | pair {a : Addr} {x y : V} {d e : D} : SqT K H a [x, y] → Dp K H x d → Dp K H y e → Dp K H (.ref a) (.dict [(d, e)])
abbrev DpAll (K : PySem.W.Frag) (H : Hp) : List V → List D → Prop := Paired (Dp K H)

/-- a value of a name: data; a dict; a source of draws -/
inductive U where
  | dat (d : D)
  | dic (kvs : List (D × D))
  | dl (ns : List Int) (b : Int)

/-- a slot: nothing is known; a thing that stays; one's own; lent by the caller; one's own, locked -/
inductive Sl where
  | no
  | ps (u : U)
  | ow (u : U)
  | io (u : U)
  | bo (u : U)
abbrev Sg := List Sl

def Ex (H H' : Hp) : Prop := ∀ a o, H a = some o → H' a = some o
theorem Ex.refl (H : Hp) : Ex H H := fun _ _ h => h
theorem Ex.trans {H H1 H2 : Hp} (a : Ex H H1) (b : Ex H1 H2) : Ex H H2 := fun x o h => b x o (a x o h)
theorem Ex.new {H : Hp} {p : Addr} {o : HO} (h : H p = none) : Ex H (upd H p o) := fun a u e => by
  rw [upd_ne (ne_of_none e h)]
  exact e
theorem Ex.back {H H' : Hp} (e : Ex H H') {p : Addr} (h : H' p = none) : H p = none := by
  cases h1 : H p with
  | none => rfl
  | some o => rw [e p o h1] at h; cases h
theorem Ex.upd_in {H H' : Hp} {p : Addr} {o : HO} (e : Ex H H') (h : H' p = some o) : Ex (upd H p o) H' := fun a u q => by
  by_cases z : a = p
  · subst z; rw [upd_same] at q; rw [h]; exact q
  · rw [upd_ne z] at q; exact e a u q
theorem ex_rd {H H' : Hp} {a : Addr} {u : HO} (e : Ex H H') (h : Rd H a u) : Rd H' a u := by
  rcases h with h | ⟨o, h⟩
  · exact Or.inl (e a _ h)
  · exact Or.inr ⟨o, e a _ h⟩
theorem ex_l {K : PySem.W.Frag} {H H' : Hp} {a : Addr} {xs : List V} (e : Ex H H') (h : SqL K H a xs) : SqL K H' a xs := by
  rcases h with h | h
  · exact Or.inl (ex_rd e h)
  · exact Or.inr h
theorem ex_t {K : PySem.W.Frag} {H H' : Hp} {a : Addr} {xs : List V} (e : Ex H H') (h : SqT K H a xs) : SqT K H' a xs := by
  rcases h with h | h
  · exact Or.inl (ex_rd e h)
  · exact Or.inr h

theorem ex_n {K : PySem.W.Frag} {H H' : Hp} {a : Addr} {xs : List V} (e : Ex H H') (h : SqN K H a xs) : SqN K H' a xs := by
  rcases h with ⟨o, h, d⟩ | h
  · exact .inl ⟨o, e a _ h, d⟩
  · exact .inr h
section
variable {K : PySem.W.Frag} {H H' : Hp}
mutual
theorem dp_mono (e : Ex H H') : ∀ (d : D) {v : V}, Dp K H v d → Dp K H' v d
  | .none, _, h => by cases h; exact .non
  | .bool b, _, h => by cases h; exact .bl b
  | .int i, _, h => by cases h; exact .int i
  | .str s, _, h => by cases h; exact .str s
  | .list ds, _, h => by
    cases h with
    | lst hs ha => exact .lst (ex_l e hs) (dps_mono e ds ha)
  | .tuple ds, _, h => by
    cases h with
    | tup hs ha => exact .tup (ex_n e hs) (dps_mono e ds ha)
  | .dict [], _, h => by cases h
  | .dict [(d, b)], _, h => by
    cases h with
    | pair hs h1 h2 => exact .pair (ex_t e hs) (dp_mono e d h1) (dp_mono e b h2)
  | .dict (_ :: _ :: _), _, h => by cases h
theorem dps_mono (e : Ex H H') : ∀ (ds : List D) {vs : List V}, DpAll K H vs ds → DpAll K H' vs ds
  | [], _, h => by cases h; exact .nil
  | d :: ds, _, h => by
    cases h with
    | cons h1 h2 => exact .cons (dp_mono e d h1) (dps_mono e ds h2)
end
theorem Dps.length : ∀ {vs : List V} {ds : List D}, DpAll K H vs ds → vs.length = ds.length
  | _, _, .nil => rfl
  | _, _, .cons _ t => by rw [List.length_cons, List.length_cons, Dps.length t]
theorem Dps.get : ∀ {vs : List V} {ds : List D} {i : Nat} {d : D}, DpAll K H vs ds → ds[i]? = some d → ∃ v, vs[i]? = some v ∧ Dp K H v d
  | _, _, _, _, .nil, e => by simp at e
  | _, _, 0, _, .cons r _, e => by simp at e; subst e; exact ⟨_, rfl, r⟩
  | _, _, i + 1, d, .cons _ t, e => by
    obtain ⟨v, h1, h2⟩ := Dps.get (i := i) (d := d) t (by simpa using e)
    exact ⟨v, by simpa using h1, h2⟩
theorem Dps.getV : ∀ {vs : List V} {ds : List D} {i : Nat} {v : V}, DpAll K H vs ds → vs[i]? = some v → ∃ d, ds[i]? = some d ∧ Dp K H v d
  | _, _, _, _, .nil, e => by simp at e
  | _, _, 0, _, .cons r _, e => by simp at e; subst e; exact ⟨_, rfl, r⟩
  | _, _, i + 1, d, .cons _ t, e => by
    obtain ⟨v, h1, h2⟩ := Dps.getV (i := i) (v := d) t (by simpa using e)
    exact ⟨v, by simpa using h1, h2⟩
theorem Dps.append : ∀ {vs ws : List V} {ds es : List D}, DpAll K H vs ds → DpAll K H ws es → DpAll K H (vs ++ ws) (ds ++ es)
  | _, _, _, _, .nil, h => h
  | _, _, _, _, .cons r t, h => .cons r (Dps.append t h)
theorem Dps.take : ∀ {vs : List V} {ds : List D} (n : Nat), DpAll K H vs ds → DpAll K H (vs.take n) (ds.take n)
  | _, _, 0, _ => .nil
  | _, _, _ + 1, .nil => .nil
  | _, _, n + 1, .cons r t => .cons r (Dps.take n t)
theorem Dps.drop : ∀ {vs : List V} {ds : List D} (n : Nat), DpAll K H vs ds → DpAll K H (vs.drop n) (ds.drop n)
  | _, _, 0, h => h
  | _, _, _ + 1, .nil => .nil
  | _, _, n + 1, .cons _ t => Dps.drop n t
theorem Dps.set : ∀ {vs : List V} {ds : List D} (n : Nat) {v : V} {d : D}, DpAll K H vs ds → Dp K H v d → DpAll K H (vs.set n v) (ds.set n d)
  | _, _, _, _, _, .nil, _ => .nil
  | _, _, 0, _, _, .cons r t, h => .cons h t
  | _, _, n + 1, _, _, .cons r t, h => .cons r (Dps.set n t h)
theorem Dps.eraseIdx : ∀ {vs : List V} {ds : List D} (n : Nat), DpAll K H vs ds → DpAll K H (vs.eraseIdx n) (ds.eraseIdx n)
  | _, _, _, .nil => .nil
  | _, _, 0, .cons _ t => t
  | _, _, n + 1, .cons r t => .cons r (Dps.eraseIdx n t)
theorem Dps.one {v : V} {d : D} (h : Dp K H v d) : DpAll K H [v] [d] := .cons h .nil
theorem Dps.dropLast {vs : List V} {ds : List D} (h : DpAll K H vs ds) : DpAll K H vs.dropLast ds.dropLast := by
  rw [List.dropLast_eq_take, List.dropLast_eq_take, Dps.length h]
  exact Dps.take _ h
theorem Dps.reverse : ∀ {vs : List V} {ds : List D}, DpAll K H vs ds → DpAll K H vs.reverse ds.reverse
  | _, _, .nil => .nil
  | _, _, .cons r t => by
    rw [List.reverse_cons, List.reverse_cons]
    exact Dps.append (Dps.reverse t) (.cons r .nil)
end

/-! keys of dicts: ints and texts, tuples of them -/
def keyD : D → Option Key
  | .int i => some (.inl i)
  | .str s => some (.inr s)
  | _ => none
def kD : Key → D
  | .inl i => .int i
  | .inr s => .str s
theorem kD_key : ∀ k : Key, keyD (kD k) = some k
  | .inl _ => rfl
  | .inr _ => rfl
/-! tuples as keys: of whole numbers, None and such tuples -/
mutual
def nkD : D → Option NestedKey
  | .none => some .none
  | .int i => some (.num i)
  | .tuple ds => (nksD ds).map .tup
  | _ => none
def nksD : List D → Option (List NestedKey)
  | [] => some []
  | d :: ds => (nkD d).bind fun k => (nksD ds).map fun ks => k :: ks
end
mutual
theorem nkD_data : ∀ (d : D) {k : NestedKey}, nkD d = some k → d = k.data
  | .none, _, h => by simp only [nkD] at h; cases h; rfl
  | .int i, _, h => by simp only [nkD] at h; cases h; rfl
  | .bool _, _, h => by simp only [nkD] at h; cases h
  | .str _, _, h => by simp only [nkD] at h; cases h
  | .list _, _, h => by simp only [nkD] at h; cases h
  | .dict _, _, h => by simp only [nkD] at h; cases h
  | .tuple ds, _, h => by
    simp only [nkD] at h
    obtain ⟨ks, e1, e2⟩ := Option.map_eq_some_iff.mp h
    subst e2
    rw [NestedKey.data, ← nksD_data ds e1]
theorem nksD_data : ∀ (ds : List D) {ks : List NestedKey}, nksD ds = some ks → ds = NestedKey.datas ks
  | [], _, h => by simp only [nksD] at h; cases h; rfl
  | d :: ds, _, h => by
    simp only [nksD] at h
    obtain ⟨k, e1, e2⟩ := Option.bind_eq_some_iff.mp h
    obtain ⟨ks, e3, e4⟩ := Option.map_eq_some_iff.mp e2
    subst e4
    rw [NestedKey.datas, ← nkD_data d e1, ← nksD_data ds e3]
end
mutual
theorem nkD_hash (w w' : World) : ∀ (d : D) {k : NestedKey}, nkD d = some k → k.hash w = k.hash w'
  | .none, _, h => by simp only [nkD] at h; cases h; rfl
  | .int i, _, h => by simp only [nkD] at h; cases h; rfl
  | .bool _, _, h => by simp only [nkD] at h; cases h
  | .str _, _, h => by simp only [nkD] at h; cases h
  | .list _, _, h => by simp only [nkD] at h; cases h
  | .dict _, _, h => by simp only [nkD] at h; cases h
  | .tuple ds, _, h => by
    simp only [nkD] at h
    obtain ⟨ks, e1, e2⟩ := Option.map_eq_some_iff.mp h
    subst e2
    rw [NestedKey.hash, NestedKey.hash, nksD_hash w w' ds e1]
theorem nksD_hash (w w' : World) : ∀ (ds : List D) {ks : List NestedKey}, nksD ds = some ks → NestedKey.hashes w ks = NestedKey.hashes w' ks
  | [], _, h => by simp only [nksD] at h; cases h; rfl
  | d :: ds, _, h => by
    simp only [nksD] at h
    obtain ⟨k, e1, e2⟩ := Option.bind_eq_some_iff.mp h
    obtain ⟨ks, e3, e4⟩ := Option.map_eq_some_iff.mp e2
    subst e4
    rw [NestedKey.hashes, NestedKey.hashes, nkD_hash w w' d e1, nksD_hash w w' ds e3]
end
/-- a tuple that may be a key -/
def GKp (z : NestedKey) : Prop := nkD z.data = some z ∧ z.depth ≤ 8 ∧ ∃ ks, z = .tup ks
abbrev GK : Type := {z : NestedKey // GKp z}
def GK.d (z : GK) : D := z.1.data
theorem GK.hash (z : GK) (w w' : World) : z.1.hash w = z.1.hash w' := nkD_hash w w' _ z.2.1
/-- a dict with tuples as keys: the keys, where they stand, the values -/
def entN (w : World) (x : NestedKey × Addr × Value) : DictEntry := ⟨x.1.hash w, .ref x.2.1, x.2.2⟩
def XRel : List (GK × Addr × V) → List (NestedKey × Addr × Value) → Prop := Paired fun p q => p.1.1 = q.1 ∧ p.2.1 = q.2.1 ∧ RelV p.2.2 q.2.2
def DXp (a : Addr) (m : List (GK × Addr × V)) (h : Heap) : Prop := m.length ≤ sizeLine ∧ (a == sysModules) = false ∧ ∃ xs, XRel m xs ∧ (xs.map (·.1)).Nodup ∧
  ∃ (o : Obj) (es : Array DictEntry) (ep : Nat) (w : World), h.get? a = some o ∧ o.ExactDict ∧ o.data = .dict es ep ∧ es.toList = xs.map (entN w)
def DX (a : Addr) (m : List (GK × Addr × V)) : HO := .ext (DXp a m)
/-- what a dict at a holds; where its keys stand is kept -/
def DicAt (K : PySem.W.Frag) (G H : Hp) (a : Addr) (ks : List D) (vs : List V) : Prop :=
  (∃ kvs : List (Key × V), H a = some (.dK kvs) ∧ ks = kvs.map (fun p => kD p.1) ∧ vs = kvs.map (·.2)) ∨
  (∃ m : List (GK × Addr × V), H a = some (DX a m) ∧ ks = m.map (fun p => GK.d p.1) ∧ vs = m.map (·.2.2) ∧ ∀ x ∈ m, Dp K G (.ref x.2.1) (GK.d x.1))
theorem DicAt.mono {K : PySem.W.Frag} {G G' H H' : Hp} {a : Addr} {ks : List D} {vs : List V} (e0 : Ex G G') (e : Ex H H') (h : DicAt K G H a ks vs) : DicAt K G' H' a ks vs := by
  rcases h with ⟨kvs, h, r⟩ | ⟨kvs, h, r1, r2, r3⟩
  · exact .inl ⟨kvs, e _ _ h, r⟩
  · exact .inr ⟨kvs, e _ _ h, r1, r2, fun x hx => dp_mono e0 _ (r3 x hx)⟩
theorem DicAt.there {K : PySem.W.Frag} {G H : Hp} {a : Addr} {ks : List D} {vs : List V} (h : DicAt K G H a ks vs) : ∃ o, H a = some o := by
  rcases h with ⟨kvs, h, r⟩ | ⟨kvs, h, r⟩ <;> exact ⟨_, h⟩

/-- a thing that stays -/
def PsU (K : PySem.W.Frag) (G : Hp) (v : V) : U → Prop
  | .dat d => Dp K G v d
  | .dic kvs => ∃ a vs, v = .ref a ∧ DicAt K G G a (kvs.map (·.1)) vs ∧ DpAll K G vs (kvs.map (·.2))
  | .dl _ _ => False
/-- a thing of one's own: its objects are not among those that stay; what it holds stays -/
def OwU (K : PySem.W.Frag) (G H : Hp) (v : V) (fp : List Addr) : U → Prop
  | .dat (.list ds) => ∃ a vs, v = .ref a ∧ H a = some (.lst vs) ∧ G a = none ∧ DpAll K G vs ds ∧ fp = [a]
  | .dat _ => False
  | .dic kvs => ∃ a vs, v = .ref a ∧ DicAt K G H a (kvs.map (·.1)) vs ∧ G a = none ∧ DpAll K G vs (kvs.map (·.2)) ∧ fp = [a]
  | .dl ns b => ∃ a c, v = .ref a ∧ H a = some (.lst [.ref c, .int b]) ∧ H c = some (.lst (ns.map V.int)) ∧ a ≠ c ∧ G a = none ∧ G c = none ∧ fp = [a, c]
/-- what may be read -/
def RdU (K : PySem.W.Frag) (G H : Hp) (v : V) : U → Prop
  | .dat (.list ds) => ∃ a vs, v = .ref a ∧ SqL K H a vs ∧ DpAll K G vs ds
  | .dat d => Dp K G v d
  | .dic kvs => ∃ a vs, v = .ref a ∧ DicAt K G H a (kvs.map (·.1)) vs ∧ DpAll K G vs (kvs.map (·.2))
  | .dl _ _ => True

section
variable {K : PySem.W.Frag} {G G' H H' : Hp} {v : V} {u : U} {fp : List Addr}
theorem PsU.mono (e : Ex G G') (h : PsU K G v u) : PsU K G' v u := by
  cases u with
  | dat d => exact dp_mono e d h
  | dic kvs =>
    obtain ⟨a, vs, e1, e2, e3⟩ := h
    exact ⟨a, vs, e1, e2.mono e e, dps_mono e _ e3⟩
  | dl _ _ => exact h
theorem PsU.rd (e : Ex G H) (h : PsU K G v u) : RdU K G H v u := by
  cases u with
  | dat d =>
    cases d with
    | list ds =>
      cases h with
      | lst hs ha => exact ⟨_, _, rfl, ex_l e hs, ha⟩
    | _ => exact h
  | dic kvs =>
    obtain ⟨a, vs, e1, e2, e3⟩ := h
    exact ⟨a, vs, e1, e2.mono (Ex.refl G) e, e3⟩
  | dl _ _ => exact True.intro
theorem OwU.rd (h : OwU K G H v fp u) : RdU K G H v u := by
  cases u with
  | dat d =>
    cases d with
    | list ds =>
      obtain ⟨a, vs, e1, e2, e3, e4, e5⟩ := h
      exact ⟨a, vs, e1, SqL.of e2, e4⟩
    | _ => exact False.elim h
  | dic kvs =>
    obtain ⟨a, vs, e1, e2, e3, e4, e5⟩ := h
    exact ⟨a, vs, e1, e2, e4⟩
  | dl _ _ => exact True.intro
/-- its objects are tracked and not among those that stay -/
theorem OwU.fps (h : OwU K G H v fp u) : ∀ a ∈ fp, (∃ o, H a = some o) ∧ G a = none := by
  cases u with
  | dat d =>
    cases d with
    | list ds =>
      obtain ⟨a, vs, e1, e2, e3, e4, e5⟩ := h
      subst e5
      intro b hb
      have e : b = a := by simpa using hb
      subst e
      exact ⟨⟨_, e2⟩, e3⟩
    | _ => exact False.elim h
  | dic kvs =>
    obtain ⟨a, vs, e1, e2, e3, e4, e5⟩ := h
    subst e5
    intro b hb
    have e : b = a := by simpa using hb
    subst e
    exact ⟨e2.there, e3⟩
  | dl _ _ =>
    obtain ⟨a, c, e1, e2, e3, e4, e5, e6, e7⟩ := h
    subst e7
    intro b hb
    rcases List.mem_cons.mp hb with e | hb
    · subst e; exact ⟨⟨_, e2⟩, e5⟩
    · have e : b = c := by simpa using hb
      subst e; exact ⟨⟨_, e3⟩, e6⟩
theorem DicAt.keep {H H' : Hp} {a : Addr} {ks : List D} {vs : List V} (h : DicAt K G H a ks vs) (e0 : Ex G G') (k : ∀ o, H a = some o → H' a = some o) : DicAt K G' H' a ks vs := by
  rcases h with ⟨kvs, h, r⟩ | ⟨kvs, h, r1, r2, r3⟩
  · exact .inl ⟨kvs, k _ h, r⟩
  · exact .inr ⟨kvs, k _ h, r1, r2, fun x hx => dp_mono e0 _ (r3 x hx)⟩
/-- it stands as long as its objects are kept -/
theorem OwU.keep (h : OwU K G H v fp u) (e : Ex G G') (k : ∀ a ∈ fp, ∀ o, H a = some o → H' a = some o) (n : ∀ a ∈ fp, G' a = none) : OwU K G' H' v fp u := by
  cases u with
  | dat d =>
    cases d with
    | list ds =>
      obtain ⟨a, vs, e1, e2, e3, e4, e5⟩ := h
      subst e5
      exact ⟨a, vs, e1, k a (by simp) _ e2, n a (by simp), dps_mono e _ e4, rfl⟩
    | _ => exact False.elim h
  | dic kvs =>
    obtain ⟨a, vs, e1, e2, e3, e4, e5⟩ := h
    subst e5
    exact ⟨a, vs, e1, e2.keep e (k a (by simp)), n a (by simp), dps_mono e _ e4, rfl⟩
  | dl _ _ =>
    obtain ⟨a, c, e1, e2, e3, e4, e5, e6, e7⟩ := h
    subst e7
    exact ⟨a, c, e1, k a (by simp) _ e2, k c (by simp) _ e3, e4, n a (by simp), n c (by simp), rfl⟩
end
end Pl

namespace Pl
open PySem L2 PySem.Spec PyProof.Rows SrtO
section
variable {prog : Program} {w : World} {A : Around} {E : Value → Shared → Prop} {s : Shared}
/-- the items of a tuple, collected: one new object -/
theorem collect_tup {l : Addr} {o : Obj} {items : Array Value} {n : Nat} {Q : List Value → Shared → Prop} (ho : s.heap.get? l = some o) (hc : o.cls = .type "tuple") (hd : o.data = .seq items n) (hz : items.size ≤ sizeLine)
    (hQ : Q items.toList { s with heap := (s.heap.push { cls := .type "list", data := .seq ([] : List Value).toArray }).update s.heap.objs.size (Obj.mapSeq (· ++ items)) }) : wpAny (model prog w) A (collect (.ref l)) Q E s := by
  unfold collect
  refine wpAny_bind (wpAny_runValue (codeAny_builtin F.entry_proto_collect ?_))
  rw [Around.under_plainId F.plain_proto_collect _]
  show wpAny _ A.in1 (newList [] >>= fun z => again (.builtin "list.__iadd__" ⟨[z, .ref l], []⟩)) _ _ s
  refine wpAny_bind (wpAny_newObj_type (wpAny_pure ⟨plainId_quiet F.plain_list_iadd _, codeAny_builtin F.entry_list_iadd ?_⟩))
  rw [Around.under_plainId F.plain_list_iadd _]
  have hN : (s.heap.push { cls := .type "list", data := .seq ([] : List Value).toArray }).get? s.heap.objs.size = some { cls := .type "list", data := .seq #[] 0 } := Heap.get?_push_size _ rfl
  have back : wpAny (model prog w) A (match Value.ref s.heap.objs.size with
      | Value.ref a => do
        match (← load a).data with
          | Data.seq xs _ => pure xs.toList
          | _ => unsupported "internal:collect"
      | _ => unsupported "internal:collect") Q E { s with heap := (s.heap.push { cls := .type "list", data := .seq ([] : List Value).toArray }).update s.heap.objs.size (Obj.mapSeq (· ++ items)) } := by
    show wpAny _ A (load s.heap.objs.size >>= _) _ _ _
    refine wpAny_bind (wpAny_load (Heap.get?_update_self (Obj.mapSeq (· ++ items)) hN rfl) (wpAny_pure ?_))
    have e : ((#[] : Array Value) ++ items).toList = items.toList := by simp
    show Q ((#[] : Array Value) ++ items).toList _
    rw [e]
    exact hQ
  refine wpAny_mono (wpAny_extend_seq (hsz := hz) (A := A) (R := fun r s' => r = .ok (.ret (.ref s.heap.objs.size)) ∧ s' = { s with heap := (s.heap.push { cls := .type "list", data := .seq ([] : List Value).toArray }).update s.heap.objs.size (Obj.mapSeq (· ++ items)) })
    (s := { s with heap := s.heap.push { cls := .type "list", data := .seq ([] : List Value).toArray } }) _ l _ 0 (.inr rfl) hN (Heap.get?_push_of_some _ ho) hc hd ⟨rfl, rfl⟩) (fun fin s' h => ?_) (fun e s' h => absurd h.1 (by simp))
  cases fin with
  | done f =>
    obtain ⟨e, rfl⟩ := h
    cases e
    exact back
  | again c' => exact ⟨h.1, codeAny_mono h.2 fun r s'' hr => by obtain ⟨rfl, rfl⟩ := hr; exact back⟩
theorem sorted_tup {l : Addr} {vs : List Value} {ltv : Value → Value → Bool} {Q : Value → Shared → Prop} (O : Swo ltv) (hl : IsTup s.heap l vs.toArray) (hz : vs.length ≤ sizeLine)
    (hS : 2 ≤ vs.length → ∀ (h₁ : Heap) (a : Addr), h₁.get? a = some (seqObj "list" vs.toArray 0) → (∀ b o, s.heap.get? b = some o → b ≠ a ∧ h₁.get? b = some o) → SortableO prog w A.in1.in1 { s with heap := h₁ } a vs ltv)
    (h : ∀ (h' : Heap) (out : List Value), s.heap.objs.size ≤ h'.objs.size → (∀ b o, s.heap.get? b = some o → h'.get? b = some o) → Srtd ltv out → Stb ltv out vs → Q (.ref h'.objs.size) { s with heap := sortedHeap (h'.push (seqObj "list" vs.toArray 0)) h'.objs.size vs out.toArray }) :
    wpAny (model prog w) A (call (.builtin "sorted") [.ref l]) Q E s := by
  obtain ⟨o, ho, hc, n, hd⟩ := hl
  refine Calls.call_function_entry kind_sorted plain_sorted entry_sorted (args_sorted1 _) ?_
  unfold Builtin.«sorted»
  refine wpAny_bind (m := checkCount "sorted" 1 1 _) (wpAny_pure ?_)
  refine wpAny_bind (collect_tup ho hc hd (by simpa using hz) ?_)
  have keep : ∀ b o, s.heap.get? b = some o → ((s.heap.push { cls := .type "list", data := .seq ([] : List Value).toArray }).update s.heap.objs.size (Obj.mapSeq (· ++ vs.toArray))).get? b = some o := fun b o q => by
    rw [Heap.get?_update_ne _ _ _ _ (Nat.ne_of_lt (Heap.lt_size q))]
    exact Heap.get?_push_of_some _ q
  have hge : s.heap.objs.size ≤ ((s.heap.push { cls := .type "list", data := .seq ([] : List Value).toArray }).update s.heap.objs.size (Obj.mapSeq (· ++ vs.toArray))).objs.size := by
    rw [Heap.size_update, size_push']; omega
  generalize (s.heap.push { cls := .type "list", data := .seq ([] : List Value).toArray }).update s.heap.objs.size (Obj.mapSeq (· ++ vs.toArray)) = h' at keep hge ⊢
  refine wpAny_bind (wpAny_newList ?_ hz)
  have hoL : (h'.push (seqObj "list" vs.toArray 0)).get? h'.objs.size = some (seqObj "list" vs.toArray 0) := Heap.get?_push_size _ rfl
  have keep2 : ∀ b o, s.heap.get? b = some o → b ≠ h'.objs.size ∧ (h'.push (seqObj "list" vs.toArray 0)).get? b = some o := fun b o q =>
    ⟨Nat.ne_of_lt (Heap.lt_size (keep b o q)), Heap.get?_push_of_some _ (keep b o q)⟩
  refine wpAny_bind (wpAny_holding (wpAny_call_entry slot_list_sort ⟨_, hoL, rfl⟩ entry_list_sort (list_sort_ord O hoL hz (fun h2 => hS h2 _ _ hoL keep2) fun out hs hb => ⟨_, rfl, ?_⟩) (args_list_sort _)))
  exact wpAny_pure ⟨_, rfl, h h' out hge keep hs hb⟩
end
def rSortedTI (K : PySem.W.Frag) : List V → Hp → VK → Prop := fun vs H Q => ∃ (a : Addr) (ns : List Int), vs = [V.ref a] ∧ SqT K H a (ns.map V.int) ∧
  ∀ (ns' : List Int) (p : Addr), ns'.Perm ns → ns'.Pairwise (· ≤ ·) → H p = none → Q (.ref p) (upd H p (.lst (ns'.map V.int)))
theorem cr_sortedTI {X : Cx} : CallR X (.builtin "sorted") (rSortedTI X.K) := by
  intro pins s σ H vs us Q I r h
  obtain ⟨a, ns, rfl, hs, q⟩ := h
  obtain ⟨its, rv, hl, hz⟩ := I.tuple hs
  rw [Vals.ref1 r]
  have hi := rv.ints
  refine sorted_tup SrtO.swo_int hl (by rw [← rv.length]; exact hz) (fun h2 h₁ a' _ _ => SrtO.ints_sortable hi h2) fun h' out hle keep h1 h2 => ?_
  obtain ⟨k1, k2, k3⟩ := SrtO.ints_out hi h1 h2
  obtain ⟨ep, he'⟩ := sortedHeap_at (vs := its) (out := out.toArray) (show (h'.push (seqObj "list" its.toArray 0)).get? h'.objs.size = some (seqObj "list" its.toArray 0) from Heap.get?_push_size _ rfl)
  have hlen : ((out.map SrtO.iv).map V.int).length ≤ sizeLine := by
    rw [List.length_map, k2.length_eq]
    rw [List.length_map] at hz
    exact hz
  exact ⟨.ref _, upd H h'.objs.size (.lst ((out.map SrtO.iv).map V.int)), I.laid (t' := s.toks) (fun b o e => by
    have e1 := keep b o e
    have hlt := Heap.lt_size e1
    rw [sortedHeap_old (Nat.ne_of_lt hlt) (by rw [size_push']; exact Nat.lt_succ_of_lt hlt)]
    exact Heap.get?_push_of_some _ e1) hle ⟨hlen, out, ep, vals_of_ints k1, he'⟩, rfl, q _ _ k2 k3 (I.hok.fresh hle)⟩
end Pl

namespace Pl
open PySem L2 PySem.Spec PyProof.Rows

/-- what a body's whole run is held against: the heaps at its start, what it may change, the places lent to it, its wish of exceptions -/
structure Fr where
  K : PySem.W.Frag
  H0 : Hp
  G0 : Hp
  FP : Nat → List Addr
  pin : Nat → Option V
  T : List (Option V) := []
  ts : List Sl := []

def SlOk (F : Fr) (G H : Hp) (v : Option V) (i : Nat) (fp : List Addr) : Sl → Prop
  | .no => fp = []
  | .ps u => fp = [] ∧ ∃ x, v = some x ∧ PsU F.K G x u
  | .ow u => (∃ x, v = some x ∧ OwU F.K G H x fp u) ∧ ∀ a ∈ fp, F.H0 a = none
  | .bo u => (∃ x, v = some x ∧ OwU F.K G H x fp u ∧ F.pin i = some x) ∧ ∀ a ∈ fp, F.H0 a = none
  | .io u => (∃ x, v = some x ∧ OwU F.K G H x fp u ∧ F.pin i = some x) ∧ ∀ a ∈ fp, a ∈ F.FP i

/-- the heaps against the start -/
structure HRel (F : Fr) (G H : Hp) : Prop where
  ex : Ex G H
  ex0 : Ex F.G0 G
  frm : ∀ p o, F.H0 p = some o → (∀ i, p ∉ F.FP i) → H p = some o
  frs : ∀ p o, G p = some o → F.G0 p = some o ∨ F.H0 p = none
  trk : ∀ p, H p = none → F.H0 p = none

structure SR0 (F : Fr) (G H : Hp) (σ : St) (st : Sg) : Prop where
  rel : HRel F G H
  len : st.length = σ.length
  sl : ∃ fp : Nat → List Addr, (∀ i s, st[i]? = some s → SlOk F G H ((σ[i]?).join) i (fp i) s) ∧ (∀ i j, i < st.length → j < st.length → i ≠ j → ∀ a ∈ fp i, a ∉ fp j)

section
variable {F : Fr} {G G' H H' : Hp} {σ σ' : St} {st st' : Sg} {i j : Nat} {v x : V} {u : U} {s : Sl}

theorem SlOk.fps {w : Option V} {fp : List Addr} (h : SlOk F G H w i fp s) : ∀ a ∈ fp, (∃ o, H a = some o) ∧ G a = none := by
  cases s with
  | no => have e : fp = [] := h; subst e; intro a ha; cases ha
  | ps u => obtain ⟨e, _⟩ := h; subst e; intro a ha; cases ha
  | ow u => obtain ⟨⟨x, _, o⟩, _⟩ := h; exact o.fps
  | bo u => obtain ⟨⟨x, _, o, _⟩, _⟩ := h; exact o.fps
  | io u => obtain ⟨⟨x, _, o, _⟩, _⟩ := h; exact o.fps
theorem SlOk.keep {w : Option V} {fp : List Addr} (h : SlOk F G H w i fp s) (e : Ex G G') (k : ∀ a ∈ fp, ∀ o, H a = some o → H' a = some o) (n : ∀ a ∈ fp, G' a = none) : SlOk F G' H' w i fp s := by
  cases s with
  | no => exact h
  | ps u => obtain ⟨e1, x, e2, p⟩ := h; exact ⟨e1, x, e2, p.mono e⟩
  | ow u => obtain ⟨⟨x, e1, o⟩, q⟩ := h; exact ⟨⟨x, e1, o.keep e k n⟩, q⟩
  | bo u => obtain ⟨⟨x, e1, o, p⟩, q⟩ := h; exact ⟨⟨x, e1, o.keep e k n, p⟩, q⟩
  | io u => obtain ⟨⟨x, e1, o, p⟩, q⟩ := h; exact ⟨⟨x, e1, o.keep e k n, p⟩, q⟩

theorem SR0.ex (h : SR0 F G H σ st) : Ex G H := h.rel.ex

/-- the slots stay where the heaps grow but keep the owned objects -/
theorem SR0.grow (h : SR0 F G H σ st) (r : HRel F G' H') (e : Ex G G') (k : ∀ a o, G a = none → H a = some o → H' a = some o) (n : ∀ a o, G a = none → H a = some o → G' a = none) : SR0 F G' H' σ st := by
  obtain ⟨fp, h1, h2⟩ := h.sl
  refine ⟨r, h.len, fp, fun i s q => ?_, h2⟩
  have z := (h1 i s q).fps
  exact (h1 i s q).keep e (fun a ha o q => k a o (z a ha).2 q) (fun a ha => by obtain ⟨⟨o, q⟩, g⟩ := z a ha; exact n a o g q)
/-- a new thing that stays -/
theorem SR0.new_ps (h : SR0 F G H σ st) {p : Addr} {o : HO} (hp : H p = none) : SR0 F (upd G p o) (upd H p o) σ st := by
  have gp : G p = none := h.ex.back hp
  refine h.grow ⟨fun a q z => ?_, h.rel.ex0.trans (Ex.new gp), fun a q z m => Ex.new hp a q (h.rel.frm a q z m), fun a q z => ?_, fun a z => ?_⟩ (Ex.new gp) (fun a q _ z => Ex.new hp a q z) (fun a q g z => ?_)
  · by_cases e : a = p
    · subst e; rw [upd_same] at z ⊢; exact z
    · rw [upd_ne e] at z ⊢; exact h.ex a q z
  · by_cases e : a = p
    · subst e; exact .inr (h.rel.trk a hp)
    · rw [upd_ne e] at z; exact h.rel.frs a q z
  · by_cases e : a = p
    · subst e; rw [upd_same] at z; cases z
    · rw [upd_ne e] at z; exact h.rel.trk a z
  · by_cases e : a = p
    · subst e; rw [hp] at z; cases z
    · rw [upd_ne e]; exact g
/-- a new thing that is nobody's -/
theorem HRel.new (h : HRel F G H) {p : Addr} {o : HO} (hp : H p = none) : HRel F G (upd H p o) :=
  ⟨h.ex.trans (Ex.new hp), h.ex0, fun a q z m => Ex.new hp a q (h.frm a q z m), h.frs, fun a z => by
    by_cases e : a = p
    · subst e; rw [upd_same] at z; cases z
    · rw [upd_ne e] at z; exact h.trk a z⟩
theorem SR0.new (h : SR0 F G H σ st) {p : Addr} {o : HO} (hp : H p = none) : SR0 F G (upd H p o) σ st :=
  h.grow (h.rel.new hp) (Ex.refl _) (fun a q _ z => Ex.new hp a q z) (fun _ _ g _ => g)

def fpAdd (n : Nat) (f : Nat → List Addr) (fp : List Addr) (i : Nat) : List Addr := if i < n then f i else fp
theorem fpAdd_lt {n i : Nat} {f : Nat → List Addr} {fp : List Addr} (h : i < n) : fpAdd n f fp i = f i := if_pos h
theorem fpAdd_ge {n i : Nat} {f : Nat → List Addr} {fp : List Addr} (h : ¬ i < n) : fpAdd n f fp i = fp := if_neg h
/-- a slot more: what it owns is not owned by another one -/
theorem SR0.push_core {f : Nat → List Addr} (r : HRel F G H) (hl : st.length = σ.length) (h1 : ∀ i s, st[i]? = some s → SlOk F G H ((σ[i]?).join) i (f i) s) (h2 : ∀ i j, i < st.length → j < st.length → i ≠ j → ∀ a ∈ f i, a ∉ f j)
    (fp : List Addr) (ok : SlOk F G H (some v) σ.length fp s) (tr : ∀ k, k < st.length → ∀ a ∈ f k, a ∉ fp) : SR0 F G H (σ ++ [some v]) (st ++ [s]) := by
  refine ⟨r, by simp [hl], fpAdd st.length f fp, fun i t q => ?_, fun i j hi hj ne a ha => ?_⟩
  · by_cases hi : i < st.length
    · rw [List.getElem?_append_left hi] at q
      rw [List.getElem?_append_left (by omega), fpAdd_lt hi]
      exact h1 i t q
    · have e : i = st.length := by
        obtain ⟨z, _⟩ := List.getElem?_eq_some_iff.mp q
        simp at z
        omega
      subst e
      rw [List.getElem?_append_right (Nat.le_refl _)] at q
      simp at q
      subst q
      rw [fpAdd_ge (Nat.lt_irrefl _), hl, List.getElem?_append_right (Nat.le_refl _)]
      simpa using ok
  · have bound : ∀ k, k < (st ++ [s]).length → ¬ k < st.length → k = st.length := fun k hk hn => by simp at hk; omega
    by_cases ci : i < st.length
    · rw [fpAdd_lt ci] at ha
      by_cases cj : j < st.length
      · rw [fpAdd_lt cj]; exact h2 i j ci cj ne a ha
      · rw [fpAdd_ge cj]; exact tr i ci a ha
    · rw [fpAdd_ge ci] at ha
      by_cases cj : j < st.length
      · rw [fpAdd_lt cj]; exact fun hb => tr j cj a hb ha
      · exact absurd ((bound i hi ci).trans (bound j hj cj).symm) ne
/-- a value that stays -/
theorem SR0.push_ps (h : SR0 F G H σ st) (p : PsU F.K G v u) : SR0 F G H (σ ++ [some v]) (st ++ [.ps u]) := by
  obtain ⟨f, h1, h2⟩ := h.sl
  exact SR0.push_core h.rel h.len h1 h2 [] ⟨rfl, v, rfl, p⟩ (fun _ _ a _ z => nomatch z)
theorem SR0.push_no (h : SR0 F G H σ st) : SR0 F G H (σ ++ [some v]) (st ++ [.no]) := by
  obtain ⟨f, h1, h2⟩ := h.sl
  exact SR0.push_core h.rel h.len h1 h2 [] rfl (fun _ _ a _ z => nomatch z)
/-- a new thing of one's own: its objects are tracked now, not before -/
theorem SR0.push_ow (h : SR0 F G H σ st) {fp : List Addr} (o : OwU F.K G H' v fp u) (r : HRel F G H') (k : ∀ a o, H a = some o → H' a = some o) (n : ∀ a ∈ fp, H a = none) : SR0 F G H' (σ ++ [some v]) (st ++ [.ow u]) := by
  obtain ⟨f0, h1, h2⟩ := h.sl
  refine SR0.push_core r h.len (fun i t q => ?_) h2 fp ⟨⟨v, rfl, o⟩, fun a ha => h.rel.trk a (n a ha)⟩ (fun i hk a ha hb => ?_)
  · have z := (h1 i t q).fps
    exact (h1 i t q).keep (Ex.refl _) (fun a ha o q => k a o q) (fun a ha => (z a ha).2)
  · obtain ⟨⟨q, z⟩, _⟩ := (h1 i _ (List.getElem?_eq_getElem hk)).fps a ha
    rw [n a hb] at z; cases z

/-- slots taken from others: ρ tells whence; a lent one keeps its place -/
theorem SR0.re (h : SR0 F G H σ st) (ρ : Nat → Nat) (hl : st'.length = σ'.length)
    (hs : ∀ j s, st'[j]? = some s → s = .no ∨ (st[ρ j]? = some s ∧ (σ'[j]?).join = (σ[ρ j]?).join ∧ (ρ j = j ∨ ∃ u, s = .ps u ∨ s = .ow u)))
    (inj : ∀ j k s t, st'[j]? = some s → st'[k]? = some t → j ≠ k → s ≠ .no → t ≠ .no → ρ j = ρ k → ∃ u, s = .ps u) : SR0 F G H σ' st' := by
  obtain ⟨f, h1, h2⟩ := h.sl
  refine ⟨h.rel, hl, fun j => match st'[j]? with | some .no => [] | some _ => f (ρ j) | none => [], fun j s q => ?_, fun i j hi hj ne a ha => ?_⟩
  · rcases hs j s q with e | ⟨e1, e2, e3⟩
    · subst e
      simp only [q]
      exact (rfl : ([] : List Addr) = [])
    · have z := h1 (ρ j) s e1
      rw [e2]
      cases s with
      | no => simp only [q]; exact (rfl : ([] : List Addr) = [])
      | ps u => simp only [q]; exact z
      | ow u => simp only [q]; exact z
      | bo u =>
        simp only [q]
        rcases e3 with e | ⟨w, e | e⟩
        · rw [e] at z ⊢; exact z
        · cases e
        · cases e
      | io u =>
        simp only [q]
        rcases e3 with e | ⟨w, e | e⟩
        · rw [e] at z ⊢; exact z
        · cases e
        · cases e
  · have qi : st'[i]? = some st'[i] := List.getElem?_eq_getElem hi
    have qj : st'[j]? = some st'[j] := List.getElem?_eq_getElem hj
    dsimp only at ha ⊢
    rw [qi] at ha
    rw [qj]
    generalize st'[i] = s at qi ha
    generalize st'[j] = t at qj
    cases t with
    | no => simp
    | _ =>
      cases s with
      | no => simp at ha
      | _ =>
        simp only at ha ⊢
        intro hb
        by_cases e : ρ i = ρ j
        · obtain ⟨w, ew⟩ := inj i j _ _ qi qj ne (by simp) (by simp) e
          rcases hs i _ qi with z | ⟨z1, z2, z3⟩
          · cases z
          · have o := h1 (ρ i) _ z1
            cases ew
            try (rw [o.1] at ha; cases ha)
        · rcases hs i _ qi with z | ⟨z1, _⟩
          · cases z
          · rcases hs j _ qj with y | ⟨y1, _⟩
            · cases y
            · exact h2 (ρ i) (ρ j) (List.getElem?_eq_some_iff.mp z1).1 (List.getElem?_eq_some_iff.mp y1).1 e a ha hb
end
end Pl

namespace Pl
open PySem L2 PySem.Spec PyProof.Rows

def Sl.val : Sl → Option U
  | .no => none
  | .ps u => some u
  | .ow u => some u
  | .io u => some u
  | .bo u => some u
/-- one's own, to be changed -/
def Sl.own : Sl → Option U
  | .ow u => some u
  | .io u => some u
  | _ => none
/-- the same with another content -/
def Sl.re : Sl → U → Sl
  | .no, _ => .no
  | .ps _, u => .ps u
  | .ow _, u => .ow u
  | .io _, u => .io u
  | .bo _, u => .bo u
def Sl.isIo : Sl → Bool
  | .io _ => true
  | .bo _ => true
  | _ => false
abbrev slv (σ : St) (i : Nat) : Option V := (σ[i]?).join
/-- what can be kept for good -/
def frzU : U → Bool
  | .dat (.list _) => true
  | .dic _ => true
  | _ => false

section
variable {F : Fr} {G G' H H' : Hp} {σ σ' : St} {st st' : Sg} {i j : Nat} {v x : V} {u : U} {s : Sl}

theorem slv_some (h : slv σ i = some v) : σ[i]? = some (some v) := by
  unfold slv at h
  cases e : σ[i]? with
  | none => rw [e] at h; cases h
  | some o => rw [e] at h; cases o with
    | none => cases h
    | some w => simp at h; rw [h]
theorem slv_lt (h : slv σ i = some v) : i < σ.length := (List.getElem?_eq_some_iff.mp (slv_some h)).1

theorem SR0.rd (h : SR0 F G H σ st) (hs : st[i]? = some s) (hv : s.val = some u) : ∃ v, slv σ i = some v ∧ RdU F.K G H v u := by
  obtain ⟨f, h1, h2⟩ := h.sl
  have z := h1 i s hs
  cases s with
  | no => cases hv
  | ps w => cases hv; obtain ⟨_, x, e, p⟩ := z; exact ⟨x, e, p.rd h.ex⟩
  | ow w => cases hv; obtain ⟨⟨x, e, p⟩, _⟩ := z; exact ⟨x, e, p.rd⟩
  | bo w => cases hv; obtain ⟨⟨x, e, p, _⟩, _⟩ := z; exact ⟨x, e, p.rd⟩
  | io w => cases hv; obtain ⟨⟨x, e, p, _⟩, _⟩ := z; exact ⟨x, e, p.rd⟩
theorem SR0.ps (h : SR0 F G H σ st) (hs : st[i]? = some (.ps u)) : ∃ v, slv σ i = some v ∧ PsU F.K G v u := by
  obtain ⟨f, h1, h2⟩ := h.sl
  obtain ⟨_, x, e, p⟩ := h1 i _ hs
  exact ⟨x, e, p⟩

theorem SR0.swap (h : SR0 F G H σ st) (hs : st[i]? = some s) {s' : Sl} (k : ∀ w fp, SlOk F G H w i fp s → SlOk F G H w i fp s') : SR0 F G H σ (st.set i s') := by
  obtain ⟨f, h1, h2⟩ := h.sl
  refine ⟨h.rel, by simp [h.len], f, fun j t q => ?_, fun j k hj hk => h2 j k (by simpa using hj) (by simpa using hk)⟩
  by_cases e : i = j
  · subst e
    rw [List.getElem?_set_self (List.getElem?_eq_some_iff.mp hs).1] at q
    cases q
    exact k _ _ (h1 i s hs)
  · rw [List.getElem?_set_ne e] at q
    exact h1 j t q

/-- the content of one's own is changed -/
theorem SR0.mutate (h : SR0 F G H σ st) (hs : st[i]? = some s) (ho : s.own = some u) : ∃ v fp, slv σ i = some v ∧ OwU F.K G H v fp u ∧
    ∀ H' u', OwU F.K G H' v fp u' → (∀ b, b ∉ fp → ∀ o, H b = some o → H' b = some o) → (∀ b, H' b = none → H b = none) → SR0 F G H' σ (st.set i (s.re u')) := by
  obtain ⟨f, h1, h2⟩ := h.sl
  have z := h1 i s hs
  have hi := (List.getElem?_eq_some_iff.mp hs).1
  have core : ∀ v, slv σ i = some v → OwU F.K G H v (f i) u → (∀ a ∈ f i, ∀ o, F.H0 a = some o → ∃ j, a ∈ F.FP j) → (∀ H' u', OwU F.K G H' v (f i) u' → SlOk F G H' (some v) i (f i) (s.re u')) →
      ∃ v fp, slv σ i = some v ∧ OwU F.K G H v fp u ∧ ∀ H' u', OwU F.K G H' v fp u' → (∀ b, b ∉ fp → ∀ o, H b = some o → H' b = some o) → (∀ b, H' b = none → H b = none) → SR0 F G H' σ (st.set i (s.re u')) := by
    intro v hv o fr ok
    refine ⟨v, f i, hv, o, fun H' u' o' k t => ⟨⟨fun a q e => ?_, h.rel.ex0, fun a q e m => ?_, h.rel.frs, fun a e => h.rel.trk a (t a e)⟩, by simp [h.len], f, fun j t q => ?_, fun j k hj hk => h2 j k (by simpa using hj) (by simpa using hk)⟩⟩
    · refine k a (fun m => ?_) q (h.ex a q e)
      rw [(o.fps a m).2] at e; cases e
    · refine k a (fun w => (fr a w q e).elim fun j z => m j z) q (h.rel.frm a q e m)
    · by_cases e : i = j
      · subst e
        rw [List.getElem?_set_self hi] at q
        cases q
        have := ok H' u' o'
        rw [← hv] at this
        exact this
      · rw [List.getElem?_set_ne e] at q
        have hj := (List.getElem?_eq_some_iff.mp q).1
        have y := (h1 j t q).fps
        exact (h1 j t q).keep (Ex.refl _) (fun a ha o q => k a (fun m => h2 j i hj hi (Ne.symm e) a ha m) o q) (fun a ha => (y a ha).2)
  cases s with
  | no => cases ho
  | ps w => cases ho
  | bo w => cases ho
  | ow w =>
    cases ho
    obtain ⟨⟨v, e, o⟩, n⟩ := z
    exact core v e o (fun a ha q e => by rw [n a ha] at e; cases e) fun H' u' o' => ⟨⟨v, rfl, o'⟩, n⟩
  | io w =>
    cases ho
    obtain ⟨⟨v, e, o, p⟩, n⟩ := z
    exact core v e o (fun a ha q _ => ⟨i, n a ha⟩) fun H' u' o' => ⟨⟨v, rfl, o', p⟩, n⟩

/-- one's own is kept for good from now on -/
theorem SR0.freeze (h : SR0 F G H σ st) (hs : st[i]? = some (.ow u)) (hf : frzU u = true) : ∃ G' v, Ex G G' ∧ SR0 F G' H σ (st.set i (.ps u)) ∧ slv σ i = some v ∧ PsU F.K G' v u := by
  obtain ⟨f, h1, h2⟩ := h.sl
  have hi := (List.getElem?_eq_some_iff.mp hs).1
  obtain ⟨⟨v, hv, o⟩, n⟩ := h1 i _ hs
  have core : ∀ a ob, H a = some ob → G a = none → f i = [a] → PsU F.K (upd G a ob) v u → ∃ G' v, Ex G G' ∧ SR0 F G' H σ (st.set i (.ps u)) ∧ slv σ i = some v ∧ PsU F.K G' v u := by
    intro a ob ha ga fa p
    have nw : Ex G (upd G a ob) := Ex.new ga
    refine ⟨upd G a ob, v, nw, ⟨⟨h.ex.upd_in ha, h.rel.ex0.trans nw, h.rel.frm, fun b q e => ?_, h.rel.trk⟩, by simp [h.len], fun j => if j = i then [] else f j, fun j t q => ?_, fun j k hj hk ne b hb => ?_⟩, hv, p⟩
    · by_cases z : b = a
      · subst z; exact .inr (n b (by rw [fa]; simp))
      · rw [upd_ne z] at e; exact h.rel.frs b q e
    · dsimp only
      by_cases e : j = i
      · subst e
        rw [List.getElem?_set_self hi] at q
        cases q
        rw [if_pos rfl]
        exact ⟨rfl, v, hv, p⟩
      · rw [List.getElem?_set_ne (Ne.symm e)] at q
        rw [if_neg e]
        have hj := (List.getElem?_eq_some_iff.mp q).1
        have y := (h1 j t q).fps
        refine (h1 j t q).keep nw (fun _ _ o q => q) (fun b hb => ?_)
        have nb : b ≠ a := fun z => h2 j i hj hi e b hb (by rw [fa, z]; simp)
        rw [upd_ne nb]
        exact (y b hb).2
    · dsimp only at hb ⊢
      have hj' : j < st.length := by simpa using hj
      have hk' : k < st.length := by simpa using hk
      by_cases e : j = i
      · rw [if_pos e] at hb; cases hb
      · rw [if_neg e] at hb
        by_cases e' : k = i
        · rw [if_pos e']; simp
        · rw [if_neg e']; exact h2 j k hj' hk' ne b hb
  cases u with
  | dat d =>
    cases d with
    | list ds =>
      obtain ⟨a, vs, e1, e2, e3, e4, e5⟩ := o
      refine core a _ e2 e3 e5 ?_
      rw [e1]
      exact .lst (SqL.of upd_same) (dps_mono (Ex.new e3) _ e4)
    | _ => cases hf
  | dic kvs =>
    obtain ⟨a, vs, e1, e2, e3, e4, e5⟩ := o
    obtain ⟨ob, eo⟩ := e2.there
    refine core a ob eo e3 e5 ⟨a, vs, e1, e2.keep (Ex.new e3) fun q z => ?_, dps_mono (Ex.new e3) _ e4⟩
    rw [eo] at z; cases z
    exact upd_same
  | dl _ _ => cases hf

theorem get_app_l {α : Type} {l : List α} {y : α} {k : Nat} (h : k < l.length) : (l ++ [y])[k]? = l[k]? := List.getElem?_append_left h
theorem get_app_n {α : Type} {l : List α} {y : α} : (l ++ [y])[l.length]? = some y := by simp

/-- the last slot is forgotten -/
theorem SR0.pop {w : Option V} (h : SR0 F G H (σ ++ [w]) (st ++ [s])) : SR0 F G H σ st := by
  have hl : st.length = σ.length := by have := h.len; simpa using this
  refine h.re (fun j => j) hl (fun j t q => .inr ⟨?_, ?_, .inl rfl⟩) (fun j k s t a b ne _ _ e => absurd e ne)
  · rw [get_app_l (List.getElem?_eq_some_iff.mp q).1]; exact q
  · rw [get_app_l (by rw [← hl]; exact (List.getElem?_eq_some_iff.mp q).1)]
/-- the last slot goes to place i -/
theorem SR0.store (h : SR0 F G H (σ ++ [some v]) (st ++ [s])) (hi : i < st.length) (hs : s.isIo = false) : SR0 F G H (σ.set i (some v)) (st.set i s) := by
  have hl : st.length = σ.length := by have := h.len; simpa using this
  refine h.re (fun j => if j = i then st.length else j) (by simpa using hl) (fun j t q => ?_) (fun j k s t a b ne _ _ e => ?_)
  · by_cases e : j = i
    · subst e
      rw [List.getElem?_set_self hi] at q
      cases q
      simp only [if_true]
      rw [get_app_n, hl, get_app_n, List.getElem?_set_self (by omega)]
      cases s with
      | no => exact .inl rfl
      | ps u => exact .inr ⟨rfl, rfl, .inr ⟨u, .inl rfl⟩⟩
      | ow u => exact .inr ⟨rfl, rfl, .inr ⟨u, .inr rfl⟩⟩
      | bo u => cases hs
      | io u => cases hs
    · simp only [if_neg e]
      rw [List.getElem?_set_ne (Ne.symm e)] at q
      have hj := (List.getElem?_eq_some_iff.mp q).1
      refine .inr ⟨?_, ?_, .inl True.intro⟩
      · rw [get_app_l hj]; exact q
      · rw [get_app_l (by omega), List.getElem?_set_ne (Ne.symm e)]
  · have hj : j < st.length := by have := (List.getElem?_eq_some_iff.mp a).1; simpa using this
    have hk : k < st.length := by have := (List.getElem?_eq_some_iff.mp b).1; simpa using this
    by_cases e1 : j = i <;> by_cases e2 : k = i
    · exact absurd (e1.trans e2.symm) ne
    · simp only [if_pos e1, if_neg e2] at e; omega
    · simp only [if_pos e2, if_neg e1] at e; omega
    · simp only [if_neg e1, if_neg e2] at e; exact absurd e ne
/-- place i is handed on -/
theorem SR0.take (h : SR0 F G H σ st) (hs : st[i]? = some s) (hn : s ≠ .no) (hv : slv σ i = some v) (hio : s.isIo = false) : SR0 F G H (σ ++ [some v]) (st.set i .no ++ [s]) := by
  have hl := h.len
  have hi := (List.getElem?_eq_some_iff.mp hs).1
  refine h.re (fun j => if j = st.length then i else j) (by simp [hl]) (fun j t q => ?_) (fun j k s t a b ne n1 n2 e => ?_)
  · by_cases e : j = st.length
    · subst e
      rw [show st.length = (st.set i Sl.no).length by simp, get_app_n] at q
      cases q
      simp only [if_true]
      rw [hl, get_app_n]
      refine .inr ⟨hs, ?_, ?_⟩
      · exact hv.symm
      · cases s with
        | no => exact absurd rfl hn
        | ps u => exact .inr ⟨u, .inl rfl⟩
        | ow u => exact .inr ⟨u, .inr rfl⟩
        | bo u => cases hio
        | io u => cases hio
    · simp only [if_neg e]
      have hj : j < st.length := by have := (List.getElem?_eq_some_iff.mp q).1; simp at this; omega
      rw [get_app_l (by simpa using hj)] at q
      by_cases e2 : i = j
      · subst e2
        rw [List.getElem?_set_self hi] at q
        cases q
        exact .inl rfl
      · rw [List.getElem?_set_ne e2] at q
        exact .inr ⟨q, by rw [get_app_l (by omega)], .inl True.intro⟩
  · have hj : j < st.length + 1 := by have := (List.getElem?_eq_some_iff.mp a).1; simpa using this
    have hk : k < st.length + 1 := by have := (List.getElem?_eq_some_iff.mp b).1; simpa using this
    have dead : ∀ {t : Sl}, (st.set i Sl.no ++ [s])[i]? = some t → t ≠ .no → False := fun {t} q n => by
      rw [get_app_l (by simpa using hi), List.getElem?_set_self hi] at q
      cases q
      exact n rfl
    by_cases e1 : j = st.length <;> by_cases e2 : k = st.length
    · exact absurd (e1.trans e2.symm) ne
    · simp only [if_pos e1, if_neg e2] at e
      subst e
      rw [get_app_l (by simpa using hi), List.getElem?_set_self hi] at b
      cases b
      exact absurd rfl n2
    · simp only [if_pos e2, if_neg e1] at e
      subst e
      rw [get_app_l (by simpa using hi), List.getElem?_set_self hi] at a
      cases a
      exact absurd rfl n1
    · simp only [if_neg e1, if_neg e2] at e; exact absurd e ne
/-- place i is forgotten -/
theorem SR0.drop (h : SR0 F G H σ st) : SR0 F G H σ (st.set i .no) := by
  refine h.re (fun j => j) (by simpa using h.len) (fun j t q => ?_) (fun j k s t a b ne _ _ e => absurd e ne)
  by_cases e : i = j
  · subst e
    have := (List.getElem?_eq_some_iff.mp q).1
    rw [List.getElem?_set_self (by simpa using this)] at q
    cases q
    exact .inl rfl
  · rw [List.getElem?_set_ne e] at q
    exact .inr ⟨q, rfl, .inl rfl⟩

/-! with things held besides: T, ts -/
structure SR (F : Fr) (G H : Hp) (σ : St) (st : Sg) : Prop where
  z : SR0 F G H (σ ++ F.T) (st ++ F.ts)
  len : st.length = σ.length
  nio : ∀ t ∈ F.ts, t.isIo = false
theorem SR.ex (h : SR F G H σ st) : Ex G H := h.z.ex
theorem SR.rel (h : SR F G H σ st) : HRel F G H := h.z.rel
theorem SR.tl (h : SR F G H σ st) : F.ts.length = F.T.length := by have := h.z.len; have := h.len; simp at *; omega
theorem get_l {α : Type} {l m : List α} {k : Nat} (h : k < l.length) : (l ++ m)[k]? = l[k]? := List.getElem?_append_left h
theorem SR.slvT (h : SR F G H σ st) (hi : i < st.length) : slv (σ ++ F.T) i = slv σ i := by unfold slv; rw [get_l (by have := h.len; omega)]
theorem SR.at (hs : st[i]? = some s) : (st ++ F.ts)[i]? = some s := by rw [get_l (List.getElem?_eq_some_iff.mp hs).1]; exact hs
theorem set_l {α : Type} {l m : List α} {k : Nat} {x : α} (h : k < l.length) : (l ++ m).set k x = l.set k x ++ m := by rw [List.set_append_left _ _ h]
theorem SR.rd (h : SR F G H σ st) (hs : st[i]? = some s) (hv : s.val = some u) : ∃ v, slv σ i = some v ∧ RdU F.K G H v u := by
  obtain ⟨v, e, q⟩ := h.z.rd (SR.at hs) hv
  rw [h.slvT (List.getElem?_eq_some_iff.mp hs).1] at e
  exact ⟨v, e, q⟩
theorem SR.ps (h : SR F G H σ st) (hs : st[i]? = some (.ps u)) : ∃ v, slv σ i = some v ∧ PsU F.K G v u := by
  obtain ⟨v, e, q⟩ := h.z.ps (SR.at hs)
  rw [h.slvT (List.getElem?_eq_some_iff.mp hs).1] at e
  exact ⟨v, e, q⟩
theorem SR.mutate (h : SR F G H σ st) (hs : st[i]? = some s) (ho : s.own = some u) : ∃ v fp, slv σ i = some v ∧ OwU F.K G H v fp u ∧
    ∀ H' u', OwU F.K G H' v fp u' → (∀ b, b ∉ fp → ∀ o, H b = some o → H' b = some o) → (∀ b, H' b = none → H b = none) → SR F G H' σ (st.set i (s.re u')) := by
  have hi := (List.getElem?_eq_some_iff.mp hs).1
  obtain ⟨v, fp, e, q, k⟩ := h.z.mutate (SR.at hs) ho
  rw [h.slvT hi] at e
  refine ⟨v, fp, e, q, fun H' u' a b c => ⟨?_, by simpa using h.len, h.nio⟩⟩
  have := k H' u' a b c
  rw [set_l hi] at this
  exact this
theorem SR.freeze (h : SR F G H σ st) (hs : st[i]? = some (.ow u)) (hf : frzU u = true) : ∃ G' v, Ex G G' ∧ SR F G' H σ (st.set i (.ps u)) ∧ slv σ i = some v ∧ PsU F.K G' v u := by
  have hi := (List.getElem?_eq_some_iff.mp hs).1
  obtain ⟨G', v, e, q, e2, p⟩ := h.z.freeze (SR.at hs) hf
  rw [h.slvT hi] at e2
  rw [set_l hi] at q
  exact ⟨G', v, e, ⟨q, by simpa using h.len, h.nio⟩, e2, p⟩
/-- a slot laid behind goes ahead of what is held besides -/
theorem SR0.rot {T : List (Option V)} {ts : List Sl} (h : SR0 F G H (σ ++ T ++ [some v]) (st ++ ts ++ [s])) (hl : st.length = σ.length) (ht : ts.length = T.length) (hs : s.isIo = false) (hio : ∀ t ∈ ts, t.isIo = false) : SR0 F G H (σ ++ [some v] ++ T) (st ++ [s] ++ ts) := by
  refine h.re (fun j => if j < st.length then j else if j = st.length then st.length + ts.length else j - 1) (by simp; omega) (fun j t q => ?_) (fun j k a b q1 q2 ne n1 n2 e => ?_)
  · by_cases h1 : j < st.length
    · rw [if_pos h1]
      rw [List.append_assoc, get_l h1] at q
      refine .inr ⟨by rw [List.append_assoc, get_l h1]; exact q, ?_, .inl rfl⟩
      rw [List.append_assoc, get_l (by omega), List.append_assoc, get_l (by omega)]
    · rw [if_neg h1]
      by_cases h2 : j = st.length
      · rw [if_pos h2]
        subst h2
        rw [List.append_assoc, List.getElem?_append_right (Nat.le_refl _)] at q
        simp at q
        subst q
        have e1 : (st ++ ts ++ [s])[st.length + ts.length]? = some s := by
          rw [show st.length + ts.length = (st ++ ts).length by simp, get_app_n]
        have e2 : (σ ++ T ++ [some v])[st.length + ts.length]? = some (some v) := by
          rw [show st.length + ts.length = (σ ++ T).length by simp; omega, get_app_n]
        have e3 : (σ ++ [some v] ++ T)[st.length]? = some (some v) := by
          rw [hl, get_l (by simp), get_app_n]
        rw [e1, e2, e3]
        cases s with
        | no => exact .inl rfl
        | ps u => exact .inr ⟨rfl, rfl, .inr ⟨u, .inl rfl⟩⟩
        | ow u => exact .inr ⟨rfl, rfl, .inr ⟨u, .inr rfl⟩⟩
        | bo u => cases hs
        | io u => cases hs
      · rw [if_neg h2]
        have h3 : st.length < j := by omega
        have q' : ts[j - 1 - st.length]? = some t := by
          rw [List.getElem?_append_right (by simp; omega)] at q
          simp at q
          rw [show j - 1 - st.length = j - (st.length + 1) by omega]
          exact q
        have hj : j - 1 - st.length < ts.length := (List.getElem?_eq_some_iff.mp q').1
        have e1 : (st ++ ts ++ [s])[j - 1]? = some t := by
          rw [get_l (by simp; omega), List.getElem?_append_right (by omega)]
          exact q'
        have e2 : ((σ ++ [some v] ++ T)[j]?).join = ((σ ++ T ++ [some v])[j - 1]?).join := by
          rw [List.getElem?_append_right (by simp; omega), get_l (by simp; omega), List.getElem?_append_right (by omega)]
          simp
          rw [show j - (σ.length + 1) = j - 1 - σ.length by omega]
        have hn := hio t (List.mem_of_getElem? q')
        cases t with
        | no => exact .inl rfl
        | ps u => exact .inr ⟨e1, e2, .inr ⟨u, .inl rfl⟩⟩
        | ow u => exact .inr ⟨e1, e2, .inr ⟨u, .inr rfl⟩⟩
        | bo u => cases hn
        | io u => cases hn
  · have hj : j < st.length + 1 + ts.length := by have := (List.getElem?_eq_some_iff.mp q1).1; simp at this; omega
    have hk : k < st.length + 1 + ts.length := by have := (List.getElem?_eq_some_iff.mp q2).1; simp at this; omega
    exfalso
    split at e <;> split at e <;> (try split at e) <;> (try split at e) <;> omega
/-- .. and back -/
theorem SR0.rotB {T : List (Option V)} {ts : List Sl} (h : SR0 F G H (σ ++ [some v] ++ T) (st ++ [s] ++ ts)) (hl : st.length = σ.length) (ht : ts.length = T.length) (hs : s.isIo = false) (hio : ∀ t ∈ ts, t.isIo = false) : SR0 F G H (σ ++ T ++ [some v]) (st ++ ts ++ [s]) := by
  refine h.re (fun j => if j < st.length then j else if j < st.length + ts.length then j + 1 else st.length) (by simp; omega) (fun j t q => ?_) (fun j k a b q1 q2 ne n1 n2 e => ?_)
  · by_cases h1 : j < st.length
    · rw [if_pos h1]
      rw [List.append_assoc, get_l h1] at q
      refine .inr ⟨by rw [List.append_assoc, get_l h1]; exact q, ?_, .inl rfl⟩
      rw [List.append_assoc, get_l (by omega), List.append_assoc, get_l (by omega)]
    · rw [if_neg h1]
      by_cases h2 : j < st.length + ts.length
      · rw [if_pos h2]
        have q' : ts[j - st.length]? = some t := by
          rw [get_l (by simp; omega), List.getElem?_append_right (by omega)] at q
          exact q
        have e1 : (st ++ [s] ++ ts)[j + 1]? = some t := by
          rw [List.getElem?_append_right (by simp; omega)]
          simp
          exact q'
        have e2 : ((σ ++ T ++ [some v])[j]?).join = ((σ ++ [some v] ++ T)[j + 1]?).join := by
          rw [List.getElem?_append_right (l₁ := σ ++ [some v]) (by simp; omega), get_l (by simp; omega), List.getElem?_append_right (by omega)]
          simp
        have hn := hio t (List.mem_of_getElem? q')
        cases t with
        | no => exact .inl rfl
        | ps u => exact .inr ⟨e1, e2, .inr ⟨u, .inl rfl⟩⟩
        | ow u => exact .inr ⟨e1, e2, .inr ⟨u, .inr rfl⟩⟩
        | bo u => cases hn
        | io u => cases hn
      · rw [if_neg h2]
        have hj : j = st.length + ts.length := by have := (List.getElem?_eq_some_iff.mp q).1; simp at this; omega
        subst hj
        rw [show st.length + ts.length = (st ++ ts).length by simp, get_app_n] at q
        cases q
        have e1 : (st ++ [s] ++ ts)[st.length]? = some s := by rw [get_l (by simp), get_app_n]
        have e2 : (σ ++ T ++ [some v])[st.length + ts.length]? = some (some v) := by
          rw [show st.length + ts.length = (σ ++ T).length by simp; omega, get_app_n]
        have e3 : (σ ++ [some v] ++ T)[st.length]? = some (some v) := by
          rw [hl, get_l (by simp), get_app_n]
        rw [e1, e2, e3]
        cases s with
        | no => exact .inl rfl
        | ps u => exact .inr ⟨rfl, rfl, .inr ⟨u, .inl rfl⟩⟩
        | ow u => exact .inr ⟨rfl, rfl, .inr ⟨u, .inr rfl⟩⟩
        | bo u => cases hs
        | io u => cases hs
  · have hj : j < st.length + 1 + ts.length := by have := (List.getElem?_eq_some_iff.mp q1).1; simp at this; omega
    have hk : k < st.length + 1 + ts.length := by have := (List.getElem?_eq_some_iff.mp q2).1; simp at this; omega
    exfalso
    split at e <;> split at e <;> (try split at e) <;> (try split at e) <;> omega
theorem SR.of0 (h : SR0 F G H (σ ++ F.T ++ [some v]) (st ++ F.ts ++ [s])) (hl : st.length = σ.length) (n : ∀ t ∈ F.ts, t.isIo = false) (hs : s.isIo = false) : SR F G H (σ ++ [some v]) (st ++ [s]) := by
  have ht : F.ts.length = F.T.length := by have := h.len; simp at this; omega
  exact ⟨h.rot hl ht hs n, by simp [hl], n⟩
theorem SR.to0 (h : SR F G H (σ ++ [some v]) (st ++ [s])) (hs : s.isIo = false) : SR0 F G H (σ ++ F.T ++ [some v]) (st ++ F.ts ++ [s]) := by
  have hl : st.length = σ.length := by have := h.len; simpa using this
  exact h.z.rotB hl h.tl hs h.nio
theorem SR.push_ps (h : SR F G H σ st) (p : PsU F.K G v u) : SR F G H (σ ++ [some v]) (st ++ [.ps u]) := SR.of0 (h.z.push_ps p) h.len h.nio rfl
theorem SR.push_no (h : SR F G H σ st) : SR F G H (σ ++ [some v]) (st ++ [.no]) := SR.of0 h.z.push_no h.len h.nio rfl
theorem SR.push_ow (h : SR F G H σ st) {fp : List Addr} (o : OwU F.K G H' v fp u) (r : HRel F G H') (k : ∀ a o, H a = some o → H' a = some o) (n : ∀ a ∈ fp, H a = none) : SR F G H' (σ ++ [some v]) (st ++ [.ow u]) := SR.of0 (h.z.push_ow o r k n) h.len h.nio rfl
theorem SR.new_ps (h : SR F G H σ st) {p : Addr} {o : HO} (hp : H p = none) : SR F (upd G p o) (upd H p o) σ st := ⟨h.z.new_ps hp, h.len, h.nio⟩
theorem SR.new (h : SR F G H σ st) {p : Addr} {o : HO} (hp : H p = none) : SR F G (upd H p o) σ st := ⟨h.z.new hp, h.len, h.nio⟩
theorem SR.pop (h : SR F G H (σ ++ [some v]) (st ++ [s])) (hs : s.isIo = false) : SR F G H σ st := ⟨(h.to0 hs).pop, by have := h.len; simpa using this, h.nio⟩
theorem SR.store (h : SR F G H (σ ++ [some v]) (st ++ [s])) (hi : i < st.length) (hs : s.isIo = false) : SR F G H (σ.set i (some v)) (st.set i s) := by
  have hl : st.length = σ.length := by have := h.len; simpa using this
  have := (h.to0 hs).store (i := i) (by simp; omega) hs
  rw [set_l hi, set_l (by omega)] at this
  exact ⟨this, by simpa using hl, h.nio⟩
theorem SR.take (h : SR F G H σ st) (hs : st[i]? = some s) (hn : s ≠ .no) (hv : slv σ i = some v) (hio : s.isIo = false) : SR F G H (σ ++ [some v]) (st.set i .no ++ [s]) := by
  have hi := (List.getElem?_eq_some_iff.mp hs).1
  have := h.z.take (SR.at hs) hn (by rw [h.slvT hi]; exact hv) hio
  rw [set_l hi] at this
  exact SR.of0 this (by simpa using h.len) h.nio hio
theorem SR.drop (h : SR F G H σ st) (hi : i < st.length) : SR F G H σ (st.set i .no) := by
  have := h.z.drop (i := i)
  rw [set_l hi] at this
  exact ⟨this, by simpa using h.len, h.nio⟩
/-- the last of σ's slots is known -/
theorem SR.last (h : SR F G H (σ ++ [some v]) (st ++ [s])) (hv : s.val = some u) : ∃ w, w = v ∧ RdU F.K G H w u := by
  have hl : st.length = σ.length := by have := h.len; simpa using this
  obtain ⟨w, e, q⟩ := h.rd (i := st.length) get_app_n hv
  refine ⟨w, ?_, q⟩
  unfold slv at e
  rw [hl, get_app_n] at e
  cases e; rfl
theorem SR.last_ps (h : SR F G H (σ ++ [some v]) (st ++ [.ps u])) : PsU F.K G v u := by
  have hl : st.length = σ.length := by have := h.len; simpa using this
  obtain ⟨w, e, q⟩ := h.ps (i := st.length) get_app_n
  have e4 : w = v := by
    unfold slv at e
    rw [hl, get_app_n] at e
    cases e; rfl
  exact e4 ▸ q
theorem SR.last_ow (h : SR F G H (σ ++ [some v]) (st ++ [.ow u])) : ∃ fp, OwU F.K G H v fp u := by
  obtain ⟨f, h1, h2⟩ := h.z.sl
  obtain ⟨⟨x, e, o⟩, _⟩ := h1 st.length (.ow u) (by rw [get_l (by simp), get_app_n])
  have hl : st.length = σ.length := by have := h.len; simpa using this
  rw [hl, get_l (by simp), get_app_n] at e
  cases e
  exact ⟨_, o⟩
/-- a value of one's own, kept for good -/
theorem SR.frz_last (h : SR F G H (σ ++ [some v]) (st ++ [.ow u])) (hf : frzU u = true) : ∃ G', Ex G G' ∧ SR F G' H σ st ∧ PsU F.K G' v u := by
  obtain ⟨G2, w, x, r2, e3, p⟩ := h.freeze (i := st.length) get_app_n hf
  have e5 : (st ++ [Sl.ow u]).set st.length (.ps u) = st ++ [.ps u] := by simp
  rw [e5] at r2
  exact ⟨G2, x, r2.pop rfl, r2.last_ps⟩
/-- what is held besides is taken up among it -/
theorem SR.hold (h : SR F G H (σ ++ [some v]) (st ++ [s])) (hs : s.isIo = false) : SR { F with T := some v :: F.T, ts := s :: F.ts } G H σ st := by
  have hl : st.length = σ.length := by have := h.len; simpa using this
  have z := h.z
  have e1 : σ ++ [some v] ++ F.T = σ ++ (some v :: F.T) := by simp
  have e2 : st ++ [s] ++ F.ts = st ++ (s :: F.ts) := by simp
  rw [e1, e2] at z
  refine ⟨⟨⟨z.rel.ex, z.rel.ex0, z.rel.frm, z.rel.frs, z.rel.trk⟩, z.len, ?_⟩, hl, fun t ht => ?_⟩
  · obtain ⟨f, h1, h2⟩ := z.sl
    refine ⟨f, fun i s q => ?_, h2⟩
    have := h1 i s q
    cases s <;> exact this
  · rcases List.mem_cons.mp ht with e | ht
    · rw [e]; exact hs
    · exact h.nio t ht
theorem SR.unhold (h : SR { F with T := some v :: F.T, ts := s :: F.ts } G H σ st) : SR F G H (σ ++ [some v]) (st ++ [s]) := by
  have hl := h.len
  have z := h.z
  have e1 : σ ++ (some v :: F.T) = σ ++ [some v] ++ F.T := by simp
  have e2 : st ++ (s :: F.ts) = st ++ [s] ++ F.ts := by simp
  refine ⟨⟨⟨z.rel.ex, z.rel.ex0, z.rel.frm, z.rel.frs, z.rel.trk⟩, ?_, ?_⟩, by simp [hl], fun t ht => h.nio t (List.mem_cons_of_mem _ ht)⟩
  · have := z.len
    simp at this ⊢
    omega
  · obtain ⟨f, h1, h2⟩ := z.sl
    dsimp only at h1 h2
    rw [e2] at h1 h2
    rw [e1] at h1
    refine ⟨f, fun i s q => ?_, h2⟩
    have := h1 i s q
    cases s <;> exact this
end
end Pl

namespace Pl
open PySem L2 PySem.Spec PyProof.Rows

/-- an expression's end: a value (one's own, or one that stays) and the slots; an error of a class with what it keeps; nothing is known -/
inductive RE where
  | ok (o : Bool) (u : U) (st : Sg)
  | exc (c : Nat) (d : D) (st : Sg)
  | bad
abbrev SE := Sg → RE
/-- a statement's -/
inductive RS where
  | nx (st : Sg)
  | rt (o : Bool) (u : U) (st : Sg)
  | bk (st : Sg)
  | ct (st : Sg)
  | exc (c : Nat) (d : D) (st : Sg)
  | bad
abbrev SS := Sg → RS
/-- a test's -/
inductive RT where
  | ok (b : Bool) (st : Sg)
  | exc (c : Nat) (d : D) (st : Sg)
  | bad
abbrev ST := Sg → RT

def sl : Bool → U → Sl
  | true, u => .ow u
  | false, u => .ps u

/-- the wish of exceptions, where the classes stand -/
structure Wx where
  ca : Nat → Addr
  W : WX

section
variable (F : Fr) (W : Wx)
def PostX (G : Hp) (σ : St) (c : Nat) (d : D) (st : Sg) : Prop :=
  ∀ G' H' dx v, Ex G G' → SR F G' H' σ st → H' dx = some (.xd [("at", v)]) → Dp F.K G' v d → W.W (.ref (W.ca c)) (some dx) σ H'
def PostE (G : Hp) (σ : St) (Q : VK) : RE → Prop
  | .ok o u st => ∀ v G' H', Ex G G' → SR F G' H' (σ ++ [some v]) (st ++ [sl o u]) → Q v H'
  | .exc c d st => PostX F W G σ c d st
  | .bad => False
def PostT (G : Hp) (σ : St) (Q : Bool → Hp → Prop) : RT → Prop
  | .ok b st => ∀ G' H', Ex G G' → SR F G' H' σ st → Q b H'
  | .exc c d st => PostX F W G σ c d st
  | .bad => False
def PostS (G : Hp) (n : Nat) (D : Ends) : RS → Prop
  | .nx st => ∀ σ' G' H', σ'.length = n → Ex G G' → SR F G' H' σ' st → D.nx σ' H'
  | .rt o u st => ∀ v σ' G' H', σ'.length = n → Ex G G' → SR F G' H' (σ' ++ [some v]) (st ++ [sl o u]) → D.rt v H'
  | .bk st => ∀ σ' G' H', σ'.length = n → Ex G G' → SR F G' H' σ' st → D.bk σ' H'
  | .ct st => ∀ σ' G' H', σ'.length = n → Ex G G' → SR F G' H' σ' st → D.ct σ' H'
  | .exc c d st => ∀ σ', σ'.length = n → PostX F W G σ' c d st
  | .bad => False
/-- the readings -/
def tE (f : SE) : TE := fun σ H Q => ∃ G st, SR F G H σ st ∧ PostE F W G σ Q (f st)
def tT (f : ST) : TT := fun σ H Q => ∃ G st, SR F G H σ st ∧ PostT F W G σ Q (f st)
def tS (f : SS) : TS := fun D σ H => ∃ G st, SR F G H σ st ∧ PostS F W G σ.length D (f st)
end
abbrev JE (X : Cx) (F : Fr) (W : Wx) (e : Expr) (f : SE) : Prop := PE X e (tE F W f)
abbrev JT (X : Cx) (F : Fr) (W : Wx) (e : Expr) (f : ST) : Prop := PT X e (tT F W f)
abbrev JS (X : Cx) (F : Fr) (W : Wx) (s : Stmt) (f : SS) : Prop := PS X s (tS F W f)
abbrev JB (X : Cx) (F : Fr) (W : Wx) (s : List Stmt) (f : SS) : Prop := PSs X s (tS F W f)

theorem PE.imp {X : Cx} {e : Expr} {t t' : TE} (h : PE X e t) (k : ∀ σ H Q, t' σ H Q → t σ H Q) : PE X e t' := ⟨fun pins s σ H Q I q => h.run pins s σ H Q I (k σ H Q q)⟩
theorem PT.imp {X : Cx} {e : Expr} {t t' : TT} (h : PT X e t) (k : ∀ σ H Q, t' σ H Q → t σ H Q) : PT X e t' := ⟨fun pins s σ H Q I q => h.run pins s σ H Q I (k σ H Q q)⟩
theorem PS.imp {X : Cx} {e : Stmt} {t t' : TS} (h : PS X e t) (k : ∀ D σ H, t' D σ H → t D σ H) : PS X e t' := ⟨fun pins s σ H D I q => h.run pins s σ H D I (k D σ H q)⟩
theorem PSs.imp {X : Cx} {e : List Stmt} {t t' : TS} (h : PSs X e t) (k : ∀ D σ H, t' D σ H → t D σ H) : PSs X e t' := ⟨fun pins s σ H D I q => h.run pins s σ H D I (k D σ H q)⟩
theorem PA.imp {X : Cx} {e : List Expr} {t t' : TA} (h : PA X e t) (k : ∀ σ H Q, t' σ H Q → t σ H Q) : PA X e t' := ⟨fun pos pins s σ H Q I q => h.run pos pins s σ H Q I (k σ H Q q)⟩

section
variable {X : Cx} {F : Fr} {W : Wx} {G G' H H' : Hp} {σ : St} {st st' : Sg} {Q : VK} {v : V} {u : U}
theorem PostX.mono {c : Nat} {d : D} (e : Ex G G') (h : PostX F W G σ c d st) : PostX F W G' σ c d st := fun G2 H2 dx v e2 r => h G2 H2 dx v (e.trans e2) r
theorem PostE.mono {r : RE} (e : Ex G G') (h : PostE F W G σ Q r) : PostE F W G' σ Q r := by
  cases r with
  | ok o u st => exact fun v G2 H2 e2 r => h v G2 H2 (e.trans e2) r
  | exc c d st => exact PostX.mono e h
  | bad => exact h
theorem PostT.mono {Q : Bool → Hp → Prop} {r : RT} (e : Ex G G') (h : PostT F W G σ Q r) : PostT F W G' σ Q r := by
  cases r with
  | ok b st => exact fun G2 H2 e2 r => h G2 H2 (e.trans e2) r
  | exc c d st => exact PostX.mono e h
  | bad => exact h
theorem PostS.mono {n : Nat} {D : Ends} {r : RS} (e : Ex G G') (h : PostS F W G n D r) : PostS F W G' n D r := by
  cases r with
  | nx st => exact fun σ' G2 H2 l e2 r => h σ' G2 H2 l (e.trans e2) r
  | bk st => exact fun σ' G2 H2 l e2 r => h σ' G2 H2 l (e.trans e2) r
  | ct st => exact fun σ' G2 H2 l e2 r => h σ' G2 H2 l (e.trans e2) r
  | rt o u st => exact fun v σ' G2 H2 l e2 r => h v σ' G2 H2 l (e.trans e2) r
  | exc c d st => exact fun σ' l => PostX.mono e (h σ' l)
  | bad => exact h
/-- the value that stays -/
theorem PostE.ps (h : PostE F W G σ Q (.ok false u st)) (r : SR F G H σ st) (p : PsU F.K G v u) : Q v H := h v G H (Ex.refl G) (r.push_ps p)
theorem PostE.psG (h : PostE F W G σ Q (.ok false u st)) (e : Ex G G') (r : SR F G' H σ st) (p : PsU F.K G' v u) : Q v H := h v G' H e (r.push_ps p)

/-! constants, names -/
def intE (i : Int) : SE := fun st => .ok false (.dat (.int i)) st
def blE (b : Bool) : SE := fun st => .ok false (.dat (.bool b)) st
def strE (s : Str) : SE := fun st => .ok false (.dat (.str s)) st
def nonE : SE := fun st => .ok false (.dat .none) st
theorem je_int {i j pos} : JE X F W (.Constant (.int i) j pos) (intE i) := PE.imp pe_int fun σ H Q ⟨G, st, r, h⟩ => PostE.ps h r (.int i)
theorem je_bl {b j pos} : JE X F W (.Constant (.bool b) j pos) (blE b) := PE.imp pe_bl fun σ H Q ⟨G, st, r, h⟩ => PostE.ps h r (.bl b)
theorem je_str {s j pos} : JE X F W (.Constant (.str s) j pos) (strE s) := PE.imp pe_str fun σ H Q ⟨G, st, r, h⟩ => PostE.ps h r (.str s)
theorem je_non {j pos} : JE X F W (.Constant .none j pos) nonE := PE.imp pe_non fun σ H Q ⟨G, st, r, h⟩ => PostE.ps h r .non
/-- a name as a value that goes on: one's own is kept for good from then on -/
def varE (i : Nat) : SE := fun st => match st[i]? with
  | some (.ps u) => .ok false u st
  | some (.ow u) => if frzU u then .ok false u (st.set i (.ps u)) else .bad
  | _ => .bad
/-- a name as a value that is handed on -/
def movE (i : Nat) : SE := fun st => match st[i]? with
  | some (.ps u) => .ok false u st
  | some (.ow u) => .ok true u (st.set i .no)
  | _ => .bad
theorem je_var {e : Expr} {i : Nat} (h : PE X e (tVar i)) : JE X F W e (varE i) := by
  refine PE.imp h fun σ H Q ⟨G, st, r, q⟩ => ?_
  unfold varE at q
  split at q
  · rename_i u e
    obtain ⟨v, e1, p⟩ := r.ps e
    exact ⟨v, slv_some e1, PostE.ps q r p⟩
  · rename_i u e
    split at q
    · rename_i f
      obtain ⟨G', v, x, r', e1, p⟩ := r.freeze e f
      exact ⟨v, slv_some e1, PostE.psG q x r' p⟩
    · exact q.elim
  · exact q.elim
theorem je_mov {e : Expr} {i : Nat} (h : PE X e (tVar i)) : JE X F W e (movE i) := by
  refine PE.imp h fun σ H Q ⟨G, st, r, q⟩ => ?_
  unfold movE at q
  split at q
  · rename_i u e
    obtain ⟨v, e1, p⟩ := r.ps e
    exact ⟨v, slv_some e1, PostE.ps q r p⟩
  · rename_i u e
    obtain ⟨v, e1, _⟩ := r.rd e rfl
    exact ⟨v, slv_some e1, q v G H (Ex.refl G) (r.take e (by simp [sl]) e1 rfl)⟩
  · exact q.elim

/-! operands -/
/-- a name that is looked at when all operands are there, or a value -/
inductive Opn where
  | rd (i : Nat)
  | ev (f : SE)
abbrev Acc := Sum Nat U
def evO (o : Opn) (st : Sg) (k : Acc → Sg → RE) : RE := match o with
  | .rd i => match (st[i]?).bind Sl.val with
    | some _ => k (.inl i) st
    | none => .bad
  | .ev f => match f st with
    | .ok false u st' => k (.inr u) st'
    | .ok true u st' => if frzU u then k (.inr u) st' else .bad
    | .exc c d st' => .exc c d st'
    | .bad => .bad
def evN : List Opn → List Acc → (List Acc → Sg → RE) → SE
  | [], acc, k => fun st => k acc st
  | o :: os, acc, k => fun st => evO o st fun r st' => evN os (acc ++ [r]) k st'
def fetch (st : Sg) : Acc → Option U
  | .inl i => (st[i]?).bind Sl.val
  | .inr u => some u
def tO (F : Fr) (W : Wx) : Opn → TE
  | .rd i => tVar i
  | .ev f => tE F W f
def tAs (F : Fr) (W : Wx) : List Opn → TA
  | [] => tNil
  | o :: os => tCons (tO F W o) (tAs F W os)
abbrev JO (X : Cx) (F : Fr) (W : Wx) (e : Expr) (o : Opn) : Prop := PE X e (tO F W o)
abbrev JA (X : Cx) (F : Fr) (W : Wx) (es : List Expr) (os : List Opn) : Prop := PA X es (tAs F W os)
theorem jo_rd {e : Expr} {i : Nat} (h : PE X e (tVar i)) : JO X F W e (.rd i) := h
theorem jo_ev {e : Expr} {f : SE} (h : JE X F W e f) : JO X F W e (.ev f) := h
theorem ja_nil : JA X F W [] [] := pa_nil
theorem ja_cons {e : Expr} {es : List Expr} {o : Opn} {os : List Opn} (h : JO X F W e o) (t : JA X F W es os) (hs : starEach (e :: es) X.env = (false, eval e X.env) :: starEach es X.env := by rfl) : JA X F W (e :: es) (o :: os) := pa_cons h t hs

/-- what an operand's value is -/
def AccOk (F : Fr) (G : Hp) (σ : St) (v : V) : Acc → Prop
  | .inl i => slv σ i = some v
  | .inr u => PsU F.K G v u
theorem AccOk.mono {a : Acc} (e : Ex G G') (h : AccOk F G σ v a) : AccOk F G' σ v a := by
  cases a with
  | inl i => exact h
  | inr u => exact PsU.mono e h
theorem AccOk.rd {a : Acc} (h : AccOk F G σ v a) (r : SR F G H σ st) (f : fetch st a = some u) : RdU F.K G H v u := by
  cases a with
  | inl i =>
    have f' : (st[i]?).bind Sl.val = some u := f
    obtain ⟨s, e1, e2⟩ := Option.bind_eq_some_iff.mp f'
    obtain ⟨w, e3, q⟩ := r.rd e1 e2
    have h' : slv σ i = some v := h
    rw [h'] at e3; cases e3
    exact q
  | inr w =>
    cases f
    exact PsU.rd r.ex h
abbrev AccAll (F : Fr) (G : Hp) (σ : St) : List V → List Acc → Prop := Paired (AccOk F G σ)
theorem AccAll.mono {vs : List V} {as : List Acc} (e : Ex G G') (h : AccAll F G σ vs as) : AccAll F G' σ vs as := Paired.mapP h fun _ _ z => z.mono e
theorem paired_app {α β : Type} {R : α → β → Prop} : ∀ {l1 l2 : List α} {m1 m2 : List β}, Paired R l1 m1 → Paired R l2 m2 → Paired R (l1 ++ l2) (m1 ++ m2)
  | _, _, _, _, .nil, h => h
  | _, _, _, _, .cons r t, h => .cons r (paired_app t h)

theorem evO_ok {o : Opn} {k : Acc → Sg → RE} {R : V → Hp → Prop} (r : SR F G H σ st) (h : PostE F W G σ Q (evO o st k))
    (hk : ∀ v a G' H' st', Ex G G' → SR F G' H' σ st' → AccOk F G' σ v a → PostE F W G' σ Q (k a st') → R v H') : tO F W o σ H R := by
  cases o with
  | rd i =>
    unfold evO at h
    dsimp only at h
    split at h
    · rename_i u e
      obtain ⟨s, e1, e2⟩ := Option.bind_eq_some_iff.mp e
      obtain ⟨v, e3, q⟩ := r.rd e1 e2
      exact ⟨v, slv_some e3, hk v (.inl i) G H st (Ex.refl G) r e3 h⟩
    · exact h.elim
  | ev f =>
    refine ⟨G, st, r, ?_⟩
    unfold evO at h
    dsimp only at h
    generalize f st = z at h ⊢
    cases z with
    | ok o u st' =>
      cases o with
      | false =>
        intro v G' H' e r'
        exact hk v (.inr u) G' H' st' e (r'.pop rfl) r'.last_ps (h.mono e)
      | true =>
        dsimp only at h
        split at h
        · rename_i f
          intro v G' H' e r'
          obtain ⟨G2, x, r2, p⟩ := r'.frz_last f
          exact hk v (.inr u) G2 H' st' (e.trans x) r2 p (h.mono (e.trans x))
        · exact h.elim
    | exc c d st' => exact h
    | bad => exact h
theorem evN_okL : ∀ {os : List Opn} {acc : List Acc} {k : List Acc → Sg → RE} {R : List V → Hp → Prop} {vs : List V} {G H : Hp} {st : Sg}, SR F G H σ st → AccAll F G σ vs acc → PostE F W G σ Q (evN os acc k st) →
    (∀ ws as G' H' st', ws.length = os.length → Ex G G' → SR F G' H' σ st' → AccAll F G' σ (vs ++ ws) as → PostE F W G' σ Q (k as st') → R ws H') → tAs F W os σ H R
  | [], acc, k, R, vs, G, H, st, r, ha, h, hk => hk [] acc G H st rfl (Ex.refl G) r (by rw [List.append_nil]; exact ha) h
  | o :: os, acc, k, R, vs, G, H, st, r, ha, h, hk => by
    show tO F W o σ H fun v H1 => tAs F W os σ H1 fun ws H2 => R (v :: ws) H2
    have h' : PostE F W G σ Q (evO o st fun r st' => evN os (acc ++ [r]) k st') := h
    refine evO_ok r h' fun v a G' H' st' e r' p q => ?_
    refine evN_okL r' (paired_app (ha.mono e) (.cons p .nil)) q fun ws as G2 H2 st2 l e2 r2 p2 q2 => ?_
    refine hk (v :: ws) as G2 H2 st2 (by simp [l]) (e.trans e2) r2 ?_ q2
    rw [List.append_assoc] at p2
    exact p2
theorem evN_ok {os : List Opn} {acc : List Acc} {k : List Acc → Sg → RE} {R : List V → Hp → Prop} {vs : List V} {G H : Hp} {st : Sg} (r : SR F G H σ st) (ha : AccAll F G σ vs acc) (h : PostE F W G σ Q (evN os acc k st))
    (hk : ∀ ws as G' H' st', Ex G G' → SR F G' H' σ st' → AccAll F G' σ (vs ++ ws) as → PostE F W G' σ Q (k as st') → R ws H') : tAs F W os σ H R :=
  evN_okL r ha h fun ws as G' H' st' _ e r' p q => hk ws as G' H' st' e r' p q
theorem evN_app : ∀ {os oz : List Opn} {acc : List Acc} {k : List Acc → Sg → RE}, evN (os ++ oz) acc k = evN os acc (fun as st => evN oz as k st)
  | [], oz, acc, k => rfl
  | o :: os, oz, acc, k => by
    show (fun st => evO o st fun r st' => evN (os ++ oz) (acc ++ [r]) k st') = fun st => evO o st fun r st' => evN os (acc ++ [r]) (fun as st => evN oz as k st) st'
    funext st
    congr 1
    funext r st'
    rw [evN_app]
/-- two operands -/
def ev2 (a b : Opn) (k : U → U → Sg → RE) : SE := evN [a, b] [] fun as st => match as with
  | [x, y] => match fetch st x, fetch st y with
    | some u, some w => k u w st
    | _, _ => .bad
  | _ => .bad
def ev1 (a : Opn) (k : U → Sg → RE) : SE := evN [a] [] fun as st => match as with
  | [x] => match fetch st x with
    | some u => k u st
    | _ => .bad
  | _ => .bad
theorem ev2_ok {a b : Opn} {k : U → U → Sg → RE} {R : V → V → Hp → Prop} (r : SR F G H σ st) (h : PostE F W G σ Q (ev2 a b k st))
    (hk : ∀ x y u w G' H' st', Ex G G' → SR F G' H' σ st' → RdU F.K G' H' x u → RdU F.K G' H' y w → PostE F W G' σ Q (k u w st') → R x y H') :
    tO F W a σ H fun x H1 => tO F W b σ H1 fun y H2 => R x y H2 := by
  have z : tAs F W [a, b] σ H fun vs H' => match vs with | [x, y] => R x y H' | _ => True := by
    refine evN_ok r .nil h fun ws as G' H' st' e r' p q => ?_
    cases p with
    | nil => trivial
    | cons p1 p2 =>
      cases p2 with
      | nil => trivial
      | cons p2 p3 =>
        cases p3 with
        | cons _ _ => trivial
        | nil =>
          dsimp only at q
          split at q
          · rename_i x y u w e1 e2
            exact hk _ _ u w G' H' st' e r' (p1.rd r' e1) (p2.rd r' e2) q
          · exact q.elim
  exact z
theorem ev1_ok {a : Opn} {k : U → Sg → RE} {R : V → Hp → Prop} (r : SR F G H σ st) (h : PostE F W G σ Q (ev1 a k st))
    (hk : ∀ x u G' H' st', Ex G G' → SR F G' H' σ st' → RdU F.K G' H' x u → PostE F W G' σ Q (k u st') → R x H') : tO F W a σ H R := by
  have z : tAs F W [a] σ H fun vs H' => match vs with | [x] => R x H' | _ => True := by
    refine evN_ok r .nil h fun ws as G' H' st' e r' p q => ?_
    cases p with
    | nil => trivial
    | cons p1 p2 =>
      cases p2 with
      | cons _ _ => trivial
      | nil =>
        dsimp only at q
        split at q
        · rename_i x u e1
          exact hk _ u G' H' st' e r' (p1.rd r' e1) q
        · exact q.elim
  exact z
end
end Pl

namespace Pl
open PySem L2 PySem.Spec PyProof.Rows
/-- a new tuple -/
def NewT (xs : List V) (H : Hp) (Q : VK) : Prop := ∀ (p : Addr) (o : Obj), H p = none → o.dict = none → Q (.ref p) (upd H p (.frz o (.tup xs)))
section
variable {X : Cx} {pins : List (Addr × Obj)} {σ : St} {H : Hp} {s : Shared} {Q : VK} {xs : List V} {us : List Value}
/-- one laid at the heap's end -/
theorem new_tup {k : Nat} (I : Inv X pins σ H s) (r : Vals xs us) (hz : xs.length ≤ sizeLine) (q : NewT xs H Q) :
    EP X pins σ Q (.ref s.heap.objs.size) { s with heap := s.heap.push { cls := .type "tuple", data := .seq us.toArray }, toks := k } := by
  have fr := I.hok.fresh (Nat.le_refl s.heap.objs.size)
  have ok : ObjOk X.prog X.w (upd H s.heap.objs.size (.frz { cls := .type "tuple", data := .seq us.toArray } (.tup xs))) (s.heap.push { cls := .type "tuple", data := .seq us.toArray }) s.heap.objs.size (.frz { cls := .type "tuple", data := .seq us.toArray } (.tup xs)) :=
    ⟨Heap.get?_push_size _ rfl, hz, us, r, IsTup.new _ _⟩
  exact ⟨.ref s.heap.objs.size, _, I.laid (t' := k) (fun c u g => Heap.get?_push_of_some _ g) (Nat.le_refl _) ok, rfl, q _ _ fr rfl⟩
/-- (a, b, ..) -/
def tTupN (t : TA) : TE := fun σ H Q => t σ H fun ys H1 => ys.length ≤ sizeLine ∧ NewT ys H1 Q
theorem pe_tupN {es : List Expr} {t : TA} {x1} {pos : Pos} (h : PA X es t) : PE X (.Tuple es x1 pos) (tTupN t) :=
  ⟨fun pins s σ H Q I q0 => wpAny_Tuple_spliced (thn (h.run pos pins s σ H _ I q0) fun vs s1 ⟨ys, H1, I1, r, z, q⟩ => ⟨(by rw [← r.length]; exact z), new_tup I1 r z q⟩)⟩
/-- t + u -/
def rCatN (K : PySem.W.Frag) : R2 := fun x y H Q => ∃ a b xs ys, x = .ref a ∧ y = .ref b ∧ SqT K H a xs ∧ SqT K H b ys ∧ xs.length + ys.length ≤ sizeLine ∧
  (xs = [] → Q (.ref b) H) ∧ (xs ≠ [] → ys = [] → Q (.ref a) H) ∧ (xs ≠ [] → ys ≠ [] → NewT (xs ++ ys) H Q)
theorem op_catN : OpR X (binaryOp .Add) (rCatN X.K) := by
  intro pins s σ H x y v u Q I rx ry ⟨a, b, xs, ys, ex, ey, ha, hb, hz, q0, q1, q2⟩
  subst ex ey
  cases rx; cases ry
  obtain ⟨us, r1, p1, _⟩ := I.tuple ha
  obtain ⟨ws, r2, p2, _⟩ := I.tuple hb
  rcases Classical.em (xs = []) with c | c
  · subst c
    cases r1
    exact cat_tup0 p1 p2 ⟨.ref _, H, I, rfl, q0 rfl⟩
  · exact HT.cat_tup p1 p2 (fun z => c (r1.nil_iff.mp z)) (fun z => ⟨.ref _, H, I, rfl, q1 c (r2.nil_iff.mp z)⟩)
      (fun z => new_tup (k := s.toks) I (r1.append r2) (by rw [List.length_append]; exact hz) (q2 c fun w => z (r2.nil_iff.mpr w))) (by rw [← r1.length, ← r2.length]; exact hz)
/-- t[lo:hi] -/
def rSlN (K : PySem.W.Frag) : V → Option Int → Option Int → Hp → VK → Prop := fun x lo hi H Q => ∃ a xs, x = .ref a ∧ SqT K H a xs ∧
  (HT.sIx xs.length 0 lo = 0 ∧ HT.sIx xs.length xs.length hi = xs.length → Q (.ref a) H) ∧ (¬ (HT.sIx xs.length 0 lo = 0 ∧ HT.sIx xs.length xs.length hi = xs.length) → NewT (cutV xs lo hi) H Q)
theorem sl_tupN : SlR X (rSlN X.K) := by
  intro pins s σ H x v vl vu lo hi sl Q I rx hs pl pu ⟨a, xs, ex, hx, q1, q2⟩
  subst ex
  cases rx
  obtain ⟨us, r, ht, hz⟩ := I.tuple hx
  have hn : us.toArray.size = xs.length := (List.size_toArray ..).trans r.length.symm
  refine ⟨"tuple", _, PyProof.Rows.slot_tuple_getitem.lookup, ht.typeIs, ?_⟩
  rcases Classical.em (HT.sIx xs.length 0 lo = 0 ∧ HT.sIx xs.length xs.length hi = xs.length) with c | c
  · exact getItem_tuple_whole ht hs pl pu (by rw [hn]; exact c) ⟨.ref _, H, I, rfl, q1 c⟩
  · refine HT.getItem_tuple_cut ht hs pl pu (by rw [hn]; exact c) ?_ (by rw [hn]; exact hz)
    rw [hn]
    exact new_tup (k := s.toks) I ((r.drop (HT.sIx xs.length 0 lo)).take (HT.sIx xs.length xs.length hi - HT.sIx xs.length 0 lo)) (Nat.le_trans (cutV_length xs lo hi) hz) (q2 c)
/-- tuple(x) -/
theorem call_tupleN : CallR X (.type "tuple") (fun xs H Q => ∃ p ys, xs = [.ref p] ∧ ((SqL X.K H p ys ∧ NewT ys H Q) ∨ (SqT X.K H p ys ∧ Q (.ref p) H))) := by
  intro pins s σ H xs us Q I r ⟨p, ys, ex, h⟩
  subst ex
  obtain ⟨u, eu, rx⟩ := vals1 r
  subst eu
  cases rx
  rcases h with ⟨hq, q⟩ | ⟨hq, q⟩
  · obtain ⟨ws, rv, pl, hz⟩ := I.list hq
    have hl := rv.length
    exact call_tuple_list pl.isList (fun h' kp => new_tup (k := s.toks) (I.kept (t' := s.toks) kp) rv hz q) (by simp only [List.size_toArray] <;> omega)
  · obtain ⟨ws, rv, pl, _⟩ := I.tuple hq
    exact call_tuple_same pl ⟨.ref _, H, I, rfl, q⟩
/-- tuple(range(..)) -/
def tTupRgN (te : St → Hp → (Int → Int → Hp → Prop) → Prop) : TE := fun σ H Q => te σ H fun a b H1 => RgOk a b ∧ NewT (rgV a b) H1 Q
theorem pe_tupRgN {e : Expr} {te : St → Hp → (Int → Int → Hp → Prop) → Prop} {p pos : Pos} (hc : X.calm = true) (hg : Gl X "tuple") (hm : X.mg "tuple" = none) (he : PRg X e te) (na : starEach [e] X.env = (false, eval e X.env) :: starEach [] X.env := by rfl) :
    PE X (.Call (.Name "tuple" p) [e] [] pos) (tTupRgN te) := ⟨fun pins s σ H Q I h => by
  refine Call_ (ld_blt I hg hm boot_tuple (PyProof.Rows.callWith_type1 (args_cons (thn (he pins s σ H _ I h) fun x s1 ⟨r, a, b, t, u, v, H1, ex, hr, I1, ok, q⟩ => args_nil ?_) na) na))
  subst ex
  obtain ⟨c1, c2, c3, c4, c5⟩ := ok
  refine call_tuple_range (n := (b - a).toNat) (I1.ok.hd hc) hr (small_one c1 c2 c3 c4) (rangeSize_nat a b) c5 fun h' tk acc hk hi => ?_
  have z := new_tup (k := tk) (s := { s1 with heap := h', toks := tk }) (us := acc.toList) (I1.kept (t' := tk) hk) (vals_rg hi) (by rw [rgV_length, sizeLine_eq]; omega) q
  rw [Array.toArray_toList] at z
  exact z⟩
end
end Pl

namespace Pl
open PySem L2 PySem.Spec PyProof.Rows

abbrev LINE : Nat := 16777216
theorem le_line {n : Nat} (h : n ≤ LINE) : n ≤ sizeLine := by rw [sizeLine_eq]; exact h
theorem lt_line {n : Nat} (h : n < LINE) : n < sizeLine := by rw [sizeLine_eq]; exact h
/-- a list + a list, wherever they stand -/
def rCatL (K : PySem.W.Frag) : R2 := fun x y H Q => ∃ l b xs zs, x = .ref l ∧ y = .ref b ∧ SqL K H l xs ∧ SqL K H b zs ∧ xs.length + zs.length ≤ sizeLine ∧ ∀ p, H p = none → Q (.ref p) (upd H p (.lst (xs ++ zs)))
theorem op_catL {X : Cx} : OpR X (binaryOp .Add) (rCatL X.K) := by
  intro pins s σ H x y v u Q I rx ry h
  obtain ⟨l, b, xs, zs, rfl, rfl, hH, hB, hz, q⟩ := h
  cases rx
  cases ry
  obtain ⟨its, r, ⟨⟨cls, dd, data, sl⟩, n, ho, hc, hdn, hd⟩, hl⟩ := I.list hH
  obtain ⟨its2, r2, ⟨⟨cls2, dd2, data2, sl2⟩, n2, ho2, hc2, hdn2, hd2⟩, hl2⟩ := I.list hB
  simp only at hc hd hc2 hd2
  subst hc hd hc2 hd2
  have e1 := r.length
  have e2 := r2.length
  refine concat_meets ⟨_, ho, rfl⟩ ⟨_, ho2, rfl⟩ noFill_list_add seq_list_add PySem.F.slot_list_add PySem.F.entry_list_add (PySem.F.args_list_add_2 _ _) (list_addW l b its.toArray its2.toArray n n2 dd dd2 sl sl2 (by simp only [List.size_toArray]; omega)) ⟨ho, ho2, ?_⟩
  have ea : its.toArray ++ its2.toArray = (its ++ its2).toArray := by simp
  rw [ea]
  exact ⟨.ref _, _, I.lnew (t' := s.toks) (r.append r2) (by rw [List.length_append]; omega), rfl, q _ I.fresh⟩
/-- x is True, x is False, x is None: whatever x is -/
def rIsC (neg : Bool) : R2 := fun x y H Q => (y = .non ∨ ∃ b, y = .bl b) ∧ Q (.bl (if neg then !decide (x = y) else decide (x = y))) H
theorem is_bool_of {x : V} {v : Value} {b : Bool} (r : RelV x v) : plainIs v (.bool b) = true ∧ (v == Value.bool b) = decide (x = .bl b) ∨ True := .inr trivial
theorem rel_bool {x : V} {v : Value} {b : Bool} (r : RelV x v) : (v == Value.bool b) = decide (x = .bl b) := by
  cases x with
  | non => cases r; rfl
  | bl c => cases r; cases b <;> cases c <;> rfl
  | int _ => obtain ⟨t, rfl⟩ := r; rfl
  | str _ => obtain ⟨t, rfl⟩ := r; rfl
  | byt _ => obtain ⟨t, rfl⟩ := r; rfl
  | flt _ => obtain ⟨t, rfl⟩ := r; rfl
  | ref _ => cases r; rfl
  | ty _ => cases r; rfl
theorem rel_plain {x : V} {v : Value} {b : Bool} (r : RelV x v) : plainIs v (.bool b) = true := by
  cases x with
  | non => cases r; rfl
  | bl c => cases r; rfl
  | int _ => obtain ⟨t, rfl⟩ := r; rfl
  | str _ => obtain ⟨t, rfl⟩ := r; rfl
  | byt _ => obtain ⟨t, rfl⟩ := r; rfl
  | flt _ => obtain ⟨t, rfl⟩ := r; rfl
  | ref _ => cases r; rfl
  | ty _ => cases r; rfl
theorem op_isC {X : Cx} : OpR X (compareOp .Is) (rIsC false) := by
  intro pins s σ H x y v u Q I rx ry h
  obtain ⟨hy, q⟩ := h
  rcases hy with rfl | ⟨b, rfl⟩
  · cases ry
    refine is_none_gen (fin_bl I q ?_)
    exact (rx.none_iff).symm
  · cases ry
    exact wpAny_is_plain (rel_plain rx) (fin_bl I q (rel_bool rx).symm)
theorem op_isNotC {X : Cx} : OpR X (compareOp .IsNot) (rIsC true) := by
  intro pins s σ H x y v u Q I rx ry h
  obtain ⟨hy, q⟩ := h
  rcases hy with rfl | ⟨b, rfl⟩
  · cases ry
    refine isnot_none_gen (fin_bl I q ?_)
    rw [rx.none_iff] <;> rfl
  · cases ry
    refine wpAny_isNot_plain (rel_plain rx) (fin_bl I q ?_)
    rw [rel_bool rx] <;> rfl

section
variable {X : Cx} {F : Fr} {W : Wx} {G G' H H' : Hp} {σ : St} {st st' : Sg} {Q : VK} {v : V} {u : U} {ds : List D} {vs : List V}
theorem PostE.newT (h : PostE F W G σ Q (.ok false (.dat (.tuple ds)) st)) (r : SR F G H σ st) (d : DpAll F.K G vs ds) : NewT vs H Q := fun p o hp ho =>
  h _ _ _ (Ex.new (r.ex.back hp)) ((r.new_ps hp).push_ps (.tup (.inl ⟨o, upd_same, ho⟩) (dps_mono (Ex.new (r.ex.back hp)) _ d)))
theorem PostE.newL (h : PostE F W G σ Q (.ok true (.dat (.list ds)) st)) (r : SR F G H σ st) (d : DpAll F.K G vs ds) : ∀ p, H p = none → Q (.ref p) (upd H p (.lst vs)) := fun p hp =>
  h _ _ _ (Ex.refl G) (r.push_ow (fp := [p]) ⟨p, vs, rfl, upd_same, r.ex.back hp, d, rfl⟩ (r.rel.new hp) (Ex.new hp) (fun a ha => by
    have e : a = p := by simpa using ha
    rw [e]; exact hp))
theorem RdU.int {K : PySem.W.Frag} {x : V} {i : Int} (h : RdU K G H x (.dat (.int i))) : x = .int i := by cases h; rfl
theorem RdU.bl {K : PySem.W.Frag} {x : V} {i : Bool} (h : RdU K G H x (.dat (.bool i))) : x = .bl i := by cases h; rfl
theorem RdU.str {K : PySem.W.Frag} {x : V} {i : Str} (h : RdU K G H x (.dat (.str i))) : x = .str i := by cases h; rfl
theorem RdU.non {K : PySem.W.Frag} {x : V} (h : RdU K G H x (.dat .none)) : x = .non := by cases h; rfl
theorem RdU.tup {K : PySem.W.Frag} {x : V} (h : RdU K G H x (.dat (.tuple ds))) (e : Ex G H) : ∃ a vs, x = .ref a ∧ SqT K H a vs ∧ DpAll K G vs ds := by
  cases h with
  | tup hs ha => exact ⟨_, _, rfl, (ex_n e hs).t, ha⟩
theorem RdU.lst {K : PySem.W.Frag} {x : V} (h : RdU K G H x (.dat (.list ds))) : ∃ a vs, x = .ref a ∧ SqL K H a vs ∧ DpAll K G vs ds := h
/-- data as such, in the heap as it stands -/
theorem RdU.dp {K : PySem.W.Frag} {x : V} {d : D} (h : RdU K G H x (.dat d)) (e : Ex G H) : Dp K H x d := by
  cases d with
  | list ds =>
    obtain ⟨a, vs, rfl, hs, ha⟩ := h
    exact .lst hs (dps_mono e _ ha)
  | _ => exact dp_mono e _ h

/-- as the library tells data -/
theorem Dp.l2 {K : PySem.W.Frag} : ∀ {d : D} {v : V}, Dp K H v d → d.canLay0 = true → L2.Dp K H v d := by
  have key : ∀ (n : Nat) (d : D) (v : V), sizeOf d ≤ n → Dp K H v d → d.canLay0 = true → L2.Dp K H v d := by
    intro n
    induction n with
    | zero => intro d v h; cases d <;> simp at h
    | succ n ih =>
      intro d v hn h c
      have all : ∀ {ds : List D} {vs : List V}, sizeOf ds ≤ n → DpAll K H vs ds → PyData.canLayAll0 ds = true → L2.DpAll K H vs ds := by
        intro ds
        induction ds with
        | nil => intro vs _ h _; cases h; exact .nil
        | cons d ds ih2 =>
          intro vs hn h c
          cases h with
          | cons h1 h2 =>
            unfold PyData.canLayAll0 at c
            rw [Bool.and_eq_true] at c
            simp at hn
            exact .cons (ih d _ (by omega) h1 c.1) (ih2 (by omega) h2 c.2)
      cases h with
      | non => exact .non
      | bl b => exact .bl b
      | int i => exact .int i
      | str x => exact .str x
      | lst hs ha => exact .lst hs (all (by simp at hn; omega) ha (by simpa only [PyData.canLay0] using c))
      | tup hs ha => exact .tup hs.t (all (by simp at hn; omega) ha (by simpa only [PyData.canLay0] using c))
      | pair _ _ _ => simp only [PyData.canLay0] at c; cases c
  exact fun {d v} h c => key _ d v (Nat.le_refl _) h c
/-! a + b -/
def addU (x y : U) (st : Sg) : RE := match x, y with
  | .dat (.int i), .dat (.int j) => .ok false (.dat (.int (i + j))) st
  | .dat (.tuple a), .dat (.tuple b) => if a.length + b.length ≤ LINE then .ok false (.dat (.tuple (a ++ b))) st else .bad
  | .dat (.list a), .dat (.list b) => if a.length + b.length ≤ LINE then .ok true (.dat (.list (a ++ b))) st else .bad
  | .dat (.str a), .dat (.str b) => if a.length + b.length ≤ LINE then .ok false (.dat (.str (a ++ b))) st else .bad
  | _, _ => .bad
def rAdd (K : PySem.W.Frag) : R2 := fun x y H Q => (rI0 fun i j => .int (i + j)) x y H Q ∨ rCatN K x y H Q ∨ rCatL K x y H Q ∨ ∃ i j, x = .str i ∧ y = .str j ∧ i.length + j.length ≤ sizeLine ∧ Q (.str (i ++ j)) H
theorem op_addAll : OpR X (binaryOp .Add) (rAdd X.K) := op_add.or (op_catN.or (op_catL.or op_add_str))
theorem add_ok {x y : V} {w : U} (r : SR F G H σ st) (hx : RdU F.K G H x u) (hy : RdU F.K G H y w) (h : PostE F W G σ Q (addU u w st)) : rAdd F.K x y H Q := by
  unfold addU at h
  split at h
  · rw [hx.int, hy.int]; exact .inl ⟨_, _, rfl, rfl, PostE.ps h r (.int _)⟩
  · rename_i a b
    split at h
    · rename_i hl
      obtain ⟨p, vs, rfl, h1, h2⟩ := hx.tup r.ex
      obtain ⟨q, ws, rfl, h3, h4⟩ := hy.tup r.ex
      have l1 := Dps.length h2
      have l2 := Dps.length h4
      refine .inr (.inl ⟨p, q, vs, ws, rfl, rfl, h1, h3, le_line (by omega), fun e => ?_, fun e1 e2 => ?_, fun _ _ => PostE.newT h r (Dps.append h2 h4)⟩)
      · subst e; cases h2; exact PostE.ps h r hy
      · subst e2; cases h4; rw [List.append_nil] at h; exact PostE.ps h r hx
    · exact h.elim
  · rename_i a b
    split at h
    · obtain ⟨p, vs, rfl, h1, h2⟩ := hx.lst
      obtain ⟨q, ws, rfl, h3, h4⟩ := hy.lst
      have l1 := Dps.length h2
      have l2 := Dps.length h4
      exact .inr (.inr (.inl ⟨p, q, vs, ws, rfl, rfl, h1, h3, le_line (by omega), PostE.newL h r (Dps.append h2 h4)⟩))
    · exact h.elim
  · split at h
    · rename_i hl
      rw [hx.str, hy.str]; exact .inr (.inr (.inr ⟨_, _, rfl, rfl, le_line hl, PostE.ps h r (.str _)⟩))
    · exact h.elim
  · exact h.elim
/-- a two-place operation, by its rule -/
theorem je_op {a b : Expr} {oa ob : Opn} {op : Operator} {k : U → U → Sg → RE} {rr : R2} {pos : Pos} (hr : OpR X (binaryOp op) rr) (ha : JO X F W a oa) (hb : JO X F W b ob)
    (hk : ∀ {x y : V} {u w : U} {G H : Hp} {σ : St} {st : Sg} {Q : VK}, SR F G H σ st → RdU F.K G H x u → RdU F.K G H y w → PostE F W G σ Q (k u w st) → rr x y H Q) : JE X F W (.BinOp a op b pos) (ev2 oa ob k) :=
  PE.imp (pe_op hr ha hb) fun σ H Q ⟨G, st, r, h⟩ => ev2_ok r h fun x y u w G' H' st' e r' h1 h2 q => hk r' h1 h2 q
theorem je_add {a b : Expr} {oa ob : Opn} {pos : Pos} (hF : F.K = X.K) (ha : JO X F W a oa) (hb : JO X F W b ob) : JE X F W (.BinOp a .Add b pos) (ev2 oa ob addU) :=
  je_op (by rw [hF]; exact op_addAll) ha hb (fun r h1 h2 q => add_ok r h1 h2 q)

/-! whole numbers -/
def intU (g : Int → Int → Int) (C : Int → Int → Bool) (x y : U) (st : Sg) : RE := match x, y with
  | .dat (.int i), .dat (.int j) => if C i j then .ok false (.dat (.int (g i j))) st else .bad
  | _, _ => .bad
theorem int_ok {g : Int → Int → Int} {C : Int → Int → Bool} {P : Int → Int → Prop} {x y : V} {w : U} (hP : ∀ i j, C i j = true → P i j) (r : SR F G H σ st) (hx : RdU F.K G H x u) (hy : RdU F.K G H y w) (h : PostE F W G σ Q (intU g C u w st)) :
    rI P (fun i j => .int (g i j)) x y H Q := by
  unfold intU at h
  split at h
  · rename_i i j
    split at h
    · rename_i c
      rw [hx.int, hy.int]; exact ⟨_, _, rfl, rfl, hP i j c, PostE.ps h r (.int _)⟩
    · exact h.elim
  · exact h.elim
def subU := intU (fun i j => i - j) (fun _ _ => true)
def mulU := intU (fun i j => i * j) (fun i j => decide (i.natAbs.log2 + j.natAbs.log2 < 1000000))
def fdivU := intU (fun i j => i / j) (fun _ j => decide (0 < j ∧ j.natAbs.log2 < 9000))
def modU := intU (fun i j => i % j) (fun _ j => decide (0 < j))
def powU := intU (fun i j => i ^ j.toNat) (fun i j => decide (0 ≤ j ∧ j ≤ 1000000 ∧ i.natAbs < 2 ^ 64))
theorem op_subC : OpR X (binaryOp .Sub) (rI (fun _ _ => True) fun i j => .int (i - j)) := fun pins s σ H x y v u Q I rx ry ⟨i, j, e1, e2, _, q⟩ => op_sub pins s σ H x y v u Q I rx ry ⟨i, j, e1, e2, q⟩
theorem je_sub {a b : Expr} {oa ob : Opn} {pos : Pos} (ha : JO X F W a oa) (hb : JO X F W b ob) : JE X F W (.BinOp a .Sub b pos) (ev2 oa ob subU) := je_op op_subC ha hb (fun r h1 h2 q => int_ok (fun _ _ _ => trivial) r h1 h2 q)
theorem je_mul {a b : Expr} {oa ob : Opn} {pos : Pos} (ha : JO X F W a oa) (hb : JO X F W b ob) : JE X F W (.BinOp a .Mult b pos) (ev2 oa ob mulU) := je_op op_mulW ha hb (fun r h1 h2 q => int_ok (fun i j c => of_decide_eq_true (p := i.natAbs.log2 + j.natAbs.log2 < 1000000) c) r h1 h2 q)
theorem je_fdiv {a b : Expr} {oa ob : Opn} {pos : Pos} (ha : JO X F W a oa) (hb : JO X F W b ob) : JE X F W (.BinOp a .FloorDiv b pos) (ev2 oa ob fdivU) := je_op op_fdivW ha hb (fun r h1 h2 q => int_ok (fun i j c => of_decide_eq_true (p := 0 < j ∧ j.natAbs.log2 < 9000) c) r h1 h2 q)
theorem je_mod {a b : Expr} {oa ob : Opn} {pos : Pos} (ha : JO X F W a oa) (hb : JO X F W b ob) : JE X F W (.BinOp a .Mod b pos) (ev2 oa ob modU) := je_op op_mod ha hb (fun r h1 h2 q => int_ok (fun _ _ c => of_decide_eq_true c) r h1 h2 q)
theorem je_pow {a b : Expr} {oa ob : Opn} {pos : Pos} (ha : JO X F W a oa) (hb : JO X F W b ob) : JE X F W (.BinOp a .Pow b pos) (ev2 oa ob powU) := je_op op_pow ha hb (fun r h1 h2 q => int_ok (fun i j c => of_decide_eq_true (p := 0 ≤ j ∧ j ≤ 1000000 ∧ i.natAbs < 2 ^ 64) c) r h1 h2 q)
def negU (x : U) (st : Sg) : RE := match x with
  | .dat (.int i) => .ok false (.dat (.int (-i))) st
  | _ => .bad
theorem je_neg {a : Expr} {oa : Opn} {pos : Pos} (ha : JO X F W a oa) : JE X F W (.UnaryOp .USub a pos) (ev1 oa negU) :=
  PE.imp (pe_un un_neg ha) fun σ H Q ⟨G, st, r, h⟩ => ev1_ok r h fun x u G' H' st' e r' h1 q => by
    unfold negU at q
    split at q
    · rw [h1.int]; exact ⟨_, rfl, PostE.ps q r' (.int _)⟩
    · exact q.elim

/-! comparisons -/
def liftB (k : U → U → Option Bool) (x y : U) (st : Sg) : RE := match k x y with
  | some b => .ok false (.dat (.bool b)) st
  | none => .bad
/-- a comparison's rule by data -/
structure CmpR (X : Cx) (op : CmpOp) (k : U → U → Option Bool) : Prop where
  ok : ∀ (pins : List (Addr × Obj)) (s : Shared) (σ : St) (G H : Hp) (x y : V) (v u : Value) (a b : U) (c : Bool) (Q : VK), Inv X pins σ H s → RelV x v → RelV y u → Ex G H → RdU X.K G H x a → RdU X.K G H y b → k a b = some c → Q (.bl c) H →
    wpAny (model X.prog X.w) X.A (compareOp op v u) (EP X pins σ Q) X.xe s
def rCmp (K : PySem.W.Frag) (k : U → U → Option Bool) : R2 := fun x y H Q => ∃ G a b c, Ex G H ∧ RdU K G H x a ∧ RdU K G H y b ∧ k a b = some c ∧ Q (.bl c) H
theorem CmpR.op {op : CmpOp} {k : U → U → Option Bool} (h : CmpR X op k) : OpR X (compareOp op) (rCmp X.K k) := fun pins s σ H x y v u Q I rx ry ⟨G, a, b, c, e, h1, h2, h3, q⟩ =>
  h.ok pins s σ G H x y v u a b c Q I rx ry e h1 h2 h3 q
def cmpI (p : Int → Int → Bool) (x y : U) : Option Bool := match x, y with
  | .dat (.int i), .dat (.int j) => some (p i j)
  | _, _ => none
theorem cmp_int {op : CmpOp} {p : Int → Int → Bool} (h : OpR X (compareOp op) (rI0 fun i j => .bl (p i j))) : CmpR X op (cmpI p) := ⟨fun pins s σ G H x y v u a b c Q I rx ry e ha hb hk q => by
  unfold cmpI at hk
  split at hk
  · cases hk
    exact h pins s σ H x y v u Q I rx ry ⟨_, _, ha.int, hb.int, q⟩
  · cases hk⟩
def ltB := cmpI fun i j => decide (i < j)
def leB := cmpI fun i j => decide (i ≤ j)
def gtB := cmpI fun i j => decide (j < i)
def geB := cmpI fun i j => decide (j ≤ i)
theorem cmp_lt : CmpR X .Lt ltB := cmp_int op_lt
theorem cmp_le : CmpR X .LtE leB := cmp_int op_le
theorem cmp_gt : CmpR X .Gt gtB := cmp_int op_gt
theorem cmp_ge : CmpR X .GtE geB := cmp_int op_ge
/-- == of data -/
def eqB (x y : U) : Option Bool := match x, y with
  | .dat d, .dat e => if SeqAt.shaped d && SeqAt.shaped e then some (PyData.eqv d e) else none
  | _, _ => none
def neB (x y : U) : Option Bool := (eqB x y).map not
theorem cmp_eq (hu : X.A.units + 64 < cLine) : CmpR X .Eq eqB := ⟨fun pins s σ G H x y v u a b c Q I rx ry e ha hb hk q => by
  unfold eqB at hk
  split at hk
  · split at hk
    · rename_i z
      cases hk
      have z' := Bool.and_eq_true_iff.mp z
      exact op_eqD hu pins s σ H x y v u Q I rx ry ⟨_, _, (ha.dp e).l2 (SeqAt.canLay_of_shaped z'.1), (hb.dp e).l2 (SeqAt.canLay_of_shaped z'.2), z'.1, z'.2, q⟩
    · cases hk
  · cases hk⟩
theorem cmp_ne (hu : X.A.units + 64 < cLine) : CmpR X .NotEq neB := ⟨fun pins s σ G H x y v u a b c Q I rx ry e ha hb hk q => by
  unfold neB eqB at hk
  split at hk
  · split at hk
    · rename_i z
      cases hk
      have z' := Bool.and_eq_true_iff.mp z
      exact op_neD hu pins s σ H x y v u Q I rx ry ⟨_, _, (ha.dp e).l2 (SeqAt.canLay_of_shaped z'.1), (hb.dp e).l2 (SeqAt.canLay_of_shaped z'.2), z'.1, z'.2, q⟩
    · cases hk
  · cases hk⟩
def isNonD : D → Bool
  | .none => true
  | _ => false
def isBlD (b : Bool) : D → Bool
  | .bool c => c == b
  | _ => false
/-- is of None, True, False -/
def isB (x y : U) : Option Bool := match x, y with
  | .dat d, .dat .none => some (isNonD d)
  | .dat d, .dat (.bool b) => some (isBlD b d)
  | _, _ => none
def isNotB (x y : U) : Option Bool := (isB x y).map not
theorem is_none_d {x : V} {d : D} {K : PySem.W.Frag} (h : Dp K H x d) : decide (x = .non) = isNonD d := by
  cases h <;> rfl
theorem is_bool_d {x : V} {d : D} {K : PySem.W.Frag} {b : Bool} (h : Dp K H x d) : decide (x = .bl b) = isBlD b d := by
  cases h with
  | bl c => cases c <;> cases b <;> rfl
  | _ => rfl
theorem cmp_is : CmpR X .Is isB := ⟨fun pins s σ G H x y v u a b c Q I rx ry e ha hb hk q => by
  unfold isB at hk
  split at hk
  · cases hk
    have e1 : y = .non := by cases hb; rfl
    refine op_isC pins s σ H x y v u Q I rx ry ⟨.inl e1, ?_⟩
    rw [e1, is_none_d (ha.dp e)]
    exact q
  · rename_i d b
    cases hk
    have e1 : y = .bl b := by cases hb; rfl
    refine op_isC pins s σ H x y v u Q I rx ry ⟨.inr ⟨b, e1⟩, ?_⟩
    rw [e1, is_bool_d (ha.dp e)]
    exact q
  · cases hk⟩
theorem cmp_isnot : CmpR X .IsNot isNotB := ⟨fun pins s σ G H x y v u a b c Q I rx ry e ha hb hk q => by
  unfold isNotB isB at hk
  split at hk
  · cases hk
    have e1 : y = .non := by cases hb; rfl
    refine op_isNotC pins s σ H x y v u Q I rx ry ⟨.inl e1, ?_⟩
    rw [e1, is_none_d (ha.dp e)]
    exact q
  · rename_i d b
    cases hk
    have e1 : y = .bl b := by cases hb; rfl
    refine op_isNotC pins s σ H x y v u Q I rx ry ⟨.inr ⟨b, e1⟩, ?_⟩
    rw [e1, is_bool_d (ha.dp e)]
    exact q
  · cases hk⟩
/-- in: a list of any data; a tuple of flat things -/
def flatD : D → Bool
  | .none => true
  | .bool _ => true
  | .int _ => true
  | .str _ => true
  | _ => false
def inB (x y : U) : Option Bool := match x, y with
  | .dat d, .dat (.list ds) => if SeqAt.shaped d && SeqAt.shaped (.list ds) then some (ds.any fun z => PyData.eqv z d) else none
  | .dat d, .dat (.tuple ds) => if flatD d && ds.all flatD then some (ds.any fun z => PyData.eqv z d) else none
  | _, _ => none
def notInB (x y : U) : Option Bool := (inB x y).map not
theorem flat_v {x : V} {d : D} {K : PySem.W.Frag} (h : Dp K H x d) (f : flatD d = true) : flatV x = true := by
  cases h <;> first | rfl | cases f
theorem eqV_d {x y : V} {d e : D} {K : PySem.W.Frag} (h : Dp K H x d) (h' : Dp K H y e) (f : flatD d = true) (f' : flatD e = true) : eqV x y = PyData.eqv d e := by
  cases h with
  | lst _ _ => cases f
  | tup _ _ => cases f
  | _ =>
    cases h' with
    | lst _ _ => cases f'
    | tup _ _ => cases f'
    | _ =>
      rw [PyData.eqv]
      first
        | rfl
        | skip
theorem flat_all {K : PySem.W.Frag} : ∀ {vs : List V} {ds : List D}, DpAll K H vs ds → ds.all flatD = true → vs.all flatV = true
  | _, _, .nil, _ => rfl
  | _, _, .cons h t, f => by
    rw [List.all_cons, Bool.and_eq_true] at f ⊢
    exact ⟨flat_v h f.1, flat_all t f.2⟩
theorem inV_d {K : PySem.W.Frag} {x : V} {d : D} (h : Dp K H x d) (f : flatD d = true) : ∀ {vs : List V} {ds : List D}, DpAll K H vs ds → ds.all flatD = true → inV x vs = ds.any fun z => PyData.eqv z d
  | _, _, .nil, _ => rfl
  | _, _, .cons h1 t, g => by
    rw [List.all_cons, Bool.and_eq_true] at g
    have ih := inV_d h f t g.2
    unfold inV at ih ⊢
    rw [List.any_cons, List.any_cons, eqV_d h1 h g.1 f, ih]
theorem cmp_in (hu : X.A.units + 65 < cLine) : CmpR X .In inB := ⟨fun pins s σ G H x y v u a b c Q I rx ry e ha hb hk q => by
  unfold inB at hk
  split at hk
  · split at hk
    · rename_i z
      cases hk
      have z' := Bool.and_eq_true_iff.mp z
      exact op_inD hu pins s σ H x y v u Q I rx ry ⟨_, _, (ha.dp e).l2 (SeqAt.canLay_of_shaped z'.1), (hb.dp e).l2 (SeqAt.canLay_of_shaped z'.2), z'.1, z'.2, q⟩
    · cases hk
  · split at hk
    · rename_i d ds z
      cases hk
      have z' := Bool.and_eq_true_iff.mp z
      obtain ⟨p, vs, e1, h1, h2⟩ := hb.tup e
      have hx := ha.dp e
      have h3 := dps_mono e _ h2
      refine op_in_seq pins s σ H x y v u Q I rx ry ⟨p, vs, e1, .inr h1, flat_v hx z'.1, flat_all h3 z'.2, ?_⟩
      rw [if_neg Bool.false_ne_true, inV_d hx z'.1 h3 z'.2]
      exact q
    · cases hk
  · cases hk⟩
theorem cmp_notin (hu : X.A.units + 65 < cLine) : CmpR X .NotIn notInB := ⟨fun pins s σ G H x y v u a b c Q I rx ry e ha hb hk q => by
  unfold notInB inB at hk
  split at hk
  · split at hk
    · rename_i z
      cases hk
      have z' := Bool.and_eq_true_iff.mp z
      exact op_notInD hu pins s σ H x y v u Q I rx ry ⟨_, _, (ha.dp e).l2 (SeqAt.canLay_of_shaped z'.1), (hb.dp e).l2 (SeqAt.canLay_of_shaped z'.2), z'.1, z'.2, q⟩
    · cases hk
  · split at hk
    · rename_i d ds z
      cases hk
      have z' := Bool.and_eq_true_iff.mp z
      obtain ⟨p, vs, e1, h1, h2⟩ := hb.tup e
      have hx := ha.dp e
      have h3 := dps_mono e _ h2
      refine op_notIn_seq pins s σ H x y v u Q I rx ry ⟨p, vs, e1, .inr h1, flat_v hx z'.1, flat_all h3 z'.2, ?_⟩
      rw [if_pos rfl, inV_d hx z'.1 h3 z'.2]
      exact q
    · cases hk
  · cases hk⟩

/-! as a value, as a test, two in a row -/
def cmpE (a b : Opn) (k : U → U → Option Bool) : SE := ev2 a b (liftB k)
/-- a value that is a bool, as a test -/
def tstR : RE → RT
  | .ok _ (.dat (.bool b)) st => .ok b st
  | .ok _ _ _ => .bad
  | .exc c d st => .exc c d st
  | .bad => .bad
def tst (f : SE) : ST := fun st => tstR (f st)
theorem postT_of {r : RE} {Q : Bool → Hp → Prop} (h : PostT F W G σ Q (tstR r)) : PostE F W G σ (fun x H1 => ∃ c, x = .bl c ∧ Q c H1) r := by
  cases r with
  | ok o u st =>
    cases u with
    | dat d =>
      cases d with
      | bool b =>
        intro v G' H' e r
        cases o with
        | true =>
          obtain ⟨fp, o⟩ := r.last_ow
          exact o.elim
        | false =>
          have p := r.last_ps
          exact ⟨b, by cases p; rfl, h G' H' e (r.pop rfl)⟩
      | _ => exact h.elim
    | _ => exact h.elim
  | exc c d st => exact h
  | bad => exact h
theorem je_cmp {a b : Expr} {oa ob : Opn} {op : CmpOp} {k : U → U → Option Bool} {pos : Pos} (hF : F.K = X.K) (hr : CmpR X op k) (ha : JO X F W a oa) (hb : JO X F W b ob) (hm : behindInMarks op b = false) : JE X F W (.Compare a [op] [b] pos) (cmpE oa ob k) :=
  PE.imp (pe_cmpR hr.op ha hb hm) fun σ H Q ⟨G, st, r, h⟩ => ev2_ok r h fun x y u w G' H' st' e r' h1 h2 q => by
    unfold liftB at q
    split at q
    · rename_i c hc
      exact ⟨G', u, w, c, r'.ex, hF ▸ h1, hF ▸ h2, hc, PostE.ps q r' (.bl _)⟩
    · exact q.elim
theorem jt_cmp {a b : Expr} {oa ob : Opn} {op : CmpOp} {k : U → U → Option Bool} {pos : Pos} (hF : F.K = X.K) (hr : CmpR X op k) (ha : JO X F W a oa) (hb : JO X F W b ob) (hm : behindInMarks op b = false) : JT X F W (.Compare a [op] [b] pos) (tst (cmpE oa ob k)) :=
  PT.imp (pt_cmpR hr.op ha hb hm) fun σ H Q ⟨G, st, r, h⟩ => ev2_ok r (postT_of h) fun x y u w G' H' st' e r' h1 h2 q => by
    unfold liftB at q
    split at q
    · rename_i c hc
      exact ⟨G', u, w, c, r'.ex, hF ▸ h1, hF ▸ h2, hc, PostE.ps q r' (.bl _)⟩
    · exact q.elim
/-- any expression that gives a bool, as a test -/
theorem jt_val {e : Expr} {f : SE} (h : JE X F W e f) (he : ∀ whole, isTrue e X.env whole = (do let v ← whole; standAt e.pos; holding [v] (truthy v)) := by intro _; rfl) : JT X F W e (tst f) :=
  PT.imp (pt_val h he) fun σ H Q ⟨G, st, r, h⟩ => ⟨G, st, r, postT_of h⟩
/-- a op b op' c -/
def chE (a b c : Opn) (k k' : U → U → Option Bool) : SE := evN [a, b] [] fun as st => match as with
  | [x, y] => match fetch st x, fetch st y with
    | some u, some w => match k u w with
      | some true => evO c st fun z st' => match fetch st' y, fetch st' z with
        | some w', some t => liftB k' w' t st'
        | _, _ => .bad
      | some false => .ok false (.dat (.bool false)) st
      | none => .bad
    | _, _ => .bad
  | _ => .bad
theorem ch_ok {a b c : Opn} {k k' : U → U → Option Bool} (r : SR F G H σ st) (h : PostE F W G σ Q (chE a b c k k' st)) :
    tChain (rCmp F.K k) (rCmp F.K k') (tO F W a) (tO F W b) (tO F W c) σ H Q := by
  have z : tAs F W [a, b] σ H fun vs H' => match vs with | [x, y] => rCmp F.K k x y H' fun z H3 => ∃ j, z = .bl j ∧ (if j = true then tO F W c σ H3 fun w' H4 => rCmp F.K k' y w' H4 Q else Q (.bl false) H3) | _ => True := by
    refine evN_ok r .nil h fun ws as G' H' st' e r' p q => ?_
    cases p with
    | nil => trivial
    | cons p1 p2 =>
      cases p2 with
      | nil => trivial
      | cons p2 p3 =>
        cases p3 with
        | cons _ _ => trivial
        | nil =>
          dsimp only at q
          split at q
          · rename_i x y u w e1 e2
            split at q
            · rename_i hk
              refine ⟨G', u, w, true, r'.ex, p1.rd r' e1, p2.rd r' e2, hk, true, rfl, ?_⟩
              rw [if_pos rfl]
              refine evO_ok r' q fun v a G2 H2 st2 e3 r2 p4 q2 => ?_
              split at q2
              · rename_i w' t e5 e6
                unfold liftB at q2
                split at q2
                · rename_i c hc
                  exact ⟨G2, w', t, c, r2.ex, (p2.mono e3).rd r2 e5, p4.rd r2 e6, hc, PostE.ps q2 r2 (.bl _)⟩
                · exact q2.elim
              · exact q2.elim
            · rename_i hk
              refine ⟨G', u, w, false, r'.ex, p1.rd r' e1, p2.rd r' e2, hk, false, rfl, ?_⟩
              rw [if_neg Bool.false_ne_true]
              exact PostE.ps q r' (.bl _)
            · exact q.elim
          · exact q.elim
  exact z
theorem je_chain {a b c : Expr} {oa ob oc : Opn} {op op' : CmpOp} {k k' : U → U → Option Bool} {pos : Pos} (hF : F.K = X.K) (hr : CmpR X op k) (hr' : CmpR X op' k') (ha : JO X F W a oa) (hb : JO X F W b ob) (hc : JO X F W c oc)
    (hm : lastMarks [op, op'] [b, c] = false := by with_unfolding_all rfl) : JE X F W (.Compare a [op, op'] [b, c] pos) (chE oa ob oc k k') :=
  PE.imp (pe_chain hr.op hr'.op ha hb hc hm) fun σ H Q ⟨G, st, r, h⟩ => by rw [← hF]; exact ch_ok r h
theorem jt_chain {a b c : Expr} {oa ob oc : Opn} {op op' : CmpOp} {k k' : U → U → Option Bool} {pos : Pos} (hF : F.K = X.K) (hr : CmpR X op k) (hr' : CmpR X op' k') (ha : JO X F W a oa) (hb : JO X F W b ob) (hc : JO X F W c oc)
    (hm : lastMarks [op, op'] [b, c] = false := by with_unfolding_all rfl) : JT X F W (.Compare a [op, op'] [b, c] pos) (tst (chE oa ob oc k k')) :=
  PT.imp (pt_chain hr.op hr'.op ha hb hc hm) fun σ H Q ⟨G, st, r, h⟩ => by rw [← hF]; exact ch_ok r (postT_of h)
end
end Pl

namespace Pl
open PySem L2 PySem.Spec PyProof.Rows
open StX (pa_star tStar)

section
variable {X : Cx} {F : Fr} {W : Wx} {G G' H H' : Hp} {σ : St} {st st' : Sg} {Q : VK} {v : V} {u : U} {ds : List D} {vs : List V}
/-! and, or, not, if: tests -/
def thenT (r : RT) (f g : ST) : RT := match r with
  | .ok true st => f st
  | .ok false st => g st
  | .exc c d st => .exc c d st
  | .bad => .bad
def andT (f g : ST) : ST := fun st => thenT (f st) g fun st => .ok false st
def orT (f g : ST) : ST := fun st => thenT (f st) (fun st => .ok true st) g
def notT (f : ST) : ST := fun st => thenT (f st) (fun st => .ok false st) fun st => .ok true st
theorem thenT_ok {r : RT} {f g : ST} {Q : Bool → Hp → Prop} (h : PostT F W G σ Q (thenT r f g)) : PostT F W G σ (fun b H1 => if b = true then tT F W f σ H1 Q else tT F W g σ H1 Q) r := by
  cases r with
  | ok b st =>
    intro G' H' e r
    cases b with
    | true => rw [if_pos rfl]; exact ⟨G', st, r, PostT.mono e h⟩
    | false => rw [if_neg Bool.false_ne_true]; exact ⟨G', st, r, PostT.mono e h⟩
  | exc c d st => exact h
  | bad => exact h
theorem PostT.imp {r : RT} {Q Q' : Bool → Hp → Prop} (h : PostT F W G σ Q r) (k : ∀ b H, Q b H → Q' b H) : PostT F W G σ Q' r := by
  cases r with
  | ok b st => exact fun G' H' e r => k _ _ (h G' H' e r)
  | exc c d st => exact h
  | bad => exact h
abbrev JW (X : Cx) (F : Fr) (W : Wx) (e : Expr) (f : ST) : Prop := PW X e (tT F W f)
theorem PW.imp {X : Cx} {e : Expr} {t t' : TT} (h : PW X e t) (k : ∀ σ H Q, t' σ H Q → t σ H Q) : PW X e t' := ⟨fun wh pins s σ H Q I q => h.run wh pins s σ H Q I (k σ H Q q)⟩
theorem run_const {Q : Bool → Hp → Prop} {b : Bool} (h : tT F W (fun st => .ok b st) σ H Q) : Q b H := by
  obtain ⟨G, st, r, h⟩ := h
  exact h G H (Ex.refl G) r
theorem ite_or {b : Bool} {A B A' B' : Prop} (h : if b = true then A else B) (h1 : A → A') (h2 : B → B') : if b = true then A' else B' := by
  cases b with
  | true => rw [if_pos rfl] at h ⊢; exact h1 h
  | false => rw [if_neg Bool.false_ne_true] at h ⊢; exact h2 h
theorem jw_and1 {a : Expr} {f : ST} {pos : Pos} (h : JT X F W a f) : JW X F W (.BoolOp .And [a] pos) f := pw_and1 h
theorem jw_or1 {a : Expr} {f : ST} {pos : Pos} (h : JT X F W a f) : JW X F W (.BoolOp .Or [a] pos) f := pw_or1 h
theorem jw_and {a b : Expr} {rest : List Expr} {f g : ST} {pos : Pos} (h : JT X F W a f) (h2 : JW X F W (.BoolOp .And (b :: rest) pos) g) : JW X F W (.BoolOp .And (a :: b :: rest) pos) (andT f g) :=
  PW.imp (pw_and h h2) fun σ H Q ⟨G, st, r, q⟩ => ⟨G, st, r, (thenT_ok q).imp fun b H h => ite_or h id run_const⟩
theorem jw_or {a b : Expr} {rest : List Expr} {f g : ST} {pos : Pos} (h : JT X F W a f) (h2 : JW X F W (.BoolOp .Or (b :: rest) pos) g) : JW X F W (.BoolOp .Or (a :: b :: rest) pos) (orT f g) :=
  PW.imp (pw_or h h2) fun σ H Q ⟨G, st, r, q⟩ => ⟨G, st, r, (thenT_ok q).imp fun b H h => ite_or h run_const id⟩
theorem jt_w {e : Expr} {f : ST} (h : JW X F W e f) : JT X F W e f := h.pt
theorem jt_not {a : Expr} {f : ST} {pos : Pos} (h : JT X F W a f) : JT X F W (.UnaryOp .Not a pos) (notT f) :=
  PT.imp (pt_not h) fun σ H Q ⟨G, st, r, q⟩ => ⟨G, st, r, (thenT_ok q).imp fun b H h => by
    cases b with
    | true => rw [if_pos rfl] at h; exact run_const h
    | false => rw [if_neg Bool.false_ne_true] at h; exact run_const h⟩
/-! .. as values: all but the last a bool -/
def andE (f g : SE) : SE := fun st => match f st with
  | .ok _ (.dat (.bool true)) st' => g st'
  | .ok _ (.dat (.bool false)) st' => .ok false (.dat (.bool false)) st'
  | .exc c d st' => .exc c d st'
  | _ => .bad
def orE (f g : SE) : SE := fun st => match f st with
  | .ok _ (.dat (.bool true)) st' => .ok false (.dat (.bool true)) st'
  | .ok _ (.dat (.bool false)) st' => g st'
  | .exc c d st' => .exc c d st'
  | _ => .bad
def notE (f : SE) : SE := fun st => match f st with
  | .ok _ (.dat (.bool b)) st' => .ok false (.dat (.bool (!b))) st'
  | .exc c d st' => .exc c d st'
  | _ => .bad
/-- a bool's end -/
theorem boolEnd {r : RE} {P : Bool → Sg → RE} {R : Bool → Hp → Prop}
    (h : PostE F W G σ Q (match r with | .ok _ (.dat (.bool b)) st' => P b st' | .exc c d st' => .exc c d st' | _ => .bad))
    (hk : ∀ b st' G' H', Ex G G' → SR F G' H' σ st' → PostE F W G' σ Q (P b st') → R b H') : PostE F W G σ (fun x H1 => ∃ c, x = .bl c ∧ R c H1) r := by
  cases r with
  | ok o u st =>
    cases u with
    | dat d =>
      cases d with
      | bool b =>
        have z : PostT F W G σ (fun b' H1 => R b' H1) (tstR (.ok o (.dat (.bool b)) st)) := fun G' H' e r => hk b st G' H' e r (PostE.mono e h)
        exact postT_of z
      | _ => exact h.elim
    | _ => exact h.elim
  | exc c d st => exact h
  | bad => exact h
theorem je_one {a : Expr} {op} {f : SE} {pos : Pos} (h : JE X F W a f) : JE X F W (.BoolOp op [a] pos) f := pe_one h
theorem andE_eq {f g : SE} {st : Sg} : andE f g st = match f st with | .ok _ (.dat (.bool b)) st' => (if b = true then g st' else .ok false (.dat (.bool false)) st') | .exc c d st' => .exc c d st' | _ => .bad := by
  unfold andE
  cases f st with
  | ok o u st' => cases u with
    | dat d => cases d with
      | bool b => cases b <;> rfl
      | _ => rfl
    | _ => rfl
  | _ => rfl
theorem orE_eq {f g : SE} {st : Sg} : orE f g st = match f st with | .ok _ (.dat (.bool b)) st' => (if b = true then .ok false (.dat (.bool true)) st' else g st') | .exc c d st' => .exc c d st' | _ => .bad := by
  unfold orE
  cases f st with
  | ok o u st' => cases u with
    | dat d => cases d with
      | bool b => cases b <;> rfl
      | _ => rfl
    | _ => rfl
  | _ => rfl
theorem je_and {a b : Expr} {rest : List Expr} {f g : SE} {pos : Pos} (h : JE X F W a f) (h2 : JE X F W (.BoolOp .And (b :: rest) pos) g) : JE X F W (.BoolOp .And (a :: b :: rest) pos) (andE f g) :=
  PE.imp (pe_and h h2) fun σ H Q ⟨G, st, r, q⟩ => by
    rw [andE_eq] at q
    refine ⟨G, st, r, boolEnd (P := fun b st' => if b = true then g st' else .ok false (.dat (.bool false)) st') q fun b st' G' H' e r' q' => ?_⟩
    cases b with
    | true => rw [if_pos rfl] at q' ⊢; exact ⟨G', st', r', q'⟩
    | false => rw [if_neg Bool.false_ne_true] at q' ⊢; exact PostE.ps q' r' (.bl _)
theorem je_or {a b : Expr} {rest : List Expr} {f g : SE} {pos : Pos} (h : JE X F W a f) (h2 : JE X F W (.BoolOp .Or (b :: rest) pos) g) : JE X F W (.BoolOp .Or (a :: b :: rest) pos) (orE f g) :=
  PE.imp (pe_or h h2) fun σ H Q ⟨G, st, r, q⟩ => by
    rw [orE_eq] at q
    refine ⟨G, st, r, boolEnd (P := fun b st' => if b = true then .ok false (.dat (.bool true)) st' else g st') q fun b st' G' H' e r' q' => ?_⟩
    cases b with
    | true => rw [if_pos rfl] at q' ⊢; exact PostE.ps q' r' (.bl _)
    | false => rw [if_neg Bool.false_ne_true] at q' ⊢; exact ⟨G', st', r', q'⟩
theorem je_not {a : Expr} {f : SE} {pos : Pos} (h : JE X F W a f) : JE X F W (.UnaryOp .Not a pos) (notE f) :=
  PE.imp (pe_not h) fun σ H Q ⟨G, st, r, q⟩ => by
    have q : PostE F W G σ Q (match f st with | .ok _ (.dat (.bool b)) st' => .ok false (.dat (.bool (!b))) st' | .exc c d st' => .exc c d st' | _ => .bad) := q
    refine ⟨G, st, r, boolEnd (P := fun b st' => .ok false (.dat (.bool (!b))) st') q fun b st' G' H' e r' q' => PostE.ps q' r' (.bl _)⟩
/-! a if t else b -/
def iteR (r : RT) (f g : SE) : RE := match r with
  | .ok true st => f st
  | .ok false st => g st
  | .exc c d st => .exc c d st
  | .bad => .bad
def ifE (t : ST) (f g : SE) : SE := fun st => iteR (t st) f g
theorem je_if {c a b : Expr} {t : ST} {f g : SE} {pos : Pos} (hc : JT X F W c t) (ha : JE X F W a f) (hb : JE X F W b g) : JE X F W (.IfExp c a b pos) (ifE t f g) :=
  PE.imp (pe_ifExp hc ha hb) fun σ H Q ⟨G, st, r, q⟩ => by
    refine ⟨G, st, r, ?_⟩
    unfold ifE at q
    generalize t st = z at q ⊢
    cases z with
    | ok b st' =>
      intro G' H' e r'
      cases b with
      | true => rw [if_pos rfl]; exact ⟨G', st', r', PostE.mono e q⟩
      | false => rw [if_neg Bool.false_ne_true]; exact ⟨G', st', r', PostE.mono e q⟩
    | exc c d st' => exact q
    | bad => exact q

/-! displays -/
def itemD : Bool → Acc → Option (List D)
  | false, .inr (.dat d) => some [d]
  | true, .inr (.dat (.tuple xs)) => some xs
  | true, .inr (.dat (.list xs)) => some xs
  | _, _ => none
def evD : List (Bool × SE) → List D → (List D → Sg → RE) → SE
  | [], acc, k => fun st => k acc st
  | (b, f) :: r, acc, k => fun st => evO (.ev f) st fun z st' => match itemD b z with
    | some xs => evD r (acc ++ xs) k st'
    | none => .bad
def tDs (F : Fr) (W : Wx) : List (Bool × SE) → TA
  | [] => tNil
  | (false, f) :: r => tCons (tE F W f) (tDs F W r)
  | (true, f) :: r => tStar F.K (tE F W f) (tDs F W r)
abbrev JD (X : Cx) (F : Fr) (W : Wx) (es : List Expr) (fs : List (Bool × SE)) : Prop := PA X es (tDs F W fs)
theorem jd_nil : JD X F W [] [] := pa_nil
theorem jd_cons {e : Expr} {es : List Expr} {f : SE} {fs : List (Bool × SE)} (h : JE X F W e f) (t : JD X F W es fs) (hs : starEach (e :: es) X.env = (false, eval e X.env) :: starEach es X.env := by rfl) : JD X F W (e :: es) ((false, f) :: fs) := pa_cons h t hs
theorem jd_star {e : Expr} {es : List Expr} {f : SE} {fs : List (Bool × SE)} {p : Pos} (hF : F.K = X.K) (h : JE X F W e f) (t : JD X F W es fs) (hs : starEach (.Starred e p :: es) X.env = (true, eval e X.env) :: starEach es X.env := by rfl) : JD X F W (.Starred e p :: es) ((true, f) :: fs) := by
  have := pa_star h t hs
  rw [← hF] at this
  exact this
theorem evD_ok : ∀ {fs : List (Bool × SE)} {acc : List D} {k : List D → Sg → RE} {R : List V → Hp → Prop} {vs : List V} {G H : Hp} {st : Sg}, SR F G H σ st → DpAll F.K G vs acc → PostE F W G σ Q (evD fs acc k st) →
    (∀ ws as G' H' st', Ex G G' → SR F G' H' σ st' → DpAll F.K G' (vs ++ ws) as → PostE F W G' σ Q (k as st') → R ws H') → tDs F W fs σ H R
  | [], acc, k, R, vs, G, H, st, r, ha, h, hk => hk [] acc G H st (Ex.refl G) r (by rw [List.append_nil]; exact ha) h
  | (b, f) :: fs, acc, k, R, vs, G, H, st, r, ha, h, hk => by
    have h' : PostE F W G σ Q (evO (.ev f) st fun z st' => match itemD b z with
      | some xs => evD fs (acc ++ xs) k st'
      | none => .bad) := h
    have step : ∀ (xs : List D) (ws0 : List V) (G' H' : Hp) (st' : Sg), Ex G G' → SR F G' H' σ st' → DpAll F.K G' ws0 xs → PostE F W G' σ Q (evD fs (acc ++ xs) k st') → tDs F W fs σ H' fun ws H2 => R (ws0 ++ ws) H2 := by
      intro xs ws0 G' H' st' e r' p q
      refine evD_ok r' (Dps.append (dps_mono e _ ha) p) q fun ws as G2 H2 st2 e2 r2 p2 q2 => ?_
      refine hk (ws0 ++ ws) as G2 H2 st2 (e.trans e2) r2 ?_ q2
      rw [List.append_assoc] at p2
      exact p2
    cases b with
    | false =>
      show tE F W f σ H fun v H1 => tDs F W fs σ H1 fun ws H2 => R (v :: ws) H2
      refine evO_ok (o := .ev f) r h' fun v a G' H' st' e r' p q => ?_
      cases a with
      | inl i => exact q.elim
      | inr u =>
        cases u with
        | dat d => exact step [d] [v] G' H' st' e r' (.cons p .nil) q
        | _ => exact q.elim
    | true =>
      show tE F W f σ H fun x H1 => ∃ p xs, x = V.ref p ∧ (SqT F.K H1 p xs ∨ SqL F.K H1 p xs) ∧ tDs F W fs σ H1 fun ys H2 => R (xs ++ ys) H2
      refine evO_ok (o := .ev f) r h' fun v a G' H' st' e r' p q => ?_
      cases a with
      | inl i => exact q.elim
      | inr u =>
        cases u with
        | dat d =>
          cases d with
          | tuple xs =>
            have p' : Dp F.K G' v (.tuple xs) := p
            cases p' with
            | tup hs ha' => exact ⟨_, _, rfl, .inl ((ex_n r'.ex hs).t), step xs _ G' H' st' e r' ha' q⟩
          | list xs =>
            have p' : Dp F.K G' v (.list xs) := p
            cases p' with
            | lst hs ha' => exact ⟨_, _, rfl, .inr (ex_l r'.ex hs), step xs _ G' H' st' e r' ha' q⟩
          | _ => exact q.elim
        | _ => exact q.elim
def tupK (ds : List D) (st : Sg) : RE := if ds.length ≤ LINE then .ok false (.dat (.tuple ds)) st else .bad
def lstK (ds : List D) (st : Sg) : RE := if ds.length ≤ LINE then .ok true (.dat (.list ds)) st else .bad
def tupE (fs : List (Bool × SE)) : SE := evD fs [] tupK
def lstE (fs : List (Bool × SE)) : SE := evD fs [] lstK
theorem je_tup {es : List Expr} {fs : List (Bool × SE)} {x1} {pos : Pos} (h : JD X F W es fs) : JE X F W (.Tuple es x1 pos) (tupE fs) :=
  PE.imp (pe_tupN h) fun σ H Q ⟨G, st, r, q⟩ => evD_ok r .nil q fun ws as G' H' st' e r' p q' => by
    unfold tupK at q'
    split at q'
    · rename_i hl
      have := Dps.length p
      rw [List.nil_append] at p this
      exact ⟨le_line (by omega), PostE.newT q' r' p⟩
    · exact q'.elim
theorem je_lst {es : List Expr} {fs : List (Bool × SE)} {pos : Pos} (h : JD X F W es fs) : JE X F W (.List es pos) (lstE fs) :=
  PE.imp (pe_lst h) fun σ H Q ⟨G, st, r, q⟩ => evD_ok r .nil q fun ws as G' H' st' e r' p q' => by
    unfold lstK at q'
    split at q'
    · rename_i hl
      have := Dps.length p
      rw [List.nil_append] at p this
      exact ⟨le_line (by omega), PostE.newL q' r' p⟩
    · exact q'.elim

/-! items -/
def ixU (x y : U) (st : Sg) : RE := match x, y with
  | .dat (.list ds), .dat (.int i) => match atI ds i with
    | some d => .ok false (.dat d) st
    | none => .bad
  | .dat (.tuple ds), .dat (.int i) => match atI ds i with
    | some d => .ok false (.dat d) st
    | none => .bad
  | _, _ => .bad
theorem Dps.atI {K : PySem.W.Frag} {i : Int} {d : D} (h : DpAll K H vs ds) (e : L2.atI ds i = some d) : ∃ v, L2.atI vs i = some v ∧ Dp K H v d := by
  unfold L2.atI at e ⊢
  rw [Dps.length h]
  obtain ⟨j, e1, e2⟩ := Option.bind_eq_some_iff.mp e
  obtain ⟨v, e3, p⟩ := Dps.get h e2
  exact ⟨v, by rw [e1]; exact e3, p⟩
theorem je_ix {a b : Expr} {oa ob : Opn} {pos : Pos} (hF : F.K = X.K) (ha : JO X F W a oa) (hb : JO X F W b ob) (hs : PlainIx b := by exact fun _ _ => rfl) : JE X F W (.Subscript a b pos) (ev2 oa ob ixU) :=
  PE.imp (pe_ix (ix_list.or ix_tup) ha hb hs) fun σ H Q ⟨G, st, r, h⟩ => ev2_ok r h fun x y u w G' H' st' e r' h1 h2 q => by
    unfold ixU at q
    split at q
    · rename_i ds i
      split at q
      · rename_i d hd
        obtain ⟨p, vs, e1, e2, e3⟩ := h1.lst
        obtain ⟨v, e4, e5⟩ := Dps.atI e3 hd
        exact .inl ⟨p, vs, i, v, e1, h2.int, hF ▸ e2, e4, PostE.ps q r' e5⟩
      · exact q.elim
    · rename_i ds i
      split at q
      · rename_i d hd
        obtain ⟨p, vs, e1, e2, e3⟩ := h1.tup r'.ex
        obtain ⟨v, e4, e5⟩ := Dps.atI e3 hd
        exact .inr ⟨p, vs, i, v, e1, h2.int, hF ▸ e2, e4, PostE.ps q r' e5⟩
      · exact q.elim
    · exact q.elim
/-! slices -/
def cutD (ds : List D) (lo hi : Option Int) : List D := (ds.drop (HT.sIx ds.length 0 lo)).take (HT.sIx ds.length ds.length hi - HT.sIx ds.length 0 lo)
theorem Dps.cut {K : PySem.W.Frag} {lo hi : Option Int} (h : DpAll K H vs ds) : DpAll K H (cutV vs lo hi) (cutD ds lo hi) := by
  unfold cutV cutD
  rw [Dps.length h]
  exact Dps.take _ (Dps.drop _ h)
def slU (x : U) (lo hi : Option Int) (st : Sg) : RE := match x with
  | .dat (.list ds) => .ok true (.dat (.list (cutD ds lo hi))) st
  | .dat (.tuple ds) => .ok false (.dat (.tuple (cutD ds lo hi))) st
  | _ => .bad
def intOf : U → Option Int
  | .dat (.int i) => some i
  | _ => none
theorem cut_whole {lo hi : Option Int} (h : HT.sIx ds.length 0 lo = 0 ∧ HT.sIx ds.length ds.length hi = ds.length) : cutD ds lo hi = ds := by
  unfold cutD
  rw [h.1, h.2]
  simp
theorem sl_ok {x : V} {lo hi : Option Int} (r : SR F G H σ st) (h1 : RdU F.K G H x u) (q : PostE F W G σ Q (slU u lo hi st)) : rSlL F.K x lo hi H Q ∨ rSlN F.K x lo hi H Q := by
  unfold slU at q
  split at q
  · obtain ⟨p, vs, e1, e2, e3⟩ := h1.lst
    exact .inl ⟨p, vs, e1, e2, PostE.newL q r (Dps.cut e3)⟩
  · rename_i ds
    obtain ⟨p, vs, e1, e2, e3⟩ := h1.tup r.ex
    refine .inr ⟨p, vs, e1, e2, fun z => ?_, fun z => PostE.newT q r (Dps.cut e3)⟩
    rw [Dps.length e3] at z
    rw [cut_whole z] at q
    rw [e1] at h1
    exact PostE.ps q r h1
  · exact q.elim
end
end Pl

namespace Pl
open PySem L2 PySem.Spec PyProof.Rows

/-- a def's end: a value and what became of the things lent, by places (else nothing) -/
inductive RF where
  | ret (o : Bool) (u : U) (outs : List Sl)
  | exc (c : Nat) (d : D) (outs : List Sl)
  | bad
abbrev SF := List U → RF
def frOf (K : PySem.W.Frag) (G H : Hp) (vs : List V) (fps : Nat → List Addr) : Fr := { K := K, H0 := H, G0 := G, FP := fps, pin := fun i => vs[i]? }
def parSl (ks : List Bool) (us : List U) : List Sl := List.zipWith (fun k u => if k then Sl.io u else Sl.ps u) ks us
def keepIo : Sl → Sl
  | .io u => .io u
  | _ => .no
def maskSl (ks : List Bool) (st : Sg) : List Sl := List.zipWith (fun k s => if k then keepIo s else Sl.no) ks st
def PostF (fr : Fr) (ca : Nat → Addr) (G : Hp) (vs : List V) (Q : VK) (E : XK) : RF → Prop
  | .ret o u outs => ∀ v G' H', Ex G G' → SR fr G' H' (vs.map some ++ [some v]) (outs ++ [sl o u]) → Q v H'
  | .exc c d outs => ∀ G' H' dx v, Ex G G' → SR fr G' H' (vs.map some) outs → H' dx = some (.xd [("at", v)]) → Dp fr.K G' v d → E (.ref (ca c)) (some dx) H'
  | .bad => False
/-- a def's promise by data -/
def spF (K : PySem.W.Frag) (ca : Nat → Addr) (ks : List Bool) (f : SF) : Sp := fun vs H Q E =>
  ∃ G us fps, SR (frOf K G H vs fps) G H (vs.map some) (parSl ks us) ∧ us.length = ks.length ∧ vs.length = ks.length ∧ PostF (frOf K G H vs fps) ca G vs Q E (f us)
/-- what a body does, as a def's end -/
def bodyR (ks : List Bool) : RS → RF
  | .nx st => .ret false (.dat .none) (maskSl ks st)
  | .rt o u st => .ret o u (maskSl ks st)
  | .exc c d st => .exc c d (maskSl ks st)
  | _ => .bad
def bodyF (ks : List Bool) (n : Nat) (body : SS) : SF := fun us => bodyR ks (body (parSl ks us ++ List.replicate (n - ks.length) Sl.no))

section
variable {F : Fr} {W : Wx} {G G' H H' : Hp} {σ σ' : St} {st st' : Sg} {Q : VK} {v : V} {u : U} {vs : List V} {ks : List Bool}
theorem SR0.pinned {i : Nat} (h : SR0 F G H σ st) (e : st[i]? = some (.io u)) : slv σ i = F.pin i := by
  obtain ⟨f, h1, h2⟩ := h.sl
  obtain ⟨⟨x, e1, o, p⟩, q⟩ := h1 i _ e
  exact e1.trans p.symm
theorem SR0.pad : ∀ (n : Nat), SR0 F G H σ st → SR0 F G H (σ ++ List.replicate n none) (st ++ List.replicate n Sl.no) := fun n h => by
  have hl := h.len
  refine h.re (fun j => j) (by simp [hl]) (fun j s q => ?_) (fun j k s t a b ne _ _ e => absurd e ne)
  by_cases hj : j < st.length
  · rw [List.getElem?_append_left hj] at q
    exact .inr ⟨q, by rw [List.getElem?_append_left (by omega)], .inl rfl⟩
  · rw [List.getElem?_append_right (by omega), List.getElem?_replicate] at q
    split at q
    · cases q; exact .inl rfl
    · cases q
theorem mask_get {i : Nat} {s : Sl} (h : (maskSl ks st)[i]? = some s) : i < ks.length ∧ i < st.length ∧ (s = .no ∨ ∃ u, s = .io u ∧ st[i]? = some (.io u)) := by
  unfold maskSl at h
  rw [List.getElem?_zipWith] at h
  cases e1 : ks[i]? with
  | none => rw [e1] at h; cases h
  | some k =>
    cases e2 : st[i]? with
    | none => rw [e1, e2] at h; cases h
    | some t =>
      rw [e1, e2] at h
      simp only [Option.some.injEq] at h
      refine ⟨(List.getElem?_eq_some_iff.mp e1).1, (List.getElem?_eq_some_iff.mp e2).1, ?_⟩
      subst h
      cases k with
      | false => exact .inl rfl
      | true =>
        cases t with
        | io u => exact .inr ⟨u, rfl, rfl⟩
        | _ => exact .inl rfl
theorem mask_len (h : ks.length ≤ st.length) : (maskSl ks st).length = ks.length := by
  unfold maskSl
  rw [List.length_zipWith]
  omega
/-- what a body leaves, seen by places of the parameters -/
theorem SR0.out {s : Sl} (h : SR0 F G H (σ ++ [some v]) (st ++ [s])) (hs : s.isIo = false) (hn : ks.length ≤ st.length) (hv : vs.length = ks.length) (hp : ∀ i, F.pin i = vs[i]?) :
    SR0 F G H (vs.map some ++ [some v]) (maskSl ks st ++ [s]) := by
  have hl : st.length = σ.length := by have := h.len; simpa using this
  have hm := mask_len hn
  refine h.re (fun j => if j = ks.length then st.length else j) (by simp [hm, hv]) (fun j t q => ?_) (fun j k a b q1 q2 ne n1 n2 e => ?_)
  · by_cases e : j = ks.length
    · subst e
      simp only [if_true]
      rw [show ks.length = (maskSl ks st).length from hm.symm, get_app_n] at q
      cases q
      rw [get_app_n, hl, get_app_n, show ks.length = (vs.map some).length by simp [hv], get_app_n]
      cases s with
      | no => exact .inl rfl
      | ps u => exact .inr ⟨rfl, rfl, .inr ⟨u, .inl rfl⟩⟩
      | ow u => exact .inr ⟨rfl, rfl, .inr ⟨u, .inr rfl⟩⟩
      | bo u => cases hs
      | io u => cases hs
    · simp only [if_neg e]
      have hj : j < ks.length := by have := (List.getElem?_eq_some_iff.mp q).1; simp [hm] at this; omega
      rw [get_app_l (by omega)] at q
      obtain ⟨_, h2, h3⟩ := mask_get q
      rcases h3 with h3 | ⟨u, h3, h4⟩
      · exact .inl h3
      · subst h3
        have h5 : (st ++ [s])[j]? = some (.io u) := by rw [get_app_l h2]; exact h4
        refine .inr ⟨h5, ?_, .inl True.intro⟩
        have h6 := h.pinned h5
        unfold slv at h6
        rw [h6, hp, get_app_l (by simp; omega), List.getElem?_map]
        cases vs[j]? <;> rfl
  · have hj : j < ks.length + 1 := by have := (List.getElem?_eq_some_iff.mp q1).1; simp [hm] at this; omega
    have hk : k < ks.length + 1 := by have := (List.getElem?_eq_some_iff.mp q2).1; simp [hm] at this; omega
    by_cases e1 : j = ks.length <;> by_cases e2 : k = ks.length
    · exact absurd (e1.trans e2.symm) ne
    · simp only [if_pos e1, if_neg e2] at e; omega
    · simp only [if_pos e2, if_neg e1] at e; omega
    · simp only [if_neg e1, if_neg e2] at e; exact absurd e ne
theorem SR0.out0 (h : SR0 F G H σ st) (hn : ks.length ≤ st.length) (hv : vs.length = ks.length) (hp : ∀ i, F.pin i = vs[i]?) : SR0 F G H (vs.map some) (maskSl ks st) :=
  SR0.pop (w := some .non) ((h.push_no (v := .non)).out rfl hn hv hp)
theorem SR.nil {h : F.T = []} (r : SR F G H σ st) : SR0 F G H σ st := by
  have z := r.z
  have e : F.ts = [] := by have := r.tl; rw [h] at this; exact List.eq_nil_of_length_eq_zero this
  rw [h, e, List.append_nil, List.append_nil] at z
  exact z
theorem SR.of_nil {h : F.T = []} {h' : F.ts = []} (r : SR0 F G H σ st) : SR F G H σ st := by
  refine ⟨by rw [h, h', List.append_nil, List.append_nil]; exact r, r.len, fun t ht => by rw [h'] at ht; cases ht⟩
theorem SR.pad (h1 : F.T = []) (h2 : F.ts = []) (n : Nat) (r : SR F G H σ st) : SR F G H (σ ++ List.replicate n none) (st ++ List.replicate n Sl.no) := SR.of_nil (h := h1) (h' := h2) ((SR.nil (h := h1) r).pad n)
theorem SR.out {s : Sl} (h1 : F.T = []) (h2 : F.ts = []) (h : SR F G H (σ ++ [some v]) (st ++ [s])) (hs : s.isIo = false) (hn : ks.length ≤ st.length) (hv : vs.length = ks.length) (hp : ∀ i, F.pin i = vs[i]?) :
    SR F G H (vs.map some ++ [some v]) (maskSl ks st ++ [s]) := SR.of_nil (h := h1) (h' := h2) ((SR.nil (h := h1) h).out hs hn hv hp)
theorem SR.out0 (h1 : F.T = []) (h2 : F.ts = []) (h : SR F G H σ st) (hn : ks.length ≤ st.length) (hv : vs.length = ks.length) (hp : ∀ i, F.pin i = vs[i]?) : SR F G H (vs.map some) (maskSl ks st) := SR.of_nil (h := h1) (h' := h2) ((SR.nil (h := h1) h).out0 hn hv hp)
end

/-- THE RULE: a def by its body -/
theorem def_ok {P : Program} {w : World} {K : PySem.W.Frag} {mg : Str → Option Value} {base : Heap} {x qual : Str} {st : Stmt} {f : Addr} {fd : FuncData} {N ps : List Str} {k : Nat} {ks : List Bool} {ca : Nat → Addr} {body : SS}
    (Fn : Fun K x qual st f fd) (S : FnScope N ps (defScope st)) (hk : ks.length = ps.length)
    (hbody : ∀ (cdv : Value) (A : Around) (outer : List Env) (s : Shared) (H : Hp) (E : XK) (fr : Fr), fr.K = K → Room k (A.deeper (envOfC qual (defScope st) s.heap.objs.size f cdv)) →
      JB (cxOf (L2.CX P w) P w K mg base N qual (defScope st) f cdv A outer s H E) fr ⟨ca, fun cls d _ H => E cls d H⟩ (defBody st) body) :
    FnOk P w K mg base (L2.CX P w) (k + 1) f fd ps (spF K ca ks (bodyF ks N.length body)) := by
  have hpn : ps.length ≤ N.length := by have := congrArg List.length S.pre; rw [List.length_take] at this; omega
  refine Fn.okX S (fun vs H Q E h => ?_) (fun cdv A outer s H vs Q E hr h => ?_)
  · obtain ⟨G, us, fps, _, _, h, _⟩ := h
    rw [h, hk]
  · obtain ⟨G, us, fps, r, hu, hv, h⟩ := h
    refine ⟨_, hbody cdv A outer s H E (frOf K G H vs fps) rfl hr, G, parSl ks us ++ List.replicate (N.length - ks.length) Sl.no, ?_, ?_⟩
    · have z := r.pad rfl rfl (N.length - ks.length)
      unfold L2.start
      rw [hv]
      exact z
    · unfold bodyF at h
      generalize body (parSl ks us ++ List.replicate (N.length - ks.length) Sl.no) = z at h ⊢
      have hp : ∀ i, (frOf K G H vs fps).pin i = vs[i]? := fun _ => rfl
      have hlen : ∀ {σ' : St} {w : Option V} {st' : Sg} {s' : Sl} {G' H' : Hp}, σ'.length = (L2.start N vs).length → SR (frOf K G H vs fps) G' H' (σ' ++ [w]) (st' ++ [s']) → ks.length ≤ st'.length := fun {σ' w st' s' G' H'} l r' => by
        have z := r'.len
        have y : (L2.start N vs).length = N.length := by unfold L2.start; rw [List.length_append, List.length_map, List.length_replicate]; omega
        simp at z
        omega
      cases z with
      | nx st' =>
        intro σ' G' H' l e r'
        have r2 := r'.push_ps (v := .non) (u := .dat .none) .non
        exact h .non G' H' e (r2.out rfl rfl rfl (hlen l r2) hv hp)
      | rt o u st' =>
        intro v σ' G' H' l e r'
        exact h v G' H' e (r'.out rfl rfl (by cases o <;> rfl) (hlen l r') hv hp)
      | exc c d st' =>
        intro σ' l G' H' dx v e r' hd p
        exact h G' H' dx v e (r'.out0 rfl rfl (hlen l (r'.push_no (v := .non))) hv hp) hd p
      | bk st' => exact h.elim
      | ct st' => exact h.elim
      | bad => exact h.elim

/-! calls -/
def argU (st : Sg) : Bool → Acc → Option U
  | false, .inr u => some u
  | false, .inl i => match st[i]? with
    | some (.ps u) => some u
    | _ => none
  | true, .inl i => match st[i]? with
    | some s => s.own
    | none => none
  | true, .inr _ => none
def argsOf (st : Sg) : List Bool → List Acc → Option (List U)
  | [], [] => some []
  | k :: ks, a :: as => (argU st k a).bind fun u => (argsOf st ks as).map (u :: ·)
  | _, _ => none
/-- which slot is lent at a place -/
def ioAt (ks : List Bool) (as : List Acc) (j : Nat) : Option Nat := match ks[j]?, as[j]? with
  | some true, some (.inl i) => some i
  | _, _ => none
/-- the place at which a slot is lent -/
def lentAt (ks : List Bool) (as : List Acc) (i : Nat) : Option Nat := (List.range ks.length).find? fun j => ioAt ks as j == some i
def backSl (ks : List Bool) (as : List Acc) (outs : List Sl) (i : Nat) (s : Sl) : Sl := match lentAt ks as i with
  | some j => match outs[j]? with
    | some (.io u) => s.re u
    | _ => .no
  | none => s
def backSt (ks : List Bool) (as : List Acc) (outs : List Sl) (st : Sg) : Sg := st.mapIdx (backSl ks as outs)
def callK (ks : List Bool) (f : SF) (as : List Acc) (st : Sg) : RE :=
  if ((List.range ks.length).filterMap (ioAt ks as)).Nodup then
    match argsOf st ks as with
    | some us => match f us with
      | .ret o u outs => .ok o u (backSt ks as outs st)
      | .exc c d outs => .exc c d (backSt ks as outs st)
      | .bad => .bad
    | none => .bad
  else .bad
def callE (ks : List Bool) (f : SF) (os : List Opn) : SE := evN os [] (callK ks f)

section
variable {F : Fr} {W : Wx} {G G' H H' : Hp} {σ σ' : St} {st st' : Sg} {Q : VK} {v : V} {u : U} {vs : List V}
theorem argsOf_len : ∀ {ks : List Bool} {as : List Acc} {us : List U}, argsOf st ks as = some us → us.length = ks.length ∧ as.length = ks.length
  | [], [], us, h => by cases h; exact ⟨rfl, rfl⟩
  | k :: ks, a :: as, us, h => by
    unfold argsOf at h
    obtain ⟨u, e1, e2⟩ := Option.bind_eq_some_iff.mp h
    obtain ⟨r, e3, e4⟩ := Option.map_eq_some_iff.mp e2
    obtain ⟨h1, h2⟩ := argsOf_len e3
    subst e4
    exact ⟨by simp [h1], by simp [h2]⟩
  | [], _ :: _, _, h => by cases h
  | _ :: _, [], _, h => by cases h
theorem argsOf_get : ∀ {ks : List Bool} {as : List Acc} {us : List U} {j : Nat} {u : U}, argsOf st ks as = some us → us[j]? = some u → ∃ k a, ks[j]? = some k ∧ as[j]? = some a ∧ argU st k a = some u
  | [], [], us, j, u, h, e => by cases h; simp at e
  | k :: ks, a :: as, us, j, u, h, e => by
    unfold argsOf at h
    obtain ⟨u0, e1, e2⟩ := Option.bind_eq_some_iff.mp h
    obtain ⟨r, e3, e4⟩ := Option.map_eq_some_iff.mp e2
    subst e4
    cases j with
    | zero => simp at e; subst e; exact ⟨k, a, rfl, rfl, e1⟩
    | succ j =>
      obtain ⟨k', a', q1, q2, q3⟩ := argsOf_get (j := j) (u := u) e3 (by simpa using e)
      exact ⟨k', a', by simpa using q1, by simpa using q2, q3⟩
  | [], _ :: _, _, _, _, h, _ => by cases h
  | _ :: _, [], _, _, _, h, _ => by cases h
theorem ioAt_some {ks : List Bool} {as : List Acc} {i j : Nat} (h : ioAt ks as j = some i) : ks[j]? = some true ∧ as[j]? = some (.inl i) := by
  unfold ioAt at h
  split at h
  · rename_i e1 e2; cases h; exact ⟨e1, e2⟩
  · cases h
theorem par_get {ks : List Bool} {us : List U} {j : Nat} {s : Sl} (h : (parSl ks us)[j]? = some s) : ∃ k u, ks[j]? = some k ∧ us[j]? = some u ∧ s = (if k then Sl.io u else Sl.ps u) := by
  unfold parSl at h
  rw [List.getElem?_zipWith] at h
  cases e1 : ks[j]? with
  | none => rw [e1] at h; cases h
  | some k =>
    cases e2 : us[j]? with
    | none => rw [e1, e2] at h; cases h
    | some u =>
      rw [e1, e2] at h
      simp only [Option.some.injEq] at h
      exact ⟨k, u, rfl, rfl, h.symm⟩
theorem filterMap_inj {α β : Type} {f : α → Option β} : ∀ {l : List α}, l.Nodup → (l.filterMap f).Nodup → ∀ x ∈ l, ∀ y ∈ l, ∀ b, f x = some b → f y = some b → x = y
  | [], _, _, x, hx, _, _, _, _, _ => by cases hx
  | a :: l, nd, h, x, hx, y, hy, b, ex, ey => by
    have nd' := List.nodup_cons.mp nd
    rw [List.filterMap_cons] at h
    cases ea : f a with
    | none =>
      rw [ea] at h
      rcases List.mem_cons.mp hx with z | z
      · subst z; rw [ex] at ea; cases ea
      · rcases List.mem_cons.mp hy with w | w
        · subst w; rw [ey] at ea; cases ea
        · exact filterMap_inj nd'.2 h x z y w b ex ey
    | some c =>
      rw [ea] at h
      have h' := List.nodup_cons.mp h
      rcases List.mem_cons.mp hx with z | z
      · rcases List.mem_cons.mp hy with w | w
        · rw [z, w]
        · subst z
          rw [ex] at ea; cases ea
          exact absurd (List.mem_filterMap.mpr ⟨y, w, ey⟩) h'.1
      · rcases List.mem_cons.mp hy with w | w
        · subst w
          rw [ey] at ea; cases ea
          exact absurd (List.mem_filterMap.mpr ⟨x, z, ex⟩) h'.1
        · exact filterMap_inj nd'.2 h'.2 x z y w b ex ey
theorem lent_some {ks : List Bool} {as : List Acc} {i j : Nat} (h : lentAt ks as i = some j) : ioAt ks as j = some i ∧ j < ks.length := by
  unfold lentAt at h
  have h1 := List.find?_some h
  have h2 := List.mem_of_find?_eq_some h
  exact ⟨by simpa using h1, by simpa using h2⟩
theorem lent_none {ks : List Bool} {as : List Acc} {i j : Nat} (h : lentAt ks as i = none) (hj : j < ks.length) : ioAt ks as j ≠ some i := by
  unfold lentAt at h
  have := List.find?_eq_none.mp h j (by simpa using hj)
  simpa using this
theorem AccAll.get {G : Hp} : ∀ {vs : List V} {as : List Acc} {j : Nat} {a : Acc}, AccAll F G σ vs as → as[j]? = some a → ∃ v, vs[j]? = some v ∧ AccOk F G σ v a
  | _, _, _, _, .nil, e => by simp at e
  | _, _, 0, _, .cons r _, e => by simp at e; subst e; exact ⟨_, rfl, r⟩
  | _, _, j + 1, a, .cons _ t, e => by
    obtain ⟨v, h1, h2⟩ := AccAll.get (j := j) (a := a) t (by simpa using e)
    exact ⟨v, by simpa using h1, h2⟩
theorem paired_len {α β : Type} {R : α → β → Prop} : ∀ {l : List α} {m : List β}, Paired R l m → l.length = m.length
  | _, _, .nil => rfl
  | _, _, .cons _ t => by simp [paired_len t]

/-- what the caller hands on, and what it gets back -/
theorem SR0.lend {ks : List Bool} {as : List Acc} {us : List U} (r : SR0 F G H σ st) (p : AccAll F G σ vs as) (nd : ((List.range ks.length).filterMap (ioAt ks as)).Nodup) (ha : argsOf st ks as = some us) :
    ∃ fps, SR0 (frOf F.K G H vs fps) G H (vs.map some) (parSl ks us) ∧ us.length = ks.length ∧ vs.length = ks.length ∧
      ∀ outs s v G' H', s.isIo = false → SR0 (frOf F.K G H vs fps) G' H' (vs.map some ++ [some v]) (outs ++ [s]) → SR0 F G' H' (σ ++ [some v]) (backSt ks as outs st ++ [s]) := by
  obtain ⟨f, h1, h2⟩ := r.sl
  have hl := r.len
  obtain ⟨l1, l2⟩ := argsOf_len ha
  have l3 : vs.length = ks.length := (paired_len p).trans l2
  have inj : ∀ j k i, ioAt ks as j = some i → ioAt ks as k = some i → j = k := fun j k i e1 e2 => by
    have hj : j < ks.length := (List.getElem?_eq_some_iff.mp (ioAt_some e1).1).1
    have hk : k < ks.length := (List.getElem?_eq_some_iff.mp (ioAt_some e2).1).1
    exact filterMap_inj List.nodup_range nd j (by simpa using hj) k (by simpa using hk) i e1 e2
  -- the slot that is lent at j is one's own
  have own : ∀ j i, ioAt ks as j = some i → ∃ s u, st[i]? = some s ∧ s.own = some u ∧ us[j]? = some u ∧ vs[j]? = slv σ i ∧ i < st.length := fun j i e => by
    obtain ⟨e1, e2⟩ := ioAt_some e
    have hj : j < us.length := by rw [l1]; exact (List.getElem?_eq_some_iff.mp e1).1
    obtain ⟨k, a, q1, q2, q3⟩ := argsOf_get ha (List.getElem?_eq_getElem hj)
    rw [e1] at q1; cases q1
    rw [e2] at q2; cases q2
    unfold argU at q3
    dsimp only at q3
    cases es : st[i]? with
    | none => rw [es] at q3; cases q3
    | some s =>
      rw [es] at q3
      obtain ⟨w, e3, e4⟩ := p.get e2
      have e4' : slv σ i = some w := e4
      exact ⟨s, us[j], rfl, q3, List.getElem?_eq_getElem hj, e3.trans e4'.symm, (List.getElem?_eq_some_iff.mp es).1⟩
  let fps : Nat → List Addr := fun j => match ioAt ks as j with | some i => f i | none => []
  have fps_some : ∀ {j i}, ioAt ks as j = some i → fps j = f i := fun {j i} e => by show (match ioAt ks as j with | some i => f i | none => []) = f i; rw [e]
  have fps_none : ∀ {j}, ioAt ks as j = none → fps j = [] := fun {j} e => by show (match ioAt ks as j with | some i => f i | none => []) = []; rw [e]
  -- what is lent stands among the slots' own
  have fps_in : ∀ {j b}, b ∈ fps j → ∃ i, ioAt ks as j = some i ∧ b ∈ f i := fun {j b} hb => by
    cases e : ioAt ks as j with
    | none => rw [fps_none e] at hb; cases hb
    | some i => rw [fps_some e] at hb; exact ⟨i, rfl, hb⟩
  refine ⟨fps, ⟨⟨r.ex, Ex.refl G, fun p o e _ => e, fun p o e => .inl e, fun p e => e⟩, ?_, fps, ?_, ?_⟩, l1, l3, ?_⟩
  · unfold parSl; rw [List.length_zipWith, List.length_map]; omega
  · intro j s q
    obtain ⟨k, u, q1, q2, q3⟩ := par_get q
    obtain ⟨k', a, q4, q5, q6⟩ := argsOf_get ha q2
    rw [q1] at q4; cases q4
    obtain ⟨w, e3, e4⟩ := p.get q5
    have ev : ((vs.map some)[j]?).join = some w := by rw [List.getElem?_map, e3]; rfl
    rw [ev]
    cases k with
    | false =>
      have e0 : ioAt ks as j = none := by unfold ioAt; rw [q1]
      rw [fps_none e0]
      subst q3
      refine ⟨rfl, w, rfl, ?_⟩
      cases a with
      | inr u' => cases q6; exact e4
      | inl i =>
        unfold argU at q6
        dsimp only at q6
        cases es : st[i]? with
        | none => rw [es] at q6; cases q6
        | some t =>
          rw [es] at q6
          cases t with
          | ps u' =>
            cases q6
            obtain ⟨x, e5, e6⟩ := r.ps es
            have e4' : slv σ i = some w := e4
            rw [e4'] at e5; cases e5
            exact e6
          | _ => cases q6
    | true =>
      cases a with
      | inr u' => cases q6
      | inl i =>
        have e0 : ioAt ks as j = some i := by unfold ioAt; rw [q1, q5]
        rw [fps_some e0]
        subst q3
        unfold argU at q6
        dsimp only at q6
        cases es : st[i]? with
        | none => rw [es] at q6; cases q6
        | some t =>
          rw [es] at q6
          have e4' : slv σ i = some w := e4
          have z := h1 i t es
          have fin : OwU F.K G H w (f i) u → SlOk (frOf F.K G H vs fps) G H (some w) j (f i) (.io u) := fun o =>
            ⟨⟨w, rfl, o, e3⟩, fun b hb => by show b ∈ fps j; rw [fps_some e0]; exact hb⟩
          cases t with
          | ow u' => cases q6; obtain ⟨⟨x, e5, o⟩, _⟩ := z; rw [show (σ[i]?).join = slv σ i from rfl, e4'] at e5; cases e5; exact fin o
          | io u' => cases q6; obtain ⟨⟨x, e5, o, _⟩, _⟩ := z; rw [show (σ[i]?).join = slv σ i from rfl, e4'] at e5; cases e5; exact fin o
          | _ => cases q6
  · intro j k _ _ ne b hb hc
    obtain ⟨i1, e1, b1⟩ := fps_in hb
    obtain ⟨i2, e2, b2⟩ := fps_in hc
    obtain ⟨_, _, _, _, _, _, b3⟩ := own j i1 e1
    obtain ⟨_, _, _, _, _, _, b4⟩ := own k i2 e2
    by_cases z : i1 = i2
    · subst z; exact ne (inj j k i1 e1 e2)
    · exact h2 i1 i2 b3 b4 z b b1 b2
  · intro outs s v G' H' hs r'
    obtain ⟨g, g1, g2⟩ := r'.sl
    have rel := r'.rel
    have lo : outs.length = vs.length := by have := r'.len; simpa using this
    have kept : ∀ b o, H b = some o → (∀ j, b ∉ fps j) → H' b = some o := rel.frm
    have thr : ∀ b, H' b = none → H b = none := rel.trk
    have gnone : ∀ b, G b = none → (∃ o, H b = some o) → G' b = none := fun b e ⟨o, eo⟩ => by
      cases q : G' b with
      | none => rfl
      | some x =>
        rcases rel.frs b x q with z | z
        · rw [show G b = some x from z] at e; cases e
        · rw [show H b = none from z] at eo; cases eo
    have relF : HRel F G' H' := by
      refine ⟨rel.ex, r.rel.ex0.trans rel.ex0, fun b o e m => kept b o (r.rel.frm b o e m) fun j hb => ?_, fun b o e => ?_, fun b e => r.rel.trk b (thr b e)⟩
      · obtain ⟨i, e1, e2⟩ := fps_in hb
        obtain ⟨s1, u1, e3, e4, _, _, _⟩ := own j i e1
        have z := h1 i s1 e3
        cases s1 with
        | ow w => obtain ⟨_, n⟩ := z; rw [n b e2] at e; cases e
        | io w => obtain ⟨_, n⟩ := z; exact m i (n b e2)
        | no => cases e4
        | ps w => cases e4
        | bo w => cases e4
      · rcases rel.frs b o e with z | z
        · exact r.rel.frs b o z
        · exact .inr (r.rel.trk b z)
    let f2 : Nat → List Addr := fun i => if i < st.length then (match lentAt ks as i with | some j => (match outs[j]? with | some (.io _) => g j | _ => []) | none => f i) else g outs.length
    have f2_in : ∀ {i}, i < st.length → f2 i = (match lentAt ks as i with | some j => (match outs[j]? with | some (.io _) => g j | _ => []) | none => f i) := fun {i} h => if_pos h
    have f2_last : f2 st.length = g outs.length := if_neg (Nat.lt_irrefl _)
    have glast : (outs ++ [s])[outs.length]? = some s := get_app_n
    have gj : ∀ {j t}, outs[j]? = some t → (outs ++ [s])[j]? = some t := fun {j t} e => by rw [get_app_l (List.getElem?_eq_some_iff.mp e).1]; exact e
    -- the lent slot, back
    have back : ∀ {i j u}, lentAt ks as i = some j → outs[j]? = some (.io u) → ∃ w, slv σ i = some w ∧ OwU F.K G' H' w (g j) u ∧ ∀ b ∈ g j, b ∈ f i := fun {i j u} e1 e2 => by
      obtain ⟨e3, hj⟩ := lent_some e1
      obtain ⟨⟨w, e4, o, pn⟩, n⟩ := g1 j _ (gj e2)
      obtain ⟨s1, u1, q1, q2, q3, q4, q5⟩ := own j i e3
      have pn' : vs[j]? = some w := pn
      refine ⟨w, q4 ▸ pn', o, fun b hb => ?_⟩
      have : b ∈ fps j := n b hb
      rw [fps_some e3] at this
      exact this
    have f2_sub : ∀ {i b}, i < st.length → b ∈ f2 i → b ∈ f i := fun {i b} hi hb => by
      rw [f2_in hi] at hb
      cases e : lentAt ks as i with
      | none => rw [e] at hb; exact hb
      | some j =>
        rw [e] at hb
        dsimp only at hb
        cases e2 : outs[j]? with
        | none => rw [e2] at hb; cases hb
        | some t =>
          rw [e2] at hb
          cases t with
          | io u => obtain ⟨w, _, _, q⟩ := back e e2; exact q b hb
          | _ => cases hb
    have tracked : ∀ {i b}, i < st.length → b ∈ f i → ∃ o, H b = some o := fun {i b} hi hb => ((h1 i _ (List.getElem?_eq_getElem hi)).fps b hb).1
    have lb : (backSt ks as outs st).length = st.length := by unfold backSt; simp
    refine ⟨relF, by simp [lb, hl], f2, fun i t q => ?_, fun i j hi hj ne b hb hc => ?_⟩
    · by_cases hi : i < st.length
      · rw [get_app_l (by omega)] at q
        rw [get_app_l (by omega)]
        unfold backSt at q
        rw [List.getElem?_mapIdx, List.getElem?_eq_getElem hi] at q
        simp only [Option.map_some, Option.some.injEq] at q
        subst q
        unfold backSl
        rw [f2_in hi]
        have es := List.getElem?_eq_getElem hi
        generalize st[i] = s1 at es
        cases e : lentAt ks as i with
        | none =>
          have z := h1 i s1 es
          have zf := z.fps
          refine z.keep rel.ex0 (fun b hb o eo => kept b o eo fun j hj => ?_) (fun b hb => gnone b (zf b hb).2 (zf b hb).1)
          obtain ⟨i', e1, e2⟩ := fps_in hj
          obtain ⟨_, _, _, _, _, _, b3⟩ := own j i' e1
          have ne : i' ≠ i := fun z => by subst z; exact lent_none e (List.getElem?_eq_some_iff.mp (ioAt_some e1).1).1 e1
          exact h2 i' i b3 hi ne b e2 hb
        | some j =>
          dsimp only
          obtain ⟨e3, hj⟩ := lent_some e
          cases e2 : outs[j]? with
          | none => exact (rfl : ([] : List Addr) = [])
          | some t =>
            cases t with
            | io u =>
              dsimp only
              obtain ⟨w, q1, q2, q3⟩ := back e e2
              rw [show (σ[i]?).join = slv σ i from rfl, q1]
              obtain ⟨s2, u1, c1, c2, _, _, _⟩ := own j i e3
              rw [es] at c1; cases c1
              have z := h1 i s1 es
              cases s1 with
              | ow x => exact ⟨⟨w, rfl, q2⟩, fun b hb => z.2 b (q3 b hb)⟩
              | io x =>
                obtain ⟨⟨y, d1, d2, d3⟩, n⟩ := z
                rw [show (σ[i]?).join = slv σ i from rfl, q1] at d1; cases d1
                exact ⟨⟨w, rfl, q2, d3⟩, fun b hb => n b (q3 b hb)⟩
              | _ => cases c2
            | _ => exact (rfl : ([] : List Addr) = [])
      · have e : i = st.length := by
          have := (List.getElem?_eq_some_iff.mp q).1
          simp [lb] at this
          omega
        subst e
        rw [show st.length = (backSt ks as outs st).length from lb.symm, get_app_n] at q
        cases q
        rw [f2_last, hl, get_app_n]
        have z := g1 outs.length s glast
        rw [show outs.length = (vs.map some).length by simp [lo], get_app_n] at z
        have gl : g outs.length = g (vs.map some).length := by simp [lo]
        rw [gl]
        cases s with
        | no => exact z
        | ps u => exact z
        | ow u => obtain ⟨o, n⟩ := z; exact ⟨o, fun b hb => r.rel.trk b (n b hb)⟩
        | bo u => cases hs
        | io u => cases hs
    · have fresh : ∀ b, b ∈ g outs.length → H b = none := fun b hb => by
        have z := g1 outs.length s glast
        cases s with
        | no => rw [show g outs.length = [] from z] at hb; cases hb
        | ps u => rw [show g outs.length = [] from z.1] at hb; cases hb
        | ow u => exact z.2 b hb
        | bo u => cases hs
        | io u => cases hs
      have bound : ∀ k, k < (backSt ks as outs st ++ [s]).length → ¬ k < st.length → k = st.length := fun k hk hn => by simp [lb] at hk; omega
      by_cases ci : i < st.length
      · by_cases cj : j < st.length
        · exact h2 i j ci cj ne b (f2_sub ci hb) (f2_sub cj hc)
        · have e := bound j hj cj
          subst e
          rw [f2_last] at hc
          obtain ⟨o, eo⟩ := tracked ci (f2_sub ci hb)
          rw [fresh b hc] at eo; cases eo
      · have e := bound i hi ci
        subst e
        rw [f2_last] at hb
        by_cases cj : j < st.length
        · obtain ⟨o, eo⟩ := tracked cj (f2_sub cj hc)
          rw [fresh b hb] at eo; cases eo
        · exact ne (bound j hj cj).symm

theorem argU_app {ts : List Sl} {a : Acc} {k : Bool} {u : U} (h : argU st k a = some u) : argU (st ++ ts) k a = some u := by
  have key : ∀ i (s : Sl), st[i]? = some s → (st ++ ts)[i]? = some s := fun i s e => by rw [get_l (List.getElem?_eq_some_iff.mp e).1]; exact e
  cases a with
  | inr w => cases k <;> exact h
  | inl i =>
    cases k with
    | false =>
      unfold argU at h ⊢
      dsimp only at h ⊢
      cases e : st[i]? with
      | none => rw [e] at h; cases h
      | some s => rw [e] at h; rw [key i s e]; exact h
    | true =>
      unfold argU at h ⊢
      dsimp only at h ⊢
      cases e : st[i]? with
      | none => rw [e] at h; cases h
      | some s => rw [e] at h; rw [key i s e]; exact h
theorem argsOf_app {ts : List Sl} : ∀ {ks : List Bool} {as : List Acc} {us : List U}, argsOf st ks as = some us → argsOf (st ++ ts) ks as = some us
  | [], [], us, h => h
  | k :: ks, a :: as, us, h => by
    unfold argsOf at h ⊢
    obtain ⟨u0, e1, e2⟩ := Option.bind_eq_some_iff.mp h
    obtain ⟨r, e3, e4⟩ := Option.map_eq_some_iff.mp e2
    rw [argU_app e1, Option.bind_some, argsOf_app e3, Option.map_some, e4]
  | [], _ :: _, _, h => by cases h
  | _ :: _, [], _, h => by cases h
theorem back_app {ts : List Sl} {ks : List Bool} {as : List Acc} {us : List U} {outs : List Sl} (h : argsOf st ks as = some us) : backSt ks as outs (st ++ ts) = backSt ks as outs st ++ ts := by
  unfold backSt
  rw [List.mapIdx_append]
  congr 1
  apply List.ext_getElem?
  intro i
  rw [List.getElem?_mapIdx]
  have z : lentAt ks as (i + st.length) = none := by
    cases e : lentAt ks as (i + st.length) with
    | none => rfl
    | some j =>
      obtain ⟨e1, hj⟩ := lent_some e
      obtain ⟨e2, e3⟩ := ioAt_some e1
      obtain ⟨l1, l2⟩ := argsOf_len h
      obtain ⟨k, a, q1, q2, q3⟩ := argsOf_get h (List.getElem?_eq_getElem (by omega : j < us.length))
      rw [e2] at q1; cases q1
      rw [e3] at q2; cases q2
      unfold argU at q3
      dsimp only at q3
      rw [List.getElem?_eq_none (by omega)] at q3
      cases q3
  cases ts[i]? with
  | none => rfl
  | some s =>
    simp only [Option.map_some, Option.some.injEq]
    unfold backSl
    rw [z]
theorem AccAll.app {T : List (Option V)} {as : List Acc} (hl : ∀ i v, slv σ i = some v → slv (σ ++ T) i = some v) : AccAll F G σ vs as → AccAll F G (σ ++ T) vs as := fun h => Paired.mapP h fun v a p => by
  cases a with
  | inl i => exact hl i v p
  | inr u => exact p
theorem SR.lend {ks : List Bool} {as : List Acc} {us : List U} (r : SR F G H σ st) (p : AccAll F G σ vs as) (nd : ((List.range ks.length).filterMap (ioAt ks as)).Nodup) (ha : argsOf st ks as = some us) :
    ∃ fps, SR (frOf F.K G H vs fps) G H (vs.map some) (parSl ks us) ∧ us.length = ks.length ∧ vs.length = ks.length ∧
      ∀ outs s v G' H', s.isIo = false → SR (frOf F.K G H vs fps) G' H' (vs.map some ++ [some v]) (outs ++ [s]) → SR F G' H' (σ ++ [some v]) (backSt ks as outs st ++ [s]) := by
  have p' : AccAll F G (σ ++ F.T) vs as := p.app fun i v e => by
    have hi := slv_lt e
    unfold slv at e ⊢
    rw [get_l hi]; exact e
  obtain ⟨fps, r1, l1, l2, back⟩ := r.z.lend p' nd (argsOf_app ha)
  refine ⟨fps, SR.of_nil (h := rfl) (h' := rfl) r1, l1, l2, fun outs s v G' H' hs r2 => ?_⟩
  have z := back outs s v G' H' hs (SR.nil (h := rfl) r2)
  rw [back_app ha] at z
  exact SR.of0 z (by unfold backSt; simp [r.len]) r.nio hs
end
end Pl

namespace Pl
open PySem L2 PySem.Spec PyProof.Rows

def pick {α : Type} (pm : List Nat) (l : List α) : List α := pm.filterMap fun i => l[i]?
/-- how a call with keywords binds: n by position, then those named ks; parameter j is the pm[j]-th of all -/
structure KBd (K : PySem.W.Frag) (fd : FuncData) (ps : List Str) (n : Nat) (ks : List Str) (pm : List Nat) : Prop where
  to : ∀ (s : Shared) (us ws : List Value), K.In s.heap → us.length = n → ws.length = ks.length → BindsTo s fd ⟨us, ks.zip ws⟩ (ps.zip (pick pm (us ++ ws)))
theorem vals_pick {vs : List V} {us : List Value} (r : Vals vs us) : ∀ (pm : List Nat), Vals (pick pm vs) (pick pm us)
  | [] => .nil
  | i :: pm => by
    have t := vals_pick r pm
    unfold pick at t ⊢
    rw [List.filterMap_cons, List.filterMap_cons]
    cases e : vs[i]? with
    | none => rw [r.none_of e]; exact t
    | some v =>
      obtain ⟨u, e2, p⟩ := r.get e
      rw [e2]
      exact .cons p t
def tCallP (n m : Nat) (pm : List Nat) (sp : Sp) (E : St → XK) (t tk : TA) : TE := fun σ H Q => t σ H fun vs H1 => tk σ H1 fun zs H2 => vs.length = n ∧ zs.length = m ∧ sp (pick pm (vs ++ zs)) H2 Q (E σ)
section
variable {X : Cx} {CX : CXT} {k n : Nat} {f : Addr} {fd : FuncData} {ps ks : List Str} {sp : Sp} {E : St → XK} {x : Str} {p pos : Pos} {e : Expr} {es : List Expr} {kws : List Keyword} {t tk : TA} {pm : List Nat}
theorem run_fnP {pins : List (Addr × Obj)} {σ : St} {H : Hp} {s : Shared} {Q : VK} {us ws : List Value} {vs zs : List V} (F : FnOk X.prog X.w X.K X.mg X.base CX k f fd ps sp) (hr : Room k X.A) (hb : KBd X.K fd ps n ks pm) (hx : PassesAt CX X σ (E σ))
    (I : Inv X pins σ H s) (r : Vals vs us) (rz : Vals zs ws) (l1 : vs.length = n) (l2 : zs.length = ks.length) (h : sp (pick pm (vs ++ zs)) H Q (E σ)) : wpAny (model X.prog X.w) X.A (call (.ref f) us (ks.zip ws)) (EP X pins σ Q) X.xe s := by
  have r2 : Vals (pick pm (vs ++ zs)) (pick pm (us ++ ws)) := vals_pick (r.append rz) pm
  refine wpAny_call (codeAny_mono (F.run X.A X.stack s H ⟨us, ks.zip ws⟩ (pick pm (us ++ ws)) (pick pm (vs ++ zs)) Q (E σ) hr I.env0 (hb.to s us ws I.kIn (r.length.symm.trans l1) (rz.length.symm.trans l2)) r2 h) fun r s' hq => ?_)
  cases r with
  | error e => exact hx pins H s e s' I hq
  | ok fl =>
    cases fl with
    | ret u => exact I.after hq
    | next => exact False.elim hq
    | brk => exact False.elim hq
    | cont => exact False.elim hq
theorem pe_callP (F : FnOk X.prog X.w X.K X.mg X.base CX k f fd ps sp) (hr : Room k X.A) (hg : Gl X x) (hm : X.mg x = some (.ref f)) (hk : PySem.W.keepIn X.K (.ref f) = true) (hb : KBd X.K fd ps n ks pm) (hx : ∀ σ, PassesAt CX X σ (E σ))
    (ha : PA X (e :: es) t) (hkw : PK X kws tk) (hall : (backToKw pos (keywordEach kws X.env)).all (·.1.isSome) = true := by rfl) (hks : (backToKw pos (keywordEach kws X.env)).filterMap (·.1) = ks := by rfl)
    (hdb : (x == ("__debug__" : Str)) = false := by decide) (he : starEach (e :: es) X.env = (false, eval e X.env) :: starEach es X.env := by rfl)
    (hpl : ((backTo pos (starEach (e :: es) X.env)).any (·.1) || (backToKw pos (keywordEach kws X.env)).any (·.1.isNone)) = false := by rfl) :
    PE X (.Call (.Name x p) (e :: es) kws pos) (tCallP n ks.length pm sp E t tk) := by
  refine ⟨fun pins s σ H Q I h => ?_⟩
  refine wpAny_Call_Name_kw (ld_glob I hg hm ?_ hdb)
  refine PySem.W.callWith_KW (h₀ := X.base) I.ok.mod.kin hk hall (thn (ha.run pos pins s σ H _ I h) fun us s1 ⟨vs, H1, I1, r, q⟩ => ?_) hpl he
  refine thn (hkw.run pos pins s1 σ H1 _ I1 q) fun ws s2 ⟨zs, H2, I2, rz, l1, l2, q2⟩ => ⟨I2.kIn, ?_⟩
  rw [hks]
  exact run_fnP F hr hb (hx σ) I2 r rz l1 l2 q2
theorem pe_callP0 (F : FnOk X.prog X.w X.K X.mg X.base CX k f fd ps sp) (hr : Room k X.A) (hg : Gl X x) (hm : X.mg x = some (.ref f)) (hk : PySem.W.keepIn X.K (.ref f) = true) (hb : KBd X.K fd ps 0 ks pm) (hx : ∀ σ, PassesAt CX X σ (E σ))
    (hkw : PK X kws tk) (hall : (backToKw pos (keywordEach kws X.env)).all (·.1.isSome) = true := by rfl) (hks : (backToKw pos (keywordEach kws X.env)).filterMap (·.1) = ks := by rfl)
    (hdb : (x == ("__debug__" : Str)) = false := by decide)
    (hpl : ((backTo pos (starEach [] X.env)).any (·.1) || (backToKw pos (keywordEach kws X.env)).any (·.1.isNone)) = false := by rfl) :
    PE X (.Call (.Name x p) [] kws pos) (tCallP 0 ks.length pm sp E tNil tk) := by
  refine ⟨fun pins s σ H Q I h => ?_⟩
  refine wpAny_Call_Name_kw (ld_glob I hg hm ?_ hdb)
  refine PySem.W.callWith_KW0 (h₀ := X.base) I.ok.mod.kin hk hall (thn (hkw.run pos pins s σ H _ I h) fun ws s2 ⟨zs, H2, I2, rz, l1, l2, q2⟩ => ⟨I2.kIn, ?_⟩) hpl
  rw [hks]
  exact run_fnP (us := []) (vs := []) F hr hb (hx σ) I2 .nil rz rfl l2 q2
end

section
variable {X : Cx} {F : Fr} {W : Wx} {G G' H H' : Hp} {σ σ' : St} {st st' : Sg} {Q : VK} {k n : Nat} {f : Addr} {fd : FuncData} {ps ks : List Str} {x : Str} {p pos : Pos} {e : Expr} {es : List Expr} {kws : List Keyword} {pm : List Nat} {kd : List Bool} {g : SF} {os oz : List Opn}
abbrev JK (X : Cx) (F : Fr) (W : Wx) (kws : List Keyword) (os : List Opn) : Prop := PK X kws (tAs F W os)
theorem jk_nil : JK X F W [] [] := pk_nil
theorem jk_cons {e : Expr} {o : Opn} {nm : Option Str} {kpos : Pos} (h : JO X F W e o) (t : JK X F W kws os) : JK X F W (⟨nm, e, kpos⟩ :: kws) (o :: os) := pk_cons h t

theorem callK_ok {as : List Acc} {ws : List V} (r : SR F G H σ st) (p : AccAll F G σ ws as) (hF : F.K = X.K) (q : PostE F W G σ Q (callK kd g as st)) : spF X.K W.ca kd g ws H Q (WE W.W σ) := by
  unfold callK at q
  split at q
  · rename_i nd
    split at q
    · rename_i us ha
      obtain ⟨fps, r2, l1, l2, back⟩ := r.lend p nd ha
      rw [hF] at r2 back
      refine ⟨G, us, fps, r2, l1, l2, ?_⟩
      generalize g us = z at q ⊢
      cases z with
      | ret o u outs => exact fun v G' H' e r3 => q v G' H' e (back outs (sl o u) v G' H' (by cases o <;> rfl) r3)
      | exc c d outs => exact fun G' H' dx v e r3 hd dp => q G' H' dx v e ((back outs .no .non G' H' rfl r3.push_no).pop rfl) hd (by rw [hF]; exact dp)
      | bad => exact q.elim
    · exact q.elim
  · exact q.elim
/-- f(e, ..) -/
theorem je_call (Fn : FnOk X.prog X.w X.K X.mg X.base (L2.CX X.prog X.w) k f fd ps (spF X.K W.ca kd g)) (hr : Room k X.A) (hg : Gl X x) (hm : X.mg x = some (.ref f)) (hk : PySem.W.keepIn X.K (.ref f) = true) (hb : Binds X.K fd ps []) (tk : Takes X W.W) (hF : F.K = X.K)
    (ha : JA X F W (e :: es) os) (hdb : (x == ("__debug__" : Str)) = false := by decide) (he : starEach (e :: es) X.env = (false, eval e X.env) :: starEach es X.env := by rfl) (hpl : (backTo pos (starEach es X.env)).any (·.1) = false := by rfl) :
    JE X F W (.Call (.Name x p) (e :: es) [] pos) (callE kd g os) :=
  PE.imp (pe_callS Fn hr hg hm hk hb (fun σ => passAt tk σ) ha hdb he hpl) fun σ H Q ⟨G, st, r, h⟩ => evN_ok r .nil h fun ws as G' H' st' e r' p q => callK_ok r' p hF q
/-! with keywords -/
def callP (kd : List Bool) (g : SF) (pm : List Nat) (os oz : List Opn) : SE := evN (os ++ oz) [] fun as st => callK kd g (pick pm as) st
theorem accs_pick {vs : List V} {as : List Acc} (r : AccAll F G σ vs as) : ∀ (pm : List Nat), AccAll F G σ (pick pm vs) (pick pm as)
  | [] => .nil
  | i :: pm => by
    have t := accs_pick r pm
    unfold pick at t ⊢
    rw [List.filterMap_cons, List.filterMap_cons]
    cases e : as[i]? with
    | none =>
      have : vs[i]? = none := by
        have l := paired_len r
        rw [List.getElem?_eq_none_iff] at e ⊢
        omega
      rw [this]; exact t
    | some v =>
      obtain ⟨u, e2, p⟩ := AccAll.get r e
      rw [e2]
      exact .cons p t


theorem callP_ok {n m : Nat} (r : SR F G H σ st) (hF : F.K = X.K) (hn : os.length = n) (hm : oz.length = m) (h : PostE F W G σ Q (callP kd g pm os oz st)) :
    tCallP n m pm (spF X.K W.ca kd g) (WE W.W) (tAs F W os) (tAs F W oz) σ H Q := by
  unfold callP at h
  rw [evN_app] at h
  refine evN_okL r .nil h fun ws as G' H' st' l e r' p q => ?_
  refine evN_okL r' p q fun zs as2 G2 H2 st2 l2 e2 r2 p2 q2 => ⟨l.trans hn, l2.trans hm, ?_⟩
  exact callK_ok r2 (accs_pick p2 pm) hF q2
theorem je_callP (Fn : FnOk X.prog X.w X.K X.mg X.base (L2.CX X.prog X.w) k f fd ps (spF X.K W.ca kd g)) (hr : Room k X.A) (hg : Gl X x) (hm : X.mg x = some (.ref f)) (hk : PySem.W.keepIn X.K (.ref f) = true) (hb : KBd X.K fd ps n ks pm) (tk : Takes X W.W) (hF : F.K = X.K)
    (ha : JA X F W (e :: es) os) (hkw : JK X F W kws oz) (hn : os.length = n := by rfl) (hz : oz.length = ks.length := by rfl) (hall : (backToKw pos (keywordEach kws X.env)).all (·.1.isSome) = true := by rfl) (hks : (backToKw pos (keywordEach kws X.env)).filterMap (·.1) = ks := by rfl)
    (hdb : (x == ("__debug__" : Str)) = false := by decide) (he : starEach (e :: es) X.env = (false, eval e X.env) :: starEach es X.env := by rfl)
    (hpl : ((backTo pos (starEach (e :: es) X.env)).any (·.1) || (backToKw pos (keywordEach kws X.env)).any (·.1.isNone)) = false := by rfl) :
    JE X F W (.Call (.Name x p) (e :: es) kws pos) (callP kd g pm os oz) :=
  PE.imp (pe_callP Fn hr hg hm hk hb (fun σ => passAt tk σ) ha hkw hall hks hdb he hpl) fun σ H Q ⟨G, st, r, h⟩ => callP_ok r hF hn hz h
theorem je_callP0 (Fn : FnOk X.prog X.w X.K X.mg X.base (L2.CX X.prog X.w) k f fd ps (spF X.K W.ca kd g)) (hr : Room k X.A) (hg : Gl X x) (hm : X.mg x = some (.ref f)) (hk : PySem.W.keepIn X.K (.ref f) = true) (hb : KBd X.K fd ps 0 ks pm) (tk : Takes X W.W) (hF : F.K = X.K)
    (hkw : JK X F W kws oz) (hz : oz.length = ks.length := by rfl) (hall : (backToKw pos (keywordEach kws X.env)).all (·.1.isSome) = true := by rfl) (hks : (backToKw pos (keywordEach kws X.env)).filterMap (·.1) = ks := by rfl)
    (hdb : (x == ("__debug__" : Str)) = false := by decide)
    (hpl : ((backTo pos (starEach [] X.env)).any (·.1) || (backToKw pos (keywordEach kws X.env)).any (·.1.isNone)) = false := by rfl) :
    JE X F W (.Call (.Name x p) [] kws pos) (callP kd g pm [] oz) :=
  PE.imp (pe_callP0 Fn hr hg hm hk hb (fun σ => passAt tk σ) hkw hall hks hdb hpl) fun σ H Q ⟨G, st, r, h⟩ => callP_ok (os := []) r hF rfl hz h
/-- another function that does the same (or more) -/
theorem spF_imp {K : PySem.W.Frag} {ca : Nat → Addr} {ks : List Bool} {g g' : SF} (h : ∀ us, g' us ≠ .bad → g us = g' us) : ∀ vs H Q E, spF K ca ks g' vs H Q E → spF K ca ks g vs H Q E := by
  rintro vs H Q E ⟨G, us, fps, r, l1, l2, p⟩
  refine ⟨G, us, fps, r, l1, l2, ?_⟩
  by_cases z : g' us = .bad
  · rw [z] at p; exact p.elim
  · rw [h us z]; exact p
end
end Pl

namespace Pl
open PySem L2 PySem.Spec PyProof.Rows

def free (st : Sg) (i : Nat) : Bool := match st[i]? with
  | some (.io _) => false
  | some (.bo _) => false
  | some _ => true
  | none => false
def asgR (i : Nat) : RE → RS
  | .ok o u st => if free st i then .nx (st.set i (sl o u)) else .bad
  | .exc c d st => .exc c d st
  | .bad => .bad
def asgS (i : Nat) (f : SE) : SS := fun st => asgR i (f st)
def seqR : RS → SS → RS
  | .nx st, g => g st
  | r, _ => r
def seqS (f g : SS) : SS := fun st => seqR (f st) g
def passS : SS := fun st => .nx st
def brkS : SS := fun st => .bk st
def cntS : SS := fun st => .ct st
def ifR : RT → SS → SS → RS
  | .ok true st, f, _ => f st
  | .ok false st, _, g => g st
  | .exc c d st, _, _ => .exc c d st
  | .bad, _, _ => .bad
def ifS (t : ST) (f g : SS) : SS := fun st => ifR (t st) f g
def retR : RE → RS
  | .ok o u st => .rt o u st
  | .exc c d st => .exc c d st
  | .bad => .bad
def retS (f : SE) : SS := fun st => retR (f st)
def retN : SS := fun st => .rt false (.dat .none) st
def dropR : RE → RS
  | .ok _ _ st => .nx st
  | .exc c d st => .exc c d st
  | .bad => .bad
def dropS (f : SE) : SS := fun st => dropR (f st)

section
variable {X : Cx} {F : Fr} {W : Wx} {G G' H H' : Hp} {σ : St} {st st' : Sg} {Q : VK} {v : V} {u : U} {ds : List D} {vs : List V} {D0 : Ends}
theorem free_lt {i : Nat} (h : free st i = true) : i < st.length := by
  unfold free at h
  split at h
  · cases h
  · cases h
  · rename_i e; exact (List.getElem?_eq_some_iff.mp e).1
  · cases h
theorem sl_io {o : Bool} {u : U} : (sl o u).isIo = false := by cases o <;> rfl
/-- an expression's end made a statement's -/
theorem PostX.nil_len {n : Nat} {c : Nat} {d : D} (h : ∀ σ' : St, σ'.length = n → PostX F W G σ' c d st) (hl : σ.length = n) : PostX F W G σ c d st := h σ hl
theorem js_asg {te : TE} {i : Nat} {f : SE} {s : Stmt} (h : PS X s (tAsg te (gName i))) (k : ∀ σ H Q, tE F W f σ H Q → te σ H Q) : JS X F W s (asgS i f) :=
  PS.imp h fun D σ H ⟨G, st, r, q⟩ => by
    refine k σ H _ ⟨G, st, r, ?_⟩
    unfold asgS at q
    generalize f st = z at q ⊢
    cases z with
    | ok o u st' =>
      intro v G' H' e r'
      unfold asgR at q
      dsimp only at q
      split at q
      · rename_i hf
        exact q _ G' H' (by simp) e (r'.store (free_lt hf) sl_io)
      · exact q.elim
    | exc c d st' => exact q σ rfl
    | bad => exact q
/-- name = e -/
theorem js_set {i : Nat} {x : Str} {e : Expr} {f : SE} {pos pos' : Pos} (hN : X.N.Nodup) (hi : X.N[i]? = some x) (hx : Loc X.env.scope x) (he : JE X F W e f) (hs : swapsWith e (some (.Name x pos')) pos.line X.env = pure false := by rfl) (hf : X.fn x = true ∨ X.env.scope.names.lookup x = some .local := by first | exact .inl rfl | exact .inr rfl | assumption) :
    JS X F W (.Assign [.Name x pos'] e pos) (asgS i f) := js_asg (ps_set hN hi hx he hs hf) fun _ _ _ h => h
theorem jb_nil : JB X F W [] passS := PSs.imp pss_nil fun D σ H ⟨G, st, r, q⟩ => q σ G H rfl (Ex.refl G) r
theorem jb_one {s : Stmt} {f : SS} (h : JS X F W s f) : JB X F W [s] f := pss_one h
theorem jb_cons {s : Stmt} {ss : List Stmt} {f g : SS} (h : JS X F W s f) (t : JB X F W ss g) : JB X F W (s :: ss) (seqS f g) :=
  PSs.imp (pss_cons h t) fun D σ H ⟨G, st, r, q⟩ => by
    refine ⟨G, st, r, ?_⟩
    unfold seqS at q
    generalize f st = z at q ⊢
    cases z with
    | nx st' => exact fun σ' G' H' l e r' => ⟨G', st', r', by rw [l]; exact q.mono e⟩
    | rt o u st' => exact q
    | bk st' => exact q
    | ct st' => exact q
    | exc c d st' => exact q
    | bad => exact q
theorem js_pass {pos} : JS X F W (.Pass pos) passS := PS.imp ps_pass fun D σ H ⟨G, st, r, q⟩ => q σ G H rfl (Ex.refl G) r
theorem js_brk {pos} : JS X F W (.Break pos) brkS := PS.imp ps_break fun D σ H ⟨G, st, r, q⟩ => q σ G H rfl (Ex.refl G) r
theorem js_cnt {pos} : JS X F W (.Continue pos) cntS := PS.imp ps_continue fun D σ H ⟨G, st, r, q⟩ => q σ G H rfl (Ex.refl G) r
theorem js_if {c : Expr} {a b : List Stmt} {t : ST} {f g : SS} {pos : Pos} (hc : JT X F W c t) (ha : JB X F W a f) (hb : JB X F W b g) : JS X F W (.If c a b pos) (ifS t f g) :=
  PS.imp (ps_if hc ha hb) fun D σ H ⟨G, st, r, q⟩ => by
    refine ⟨G, st, r, ?_⟩
    unfold ifS at q
    generalize t st = z at q ⊢
    cases z with
    | ok b st' =>
      intro G' H' e r'
      cases b with
      | true => rw [if_pos rfl]; exact ⟨G', st', r', q.mono e⟩
      | false => rw [if_neg Bool.false_ne_true]; exact ⟨G', st', r', q.mono e⟩
    | exc c d st' => exact q σ rfl
    | bad => exact q
theorem js_ret {e : Expr} {f : SE} {pos : Pos} (h : JE X F W e f) : JS X F W (.Return (some e) pos) (retS f) :=
  PS.imp (ps_ret h) fun D σ H ⟨G, st, r, q⟩ => by
    refine ⟨G, st, r, ?_⟩
    unfold retS at q
    generalize f st = z at q ⊢
    cases z with
    | ok o u st' => exact fun v G' H' e r' => q v σ G' H' rfl e r'
    | exc c d st' => exact q σ rfl
    | bad => exact q
theorem js_retN {pos : Pos} : JS X F W (.Return none pos) retN :=
  PS.imp ps_retN fun D σ H ⟨G, st, r, q⟩ => q .non σ G H rfl (Ex.refl G) (r.push_ps (u := .dat .none) .non)
theorem js_drop {e : Expr} {f : SE} {pos : Pos} (h : JE X F W e f) (hs : swapsWith e none pos.line X.env = pure false := by rfl) : JS X F W (.Expr e pos) (dropS f) :=
  PS.imp (ps_expr h hs) fun D σ H ⟨G, st, r, q⟩ => by
    refine ⟨G, st, r, ?_⟩
    unfold dropS at q
    generalize f st = z at q ⊢
    cases z with
    | ok o u st' => exact fun v G' H' e r' => q σ G' H' rfl e (r'.pop sl_io)
    | exc c d st' => exact q σ rfl
    | bad => exact q

/-! targets -/
structure Tg where
  set : D → Sg → Option Sg
  sls : List Nat
def tG (F : Fr) (t : Tg) : TG := fun v σ H Q => ∃ G st d st', SR F G H σ st ∧ Dp F.K G v d ∧ t.set d st = some st' ∧
  ∀ σ', σ'.length = σ.length → (∀ j, j ∉ t.sls → σ'[j]? = σ[j]?) → SR F G H σ' st' → Q σ' H
abbrev JG (X : Cx) (F : Fr) (tg : Expr) (t : Tg) : Prop := PG X tg (tG F t)
theorem PG.imp {tg : Expr} {t t' : TG} (h : PG X tg t) (k : ∀ v σ H Q, t' v σ H Q → t v σ H Q) : PG X tg t' := ⟨fun pins s σ H v u Q I r q => h.run pins s σ H v u Q I r (k v σ H Q q)⟩
def nameT (i : Nat) : Tg := ⟨fun d st => if free st i then some (st.set i (.ps (.dat d))) else none, [i]⟩
theorem jg_name {i : Nat} {x : Str} {pos : Pos} (hN : X.N.Nodup) (hi : X.N[i]? = some x) (hx : Loc X.env.scope x) (hf : X.fn x = true ∨ X.env.scope.names.lookup x = some .local := by first | exact .inl rfl | exact .inr rfl | assumption) : JG X F (.Name x pos) (nameT i) :=
  PG.imp (pg_name hN hi hx hf) fun v σ H Q ⟨G, st, d, st', r, p, e, k⟩ => by
    unfold nameT at e
    dsimp only at e
    split at e
    · rename_i hf
      cases e
      exact k _ (by simp) (fun j hj => by rw [List.getElem?_set_ne (by intro z; exact hj (by subst z; exact List.mem_cons_self))]) ((r.push_ps (u := .dat d) p).store (free_lt hf) rfl)
    · cases e
def setAll : List Tg → List D → Sg → Option Sg
  | [], [], st => some st
  | t :: ts, d :: ds, st => (t.set d st).bind fun st' => setAll ts ds st'
  | _, _, _ => none
def tupT (ts : List Tg) : Tg := ⟨fun d st => match d with
  | .tuple ds => setAll ts ds st
  | .dict [(d, e)] => setAll ts [d, e] st
  | _ => none, (ts.map (·.sls)).flatten⟩
def tGs (F : Fr) (ts : List Tg) : TGs := fun vs σ H Q => ∃ G st ds st', SR F G H σ st ∧ DpAll F.K G vs ds ∧ setAll ts ds st = some st' ∧
  ∀ σ', σ'.length = σ.length → (∀ j, j ∉ (ts.map (·.sls)).flatten → σ'[j]? = σ[j]?) → SR F G H σ' st' → Q σ' H
abbrev JGs (X : Cx) (F : Fr) (es : List Expr) (ts : List Tg) : Prop := PGs X es (tGs F ts)
theorem PGs.imp {es : List Expr} {t t' : TGs} (h : PGs X es t) (k : ∀ v σ H Q, t' v σ H Q → t v σ H Q) : PGs X es t' := ⟨fun pins s σ H v u Q I r q => h.run pins s σ H v u Q I r (k v σ H Q q)⟩
theorem jgs_nil : JGs X F [] [] := PGs.imp pgs_nil fun vs σ H Q ⟨G, st, ds, st', r, p, e, k⟩ => by
  cases ds with
  | nil =>
    cases p
    cases e
    exact ⟨rfl, k σ rfl (fun _ _ => rfl) r⟩
  | cons _ _ => cases e
theorem jgs_cons {e : Expr} {es : List Expr} {t : Tg} {ts : List Tg} (h1 : JG X F e t) (h2 : JGs X F es ts) (hs : (assignEach (e :: es) X.env).map (·.2) = assign e X.env :: (assignEach es X.env).map (·.2) := by rfl) : JGs X F (e :: es) (t :: ts) :=
  PGs.imp (pgs_cons h1 h2 hs) fun vs σ H Q ⟨G, st, ds, st', r, p, e, k⟩ => by
    cases ds with
    | nil => cases e
    | cons d ds =>
      cases p with
      | cons p1 p2 =>
        obtain ⟨st1, e1, e2⟩ := Option.bind_eq_some_iff.mp (show (t.set d st).bind (fun st' => setAll ts ds st') = some st' from e)
        refine ⟨_, _, rfl, G, st, d, st1, r, p1, e1, fun σ1 l1 k1 r1 => ⟨G, st1, ds, st', r1, p2, e2, fun σ2 l2 k2 r2 => ?_⟩⟩
        refine k σ2 (l2.trans l1) (fun j hj => ?_) r2
        simp only [List.map_cons, List.flatten_cons, List.mem_append, not_or] at hj
        rw [k2 j hj.2, k1 j hj.1]
theorem jg_tup {es : List Expr} {ts : List Tg} {k : Nat} {pos : Pos} (hF : F.K = X.K) (hc : X.calm = true) (h : JGs X F es ts) (hl : ts.length = es.length := by rfl) (hn : (assignEach es X.env).length = es.length := by rfl) (hst : (assignEach es X.env).findIdx? (·.1) = none := by rfl) : JG X F (.Tuple es k pos) (tupT ts) :=
  PG.imp (pg_tup (n := es.length) hc h hn hst) fun v σ H Q ⟨G, st, d, st', r, p, e, k⟩ => by
    unfold tupT at e
    dsimp only at e
    have core : ∀ {a : Addr} {xs : List V} {ds : List D}, SqT F.K G a xs → DpAll F.K G xs ds → setAll ts ds st = some st' → v = .ref a → ∃ (a : Addr) (xs : List V), v = .ref a ∧ SqT X.K H a xs ∧ xs.length = es.length ∧ tGs F ts xs σ H Q := by
      intro a xs ds hs ha e ev
      · have hlen : ∀ {ts : List Tg} {ds : List PyData} {st st' : Sg}, setAll ts ds st = some st' → ts.length = ds.length := by
          intro ts
          induction ts with
          | nil => intro ds st st' e; cases ds with
            | nil => rfl
            | cons _ _ => cases e
          | cons t ts ih => intro ds st st' e; cases ds with
            | nil => cases e
            | cons d ds =>
              obtain ⟨st1, e1, e2⟩ := Option.bind_eq_some_iff.mp (show (t.set d st).bind (fun st' => setAll ts ds st') = some st' from e)
              simp [ih e2]
        refine ⟨_, _, ev, hF ▸ ex_t r.ex hs, ?_, G, st, ds, st', r, ha, e, k⟩
        have := Dps.length ha
        have := hlen e
        omega
    split at e
    · cases p with
      | tup hs ha => exact core hs.t ha e rfl
    · cases p with
      | pair hs h1 h2 => exact core hs (.cons h1 (.cons h2 .nil)) e rfl
    · cases e
/-- a, b = e -/
def unpS (t : Tg) (f : SE) : SS := fun st => match f st with
  | .ok o (.dat d) st' => if o then .bad else match t.set d st' with
    | some st2 => .nx st2
    | none => .bad
  | .ok _ _ _ => .bad
  | .exc c d st' => .exc c d st'
  | .bad => .bad
theorem js_unp {tg e : Expr} {f : SE} {t : Tg} {pos : Pos} (he : JE X F W e f) (hg : JG X F tg t) (hs : swapsWithSole [tg] e pos.line X.env = pure false := by rfl) (hw : swappedStores [tg] e X.env = pure none := by rfl)
    (h1 : (assignEach [tg] X.env).map (·.2) = [assign tg X.env] := by rfl) : JS X F W (.Assign [tg] e pos) (unpS t f) :=
  PS.imp (ps_asg he hg hs hw h1) fun D σ H ⟨G, st, r, q⟩ => by
    refine ⟨G, st, r, ?_⟩
    unfold unpS at q
    generalize f st = z at q ⊢
    cases z with
    | ok o u st' =>
      cases u with
      | dat d =>
        dsimp only at q
        cases o with
        | true => exact q.elim
        | false =>
          simp only [Bool.false_eq_true, if_false] at q
          split at q
          · rename_i st2 e2
            intro v G' H' e r'
            exact ⟨G', st', d, st2, r'.pop rfl, r'.last_ps, e2, fun σ' l _ r2 => q σ' G' H' l e r2⟩
          · exact q.elim
      | _ => exact q.elim
    | exc c d st' => exact q σ rfl
    | bad => exact q

/-! a, b = e1, e2 both written, each kept in its own way -/
def par2S (i j : Nat) (f g : SE) : SS := fun st => match f st with
  | .ok o1 u1 st1 => match g st1 with
    | .ok o2 u2 st2 => if free st2 i && free st2 j && i != j then .nx ((st2.set j (sl o2 u2)).set i (sl o1 u1)) else .bad
    | .exc c d st2 => .exc c d st2
    | .bad => .bad
  | .exc c d st1 => .exc c d st1
  | .bad => .bad
def par3S (i j l : Nat) (f g h : SE) : SS := fun st => match f st with
  | .ok o1 u1 st1 => match g st1 with
    | .ok o2 u2 st2 => match h st2 with
      | .ok o3 u3 st3 => if free st3 i && free st3 j && free st3 l && i != j && i != l && j != l then .nx (((st3.set l (sl o3 u3)).set j (sl o2 u2)).set i (sl o1 u1)) else .bad
      | .exc c d st3 => .exc c d st3
      | .bad => .bad
    | .exc c d st2 => .exc c d st2
    | .bad => .bad
  | .exc c d st1 => .exc c d st1
  | .bad => .bad
abbrev Fr.and (F : Fr) (v : V) (s : Sl) : Fr := { F with T := some v :: F.T, ts := s :: F.ts }
theorem PostX.unhold {c : Nat} {d : D} {s : Sl} (hs : s.isIo = false) (h : PostX F W G σ c d st) : PostX (F.and v s) W G σ c d st := fun G' H' dx w e r hd p => h G' H' dx w e (r.unhold.pop hs) hd p
theorem free_set {i j : Nat} {s : Sl} (h : free st i = true) (hs : s.isIo = false) : free (st.set j s) i = true := by
  have hi := free_lt h
  unfold free at h ⊢
  by_cases e : j = i
  · subst e
    rw [List.getElem?_set_self hi]
    cases s <;> first | rfl | cases hs
  · rw [List.getElem?_set_ne e]; exact h
def tEx (F : Fr) (W : Wx) (g : SE) : TE := fun σ H Q => ∃ F' : Fr, F'.K = F.K ∧ tE F' W g σ H Q
theorem je_ex {b : Expr} {g : SE} (hb : ∀ F' : Fr, F'.K = F.K → JE X F' W b g) : PE X b (tEx F W g) := ⟨fun pins s σ H Q I ⟨F', e, h⟩ => (hb F' e).run pins s σ H Q I h⟩
theorem js_par2 {i j : Nat} {a b : Expr} {f g : SE} {s : Stmt} (h : ∀ ta, PA X [a, b] ta → PS X s (tPar i j ta)) (ha : PA X [a, b] (tCons (tE F W f) (tCons (tEx F W g) tNil))) : JS X F W s (par2S i j f g) :=
  PS.imp (h _ ha) fun D σ H ⟨G, st, r, q⟩ => by
    refine ⟨G, st, r, ?_⟩
    unfold par2S at q
    generalize f st = z at q ⊢
    cases z with
    | ok o1 u1 st1 =>
      intro v G1 H1 e1 r1
      refine ⟨F.and v (sl o1 u1), rfl, G1, st1, r1.hold sl_io, ?_⟩
      dsimp only at q
      generalize g st1 = z2 at q ⊢
      cases z2 with
      | ok o2 u2 st2 =>
        intro w G2 H2 e2 r2
        dsimp only at q
        split at q
        · rename_i hc
          simp only [Bool.and_eq_true, bne_iff_ne, ne_eq] at hc
          obtain ⟨⟨c1, c2⟩, c3⟩ := hc
          refine ⟨v, w, rfl, ?_⟩
          have r3 := (r2.store (free_lt c2) sl_io).unhold.store (i := i) (by have := free_lt c1; simpa using this) sl_io
          rw [List.set_comm _ _ (Ne.symm c3)] at r3
          exact q _ G2 H2 (by simp) (e1.trans e2) r3
        · exact q.elim
      | exc c d st2 => exact PostX.unhold sl_io ((q σ rfl).mono e1)
      | bad => exact q.elim
    | exc c d st' => exact q σ rfl
    | bad => exact q
theorem js_par3 {i j l : Nat} {a b c : Expr} {f g k : SE} {s : Stmt} (h : ∀ ta, PA X [a, b, c] ta → PS X s (tPar3 i j l ta)) (ha : PA X [a, b, c] (tCons (tE F W f) (tCons (tEx F W g) (tCons (tEx F W k) tNil)))) : JS X F W s (par3S i j l f g k) :=
  PS.imp (h _ ha) fun D σ H ⟨G, st, r, q⟩ => by
    refine ⟨G, st, r, ?_⟩
    unfold par3S at q
    generalize f st = z at q ⊢
    cases z with
    | ok o1 u1 st1 =>
      intro v G1 H1 e1 r1
      refine ⟨F.and v (sl o1 u1), rfl, G1, st1, r1.hold sl_io, ?_⟩
      dsimp only at q
      generalize g st1 = z2 at q ⊢
      cases z2 with
      | ok o2 u2 st2 =>
        intro w G2 H2 e2 r2
        refine ⟨(F.and v (sl o1 u1)).and w (sl o2 u2), rfl, G2, st2, r2.hold sl_io, ?_⟩
        dsimp only at q
        generalize k st2 = z3 at q ⊢
        cases z3 with
        | ok o3 u3 st3 =>
          intro x G3 H3 e3 r3
          dsimp only at q
          split at q
          · rename_i hc
            simp only [Bool.and_eq_true, bne_iff_ne, ne_eq] at hc
            obtain ⟨⟨⟨⟨⟨c1, c2⟩, c3⟩, c4⟩, c5⟩, c6⟩ := hc
            refine ⟨v, w, x, rfl, ?_⟩
            have r4 := (r3.store (free_lt c3) sl_io).unhold.store (i := j) (by have := free_lt c2; simpa using this) sl_io
            have r5 := SR.store (i := i) r4.unhold (by have := free_lt c1; simpa using this) sl_io
            have e5 : (((σ.set l (some x)).set j (some w)).set i (some v)) = (((σ.set i (some v)).set j (some w)).set l (some x)) := by
              rw [List.set_comm _ _ (Ne.symm c6), List.set_comm (some x) (some v) (Ne.symm c5), List.set_comm (some w) (some v) (Ne.symm c4)]
            rw [e5] at r5
            exact q _ G3 H3 (by simp) ((e1.trans e2).trans e3) r5
          · exact q.elim
        | exc c d st3 => exact PostX.unhold sl_io (PostX.unhold sl_io ((q σ rfl).mono (e1.trans e2)))
        | bad => exact q.elim
      | exc c d st2 => exact PostX.unhold sl_io ((q σ rfl).mono e1)
      | bad => exact q.elim
    | exc c d st' => exact q σ rfl
    | bad => exact q
end
end Pl

namespace Pl
open PySem L2 PySem.Spec PyProof.Rows

/-- what is walked: the items -/
inductive RI where
  | ok (items : List D) (st : Sg)
  | exc (c : Nat) (d : D) (st : Sg)
  | bad
abbrev SI := Sg → RI
/-- an iterator that yields these items, whatever else is made -/
structure Drives (K : PySem.W.Frag) (G : Hp) (J : It) (items : List D) : Prop where
  go : ∀ i G' H', i < items.length → Ex G G' → Ex G' H' → J.go i H'
  yld : ∀ i d G' H' x H2, items[i]? = some d → Ex G G' → Ex G' H' → J.yld i H' x H2 → (H2 = H' ∧ Dp K G' x d) ∨ (∃ p o, H' p = none ∧ H2 = upd H' p o ∧ Dp K (upd G' p o) x d)
  stop : ∀ i G' H', items.length ≤ i → Ex G G' → Ex G' H' → J.stop i H'
theorem Drives.mono {K : PySem.W.Frag} {G G' : Hp} {J : It} {items : List D} (h : Drives K G J items) (e : Ex G G') : Drives K G' J items :=
  ⟨fun i G2 H2 hi e2 e3 => h.go i G2 H2 hi (e.trans e2) e3, fun i d G2 H2 x H3 hd e2 e3 y => h.yld i d G2 H2 x H3 hd (e.trans e2) e3 y, fun i G2 H2 hi e2 e3 => h.stop i G2 H2 hi (e.trans e2) e3⟩

section
variable (F : Fr) (W : Wx)
def PostI (G : Hp) (σ : St) (R : It → Hp → Prop) : RI → Prop
  | .ok items st => ∀ G' H' J, Ex G G' → SR F G' H' σ st → Drives F.K G' J items → R J H'
  | .exc c d st => PostX F W G σ c d st
  | .bad => False
def tI (f : SI) : TI := fun σ H R => ∃ G st, SR F G H σ st ∧ PostI F W G σ R (f st)
end
abbrev JI (X : Cx) (F : Fr) (W : Wx) (tg e : Expr) (f : SI) : Prop := PI X tg e (tI F W f)
theorem PI.imp {X : Cx} {tg e : Expr} {t t' : TI} (h : PI X tg e t) (k : ∀ σ H Q, t' σ H Q → t σ H Q) : PI X tg e t' := ⟨fun pins s σ H Q I q => h.run pins s σ H Q I (k σ H Q q)⟩

section
variable {X : Cx} {F : Fr} {W : Wx} {G G' H H' : Hp} {σ : St} {st st' : Sg} {Q : VK} {v : V} {u : U} {ds : List D} {vs : List V} {D0 : Ends}
/-- a list or a tuple -/
def iSeq (K : PySem.W.Frag) (tl : TE) : TI := fun σ H R => tl σ H fun x H1 => ∃ a, x = .ref a ∧ (((∃ xs, SqL K H1 a xs) ∧ R (Itl K a) H1) ∨ ((∃ xs, SqT K H1 a xs) ∧ R (Itt K a) H1))
theorem pi_seq {tg l : Expr} {tl : TE} (hl : PE X l tl) : PI X tg l (iSeq X.K tl) := by
  refine ⟨fun pins s σ H R I h => ?_⟩
  refine thn (hl.run pins s σ H _ I h) fun v s1 ⟨x, H1, I1, r1, q1⟩ => ?_
  obtain ⟨a, e, q⟩ := q1
  subst e
  cases r1
  rcases q with ⟨⟨xs, hq⟩, q⟩ | ⟨⟨xs, hq⟩, q⟩
  · obtain ⟨its, rv, p, hz⟩ := I1.list hq
    refine wpAny_pyIter_list p.isList ?_
    refine ⟨s1.heap.objs.size, [s1.heap.objs.size], _, _, H1, rfl, I1.kept (t' := s1.toks) fun b o e => Heap.get?_push_of_some _ e, turn_list a _, ⟨_, Heap.get?_push_size _ rfl, rfl, rfl⟩, fun b hb => ?_, q⟩
    have e : b = s1.heap.objs.size := by simpa using hb
    subst e
    exact I1.fpOk (Nat.le_refl _) (I1.hok.fresh (Nat.le_refl _))
  · obtain ⟨its, rv, p, hz⟩ := I1.tuple hq
    refine wpAny_pyIter_tuple (show s1.heap.IsTuple a its.toArray from p) ?_
    refine ⟨s1.heap.objs.size, [s1.heap.objs.size], _, _, H1, rfl, I1.kept (t' := s1.toks) fun b o e => Heap.get?_push_of_some _ e, turn_tuple a _, ⟨_, Heap.get?_push_size _ rfl, rfl, rfl⟩, fun b hb => ?_, q⟩
    have e : b = s1.heap.objs.size := by simpa using hb
    subst e
    exact I1.fpOk (Nat.le_refl _) (I1.hok.fresh (Nat.le_refl _))
theorem drives_lst {K : PySem.W.Frag} {a : Addr} (h : SqL K G a vs) (p : DpAll K G vs ds) : Drives K G (Itl K a) ds :=
  ⟨fun i G' H' hi e e2 => by
      have hl := Dps.length p
      exact ⟨vs, vs[i], ex_l (e.trans e2) h, by simp [hl, hi]⟩,
    fun i d G' H' x H2 hd e e2 y => by
      obtain ⟨y1, y2⟩ := y
      obtain ⟨w, e3, q⟩ := Dps.get p hd
      rw [y2 vs (ex_l (e.trans e2) h)] at e3
      cases e3
      exact .inl ⟨y1, dp_mono e _ q⟩,
    fun i G' H' hi e e2 => ⟨vs, ex_l (e.trans e2) h, by rw [Dps.length p]; exact hi⟩⟩
theorem drives_tup {K : PySem.W.Frag} {a : Addr} (h : SqT K G a vs) (p : DpAll K G vs ds) : Drives K G (Itt K a) ds :=
  ⟨fun i G' H' hi e e2 => by
      have hl := Dps.length p
      exact ⟨vs, vs[i], ex_t (e.trans e2) h, by simp [hl, hi]⟩,
    fun i d G' H' x H2 hd e e2 y => by
      obtain ⟨y1, y2⟩ := y
      obtain ⟨w, e3, q⟩ := Dps.get p hd
      rw [y2 vs (ex_t (e.trans e2) h)] at e3
      cases e3
      exact .inl ⟨y1, dp_mono e _ q⟩,
    fun i G' H' hi e e2 => ⟨vs, ex_t (e.trans e2) h, by rw [Dps.length p]; exact hi⟩⟩
theorem drives_range {K : PySem.W.Frag} (lo : Int) (n : Nat) : Drives K G (Itr lo n) ((List.range n).map fun i => .int (lo + (i : Nat))) :=
  ⟨fun i G' H' hi _ _ => by show i < n; simpa using hi,
    fun i d G' H' x H2 hd _ _ y => by
      obtain ⟨y1, y2⟩ := y
      rw [List.getElem?_map] at hd
      obtain ⟨j, e1, e2⟩ := Option.map_eq_some_iff.mp hd
      have e3 : j = i := by
        obtain ⟨h1, h2⟩ := List.getElem?_eq_some_iff.mp e1
        simpa using h2.symm
      subst e3 e2
      rw [y2]
      exact .inl ⟨y1, .int _⟩,
    fun i G' H' hi _ _ => by show n ≤ i; simpa using hi⟩
/-- the items of a value that stays -/
def itemsU : U → Option (List D)
  | .dat (.list ds) => some ds
  | .dat (.tuple ds) => some ds
  | _ => none
def seqI (f : SE) : SI := fun st => match f st with
  | .ok o u st' => if o && !frzU u then .bad else match itemsU u with
    | some ds => .ok ds st'
    | none => .bad
  | .exc c d st' => .exc c d st'
  | .bad => .bad
theorem ji_seq {tg l : Expr} {f : SE} (hF : F.K = X.K) (h : JE X F W l f) : JI X F W tg l (seqI f) :=
  PI.imp (pi_seq h) fun σ H R ⟨G, st, r, q⟩ => by
    refine ⟨G, st, r, ?_⟩
    unfold seqI at q
    generalize f st = z at q ⊢
    have key : ∀ (u : U) (st' : Sg) (ds : List D) (v : V) (G' H' : Hp), itemsU u = some ds → PostI F W G σ R (.ok ds st') → Ex G G' → SR F G' H' σ st' → PsU F.K G' v u →
        ∃ a, v = .ref a ∧ (((∃ xs, SqL X.K H' a xs) ∧ R (Itl X.K a) H') ∨ ((∃ xs, SqT X.K H' a xs) ∧ R (Itt X.K a) H')) := by
      intro u st' ds v G' H' hu q e r' p
      rw [← hF]
      unfold itemsU at hu
      split at hu
      · cases hu
        cases p with
        | lst hs ha => exact ⟨_, rfl, .inl ⟨⟨_, ex_l r'.ex hs⟩, q G' H' _ e r' (drives_lst hs ha)⟩⟩
      · cases hu
        cases p with
        | tup hs ha => exact ⟨_, rfl, .inr ⟨⟨_, (ex_n r'.ex hs).t⟩, q G' H' _ e r' (drives_tup hs.t ha)⟩⟩
      · cases hu
    cases z with
    | ok o u st' =>
      intro v G' H' e r'
      dsimp only at q
      split at q
      · exact q.elim
      · rename_i hc
        split at q
        · rename_i ds hu
          cases o with
          | false => exact key u st' ds v G' H' hu q e (r'.pop rfl) r'.last_ps
          | true =>
            obtain ⟨G2, x, r2, p⟩ := r'.frz_last (by simpa using hc)
            exact key u st' ds v G2 H' hu q (e.trans x) r2 p
        · exact q.elim
    | exc c d st' => exact q
    | bad => exact q
/-! operands, their values told -/
inductive RA where
  | ok (as : List Acc) (st : Sg)
  | exc (c : Nat) (d : D) (st : Sg)
  | bad
def evA : List Opn → List Acc → Sg → RA
  | [], acc, st => .ok acc st
  | .rd i :: os, acc, st => match (st[i]?).bind Sl.val with
    | some _ => evA os (acc ++ [.inl i]) st
    | none => .bad
  | .ev f :: os, acc, st => match f st with
    | .ok o u st' => if o && !frzU u then .bad else evA os (acc ++ [.inr u]) st'
    | .exc c d st' => .exc c d st'
    | .bad => .bad
def PostA (F : Fr) (W : Wx) (G : Hp) (σ : St) (vs : List V) (n : Nat) (R : List V → Hp → Prop) : RA → Prop
  | .ok as st => ∀ ws G' H', ws.length = n → Ex G G' → SR F G' H' σ st → AccAll F G' σ (vs ++ ws) as → R ws H'
  | .exc c d st => PostX F W G σ c d st
  | .bad => False
theorem evA_ok : ∀ {os : List Opn} {acc : List Acc} {R : List V → Hp → Prop} {vs : List V} {G H : Hp} {st : Sg}, SR F G H σ st → AccAll F G σ vs acc → PostA F W G σ vs os.length R (evA os acc st) → tAs F W os σ H R
  | [], acc, R, vs, G, H, st, r, ha, h => h [] G H rfl (Ex.refl G) r (by rw [List.append_nil]; exact ha)
  | .rd i :: os, acc, R, vs, G, H, st, r, ha, h => by
    show tVar i σ H fun v H1 => tAs F W os σ H1 fun ws H2 => R (v :: ws) H2
    unfold evA at h
    split at h
    · rename_i u e
      obtain ⟨s, e1, e2⟩ := Option.bind_eq_some_iff.mp e
      obtain ⟨v, e3, q⟩ := r.rd e1 e2
      refine ⟨v, slv_some e3, evA_ok r (paired_app ha (.cons (b := Sum.inl i) e3 .nil)) ?_⟩
      generalize evA os (acc ++ [.inl i]) st = z at h ⊢
      cases z with
      | ok as st2 => exact fun ws G' H' l e r' p => h (v :: ws) G' H' (by simp [l]) e r' (by rw [List.append_assoc] at p; exact p)
      | exc c d st2 => exact h
      | bad => exact h
    · exact h.elim
  | .ev f :: os, acc, R, vs, G, H, st, r, ha, h => by
    show tE F W f σ H fun v H1 => tAs F W os σ H1 fun ws H2 => R (v :: ws) H2
    refine ⟨G, st, r, ?_⟩
    unfold evA at h
    generalize f st = z at h ⊢
    have key : ∀ (u : U) (st' : Sg) (v : V) (G' H' : Hp), PostA F W G σ vs (os.length + 1) R (evA os (acc ++ [.inr u]) st') → Ex G G' → SR F G' H' σ st' → PsU F.K G' v u → tAs F W os σ H' fun ws H2 => R (v :: ws) H2 := by
      intro u st' v G' H' h e r' p
      refine evA_ok r' (paired_app (ha.mono e) (.cons (b := Sum.inr u) p .nil)) ?_
      generalize evA os (acc ++ [.inr u]) st' = z at h ⊢
      cases z with
      | ok as st2 => exact fun ws G2 H2 l e2 r2 p2 => h (v :: ws) G2 H2 (by simp [l]) (e.trans e2) r2 (by rw [List.append_assoc] at p2; exact p2)
      | exc c d st2 => exact PostX.mono e h
      | bad => exact h
    cases z with
    | ok o u st' =>
      intro v G' H' e r'
      dsimp only at h
      split at h
      · exact h.elim
      · rename_i hc
        cases o with
        | false => exact key u st' v G' H' h e (r'.pop rfl) r'.last_ps
        | true =>
          obtain ⟨G2, x, r2, p⟩ := r'.frz_last (by simpa using hc)
          exact key u st' v G2 H' h (e.trans x) r2 p
    | exc c d st' => exact h
    | bad => exact h
def fetchAll (st : Sg) : List Acc → Option (List U)
  | [] => some []
  | a :: as => (fetch st a).bind fun u => (fetchAll st as).map (u :: ·)
abbrev RdAll (K : PySem.W.Frag) (G H : Hp) : List V → List U → Prop := Paired fun v u => RdU K G H v u
theorem rdAll_of (r : SR F G H σ st) : ∀ {vs : List V} {as : List Acc} {us : List U}, AccAll F G σ vs as → fetchAll st as = some us → RdAll F.K G H vs us
  | _, _, _, .nil, h => by cases h; exact .nil
  | _, _, _, .cons p t, h => by
    obtain ⟨u, e1, e2⟩ := Option.bind_eq_some_iff.mp (show (fetch st _).bind (fun u => (fetchAll st _).map (u :: ·)) = some _ from h)
    obtain ⟨us, e3, e4⟩ := Option.map_eq_some_iff.mp e2
    subst e4
    exact .cons (p.rd r e1) (rdAll_of r t e3)

/-! range(..) -/
def rngItems (lo : Int) (n : Nat) : List D := (List.range n).map fun i => .int (lo + (i : Nat))
def small (i : Int) : Bool := decide (-(2 ^ 62) ≤ i ∧ i < 2 ^ 62)
def rngU : List U → Option (List D)
  | [.dat (.int i)] => if small i then some (rngItems 0 i.toNat) else none
  | [.dat (.int i), .dat (.int j)] => if small i && small j then some (rngItems i (j - i).toNat) else none
  | _ => none
def rngI (os : List Opn) : SI := fun st => match evA os [] st with
  | .ok as st' => match (fetchAll st' as).bind rngU with
    | some ds => .ok ds st'
    | none => .bad
  | .exc c d st' => .exc c d st'
  | .bad => .bad
theorem ji_rng1 {tg a : Expr} {oa : Opn} {p pos : Pos} (hg : Gl X "range") (hm : X.mg "range" = none) (ha : JA X F W [a] [oa]) (hs : starEach [a] X.env = [(false, eval a X.env)] := by rfl) : JI X F W tg (.Call (.Name "range" p) [a] [] pos) (rngI [oa]) :=
  PI.imp (pi_range1 hg hm ha hs) fun σ H R ⟨G, st, r, q⟩ => by
    refine evA_ok r .nil ?_
    unfold rngI at q
    generalize evA [oa] [] st = z at q ⊢
    cases z with
    | ok as st' =>
      intro ws G' H' l e r' p
      dsimp only at q
      split at q
      · rename_i ds e1
        obtain ⟨us, e2, e3⟩ := Option.bind_eq_some_iff.mp e1
        have p' := rdAll_of r' p e2
        rw [List.nil_append] at p'
        cases p' with
        | nil => cases l
        | cons p1 p2 =>
          cases p2 with
          | cons _ _ => simp at l
          | nil =>
            unfold rngU at e3
            split at e3
            · rename_i i e4
              split at e3
              · rename_i hc
                cases e3
                cases e4
                have hc' := of_decide_eq_true hc
                exact ⟨i, by rw [p1.int], hc'.1, hc'.2, q G' H' _ e r' (drives_range 0 i.toNat)⟩
              · cases e3
            · rename_i e4; cases e4
            · cases e3
      · exact q.elim
    | exc c d st' => exact q
    | bad => exact q
theorem ji_rng2 {tg a b : Expr} {oa ob : Opn} {p pos : Pos} (hg : Gl X "range") (hm : X.mg "range" = none) (ha : JA X F W [a, b] [oa, ob]) (hs : starEach [a, b] X.env = [(false, eval a X.env), (false, eval b X.env)] := by rfl) (hs2 : starEach [b] X.env = [(false, eval b X.env)] := by rfl) : JI X F W tg (.Call (.Name "range" p) [a, b] [] pos) (rngI [oa, ob]) :=
  PI.imp (pi_range2 hg hm ha hs hs2) fun σ H R ⟨G, st, r, q⟩ => by
    refine evA_ok r .nil ?_
    unfold rngI at q
    generalize evA [oa, ob] [] st = z at q ⊢
    cases z with
    | ok as st' =>
      intro ws G' H' l e r' p
      dsimp only at q
      split at q
      · rename_i ds e1
        obtain ⟨us, e2, e3⟩ := Option.bind_eq_some_iff.mp e1
        have p' := rdAll_of r' p e2
        rw [List.nil_append] at p'
        unfold rngU at e3
        split at e3
        · cases p' with
          | cons p1 p2 => cases p2; simp at l
        · split at e3
          · rename_i i j hc
            cases e3
            cases p' with
            | cons p1 p2 =>
              cases p2 with
              | cons p2 p3 =>
                cases p3
                have hc' := Bool.and_eq_true_iff.mp hc
                have h1 := of_decide_eq_true hc'.1
                have h2 := of_decide_eq_true hc'.2
                exact ⟨i, j, by rw [p1.int, p2.int], ⟨h1.1, h1.2, h2.1, h2.2⟩, q G' H' _ e r' (drives_range i (j - i).toNat)⟩
          · cases e3
        · cases e3
      · exact q.elim
    | exc c d st' => exact q
    | bad => exact q

/-! for -/
def forR (r : RS) (k : SS) : RS := match r with
  | .nx st => k st
  | .ct st => k st
  | .bk st => .nx st
  | r => r
def forL : List D → Tg → SS → SS
  | [], _, _ => fun st => .nx st
  | d :: ds, t, body => fun st => match t.set d st with
    | some st1 => forR (body st1) (forL ds t body)
    | none => .bad
def forS (src : SI) (t : Tg) (body : SS) : SS := fun st => match src st with
  | .ok ds st' => forL ds t body st'
  | .exc c d st' => .exc c d st'
  | .bad => .bad
theorem js_for {tg iter : Expr} {body : List Stmt} {src : SI} {t : Tg} {f : SS} {pos : Pos} (hp : PassesOwn (model X.prog X.w) X.A X.env X.xe) (hc : X.calm = true) (hi : JI X F W tg iter src) (hg : JG X F tg t) (hb : JB X F W body f)
    (hs : ∀ x, foldedSetIterable iter X.env x = pure x := by intro _; rfl) : JS X F W (.For tg iter body [] pos) (forS src t f) :=
  PS.imp (ps_for hp hc hi hg hb hs) fun D σ H ⟨G, st, r, q⟩ => by
    refine ⟨G, st, r, ?_⟩
    unfold forS at q
    generalize src st = z at q ⊢
    cases z with
    | ok items st' =>
      intro G1 H1 J e1 r1 dr
      refine ⟨fun i m σ' H' => m = items.length - i ∧ i ≤ items.length ∧ σ'.length = σ.length ∧ ∃ G' st2, Ex G1 G' ∧ SR F G' H' σ' st2 ∧ PostS F W G' σ.length D (forL (items.drop i) t f st2),
        ⟨items.length, by simp, Nat.zero_le _, rfl, G1, st', Ex.refl _, r1, q.mono e1⟩, ?_⟩
      rintro i m σ' H' ⟨rfl, hi, hl, G2, st2, e2, r2, q2⟩
      by_cases hlt : i < items.length
      · refine .inr ⟨dr.go i G2 H' hlt e2 r2.ex, fun σ3 H3 => σ3.length = σ.length ∧ ∃ G' st3, Ex G1 G' ∧ SR F G' H3 σ3 st3 ∧ PostS F W G' σ.length D (forL (items.drop (i + 1)) t f st3), fun σ3 H3 ⟨l3, G3, st3, e3, r3, q3⟩ => ⟨items.length - (i + 1), by omega, rfl, hlt, l3, G3, st3, e3, r3, q3⟩, fun x H3 y => ?_⟩
        have hd : items[i]? = some items[i] := List.getElem?_eq_getElem hlt
        rw [List.drop_eq_getElem_cons hlt] at q2
        have fin : ∀ G3, Ex G2 G3 → SR F G3 H3 σ' st2 → Dp F.K G3 x items[i] → tG F t x σ' H3 fun σ4 H4 => tS F W f { D with nx := fun σ3 H3 => σ3.length = σ.length ∧ ∃ G' st3, Ex G1 G' ∧ SR F G' H3 σ3 st3 ∧ PostS F W G' σ.length D (forL (items.drop (i + 1)) t f st3), ct := fun σ3 H3 => σ3.length = σ.length ∧ ∃ G' st3, Ex G1 G' ∧ SR F G' H3 σ3 st3 ∧ PostS F W G' σ.length D (forL (items.drop (i + 1)) t f st3), bk := D.nx } σ4 H4 := by
          intro G3 e3 r3 p3
          unfold forL at q2
          split at q2
          · rename_i st3 e4
            refine ⟨G3, st2, items[i], st3, r3, p3, e4, fun σ4 l4 _ r4 => ⟨G3, st3, r4, ?_⟩⟩
            have q3 := q2.mono e3
            generalize f st3 = y at q3 ⊢
            cases y with
            | nx st5 => exact fun σ5 G5 H5 l5 e5 r5 => ⟨by omega, G5, st5, (e2.trans e3).trans e5, r5, PostS.mono e5 q3⟩
            | ct st5 => exact fun σ5 G5 H5 l5 e5 r5 => ⟨by omega, G5, st5, (e2.trans e3).trans e5, r5, PostS.mono e5 q3⟩
            | bk st5 => exact fun σ5 G5 H5 l5 e5 r5 => q3 σ5 G5 H5 (by omega) e5 r5
            | rt o u st5 => exact fun v σ5 G5 H5 l5 e5 r5 => q3 v σ5 G5 H5 (by omega) e5 r5
            | exc c d st5 => exact fun σ5 l5 => q3 σ5 (by omega)
            | bad => exact q3
          · exact q2.elim
        rcases dr.yld i items[i] G2 H' x H3 hd e2 r2.ex y with ⟨e3, p3⟩ | ⟨p, o, e3, e4, p3⟩
        · subst e3
          exact fin G2 (Ex.refl _) r2 p3
        · subst e4
          exact fin _ (Ex.new (r2.ex.back e3)) (r2.new_ps e3) p3
      · have e : i = items.length := by omega
        subst e
        rw [List.drop_length] at q2
        exact .inl ⟨dr.stop _ G2 H' (Nat.le_refl _) e2 r2.ex, q2 σ' G2 H' hl (Ex.refl _) r2⟩
    | exc c d st' => exact q σ rfl
    | bad => exact q

/-! while -/
def whileN : Nat → ST → SS → SS
  | 0, _, _ => fun _ => .bad
  | n + 1, c, b => fun st => ifR (c st) (fun st1 => forR (b st1) (whileN n c b)) fun st1 => .nx st1
open Classical in
noncomputable def whileS (c : ST) (b : SS) : SS := fun st => if h : ∃ n, whileN n c b st ≠ .bad then whileN (Classical.choose h) c b st else .bad
theorem whileN_succ {c : ST} {b : SS} : ∀ {n : Nat} {st : Sg}, whileN n c b st ≠ .bad → whileN (n + 1) c b st = whileN n c b st
  | 0, st, h => absurd rfl h
  | n + 1, st, h => by
    unfold whileN at h ⊢
    generalize c st = z at h ⊢
    cases z with
    | ok t st1 =>
      cases t with
      | true =>
        unfold ifR at h ⊢
        dsimp only at h ⊢
        generalize b st1 = y at h ⊢
        unfold forR at h ⊢
        cases y with
        | nx st2 => exact whileN_succ h
        | ct st2 => exact whileN_succ h
        | _ => rfl
      | false => rfl
    | _ => rfl
theorem whileN_add {c : ST} {b : SS} {n : Nat} {st : Sg} (h : whileN n c b st ≠ .bad) : ∀ k, whileN (n + k) c b st = whileN n c b st
  | 0 => rfl
  | k + 1 => by
    have ih := whileN_add h k
    rw [← ih, ← Nat.add_assoc]
    exact whileN_succ (by rw [ih]; exact h)
theorem whileS_eq {c : ST} {b : SS} {n : Nat} {st : Sg} (h : whileN n c b st ≠ .bad) : whileS c b st = whileN n c b st := by
  unfold whileS
  have ex : ∃ n, whileN n c b st ≠ .bad := ⟨n, h⟩
  rw [dif_pos ex]
  have h2 := Classical.choose_spec ex
  have a := whileN_add h (Classical.choose ex)
  have b' := whileN_add h2 n
  rw [← a, ← b', Nat.add_comm]
theorem js_while {c : Expr} {body : List Stmt} {t : ST} {f : SS} {pos : Pos} (hp : PassesOwn (model X.prog X.w) X.A X.env X.xe) (hc : JT X F W c t) (hb : JB X F W body f) : JS X F W (.While c body [] pos) (whileS t f) :=
  PS.imp (ps_while hp hc hb) fun D σ H ⟨G, st, r, q⟩ => by
    have hn : ∃ n, PostS F W G σ.length D (whileN n t f st) := by
      by_cases h : ∃ n, whileN n t f st ≠ .bad
      · obtain ⟨n, h⟩ := h
        rw [whileS_eq h] at q
        exact ⟨n, q⟩
      · unfold whileS at q
        rw [dif_neg h] at q
        exact q.elim
    obtain ⟨n, q⟩ := hn
    refine ⟨fun m σ' H' => σ'.length = σ.length ∧ ∃ G' st2, Ex G G' ∧ SR F G' H' σ' st2 ∧ PostS F W G' σ.length D (whileN m t f st2), ⟨n, rfl, G, st, Ex.refl G, r, q⟩, ?_⟩
    rintro m σ' H' ⟨hl, G2, st2, e2, r2, q2⟩
    cases m with
    | zero => exact q2.elim
    | succ m =>
      refine ⟨G2, st2, r2, ?_⟩
      unfold whileN at q2
      generalize t st2 = z at q2 ⊢
      cases z with
      | ok b st3 =>
        intro G3 H3 e3 r3
        cases b with
        | false => rw [if_neg Bool.false_ne_true]; exact q2 σ' G3 H3 hl e3 r3
        | true =>
          rw [if_pos rfl]
          refine ⟨fun σ4 H4 => σ4.length = σ.length ∧ ∃ G' st4, Ex G G' ∧ SR F G' H4 σ4 st4 ∧ PostS F W G' σ.length D (whileN m t f st4), fun σ4 H4 h4 => ⟨m, Nat.lt_succ_self _, h4⟩, G3, st3, r3, ?_⟩
          have q3 : PostS F W G3 σ.length D (forR (f st3) (whileN m t f)) := PostS.mono e3 q2
          generalize f st3 = y at q3 ⊢
          cases y with
          | nx st5 => exact fun σ5 G5 H5 l5 e5 r5 => ⟨by omega, G5, st5, (e2.trans e3).trans e5, r5, PostS.mono e5 q3⟩
          | ct st5 => exact fun σ5 G5 H5 l5 e5 r5 => ⟨by omega, G5, st5, (e2.trans e3).trans e5, r5, PostS.mono e5 q3⟩
          | bk st5 => exact fun σ5 G5 H5 l5 e5 r5 => q3 σ5 G5 H5 (by omega) e5 r5
          | rt o u st5 => exact fun v σ5 G5 H5 l5 e5 r5 => q3 v σ5 G5 H5 (by omega) e5 r5
          | exc c d st5 => exact fun σ5 l5 => q3 σ5 (by omega)
          | bad => exact q3
      | exc c d st3 => exact q2 σ' hl
      | bad => exact q2
end
end Pl

namespace Pl
open PySem L2 PySem.Spec PyProof.Rows

/-- no exception may leave -/
def Wx.none (W : Wx) : Wx := ⟨W.ca, fun _ _ _ _ => False⟩
def wipeS (st : Sg) : List Nat → Sg
  | [] => st
  | i :: is => (wipeS st is).set i .no
/-- the slots of a comprehension's own names, behind it: what stayed is known again -/
def restS (st1 st : Sg) : List Nat → Sg
  | [] => st
  | i :: is => match st1[i]? with
    | some (.ps u) => (restS st1 st is).set i (.ps u)
    | _ => restS st1 st is
/-- what a comprehension's loop leaves: the items and the slots -/
inductive RL where
  | ok (acc : List D) (st : Sg)
  | bad
/-- one more item -/
def pushR (acc : List D) (r : RE) (k : List D → Sg → RL) : RL := match r with
  | .ok o (.dat y) st => if (o && !frzU (.dat y)) || !decide (acc.length < LINE) then .bad else k (acc ++ [y]) st
  | _ => .bad
def testR (r : RT) (f g : Sg → RL) : RL := match r with
  | .ok true st => f st
  | .ok false st => g st
  | _ => .bad
def lcL (own : List Nat) (t : Tg) (c : ST) (e : SE) : List D → List D → Sg → RL
  | [], acc, st => .ok acc st
  | d :: ds, acc, st => match t.set d (wipeS st own) with
    | some st1 => testR (c st1) (fun st2 => pushR acc (e st2) (lcL own t c e ds)) (fun st2 => lcL own t c e ds acc st2)
    | none => .bad
def lcR (own : List Nat) (st1 : Sg) : RL → RE
  | .ok acc st => .ok true (.dat (.list acc)) (restS st1 (wipeS st own) own)
  | .bad => .bad
def lcE (src : SI) (own : List Nat) (t : Tg) (c : ST) (e : SE) : SE := fun st => match src st with
  | .ok ds st1 => lcR own st1 (lcL own t c e ds [] st1)
  | .exc c d st1 => .exc c d st1
  | .bad => .bad
def yesT : ST := fun st => .ok true st

section
variable {X : Cx} {F : Fr} {W : Wx} {G G' H H' : Hp} {σ : St} {st st' : Sg} {Q : VK} {v : V} {u : U} {ds : List D} {vs : List V}
theorem wipeS_len : ∀ {is : List Nat}, (wipeS st is).length = st.length
  | [] => rfl
  | i :: is => by unfold wipeS; rw [List.length_set, wipeS_len]
theorem wipeS_get : ∀ {is : List Nat} {j : Nat} {s : Sl}, (wipeS st is)[j]? = some s → s = .no ∨ (j ∉ is ∧ st[j]? = some s)
  | [], j, s, h => .inr ⟨by simp, h⟩
  | i :: is, j, s, h => by
    unfold wipeS at h
    by_cases e : i = j
    · subst e
      have hl : i < (wipeS st is).length := by have := (List.getElem?_eq_some_iff.mp h).1; simpa using this
      rw [List.getElem?_set_self hl] at h
      cases h
      exact .inl rfl
    · rw [List.getElem?_set_ne e] at h
      rcases wipeS_get h with z | ⟨z1, z2⟩
      · exact .inl z
      · exact .inr ⟨by simp only [List.mem_cons, not_or]; exact ⟨fun q => e q.symm, z1⟩, z2⟩
theorem wipe_join : ∀ {is : List Nat} {j : Nat}, j ∉ is → (wipe σ is)[j]? = σ[j]?
  | [], _, _ => rfl
  | i :: is, j, h => by
    unfold wipe
    simp only [List.mem_cons, not_or] at h
    rw [List.getElem?_set_ne (Ne.symm h.1)]
    exact wipe_join h.2
/-- slots wiped on both sides (σ' may be any that is alike elsewhere) -/
theorem SR.wiped {σ' : St} {is : List Nat} (r : SR F G H σ st) (hl : σ'.length = σ.length) (h : ∀ j, j ∉ is → σ'[j]? = σ[j]?) : SR F G H σ' (wipeS st is) := by
  have l0 := r.len
  refine ⟨r.z.re (fun j => j) (by have := r.z.len; simp [wipeS_len] at this ⊢; omega) (fun j s q => ?_) (fun j k s t a b ne _ _ e => absurd e ne), by rw [wipeS_len]; omega, r.nio⟩
  by_cases hj : j < st.length
  · rw [get_l (by rw [wipeS_len]; exact hj)] at q
    rcases wipeS_get q with z | ⟨z1, z2⟩
    · exact .inl z
    · exact .inr ⟨by rw [get_l hj]; exact z2, by rw [get_l (by omega), get_l (by omega), h j z1], .inl rfl⟩
  · rw [List.getElem?_append_right (by rw [wipeS_len]; omega), wipeS_len] at q
    exact .inr ⟨by rw [List.getElem?_append_right (by omega)]; exact q, by rw [List.getElem?_append_right (by omega), List.getElem?_append_right (by omega), hl], .inl rfl⟩
/-- a slot of which nothing was known is known again -/
theorem SR.learn {i : Nat} (r : SR F G H σ st) (hv : slv σ i = some v) (p : PsU F.K G v u) (hi : i < st.length) : SR F G H σ (st.set i (.ps u)) := by
  have z := (r.push_ps p).store (i := i) hi rfl
  have e : σ.set i (some v) = σ := by
    apply List.ext_getElem?
    intro j
    by_cases e : i = j
    · subst e
      rw [List.getElem?_set_self (slv_lt hv), slv_some hv]
    · rw [List.getElem?_set_ne e]
  rw [e] at z
  exact z
theorem restS_len {st1 : Sg} : ∀ {is : List Nat}, (restS st1 st is).length = st.length
  | [] => rfl
  | i :: is => by
    unfold restS
    split
    · rw [List.length_set, restS_len]
    · exact restS_len
theorem SR.rest {F' : Fr} {st1 : Sg} {G1 H1 : Hp} (hK : F'.K = F.K) (r1 : SR F G1 H1 σ st1) (e : Ex G1 G) (r : SR F' G H σ st) : ∀ is : List Nat, SR F' G H σ (restS st1 st is)
  | [] => r
  | i :: is => by
    unfold restS
    have ih := SR.rest hK r1 e r is
    split
    · rename_i u hu
      obtain ⟨v, hv, p⟩ := r1.ps hu
      exact ih.learn hv (by rw [hK]; exact p.mono e) (by
        rw [ih.len, ← r1.len]
        exact (List.getElem?_eq_some_iff.mp hu).1)
    · exact ih
/-- readings whose frame is found on the way -/
def tGx (F : Fr) (t : Tg) : TG := fun v σ H Q => ∃ F' : Fr, F'.K = F.K ∧ tG F' t v σ H Q
def tTx (F : Fr) (W : Wx) (f : ST) : TT := fun σ H Q => ∃ F' : Fr, F'.K = F.K ∧ tT F' W f σ H Q
def tIx (F : Fr) (W : Wx) (f : SI) : TI := fun σ H Q => ∃ F' : Fr, F'.K = F.K ∧ tI F' W f σ H Q
theorem jg_ex {e : Expr} {t : Tg} (h : ∀ F' : Fr, F'.K = F.K → JG X F' e t) : PG X e (tGx F t) := ⟨fun pins s σ H v u Q I r ⟨F', e, q⟩ => (h F' e).run pins s σ H v u Q I r q⟩
theorem jt_ex {e : Expr} {f : ST} (h : ∀ F' : Fr, F'.K = F.K → JT X F' W e f) : PT X e (tTx F W f) := ⟨fun pins s σ H Q I ⟨F', e, q⟩ => (h F' e).run pins s σ H Q I q⟩
theorem ji_ex {tg e : Expr} {f : SI} (h : ∀ F' : Fr, F'.K = F.K → JI X F' W tg e f) : PI X tg e (tIx F W f) := ⟨fun pins s σ H Q I ⟨F', e, q⟩ => (h F' e).run pins s σ H Q I q⟩
/-- tests of a clause -/
abbrev JTs (X : Cx) (F : Fr) (W : Wx) (es : List Expr) (f : ST) : Prop := PTs X es (tTx F W f)
theorem jts_nil : JTs X F W [] yesT := ⟨fun pins s σ H Q I ⟨F', _, G, st, r, q⟩ => pts_nil.run pins s σ H Q I (q G H (Ex.refl G) r)⟩
theorem jts_one {e : Expr} {f : ST} (h : ∀ F' : Fr, F'.K = F.K → JT X F' W e f) : JTs X F W [e] f := pts_one (jt_ex h)

theorem wipe_of {σ' : St} {is is' : List Nat} (hs : ∀ i ∈ is', i ∈ is) (hl : σ'.length = (wipe σ is).length) (h : ∀ j, j ∉ is' → σ'[j]? = (wipe σ is)[j]?) : wipe σ' is = wipe σ is := by
  have key : ∀ (τ : St) (is : List Nat) (j : Nat), (wipe τ is)[j]? = if j ∈ is then (if j < τ.length then some none else none) else τ[j]? := by
    intro τ is
    induction is with
    | nil => intro j; simp [wipe]
    | cons i is ih =>
      intro j
      unfold wipe
      by_cases e : i = j
      · subst e
        by_cases hi : i < τ.length
        · rw [List.getElem?_set_self (by rw [wipe_length]; exact hi), if_pos List.mem_cons_self, if_pos hi]
        · rw [if_pos List.mem_cons_self, if_neg hi, List.getElem?_eq_none]
          rw [List.length_set, wipe_length]; omega
      · rw [List.getElem?_set_ne e, ih]
        by_cases m : j ∈ is
        · rw [if_pos m, if_pos (List.mem_cons_of_mem _ m)]
        · rw [if_neg m, if_neg (by simp only [List.mem_cons, not_or]; exact ⟨fun q => e q.symm, m⟩)]
  apply List.ext_getElem?
  intro j
  rw [key, key]
  have hl' : σ'.length = σ.length := by rw [hl, wipe_length]
  by_cases m : j ∈ is
  · rw [if_pos m, if_pos m, hl']
  · rw [if_neg m, if_neg m, h j (fun z => m (hs j z)), key, if_neg m]

/-- the loop of a comprehension over what J yields; the list made so far stands at D -/
theorem lc_ok {items : List D} {own : List Nat} {t : Tg} {c : ST} {e : SE} {J : It} {st1 : Sg} (hown : ∀ i ∈ t.sls, i ∈ own) (r1 : SR F G H σ st1) (dr : Drives F.K G J items) (q : PostE F W G σ Q (lcR own st1 (lcL own t c e items [] st1))) :
    ∀ D, H D = none → ∃ Wv : Nat → Nat → Hp → Prop, (∃ m, Wv 0 m (upd H D (.lst []))) ∧ ∀ i m H, Wv i m H →
      (J.stop i H ∧ Q (.ref D) H) ∨ (J.go i H ∧ ∃ Nx : Hp → Prop, (∀ H', Nx H' → ∃ m', m' < m ∧ Wv (i + 1) m' H') ∧ ∀ x H', J.yld i H x H' → tGx F t x (wipe σ own) H' fun σ2 H2 => wipe σ2 own = wipe σ own ∧ tTx F (Wx.none W) c σ2 H2 fun b H3 =>
        if b = true then tEx F (Wx.none W) e σ2 H3 fun y H4 => ∃ acc, H4 D = some (.lst acc) ∧ acc.length < sizeLine ∧ Nx (upd H4 D (.lst (acc ++ [y]))) else Nx H3) := by
  intro Dl hD
  -- at turn i: the slots, the list at Dl held besides
  let Iv : Nat → Hp → Prop := fun i H' => ∃ G' st2 acc, Ex G G' ∧ SR F G' H' ((wipe σ own) ++ [some (.ref Dl)]) (wipeS st2 own ++ [.ow (.dat (.list acc))]) ∧ PostE F W G' σ Q (lcR own st1 (lcL own t c e (items.drop i) acc st2))
  have wl : (wipe σ own).length = σ.length := wipe_length σ own
  have r0 : SR F G (upd H Dl (.lst [])) ((wipe σ own) ++ [some (.ref Dl)]) (wipeS st1 own ++ [.ow (.dat (.list []))]) := by
    have r2 : SR F G H (wipe σ own) (wipeS st1 own) := r1.wiped wl fun j hj => wipe_join hj
    exact r2.push_ow (fp := [Dl]) ⟨Dl, [], rfl, upd_same, r1.ex.back hD, .nil, rfl⟩ (r2.rel.new hD) (Ex.new hD) (fun a ha => by
      have e : a = Dl := by simpa using ha
      rw [e]; exact hD)
  refine ⟨fun i m H' => m = items.length - i ∧ i ≤ items.length ∧ Iv i H', ⟨items.length, by simp, Nat.zero_le _, G, st1, [], Ex.refl G, r0, q⟩, ?_⟩
  rintro i m H' ⟨rfl, hi, G2, st2, acc, e2, r2, q2⟩
  by_cases hlt : i < items.length
  · refine .inr ⟨dr.go i G2 H' hlt e2 r2.ex, Iv (i + 1), fun H3 h3 => ⟨items.length - (i + 1), by omega, rfl, hlt, h3⟩, fun x H3 y => ?_⟩
    have hd : items[i]? = some items[i] := List.getElem?_eq_getElem hlt
    rw [List.drop_eq_getElem_cons hlt] at q2
    have fin : ∀ G3, Ex G2 G3 → SR F G3 H3 ((wipe σ own) ++ [some (.ref Dl)]) (wipeS st2 own ++ [.ow (.dat (.list acc))]) → Dp F.K G3 x items[i] → tGx F t x (wipe σ own) H3 fun σ2 H2 => wipe σ2 own = wipe σ own ∧ tTx F (Wx.none W) c σ2 H2 fun b H3 =>
        if b = true then tEx F (Wx.none W) e σ2 H3 fun y H4 => ∃ acc, H4 Dl = some (.lst acc) ∧ acc.length < sizeLine ∧ Iv (i + 1) (upd H4 Dl (.lst (acc ++ [y]))) else Iv (i + 1) H3 := by
      intro G3 e3 r3 p3
      unfold lcL at q2
      split at q2
      · rename_i st3 e4
        refine ⟨F.and (.ref Dl) (.ow (.dat (.list acc))), rfl, G3, wipeS st2 own, items[i], st3, r3.hold rfl, p3, e4, fun σ2 l2 k2 r4 => ⟨wipe_of hown l2 k2, F.and (.ref Dl) (.ow (.dat (.list acc))), rfl, G3, st3, r4, ?_⟩⟩
        have ww : wipe σ2 own = wipe σ own := wipe_of hown l2 k2
        have q3 := q2.mono e3
        -- back to a turn's start
        have again : ∀ {G5 H5 : Hp} {st5 : Sg} {acc' : List D}, Ex G3 G5 → SR F G5 H5 (σ2 ++ [some (.ref Dl)]) (st5 ++ [.ow (.dat (.list acc'))]) → PostE F W G3 σ Q (lcR own st1 (lcL own t c e (items.drop (i + 1)) acc' st5)) → Iv (i + 1) H5 := by
          intro G5 H5 st5 acc' e5 r5 q5
          refine ⟨G5, st5, acc', (e2.trans e3).trans e5, ?_, PostE.mono e5 q5⟩
          have r6 := r5.hold rfl
          have r7 := SR.wiped (σ' := wipe σ own) (is := own) r6 (by rw [wl]; have := r6.len; rw [l2, wl]) (fun j hj => by rw [← ww, wipe_join hj])
          exact r7.unhold
        unfold testR at q3
        generalize c st3 = z at q3 ⊢
        cases z with
        | ok b st5 =>
          intro G5 H5 e5 r5
          cases b with
          | false => rw [if_neg Bool.false_ne_true]; exact again e5 r5.unhold q3
          | true =>
            rw [if_pos rfl]
            refine ⟨F.and (.ref Dl) (.ow (.dat (.list acc))), rfl, G5, st5, r5, ?_⟩
            dsimp only at q3
            unfold pushR at q3
            generalize e st5 = y at q3 ⊢
            cases y with
            | ok o w st6 =>
              intro yv G6 H6 e6 r6
              cases w with
              | dat yd =>
                dsimp only at q3
                split at q3
                · exact q3.elim
                · rename_i hc
                  simp only [Bool.or_eq_true, Bool.and_eq_true, Bool.not_eq_true', decide_eq_false_iff_not, not_or, not_and, Bool.not_eq_false, Decidable.not_not] at hc
                  have fin2 : ∀ G7, Ex G6 G7 → SR (F.and (.ref Dl) (.ow (.dat (.list acc)))) G7 H6 σ2 st6 → Dp F.K G7 yv yd → ∃ acc, H6 Dl = some (.lst acc) ∧ acc.length < sizeLine ∧ Iv (i + 1) (upd H6 Dl (.lst (acc ++ [yv]))) := by
                    intro G7 e7 r7 p7
                    have r8 := r7.unhold
                    obtain ⟨vv, fp, hv, o, k⟩ := r8.mutate (i := st6.length) (s := .ow (.dat (.list acc))) get_app_n rfl
                    have hl6 : st6.length = σ2.length := r7.len
                    have ev : vv = .ref Dl := by
                      unfold slv at hv
                      rw [hl6, get_app_n] at hv
                      cases hv; rfl
                    subst ev
                    obtain ⟨a, xs, e1, e8, e9, e10, e11⟩ := o
                    cases e1
                    refine ⟨xs, e8, lt_line (by rw [Dps.length e10]; exact hc.2), ?_⟩
                    have r9 := k (upd H6 Dl (.lst (xs ++ [yv]))) (.dat (.list (acc ++ [yd]))) ⟨Dl, xs ++ [yv], rfl, upd_same, e9, Dps.append e10 (.cons p7 .nil), e11⟩
                      (fun b hb o eo => by rw [upd_ne (fun z => hb (by rw [e11, z]; simp))]; exact eo)
                      (fun b hb => by
                        by_cases z : b = Dl
                        · subst z; rw [upd_same] at hb; cases hb
                        · rw [upd_ne z] at hb; exact hb)
                    have es : (st6 ++ [Sl.ow (.dat (.list acc))]).set st6.length (Sl.re (.ow (.dat (.list acc))) (.dat (.list (acc ++ [yd])))) = st6 ++ [.ow (.dat (.list (acc ++ [yd])))] := by simp [Sl.re]
                    rw [es] at r9
                    exact again ((e5.trans e6).trans e7) r9 q3
                  cases o with
                  | false => exact fin2 G6 (Ex.refl _) (r6.pop rfl) r6.last_ps
                  | true =>
                    obtain ⟨G7, x7, r7, p7⟩ := r6.frz_last (hc.1 rfl)
                    exact fin2 G7 x7 r7 p7
              | _ => exact q3.elim
            | exc _ _ _ => exact q3.elim
            | bad => exact q3.elim
        | exc _ _ _ => exact q3.elim
        | bad => exact q3.elim
      · exact q2.elim
    rcases dr.yld i items[i] G2 H' x H3 hd e2 r2.ex y with ⟨e3, p3⟩ | ⟨p, o, e3, e4, p3⟩
    · subst e3
      exact fin G2 (Ex.refl _) r2 p3
    · subst e4
      exact fin _ (Ex.new (r2.ex.back e3)) (r2.new_ps e3) p3
  · have e : i = items.length := by omega
    subst e
    rw [List.drop_length] at q2
    refine .inl ⟨dr.stop _ G2 H' (Nat.le_refl _) e2 r2.ex, ?_⟩
    refine q2 (.ref Dl) G2 H' (Ex.refl _) ?_
    have r3 := r2.hold rfl
    have r4 := SR.wiped (σ' := σ) (is := own) r3 wl.symm (fun j hj => (wipe_join hj).symm)
    have e5 : wipeS (wipeS st2 own) own = wipeS st2 own := by
      have key : ∀ (is : List Nat) (st : Sg) (j : Nat), (wipeS st is)[j]? = if j ∈ is then (if j < st.length then some .no else none) else st[j]? := by
        intro is
        induction is with
        | nil => intro st j; simp [wipeS]
        | cons i is ih =>
          intro st j
          unfold wipeS
          by_cases e : i = j
          · subst e
            by_cases hi : i < st.length
            · rw [List.getElem?_set_self (by rw [wipeS_len]; exact hi), if_pos List.mem_cons_self, if_pos hi]
            · rw [if_pos List.mem_cons_self, if_neg hi, List.getElem?_eq_none]
              rw [List.length_set, wipeS_len]; omega
          · rw [List.getElem?_set_ne e, ih]
            by_cases m : j ∈ is
            · rw [if_pos m, if_pos (List.mem_cons_of_mem _ m)]
            · rw [if_neg m, if_neg (by simp only [List.mem_cons, not_or]; exact ⟨fun q => e q.symm, m⟩)]
      apply List.ext_getElem?
      intro j
      rw [key, key, wipeS_len]
      by_cases m : j ∈ own
      · rw [if_pos m, if_pos m]
      · rw [if_neg m, if_neg m]
    rw [e5] at r4
    exact (SR.rest (F := F) (F' := F.and (.ref Dl) (.ow (.dat (.list acc)))) rfl r1 e2 r4 own).unhold
/-- [elt for target in iter if ..] -/
theorem je_lc {elt tg iter : Expr} {ifs : List Expr} {scope : Scope} {own : List (Str × Nat)} {pos : Pos} {src : SI} {t : Tg} {c : ST} {f : SE} (hc : X.calm = true) (hN : X.N.Nodup) (hi : JI X F W tg iter src) (ok : BlkOk X.N X.env.scope scope own)
    (hg : ∀ (s : Shared) (H : Hp) (C : Addr) (cl : List (Str × Addr)) (fp : List Addr) (F' : Fr), F'.K = F.K → JG (X.blk s H scope (compEnvC scope cl C X.env) fp) F' tg t)
    (ht : ∀ (s : Shared) (H : Hp) (C : Addr) (cl : List (Str × Addr)) (fp : List Addr), JTs (X.blk s H scope (compEnvC scope cl C X.env) fp) F (Wx.none W) ifs c)
    (he : ∀ (s : Shared) (H : Hp) (C : Addr) (cl : List (Str × Addr)) (fp : List Addr) (F' : Fr), F'.K = F.K → JE (X.blk s H scope (compEnvC scope cl C X.env) fp) F' (Wx.none W) elt f)
    (hown : ∀ i ∈ t.sls, i ∈ own.map (·.2) := by decide) (hs : ∀ x, foldedSetIterable iter X.env x = pure x := by intro _; rfl) :
    JE X F W (.ListComp elt [⟨tg, iter, ifs, 0⟩] scope pos) (lcE src (own.map (·.2)) t c f) :=
  PE.imp (pe_lc hc hN hi ok (fun s H C cl fp => jg_ex (F := F) (hg s H C cl fp)) ht (fun s H C cl fp => je_ex (F := F) (W := Wx.none W) (he s H C cl fp)) hs) fun σ H Q ⟨G, st, r, q⟩ => by
    refine ⟨G, st, r, ?_⟩
    unfold lcE at q
    generalize src st = z at q ⊢
    cases z with
    | ok items st' => exact fun G' H' J e r' dr => lc_ok hown r' dr (q.mono e)
    | exc c d st' => exact q
    | bad => exact q
theorem js_setLc {i : Nat} {y : Str} {py : Pos} {elt tg iter : Expr} {ifs : List Expr} {scope : Scope} {own : List (Str × Nat)} {pos spos : Pos} {src : SI} {t : Tg} {c : ST} {f : SE} (hc : X.calm = true) (hN : X.N.Nodup) (hy : X.N[i]? = some y) (hyl : X.env.scope.names.lookup y = some .local)
    (hsw : swapsWith (.ListComp elt [⟨tg, iter, ifs, 0⟩] scope pos) (some (.Name y py)) spos.line X.env = pure true) (hi : JI X F W tg iter src) (ok : BlkOk X.N X.env.scope scope own)
    (hg : ∀ (s : Shared) (H : Hp) (C : Addr) (cl : List (Str × Addr)) (fp : List Addr) (F' : Fr), F'.K = F.K → JG (X.blk s H scope (compEnvC scope cl C X.env) fp) F' tg t)
    (ht : ∀ (s : Shared) (H : Hp) (C : Addr) (cl : List (Str × Addr)) (fp : List Addr), JTs (X.blk s H scope (compEnvC scope cl C X.env) fp) F (Wx.none W) ifs c)
    (he : ∀ (s : Shared) (H : Hp) (C : Addr) (cl : List (Str × Addr)) (fp : List Addr) (F' : Fr), F'.K = F.K → JE (X.blk s H scope (compEnvC scope cl C X.env) fp) F' (Wx.none W) elt f)
    (hown : ∀ i ∈ t.sls, i ∈ own.map (·.2) := by decide) (hs : ∀ x, foldedSetIterable iter X.env x = pure x := by intro _; rfl) :
    JS X F W (.Assign [.Name y py] (.ListComp elt [⟨tg, iter, ifs, 0⟩] scope pos) spos) (asgS i (lcE src (own.map (·.2)) t c f)) :=
  js_asg (ps_setLc hc hN hy hyl hsw hi ok (fun s H C cl fp => jg_ex (F := F) (hg s H C cl fp)) ht (fun s H C cl fp => je_ex (F := F) (W := Wx.none W) (he s H C cl fp)) hs) fun σ H Q ⟨G, st, r, q⟩ => by
    refine ⟨G, st, r, ?_⟩
    unfold lcE at q
    generalize src st = z at q ⊢
    cases z with
    | ok items st' => exact fun G' H' J e r' dr => lc_ok hown r' dr (q.mono e)
    | exc c d st' => exact q
    | bad => exact q
end
end Pl

namespace Pl
open PySem L2 PySem.Spec PyProof.Rows

/-- operands, then what is reckoned of them -/
def biE (os : List Opn) (k : List U → Sg → RE) : SE := fun st => match evA os [] st with
  | .ok as st' => match fetchAll st' as with
    | some us => k us st'
    | none => .bad
  | .exc c d st' => .exc c d st'
  | .bad => .bad
section
variable {X : Cx} {F : Fr} {W : Wx} {G G' H H' : Hp} {σ : St} {st st' : Sg} {Q : VK} {v : V} {u : U} {ds : List D} {vs : List V}
theorem biE_ok {os : List Opn} {k : List U → Sg → RE} {R : List V → Hp → Prop} (r : SR F G H σ st) (h : PostE F W G σ Q (biE os k st))
    (hk : ∀ ws us G' H' st', Ex G G' → SR F G' H' σ st' → RdAll F.K G' H' ws us → PostE F W G' σ Q (k us st') → R ws H') : tAs F W os σ H R := by
  refine evA_ok r .nil ?_
  unfold biE at h
  generalize evA os [] st = z at h ⊢
  cases z with
  | ok as st' =>
    intro ws G' H' l e r' p
    dsimp only at h
    split at h
    · rename_i us e1
      exact hk ws us G' H' st' e r' (rdAll_of r' p e1) (h.mono e)
    · exact h.elim
  | exc c d st' => exact h
  | bad => exact h
/-- a built-in by its rule -/
theorem je_bi {x : Str} {id : String} {rr : List V → Hp → VK → Prop} {e : Expr} {es : List Expr} {os : List Opn} {k : List U → Sg → RE} {p pos : Pos} (hr : CallR X (.builtin id) rr) (hg : Gl X x) (hm : X.mg x = none) (hv : bootBuiltins x = some (.builtin id)) (ha : JA X F W (e :: es) os)
    (hk : ∀ {ws : List V} {us : List U} {G H : Hp} {σ : St} {st : Sg} {Q : VK}, SR F G H σ st → RdAll F.K G H ws us → PostE F W G σ Q (k us st) → rr ws H Q)
    (hn : x ≠ "__name__" := by decide) (hdb : (x == ("__debug__" : Str)) = false := by decide) (he : starEach (e :: es) X.env = (false, eval e X.env) :: starEach es X.env := by rfl) (hpl : (backTo pos (starEach es X.env)).any (·.1) = false := by rfl) :
    JE X F W (.Call (.Name x p) (e :: es) [] pos) (biE os k) :=
  PE.imp (pe_callB hr hg hm hv ha hn hdb he hpl) fun σ H Q ⟨G, st, r, h⟩ => biE_ok r h fun ws us G' H' st' e r' p q => hk r' p q
theorem je_ty {x : Str} {T : String} {rr : List V → Hp → VK → Prop} {e : Expr} {es : List Expr} {os : List Opn} {k : List U → Sg → RE} {p pos : Pos} (hr : CallR X (.type T) rr) (hg : Gl X x) (hm : X.mg x = none) (hv : bootBuiltins x = some (.type T)) (ha : JA X F W (e :: es) os)
    (hk : ∀ {ws : List V} {us : List U} {G H : Hp} {σ : St} {st : Sg} {Q : VK}, SR F G H σ st → RdAll F.K G H ws us → PostE F W G σ Q (k us st) → rr ws H Q)
    (hn : x ≠ "__name__" := by decide) (hdb : (x == ("__debug__" : Str)) = false := by decide) (he : starEach (e :: es) X.env = (false, eval e X.env) :: starEach es X.env := by rfl) (hpl : (backTo pos (starEach es X.env)).any (·.1) = false := by rfl) :
    JE X F W (.Call (.Name x p) (e :: es) [] pos) (biE os k) :=
  PE.imp (pe_callTy hr hg hm hv ha hn hdb he hpl) fun σ H Q ⟨G, st, r, h⟩ => biE_ok r h fun ws us G' H' st' e r' p q => hk r' p q

theorem rd1 {K : PySem.W.Frag} {ws : List V} (p : RdAll K G H ws [u]) : ∃ w, ws = [w] ∧ RdU K G H w u := by
  cases p with
  | cons p t => cases t; exact ⟨_, rfl, p⟩
theorem rd2 {K : PySem.W.Frag} {ws : List V} {w : U} (p : RdAll K G H ws [u, w]) : ∃ x y, ws = [x, y] ∧ RdU K G H x u ∧ RdU K G H y w := by
  cases p with
  | cons p t =>
    cases t with
    | cons p2 t => cases t; exact ⟨_, _, rfl, p, p2⟩

/-! len -/
def lenK (us : List U) (st : Sg) : RE := match us with
  | [.dat (.list ds)] => .ok false (.dat (.int ds.length)) st
  | [.dat (.tuple ds)] => .ok false (.dat (.int ds.length)) st
  | [.dat (.str s)] => if s.length ≤ LINE then .ok false (.dat (.int s.length)) st else .bad
  | _ => .bad
theorem je_len {e : Expr} {o : Opn} {p pos : Pos} (hF : F.K = X.K) (hg : Gl X "len") (hm : X.mg "len" = none) (ha : JA X F W [e] [o]) (he : starEach [e] X.env = (false, eval e X.env) :: starEach [] X.env := by rfl) (hpl : (backTo pos (starEach [] X.env)).any (·.1) = false := by rfl) : JE X F W (.Call (.Name "len" p) [e] [] pos) (biE [o] lenK) := by
  refine je_bi (call_len_seq.or call_len_str) hg hm PySem.boot_len ha ?_ (by decide) (by decide) he hpl
  intro ws us G H σ st Q r p q
  unfold lenK at q
  split at q
  · obtain ⟨w, rfl, h⟩ := rd1 p
    obtain ⟨a, vs, rfl, h1, h2⟩ := h.lst
    refine .inl ⟨a, vs, rfl, .inl (hF ▸ h1), ?_⟩
    rw [Dps.length h2]
    exact PostE.ps q r (.int _)
  · obtain ⟨w, rfl, h⟩ := rd1 p
    obtain ⟨a, vs, rfl, h1, h2⟩ := h.tup r.ex
    refine .inl ⟨a, vs, rfl, .inr (hF ▸ h1), ?_⟩
    rw [Dps.length h2]
    exact PostE.ps q r (.int _)
  · obtain ⟨w, rfl, h⟩ := rd1 p
    split at q
    · rename_i hl
      rw [h.str]
      exact .inr ⟨_, rfl, le_line hl, PostE.ps q r (.int _)⟩
    · exact q.elim
  · exact q.elim
/-! abs, int, two of max, min -/
def absK (us : List U) (st : Sg) : RE := match us with
  | [.dat (.int i)] => .ok false (.dat (.int (if i < 0 then -i else i))) st
  | _ => .bad
theorem je_abs {e : Expr} {o : Opn} {p pos : Pos} (hg : Gl X "abs") (hm : X.mg "abs" = none) (ha : JA X F W [e] [o]) (he : starEach [e] X.env = (false, eval e X.env) :: starEach [] X.env := by rfl) (hpl : (backTo pos (starEach [] X.env)).any (·.1) = false := by rfl) : JE X F W (.Call (.Name "abs" p) [e] [] pos) (biE [o] absK) := by
  refine je_bi call_abs hg hm (by decide +kernel) ha ?_ (by decide) (by decide) he hpl
  intro ws us G H σ st Q r p q
  unfold absK at q
  split at q
  · obtain ⟨w, rfl, h⟩ := rd1 p
    rw [h.int]
    exact ⟨_, rfl, PostE.ps q r (.int _)⟩
  · exact q.elim
def intK (us : List U) (st : Sg) : RE := match us with
  | [.dat (.int i)] => .ok false (.dat (.int i)) st
  | [.dat (.bool b)] => .ok false (.dat (.int (if b then 1 else 0))) st
  | _ => .bad
theorem je_int_of {e : Expr} {o : Opn} {p pos : Pos} (hg : Gl X "int") (hm : X.mg "int" = none) (ha : JA X F W [e] [o]) (he : starEach [e] X.env = (false, eval e X.env) :: starEach [] X.env := by rfl) (hpl : (backTo pos (starEach [] X.env)).any (·.1) = false := by rfl) : JE X F W (.Call (.Name "int" p) [e] [] pos) (biE [o] intK) := by
  refine je_ty call_int1 hg hm (by decide +kernel) ha ?_ (by decide) (by decide) he hpl
  intro ws us G H σ st Q r p q
  unfold intK at q
  split at q
  · obtain ⟨w, rfl, h⟩ := rd1 p
    rw [h.int]
    exact .inl ⟨_, rfl, PostE.ps q r (.int _)⟩
  · obtain ⟨w, rfl, h⟩ := rd1 p
    rw [h.bl]
    exact .inr ⟨_, rfl, PostE.ps q r (.int _)⟩
  · exact q.elim
/-! sum, max, min, all, any of a list -/
def intsOf : List D → Option (List Int)
  | [] => some []
  | .int i :: ds => (intsOf ds).map (i :: ·)
  | _ => none
def boolsOf : List D → Option (List Bool)
  | [] => some []
  | .bool b :: ds => (boolsOf ds).map (b :: ·)
  | _ => none
theorem intsOf_v {K : PySem.W.Frag} : ∀ {vs : List V} {ds : List D} {ns : List Int}, DpAll K H vs ds → intsOf ds = some ns → vs = ns.map V.int
  | _, _, _, .nil, h => by cases h; rfl
  | _, d :: ds, ns, .cons p t, h => by
    cases p with
    | int i =>
      obtain ⟨ms, e1, e2⟩ := Option.map_eq_some_iff.mp (show (intsOf ds).map (i :: ·) = some ns from h)
      subst e2
      rw [intsOf_v t e1]
      rfl
    | _ => cases h
theorem boolsOf_v {K : PySem.W.Frag} : ∀ {vs : List V} {ds : List D} {ns : List Bool}, DpAll K H vs ds → boolsOf ds = some ns → vs = ns.map V.bl
  | _, _, _, .nil, h => by cases h; rfl
  | _, d :: ds, ns, .cons p t, h => by
    cases p with
    | bl i =>
      obtain ⟨ms, e1, e2⟩ := Option.map_eq_some_iff.mp (show (boolsOf ds).map (i :: ·) = some ns from h)
      subst e2
      rw [boolsOf_v t e1]
      rfl
    | _ => cases h
def sumK (us : List U) (st : Sg) : RE := match us with
  | [.dat (.list ds)] => match intsOf ds with
    | some ns => .ok false (.dat (.int ns.sum)) st
    | none => .bad
  | _ => .bad
theorem je_sum {e : Expr} {o : Opn} {p pos : Pos} (hF : F.K = X.K) (hc : X.calm = true) (hg : Gl X "sum") (hm : X.mg "sum" = none) (ha : JA X F W [e] [o]) (he : starEach [e] X.env = (false, eval e X.env) :: starEach [] X.env := by rfl) (hpl : (backTo pos (starEach [] X.env)).any (·.1) = false := by rfl) : JE X F W (.Call (.Name "sum" p) [e] [] pos) (biE [o] sumK) := by
  refine je_bi (cr_sum hc) hg hm (by decide +kernel) ha ?_ (by decide) (by decide) he hpl
  intro ws us G H σ st Q r p q
  unfold sumK at q
  split at q
  · split at q
    · rename_i ds ns e1
      obtain ⟨w, rfl, h⟩ := rd1 p
      obtain ⟨a, vs, rfl, h1, h2⟩ := h.lst
      have e2 := intsOf_v h2 e1
      subst e2
      exact ⟨a, ns, rfl, hF ▸ h1, PostE.ps q r (.int _)⟩
    · exact q.elim
  · exact q.elim
def maxL : List Int → Int
  | [] => 0
  | [x] => x
  | x :: y :: r => if maxL (y :: r) > x then maxL (y :: r) else x
def minL : List Int → Int
  | [] => 0
  | [x] => x
  | x :: y :: r => if minL (y :: r) < x then minL (y :: r) else x
theorem maxL_spec : ∀ {ns : List Int}, 0 < ns.length → maxL ns ∈ ns ∧ ∀ y ∈ ns, y ≤ maxL ns
  | [], h => by simp at h
  | [x], _ => by simp [maxL]
  | x :: y :: r, _ => by
    have ih := maxL_spec (ns := y :: r) (by simp)
    unfold maxL
    split
    · rename_i c
      exact ⟨List.mem_cons_of_mem _ ih.1, fun z hz => by rcases List.mem_cons.mp hz with e | e; omega; exact ih.2 z e⟩
    · rename_i c
      exact ⟨List.mem_cons_self, fun z hz => by rcases List.mem_cons.mp hz with e | e; omega; have := ih.2 z e; omega⟩
theorem minL_spec : ∀ {ns : List Int}, 0 < ns.length → minL ns ∈ ns ∧ ∀ y ∈ ns, minL ns ≤ y
  | [], h => by simp at h
  | [x], _ => by simp [minL]
  | x :: y :: r, _ => by
    have ih := minL_spec (ns := y :: r) (by simp)
    unfold minL
    split
    · rename_i c
      exact ⟨List.mem_cons_of_mem _ ih.1, fun z hz => by rcases List.mem_cons.mp hz with e | e; omega; exact ih.2 z e⟩
    · rename_i c
      exact ⟨List.mem_cons_self, fun z hz => by rcases List.mem_cons.mp hz with e | e; omega; have := ih.2 z e; omega⟩
def maxK (us : List U) (st : Sg) : RE := match us with
  | [.dat (.list ds)] => match intsOf ds with
    | some ns => if 0 < ns.length then .ok false (.dat (.int (maxL ns))) st else .bad
    | none => .bad
  | [.dat (.int i), .dat (.int j)] => .ok false (.dat (.int (if j > i then j else i))) st
  | _ => .bad
def minK (us : List U) (st : Sg) : RE := match us with
  | [.dat (.list ds)] => match intsOf ds with
    | some ns => if 0 < ns.length then .ok false (.dat (.int (minL ns))) st else .bad
    | none => .bad
  | [.dat (.int i), .dat (.int j)] => .ok false (.dat (.int (if j < i then j else i))) st
  | _ => .bad
theorem je_max {e : Expr} {es : List Expr} {os : List Opn} {p pos : Pos} (hF : F.K = X.K) (hc : X.calm = true) (hg : Gl X "max") (hm : X.mg "max" = none) (ha : JA X F W (e :: es) os) (he : starEach (e :: es) X.env = (false, eval e X.env) :: starEach es X.env := by rfl) (hpl : (backTo pos (starEach es X.env)).any (·.1) = false := by rfl) : JE X F W (.Call (.Name "max" p) (e :: es) [] pos) (biE os maxK) := by
  refine je_bi ((cr_max hc).or (call_max2 hc)) hg hm (by decide +kernel) ha ?_ (by decide) (by decide) he hpl
  intro ws us G H σ st Q r p q
  unfold maxK at q
  split at q
  · split at q
    · rename_i ds ns e1
      split at q
      · rename_i hl
        obtain ⟨w, rfl, h⟩ := rd1 p
        obtain ⟨a, vs, rfl, h1, h2⟩ := h.lst
        have e2 := intsOf_v h2 e1
        subst e2
        refine .inl ⟨a, ns, rfl, hF ▸ h1, hl, fun m hm hle => ?_⟩
        have z := maxL_spec hl
        have e : m = maxL ns := Int.le_antisymm (z.2 m hm) (hle _ z.1)
        rw [e]
        exact PostE.ps q r (.int _)
      · exact q.elim
    · exact q.elim
  · obtain ⟨x, y, rfl, h1, h2⟩ := rd2 p
    rw [h1.int, h2.int]
    exact .inr ⟨_, _, rfl, PostE.ps q r (.int _)⟩
  · exact q.elim
theorem je_min {e : Expr} {es : List Expr} {os : List Opn} {p pos : Pos} (hF : F.K = X.K) (hc : X.calm = true) (hg : Gl X "min") (hm : X.mg "min" = none) (ha : JA X F W (e :: es) os) (he : starEach (e :: es) X.env = (false, eval e X.env) :: starEach es X.env := by rfl) (hpl : (backTo pos (starEach es X.env)).any (·.1) = false := by rfl) : JE X F W (.Call (.Name "min" p) (e :: es) [] pos) (biE os minK) := by
  refine je_bi ((cr_min hc).or (call_min2 hc)) hg hm (by decide +kernel) ha ?_ (by decide) (by decide) he hpl
  intro ws us G H σ st Q r p q
  unfold minK at q
  split at q
  · split at q
    · rename_i ds ns e1
      split at q
      · rename_i hl
        obtain ⟨w, rfl, h⟩ := rd1 p
        obtain ⟨a, vs, rfl, h1, h2⟩ := h.lst
        have e2 := intsOf_v h2 e1
        subst e2
        refine .inl ⟨a, ns, rfl, hF ▸ h1, hl, fun m hm hle => ?_⟩
        have z := minL_spec hl
        have e : m = minL ns := Int.le_antisymm (hle _ z.1) (z.2 m hm)
        rw [e]
        exact PostE.ps q r (.int _)
      · exact q.elim
    · exact q.elim
  · obtain ⟨x, y, rfl, h1, h2⟩ := rd2 p
    rw [h1.int, h2.int]
    exact .inr ⟨_, _, rfl, PostE.ps q r (.int _)⟩
  · exact q.elim
def allK (us : List U) (st : Sg) : RE := match us with
  | [.dat (.list ds)] => match boolsOf ds with
    | some bs => .ok false (.dat (.bool (bs.all id))) st
    | none => .bad
  | _ => .bad
def anyK (us : List U) (st : Sg) : RE := match us with
  | [.dat (.list ds)] => match boolsOf ds with
    | some bs => .ok false (.dat (.bool (bs.any id))) st
    | none => .bad
  | _ => .bad
theorem je_all {e : Expr} {o : Opn} {p pos : Pos} (hF : F.K = X.K) (hc : X.calm = true) (hg : Gl X "all") (hm : X.mg "all" = none) (ha : JA X F W [e] [o]) (he : starEach [e] X.env = (false, eval e X.env) :: starEach [] X.env := by rfl) (hpl : (backTo pos (starEach [] X.env)).any (·.1) = false := by rfl) : JE X F W (.Call (.Name "all" p) [e] [] pos) (biE [o] allK) := by
  refine je_bi (cr_all hc) hg hm (by decide +kernel) ha ?_ (by decide) (by decide) he hpl
  intro ws us G H σ st Q r p q
  unfold allK at q
  split at q
  · split at q
    · rename_i ds ns e1
      obtain ⟨w, rfl, h⟩ := rd1 p
      obtain ⟨a, vs, rfl, h1, h2⟩ := h.lst
      have e2 := boolsOf_v h2 e1
      subst e2
      exact ⟨a, ns, rfl, hF ▸ h1, PostE.ps q r (.bl _)⟩
    · exact q.elim
  · exact q.elim
theorem je_any {e : Expr} {o : Opn} {p pos : Pos} (hF : F.K = X.K) (hc : X.calm = true) (hg : Gl X "any") (hm : X.mg "any" = none) (ha : JA X F W [e] [o]) (he : starEach [e] X.env = (false, eval e X.env) :: starEach [] X.env := by rfl) (hpl : (backTo pos (starEach [] X.env)).any (·.1) = false := by rfl) : JE X F W (.Call (.Name "any" p) [e] [] pos) (biE [o] anyK) := by
  refine je_bi (cr_any hc) hg hm (by decide +kernel) ha ?_ (by decide) (by decide) he hpl
  intro ws us G H σ st Q r p q
  unfold anyK at q
  split at q
  · split at q
    · rename_i ds ns e1
      obtain ⟨w, rfl, h⟩ := rd1 p
      obtain ⟨a, vs, rfl, h1, h2⟩ := h.lst
      have e2 := boolsOf_v h2 e1
      subst e2
      exact ⟨a, ns, rfl, hF ▸ h1, PostE.ps q r (.bl _)⟩
    · exact q.elim
  · exact q.elim
/-! tuple(..), list(..) -/
def tupleK (us : List U) (st : Sg) : RE := match us with
  | [.dat (.list ds)] => .ok false (.dat (.tuple ds)) st
  | [.dat (.tuple ds)] => .ok false (.dat (.tuple ds)) st
  | _ => .bad
def listK (us : List U) (st : Sg) : RE := match us with
  | [.dat (.list ds)] => .ok true (.dat (.list ds)) st
  | [.dat (.tuple ds)] => .ok true (.dat (.list ds)) st
  | _ => .bad
theorem je_tuple {e : Expr} {o : Opn} {p pos : Pos} (hF : F.K = X.K) (hg : Gl X "tuple") (hm : X.mg "tuple" = none) (ha : JA X F W [e] [o]) (he : starEach [e] X.env = (false, eval e X.env) :: starEach [] X.env := by rfl) (hpl : (backTo pos (starEach [] X.env)).any (·.1) = false := by rfl) : JE X F W (.Call (.Name "tuple" p) [e] [] pos) (biE [o] tupleK) := by
  refine je_ty call_tupleN hg hm (by decide +kernel) ha ?_ (by decide) (by decide) he hpl
  intro ws us G H σ st Q r p q
  unfold tupleK at q
  split at q
  · obtain ⟨w, rfl, h⟩ := rd1 p
    obtain ⟨a, vs, rfl, h1, h2⟩ := h.lst
    exact ⟨a, vs, rfl, .inl ⟨hF ▸ h1, PostE.newT q r h2⟩⟩
  · obtain ⟨w, rfl, h⟩ := rd1 p
    obtain ⟨a, vs, e1, h1, h2⟩ := h.tup r.ex
    subst e1
    exact ⟨a, vs, rfl, .inr ⟨hF ▸ h1, PostE.ps q r h⟩⟩
  · exact q.elim
theorem je_list {e : Expr} {o : Opn} {p pos : Pos} (hF : F.K = X.K) (hg : Gl X "list") (hm : X.mg "list" = none) (ha : JA X F W [e] [o]) (he : starEach [e] X.env = (false, eval e X.env) :: starEach [] X.env := by rfl) (hpl : (backTo pos (starEach [] X.env)).any (·.1) = false := by rfl) : JE X F W (.Call (.Name "list" p) [e] [] pos) (biE [o] listK) := by
  refine je_ty call_list_of hg hm (by decide +kernel) ha ?_ (by decide) (by decide) he hpl
  intro ws us G H σ st Q r p q
  unfold listK at q
  split at q
  · obtain ⟨w, rfl, h⟩ := rd1 p
    obtain ⟨a, vs, rfl, h1, h2⟩ := h.lst
    exact ⟨a, vs, rfl, .inl (hF ▸ h1), PostE.newL q r h2⟩
  · obtain ⟨w, rfl, h⟩ := rd1 p
    obtain ⟨a, vs, rfl, h1, h2⟩ := h.tup r.ex
    exact ⟨a, vs, rfl, .inr (hF ▸ h1), PostE.newL q r h2⟩
  · exact q.elim
/-! slices -/
def slK00 (us : List U) (st : Sg) : RE := match us with
  | [u] => slU u none none st
  | _ => .bad
def slK01 (us : List U) (st : Sg) : RE := match us with
  | [u, .dat (.int j)] => slU u none (some j) st
  | _ => .bad
def slK10 (us : List U) (st : Sg) : RE := match us with
  | [u, .dat (.int i)] => slU u (some i) none st
  | _ => .bad
def sl11E (o ol oh : Opn) : SE := fun st => match evA [o, ol] [] st with
  | .ok [a, .inr (.dat (.int i))] st1 => match evA [oh] [a] st1 with
    | .ok as st2 => match fetchAll st2 as with
      | some [u, .dat (.int j)] => slU u (some i) (some j) st2
      | _ => .bad
    | .exc c d st2 => .exc c d st2
    | .bad => .bad
  | .ok _ _ => .bad
  | .exc c d st1 => .exc c d st1
  | .bad => .bad
theorem je_sl00 {e : Expr} {o : Opn} {p2 pos : Pos} (hF : F.K = X.K) (he : JO X F W e o) : JE X F W (.Subscript e (.Slice none none none p2) pos) (biE [o] slK00) :=
  PE.imp (pe_slice (sl_list.or sl_tupN) he po_none po_none) fun σ H Q ⟨G, st, r, h⟩ => by
    have z := biE_ok (R := fun ws H' => match ws with | [x] => rSlL X.K x none none H' Q ∨ rSlN X.K x none none H' Q | _ => True) r h fun ws us G' H' st' e r' p q => by
      unfold slK00 at q
      split at q
      · obtain ⟨x, rfl, h1⟩ := rd1 p
        exact hF ▸ sl_ok r' h1 q
      · exact q.elim
    exact z
theorem je_sl01 {e hi : Expr} {o oh : Opn} {p2 pos : Pos} (hF : F.K = X.K) (he : JO X F W e o) (hh : JO X F W hi oh) : JE X F W (.Subscript e (.Slice none (some hi) none p2) pos) (biE [o, oh] slK01) :=
  PE.imp (pe_slice (sl_list.or sl_tupN) he po_none (po_some hh)) fun σ H Q ⟨G, st, r, h⟩ => by
    have z := biE_ok (R := fun ws H' => match ws with | [x, y] => ∃ i, y = .int i ∧ (rSlL X.K x none (some i) H' Q ∨ rSlN X.K x none (some i) H' Q) | _ => True) r h fun ws us G' H' st' e r' p q => by
      unfold slK01 at q
      split at q
      · obtain ⟨x, y, rfl, h1, h2⟩ := rd2 p
        exact ⟨_, h2.int, hF ▸ sl_ok r' h1 q⟩
      · exact q.elim
    exact z
theorem je_sl10 {e lo : Expr} {o ol : Opn} {p2 pos : Pos} (hF : F.K = X.K) (he : JO X F W e o) (hh : JO X F W lo ol) : JE X F W (.Subscript e (.Slice (some lo) none none p2) pos) (biE [o, ol] slK10) :=
  PE.imp (pe_slice (sl_list.or sl_tupN) he (po_some hh) po_none) fun σ H Q ⟨G, st, r, h⟩ => by
    have z := biE_ok (R := fun ws H' => match ws with | [x, y] => ∃ i, y = .int i ∧ (rSlL X.K x (some i) none H' Q ∨ rSlN X.K x (some i) none H' Q) | _ => True) r h fun ws us G' H' st' e r' p q => by
      unfold slK10 at q
      split at q
      · obtain ⟨x, y, rfl, h1, h2⟩ := rd2 p
        exact ⟨_, h2.int, hF ▸ sl_ok r' h1 q⟩
      · exact q.elim
    exact z
theorem rd3 {K : PySem.W.Frag} {ws : List V} {w t : U} (p : RdAll K G H ws [u, w, t]) : ∃ x y z, ws = [x, y, z] ∧ RdU K G H x u ∧ RdU K G H y w ∧ RdU K G H z t := by
  cases p with
  | cons p q =>
    obtain ⟨x, y, rfl, h1, h2⟩ := rd2 q
    exact ⟨_, x, y, rfl, p, h1, h2⟩
theorem je_sl11 {e lo hi : Expr} {o ol oh : Opn} {p2 pos : Pos} (hF : F.K = X.K) (he : JO X F W e o) (hl : JO X F W lo ol) (hh : JO X F W hi oh) : JE X F W (.Subscript e (.Slice (some lo) (some hi) none p2) pos) (sl11E o ol oh) :=
  PE.imp (pe_slice (sl_list.or sl_tupN) he (po_some hl) (po_some hh)) fun σ H Q ⟨G, st, r, h⟩ => by
    have z : tAs F W [o, ol] σ H fun ws H1 => match ws with | [x, y] => ∃ i, y = .int i ∧ tO F W oh σ H1 fun z H2 => ∃ j, z = .int j ∧ (rSlL X.K x (some i) (some j) H2 Q ∨ rSlN X.K x (some i) (some j) H2 Q) | _ => True := by
      refine evA_ok r .nil ?_
      unfold sl11E at h
      generalize evA [o, ol] [] st = w at h ⊢
      cases w with
      | ok as st1 =>
        intro ws G1 H1 l e1 r1 p
        cases p with
        | nil => trivial
        | @cons x0 b0 l1 l2 p1 t =>
          cases t with
          | nil => trivial
          | cons p2 t =>
            cases t with
            | cons _ _ => trivial
            | nil =>
              split at h
              · rename_i a i st2 e2
                cases e2
                have p3 : Dp F.K G1 _ (.int i) := p2
                refine ⟨i, by cases p3; rfl, ?_⟩
                have z2 : tAs F W [oh] σ H1 fun zs H2 => match zs with | [z] => ∃ j, z = .int j ∧ (rSlL X.K x0 (some i) (some j) H2 Q ∨ rSlN X.K x0 (some i) (some j) H2 Q) | _ => True := by
                  refine evA_ok r1 (.cons p1 .nil) ?_
                  have h := h.mono e1
                  generalize evA [oh] [b0] st1 = w2 at h ⊢
                  cases w2 with
                  | ok as2 st3 =>
                    intro zs G2 H2 l2 e2 r2 pp
                    dsimp only at h
                    split at h
                    · rename_i u j e3
                      have q := rdAll_of r2 pp e3
                      obtain ⟨x, y, e4, h1, h2⟩ := rd2 q
                      cases zs with
                      | nil => trivial
                      | cons z zs =>
                        cases zs with
                        | cons _ _ => trivial
                        | nil =>
                          simp only [List.cons_append, List.nil_append, List.cons.injEq, and_true] at e4
                          obtain ⟨e5, e6⟩ := e4
                          subst e5 e6
                          exact ⟨j, h2.int, hF ▸ sl_ok r2 h1 (PostE.mono e2 h)⟩
                    · exact h.elim
                  | exc c d st3 => exact h
                  | bad => exact h
                exact z2
              · exact h.elim
              · rename_i e2; cases e2
              · rename_i e2; cases e2
      | exc c d st1 => exact h
      | bad => exact h
    exact z
end
end Pl

namespace Pl
open PySem L2 PySem.Spec PyProof.Rows

/-! isinstance -/
def tyD : D → String
  | .none => "NoneType"
  | .bool _ => "bool"
  | .int _ => "int"
  | .str _ => "str"
  | .list _ => "list"
  | .tuple _ => "tuple"
  | .dict _ => "dict"
def isInt : D → Bool
  | .int _ => true
  | .bool _ => true
  | _ => false
def isBool : D → Bool
  | .bool _ => true
  | _ => false
def isTup : D → Bool
  | .tuple _ => true
  | _ => false
def isLst : D → Bool
  | .list _ => true
  | _ => false
def isStr : D → Bool
  | .str _ => true
  | _ => false
def isSeq : D → Bool
  | .list _ => true
  | .tuple _ => true
  | _ => false
theorem kit_int : ∀ d : D, kitB (tyD d) "int" = some (isInt d)
  | .none => (by decide +kernel : kitB "NoneType" "int" = some false)
  | .bool _ => (by decide +kernel : kitB "bool" "int" = some true)
  | .int _ => (by decide +kernel : kitB "int" "int" = some true)
  | .str _ => (by decide +kernel : kitB "str" "int" = some false)
  | .list _ => (by decide +kernel : kitB "list" "int" = some false)
  | .tuple _ => (by decide +kernel : kitB "tuple" "int" = some false)
  | .dict _ => (by decide +kernel : kitB "dict" "int" = some false)
theorem kit_bool : ∀ d : D, kitB (tyD d) "bool" = some (isBool d)
  | .none => (by decide +kernel : kitB "NoneType" "bool" = some false)
  | .bool _ => (by decide +kernel : kitB "bool" "bool" = some true)
  | .int _ => (by decide +kernel : kitB "int" "bool" = some false)
  | .str _ => (by decide +kernel : kitB "str" "bool" = some false)
  | .list _ => (by decide +kernel : kitB "list" "bool" = some false)
  | .tuple _ => (by decide +kernel : kitB "tuple" "bool" = some false)
  | .dict _ => (by decide +kernel : kitB "dict" "bool" = some false)
theorem kit_tup : ∀ d : D, kitB (tyD d) "tuple" = some (isTup d)
  | .none => (by decide +kernel : kitB "NoneType" "tuple" = some false)
  | .bool _ => (by decide +kernel : kitB "bool" "tuple" = some false)
  | .int _ => (by decide +kernel : kitB "int" "tuple" = some false)
  | .str _ => (by decide +kernel : kitB "str" "tuple" = some false)
  | .list _ => (by decide +kernel : kitB "list" "tuple" = some false)
  | .tuple _ => (by decide +kernel : kitB "tuple" "tuple" = some true)
  | .dict _ => (by decide +kernel : kitB "dict" "tuple" = some false)
theorem kit_lst : ∀ d : D, kitB (tyD d) "list" = some (isLst d)
  | .none => (by decide +kernel : kitB "NoneType" "list" = some false)
  | .bool _ => (by decide +kernel : kitB "bool" "list" = some false)
  | .int _ => (by decide +kernel : kitB "int" "list" = some false)
  | .str _ => (by decide +kernel : kitB "str" "list" = some false)
  | .list _ => (by decide +kernel : kitB "list" "list" = some true)
  | .tuple _ => (by decide +kernel : kitB "tuple" "list" = some false)
  | .dict _ => (by decide +kernel : kitB "dict" "list" = some false)
theorem kit_str : ∀ d : D, kitB (tyD d) "str" = some (isStr d)
  | .none => (by decide +kernel : kitB "NoneType" "str" = some false)
  | .bool _ => (by decide +kernel : kitB "bool" "str" = some false)
  | .int _ => (by decide +kernel : kitB "int" "str" = some false)
  | .str _ => (by decide +kernel : kitB "str" "str" = some true)
  | .list _ => (by decide +kernel : kitB "list" "str" = some false)
  | .tuple _ => (by decide +kernel : kitB "tuple" "str" = some false)
  | .dict _ => (by decide +kernel : kitB "dict" "str" = some false)
def isDicD : D → Bool
  | .dict _ => true
  | _ => false
theorem tyX_of {K : PySem.W.Frag} {H : Hp} {x : V} {d : D} (h : Dp K H x d) (hd : isDicD d = false) : TyX K H x (.type (tyD d)) := by
  cases h with
  | non => exact .base .non
  | bl b => exact .base (.bl b)
  | int i => exact .base (.int i)
  | str s => exact .base (.str s)
  | lst hs ha =>
    rcases hs with (hs | ⟨o, hs⟩) | ⟨o, its, n, hk, hc, _⟩
    · exact .base (.lst hs)
    · exact .base (.frz hs)
    · exact .kList hk hc
  | tup hs ha =>
    rcases hs with ⟨o, hs, _⟩ | ⟨o, its, n, hk, _, hc, _⟩
    · exact .fTuple hs
    · exact .kTuple hk hc
  | pair _ _ _ => cases hd
def isiU (g : D → Bool) (u : U) (st : Sg) : RE := match u with
  | .dat d => if isDicD d = false then .ok false (.dat (.bool (g d))) st else .bad
  | _ => .bad
section
variable {X : Cx} {F : Fr} {W : Wx} {G G' H H' : Hp} {σ : St} {st st' : Sg} {Q : VK} {v : V} {u : U} {ds : List D} {vs : List V}
theorem je_isi {T : Str} {t : String} {g : D → Bool} {a : Expr} {o : Opn} {p p2 pos : Pos} (hF : F.K = X.K) (hk : ∀ d, kitB (tyD d) t = some (g d)) (hg : Gl X "isinstance") (hm : X.mg "isinstance" = none) (hg2 : Gl X T) (hm2 : X.mg T = none) (hv2 : bootBuiltins T = some (.type t))
    (ha : JO X F W a o) (hn : T ≠ "__name__" := by decide) (hd : (T == ("__debug__" : Str)) = false := by decide)
    (h1 : starEach [a, .Name T p2] X.env = (false, eval a X.env) :: starEach [.Name T p2] X.env := by rfl) (h2 : starEach [.Name T p2] X.env = (false, eval (.Name T p2) X.env) :: starEach [] X.env := by rfl) (hpl : (backTo pos (starEach [.Name T p2] X.env)).any (·.1) = false := by rfl) :
    JE X F W (.Call (.Name "isinstance" p) [a, .Name T p2] [] pos) (ev1 o (isiU g)) :=
  PE.imp (pe_callB call_isi hg hm (by decide +kernel) (pa_cons ha (pa_cons (pe_bltn (v := .ty t) hg2 hm2 hv2 rfl hn hd) pa_nil h2) h1) (by decide) (by decide) h1 hpl) fun σ H Q ⟨G, st, r, h⟩ => ev1_ok r h fun x u G' H' st' e r' h1 q => by
    unfold isiU at q
    split at q
    · rename_i d
      split at q
      · rename_i hd
        have z := h1.dp r'.ex
        rw [hF] at z
        exact ⟨x, .ty t, _, _, g d, rfl, .ty t, tyX_of z hd, kit_ty (hk d), PostE.ps q r' (.bl _)⟩
      · exact q.elim
    · exact q.elim
theorem je_isi2 {T T2 : Str} {t t2 : String} {g g1 g2 : D → Bool} {a : Expr} {o : Opn} {p p2 p3 pt pos : Pos} {kt} (hF : F.K = X.K) (hk : ∀ d, kitB (tyD d) t = some (g1 d)) (hk2 : ∀ d, kitB (tyD d) t2 = some (g2 d)) (hgg : ∀ d, g d = (g1 d || g2 d)) (hg : Gl X "isinstance") (hm : X.mg "isinstance" = none)
    (hgT : Gl X T) (hmT : X.mg T = none) (hvT : bootBuiltins T = some (.type t)) (hgT2 : Gl X T2) (hmT2 : X.mg T2 = none) (hvT2 : bootBuiltins T2 = some (.type t2))
    (ha : JO X F W a o) (hn : T ≠ "__name__" := by decide) (hd : (T == ("__debug__" : Str)) = false := by decide) (hn2 : T2 ≠ "__name__" := by decide) (hd2 : (T2 == ("__debug__" : Str)) = false := by decide)
    (h1 : starEach [a, .Tuple [.Name T p2, .Name T2 p3] kt pt] X.env = (false, eval a X.env) :: starEach [.Tuple [.Name T p2, .Name T2 p3] kt pt] X.env := by rfl) (h2 : starEach [.Tuple [.Name T p2, .Name T2 p3] kt pt] X.env = (false, eval (.Tuple [.Name T p2, .Name T2 p3] kt pt) X.env) :: starEach [] X.env := by rfl)
    (h3 : starEach [.Name T p2, .Name T2 p3] X.env = (false, eval (.Name T p2) X.env) :: starEach [.Name T2 p3] X.env := by rfl) (h4 : starEach [.Name T2 p3] X.env = (false, eval (.Name T2 p3) X.env) :: starEach [] X.env := by rfl)
    (hpl : (backTo pos (starEach [.Tuple [.Name T p2, .Name T2 p3] kt pt] X.env)).any (·.1) = false := by rfl) :
    JE X F W (.Call (.Name "isinstance" p) [a, .Tuple [.Name T p2, .Name T2 p3] kt pt] [] pos) (ev1 o (isiU g)) :=
  PE.imp (pe_callB call_isiT hg hm (by decide +kernel) (pa_cons ha (pa_cons (pe_tup (pa_cons (pe_bltn (v := .ty t) hgT hmT hvT rfl hn hd) (pa_cons (pe_bltn (v := .ty t2) hgT2 hmT2 hvT2 rfl hn2 hd2) pa_nil h4) h3)) pa_nil h2) h1) (by decide) (by decide) h1 hpl) fun σ H Q ⟨G, st, r, h⟩ => ev1_ok r h fun x u G' H' st' e r' h1 q => by
    unfold isiU at q
    split at q
    · rename_i d
      split at q
      rotate_left
      · exact q.elim
      rename_i hd
      refine ⟨by show 2 ≤ sizeLine; rw [sizeLine_eq]; decide, fun q0 hq => ?_⟩
      have z := dp_mono (Ex.new (o := .tup [.ty t, .ty t2]) hq) _ (h1.dp r'.ex)
      rw [hF] at z
      refine ⟨x, q0, [.ty t, .ty t2], _, [.type t, .type t2], g d, rfl, upd_same, .cons (.ty t) (.cons (.ty t2) .nil), tyX_of z hd, ?_, PostE.ps q (r'.new hq) (.bl _)⟩
      rw [hgg]
      refine kitAny_cons (b := g1 d) (kit_ty (hk d)) (fun e => ?_) (fun e => by rw [e]; rfl)
      rw [e, Bool.false_or]
      exact kitAny_cons (b := g2 d) (kit_ty (hk2 d)) (fun e => by rw [e]; exact kitAny_nil) (fun e => e)
    · exact q.elim

/-! lists of one's own, changed -/
theorem SR.mut_list {i : Nat} {s : Sl} (r : SR F G H σ st) (hs : st[i]? = some s) (ho : s.own = some (.dat (.list ds))) : ∃ a vs, slv σ i = some (.ref a) ∧ H a = some (.lst vs) ∧ DpAll F.K G vs ds ∧
    ∀ vs' ds', DpAll F.K G vs' ds' → SR F G (upd H a (.lst vs')) σ (st.set i (s.re (.dat (.list ds')))) := by
  obtain ⟨v, fp, hv, o, k⟩ := r.mutate hs ho
  obtain ⟨a, vs, e1, e2, e3, e4, e5⟩ := o
  subst e1
  refine ⟨a, vs, hv, e2, e4, fun vs' ds' h => k _ _ ⟨a, vs', rfl, upd_same, e3, h, e5⟩ (fun b hb o eo => ?_) (fun b hb => ?_)⟩
  · rw [upd_ne (fun z => hb (by rw [e5, z]; simp))]; exact eo
  · by_cases z : b = a
    · subst z; rw [upd_same] at hb; cases hb
    · rw [upd_ne z] at hb; exact hb
def ownL (st : Sg) (i : Nat) : Option (Sl × List D) := match st[i]? with
  | some s => match s.own with
    | some (.dat (.list ds)) => some (s, ds)
    | _ => none
  | none => none
theorem ownL_some {i : Nat} {s : Sl} (h : ownL st i = some (s, ds)) : st[i]? = some s ∧ s.own = some (.dat (.list ds)) := by
  unfold ownL at h
  split at h
  · rename_i s' e
    split at h
    · rename_i ds' e2
      cases h
      exact ⟨e, e2⟩
    · cases h
  · cases h
/-- slot i holds a list of its own now; then f; then the list as it is then -/
def onL (i : Nat) (f : SE) (k : Sl → List D → D → Sg → RE) : SE := fun st => match ownL st i with
  | some _ => evO (.ev f) st fun a st' => match a, ownL st' i with
    | .inr (.dat d), some (s, ds) => k s ds d st'
    | _, _ => .bad
  | none => .bad
theorem onL_ok {i : Nat} {f : SE} {k : Sl → List D → D → Sg → RE} {rr : V → List V → Hp → VK → Prop} (r : SR F G H σ st) (h : PostE F W G σ Q (onL i f k st))
    (hk : ∀ {s ds d a vs x G' H' st'}, SR F G' H' σ st' → st'[i]? = some s → s.own = some (.dat (.list ds)) → slv σ i = some (.ref a) → H' a = some (.lst vs) → DpAll F.K G' vs ds → Dp F.K G' x d → PostE F W G' σ Q (k s ds d st') → rr (.ref a) [x] H' Q) :
    tBM F.K "list" rr (tVar i) (tCons (tE F W f) tNil) σ H Q := by
  unfold onL at h
  split at h
  · rename_i z e
    obtain ⟨s, ds⟩ := z
    obtain ⟨e1, e2⟩ := ownL_some e
    obtain ⟨a, vs, e3, e4, e5, _⟩ := r.mut_list e1 e2
    refine ⟨.ref a, slv_some e3, .inl ⟨rfl, vs, SqL.of e4⟩, ?_⟩
    refine evO_ok (o := .ev f) (R := fun x H' => rr (.ref a) [x] H' Q) r h fun x ac G' H' st' e r' p q => ?_
    split at q
    · rename_i d s' ds' e6
      obtain ⟨e7, e8⟩ := ownL_some e6
      obtain ⟨a', vs', e9, e10, e11, _⟩ := r'.mut_list e7 e8
      rw [e3] at e9; cases e9
      exact hk r' e7 e8 e3 e10 e11 p q
    · exact q.elim
  · exact h.elim
def appK (i : Nat) (s : Sl) (ds : List D) (d : D) (st : Sg) : RE := if ds.length < LINE then .ok false (.dat .none) (st.set i (s.re (.dat (.list (ds ++ [d]))))) else .bad
theorem je_append {i : Nat} {o e : Expr} {f : SE} {apos cpos : Pos} (hF : F.K = X.K) (ho : PE X o (tVar i)) (he : JE X F W e f)
    (hbase : attributeBase o "append" X.env (eval o X.env) = eval o X.env := by rfl)
    (hfew : ((backTo cpos (starEach [e] X.env)).all (fun x => !x.1) && (backToKw cpos (keywordEach [] X.env)).all (fun x => x.1.isSome) && decide ([e].length + ([] : List Keyword).length + (if ([] : List Keyword).isEmpty then 0 else 1) < 30)) = true := by rfl)
    (hline : (apos.endLine == cpos.line) = true := by rfl) (hs : starEach [e] X.env = (false, eval e X.env) :: starEach [] X.env := by rfl) (hplain : (backTo cpos (starEach [] X.env)).any (·.1) = false := by rfl) :
    JE X F W (.Call (.Attribute o "append" apos) [e] [] cpos) (onL i f (appK i)) :=
  PE.imp (pe_bm PySem.F.plainAttrs_list PySem.F.slot_list_append PySem.F.type_list_append mt_append ho (pa_cons he pa_nil hs) hbase hfew hline hs hplain) fun σ H Q ⟨G, st, r, h⟩ => by
    rw [← hF]
    refine onL_ok r h fun {s ds d a vs x G' H' st'} r' e1 e2 e3 e4 e5 p q => ?_
    unfold appK at q
    split at q
    · rename_i hl
      obtain ⟨a', vs', e6, e7, e8, k⟩ := r'.mut_list e1 e2
      rw [e3] at e6; cases e6
      rw [e4] at e7; cases e7
      exact ⟨a, vs, x, rfl, rfl, e4, lt_line (by rw [Dps.length e5]; exact hl), q _ G' _ (Ex.refl _) ((k _ _ (Dps.append e5 (.cons p .nil))).push_ps (u := .dat .none) .non)⟩
    · exact q.elim
/-- pop() -/
def popE (i : Nat) : SE := fun st => match ownL st i with
  | some (s, ds) => match ds[ds.length - 1]? with
    | some d => .ok false (.dat d) (st.set i (s.re (.dat (.list ds.dropLast))))
    | none => .bad
  | none => .bad
theorem je_pop {i : Nat} {o : Expr} {apos cpos : Pos} (hF : F.K = X.K) (ho : PE X o (tVar i)) (hbase : attributeBase o "pop" X.env (eval o X.env) = eval o X.env := by rfl) (hline : (apos.endLine == cpos.line) = true := by rfl) : JE X F W (.Call (.Attribute o "pop" apos) [] [] cpos) (popE i) :=
  PE.imp (pe_bm0 PySem.F.plainAttrs_list PySem.F.slot_list_pop PySem.F.type_list_pop mt_pop ho hbase hline) fun σ H Q ⟨G, st, r, h⟩ => by
    unfold popE at h
    split at h
    · rename_i s ds e
      split at h
      · rename_i d hd
        obtain ⟨e1, e2⟩ := ownL_some e
        obtain ⟨a, vs, e3, e4, e5, k⟩ := r.mut_list e1 e2
        obtain ⟨v, e6, p⟩ := Dps.get e5 hd
        rw [← Dps.length e5] at e6
        exact ⟨.ref a, slv_some e3, .inl ⟨rfl, vs, SqL.of e4⟩, a, vs, v, rfl, rfl, e4, e6, h _ G _ (Ex.refl _) ((k _ _ (Dps.dropLast e5)).push_ps (u := .dat d) p)⟩
      · exact h.elim
    · exact h.elim
/-- pop(i) -/
def popK (i : Nat) (s : Sl) (ds : List D) (d : D) (st : Sg) : RE := match d with
  | .int j => if small j then match ixN ds.length j with
    | some k => match ds[k]? with
      | some y => .ok false (.dat y) (st.set i (s.re (.dat (.list (ds.eraseIdx k)))))
      | none => .bad
    | none => .bad
    else .bad
  | _ => .bad
theorem je_popAt {i : Nat} {o e : Expr} {f : SE} {apos cpos : Pos} (hF : F.K = X.K) (ho : PE X o (tVar i)) (he : JE X F W e f)
    (hbase : attributeBase o "pop" X.env (eval o X.env) = eval o X.env := by rfl)
    (hfew : ((backTo cpos (starEach [e] X.env)).all (fun x => !x.1) && (backToKw cpos (keywordEach [] X.env)).all (fun x => x.1.isSome) && decide ([e].length + ([] : List Keyword).length + (if ([] : List Keyword).isEmpty then 0 else 1) < 30)) = true := by rfl)
    (hline : (apos.endLine == cpos.line) = true := by rfl) (hs : starEach [e] X.env = (false, eval e X.env) :: starEach [] X.env := by rfl) (hplain : (backTo cpos (starEach [] X.env)).any (·.1) = false := by rfl) :
    JE X F W (.Call (.Attribute o "pop" apos) [e] [] cpos) (onL i f (popK i)) :=
  PE.imp (pe_bm PySem.F.plainAttrs_list PySem.F.slot_list_pop PySem.F.type_list_pop mt_popAt ho (pa_cons he pa_nil hs) hbase hfew hline hs hplain) fun σ H Q ⟨G, st, r, h⟩ => by
    rw [← hF]
    refine onL_ok r h fun {s ds d a vs x G' H' st'} r' e1 e2 e3 e4 e5 p q => ?_
    unfold popK at q
    split at q
    · rename_i j
      split at q
      · rename_i hsm
        have hsm' := of_decide_eq_true hsm
        split at q
        · rename_i k hk
          split at q
          · rename_i y hy
            obtain ⟨a', vs', e6, e7, e8, kk⟩ := r'.mut_list e1 e2
            rw [e3] at e6; cases e6
            rw [e4] at e7; cases e7
            obtain ⟨w, e9, pw⟩ := Dps.get e5 hy
            have hx : x = .int j := by cases p; rfl
            subst hx
            refine ⟨a, vs, j, k, w, rfl, rfl, e4, by omega, by omega, ?_, e9, q _ G' _ (Ex.refl _) ((kk _ _ (Dps.eraseIdx k e5)).push_ps (u := .dat y) pw)⟩
            rw [Dps.length e5]
            exact (ixN_seq hk).1
          · exact q.elim
        · exact q.elim
      · exact q.elim
    · exact q.elim
/-- x[i] = e on a list of one's own: e, then x, then i -/
def setIx (i : Nat) (f g : SE) : SS := fun st => match f st with
  | .ok o (.dat d) st1 => if o && !frzU (.dat d) then .bad else match ownL st1 i with
    | some _ => match evO (.ev g) st1 (fun a st2 => match a, ownL st2 i with
        | .inr (.dat (.int j)), some (s, ds) => match ixN ds.length j with
          | some k => .ok false (.dat .none) (st2.set i (s.re (.dat (.list (ds.set k d)))))
          | none => .bad
        | _, _ => .bad) with
      | .ok _ _ st3 => .nx st3
      | .exc c d st3 => .exc c d st3
      | .bad => .bad
    | none => .bad
  | .ok _ _ _ => .bad
  | .exc c d st1 => .exc c d st1
  | .bad => .bad
theorem js_setIx {i : Nat} {o ix e : Expr} {f g : SE} {tpos pos : Pos} (ho : PE X o (tVar i)) (hi : JE X F W ix g) (he : JE X F W e f)
    (ha : ∀ v, assign (.Subscript o ix tpos) X.env v = (do
      let ov ← holding [v] (eval o X.env)
      let iv ← holding [v, ov] (eval ix X.env)
      standAt tpos
      holding [v, ov, iv] (setItem ov iv v)
      release [v, ov, iv] []) := by intro _; rfl)
    (hs : swapsWithSole [.Subscript o ix tpos] e pos.line X.env = pure false := by rfl) (hw : swappedStores [.Subscript o ix tpos] e X.env = pure none := by rfl)
    (h1 : (assignEach [.Subscript o ix tpos] X.env).map (·.2) = [assign (.Subscript o ix tpos) X.env] := by rfl) : JS X F W (.Assign [.Subscript o ix tpos] e pos) (setIx i f g) :=
  PS.imp (ps_asg he (pg_sub ho hi set_list ha) hs hw h1) fun DE σ H ⟨G, st, r, q⟩ => by
    refine ⟨G, st, r, ?_⟩
    unfold setIx at q
    generalize f st = z at q ⊢
    have key : ∀ (d : PyData) (st1 : Sg) (v : V) (G1 H1 : Hp), Ex G G1 → SR F G1 H1 σ st1 → Dp F.K G1 v d → PostS F W G σ.length DE (match ownL st1 i with
      | some _ => match evO (.ev g) st1 (fun a st2 => match a, ownL st2 i with
          | .inr (.dat (.int j)), some (s, ds) => match ixN ds.length j with
            | some k => .ok false (.dat .none) (st2.set i (s.re (.dat (.list (ds.set k d)))))
            | none => .bad
          | _, _ => .bad) with
        | .ok _ _ st3 => .nx st3
        | .exc c d st3 => .exc c d st3
        | .bad => .bad
      | none => .bad) → gSub (tVar i) (tE F W g) rSetL v σ H1 DE.nx := by
      intro d st1 v G1 H1 e1 r1 p q
      split at q
      · rename_i z e
        obtain ⟨s, ds⟩ := z
        obtain ⟨e2, e3⟩ := ownL_some e
        obtain ⟨a, vs, e4, e5, e6, _⟩ := r1.mut_list e2 e3
        refine ⟨.ref a, slv_some e4, ?_⟩
        have q' : PostE F W G1 σ (fun _ H2 => DE.nx σ H2) (evO (.ev g) st1 (fun a st2 => match a, ownL st2 i with
          | .inr (.dat (.int j)), some (s, ds) => match ixN ds.length j with
            | some k => .ok false (.dat .none) (st2.set i (s.re (.dat (.list (ds.set k d)))))
            | none => .bad
          | _, _ => .bad)) := by
          generalize (evO (.ev g) st1 (fun a st2 => match a, ownL st2 i with
            | .inr (.dat (.int j)), some (s, ds) => match ixN ds.length j with
              | some k => .ok false (.dat .none) (st2.set i (s.re (.dat (.list (ds.set k d)))))
              | none => .bad
            | _, _ => .bad)) = w at q ⊢
          cases w with
          | ok o u st3 => exact fun v G' H' e r => q σ G' H' rfl (e1.trans e) (r.pop sl_io)
          | exc c d st3 => exact (q σ rfl).mono e1
          | bad => exact q
        refine evO_ok (o := .ev g) (R := fun y H2 => rSetL (.ref a) y v H2 fun H3 => DE.nx σ H3) r1 q' fun y ac G2 H2 st2 e7 r2 p2 q2 => ?_
        split at q2
        · rename_i j s' ds' e8
          split at q2
          · rename_i k hk
            obtain ⟨e9, e10⟩ := ownL_some e8
            obtain ⟨a', vs', e11, e12, e13, kk⟩ := r2.mut_list e9 e10
            rw [e4] at e11; cases e11
            have hy : y = .int j := by have p3 : Dp F.K G2 y (.int j) := p2; cases p3; rfl
            subst hy
            exact ⟨a, vs', j, k, rfl, rfl, e12, by rw [Dps.length e13]; exact hk, q2 .non G2 _ (Ex.refl _) ((kk _ _ (Dps.set k e13 (dp_mono e7 _ p))).push_ps (u := .dat .none) .non)⟩
          · exact q2.elim
        · exact q2.elim
      · exact q.elim
    cases z with
    | ok o u st1 =>
      cases u with
      | dat d =>
        intro v G1 H1 e1 r1
        dsimp only at q
        split at q
        · exact q.elim
        · rename_i hc
          cases o with
          | false => exact key d st1 v G1 H1 e1 (r1.pop rfl) r1.last_ps q
          | true =>
            obtain ⟨G2, x, r2, p⟩ := r1.frz_last (by simpa using hc)
            exact key d st1 v G2 H1 (e1.trans x) r2 p q
      | _ => exact q.elim
    | exc c d st1 => exact q σ rfl
    | bad => exact q
end
end Pl

namespace Pl
open PySem L2 PySem.Spec PyProof.Rows

/-- a key: an int or a text; a tuple -/
def kx : D → Option (Key ⊕ NestedKey)
  | .int i => some (.inl (.inl i))
  | .str s => some (.inl (.inr s))
  | .tuple ds => match nksD ds with
    | some ks => if (NestedKey.tup ks).depth ≤ 8 then some (.inr (.tup ks)) else none
    | none => none
  | _ => none
theorem kx_kD (k : Key) : kx (kD k) = some (.inl k) := by cases k <;> rfl
theorem kx_tD (z : GK) : kx z.d = some (.inr z.1) := by
  obtain ⟨z, h1, h2, ks, rfl⟩ := z
  show kx (NestedKey.tup ks).data = some (.inr (.tup ks))
  have e0 : (NestedKey.tup ks).data = PyData.tuple (NestedKey.datas ks) := by rw [NestedKey.data]
  rw [e0] at h1 ⊢
  unfold nkD at h1
  obtain ⟨ks', e1, e2⟩ := Option.map_eq_some_iff.mp h1
  cases e2
  unfold kx
  dsimp only
  rw [e1]
  dsimp only
  rw [if_pos h2]
theorem kx_inr {k : D} {z : NestedKey} (h : kx k = some (.inr z)) : ∃ g : GK, g.1 = z ∧ k = g.d := by
  unfold kx at h
  split at h
  · cases h
  · cases h
  · rename_i ds
    split at h
    · rename_i ks e
      split at h
      · rename_i hd
        cases h
        have e1 : nkD (.tuple ds) = some (.tup ks) := by unfold nkD; rw [e]; rfl
        have e2 : PyData.tuple ds = (NestedKey.tup ks).data := nkD_data _ e1
        exact ⟨⟨.tup ks, by rw [← e2]; exact e1, hd, ks, rfl⟩, rfl, e2⟩
      · cases h
    · cases h
  · cases h
def dGet (kvs : List (D × D)) (k : D) : Option D := (kvs.find? fun p => decide (kx p.1 = kx k)).map (·.2)
def dPut (kvs : List (D × D)) (k v : D) : List (D × D) :=
  if (kvs.any fun p => decide (kx p.1 = kx k)) = true then kvs.map (fun p => if kx p.1 = kx k then (p.1, v) else p) else kvs ++ [(k, v)]
/-- keys of one kind -/
def kinK : Key ⊕ NestedKey → Bool
  | .inl _ => false
  | .inr _ => true
def kin (kvs : List (D × D)) (k : D) : Bool := match kx k with
  | some z => match kvs with
    | [] => true
    | p :: _ => match kx p.1 with
      | some y => kinK y == kinK z
      | none => false
  | none => false

section
variable {κ : Type} [DecidableEq κ] {f : κ → D} {K : PySem.W.Frag} {G : Hp}
def MRel (K : PySem.W.Frag) (G : Hp) (f : κ → D) (m : List (κ × V)) (kvs : List (D × D)) : Prop := kvs.map (·.1) = m.map (fun p => f p.1) ∧ DpAll K G (m.map (·.2)) (kvs.map (·.2))
theorem MRel.cons {m : List (κ × V)} {kvs : List (D × D)} {p : κ × V} {q : D × D} (h : MRel K G f (p :: m) (q :: kvs)) : q.1 = f p.1 ∧ Dp K G p.2 q.2 ∧ MRel K G f m kvs := by
  obtain ⟨h1, h2⟩ := h
  simp only [List.map_cons, List.cons.injEq] at h1
  rw [List.map_cons, List.map_cons] at h2
  cases h2 with
  | cons a b => exact ⟨h1.1, a, h1.2, b⟩
theorem MRel.mk {m : List (κ × V)} {kvs : List (D × D)} {p : κ × V} {q : D × D} (h1 : q.1 = f p.1) (h2 : Dp K G p.2 q.2) (h : MRel K G f m kvs) : MRel K G f (p :: m) (q :: kvs) :=
  ⟨by rw [List.map_cons, List.map_cons, h1, h.1], by rw [List.map_cons, List.map_cons]; exact .cons h2 h.2⟩
theorem MRel.length {m : List (κ × V)} {kvs : List (D × D)} (h : MRel K G f m kvs) : kvs.length = m.length := by
  have := congrArg List.length h.1
  simpa using this
theorem mget (hf : ∀ a b, kx (f a) = kx (f b) ↔ a = b) (k : κ) : ∀ {m : List (κ × V)} {kvs : List (D × D)}, MRel K G f m kvs → (dGet kvs (f k) = none ∧ valV m k = none) ∨ ∃ d v, dGet kvs (f k) = some d ∧ valV m k = some v ∧ Dp K G v d
  | [], [], _ => .inl ⟨rfl, rfl⟩
  | [], q :: kvs, h => by have := h.length; simp at this
  | p :: m, [], h => by have := h.length; simp at this
  | p :: m, q :: kvs, h => by
    obtain ⟨h1, h2, h3⟩ := h.cons
    by_cases e : p.1 = k
    · refine .inr ⟨q.2, p.2, ?_, valV_pos e, h2⟩
      unfold dGet
      rw [List.find?_cons, h1, e]
      simp
    · have e' : ¬ kx q.1 = kx (f k) := by rw [h1]; exact fun z => e ((hf _ _).mp z)
      have := mget hf k h3
      rw [valV_neg e]
      have z : dGet (q :: kvs) (f k) = dGet kvs (f k) := by
        unfold dGet
        rw [List.find?_cons, decide_eq_false e']
      rw [z]
      exact this
theorem mput_any (hf : ∀ a b, kx (f a) = kx (f b) ↔ a = b) (k : κ) : ∀ {m : List (κ × V)} {kvs : List (D × D)}, MRel K G f m kvs → (kvs.any fun p => decide (kx p.1 = kx (f k))) = (m.any fun p => decide (p.1 = k))
  | [], [], _ => rfl
  | [], q :: kvs, h => by have := h.length; simp at this
  | p :: m, [], h => by have := h.length; simp at this
  | p :: m, q :: kvs, h => by
    obtain ⟨h1, h2, h3⟩ := h.cons
    rw [List.any_cons, List.any_cons, mput_any hf k h3, h1]
    congr 1
    by_cases e : p.1 = k
    · rw [decide_eq_true e, decide_eq_true ((hf _ _).mpr e)]
    · rw [decide_eq_false e, decide_eq_false (fun z => e ((hf _ _).mp z))]
theorem mput_map (hf : ∀ a b, kx (f a) = kx (f b) ↔ a = b) (k : κ) {v : V} {d : D} (hd : Dp K G v d) : ∀ {m : List (κ × V)} {kvs : List (D × D)}, MRel K G f m kvs → MRel K G f (m.map fun kv => if kv.1 = k then (kv.1, v) else kv) (kvs.map fun p => if kx p.1 = kx (f k) then (p.1, d) else p)
  | [], [], h => h
  | [], q :: kvs, h => by have := h.length; simp at this
  | p :: m, [], h => by have := h.length; simp at this
  | p :: m, q :: kvs, h => by
    obtain ⟨h1, h2, h3⟩ := h.cons
    rw [List.map_cons, List.map_cons]
    by_cases e : p.1 = k
    · rw [if_pos e, if_pos (by rw [h1]; exact (hf _ _).mpr e)]
      exact MRel.mk h1 hd (mput_map hf k hd h3)
    · rw [if_neg e, if_neg (by rw [h1]; exact fun z => e ((hf _ _).mp z))]
      exact MRel.mk h1 h2 (mput_map hf k hd h3)
theorem MRel.snoc {m : List (κ × V)} {kvs : List (D × D)} {k : κ} {v : V} {d : D} (h : MRel K G f m kvs) (hd : Dp K G v d) : MRel K G f (m ++ [(k, v)]) (kvs ++ [(f k, d)]) :=
  ⟨by rw [List.map_append, List.map_append, h.1]; rfl, by rw [List.map_append, List.map_append]; exact Dps.append h.2 (.cons hd .nil)⟩
theorem mput (hf : ∀ a b, kx (f a) = kx (f b) ↔ a = b) {k : κ} {v : V} {d : D} {m : List (κ × V)} {kvs : List (D × D)} (h : MRel K G f m kvs) (hd : Dp K G v d) : MRel K G f (putK m k v) (dPut kvs (f k) d) := by
  unfold putK dPut
  rw [mput_any hf k h]
  split
  · exact mput_map hf k hd h
  · exact h.snoc hd
end
theorem kD_inj (a b : Key) : kx (kD a) = kx (kD b) ↔ a = b := by
  rw [kx_kD, kx_kD]
  exact ⟨fun h => by cases h; rfl, fun h => by rw [h]⟩
theorem tD_inj (a b : GK) : kx (GK.d a) = kx (GK.d b) ↔ a = b := by
  rw [kx_tD, kx_tD]
  exact ⟨fun h => by cases a; cases b; cases h; rfl, fun h => by rw [h]⟩
def pm (m : List (GK × Addr × V)) : List (GK × V) := m.map fun x => (x.1, x.2.2)
theorem pm_len (m : List (GK × Addr × V)) : (pm m).length = m.length := List.length_map _
/-- where the keys stand -/
def KOk (K : PySem.W.Frag) (G : Hp) (m : List (GK × Addr × V)) : Prop := ∀ x ∈ m, Dp K G (.ref x.2.1) (GK.d x.1)
theorem KOk.mono {K : PySem.W.Frag} {G G' : Hp} {m : List (GK × Addr × V)} (e : Ex G G') (h : KOk K G m) : KOk K G' m := fun x hx => dp_mono e _ (h x hx)
theorem DicAt.cases {K : PySem.W.Frag} {G H : Hp} {a : Addr} {vs : List V} {kvs : List (D × D)} (h : DicAt K G H a (kvs.map (·.1)) vs) (d : DpAll K G vs (kvs.map (·.2))) :
    (∃ m, H a = some (.dK m) ∧ MRel K G kD m kvs) ∨ ∃ m, H a = some (DX a m) ∧ MRel K G GK.d (pm m) kvs ∧ KOk K G m := by
  rcases h with ⟨m, h1, h2, h3⟩ | ⟨m, h1, h2, h3, h4⟩
  · exact .inl ⟨m, h1, h2, h3 ▸ d⟩
  · refine .inr ⟨m, h1, ⟨?_, ?_⟩, h4⟩
    · rw [h2]; unfold pm; rw [List.map_map]; rfl
    · have e : (pm m).map (·.2) = vs := by rw [h3]; unfold pm; rw [List.map_map]; rfl
      rw [e]; exact d
theorem DicAt.ofK {K : PySem.W.Frag} {G H : Hp} {a : Addr} {kvs : List (D × D)} {m : List (Key × V)} (h : H a = some (.dK m)) (r : MRel K G kD m kvs) : ∃ vs, DicAt K G H a (kvs.map (·.1)) vs ∧ DpAll K G vs (kvs.map (·.2)) := ⟨_, .inl ⟨m, h, r.1, rfl⟩, r.2⟩
theorem DicAt.ofT {K : PySem.W.Frag} {G H : Hp} {a : Addr} {kvs : List (D × D)} {m : List (GK × Addr × V)} (h : H a = some (DX a m)) (r : MRel K G GK.d (pm m) kvs) (ok : KOk K G m) : ∃ vs, DicAt K G H a (kvs.map (·.1)) vs ∧ DpAll K G vs (kvs.map (·.2)) := by
  refine ⟨m.map (·.2.2), .inr ⟨m, h, ?_, rfl, ok⟩, ?_⟩
  · rw [r.1]; unfold pm; rw [List.map_map]; rfl
  · have e : (pm m).map (·.2) = m.map (·.2.2) := by unfold pm; rw [List.map_map]; rfl
    rw [← e]; exact r.2
/-- behind a put -/
def putM (m : List (GK × Addr × V)) (k : GK) (b : Addr) (v : V) : List (GK × Addr × V) :=
  if (m.any fun x => decide (x.1 = k)) = true then m.map (fun x => if x.1 = k then (x.1, x.2.1, v) else x) else m ++ [(k, b, v)]
theorem pm_put (m : List (GK × Addr × V)) (k : GK) (b : Addr) (v : V) : pm (putM m k b v) = putK (pm m) k v := by
  have e : ((pm m).any fun kv => decide (kv.1 = k)) = m.any fun x => decide (x.1 = k) := by unfold pm; rw [List.any_map]; rfl
  unfold putM putK
  rw [e]
  split
  · unfold pm
    rw [List.map_map, List.map_map]
    apply List.map_congr_left
    intro x _
    show (fun x : GK × Addr × V => (x.1, x.2.2)) (if x.1 = k then (x.1, x.2.1, v) else x) = _
    by_cases h : x.1 = k
    · rw [if_pos h]; show _ = if x.1 = k then (x.1, v) else (x.1, x.2.2); rw [if_pos h]
    · rw [if_neg h]; show _ = if x.1 = k then (x.1, v) else (x.1, x.2.2); rw [if_neg h]
  · unfold pm; rw [List.map_append]; rfl
theorem putM_len (m : List (GK × Addr × V)) (k : GK) (b : Addr) (v : V) : (putM m k b v).length ≤ m.length + 1 := by
  unfold putM
  split
  · rw [List.length_map]; omega
  · rw [List.length_append]; exact Nat.le_refl _
theorem KOk.put {K : PySem.W.Frag} {G : Hp} {m : List (GK × Addr × V)} {k : GK} {b : Addr} {v : V} (h : KOk K G m) (hb : Dp K G (.ref b) (GK.d k)) : KOk K G (putM m k b v) := fun x hx => by
  unfold putM at hx
  split at hx
  · obtain ⟨y, hy, e⟩ := List.mem_map.mp hx
    by_cases c : y.1 = k
    · rw [if_pos c] at e; subst e; exact h y hy
    · rw [if_neg c] at e; subst e; exact h y hy
  · rcases List.mem_append.mp hx with z | z
    · exact h x z
    · have e : x = (k, b, v) := by simpa using z
      subst e; exact hb
theorem XRel.at {k : GK} : ∀ {m : List (GK × Addr × V)} {xs : List (NestedKey × Addr × Value)}, XRel m xs → RelO (valV (pm m) k) ((atKey xs k.1).map (·.2))
  | _, _, .nil => True.intro
  | p :: m, q :: xs, .cons r t => by
    obtain ⟨e1, e2, e3⟩ := r
    unfold atKey
    rw [List.find?_cons]
    by_cases c : p.1 = k
    · have c' : q.1 = k.1 := by rw [← e1, c]
      rw [decide_eq_true c']
      show RelO (valV ((p.1, p.2.2) :: pm m) k) _
      rw [valV_pos c]
      exact e3
    · have c' : ¬ q.1 = k.1 := fun z => c (Subtype.ext (e1.trans z))
      rw [decide_eq_false c']
      show RelO (valV ((p.1, p.2.2) :: pm m) k) _
      rw [valV_neg c]
      exact XRel.at t
theorem XRel.any {k : GK} : ∀ {m : List (GK × Addr × V)} {xs : List (NestedKey × Addr × Value)}, XRel m xs → (m.any fun x => decide (x.1 = k)) = (atKey xs k.1).isSome
  | _, _, .nil => rfl
  | p :: m, q :: xs, .cons r t => by
    obtain ⟨e1, e2, e3⟩ := r
    unfold atKey
    rw [List.find?_cons, List.any_cons]
    by_cases c : p.1 = k
    · have c' : q.1 = k.1 := by rw [← e1, c]
      rw [decide_eq_true c, decide_eq_true c']; rfl
    · have c' : ¬ q.1 = k.1 := fun z => c (Subtype.ext (e1.trans z))
      rw [decide_eq_false c, decide_eq_false c', Bool.false_or]
      exact XRel.any t
theorem XRel.map {k : GK} {v : V} {r : Value} (hv : RelV v r) : ∀ {m : List (GK × Addr × V)} {xs : List (NestedKey × Addr × Value)}, XRel m xs → XRel (m.map fun x => if x.1 = k then (x.1, x.2.1, v) else x) (xs.map (putAt k.1 r))
  | _, _, .nil => .nil
  | p :: m, q :: xs, .cons e t => by
    obtain ⟨e1, e2, e3⟩ := e
    rw [List.map_cons, List.map_cons]
    refine .cons ?_ (XRel.map hv t)
    unfold putAt
    by_cases c : p.1 = k
    · have c' : q.1 = k.1 := by rw [← e1, c]
      rw [if_pos c, if_pos c']
      exact ⟨e1, e2, hv⟩
    · have c' : ¬ q.1 = k.1 := fun z => c (Subtype.ext (e1.trans z))
      rw [if_neg c, if_neg c']
      exact ⟨e1, e2, e3⟩
theorem XRel.put {k : GK} {b : Addr} {v : V} {r : Value} (hv : RelV v r) {m : List (GK × Addr × V)} {xs : List (NestedKey × Addr × Value)} (h : XRel m xs) : XRel (putM m k b v) (storedH xs k.1 b r) := by
  unfold putM storedH
  rw [h.any (k := k)]
  split
  · exact h.map hv
  · exact paired_app h (.cons ⟨rfl, rfl, hv⟩ .nil)
theorem XRel.hash (w w' : World) : ∀ {m : List (GK × Addr × V)} {xs : List (NestedKey × Addr × Value)}, XRel m xs → xs.map (entN w) = xs.map (entN w')
  | _, _, .nil => rfl
  | p :: m, q :: xs, .cons e t => by
    rw [List.map_cons, List.map_cons, XRel.hash w w' t]
    congr 1
    unfold entN
    rw [← e.1, p.1.hash w w']

/-! an empty dict is of either kind -/
section
variable {X : Cx} {pins : List (Addr × Obj)} {σ : St} {H : Hp} {s : Shared} {a : Addr}
/-- data as a key -/
theorem nest_of {A : Hp} (I : Inv X pins σ H s) (hA : Ex A H) : ∀ (n : Nat) (k : NestedKey) {v : V} {u : Value}, sizeOf k ≤ n → Dp X.K A v k.data → RelV v u → NestedIs s.heap k u := by
  intro n
  induction n with
  | zero => intro k v u h; cases k <;> simp at h
  | succ n ih =>
    intro k v u hn h r
    cases k with
    | none => rw [NestedKey.data] at h; cases h; cases r; exact .none
    | num i =>
      rw [NestedKey.data] at h
      cases h
      obtain ⟨t, e⟩ := (show ∃ t, u = Value.int i t from r)
      subst e; exact .int i t
    | text x =>
      rw [NestedKey.data] at h
      cases h
      obtain ⟨t, e⟩ := (show ∃ t, u = Value.str x t from r)
      subst e; exact .text x t
    | tup ks =>
      rw [NestedKey.data] at h
      cases h with
      | tup hs ha =>
        rename_i b vs
        cases (show u = Value.ref b from r)
        obtain ⟨its, rv, ⟨o, h1, h2, m, h3⟩, _⟩ := I.tuple (ex_n hA hs).t
        refine .tup h1 h2 h3 ?_
        have all : ∀ (ks : List NestedKey) {vs : List V} {us : List Value}, sizeOf ks ≤ n → DpAll X.K A vs (NestedKey.datas ks) → Vals vs us → NestedAll s.heap ks us := by
          intro ks
          induction ks with
          | nil => intro vs us _ h r; rw [NestedKey.datas] at h; cases h; cases r; exact .nil
          | cons k ks ih2 =>
            intro vs us hn h r
            rw [NestedKey.datas] at h
            cases h with
            | cons a b =>
              cases r with
              | cons c d =>
                simp at hn
                exact .cons (ih k (by omega) a c) (ih2 (by omega) b d)
        exact all ks (by simp at hn; omega) ha (by simpa using rv)
theorem key_is {A : Hp} {b : Addr} {k : GK} (I : Inv X pins σ H s) (hA : Ex A H) (h : Dp X.K A (.ref b) k.d) : (nestedKind X.prog X.w).is s.heap k.1 b := ⟨nest_of I hA _ k.1 (Nat.le_refl _) h rfl, k.2.2.1⟩
theorem dx_of {A : Hp} {m : List (GK × Addr × V)} (I : Inv X pins σ H s) (hA : Ex A H) (e : H a = some (DX a m)) (ok : KOk X.K A m) : m.length ≤ sizeLine ∧ (a == sysModules) = false ∧
    ∃ xs, XRel m xs ∧ s.heap.DictOfH (nestedKind X.prog X.w) a xs := by
  obtain ⟨⟨z, hd, xs, rel, hn, o, es, ep, w, h1, h2, h3, h4⟩, _, _⟩ := (show ObjOk X.prog X.w H s.heap a (DX a m) from I.hok a _ e)
  refine ⟨z, hd, xs, rel, o, es, ep, h1, h2, h3, ?_, ?_, hn⟩
  · rw [h4, rel.hash w X.w]; rfl
  · have all : ∀ {m : List (GK × Addr × V)} {xs : List (NestedKey × Addr × Value)}, XRel m xs → KOk X.K A m → ∀ x ∈ xs, (nestedKind X.prog X.w).is s.heap x.1 x.2.1 := by
      intro m xs r
      induction r with
      | nil => intro _ x hx; cases hx
      | cons r t ih =>
        intro ok x hx
        rcases List.mem_cons.mp hx with q | q
        · subst q
          obtain ⟨e1, e2, _⟩ := r
          rw [← e1, ← e2]
          exact key_is I hA (ok _ List.mem_cons_self)
        · exact ih (fun y hy => ok y (List.mem_cons_of_mem _ hy)) x q
    exact all rel ok
theorem dx_new {P : Program} {w : World} {H' : Hp} {h' : Heap} {m : List (GK × Addr × V)} {xs : List (NestedKey × Addr × Value)} (z : m.length ≤ sizeLine) (hd : (a == sysModules) = false) (rel : XRel m xs) (dd : h'.DictOfH (nestedKind P w) a xs) :
    ObjOk P w H' h' a (DX a m) := by
  obtain ⟨o, es, ep, h1, h2, h3, h4, _, h5⟩ := dd
  refine ⟨⟨z, hd, xs, rel, h5, o, es, ep, w, h1, h2, h3, h4⟩, ⟨o, h1⟩, ?_⟩
  rintro g1 g2 ⟨z, hd, xs, rel, hn, o, es, ep, w, k1, k2, k3, k4⟩ hk
  exact ⟨z, hd, xs, rel, hn, o, es, ep, w, hk o k1, k2, k3, k4⟩
theorem conv_T (I : Inv X pins σ H s) (e : H a = some (.dK [])) : Inv X pins σ (upd H a (DX a [])) s := by
  obtain ⟨z, hd, vs, rel, dd⟩ := dk_of I.hok e
  cases rel
  obtain ⟨o, es, ep, h1, h2, h3, h4, h5, h6⟩ := dd
  have z5 : es.toList = [] := by cases h5' : es.toList with
    | nil => rfl
    | cons x y => rw [h5'] at h5; cases h5
  exact d_write (t' := s.toks) I (by rw [e]; exact True.intro) (Heap.SameBut.refl _ _) ⟨o, h1⟩ (dx_new z hd .nil ⟨o, es, ep, h1, h2, h3, by rw [z5]; rfl, (fun _ hx => by cases hx), List.nodup_nil⟩)
theorem conv_K (I : Inv X pins σ H s) (e : H a = some (DX a [])) : Inv X pins σ (upd H a (.dK [])) s := by
  obtain ⟨z, hd, xs, rel, dd⟩ := dx_of I (Ex.refl H) e (fun _ hx => by cases hx)
  cases rel
  obtain ⟨o, es, ep, h1, h2, h3, h4, h5, h6⟩ := dd
  have z5 : es = #[] := by
    have : es.toList = [] := by rw [h4]; rfl
    exact Array.toList_eq_nil_iff.mp this
  subst z5
  exact d_write (t' := s.toks) I (by rw [e]; exact True.intro) (Heap.SameBut.refl _ _) ⟨o, h1⟩ ⟨z, hd, [], .nil, o, #[], ep, h1, h2, h3, by intro x hx; simp at hx, .nil, List.nodup_nil⟩
theorem upd_upd {H : Hp} {a : Addr} {o o' : HO} (h : H a = some o) : upd (upd H a o') a o = H := by
  funext b
  by_cases e : b = a
  · subst e; rw [upd_same, h]
  · rw [upd_ne e, upd_ne e]
theorem upd_two {H : Hp} {a : Addr} {o o' : HO} : upd (upd H a o') a o = upd H a o := by
  funext b
  by_cases e : b = a
  · subst e; rw [upd_same, upd_same]
  · rw [upd_ne e, upd_ne e, upd_ne e]
end
end Pl

namespace Pl
open PySem L2 PySem.Spec PyProof.Rows

/-! sorted ints -/
def insI (x : Int) : List Int → List Int
  | [] => [x]
  | y :: r => if x ≤ y then x :: y :: r else y :: insI x r
def sortI : List Int → List Int
  | [] => []
  | x :: r => insI x (sortI r)
theorem insI_perm (x : Int) : ∀ l, (insI x l).Perm (x :: l)
  | [] => .refl _
  | y :: r => by
    unfold insI
    split
    · exact .refl _
    · exact ((insI_perm x r).cons y).trans (.swap x y r)
theorem sortI_perm : ∀ l, (sortI l).Perm l
  | [] => .refl _
  | x :: r => (insI_perm x (sortI r)).trans ((sortI_perm r).cons x)
theorem insI_pw (x : Int) : ∀ {l : List Int}, l.Pairwise (· ≤ ·) → (insI x l).Pairwise (· ≤ ·)
  | [], _ => by unfold insI; exact List.pairwise_singleton ..
  | y :: r, h => by
    unfold insI
    rw [List.pairwise_cons] at h
    split
    · rename_i c
      refine List.pairwise_cons.mpr ⟨fun z hz => ?_, List.pairwise_cons.mpr h⟩
      rcases List.mem_cons.mp hz with e | e
      · rw [e]; exact c
      · exact Int.le_trans c (h.1 z e)
    · rename_i c
      refine List.pairwise_cons.mpr ⟨fun z hz => ?_, insI_pw x h.2⟩
      rcases List.mem_cons.mp ((insI_perm x r).mem_iff.mp hz) with e | e
      · rw [e]; omega
      · exact h.1 z e
theorem sortI_pw : ∀ l, (sortI l).Pairwise (· ≤ ·)
  | [] => .nil
  | x :: r => insI_pw x (sortI_pw r)
theorem pw_uniq : ∀ {a b : List Int}, a.Perm b → a.Pairwise (· ≤ ·) → b.Pairwise (· ≤ ·) → a = b
  | [], b, p, _, _ => (List.nil_perm.mp p).symm
  | x :: a, [], p, _, _ => by have := p.length_eq; simp at this
  | x :: a, y :: b, p, h1, h2 => by
    rw [List.pairwise_cons] at h1 h2
    have e : x = y := by
      have m1 : x ∈ y :: b := p.mem_iff.mp List.mem_cons_self
      have m2 : y ∈ x :: a := p.mem_iff.mpr List.mem_cons_self
      rcases List.mem_cons.mp m1 with e | e
      · exact e
      · rcases List.mem_cons.mp m2 with e' | e'
        · exact e'.symm
        · exact Int.le_antisymm (h1.1 y e') (h2.1 x e)
    subst e
    rw [pw_uniq (List.Perm.cons_inv p) h1.2 h2.2]
theorem sortI_of {a b : List Int} (p : a.Perm b) (h : a.Pairwise (· ≤ ·)) : a = sortI b := pw_uniq (p.trans (sortI_perm b).symm) h (sortI_pw b)
theorem sortI_len (l : List Int) : (sortI l).length = l.length := (sortI_perm l).length_eq

theorem nest_room {prog : Program} {w : World} {A : Around} (hu : A.units + 65 < cLine) : (nestedKind prog w).room A.in1 := by
  show A.in1.units + 8 < cLine
  have : A.in1.units = A.units + 1 := rfl
  omega
section
variable {X : Cx} {pins : List (Addr × Obj)} {σ : St} {H : Hp} {s : Shared} {a : Addr}
/-- what the dict at a holds at the key y: at once, or of an empty one -/
def RGet (K : PySem.W.Frag) (H : Hp) (a : Addr) (y : V) (r : Option V) : Prop :=
  (∃ kvs k, H a = some (.dK kvs) ∧ y = kV k ∧ r = valV kvs k) ∨ (∃ (A : Hp) (m : List (GK × Addr × V)) (k : GK) (b : Addr), Ex A H ∧ H a = some (DX a m) ∧ KOk K A m ∧ y = .ref b ∧ Dp K A (.ref b) k.d ∧ r = valV (pm m) k)
theorem rget_item {y v : V} {u : Value} {A : Around} {E : Value → Shared → Prop} {Q : Value → Shared → Prop} (hu : A.units + 65 < cLine) (I : Inv X pins σ H s) (g : RGet X.K H a y (some v)) (ry : RelV y u) (h : ∀ w' s', Inv X pins σ H s' → RelV v w' → Q w' s') :
    wpAny (model X.prog X.w) A (getItem (.ref a) u) Q E s := by
  rcases g with ⟨kvs, k, e, ey, l⟩ | ⟨A0, m, k, b, e0, e, ok, ey, eb, l⟩
  · exact d_getItem (by omega) I (.inl ⟨kvs, k, .inl e, ey, l⟩) ry h
  · subst ey
    cases (show u = Value.ref b from ry)
    obtain ⟨z, hd, xs, rel, dd⟩ := dx_of I e0 e ok
    obtain ⟨w', hw, rw'⟩ := RelO.some_of (v := v) (o := (atKey xs k.1).map (·.2)) (by rw [l]; exact rel.at)
    obtain ⟨p, hp, hp2⟩ := Option.map_eq_some_iff.mp hw
    refine wpAny_getItem_heap (nest_room hu) (key_is I e0 eb) dd hp ?_
    rw [hp2]
    exact h w' _ (I.tok _) rw'
theorem rget_type {y : V} {o : Option V} (I : Inv X pins σ H s) (g : RGet X.K H a y o) : s.TypeIs (.ref a) "dict" := by
  rcases g with ⟨kvs, k, e, _, _⟩ | ⟨A0, m, k, b, e0, e, ok, _, _, _⟩
  · obtain ⟨_, _, vs, _, dd⟩ := dk_of I.hok e
    exact dd.typeIs
  · obtain ⟨_, _, xs, _, dd⟩ := dx_of I e0 e ok
    exact dd.typeIs
def rIxDic (K : PySem.W.Frag) : R2 := fun x y H Q => ∃ a v, x = .ref a ∧ RGet K H a y (some v) ∧ Q v H
theorem ix_dic (hu : X.A.units + 65 < cLine) : IxR X (rIxDic X.K) := by
  intro value slice pins s σ H x y v u Q I rx ry h hs
  obtain ⟨a, z, rfl, g, q⟩ := h
  obtain rfl : v = Value.ref a := rx
  have hT := rget_type I g
  unfold subscriptTail
  refine wpAny_bind ?_
  rw [getitemInPython_of_ne hT.not_modules]
  refine wpAny_bind (wpAny_specialOf hT PySem.F.slot_dict_getitem.lookup ?_)
  have fin : wpAny (model X.prog X.w) X.A (subscripted slice false (.ref a) u) (fun r s₃ => wpAny (model X.prog X.w) X.A (letTemporaryGo value (.ref a) r >>= fun _ => pure r) (EP X pins σ Q) X.xe s₃) X.xe s := by
    rw [hs]
    exact wpAny_operating (wpAny_mono (rget_item (E := X.xe) (Q := EP X pins σ Q) hu I g ry fun w' s' I' r' => ⟨z, H, I', r', q⟩) (fun r s₃ h₃ => wpAny_bind (wpAny_letTemporaryGo (wpAny_pure h₃))) fun _ _ x => x)
  first
    | exact wpAny_pure (wpAny_bind fin)
    | exact wpAny_bind (wpAny_pure (wpAny_bind fin))
    | exact wpAny_bind fin
/-- .. in, .. not in; of an empty dict whatever the key is -/
def RIn (K : PySem.W.Frag) (H : Hp) (a : Addr) (y : V) (b : Bool) : Prop :=
  (∃ o, RGet K H a y o ∧ b = o.isSome) ∨ (H a = some (DX a []) ∧ (∃ k, y = kV k) ∧ b = false) ∨ (H a = some (.dK []) ∧ (∃ (A : Hp) (c : Addr) (k : GK), Ex A H ∧ A a = none ∧ y = .ref c ∧ Dp K A (.ref c) k.d) ∧ b = false)
theorem ex_updN {A H : Hp} {a : Addr} {o : HO} (e : Ex A H) (ea : A a = none) : Ex A (upd H a o) := fun b u h => by
  rw [upd_ne (ne_of_none h ea)]
  exact e b u h
theorem rget_in {y : V} {o : Option V} {u : Value} {A : Around} {E : Value → Shared → Prop} {Q : Value → Shared → Prop} (hu : A.units + 65 < cLine) (I : Inv X pins σ H s) (g : RGet X.K H a y o) (ry : RelV y u) (h : ∀ s', Inv X pins σ H s' → Q (.bool o.isSome) s') :
    wpAny (model X.prog X.w) A (compareOp .In u (.ref a)) Q E s := by
  rcases g with ⟨kvs, k, e, ey, l⟩ | ⟨A0, m, k, b, e0, e, ok, ey, eb, l⟩
  · exact d_in (by omega) I (.inl ⟨kvs, k, .inl e, ey, l⟩) ry h
  · subst ey
    cases (show u = Value.ref b from ry)
    obtain ⟨z, hd, xs, rel, dd⟩ := dx_of I e0 e ok
    refine wpAny_in_heap (nest_room hu) (key_is I e0 eb) hd dd ?_
    have q := (rel.at (k := k)).isSome_eq
    rw [Option.isSome_map] at q
    rw [← q, ← l]
    exact h _ (I.tok _)
theorem rget_nin {y : V} {o : Option V} {u : Value} {A : Around} {E : Value → Shared → Prop} {Q : Value → Shared → Prop} (hu : A.units + 65 < cLine) (I : Inv X pins σ H s) (g : RGet X.K H a y o) (ry : RelV y u) (h : ∀ s', Inv X pins σ H s' → Q (.bool (!o.isSome)) s') :
    wpAny (model X.prog X.w) A (compareOp .NotIn u (.ref a)) Q E s := by
  rcases g with ⟨kvs, k, e, ey, l⟩ | ⟨A0, m, k, b, e0, e, ok, ey, eb, l⟩
  · exact d_notIn (by omega) I (.inl ⟨kvs, k, .inl e, ey, l⟩) ry h
  · subst ey
    cases (show u = Value.ref b from ry)
    obtain ⟨z, hd, xs, rel, dd⟩ := dx_of I e0 e ok
    refine wpAny_notIn_heap (nest_room hu) (key_is I e0 eb) hd dd ?_
    have q := (rel.at (k := k)).isSome_eq
    rw [Option.isSome_map] at q
    rw [← q, ← l]
    exact h _ (I.tok _)
theorem rin_in {y : V} {b : Bool} {u : Value} {A : Around} {E : Value → Shared → Prop} {Q : Value → Shared → Prop} (hu : A.units + 65 < cLine) (I : Inv X pins σ H s) (g : RIn X.K H a y b) (ry : RelV y u) (h : ∀ s', Inv X pins σ H s' → Q (.bool b) s') :
    wpAny (model X.prog X.w) A (compareOp .In u (.ref a)) Q E s := by
  rcases g with ⟨o, g, e⟩ | ⟨e, ⟨k, ek⟩, eb⟩ | ⟨e, ⟨A0, c, k, e0, ea, ec, hs⟩, eb⟩
  · rw [e] at h; exact rget_in hu I g ry h
  · subst eb
    refine rget_in (o := none) hu (conv_K I e) (.inl ⟨[], k, upd_same, ek, rfl⟩) ry fun s' I' => h s' ?_
    have := conv_T I' upd_same
    rwa [upd_upd e] at this
  · subst eb
    refine rget_in (o := none) hu (conv_T I e) (.inr ⟨A0, [], k, c, ex_updN e0 ea, upd_same, (fun _ hx => by cases hx), ec, hs, rfl⟩) ry fun s' I' => h s' ?_
    have := conv_K I' upd_same
    rwa [upd_upd e] at this
theorem rin_nin {y : V} {b : Bool} {u : Value} {A : Around} {E : Value → Shared → Prop} {Q : Value → Shared → Prop} (hu : A.units + 65 < cLine) (I : Inv X pins σ H s) (g : RIn X.K H a y b) (ry : RelV y u) (h : ∀ s', Inv X pins σ H s' → Q (.bool (!b)) s') :
    wpAny (model X.prog X.w) A (compareOp .NotIn u (.ref a)) Q E s := by
  rcases g with ⟨o, g, e⟩ | ⟨e, ⟨k, ek⟩, eb⟩ | ⟨e, ⟨A0, c, k, e0, ea, ec, hs⟩, eb⟩
  · rw [e] at h; exact rget_nin hu I g ry h
  · subst eb
    refine rget_nin (o := none) hu (conv_K I e) (.inl ⟨[], k, upd_same, ek, rfl⟩) ry fun s' I' => h s' ?_
    have := conv_T I' upd_same
    rwa [upd_upd e] at this
  · subst eb
    refine rget_nin (o := none) hu (conv_T I e) (.inr ⟨A0, [], k, c, ex_updN e0 ea, upd_same, (fun _ hx => by cases hx), ec, hs, rfl⟩) ry fun s' I' => h s' ?_
    have := conv_K I' upd_same
    rwa [upd_upd e] at this
/-- a thing is put; the keys of an empty dict are of either kind -/
def RPut (K : PySem.W.Frag) (H : Hp) (a : Addr) (y v : V) (Q : Hp → Prop) : Prop :=
  (∃ kvs k, H a = some (.dK kvs) ∧ y = kV k ∧ kvs.length < sizeLine ∧ Q (upd H a (.dK (putK kvs k v)))) ∨ (∃ k, H a = some (DX a []) ∧ y = kV k ∧ Q (upd H a (.dK (putK [] k v)))) ∨
  (∃ (A : Hp) (m : List (GK × Addr × V)) (k : GK) (b : Addr), Ex A H ∧ A a = none ∧ (H a = some (DX a m) ∨ m = [] ∧ H a = some (.dK [])) ∧ KOk K A m ∧ y = .ref b ∧ Dp K A (.ref b) k.d ∧ m.length < sizeLine ∧ Q (upd H a (DX a (putM m k b v))))
def rSetDic (K : PySem.W.Frag) : TSet := fun o i v H Q => ∃ a, o = .ref a ∧ RPut K H a i v Q
theorem dx_put {A0 : Hp} {m : List (GK × Addr × V)} {k : GK} {b : Addr} {v : V} {r : Value} {A : Around} {E : Value → Shared → Prop} {Q : Unit → Shared → Prop} (hu : A.units + 65 < cLine) (I : Inv X pins σ H s) (e0 : Ex A0 H) (e : H a = some (DX a m)) (ok : KOk X.K A0 m) (eb : Dp X.K A0 (.ref b) k.d) (l : m.length < sizeLine) (rv : RelV v r)
    (h : ∀ s', Inv X pins σ (upd H a (DX a (putM m k b v))) s' → Q () s') : wpAny (model X.prog X.w) A (setItem (.ref a) (.ref b) r) Q E s := by
  obtain ⟨z, hd, xs, rel, dd⟩ := dx_of I e0 e ok
  have hz : xs.length ≤ sizeLine := by rw [← Paired.length rel]; exact z
  refine wpAny_setItem_heap (hsz := hz) (nest_room hu) (key_is I e0 eb) dd fun h' dd' hs => h _ ?_
  have hl := putM_len m k b v
  have hq : ∃ q, h'.get? a = some q := let ⟨q, _, _, hq, _⟩ := dd'; ⟨q, hq⟩
  exact d_write I (by rw [e]; exact True.intro) hs hq (dx_new (by omega) hd (rel.put rv) dd')
theorem set_dic (hu : X.A.units + 65 < cLine) : PSet X (rSetDic X.K) := by
  intro pins s σ H o i v ov iv u Q I ro ri rv h
  obtain ⟨a, eo, g⟩ := h
  subst eo
  cases (show ov = Value.ref a from ro)
  rcases g with ⟨kvs, k, e, ey, l, q⟩ | ⟨k, e, ey, q⟩ | ⟨A0, m, k, b, e0, ea, e, ok, ey, eb, l, q⟩
  · exact d_setItem (by omega) I (.inl ⟨kvs, k, e, ey, l, rfl⟩) ri rv fun s' I' => ⟨_, I', q⟩
  · refine d_setItem (by omega) (conv_K I e) (.inl ⟨[], k, upd_same, ey, ?_, rfl⟩) ri rv fun s' I' => ⟨_, I', ?_⟩
    · rw [sizeLine_eq]; decide
    · rw [upd_two]; exact q
  · subst ey
    cases (show iv = Value.ref b from ri)
    rcases e with e | ⟨em, e⟩
    · exact dx_put hu I e0 e ok eb l rv fun s' I' => ⟨_, I', q⟩
    · subst em
      refine dx_put hu (conv_T I e) (ex_updN e0 ea) upd_same ok eb l rv fun s' I' => ⟨_, I', ?_⟩
      rw [upd_two]; exact q
theorem PSet.or {t t' : TSet} (h : PSet X t) (h' : PSet X t') : PSet X (fun o i v H Q => t o i v H Q ∨ t' o i v H Q) := by
  intro pins s σ H o i v ov iv u Q I ro ri rv q
  rcases q with q | q
  · exact h pins s σ H o i v ov iv u Q I ro ri rv q
  · exact h' pins s σ H o i v ov iv u Q I ro ri rv q
/-- len of any dict -/
theorem call_lenDic : CallR X (.builtin "len") (fun xs H Q => ∃ a n, xs = [V.ref a] ∧ ((∃ kvs, H a = some (.dK kvs) ∧ n = kvs.length) ∨ (∃ (A : Hp) (m : List (GK × Addr × V)), Ex A H ∧ H a = some (DX a m) ∧ KOk X.K A m ∧ n = m.length)) ∧ Q (.int n) H) := by
  intro pins s σ H xs us Q I r h
  obtain ⟨a, n, rfl, hd, q⟩ := h
  obtain ⟨u, rfl, ru⟩ := vals1 r
  cases ru
  rcases hd with ⟨kvs, e, rfl⟩ | ⟨A0, m, e0, e, ok, rfl⟩
  · exact d_len I (.inl e) fun t s' I' => ⟨.int kvs.length, H, I', ⟨t, rfl⟩, q⟩
  · obtain ⟨z, hd, xs, rel, dd⟩ := dx_of I e0 e ok
    have hl : m.length = xs.length := Paired.length rel
    refine call_len_dictH hd dd (by rw [← hl]; rw [sizeLine_eq] at z; omega) ?_
    rw [← hl]
    exact ⟨.int ((m.length : Nat) : Int), H, I.tok _, ⟨_, rfl⟩, q⟩
end
end Pl

namespace Pl
open PySem L2 PySem.Spec PyProof.Rows

section
variable {K : PySem.W.Frag} {G H : Hp} {x y v : V} {k d : D} {kvs : List (D × D)}
theorem kx_inl {z : Key} (h : kx k = some (.inl z)) : k = kD z := by
  unfold kx at h
  split at h
  · cases h; rfl
  · cases h; rfl
  · split at h
    · split at h <;> cases h
    · cases h
  · cases h
theorem keyD_some {z : Key} (h : keyD d = some z) : d = kD z := by
  unfold keyD at h
  split at h
  · cases h; rfl
  · cases h; rfl
  · cases h
theorem dp_key {z : Key} (h : Dp K H y (kD z)) : y = kV z := by
  cases z with
  | inl i => cases h; rfl
  | inr s => cases h; rfl
/-- without what stands at a -/
def delA (G : Hp) (a : Addr) : Hp := fun c => if c = a then none else G c
theorem delA_same {G : Hp} {a : Addr} : delA G a a = none := if_pos rfl
theorem ex_del {G : Hp} {a : Addr} : Ex (delA G a) G := fun c o h => by
  unfold delA at h
  split at h
  · cases h
  · exact h
theorem dp_del {G : Hp} {a : Addr} (ha : ∀ o t, G a ≠ some (.frz o (.tup t))) : ∀ (n : Nat) (k : NestedKey) {v : V}, sizeOf k ≤ n → Dp K G v k.data → Dp K (delA G a) v k.data := by
  intro n
  induction n with
  | zero => intro k v h; cases k <;> simp at h
  | succ n ih =>
    intro k v hn h
    cases k with
    | none => rw [NestedKey.data] at h ⊢; cases h; exact .non
    | num i => rw [NestedKey.data] at h ⊢; cases h; exact .int i
    | text x => rw [NestedKey.data] at h ⊢; cases h; exact .str x
    | tup ks =>
      rw [NestedKey.data] at h ⊢
      cases h with
      | tup hs hd =>
        rename_i b0 vs0
        refine .tup (xs := vs0) ?_ ?_
        · rcases hs with ⟨o, e, d⟩ | e
          · refine .inl ⟨o, ?_, d⟩
            unfold delA
            rw [if_neg fun z => ha o _ (z ▸ e)]
            exact e
          · exact .inr e
        · have all : ∀ (ks : List NestedKey) {vs : List V}, sizeOf ks ≤ n → DpAll K G vs (NestedKey.datas ks) → DpAll K (delA G a) vs (NestedKey.datas ks) := by
            intro ks
            induction ks with
            | nil => intro vs _ h; rw [NestedKey.datas] at h ⊢; cases h; exact .nil
            | cons k ks ih2 =>
              intro vs hn h
              rw [NestedKey.datas] at h ⊢
              cases h with
              | cons a b => simp at hn; exact .cons (ih k (by omega) a) (ih2 (by omega) b)
          exact all ks (by simp at hn; omega) hd
theorem dp_ref {k : GK} (h : Dp K H y k.d) : ∃ b, y = .ref b := by
  obtain ⟨z, h1, h2, ks, rfl⟩ := k
  have h' : Dp K H y (NestedKey.tup ks).data := h
  rw [NestedKey.data] at h'
  cases h'
  exact ⟨_, rfl⟩
/-- what stands where a dict is read -/
def DK (K : PySem.W.Frag) (G H : Hp) (a : Addr) (kvs : List (D × D)) : Prop := (∃ m, H a = some (.dK m) ∧ MRel K G kD m kvs) ∨ ∃ m, H a = some (DX a m) ∧ MRel K G GK.d (pm m) kvs ∧ KOk K G m
theorem rdU_key {g : GK} (h : RdU K G H y (.dat g.d)) : Dp K G y g.d := by
  obtain ⟨z, h1, h2, ks, rfl⟩ := g
  have e : GK.d ⟨NestedKey.tup ks, h1, h2, ks, rfl⟩ = PyData.tuple (NestedKey.datas ks) := by
    show (NestedKey.tup ks).data = _
    rw [NestedKey.data]
  rw [e] at h ⊢
  exact h
theorem RdU.dicAt (h : RdU K G H x (.dic kvs)) : ∃ a, x = .ref a ∧ DK K G H a kvs := by
  obtain ⟨a, vs, e, h1, h2⟩ := h
  exact ⟨a, e, h1.cases h2⟩
theorem kin_cons {p : D × D} {r : List (D × D)} (h : kin (p :: r) k = true) : ∃ z y, kx k = some z ∧ kx p.1 = some y ∧ kinK y = kinK z := by
  unfold kin at h
  dsimp only at h
  split at h
  · rename_i z e1
    split at h
    · rename_i y e2
      exact ⟨z, y, e1, e2, by simpa using h⟩
    · cases h
  · cases h
/-- a dict that holds something is of its keys' kind -/
theorem kind_of {a : Addr} (hk : kin kvs k = true) (hne : kvs ≠ []) (h : DK K G H a kvs) :
    (∃ m z, H a = some (.dK m) ∧ MRel K G kD m kvs ∧ kx k = some (.inl z)) ∨ (∃ m z, H a = some (DX a m) ∧ MRel K G GK.d (pm m) kvs ∧ KOk K G m ∧ kx k = some (.inr z)) := by
  cases kvs with
  | nil => exact absurd rfl hne
  | cons p r =>
    obtain ⟨z, y, e1, e2, e3⟩ := kin_cons hk
    rcases h with ⟨m, h1, h2⟩ | ⟨m, h1, h2, h4⟩
    · refine .inl ⟨m, ?_⟩
      have hm : m ≠ [] := fun e => by subst e; have := h2.length; simp at this
      obtain ⟨q, m', rfl⟩ := List.exists_cons_of_ne_nil hm
      obtain ⟨c1, _, _⟩ := h2.cons
      rw [c1, kx_kD] at e2
      cases e2
      cases z with
      | inl z => exact ⟨z, h1, h2, e1⟩
      | inr z => cases e3
    · refine .inr ⟨m, ?_⟩
      have hm : m ≠ [] := fun e => by subst e; have := h2.length; simp [pm] at this
      obtain ⟨q, m', rfl⟩ := List.exists_cons_of_ne_nil hm
      obtain ⟨c1, _, _⟩ := MRel.cons (p := (q.1, q.2.2)) (m := pm m') h2
      rw [c1, kx_tD] at e2
      cases e2
      cases z with
      | inl z => cases e3
      | inr z => exact ⟨z, h1, h2, h4, e1⟩
theorem rget_of (e : Ex G H) (hx : RdU K G H x (.dic kvs)) (hy : RdU K G H y (.dat k)) (hk : kin kvs k = true) (hd : dGet kvs k = some d) : ∃ a v, x = .ref a ∧ RGet K H a y (some v) ∧ Dp K G v d := by
  obtain ⟨a, rfl, h⟩ := hx.dicAt
  have hne : kvs ≠ [] := fun e => by subst e; cases hd
  rcases kind_of hk hne h with ⟨m, z, h1, h2, h3⟩ | ⟨m, z, h1, h2, h4, h3⟩
  · have hy' := hy.dp e
    have ek := kx_inl h3
    subst ek
    rcases mget kD_inj z h2 with ⟨e1, _⟩ | ⟨d', v, e1, e2, e3⟩
    · rw [hd] at e1; cases e1
    · rw [hd] at e1; cases e1
      exact ⟨a, v, rfl, .inl ⟨m, z, h1, dp_key hy', e2.symm⟩, e3⟩
  · obtain ⟨g, eg, ek⟩ := kx_inr h3
    have hy' := rdU_key (g := g) (ek ▸ hy)
    obtain ⟨b, rfl⟩ := dp_ref hy'
    rw [ek] at hd
    rcases mget tD_inj g h2 with ⟨e1, _⟩ | ⟨d', v, e1, e2, e3⟩
    · rw [hd] at e1; cases e1
    · rw [hd] at e1; cases e1
      exact ⟨a, v, rfl, .inr ⟨G, m, g, b, e, h1, h4, rfl, hy', e2.symm⟩, e3⟩
theorem rin_of (e : Ex G H) (hx : RdU K G H x (.dic kvs)) (hy : RdU K G H y (.dat k)) (hk : kin kvs k = true) : ∃ a, x = .ref a ∧ RIn K H a y (dGet kvs k).isSome := by
  obtain ⟨a, rfl, h⟩ := hx.dicAt
  by_cases hne : kvs = []
  · subst hne
    unfold kin at hk
    split at hk
    · rename_i z ez
      have e0 : (dGet [] k).isSome = false := rfl
      rw [e0]
      refine ⟨a, rfl, ?_⟩
      rcases h with ⟨m, h1, h2⟩ | ⟨m, h1, h2, h4⟩
      · have hm : m = [] := List.length_eq_zero_iff.mp h2.length.symm
        subst hm
        cases z with
        | inl z =>
          have hy' := hy.dp e
          have ek := kx_inl ez
          subst ek
          exact .inl ⟨none, .inl ⟨[], z, h1, dp_key hy', rfl⟩, rfl⟩
        | inr z =>
          obtain ⟨g, eg, ek⟩ := kx_inr ez
          have hy' := rdU_key (g := g) (ek ▸ hy)
          obtain ⟨b, rfl⟩ := dp_ref hy'
          exact .inr (.inr ⟨h1, ⟨delA G a, b, g, ex_del.trans e, delA_same, rfl, dp_del (fun o t z => by have := e _ _ z; rw [h1] at this; cases this) _ g.1 (Nat.le_refl _) hy'⟩, rfl⟩)
      · have hm : m = [] := by have := h2.length; rw [pm_len] at this; exact List.length_eq_zero_iff.mp this.symm
        subst hm
        cases z with
        | inl z =>
          have hy' := hy.dp e
          have ek := kx_inl ez
          subst ek
          exact .inr (.inl ⟨h1, ⟨z, dp_key hy'⟩, rfl⟩)
        | inr z =>
          obtain ⟨g, eg, ek⟩ := kx_inr ez
          have hy' := rdU_key (g := g) (ek ▸ hy)
          obtain ⟨b, rfl⟩ := dp_ref hy'
          exact .inl ⟨none, .inr ⟨G, [], g, b, e, h1, h4, rfl, hy', rfl⟩, rfl⟩
    · cases hk
  · refine ⟨a, rfl, .inl ?_⟩
    rcases kind_of hk hne h with ⟨m, z, h1, h2, h3⟩ | ⟨m, z, h1, h2, h4, h3⟩
    · have hy' := hy.dp e
      have ek := kx_inl h3
      subst ek
      refine ⟨valV m z, .inl ⟨m, z, h1, dp_key hy', rfl⟩, ?_⟩
      rcases mget kD_inj z h2 with ⟨e1, e2⟩ | ⟨d', v, e1, e2, e3⟩ <;> rw [e1, e2] <;> rfl
    · obtain ⟨g, eg, ek⟩ := kx_inr h3
      have hy' := rdU_key (g := g) (ek ▸ hy)
      obtain ⟨b, rfl⟩ := dp_ref hy'
      refine ⟨valV (pm m) g, .inr ⟨G, m, g, b, e, h1, h4, rfl, hy', rfl⟩, ?_⟩
      rw [ek]
      rcases mget tD_inj g h2 with ⟨e1, e2⟩ | ⟨d', v, e1, e2, e3⟩ <;> rw [e1, e2] <;> rfl
end

section
variable {X : Cx} {F : Fr} {W : Wx} {G G' H H' : Hp} {σ : St} {st st' : Sg} {Q : VK} {v : V} {u : U} {ds : List D} {vs : List V}
/-! items -/
def ixX (x y : U) (st : Sg) : RE := match x with
  | .dic kvs => match y with
    | .dat k => if kin kvs k then (match dGet kvs k with
      | some d => .ok false (.dat d) st
      | none => .bad) else .bad
    | _ => .bad
  | _ => ixU x y st
theorem je_ixd {a b : Expr} {oa ob : Opn} {pos : Pos} (hF : F.K = X.K) (hu : X.A.units + 65 < cLine) (ha : JO X F W a oa) (hb : JO X F W b ob) (hs : PlainIx b := by exact fun _ _ => rfl) : JE X F W (.Subscript a b pos) (ev2 oa ob ixX) :=
  PE.imp (pe_ix ((ix_list.or ix_tup).or (ix_dic hu)) ha hb hs) fun σ H Q ⟨G, st, r, h⟩ => ev2_ok r h fun x y u w G' H' st' e r' h1 h2 q => by
    unfold ixX at q
    split at q
    · rename_i kvs
      split at q
      · rename_i k
        split at q
        · rename_i hk
          split at q
          · rename_i d hd
            obtain ⟨a, v, e1, e2, e3⟩ := rget_of r'.ex h1 h2 hk hd
            exact .inr ⟨a, v, e1, hF ▸ e2, PostE.ps q r' e3⟩
          · exact q.elim
        · exact q.elim
      · exact q.elim
    · left
      rename_i hno
      clear hno
      unfold ixU at q
      split at q
      · rename_i ds i
        split at q
        · rename_i d hd
          obtain ⟨p, vs, e1, e2, e3⟩ := h1.lst
          obtain ⟨v, e4, e5⟩ := Dps.atI e3 hd
          exact .inl ⟨p, vs, i, v, e1, h2.int, hF ▸ e2, e4, PostE.ps q r' e5⟩
        · exact q.elim
      · rename_i ds i
        split at q
        · rename_i d hd
          obtain ⟨p, vs, e1, e2, e3⟩ := h1.tup r'.ex
          obtain ⟨v, e4, e5⟩ := Dps.atI e3 hd
          exact .inr ⟨p, vs, i, v, e1, h2.int, hF ▸ e2, e4, PostE.ps q r' e5⟩
        · exact q.elim
      · exact q.elim
/-! in, not in -/
def inX (x y : U) : Option Bool := match y with
  | .dic kvs => match x with
    | .dat k => if kin kvs k then some (dGet kvs k).isSome else none
    | _ => none
  | _ => inB x y
def notInX (x y : U) : Option Bool := (inX x y).map not
theorem cmp_inX (hu : X.A.units + 65 < cLine) : CmpR X .In inX := ⟨fun pins s σ G H x y v u a b c Q I rx ry e ha hb hk q => by
  unfold inX at hk
  split at hk
  · split at hk
    · split at hk
      · rename_i hk'
        cases hk
        obtain ⟨p, e1, e2⟩ := rin_of e hb ha hk'
        subst e1
        obtain rfl : u = Value.ref p := ry
        exact rin_in hu I e2 rx fun s' I' => ⟨.bl _, H, I', rfl, q⟩
      · cases hk
    · cases hk
  · exact (cmp_in hu).ok pins s σ G H x y v u a b c Q I rx ry e ha hb hk q⟩
theorem cmp_notinX (hu : X.A.units + 65 < cLine) : CmpR X .NotIn notInX := ⟨fun pins s σ G H x y v u a b c Q I rx ry e ha hb hk q => by
  unfold notInX at hk
  obtain ⟨c', hk, ec⟩ := Option.map_eq_some_iff.mp hk
  unfold inX at hk
  split at hk
  · split at hk
    · split at hk
      · rename_i hk'
        cases hk
        obtain ⟨p, e1, e2⟩ := rin_of e hb ha hk'
        subst e1
        obtain rfl : u = Value.ref p := ry
        exact rin_nin hu I e2 rx fun s' I' => ⟨.bl _, H, I', rfl, by rw [ec]; exact q⟩
      · cases hk
    · cases hk
  · exact (cmp_notin hu).ok pins s σ G H x y v u a b c Q I rx ry e ha hb (by unfold notInB; rw [hk, Option.map_some, ec]) q⟩
/-! len -/
def lenX (us : List U) (st : Sg) : RE := match us with
  | [.dic kvs] => .ok false (.dat (.int kvs.length)) st
  | _ => lenK us st
theorem je_lenX {e : Expr} {o : Opn} {p pos : Pos} (hF : F.K = X.K) (hg : Gl X "len") (hm : X.mg "len" = none) (ha : JA X F W [e] [o]) (he : starEach [e] X.env = (false, eval e X.env) :: starEach [] X.env := by rfl) (hpl : (backTo pos (starEach [] X.env)).any (·.1) = false := by rfl) : JE X F W (.Call (.Name "len" p) [e] [] pos) (biE [o] lenX) := by
  refine je_bi ((call_len_seq.or call_len_str).or call_lenDic) hg hm PySem.boot_len ha ?_ (by decide) (by decide) he hpl
  intro ws us G H σ st Q r p q
  unfold lenX at q
  split at q
  · rename_i kvs
    obtain ⟨w, rfl, h⟩ := rd1 p
    obtain ⟨a, rfl, h5⟩ := h.dicAt
    refine .inr ⟨a, kvs.length, rfl, ?_, PostE.ps q r (.int _)⟩
    rcases h5 with ⟨m, h1, h2⟩ | ⟨m, h1, h2, h4⟩
    · exact .inl ⟨m, h1, h2.length⟩
    · exact .inr ⟨G, m, r.ex, h1, hF ▸ h4, by rw [h2.length, pm_len]⟩
  · left
    unfold lenK at q
    split at q
    · obtain ⟨w, rfl, h⟩ := rd1 p
      obtain ⟨a, vs, rfl, h1, h2⟩ := h.lst
      refine .inl ⟨a, vs, rfl, .inl (hF ▸ h1), ?_⟩
      rw [Dps.length h2]
      exact PostE.ps q r (.int _)
    · obtain ⟨w, rfl, h⟩ := rd1 p
      obtain ⟨a, vs, rfl, h1, h2⟩ := h.tup r.ex
      refine .inl ⟨a, vs, rfl, .inr (hF ▸ h1), ?_⟩
      rw [Dps.length h2]
      exact PostE.ps q r (.int _)
    · obtain ⟨w, rfl, h⟩ := rd1 p
      split at q
      · rename_i hl
        rw [h.str]
        exact .inr ⟨_, rfl, le_line hl, PostE.ps q r (.int _)⟩
      · exact q.elim
    · exact q.elim
/-! dict([]) -/
def dictK (us : List U) (st : Sg) : RE := match us with
  | [.dat (.list [])] => .ok true (.dic []) st
  | _ => .bad
theorem PostE.newD (h : PostE F W G σ Q (.ok true (.dic []) st)) (r : SR F G H σ st) : ∀ p, H p = none → Q (.ref p) (upd H p (.dK [])) := fun p hp =>
  h _ _ _ (Ex.refl G) (r.push_ow (fp := [p]) ⟨p, [], rfl, .inl ⟨[], upd_same, rfl, rfl⟩, r.ex.back hp, .nil, rfl⟩ (r.rel.new hp) (Ex.new hp) (fun a ha => by
    have e : a = p := by simpa using ha
    rw [e]; exact hp))
theorem je_dict {e : Expr} {o : Opn} {p pos : Pos} (hF : F.K = X.K) (hc : X.calm = true) (hg : Gl X "dict") (hm : X.mg "dict" = none) (ha : JA X F W [e] [o]) (he : starEach [e] X.env = (false, eval e X.env) :: starEach [] X.env := by rfl) (hpl : (backTo pos (starEach [] X.env)).any (·.1) = false := by rfl) : JE X F W (.Call (.Name "dict" p) [e] [] pos) (biE [o] dictK) := by
  refine je_ty (call_dictP hc) hg hm (by decide +kernel) ha ?_ (by decide) (by decide) he hpl
  intro ws us G H σ st Q r p q
  unfold dictK at q
  split at q
  · obtain ⟨w, rfl, h⟩ := rd1 p
    obtain ⟨a, vs, rfl, h1, h2⟩ := h.lst
    cases h2
    exact ⟨a, [], [], rfl, hF ▸ h1, .nil, PostE.newD q r⟩
  · exact q.elim
theorem je_dict0 {pos : Pos} : JE X F W (.Dict [] [] pos) (fun st => .ok true (.dic []) st) := PE.imp pe_dnewK fun σ H Q ⟨G, st, r, q⟩ => PostE.newD q r
/-! sorted -/
def intKeys : List (D × D) → Option (List Int)
  | [] => some []
  | (.int i, _) :: r => (intKeys r).map (i :: ·)
  | _ => none
theorem intKeys_m {K : PySem.W.Frag} : ∀ {kvs : List (D × D)} {m : List (Key × V)} {ns : List Int}, MRel K G kD m kvs → intKeys kvs = some ns → m.map (·.1) = ns.map Sum.inl
  | [], [], ns, _, h => by cases h; rfl
  | [], p :: m, ns, r, h => by have := r.length; simp at this
  | p :: kvs, [], ns, r, h => by have := r.length; simp at this
  | q :: kvs, p :: m, ns, r, h => by
    obtain ⟨h1, h2, h3⟩ := r.cons
    obtain ⟨q1, q2⟩ := q
    unfold intKeys at h
    split at h
    · cases h
      rename_i e; cases e
    · rename_i i b t e
      cases e
      obtain ⟨ms, e1, e2⟩ := Option.map_eq_some_iff.mp h
      subst e2
      have hp : p.1 = .inl i := by
        have := kx_kD p.1
        have h1' : (PyData.int i) = kD p.1 := h1
        rw [← h1'] at this
        cases hp : p.1 with
        | inl j => rw [hp] at this; cases this; rfl
        | inr j => rw [hp] at this; cases this
      rw [List.map_cons, List.map_cons, hp, intKeys_m h3 e1]
    · cases h
def sortK (us : List U) (st : Sg) : RE := match us with
  | [.dat (.list ds)] => match intsOf ds with
    | some ns => .ok true (.dat (.list ((sortI ns).map .int))) st
    | none => .bad
  | [.dat (.tuple ds)] => match intsOf ds with
    | some ns => .ok true (.dat (.list ((sortI ns).map .int))) st
    | none => .bad
  | [.dic kvs] => match intKeys kvs with
    | some ns => if ns.length < 64 && kvs.length != 0 then .ok true (.dat (.list ((sortI ns).map .int))) st else .bad
    | none => .bad
  | _ => .bad
theorem dps_ints {K : PySem.W.Frag} : ∀ ns : List Int, DpAll K G (ns.map V.int) (ns.map PyData.int)
  | [] => .nil
  | n :: ns => .cons (.int n) (dps_ints ns)
theorem je_sorted {e : Expr} {o : Opn} {p pos : Pos} (hF : F.K = X.K) (hc : X.calm = true) (hg : Gl X "sorted") (hm : X.mg "sorted" = none) (ha : JA X F W [e] [o]) (he : starEach [e] X.env = (false, eval e X.env) :: starEach [] X.env := by rfl) (hpl : (backTo pos (starEach [] X.env)).any (·.1) = false := by rfl) : JE X F W (.Call (.Name "sorted" p) [e] [] pos) (biE [o] sortK) := by
  refine je_bi (cr_sortedTI.or (cr_sortedI.or (call_sortedDI hc))) hg hm (by decide +kernel) ha ?_ (by decide) (by decide) he hpl
  intro ws us G H σ st Q r p q
  unfold sortK at q
  split at q
  · split at q
    · rename_i ds ns e1
      obtain ⟨w, rfl, h⟩ := rd1 p
      obtain ⟨a, vs, rfl, h1, h2⟩ := h.lst
      have e2 := intsOf_v h2 e1
      subst e2
      refine .inr (.inl ⟨a, ns, rfl, hF ▸ h1, fun ns' pn h3 h4 hn => ?_⟩)
      have e3 := sortI_of h3 h4
      subst e3
      exact PostE.newL q r (dps_ints _) pn hn
    · exact q.elim
  · split at q
    · rename_i ds ns e1
      obtain ⟨w, rfl, h⟩ := rd1 p
      obtain ⟨a, vs, rfl, h1, h2⟩ := h.tup r.ex
      have e2 := intsOf_v h2 e1
      subst e2
      refine .inl ⟨a, ns, rfl, hF ▸ h1, fun ns' pn h3 h4 hn => ?_⟩
      have e3 := sortI_of h3 h4
      subst e3
      exact PostE.newL q r (dps_ints _) pn hn
    · exact q.elim
  · rename_i kvs
    right
    split at q
    · rename_i ns e1
      split at q
      · rename_i hl
        simp only [Bool.and_eq_true, decide_eq_true_eq, bne_iff_ne, ne_eq] at hl
        obtain ⟨w, rfl, h⟩ := rd1 p
        obtain ⟨a, rfl, h5⟩ := h.dicAt
        rcases h5 with ⟨m, h1, h2⟩ | ⟨m, h1, h2, h4⟩
        · refine .inr ⟨a, m, ns, rfl, .inl h1, intKeys_m h2 e1, hl.1, fun ys pn h3 h4 hn => ?_⟩
          have e3 := sortI_of h3 h4
          subst e3
          exact PostE.newL q r (dps_ints _) pn hn
        · exfalso
          cases kvs with
          | nil => exact hl.2 rfl
          | cons q' r' =>
            have hm : m ≠ [] := fun e => by subst e; have := h2.length; simp [pm] at this
            obtain ⟨p', m', rfl⟩ := List.exists_cons_of_ne_nil hm
            obtain ⟨c1, _, _⟩ := MRel.cons (p := (p'.1, p'.2.2)) (m := pm m') h2
            obtain ⟨q1, q2⟩ := q'
            obtain ⟨⟨z, g1, g2, ks, rfl⟩, p2⟩ := p'
            have c1' : q1 = PyData.tuple (NestedKey.datas ks) := by
              refine Eq.trans c1 ?_
              show (NestedKey.tup ks).data = _
              rw [NestedKey.data]
            subst c1'
            unfold intKeys at e1
            cases e1
      · exact q.elim
    · exact q.elim
  · exact q.elim

/-! x[j] = e of one's own -/
theorem SR.mut_dic {i : Nat} {s : Sl} {kvs : List (D × D)} (r : SR F G H σ st) (hs : st[i]? = some s) (ho : s.own = some (.dic kvs)) : ∃ a, slv σ i = some (.ref a) ∧ G a = none ∧ DK F.K G H a kvs ∧
    (∀ m' kvs', MRel F.K G kD m' kvs' → SR F G (upd H a (.dK m')) σ (st.set i (s.re (.dic kvs')))) ∧
    (∀ m' kvs', MRel F.K G GK.d (pm m') kvs' → KOk F.K G m' → SR F G (upd H a (DX a m')) σ (st.set i (s.re (.dic kvs')))) := by
  obtain ⟨v, fp, hv, o, k⟩ := r.mutate hs ho
  obtain ⟨a, vs, e1, e2, e3, e4, e5⟩ := o
  subst e1
  have key : ∀ (o' : HO) (kvs' : List (D × D)) (ws : List V), DicAt F.K G (upd H a o') a (kvs'.map (·.1)) ws → DpAll F.K G ws (kvs'.map (·.2)) → SR F G (upd H a o') σ (st.set i (s.re (.dic kvs'))) := by
    intro o' kvs' ws d1 d2
    refine k _ _ ⟨a, ws, rfl, d1, e3, d2, e5⟩ (fun b hb o eo => ?_) (fun b hb => ?_)
    · rw [upd_ne (fun z => hb (by rw [e5, z]; simp))]; exact eo
    · by_cases z : b = a
      · subst z; rw [upd_same] at hb; cases hb
      · rw [upd_ne z] at hb; exact hb
  refine ⟨a, hv, e3, e2.cases e4, fun m' kvs' h => ?_, fun m' kvs' h ok => ?_⟩
  · obtain ⟨ws, d1, d2⟩ := DicAt.ofK (H := upd H a (.dK m')) (a := a) upd_same h
    exact key _ _ _ d1 d2
  · obtain ⟨ws, d1, d2⟩ := DicAt.ofT (H := upd H a (DX a m')) (a := a) upd_same h ok
    exact key _ _ _ d1 d2
def ownX (st : Sg) (i : Nat) : Option (Sl × U) := match st[i]? with
  | some s => s.own.map fun u => (s, u)
  | none => none
theorem ownX_some {i : Nat} {s : Sl} {u : U} (h : ownX st i = some (s, u)) : st[i]? = some s ∧ s.own = some u := by
  unfold ownX at h
  split at h
  · rename_i s' e
    obtain ⟨w, e1, e2⟩ := Option.map_eq_some_iff.mp h
    cases e2
    exact ⟨e, e1⟩
  · cases h
def isAtom (k : D) : Bool := (keyD k).isSome
def putX (u : U) (j d : D) : Option U := match u with
  | .dat (.list ds) => match j with
    | .int j => (ixN ds.length j).map fun k => .dat (.list (ds.set k d))
    | _ => none
  | .dic kvs => if kin kvs j && decide (kvs.length < LINE) then some (.dic (dPut kvs j d)) else none
  | _ => none
def setXk (i : Nat) (d : D) (g : SE) (st1 : Sg) : RE := match ownX st1 i with
  | some _ => evO (.ev g) st1 fun a st2 => match a, ownX st2 i with
    | .inr (.dat j), some (s, u) => match putX u j d with
      | some u' => .ok false (.dat .none) (st2.set i (s.re u'))
      | none => .bad
    | _, _ => .bad
  | none => .bad
def setX (i : Nat) (f g : SE) : SS := fun st => match f st with
  | .ok o (.dat d) st1 => if o && !frzU (.dat d) then .bad else dropR (setXk i d g st1)
  | .ok _ _ _ => .bad
  | .exc c d st1 => .exc c d st1
  | .bad => .bad
theorem js_setX {i : Nat} {o ix e : Expr} {f g : SE} {tpos pos : Pos} (hF : F.K = X.K) (hu : X.A.units + 65 < cLine) (ho : PE X o (tVar i)) (hi : JE X F W ix g) (he : JE X F W e f)
    (ha : ∀ v, assign (.Subscript o ix tpos) X.env v = (do
      let ov ← holding [v] (eval o X.env)
      let iv ← holding [v, ov] (eval ix X.env)
      standAt tpos
      holding [v, ov, iv] (setItem ov iv v)
      release [v, ov, iv] []) := by intro _; rfl)
    (hs : swapsWithSole [.Subscript o ix tpos] e pos.line X.env = pure false := by rfl) (hw : swappedStores [.Subscript o ix tpos] e X.env = pure none := by rfl)
    (h1 : (assignEach [.Subscript o ix tpos] X.env).map (·.2) = [assign (.Subscript o ix tpos) X.env] := by rfl) : JS X F W (.Assign [.Subscript o ix tpos] e pos) (setX i f g) :=
  PS.imp (ps_asg he (pg_sub ho hi (PSet.or set_list (set_dic hu)) ha) hs hw h1) fun DE σ H ⟨G, st, r, q⟩ => by
    refine ⟨G, st, r, ?_⟩
    unfold setX at q
    generalize f st = z at q ⊢
    have key : ∀ (d : PyData) (st1 : Sg) (v : V) (G1 H1 : Hp), Ex G G1 → SR F G1 H1 σ st1 → Dp F.K G1 v d → PostS F W G σ.length DE (dropR (setXk i d g st1)) → gSub (tVar i) (tE F W g) (fun o i v H Q => rSetL o i v H Q ∨ rSetDic X.K o i v H Q) v σ H1 DE.nx := by
      intro d st1 v G1 H1 e1 r1 p q
      unfold setXk at q
      split at q
      · rename_i z e
        obtain ⟨s, u⟩ := z
        obtain ⟨e2, e3⟩ := ownX_some e
        obtain ⟨w, fp, e4, _, _⟩ := r1.mutate e2 e3
        refine ⟨w, slv_some e4, ?_⟩
        have q' : PostE F W G1 σ (fun _ H2 => DE.nx σ H2) (evO (.ev g) st1 fun a st2 => match a, ownX st2 i with
          | .inr (.dat j), some (s, u) => match putX u j d with
            | some u' => .ok false (.dat .none) (st2.set i (s.re u'))
            | none => .bad
          | _, _ => .bad) := by
          generalize (evO (.ev g) st1 fun a st2 => match a, ownX st2 i with
            | .inr (.dat j), some (s, u) => match putX u j d with
              | some u' => RE.ok false (.dat .none) (st2.set i (s.re u'))
              | none => .bad
            | _, _ => .bad) = w at q ⊢
          cases w with
          | ok o u st3 => exact fun v G' H' e r => q σ G' H' rfl (e1.trans e) (r.pop sl_io)
          | exc c d st3 => exact (q σ rfl).mono e1
          | bad => exact q
        refine evO_ok (o := .ev g) (R := fun y H2 => rSetL w y v H2 (fun H3 => DE.nx σ H3) ∨ rSetDic X.K w y v H2 (fun H3 => DE.nx σ H3)) r1 q' fun y ac G2 H2 st2 e7 r2 p2 q2 => ?_
        split at q2
        · rename_i j s' u' e8
          split at q2
          · rename_i u2 hp
            obtain ⟨e9, e10⟩ := ownX_some e8
            have p2' : Dp F.K G2 y j := p2
            unfold putX at hp
            split at hp
            · rename_i ds
              split at hp
              · rename_i jj
                obtain ⟨k, hk, ek⟩ := Option.map_eq_some_iff.mp hp
                subst ek
                left
                obtain ⟨a', vs', e11, e12, e13, kk⟩ := r2.mut_list e9 e10
                rw [e4] at e11; cases e11
                have hy : y = .int jj := by cases p2'; rfl
                subst hy
                exact ⟨a', vs', jj, k, rfl, rfl, e12, by rw [Dps.length e13]; exact hk, q2 .non G2 _ (Ex.refl _) ((kk _ _ (Dps.set k e13 (dp_mono e7 _ p))).push_ps (u := .dat .none) .non)⟩
              · cases hp
            · rename_i kvs
              split at hp
              · rename_i hc
                cases hp
                simp only [Bool.and_eq_true, decide_eq_true_eq] at hc
                obtain ⟨c2, c3⟩ := hc
                right
                obtain ⟨a', e11, ga, e12, kk, kt⟩ := r2.mut_dic e9 e10
                rw [e4] at e11; cases e11
                have hd := dp_mono e7 _ p
                have finK : ∀ (k : Key) m', j = kD k → MRel F.K G2 kD m' (dPut kvs (kD k) d) → DE.nx σ (upd H2 a' (.dK m')) := fun k m' ek hm => by
                  subst ek
                  exact q2 .non G2 _ (Ex.refl _) ((kk _ _ hm).push_ps (u := .dat .none) .non)
                have finT : ∀ (g : GK) (m : List (GK × Addr × V)) (b : Addr), j = g.d → y = .ref b → MRel F.K G2 GK.d (pm m) kvs → KOk F.K G2 m → (H2 a' = some (DX a' m) ∨ m = [] ∧ H2 a' = some (.dK [])) → RPut X.K H2 a' y v (fun H3 => DE.nx σ H3) := fun g m b ej ey hm ok e => by
                  subst ej
                  have pk : Dp F.K G2 y g.d := p2'
                  subst ey
                  refine .inr (.inr ⟨G2, m, g, b, r2.ex, ga, e, hF ▸ ok, rfl, hF ▸ pk, lt_line (by rw [← pm_len, ← hm.length]; exact c3), ?_⟩)
                  exact q2 .non G2 _ (Ex.refl _) ((kt _ _ (by rw [pm_put]; exact mput tD_inj hm hd) (ok.put pk)).push_ps (u := .dat .none) .non)
                by_cases hne : kvs = []
                · subst hne
                  unfold kin at c2
                  split at c2
                  · rename_i z ez
                    refine ⟨a', rfl, ?_⟩
                    cases z with
                    | inl k =>
                      have ek := kx_inl ez
                      have hy := dp_key (ek ▸ p2' : Dp F.K G2 y (kD k))
                      rcases e12 with ⟨m, h1, h2⟩ | ⟨m, h1, h2, h4⟩
                      · have hm : m = [] := List.length_eq_zero_iff.mp h2.length.symm
                        subst hm
                        exact .inl ⟨[], k, h1, hy, by rw [sizeLine_eq]; decide, finK k _ ek (mput kD_inj h2 hd)⟩
                      · have hm : m = [] := by have := h2.length; rw [pm_len] at this; exact List.length_eq_zero_iff.mp this.symm
                        subst hm
                        exact .inr (.inl ⟨k, h1, hy, finK k _ ek (mput kD_inj (m := []) ⟨rfl, .nil⟩ hd)⟩)
                    | inr z =>
                      obtain ⟨g, eg, ek⟩ := kx_inr ez
                      obtain ⟨b, eb⟩ := dp_ref (ek ▸ p2' : Dp F.K G2 y g.d)
                      rcases e12 with ⟨m, h1, h2⟩ | ⟨m, h1, h2, h4⟩
                      · have hm : m = [] := List.length_eq_zero_iff.mp h2.length.symm
                        subst hm
                        exact finT g [] b ek eb ⟨rfl, .nil⟩ (fun _ hx => by cases hx) (.inr ⟨rfl, h1⟩)
                      · have hm : m = [] := by have := h2.length; rw [pm_len] at this; exact List.length_eq_zero_iff.mp this.symm
                        subst hm
                        exact finT g [] b ek eb ⟨rfl, .nil⟩ (fun _ hx => by cases hx) (.inl h1)
                  · cases c2
                · refine ⟨a', rfl, ?_⟩
                  rcases kind_of c2 hne e12 with ⟨m, k, h1, h2, h3⟩ | ⟨m, z, h1, h2, h4, h3⟩
                  · have ek := kx_inl h3
                    exact .inl ⟨m, k, h1, dp_key (ek ▸ p2' : Dp F.K G2 y (kD k)), lt_line (by rw [← h2.length]; exact c3), finK k _ ek (mput kD_inj h2 hd)⟩
                  · obtain ⟨g, eg, ek⟩ := kx_inr h3
                    obtain ⟨b, eb⟩ := dp_ref (ek ▸ p2' : Dp F.K G2 y g.d)
                    exact finT g m b ek eb h2 h4 (.inl h1)
              · cases hp
            · cases hp
          · exact q2.elim
        · exact q2.elim
      · exact q.elim
    cases z with
    | ok o u st1 =>
      cases u with
      | dat d =>
        intro v G1 H1 e1 r1
        dsimp only at q
        split at q
        · exact q.elim
        · rename_i hc
          cases o with
          | false => exact key d st1 v G1 H1 e1 (r1.pop rfl) r1.last_ps q
          | true =>
            obtain ⟨G2, x, r2, p⟩ := r1.frz_last (by simpa using hc)
            exact key d st1 v G2 H1 (e1.trans x) r2 p q
      | _ => exact q.elim
    | exc c d st1 => exact q σ rfl
    | bad => exact q
end
end Pl

namespace Pl
open PySem L2 PySem.Spec PyProof.Rows

/-! enumerate of a tuple -/
section
variable {prog : Program} {w : World} {A : Around} {E : Value → Shared → Prop} {s : Shared}
theorem enumNew {v : Value} {o : Obj} {H : Heap → Prop} (B : Begins v o H) :
    Meets (Builtin.«enumerate.__new__» ⟨[.type "enumerate", v], []⟩) (fun _ R s => H s.heap ∧ R (.ok (.ret (.ref (s.heap.push o).objs.size)))
      { s with heap := (s.heap.push o).push { cls := .type "enumerate", data := .fields #[.none, .bool false, .ref s.heap.objs.size, rawInt 0, .none, .none] } }) :=
  .of_wp fun prog w A R s ⟨h1, h⟩ => by
    obtain ⟨hp, g, d, tk, os⟩ := s
    have hsub := sub_enumerate
    have go : ∀ {A' : Around} {E : Value → Shared → Prop} {Q : Value → Shared → Prop}, Q (.ref hp.objs.size) ⟨hp.push o, g, d, tk, os⟩ → wpAny (model prog w) A' (pyIter v) Q E ⟨hp, g, d, tk, os⟩ :=
      fun q => B.iter prog w _ _ ⟨hp, g, d, tk, os⟩ _ h1 q
    wp_walk using go
    refine wpAny_stack_any fun st => wpAny_pure ?_
    split
    · rename_i c _ _ _ _ _
      cases (c == Value.type "enumerate") <;> (wp_walk using go; exact ⟨_, rfl, h⟩)
    · wp_walk using go; exact ⟨_, rfl, h⟩
theorem enumMake {v : Value} {o : Obj} {H : Heap → Prop} {Q : Value → Shared → Prop} (B : Begins v o H) (h1 : H s.heap)
    (h : ∀ h', IsEnum h' (s.heap.objs.size + 1) s.heap.objs.size 0 .none → h'.get? s.heap.objs.size = some o → h'.objs.size = s.heap.objs.size + 2 →
      (∀ b q, s.heap.get? b = some q → h'.get? b = some q) → Q (.ref (s.heap.objs.size + 1)) { s with heap := h' }) :
    wpAny (model prog w) A (call (.type "enumerate") [v]) Q E s := by
  refine callType_new F.called_enumerate (by decide) (F.typeCall_enumerate_1 _) (F.newCall_enumerate_1 _) (fun obj => F.args_object_init_2 obj _) F.entry_enumerate_new (enumNew B) ⟨h1, ?_⟩
  have z : (s.heap.push o).objs.size = s.heap.objs.size + 1 := Heap.size_push ..
  show _ ∧ _
  rw [z]
  have he : IsEnum ((s.heap.push o).push { cls := .type "enumerate", data := .fields #[.none, .bool false, .ref s.heap.objs.size, rawInt 0, .none, .none] }) (s.heap.objs.size + 1) s.heap.objs.size 0 .none := by
    have q := Heap.get?_push_size (s.heap.push o) (o := { cls := .type "enumerate", data := .fields #[.none, .bool false, .ref s.heap.objs.size, rawInt 0, .none, .none] }) rfl
    rw [z] at q
    exact q
  refine ⟨⟨_, he, rfl⟩, h _ he (Heap.get?_push_of_some _ (Heap.get?_push_size _ B.free)) (by rw [Heap.size_push, z]) fun b q x => Heap.get?_push_of_some _ (Heap.get?_push_of_some _ x)⟩
end
/-- the tuple at a, each item with its number in a new pair -/
def IteT (K : PySem.W.Frag) (a : Addr) : It :=
  ⟨fun i H => ∃ (xs : List V) (x : V), SqT K H a xs ∧ xs[i]? = some x, fun i H v H' => ∃ T x, v = .ref T ∧ H T = none ∧ H' = upd H T (.tup [.int (i : Nat), x]) ∧ ∀ xs, SqT K H a xs → xs[i]? = some x, fun i H => ∃ xs : List V, SqT K H a xs ∧ xs.length ≤ i⟩
theorem turn_enumT {P : Program} {w : World} {K : PySem.W.Frag} {elts : List Expr} {kk : Nat} {tpos : Pos} (a e it : Addr) :
    Turn P w K (.Tuple elts kk tpos) (IteT K a) [e, it] e (fun i h => (∃ old, IsEnum h e it ((i : Nat) : Int) old) ∧ h.IsTupleIter it a i ∧ e ≠ it ∧ a ≠ it ∧ a ≠ e) where
  mem := by simp
  obj := fun i h st b hb => by
    obtain ⟨⟨old, he⟩, ⟨o, ho, hc, hd⟩, _⟩ := st
    have e' : b = e ∨ b = it := by simpa using hb
    rcases e' with z | z
    · rw [z]; exact ⟨_, he, fun v q => nomatch q⟩
    · rw [z]; exact ⟨o, ho, fun v q => by rw [hd] at q; cases q⟩
  keep := fun i h h' st k => let ⟨⟨old, he⟩, hi, hne⟩ := st; ⟨⟨old, k e (by simp) _ he⟩, hi.at fun o q => k it (by simp) o q, hne⟩
  item := by
    intro X hP hw hK hc i pins s σ H E I hf st hg
    subst hP hw hK
    obtain ⟨⟨old, he⟩, hit, hne, hai, hae⟩ := st
    obtain ⟨xs, x, hq, hx⟩ := hg
    obtain ⟨its, rv, p, hz⟩ := I.tuple hq
    obtain ⟨u, hu, ru⟩ := rv.get hx
    have hel : e < s.heap.objs.size := Heap.lt_size he
    have hil : it < s.heap.objs.size := by obtain ⟨_, q, _⟩ := hit; exact Heap.lt_size q
    have hlt : i < its.toArray.size := by
      have := (List.getElem?_eq_some_iff.mp hu).1
      simpa using this
    refine wpAny_pyNext_enum_itemD (Draws.tuple (by first | exact (I.ok.hd hc) | (rw [show X.A.in1.handled = none from I.ok.hd hc])) it a hai its.toArray) he ⟨hit, p⟩ hlt hne (by simp; exact ⟨hne, Ne.symm hae⟩) fun x' h' tk hp ho st' hT hsz hk => ?_
    have ex : x' = u := by
      have : its[i]? = some x' := by simpa using hp
      rw [hu] at this; exact (Option.some.inj this).symm
    subst ex
    refine ⟨_, rfl, wpAny_letOwnedTupleGo_enum (s := { s with heap := h', toks := tk + 1 }) ho fun h'' he' sb => ?_⟩
    have hT2 : h''.get? s.heap.objs.size = some { cls := .type "tuple", data := .seq #[.int i tk, x'] } := (sb.2 _ (Nat.ne_of_gt hel)).trans hT
    have new : ObjOk X.prog X.w (upd H s.heap.objs.size (.tup [.int (i : Nat), x])) h'' s.heap.objs.size (.tup [.int (i : Nat), x]) :=
      ⟨by show 2 ≤ sizeLine; decide, [.int i tk, x'], .cons ⟨_, rfl⟩ (.cons ru .nil), ⟨_, hT2, rfl, _, rfl⟩⟩
    have I1 : Inv X pins σ (upd H s.heap.objs.size (.tup [.int (i : Nat), x])) { s with heap := h'', toks := tk + 1 } :=
      I.turnedNew (ch := [e, it]) (fun b ob hb q => (sb.2 b (fun z => hb (by simp [z]))).trans (hk b ob (fun z => hb (by simp [z])) (fun z => hb (by simp [z])) q)) hf (Nat.le_refl _) new
    refine ⟨.ref s.heap.objs.size, _, I1, rfl, ⟨_, x, rfl, I.hok.fresh (Nat.le_refl _), rfl, fun ys hy => by rw [I.tuple_inj hy hq]; exact hx⟩, ⟨⟨x', ?_⟩, st'.1.at fun o q => (sb.2 it (Ne.symm hne)).trans q, hne, hai, hae⟩, fun b hb => ?_⟩
    · have e1 : ((i + 1 : Nat) : Int) = (i : Int) + 1 := by omega
      rw [e1]; exact he'
    · have hb' : b < s.heap.objs.size := by
        have e' : b = e ∨ b = it := by simpa using hb
        rcases e' with z | z
        · rw [z]; exact hel
        · rw [z]; exact hil
      rw [upd_ne (Nat.ne_of_lt hb')]
      exact (hf b hb).1
  done := by
    intro X hP hw hK hc i pins s σ H E I hf st hg
    subst hP hw hK
    obtain ⟨⟨old, he⟩, hit, hne, hai, hae⟩ := st
    obtain ⟨xs, hq, hx⟩ := hg
    obtain ⟨its, rv, p, hz⟩ := I.tuple hq
    obtain ⟨f0, f1, f2, f3, f4, f5⟩ := hf it (by simp)
    have hl := rv.length
    have hend : its.toArray[i]? = none := by simp; omega
    have D : Draws X.prog X.w X.A.in1 it [it, a] 0 (fun _ _ => False) (fun n h => h.IsTupleIter it a i ∧ h.IsTuple a its.toArray) :=
      { live := fun _ _ st => let ⟨o, ho, _⟩ := st.1; ⟨o, ho⟩
        frame := fun _ _ _ st hk => ⟨st.1.at fun o e => hk it (by simp) o e, st.2.at fun o e => hk a (by simp) o e⟩
        item := fun i s Q E hi st hQ => absurd hi (Nat.not_lt_zero _)
        done := fun s Q E st hE => wpAny_nextOf_tuple_end (by first | exact (I.ok.hd hc) | (rw [show X.A.in1.handled = none from I.ok.hd hc])) st.1 st.2 hend hE }
    exact wpAny_pyNext_enum_endD D he ⟨hit, p⟩ fun h' eb => ⟨rfl, I.turned (t' := s.toks) (fun b o hb q => eb b o hb q) f0 f1 f3 f4 f5⟩
  self := fun A i s Q E st h => let ⟨⟨_, he⟩, _⟩ := st; wpAny_pyIter_enum he h
def iEnumA (K : PySem.W.Frag) (ta : TA) : TI := fun σ H R => ta σ H fun vs H1 => ∃ a xs, vs = [.ref a] ∧ ((SqL K H1 a xs ∧ R (Ite K a) H1) ∨ (SqT K H1 a xs ∧ R (IteT K a) H1))
theorem pi_enumA {X : Cx} {e : Expr} {ta : TA} {p pos tpos : Pos} {elts : List Expr} {kk : Nat} (hg : Gl X "enumerate") (hm : X.mg "enumerate" = none) (ha : PA X [e] ta) (hs : starEach [e] X.env = [(false, eval e X.env)] := by rfl) :
    PI X (.Tuple elts kk tpos) (.Call (.Name "enumerate" p) [e] [] pos) (iEnumA X.K ta) := by
  refine ⟨fun pins s σ H R I h => ?_⟩
  refine Call_ (ld_blt I hg hm boot_enumerate (PyProof.Rows.callWith_type1 (thn (ha.run pos pins s σ H _ I h) fun us s1 ⟨vs, H1, I1, r1, q1⟩ => ?_) hs rfl))
  obtain ⟨a, xs, ex, q⟩ := q1
  subst ex
  obtain rfl := Vals.ref1 r1
  have fresh2 : ∀ b, b ∈ [s1.heap.objs.size + 1, s1.heap.objs.size] → FpOk X pins H1 b := fun b hb => by
    have e' : b = s1.heap.objs.size + 1 ∨ b = s1.heap.objs.size := by simpa using hb
    have hle : s1.heap.objs.size ≤ b := by
      rcases e' with z | z
      · rw [z]; exact Nat.le_add_right _ _
      · rw [z]; exact Nat.le_refl _
    exact I1.fpOk hle (I1.hok.fresh hle)
  rcases q with ⟨hq, q⟩ | ⟨hq, q⟩
  · obtain ⟨its, rv, p', hz⟩ := I1.list hq
    refine call_enumerate_list p'.isList fun h' he hit hsz hk => wpAny_pyIter_enum he ?_
    have I2 : Inv X pins σ H1 { s1 with heap := h' } := I1.kept (t' := s1.toks) hk
    exact ⟨s1.heap.objs.size + 1, [s1.heap.objs.size + 1, s1.heap.objs.size], _, _, H1, rfl, I2, turn_enum a (s1.heap.objs.size + 1) s1.heap.objs.size, ⟨⟨.none, he⟩, hit, Nat.succ_ne_self _⟩, fresh2, q⟩
  · obtain ⟨its, rv, p', hz⟩ := I1.tuple hq
    obtain ⟨o', ho', _⟩ := id p'
    have hal : a < s1.heap.objs.size := Heap.lt_size ho'
    refine enumMake (begins_tuple a its.toArray) p' fun h' he hit hsz hk => wpAny_pyIter_enum he ?_
    have I2 : Inv X pins σ H1 { s1 with heap := h' } := I1.kept (t' := s1.toks) hk
    exact ⟨s1.heap.objs.size + 1, [s1.heap.objs.size + 1, s1.heap.objs.size], _, _, H1, rfl, I2, turn_enumT a (s1.heap.objs.size + 1) s1.heap.objs.size, ⟨⟨.none, he⟩, ⟨_, hit, rfl, rfl⟩, Nat.succ_ne_self _, Nat.ne_of_lt hal, Nat.ne_of_lt (Nat.lt_succ_of_lt hal)⟩, fresh2, q⟩

section
variable {X : Cx} {F : Fr} {W : Wx} {G G' H H' : Hp} {σ : St} {st st' : Sg} {Q : VK} {v : V} {u : U} {ds es : List D} {vs ws : List V}
def enumD (ds : List D) : List D := ds.mapIdx fun i d => .dict [(.int (i : Nat), d)]
def zipD (ds es : List D) : List D := List.zipWith (fun a b => PyData.dict [(a, b)]) ds es
theorem enumD_at {i : Nat} {d : D} (h : (enumD ds)[i]? = some d) : ∃ x, ds[i]? = some x ∧ d = .dict [(.int (i : Nat), x)] := by
  unfold enumD at h
  rw [List.getElem?_mapIdx] at h
  obtain ⟨x, e1, e2⟩ := Option.map_eq_some_iff.mp h
  exact ⟨x, e1, e2.symm⟩
theorem zipD_at {i : Nat} {d : D} (h : (zipD ds es)[i]? = some d) : ∃ x y, ds[i]? = some x ∧ es[i]? = some y ∧ d = .dict [(x, y)] := by
  unfold zipD at h
  rw [List.getElem?_zipWith] at h
  cases e1 : ds[i]? with
  | none => rw [e1] at h; cases h
  | some x =>
    cases e2 : es[i]? with
    | none => rw [e1, e2] at h; cases h
    | some y => rw [e1, e2] at h; cases h; exact ⟨x, y, rfl, rfl, rfl⟩
/-- a new pair -/
theorem pair_new {K : PySem.W.Frag} {G' H' H2 : Hp} {x a b : V} {T : Addr} {d e : D} (h1 : x = .ref T) (h2 : H' T = none) (h3 : H2 = upd H' T (.tup [a, b])) (x2 : Ex G' H') (p : Dp K G' a d) (q : Dp K G' b e) :
    (H2 = H' ∧ Dp K G' x (.dict [(d, e)])) ∨ (∃ p o, H' p = none ∧ H2 = upd H' p o ∧ Dp K (upd G' p o) x (.dict [(d, e)])) :=
  .inr ⟨T, _, h2, h3, by rw [h1]; exact .pair (SqT.of upd_same) (dp_mono (Ex.new (x2.back h2)) _ p) (dp_mono (Ex.new (x2.back h2)) _ q)⟩
theorem drives_enum {K : PySem.W.Frag} {a : Addr} (h : SqL K G a vs) (p : DpAll K G vs ds) : Drives K G (Ite K a) (enumD ds) :=
  ⟨fun i G' H' hi e e2 => by
      have hl := Dps.length p
      have hi' : i < vs.length := by rw [hl]; simpa [enumD] using hi
      exact ⟨vs, vs[i], ex_l (e.trans e2) h, List.getElem?_eq_getElem hi'⟩,
    fun i d G' H' x H2 hd e e2 y => by
      obtain ⟨T, z, y1, y2, y3, y4⟩ := y
      obtain ⟨b, e3, e4⟩ := enumD_at hd
      subst e4
      obtain ⟨w, e5, q⟩ := Dps.get p e3
      rw [y4 vs (ex_l (e.trans e2) h)] at e5
      cases e5
      exact pair_new y1 y2 y3 e2 (.int _) (dp_mono e _ q),
    fun i G' H' hi e e2 => ⟨vs, ex_l (e.trans e2) h, by rw [Dps.length p]; simpa [enumD] using hi⟩⟩
theorem drives_enumT {K : PySem.W.Frag} {a : Addr} (h : SqT K G a vs) (p : DpAll K G vs ds) : Drives K G (IteT K a) (enumD ds) :=
  ⟨fun i G' H' hi e e2 => by
      have hl := Dps.length p
      have hi' : i < vs.length := by rw [hl]; simpa [enumD] using hi
      exact ⟨vs, vs[i], ex_t (e.trans e2) h, List.getElem?_eq_getElem hi'⟩,
    fun i d G' H' x H2 hd e e2 y => by
      obtain ⟨T, z, y1, y2, y3, y4⟩ := y
      obtain ⟨b, e3, e4⟩ := enumD_at hd
      subst e4
      obtain ⟨w, e5, q⟩ := Dps.get p e3
      rw [y4 vs (ex_t (e.trans e2) h)] at e5
      cases e5
      exact pair_new y1 y2 y3 e2 (.int _) (dp_mono e _ q),
    fun i G' H' hi e e2 => ⟨vs, ex_t (e.trans e2) h, by rw [Dps.length p]; simpa [enumD] using hi⟩⟩
theorem zip_lt {i : Nat} (hi : i < (zipD ds es).length) : i < ds.length ∧ i < es.length := by
  unfold zipD at hi
  rw [List.length_zipWith] at hi
  omega
theorem zip_ge {i : Nat} (hi : (zipD ds es).length ≤ i) : ds.length ≤ i ∨ es.length ≤ i := by
  unfold zipD at hi
  rw [List.length_zipWith] at hi
  omega
theorem drives_zip {K : PySem.W.Frag} {a b : Addr} (h : SqL K G a vs) (p : DpAll K G vs ds) (h' : SqL K G b ws) (p' : DpAll K G ws es) : Drives K G (Itz K a b) (zipD ds es) :=
  ⟨fun i G' H' hi e e2 => by
      have hi' := zip_lt hi
      have h1 : i < vs.length := by rw [Dps.length p]; exact hi'.1
      have h2 : i < ws.length := by rw [Dps.length p']; exact hi'.2
      exact ⟨vs, ws, vs[i], ws[i], ex_l (e.trans e2) h, ex_l (e.trans e2) h', List.getElem?_eq_getElem h1, List.getElem?_eq_getElem h2⟩,
    fun i d G' H' x H2 hd e e2 y => by
      obtain ⟨T, z, z', y1, y2, y3, y4, y5⟩ := y
      obtain ⟨b1, b2, e3, e4, e5⟩ := zipD_at hd
      subst e5
      obtain ⟨w, e6, q⟩ := Dps.get p e3
      obtain ⟨w', e7, q'⟩ := Dps.get p' e4
      rw [y4 vs (ex_l (e.trans e2) h)] at e6
      rw [y5 ws (ex_l (e.trans e2) h')] at e7
      cases e6; cases e7
      exact pair_new y1 y2 y3 e2 (dp_mono e _ q) (dp_mono e _ q'),
    fun i G' H' hi e e2 => ⟨vs, ws, ex_l (e.trans e2) h, ex_l (e.trans e2) h', by rw [Dps.length p, Dps.length p']; exact zip_ge hi⟩⟩
theorem drives_zipT {K : PySem.W.Frag} {a b : Addr} (h : SqT K G a vs) (p : DpAll K G vs ds) (h' : SqT K G b ws) (p' : DpAll K G ws es) : Drives K G (RZ.ItzT K a b) (zipD ds es) :=
  ⟨fun i G' H' hi e e2 => by
      have hi' := zip_lt hi
      have h1 : i < vs.length := by rw [Dps.length p]; exact hi'.1
      have h2 : i < ws.length := by rw [Dps.length p']; exact hi'.2
      exact ⟨vs, ws, vs[i], ws[i], ex_t (e.trans e2) h, ex_t (e.trans e2) h', List.getElem?_eq_getElem h1, List.getElem?_eq_getElem h2⟩,
    fun i d G' H' x H2 hd e e2 y => by
      obtain ⟨T, z, z', y1, y2, y3, y4, y5⟩ := y
      obtain ⟨b1, b2, e3, e4, e5⟩ := zipD_at hd
      subst e5
      obtain ⟨w, e6, q⟩ := Dps.get p e3
      obtain ⟨w', e7, q'⟩ := Dps.get p' e4
      rw [y4 vs (ex_t (e.trans e2) h)] at e6
      rw [y5 ws (ex_t (e.trans e2) h')] at e7
      cases e6; cases e7
      exact pair_new y1 y2 y3 e2 (dp_mono e _ q) (dp_mono e _ q'),
    fun i G' H' hi e e2 => ⟨vs, ws, ex_t (e.trans e2) h, ex_t (e.trans e2) h', by rw [Dps.length p, Dps.length p']; exact zip_ge hi⟩⟩
def mapI (g : List D → List D) : RI → RI
  | .ok ds st => .ok (g ds) st
  | r => r
def enumI (f : SE) : SI := fun st => mapI enumD (seqI f st)
theorem ji_enum {e : Expr} {f : SE} {p pos tpos : Pos} {elts : List Expr} {kk : Nat} (hF : F.K = X.K) (hg : Gl X "enumerate") (hm : X.mg "enumerate" = none) (h : JE X F W e f) (hs : starEach [e] X.env = [(false, eval e X.env)] := by rfl) :
    JI X F W (.Tuple elts kk tpos) (.Call (.Name "enumerate" p) [e] [] pos) (enumI f) :=
  PI.imp (pi_enumA hg hm (pa_cons h pa_nil hs) hs) fun σ H R ⟨G, st, r, q⟩ => by
    refine ⟨G, st, r, ?_⟩
    unfold enumI seqI at q
    generalize f st = z at q ⊢
    have key : ∀ (u : U) (st' : Sg) (ds : List D) (v : V) (G' H' : Hp), itemsU u = some ds → PostI F W G σ R (.ok (enumD ds) st') → Ex G G' → SR F G' H' σ st' → PsU F.K G' v u →
        ∃ a xs, [v] = [.ref a] ∧ ((SqL X.K H' a xs ∧ R (Ite X.K a) H') ∨ (SqT X.K H' a xs ∧ R (IteT X.K a) H')) := by
      intro u st' ds v G' H' hu q e r' p
      rw [← hF]
      unfold itemsU at hu
      split at hu
      · cases hu
        cases p with
        | lst hs ha => exact ⟨_, _, rfl, .inl ⟨ex_l r'.ex hs, q G' H' _ e r' (drives_enum hs ha)⟩⟩
      · cases hu
        cases p with
        | tup hs ha => exact ⟨_, _, rfl, .inr ⟨(ex_n r'.ex hs).t, q G' H' _ e r' (drives_enumT hs.t ha)⟩⟩
      · cases hu
    cases z with
    | ok o u st' =>
      intro v G' H' e r'
      dsimp only at q
      split at q
      · exact q.elim
      · rename_i hc
        split at q
        · rename_i ds hu
          cases o with
          | false => exact key u st' ds v G' H' hu q e (r'.pop rfl) r'.last_ps
          | true =>
            obtain ⟨G2, x, r2, p⟩ := r'.frz_last (by simpa using hc)
            exact key u st' ds v G2 H' hu q (e.trans x) r2 p
        · exact q.elim
    | exc c d st' => exact q
    | bad => exact q
def zipU : U → U → Option (List D)
  | .dat (.list ds), .dat (.list es) => some (zipD ds es)
  | .dat (.tuple ds), .dat (.tuple es) => some (zipD ds es)
  | _, _ => none
def zipI (f g : SE) : SI := fun st => match evA [.ev f, .ev g] [] st with
  | .ok as st' => match as with
    | [.inr u, .inr w] => match zipU u w with
      | some ds => .ok ds st'
      | none => .bad
    | _ => .bad
  | .exc c d st' => .exc c d st'
  | .bad => .bad
theorem ji_zip {e e2 : Expr} {f g : SE} {p pos tpos : Pos} {elts : List Expr} {kk : Nat} (hF : F.K = X.K) (hg : Gl X "zip") (hm : X.mg "zip" = none) (h : JE X F W e f) (h2 : JE X F W e2 g)
    (hs : starEach [e, e2] X.env = (false, eval e X.env) :: starEach [e2] X.env := by rfl) (hs2 : starEach [e2] X.env = (false, eval e2 X.env) :: starEach [] X.env := by rfl) (hpl : (backTo pos (starEach [e2] X.env)).any (·.1) = false := by rfl) :
    JI X F W (.Tuple elts kk tpos) (.Call (.Name "zip" p) [e, e2] [] pos) (zipI f g) :=
  PI.imp (RZ.pi_zipA hg hm (pa_cons h (pa_cons h2 pa_nil hs2) hs) hs hpl) fun σ H R ⟨G, st, r, q⟩ => by
    refine evA_ok (os := [.ev f, .ev g]) (acc := []) (vs := []) r .nil ?_
    unfold zipI at q
    generalize evA [.ev f, .ev g] [] st = z at q ⊢
    cases z with
    | ok as st' =>
      intro ws G' H' l e r' pa
      dsimp only at q
      split at q
      · rename_i u w
        split at q
        · rename_i ds hz
          cases pa with
          | cons p1 pa =>
            cases pa with
            | cons p2 pa =>
              cases pa
              rename_i x y
              have p1' : PsU F.K G' x u := p1
              have p2' : PsU F.K G' y w := p2
              rw [← hF]
              unfold zipU at hz
              split at hz
              · cases hz
                cases p1' with
                | lst hs ha =>
                  cases p2' with
                  | lst hs2 ha2 => exact ⟨_, _, _, _, rfl, .inl ⟨ex_l r'.ex hs, ex_l r'.ex hs2, q G' H' _ e r' (drives_zip hs ha hs2 ha2)⟩⟩
              · cases hz
                cases p1' with
                | tup hs ha =>
                  cases p2' with
                  | tup hs2 ha2 => exact ⟨_, _, _, _, rfl, .inr ⟨(ex_n r'.ex hs).t, (ex_n r'.ex hs2).t, q G' H' _ e r' (drives_zipT hs.t ha hs2.t ha2)⟩⟩
              · cases hz
        · exact q.elim
      · exact q.elim
    | exc c d st' => exact q
    | bad => exact q
end
end Pl

namespace Pl
open PySem L2 PySem.Spec PyProof.Rows

section
variable {X : Cx} {F : Fr} {W : Wx} {G G' H H' : Hp} {σ : St} {st st' : Sg} {Q : VK} {v : V} {u : U} {ds es : List D} {vs ws : List V}
/-! the first place of an item in a list -/
def firstD (d : D) : List D → Nat → Option Nat
  | [], _ => none
  | z :: r, n => if PyData.eqv z d then some n else firstD d r (n + 1)
theorem firstD_spec {d : D} : ∀ {ds : List D} {n j : Nat}, firstD d ds n = some j → n ≤ j ∧ ∃ z, ds[j - n]? = some z ∧ PyData.eqv z d = true ∧ ∀ m z', m < j - n → ds[m]? = some z' → PyData.eqv z' d = false
  | [], n, j, h => by cases h
  | z :: r, n, j, h => by
    unfold firstD at h
    split at h
    · rename_i c
      cases h
      exact ⟨Nat.le_refl _, z, by simp, c, fun m z' hm => by simp at hm⟩
    · rename_i c
      obtain ⟨h1, z', h2, h3, h4⟩ := firstD_spec h
      refine ⟨by omega, z', ?_, h3, fun m w hm hw => ?_⟩
      · have e : j - n = (j - (n + 1)) + 1 := by omega
        rw [e, List.getElem?_cons_succ]
        exact h2
      · cases m with
        | zero => simp at hw; subst hw; simpa using c
        | succ m => exact h4 m w (by omega) (by simpa using hw)
/-- x.index(e): x a list in slot i -/
def isLstAt (st : Sg) (i : Nat) : Option (List D) := match (st[i]?).bind Sl.val with
  | some (.dat (.list ds)) => some ds
  | _ => none
def indexK (i : Nat) (u : U) (st : Sg) : RE := match u with
  | .dat d => match isLstAt st i with
    | some ds => if SeqAt.shaped (.list ds) && SeqAt.shaped d then (match firstD d ds 0 with
      | some j => .ok false (.dat (.int (j : Nat))) st
      | none => .bad) else .bad
    | none => .bad
  | _ => .bad
def indexE (i : Nat) (f : SE) : SE := fun st => match isLstAt st i with
  | some _ => evO (.ev f) st fun a st' => match a with
    | .inr u => indexK i u st'
    | _ => .bad
  | none => .bad
theorem isLstAt_some {i : Nat} (h : isLstAt st i = some ds) : ∃ s, st[i]? = some s ∧ s.val = some (.dat (.list ds)) := by
  unfold isLstAt at h
  split at h
  · rename_i e
    cases h
    obtain ⟨s, e1, e2⟩ := Option.bind_eq_some_iff.mp e
    exact ⟨s, e1, e2⟩
  · cases h
theorem je_index {i : Nat} {o e : Expr} {f : SE} {apos cpos : Pos} (hF : F.K = X.K) (hu : X.A.units + 65 < cLine) (ho : PE X o (tVar i)) (he : JE X F W e f)
    (hbase : attributeBase o "index" X.env (eval o X.env) = eval o X.env := by rfl)
    (hfew : ((backTo cpos (starEach [e] X.env)).all (fun x => !x.1) && (backToKw cpos (keywordEach [] X.env)).all (fun x => x.1.isSome) && decide ([e].length + ([] : List Keyword).length + (if ([] : List Keyword).isEmpty then 0 else 1) < 30)) = true := by rfl)
    (hline : (apos.endLine == cpos.line) = true := by rfl) (hs : starEach [e] X.env = (false, eval e X.env) :: starEach [] X.env := by rfl) (hplain : (backTo cpos (starEach [] X.env)).any (·.1) = false := by rfl) :
    JE X F W (.Call (.Attribute o "index" apos) [e] [] cpos) (indexE i f) :=
  PE.imp (pe_bm PySem.F.plainAttrs_list PySem.F.slot_list_index PySem.F.type_list_index (mt_indexD hu) ho (pa_cons he pa_nil hs) hbase hfew hline hs hplain) fun σ H Q ⟨G, st, r, h⟩ => by
    unfold indexE at h
    split at h
    · rename_i ds e
      obtain ⟨s, e1, e2⟩ := isLstAt_some e
      obtain ⟨v, e3, q⟩ := r.rd e1 e2
      obtain ⟨a, vs, e4, e5, e6⟩ := q.lst
      subst e4
      refine ⟨.ref a, slv_some e3, .inl ⟨rfl, vs, hF ▸ e5⟩, ?_⟩
      refine evO_ok (o := .ev f) (R := fun x H' => rIndexD X.K (.ref a) [x] H' Q) r h fun x ac G' H' st' ex r' p q => ?_
      split at q
      · rename_i w
        unfold indexK at q
        split at q
        · rename_i d
          split at q
          · rename_i ds' e7
            obtain ⟨s', e8, e9⟩ := isLstAt_some e7
            obtain ⟨v', e10, q'⟩ := r'.rd e8 e9
            rw [e3] at e10; cases e10
            split at q
            · rename_i hsh
              rw [Bool.and_eq_true] at hsh
              split at q
              · rename_i j hj
                obtain ⟨_, z, h1, h2, h3⟩ := firstD_spec hj
                have p' : Dp F.K G' x d := p
                exact ⟨a, x, d, ds', j, z, rfl, rfl, hF ▸ (q'.dp r'.ex).l2 (SeqAt.canLay_of_shaped hsh.1), hF ▸ (dp_mono r'.ex _ p').l2 (SeqAt.canLay_of_shaped hsh.2), hsh.1, hsh.2, h1, h2, h3, PostE.ps q r' (.int _)⟩
              · exact q.elim
            · exact q.elim
          · exact q.elim
        · exact q.elim
      · exact q.elim
    · exact h.elim

/-! ranges as values -/
def rgOk (a b : Int) : Bool := decide (-(2 ^ 62) ≤ a ∧ a < 2 ^ 62 ∧ -(2 ^ 62) ≤ b ∧ b < 2 ^ 62 ∧ (b - a).toNat ≤ 2 ^ 24)
theorem rgOk_ok {a b : Int} (h : rgOk a b = true) : RgOk a b := of_decide_eq_true (p := -(2 ^ 62) ≤ a ∧ a < 2 ^ 62 ∧ -(2 ^ 62) ≤ b ∧ b < 2 ^ 62 ∧ (b - a).toNat ≤ 2 ^ 24) h
def rgD (a b : Int) : List D := rngItems a (b - a).toNat
def rgK (own : Bool) (a b : Int) (st : Sg) : RE := if rgOk a b then .ok own (.dat (if own then .list (rgD a b) else .tuple (rgD a b))) st else .bad
def rg1U (own : Bool) (u : U) (st : Sg) : RE := match u with
  | .dat (.int b) => rgK own 0 b st
  | _ => .bad
def rg2U (own : Bool) (u w : U) (st : Sg) : RE := match u, w with
  | .dat (.int a), .dat (.int b) => rgK own a b st
  | _, _ => .bad
theorem dps_rg {K : PySem.W.Frag} (a b : Int) : DpAll K G (rgV a b) (rgD a b) := by
  unfold rgV rgD rngItems
  induction (List.range (b - a).toNat) with
  | nil => exact .nil
  | cons x l ih => exact .cons (.int _) ih
theorem je_listRg1 {e : Expr} {o : Opn} {p p2 pos pos2 : Pos} (hc : X.calm = true) (hg : Gl X "list") (hm : X.mg "list" = none) (hg2 : Gl X "range") (hm2 : X.mg "range" = none) (he : JO X F W e o) (na : starEach [e] X.env = (false, eval e X.env) :: starEach [] X.env := by rfl)
    (nb : starEach [.Call (.Name "range" p2) [e] [] pos2] X.env = (false, eval (.Call (.Name "range" p2) [e] [] pos2) X.env) :: starEach [] X.env := by rfl) : JE X F W (.Call (.Name "list" p) [.Call (.Name "range" p2) [e] [] pos2] [] pos) (ev1 o (rg1U true)) :=
  PE.imp (pe_listRg hc hg hm (prg_1 hg2 hm2 he na) nb) fun σ H Q ⟨G, st, r, h⟩ => ev1_ok r h fun x u G' H' st' e r' h1 q => by
    unfold rg1U at q
    split at q
    · rename_i b
      unfold rgK at q
      split at q
      · rename_i hk
        exact ⟨b, h1.int, rgOk_ok hk, PostE.newL q r' (dps_rg _ _)⟩
      · exact q.elim
    · exact q.elim
theorem je_listRg2 {e e2 : Expr} {o o2 : Opn} {p p2 pos pos2 : Pos} (hc : X.calm = true) (hg : Gl X "list") (hm : X.mg "list" = none) (hg2 : Gl X "range") (hm2 : X.mg "range" = none) (he : JO X F W e o) (he2 : JO X F W e2 o2)
    (na : starEach [e, e2] X.env = (false, eval e X.env) :: starEach [e2] X.env := by rfl) (nb : starEach [e2] X.env = (false, eval e2 X.env) :: starEach [] X.env := by rfl) (hp : (backTo pos2 (starEach [e2] X.env)).any (·.1) = false := by rfl)
    (nc : starEach [.Call (.Name "range" p2) [e, e2] [] pos2] X.env = (false, eval (.Call (.Name "range" p2) [e, e2] [] pos2) X.env) :: starEach [] X.env := by rfl) : JE X F W (.Call (.Name "list" p) [.Call (.Name "range" p2) [e, e2] [] pos2] [] pos) (ev2 o o2 (rg2U true)) :=
  PE.imp (pe_listRg hc hg hm (prg_2 hg2 hm2 he he2 na nb hp) nc) fun σ H Q ⟨G, st, r, h⟩ => ev2_ok r h fun x y u w G' H' st' e r' h1 h2 q => by
    unfold rg2U at q
    split at q
    · rename_i a b
      unfold rgK at q
      split at q
      · rename_i hk
        exact ⟨a, b, h1.int, h2.int, rgOk_ok hk, PostE.newL q r' (dps_rg _ _)⟩
      · exact q.elim
    · exact q.elim
theorem je_tupRg1 {e : Expr} {o : Opn} {p p2 pos pos2 : Pos} (hc : X.calm = true) (hg : Gl X "tuple") (hm : X.mg "tuple" = none) (hg2 : Gl X "range") (hm2 : X.mg "range" = none) (he : JO X F W e o) (na : starEach [e] X.env = (false, eval e X.env) :: starEach [] X.env := by rfl)
    (nb : starEach [.Call (.Name "range" p2) [e] [] pos2] X.env = (false, eval (.Call (.Name "range" p2) [e] [] pos2) X.env) :: starEach [] X.env := by rfl) : JE X F W (.Call (.Name "tuple" p) [.Call (.Name "range" p2) [e] [] pos2] [] pos) (ev1 o (rg1U false)) :=
  PE.imp (pe_tupRgN hc hg hm (prg_1 hg2 hm2 he na) nb) fun σ H Q ⟨G, st, r, h⟩ => ev1_ok r h fun x u G' H' st' e r' h1 q => by
    unfold rg1U at q
    split at q
    · rename_i b
      unfold rgK at q
      split at q
      · rename_i hk
        exact ⟨b, h1.int, rgOk_ok hk, PostE.newT q r' (dps_rg _ _)⟩
      · exact q.elim
    · exact q.elim
theorem je_tupRg2 {e e2 : Expr} {o o2 : Opn} {p p2 pos pos2 : Pos} (hc : X.calm = true) (hg : Gl X "tuple") (hm : X.mg "tuple" = none) (hg2 : Gl X "range") (hm2 : X.mg "range" = none) (he : JO X F W e o) (he2 : JO X F W e2 o2)
    (na : starEach [e, e2] X.env = (false, eval e X.env) :: starEach [e2] X.env := by rfl) (nb : starEach [e2] X.env = (false, eval e2 X.env) :: starEach [] X.env := by rfl) (hp : (backTo pos2 (starEach [e2] X.env)).any (·.1) = false := by rfl)
    (nc : starEach [.Call (.Name "range" p2) [e, e2] [] pos2] X.env = (false, eval (.Call (.Name "range" p2) [e, e2] [] pos2) X.env) :: starEach [] X.env := by rfl) : JE X F W (.Call (.Name "tuple" p) [.Call (.Name "range" p2) [e, e2] [] pos2] [] pos) (ev2 o o2 (rg2U false)) :=
  PE.imp (pe_tupRgN hc hg hm (prg_2 hg2 hm2 he he2 na nb hp) nc) fun σ H Q ⟨G, st, r, h⟩ => ev2_ok r h fun x y u w G' H' st' e r' h1 h2 q => by
    unfold rg2U at q
    split at q
    · rename_i a b
      unfold rgK at q
      split at q
      · rename_i hk
        exact ⟨a, b, h1.int, h2.int, rgOk_ok hk, PostE.newT q r' (dps_rg _ _)⟩
      · exact q.elim
    · exact q.elim

/-! name += e: whole numbers; a list of one's own and a new one -/
def augU (i : Nat) (o : Bool) (u : U) (st : Sg) : RS := match st[i]? with
  | some (.ps (.dat (.int a))) => match u with
    | .dat (.int b) => if o then .bad else .nx (st.set i (.ps (.dat (.int (a + b)))))
    | _ => .bad
  | some s => match s.own, u with
    | some (.dat (.list ds)), .dat (.list es) => if o && decide (ds.length + es.length ≤ LINE) then .nx (st.set i (s.re (.dat (.list (ds ++ es))))) else .bad
    | _, _ => .bad
  | none => .bad
def augR (i : Nat) : RE → RS
  | .ok o u st' => augU i o u st'
  | .exc c d st' => .exc c d st'
  | .bad => .bad
def augS (i : Nat) (f : SE) : SS := fun st => match (st[i]?).bind Sl.val with
  | some _ => augR i (f st)
  | none => .bad
theorem set_same {i : Nat} (h : slv σ i = some v) : σ.set i (some v) = σ := by
  apply List.ext_getElem?
  intro j
  by_cases e : i = j
  · subst e
    rw [List.getElem?_set_self (slv_lt h), slv_some h]
  · rw [List.getElem?_set_ne e]
theorem pip_add : PIp X .Add (fun x y H Q => ipI (fun i j => i + j) x y H Q ∨ rExt2 x y H Q) := by
  intro pins s σ H x y v u Q I rx ry h
  rcases h with h | h
  · exact ip_add pins s σ H x y v u Q I rx ry h
  · exact iop_ext pins s σ H x y v u Q I rx ry h
theorem js_aug {i : Nat} {x : Str} {e : Expr} {f : SE} {pos pos' : Pos} (hN : X.N.Nodup) (hi : X.N[i]? = some x) (hx : Loc X.env.scope x) (he : JE X F W e f) (hf : X.fn x = true ∨ X.env.scope.names.lookup x = some .local := by first | exact .inl rfl | exact .inr rfl | assumption) :
    JS X F W (.AugAssign (.Name x pos') .Add e pos) (augS i f) :=
  PS.imp (ps_aug hN hi hx he pip_add hf) fun D σ H ⟨G, st, r, q⟩ => by
    unfold augS at q
    split at q
    · rename_i w e
      obtain ⟨s, e1, e2⟩ := Option.bind_eq_some_iff.mp e
      obtain ⟨x0, e3, _⟩ := r.rd e1 e2
      refine ⟨x0, slv_some e3, G, st, r, ?_⟩
      generalize f st = z at q ⊢
      cases z with
      | ok o u st' =>
        intro y G' H' ex r'
        have q' : PostS F W G σ.length D (augU i o u st') := q
        unfold augU at q'
        split at q'
        · rename_i a e4
          split at q'
          · rename_i b
            split at q'
            · exact q'.elim
            · rename_i ho
              cases o with
              | true => exact absurd rfl ho
              | false =>
                obtain ⟨v, e5, p⟩ := (r'.pop rfl).ps e4
                rw [e3] at e5; cases e5
                have hy := r'.last_ps
                have e6 : x0 = .int a := by cases p; rfl
                have e7 : y = .int b := by
                  have hy' : Dp F.K G' y (.int b) := hy
                  cases hy'; rfl
                refine .inl ⟨a, b, e6, e7, q' _ G' H' (by simp) ex ?_⟩
                have hi' : i < st'.length := (List.getElem?_eq_some_iff.mp e4).1
                exact ((r'.pop rfl).push_ps (v := .int (a + b)) (u := .dat (.int (a + b))) (.int _)).store hi' rfl
          · exact q'.elim
        · rename_i s' hs' e4
          split at q'
          · rename_i ds es ho
            split at q'
            · rename_i hc
              simp only [Bool.and_eq_true, decide_eq_true_eq] at hc
              obtain ⟨c1, c2⟩ := hc
              cases o with
              | false => cases c1
              | true =>
                obtain ⟨fp, ow⟩ := r'.last_ow
                obtain ⟨b, zs, e5, e6, e7, e8, e9⟩ := ow
                obtain ⟨a, vs, e10, e11, e12, k⟩ := (r'.pop rfl).mut_list e4 ho
                rw [e3] at e10; cases e10
                refine .inr ⟨a, b, vs, zs, rfl, e5, e11, e6, ?_, ?_⟩
                · have := Dps.length e12
                  have := Dps.length e8
                  exact le_line (by omega)
                · show D.nx (σ.set i (some (.ref a))) _
                  rw [set_same e3]
                  exact q' _ G' _ rfl ex (k _ _ (Dps.append e12 e8))
            · exact q'.elim
          · exact q'.elim
        · exact q'.elim
      | exc c d st' => exact q σ rfl
      | bad => exact q
    · exact q.elim
end
end Pl

namespace Pl
open PySem L2 PySem.Spec PyProof.Rows

theorem canLay_ints (ns : List Int) : SeqAt.shaped (.list (ns.map PyData.int)) = true := by
  have h1 : ∀ ns : List Int, PyData.canLayAll0 (ns.map PyData.int) = true := by
    intro ns
    induction ns with
    | nil => simp [PyData.canLayAll0]
    | cons n ns ih => simp [List.map_cons, PyData.canLayAll0, PyData.canLay0, ih]
  have h2 : ∀ ns : List Int, PyData.depthAll (ns.map PyData.int) ≤ 1 := by
    intro ns
    induction ns with
    | nil => simp [PyData.depthAll]
    | cons n ns ih => simp [List.map_cons, PyData.depthAll, PyData.depth]; omega
  unfold SeqAt.shaped
  rw [Bool.and_eq_true]
  refine ⟨?_, decide_eq_true ?_⟩
  · simp only [PyData.canLay0]; exact h1 ns
  · have := h2 ns
    simp only [PyData.depth]
    omega
section
variable {X : Cx} {F : Fr} {W : Wx} {G G' H H' : Hp} {σ : St} {st st' : Sg} {Q : VK} {v : V} {u : U} {ds : List D} {vs : List V}
theorem SR.mut_dl {i : Nat} {s : Sl} {ns : List Int} {b : Int} (r : SR F G H σ st) (hs : st[i]? = some s) (ho : s.own = some (.dl ns b)) : ∃ a c, slv σ i = some (.ref a) ∧ H a = some (.lst [.ref c, .int b]) ∧ H c = some (.lst (ns.map V.int)) ∧ a ≠ c ∧
    (∀ ns', SR F G (upd H c (.lst (ns'.map V.int))) σ (st.set i (s.re (.dl ns' b)))) ∧ (∀ b', SR F G (upd H a (.lst [.ref c, .int b'])) σ (st.set i (s.re (.dl ns b')))) := by
  obtain ⟨v, fp, hv, o, k⟩ := r.mutate hs ho
  obtain ⟨a, c, e1, e2, e3, e4, e5, e6, e7⟩ := o
  subst e1
  refine ⟨a, c, hv, e2, e3, e4, fun ns' => k _ _ ⟨a, c, rfl, ?_, upd_same, e4, e5, e6, e7⟩ (fun d hd o eo => ?_) (fun d hd => ?_), fun b' => k _ _ ⟨a, c, rfl, upd_same, ?_, e4, e5, e6, e7⟩ (fun d hd o eo => ?_) (fun d hd => ?_)⟩
  · rw [upd_ne e4]; exact e2
  · rw [upd_ne (fun z => hd (by rw [e7, z]; simp))]; exact eo
  · by_cases z : d = c
    · subst z; rw [upd_same] at hd; cases hd
    · rw [upd_ne z] at hd; exact hd
  · rw [upd_ne (Ne.symm e4)]; exact e3
  · rw [upd_ne (fun z => hd (by rw [e7, z]; simp))]; exact eo
  · by_cases z : d = a
    · subst z; rw [upd_same] at hd; cases hd
    · rw [upd_ne z] at hd; exact hd
def ownDl (st : Sg) (i : Nat) : Option (Sl × List Int × Int) := match st[i]? with
  | some s => match s.own with
    | some (.dl ns b) => some (s, ns, b)
    | _ => none
  | none => none
theorem ownDl_some {i : Nat} {s : Sl} {ns : List Int} {b : Int} (h : ownDl st i = some (s, ns, b)) : st[i]? = some s ∧ s.own = some (.dl ns b) := by
  unfold ownDl at h
  split at h
  · rename_i s' e
    split at h
    · rename_i e2
      cases h
      exact ⟨e, e2⟩
    · cases h
  · cases h
/-- the first of the two -/
theorem pe_dl0 {i j : Nat} {o : Expr} {p pos : Pos} (ho : PE X o (tVar i)) : PE X (.Subscript o (.Constant (.int 0) j p) pos) (tOp (rIxL X.K) (tVar i) (tC (.int 0))) := pe_ix ix_list ho pe_int (fun _ _ => rfl)
theorem at0 {x y : V} : atI [x, y] 0 = some x := by
  unfold atI
  rfl
theorem at1 {x y : V} : atI [x, y] 1 = some y := by
  unfold atI
  rfl
theorem dl0_ok {K : PySem.W.Frag} {i : Nat} {a c : Addr} {b : Int} (h1 : slv σ i = some (.ref a)) (h2 : H a = some (.lst [.ref c, .int b])) (q : Q (.ref c) H) : tOp (rIxL K) (tVar i) (tC (.int 0)) σ H Q :=
  ⟨.ref a, slv_some h1, a, _, 0, .ref c, rfl, rfl, SqL.of h2, at0, q⟩
/-- deal[0] != [] -/
def dlNeE (i : Nat) : SE := fun st => match ownDl st i with
  | some (_, ns, _) => .ok false (.dat (.bool (ns != []))) st
  | none => .bad
theorem dps_int {K : PySem.W.Frag} : ∀ ns : List Int, DpAll K H (ns.map V.int) (ns.map PyData.int)
  | [] => .nil
  | n :: ns => .cons (.int n) (dps_int ns)
theorem dps_int2 {K : PySem.W.Frag} : ∀ ns : List Int, L2.DpAll K H (ns.map V.int) (ns.map PyData.int)
  | [] => .nil
  | n :: ns => .cons (.int n) (dps_int2 ns)
theorem je_dlNe {i j : Nat} {o : Expr} {p pos pl pc : Pos} (hu : X.A.units + 64 < cLine) (ho : PE X o (tVar i)) (hm : behindInMarks .NotEq (.List [] pl) = false) : JE X F W (.Compare (.Subscript o (.Constant (.int 0) j p) pos) [.NotEq] [.List [] pl] pc) (dlNeE i) :=
  PE.imp (pe_cmpR (op_neD hu) (pe_dl0 ho) (pe_lst pa_nil) hm) fun σ H Q ⟨G, st, r, h⟩ => by
    unfold dlNeE at h
    split at h
    · rename_i s ns b e
      obtain ⟨e1, e2⟩ := ownDl_some e
      obtain ⟨a, c, e3, e4, e5, e6, _, _⟩ := r.mut_dl e1 e2
      refine ⟨.ref a, slv_some e3, a, _, 0, .ref c, rfl, rfl, SqL.of e4, at0, ⟨?_, fun q hq => ?_⟩⟩
      · show 0 ≤ sizeLine; exact Nat.zero_le _
      · have hc : upd H q (.lst []) c = some (.lst (ns.map V.int)) := by
          rw [upd_ne (ne_of_none e5 hq)]
          exact e5
        refine ⟨.list (ns.map PyData.int), .list [], .lst (SqL.of hc) (dps_int2 ns), .lst (SqL.of upd_same) .nil, canLay_ints ns, rfl, ?_⟩
        have ev : (!PyData.eqv (.list (ns.map PyData.int)) (.list [])) = (ns != []) := by
          cases ns <;> rfl
        rw [ev]
        exact PostE.ps h (r.new hq) (.bl _)
    · exact h.elim
/-- deal[0][-1] -/
def dlLastE (i : Nat) : SE := fun st => match ownDl st i with
  | some (_, ns, _) => match ns.getLast? with
    | some n => .ok false (.dat (.int n)) st
    | none => .bad
  | none => .bad
theorem pe_m1 {j : Nat} {p p2 : Pos} : PE X (.UnaryOp .USub (.Constant (.int 1) j p) p2) (tC (.int (-1))) := PE.imp (pe_un un_neg pe_int) fun σ H Q h => ⟨1, rfl, h⟩
theorem at_last {ns : List Int} {n : Int} (h : ns.getLast? = some n) : atI (ns.map V.int) (-1) = some (.int n) := by
  have hne : ns ≠ [] := fun e => by subst e; cases h
  have hl : 0 < ns.length := List.length_pos_iff.mpr hne
  unfold atI
  have e1 : ixN (ns.map V.int).length (-1) = some (ns.length - 1) := by
    rw [List.length_map]
    unfold ixN
    rw [if_neg (by decide), if_pos (by omega)]
    congr 1
    omega
  rw [e1]
  show (ns.map V.int)[ns.length - 1]? = _
  rw [List.getElem?_map, ← List.getLast?_eq_getElem?, h]
  rfl
theorem je_dlLast {i j k : Nat} {o : Expr} {p pos p2 p3 p4 : Pos} (ho : PE X o (tVar i)) : JE X F W (.Subscript (.Subscript o (.Constant (.int 0) j p) pos) (.UnaryOp .USub (.Constant (.int 1) k p2) p3) p4) (dlLastE i) :=
  PE.imp (pe_ix ix_list (pe_dl0 ho) pe_m1 (fun _ _ => rfl)) fun σ H Q ⟨G, st, r, h⟩ => by
    unfold dlLastE at h
    split at h
    · rename_i s ns b e
      obtain ⟨e1, e2⟩ := ownDl_some e
      obtain ⟨a, c, e3, e4, e5, e6, _, _⟩ := r.mut_dl e1 e2
      split at h
      · rename_i n hn
        exact ⟨.ref a, slv_some e3, a, _, 0, .ref c, rfl, rfl, SqL.of e4, at0, c, _, -1, .int n, rfl, rfl, SqL.of e5, at_last hn, PostE.ps h r (.int _)⟩
      · exact h.elim
    · exact h.elim
/-- deal[0].pop() -/
def dlPopE (i : Nat) : SE := fun st => match ownDl st i with
  | some (s, ns, b) => match ns.getLast? with
    | some n => .ok false (.dat (.int n)) (st.set i (s.re (.dl ns.dropLast b)))
    | none => .bad
  | none => .bad
theorem je_dlPop {i j : Nat} {o : Expr} {p pos apos cpos : Pos} (ho : PE X o (tVar i)) (hbase : attributeBase (.Subscript o (.Constant (.int 0) j p) pos) "pop" X.env (eval (.Subscript o (.Constant (.int 0) j p) pos) X.env) = eval (.Subscript o (.Constant (.int 0) j p) pos) X.env := by rfl) (hline : (apos.endLine == cpos.line) = true := by rfl) :
    JE X F W (.Call (.Attribute (.Subscript o (.Constant (.int 0) j p) pos) "pop" apos) [] [] cpos) (dlPopE i) :=
  PE.imp (pe_bm0 PySem.F.plainAttrs_list PySem.F.slot_list_pop PySem.F.type_list_pop mt_pop (pe_dl0 ho) hbase hline) fun σ H Q ⟨G, st, r, h⟩ => by
    unfold dlPopE at h
    split at h
    · rename_i s ns b e
      obtain ⟨e1, e2⟩ := ownDl_some e
      obtain ⟨a, c, e3, e4, e5, e6, k, _⟩ := r.mut_dl e1 e2
      split at h
      · rename_i n hn
        have hl : (ns.map V.int)[(ns.map V.int).length - 1]? = some (.int n) := by
          rw [List.length_map, List.getElem?_map, ← List.getLast?_eq_getElem?, hn]; rfl
        refine dl0_ok e3 e4 ⟨.inl ⟨rfl, _, SqL.of e5⟩, c, _, .int n, rfl, rfl, e5, hl, ?_⟩
        have z := k ns.dropLast
        rw [List.map_dropLast] at z
        exact h _ G _ (Ex.refl _) (z.push_ps (u := .dat (.int n)) (.int _))
      · exact h.elim
    · exact h.elim
/-- deal[0].append(rest // bound) -/
def dlAppE (i j k : Nat) : SE := fun st => match ownDl st i with
  | some (s, ns, b) => match (st[j]?).bind Sl.val, (st[k]?).bind Sl.val with
    | some (.dat (.int p)), some (.dat (.int q)) => if decide (0 < q ∧ q.natAbs.log2 < 9000) && decide (ns.length < LINE) then .ok false (.dat .none) (st.set i (s.re (.dl (ns ++ [p / q]) b))) else .bad
    | _, _ => .bad
  | none => .bad
theorem rd_int {j : Nat} {p : Int} (r : SR F G H σ st) (h : (st[j]?).bind Sl.val = some (.dat (.int p))) : slv σ j = some (.int p) := by
  obtain ⟨s, e1, e2⟩ := Option.bind_eq_some_iff.mp h
  obtain ⟨v, e3, q⟩ := r.rd e1 e2
  rw [e3, q.int]
theorem je_dlApp {i j k l : Nat} {o x y : Expr} {p pos apos cpos pb : Pos} (ho : PE X o (tVar i)) (hx : PE X x (tVar j)) (hy : PE X y (tVar k))
    (hbase : attributeBase (.Subscript o (.Constant (.int 0) l p) pos) "append" X.env (eval (.Subscript o (.Constant (.int 0) l p) pos) X.env) = eval (.Subscript o (.Constant (.int 0) l p) pos) X.env := by rfl)
    (hfew : ((backTo cpos (starEach [.BinOp x .FloorDiv y pb] X.env)).all (fun x => !x.1) && (backToKw cpos (keywordEach [] X.env)).all (fun x => x.1.isSome) && decide ([Expr.BinOp x .FloorDiv y pb].length + ([] : List Keyword).length + (if ([] : List Keyword).isEmpty then 0 else 1) < 30)) = true := by rfl)
    (hline : (apos.endLine == cpos.line) = true := by rfl) (hs : starEach [.BinOp x .FloorDiv y pb] X.env = (false, eval (.BinOp x .FloorDiv y pb) X.env) :: starEach [] X.env := by rfl) (hplain : (backTo cpos (starEach [] X.env)).any (·.1) = false := by rfl) :
    JE X F W (.Call (.Attribute (.Subscript o (.Constant (.int 0) l p) pos) "append" apos) [.BinOp x .FloorDiv y pb] [] cpos) (dlAppE i j k) :=
  PE.imp (pe_bm PySem.F.plainAttrs_list PySem.F.slot_list_append PySem.F.type_list_append mt_append (pe_dl0 ho) (pa_cons (pe_op op_fdivW hx hy) pa_nil hs) hbase hfew hline hs hplain) fun σ H Q ⟨G, st, r, h⟩ => by
    unfold dlAppE at h
    split at h
    · rename_i s ns b e
      obtain ⟨e1, e2⟩ := ownDl_some e
      obtain ⟨a, c, e3, e4, e5, e6, kk, _⟩ := r.mut_dl e1 e2
      split at h
      · rename_i p q hp hq
        split at h
        · rename_i hc
          simp only [Bool.and_eq_true, decide_eq_true_eq] at hc
          refine dl0_ok e3 e4 ⟨.inl ⟨rfl, _, SqL.of e5⟩, .int p, slv_some (rd_int r hp), .int q, slv_some (rd_int r hq), p, q, rfl, rfl, hc.1, c, _, .int (p / q), rfl, rfl, e5, ?_, ?_⟩
          · rw [List.length_map]; exact lt_line hc.2
          · have z := kk (ns ++ [p / q])
            rw [List.map_append] at z
            exact h _ G _ (Ex.refl _) (z.push_ps (u := .dat .none) .non)
        · exact h.elim
      · exact h.elim
    · exact h.elim
/-- deal[1] -/
def dlNumE (i : Nat) : SE := fun st => match ownDl st i with
  | some (_, _, b) => .ok false (.dat (.int b)) st
  | none => .bad
theorem je_dlNum {i j : Nat} {o : Expr} {p pos : Pos} (ho : PE X o (tVar i)) : JE X F W (.Subscript o (.Constant (.int 1) j p) pos) (dlNumE i) :=
  PE.imp (pe_ix ix_list ho pe_int (fun _ _ => rfl)) fun σ H Q ⟨G, st, r, h⟩ => by
    unfold dlNumE at h
    split at h
    · rename_i s ns b e
      obtain ⟨e1, e2⟩ := ownDl_some e
      obtain ⟨a, c, e3, e4, e5, e6, _, _⟩ := r.mut_dl e1 e2
      exact ⟨.ref a, slv_some e3, a, _, 1, .int b, rfl, rfl, SqL.of e4, at1, PostE.ps h r (.int _)⟩
    · exact h.elim
/-- deal[1] = e -/
def dlSetS (i : Nat) (f : SE) : SS := fun st => match f st with
  | .ok false (.dat (.int n)) st1 => match ownDl st1 i with
    | some (s, ns, _) => .nx (st1.set i (s.re (.dl ns n)))
    | none => .bad
  | .ok _ _ _ => .bad
  | .exc c d st1 => .exc c d st1
  | .bad => .bad
theorem js_dlSet {i j : Nat} {o e : Expr} {f : SE} {p tpos pos : Pos} (ho : PE X o (tVar i)) (he : JE X F W e f)
    (ha : ∀ v, assign (.Subscript o (.Constant (.int 1) j p) tpos) X.env v = (do
      let ov ← holding [v] (eval o X.env)
      let iv ← holding [v, ov] (eval (.Constant (.int 1) j p) X.env)
      standAt tpos
      holding [v, ov, iv] (setItem ov iv v)
      release [v, ov, iv] []) := by intro _; rfl)
    (hs : swapsWithSole [.Subscript o (.Constant (.int 1) j p) tpos] e pos.line X.env = pure false := by rfl) (hw : swappedStores [.Subscript o (.Constant (.int 1) j p) tpos] e X.env = pure none := by rfl)
    (h1 : (assignEach [.Subscript o (.Constant (.int 1) j p) tpos] X.env).map (·.2) = [assign (.Subscript o (.Constant (.int 1) j p) tpos) X.env] := by rfl) : JS X F W (.Assign [.Subscript o (.Constant (.int 1) j p) tpos] e pos) (dlSetS i f) :=
  PS.imp (ps_asg he (pg_sub ho pe_int set_list ha) hs hw h1) fun DE σ H ⟨G, st, r, q⟩ => by
    refine ⟨G, st, r, ?_⟩
    unfold dlSetS at q
    generalize f st = z at q ⊢
    split at q
    · rename_i n st1
      intro v G1 H1 e1 r1
      split at q
      · rename_i s ns b e
        obtain ⟨e2, e3⟩ := ownDl_some e
        obtain ⟨a, c, e4, e5, e6, e7, _, k⟩ := (r1.pop rfl).mut_dl e2 e3
        have hv : v = .int n := by
          have p : Dp F.K G1 v (.int n) := r1.last_ps
          cases p; rfl
        subst hv
        exact ⟨.ref a, slv_some e4, a, _, 1, 1, rfl, rfl, e5, rfl, q σ G1 _ rfl e1 (k n)⟩
      · exact q.elim
    · exact q.elim
    · exact q σ rfl
    · exact q
end

section
variable {F : Fr} {G H H' : Hp} {σ : St} {st : Sg} {i : Nat} {v v' : V} {u u' : U} {fp fp' : List Addr}
/-- one's own made part of another thing of one's own -/
theorem SR0.wrap (h : SR0 F G H σ st) (hs : st[i]? = some (.ow u)) : ∃ v fp, slv σ i = some v ∧ OwU F.K G H v fp u ∧
    ∀ H' v' fp' u', OwU F.K G H' v' fp' u' → (∀ b, b ∉ fp → ∀ o, H b = some o → H' b = some o) → (∀ b, H' b = none → H b = none) → (∀ b ∈ fp', b ∈ fp ∨ H b = none) → SR0 F G H' (σ.set i (some v')) (st.set i (.ow u')) := by
  obtain ⟨f, h1, h2⟩ := h.sl
  have z := h1 i _ hs
  have hi := (List.getElem?_eq_some_iff.mp hs).1
  obtain ⟨⟨v, hv, o⟩, n⟩ := z
  have hl := h.len
  refine ⟨v, f i, hv, o, fun H' v' fp' u' o' k t sub => ⟨⟨fun a q e => ?_, h.rel.ex0, fun a q e m => ?_, h.rel.frs, fun a e => h.rel.trk a (t a e)⟩, by simp [h.len], fun j => if j = i then fp' else f j, fun j s q => ?_, fun j l hj hk ne b hb => ?_⟩⟩
  · refine k a (fun m => ?_) q (h.ex a q e)
    rw [(o.fps a m).2] at e; cases e
  · refine k a (fun w => ?_) q (h.rel.frm a q e m)
    rw [n a w] at e; cases e
  · dsimp only
    by_cases e : j = i
    · subst e
      rw [List.getElem?_set_self hi] at q
      cases q
      rw [if_pos rfl, List.getElem?_set_self (by omega)]
      exact ⟨⟨v', rfl, o'⟩, fun a ha => by
        rcases sub a ha with z | z
        · exact n a z
        · exact h.rel.trk a z⟩
    · rw [List.getElem?_set_ne (Ne.symm e)] at q
      rw [if_neg e, List.getElem?_set_ne (Ne.symm e)]
      have hj := (List.getElem?_eq_some_iff.mp q).1
      have y := (h1 j s q).fps
      exact (h1 j s q).keep (Ex.refl _) (fun a ha o q => k a (fun m => h2 j i hj hi e a ha m) o q) (fun a ha => (y a ha).2)
  · dsimp only at hb ⊢
    have hj' : j < st.length := by simpa using hj
    have hk' : l < st.length := by simpa using hk
    have fr : ∀ m, m < st.length → m ≠ i → ∀ a ∈ f m, a ∉ fp' := fun m hm hmi a ha hb => by
      rcases sub a hb with z | z
      · exact h2 m i hm hi hmi a ha z
      · obtain ⟨⟨q, e⟩, _⟩ := (h1 m _ (List.getElem?_eq_getElem hm)).fps a ha
        rw [z] at e; cases e
    by_cases e : j = i
    · rw [if_pos e] at hb
      by_cases e' : l = i
      · exact absurd (e.trans e'.symm) ne
      · rw [if_neg e']
        exact fun hc => fr l hk' e' b hc hb
    · rw [if_neg e] at hb
      by_cases e' : l = i
      · rw [if_pos e']; exact fr j hj' e b hb
      · rw [if_neg e']; exact h2 j l hj' hk' ne b hb
theorem SR.wrap (h : SR F G H σ st) (hs : st[i]? = some (.ow u)) : ∃ v fp, slv σ i = some v ∧ OwU F.K G H v fp u ∧
    ∀ H' v' fp' u', OwU F.K G H' v' fp' u' → (∀ b, b ∉ fp → ∀ o, H b = some o → H' b = some o) → (∀ b, H' b = none → H b = none) → (∀ b ∈ fp', b ∈ fp ∨ H b = none) → SR F G H' (σ.set i (some v')) (st.set i (.ow u')) := by
  have hi := (List.getElem?_eq_some_iff.mp hs).1
  obtain ⟨v, fp, e, q, k⟩ := h.z.wrap (SR.at hs)
  rw [h.slvT hi] at e
  refine ⟨v, fp, e, q, fun H' v' fp' u' a b c d => ⟨?_, by simpa using h.len, h.nio⟩⟩
  have z := k H' v' fp' u' a b c d
  rw [set_l hi, set_l (by have := h.len; omega)] at z
  exact z
end
section
variable {X : Cx} {F : Fr} {W : Wx} {G G' H H' : Hp} {σ : St} {st st' : Sg} {Q : VK} {v : V} {u : U} {ds : List D} {vs : List V}
/-- xs[::-1] -/
def revE (f : SE) : SE := fun st => match f st with
  | .ok _ (.dat (.list ds)) st' => .ok true (.dat (.list ds.reverse)) st'
  | .ok _ _ _ => .bad
  | .exc c d st' => .exc c d st'
  | .bad => .bad
theorem je_rev {e : Expr} {f : SE} {k : Nat} {p1 p2 p3 pos : Pos} (hF : F.K = X.K) (he : JE X F W e f) : JE X F W (.Subscript e (.Slice none none (some (.UnaryOp .USub (.Constant (.int 1) k p1) p2)) p3) pos) (revE f) :=
  PE.imp (pe_revL he) fun σ H Q ⟨G, st, r, q⟩ => by
    refine ⟨G, st, r, ?_⟩
    unfold revE at q
    generalize f st = z at q ⊢
    cases z with
    | ok o u st' =>
      cases u with
      | dat d =>
        cases d with
        | list ds =>
          intro v G' H' e r'
          dsimp only at q
          have fin : ∀ G2, Ex G G2 → SR F G2 H' σ st' → Dp F.K G2 v (.list ds) → ∃ a xs, v = .ref a ∧ SqL X.K H' a xs ∧ ∀ p, H' p = none → Q (.ref p) (upd H' p (.lst xs.reverse)) := fun G2 e2 r2 p => by
            cases p with
            | lst hs ha => exact ⟨_, _, rfl, hF ▸ ex_l r2.ex hs, PostE.newL (q.mono e2) r2 (Dps.reverse ha)⟩
          cases o with
          | false => exact fin G' e (r'.pop rfl) r'.last_ps
          | true =>
            obtain ⟨G2, x, r2, p⟩ := r'.frz_last rfl
            exact fin G2 (e.trans x) r2 p
        | _ => exact q.elim
      | _ => exact q.elim
    | exc c d st' => exact q
    | bad => exact q
/-- [xs, b] as a source of draws -/
def dlE (f g : SE) : SE := fun st => match f st with
  | .ok true (.dat (.list ds)) st1 => match g st1 with
    | .ok false (.dat (.int b)) st2 => match intsOf ds with
      | some ns => .ok true (.dl ns b) st2
      | none => .bad
    | _ => .bad
  | _ => .bad
theorem je_dl {a b : Expr} {f g : SE} {pos : Pos} (ha : JE X F W a f) (hb : ∀ F' : Fr, F'.K = F.K → JE X F' W b g) (h1 : starEach [a, b] X.env = (false, eval a X.env) :: starEach [b] X.env := by rfl) (h2 : starEach [b] X.env = (false, eval b X.env) :: starEach [] X.env := by rfl) : JE X F W (.List [a, b] pos) (dlE f g) :=
  PE.imp (pe_lst (pa_cons ha (pa_cons (je_ex hb) pa_nil h2) h1)) fun σ H Q ⟨G, st, r, q⟩ => by
    refine ⟨G, st, r, ?_⟩
    unfold dlE at q
    generalize f st = z at q ⊢
    split at q
    · rename_i ds st1
      intro v G1 H1 e1 r1
      refine ⟨F.and v (.ow (.dat (.list ds))), rfl, G1, st1, r1.hold rfl, ?_⟩
      generalize g st1 = z2 at q ⊢
      split at q
      · rename_i n st2
        split at q
        · rename_i ns hn
          intro w G2 H2 e2 r2
          have hw : w = .int n := by
            have p : Dp F.K G2 w (.int n) := r2.last_ps
            cases p; rfl
          subst hw
          have r3 := (r2.pop rfl).unhold
          have hl : st2.length = σ.length := by have := r3.len; simpa using this
          obtain ⟨x, fp, hx, o, k⟩ := r3.wrap (i := st2.length) get_app_n
          obtain ⟨c, xs, e3, e4, e5, e6, e7⟩ := o
          have hv : v = x := by
            unfold slv at hx
            rw [hl, get_app_n] at hx
            cases hx; rfl
          subst hv
          have e8 := intsOf_v e6 hn
          subst e8
          refine ⟨by show 2 ≤ sizeLine; rw [sizeLine_eq]; decide, fun p hp => ?_⟩
          have hpc : p ≠ c := fun z => by rw [z, e4] at hp; cases hp
          have z := k (upd H2 p (.lst [v, .int n])) (.ref p) [p, c] (.dl ns n) ⟨p, c, rfl, by rw [e3]; exact upd_same, by rw [upd_ne (Ne.symm hpc)]; exact e4, hpc, r3.ex.back hp, e5, rfl⟩
            (fun b _ o eo => Ex.new hp b o eo) (fun b hb => by
              by_cases z : b = p
              · subst z; rw [upd_same] at hb; cases hb
              · rw [upd_ne z] at hb; exact hb) (fun b hb => by
              rcases List.mem_cons.mp hb with z | z
              · right; rw [z]; exact hp
              · left; rw [e7]; exact z)
          have s1 : (σ ++ [some v]).set st2.length (some (.ref p)) = σ ++ [some (.ref p)] := by rw [hl]; simp
          have s2 : (st2 ++ [Sl.ow (.dat (.list ds))]).set st2.length (.ow (.dl ns n)) = st2 ++ [.ow (.dl ns n)] := by simp
          rw [s1, s2] at z
          exact q (.ref p) G2 _ (e1.trans e2) z
        · exact q.elim
      · exact q.elim
    · exact q.elim
end
end Pl

namespace Pl
open PySem L2 PySem.Spec PyProof.Rows

section
variable {X : Cx} {F : Fr} {W : Wx} {G G' H H' : Hp} {σ : St} {st st' : Sg} {Q : VK} {v : V} {u : U} {ds : List D} {vs : List V}
theorem jt_dlNe {i j : Nat} {o : Expr} {p pos pl pc : Pos} (hu : X.A.units + 64 < cLine) (ho : PE X o (tVar i)) (hm : behindInMarks .NotEq (.List [] pl) = false) : JT X F W (.Compare (.Subscript o (.Constant (.int 0) j p) pos) [.NotEq] [.List [] pl] pc) (tst (dlNeE i)) :=
  PT.imp (pt_cmpR (op_neD hu) (pe_dl0 ho) (pe_lst pa_nil) hm) fun σ H Q ⟨G, st, r, h⟩ => by
    unfold tst dlNeE at h
    split at h
    · rename_i s ns b e
      obtain ⟨e1, e2⟩ := ownDl_some e
      obtain ⟨a, c, e3, e4, e5, e6, _, _⟩ := r.mut_dl e1 e2
      refine ⟨.ref a, slv_some e3, a, _, 0, .ref c, rfl, rfl, SqL.of e4, at0, ⟨?_, fun q hq => ?_⟩⟩
      · show 0 ≤ sizeLine; exact Nat.zero_le _
      · have hc : upd H q (.lst []) c = some (.lst (ns.map V.int)) := by
          rw [upd_ne (ne_of_none e5 hq)]
          exact e5
        refine ⟨.list (ns.map PyData.int), .list [], .lst (SqL.of hc) (dps_int2 ns), .lst (SqL.of upd_same) .nil, canLay_ints ns, rfl, ?_⟩
        have ev : (!PyData.eqv (.list (ns.map PyData.int)) (.list [])) = (ns != []) := by
          cases ns <;> rfl
        rw [ev]
        exact ⟨_, rfl, h G _ (Ex.refl _) (r.new hq)⟩
    · exact h.elim
/-- a, b = e1, e2 where the stores keep their order -/
theorem js_par2u {i j : Nat} {x y : Str} {a b : Expr} {f g : SE} {px py pt pt2 pos : Pos} {kt k2} (hc : X.calm = true) (hN : X.N.Nodup) (hi : X.N[i]? = some x) (hj : X.N[j]? = some y) (hx : Loc X.env.scope x) (hy : Loc X.env.scope y)
    (ha : PA X [a, b] (tCons (tE F W f) (tCons (tEx F W g) tNil))) (hfx : X.fn x = true ∨ X.env.scope.names.lookup x = some .local) (hfy : X.fn y = true ∨ X.env.scope.names.lookup y = some .local)
    (hs : swapsWithSole [.Tuple [.Name x px, .Name y py] kt pt] (.Tuple [a, b] k2 pt2) pos.line X.env = pure false := by rfl) (hw : swappedStores [.Tuple [.Name x px, .Name y py] kt pt] (.Tuple [a, b] k2 pt2) X.env = pure none := by rfl) :
    JS X F W (.Assign [.Tuple [.Name x px, .Name y py] kt pt] (.Tuple [a, b] k2 pt2) pos) (par2S i j f g) :=
  PS.imp (ps_asg (pe_tup ha) (pg_tup (n := 2) hc (pgs_cons (pg_name hN hi hx hfx) (pgs_cons (pg_name hN hj hy hfy) pgs_nil rfl) rfl) rfl rfl) hs hw rfl) fun D σ H ⟨G, st, r, q⟩ => by
    refine ⟨G, st, r, ?_⟩
    unfold par2S at q
    generalize f st = z at q ⊢
    cases z with
    | ok o1 u1 st1 =>
      intro v G1 H1 e1 r1
      refine ⟨F.and v (sl o1 u1), rfl, G1, st1, r1.hold sl_io, ?_⟩
      dsimp only at q
      generalize g st1 = z2 at q ⊢
      cases z2 with
      | ok o2 u2 st2 =>
        intro w G2 H2 e2 r2
        dsimp only at q
        split at q
        · rename_i hc
          simp only [Bool.and_eq_true, bne_iff_ne, ne_eq] at hc
          obtain ⟨⟨c1, c2⟩, c3⟩ := hc
          refine ⟨by show 2 ≤ sizeLine; rw [sizeLine_eq]; decide, fun p hp => ⟨p, _, rfl, SqT.of upd_same, rfl, ?_⟩⟩
          refine ⟨v, [w], rfl, w, [], rfl, rfl, ?_⟩
          have r3 := (r2.store (free_lt c2) sl_io).unhold.store (i := i) (by have := free_lt c1; simpa using this) sl_io
          rw [List.set_comm _ _ (Ne.symm c3)] at r3
          exact q _ G2 _ (by simp) (e1.trans e2) (r3.new hp)
        · exact q.elim
      | exc c d st2 => exact PostX.unhold sl_io ((q σ rfl).mono e1)
      | bad => exact q.elim
    | exc c d st' => exact q σ rfl
    | bad => exact q
theorem js_par3u {i j l : Nat} {x y z : Str} {a b c : Expr} {f g k : SE} {px py pz pt pt2 pos : Pos} {kt k2} (hc : X.calm = true) (hN : X.N.Nodup) (hi : X.N[i]? = some x) (hj : X.N[j]? = some y) (hl : X.N[l]? = some z) (hx : Loc X.env.scope x) (hy : Loc X.env.scope y) (hz : Loc X.env.scope z)
    (ha : PA X [a, b, c] (tCons (tE F W f) (tCons (tEx F W g) (tCons (tEx F W k) tNil)))) (hfx : X.fn x = true ∨ X.env.scope.names.lookup x = some .local) (hfy : X.fn y = true ∨ X.env.scope.names.lookup y = some .local) (hfz : X.fn z = true ∨ X.env.scope.names.lookup z = some .local)
    (hs : swapsWithSole [.Tuple [.Name x px, .Name y py, .Name z pz] kt pt] (.Tuple [a, b, c] k2 pt2) pos.line X.env = pure false := by rfl) (hw : swappedStores [.Tuple [.Name x px, .Name y py, .Name z pz] kt pt] (.Tuple [a, b, c] k2 pt2) X.env = pure none := by rfl) :
    JS X F W (.Assign [.Tuple [.Name x px, .Name y py, .Name z pz] kt pt] (.Tuple [a, b, c] k2 pt2) pos) (par3S i j l f g k) :=
  PS.imp (ps_asg (pe_tup ha) (pg_tup (n := 3) hc (pgs_cons (pg_name hN hi hx hfx) (pgs_cons (pg_name hN hj hy hfy) (pgs_cons (pg_name hN hl hz hfz) pgs_nil rfl) rfl) rfl) rfl rfl) hs hw rfl) fun D σ H ⟨G, st, r, q⟩ => by
    have core := @js_par3 X F W i j l a b c f g k
    refine ⟨G, st, r, ?_⟩
    unfold par3S at q
    generalize f st = z at q ⊢
    cases z with
    | ok o1 u1 st1 =>
      intro v G1 H1 e1 r1
      refine ⟨F.and v (sl o1 u1), rfl, G1, st1, r1.hold sl_io, ?_⟩
      dsimp only at q
      generalize g st1 = z2 at q ⊢
      cases z2 with
      | ok o2 u2 st2 =>
        intro w G2 H2 e2 r2
        refine ⟨(F.and v (sl o1 u1)).and w (sl o2 u2), rfl, G2, st2, r2.hold sl_io, ?_⟩
        dsimp only at q
        generalize k st2 = z3 at q ⊢
        cases z3 with
        | ok o3 u3 st3 =>
          intro y3 G3 H3 e3 r3
          dsimp only at q
          split at q
          · rename_i hc
            simp only [Bool.and_eq_true, bne_iff_ne, ne_eq] at hc
            obtain ⟨⟨⟨⟨⟨c1, c2⟩, c3⟩, c4⟩, c5⟩, c6⟩ := hc
            refine ⟨by show 3 ≤ sizeLine; rw [sizeLine_eq]; decide, fun p hp => ⟨p, _, rfl, SqT.of upd_same, rfl, ?_⟩⟩
            refine ⟨v, [w, y3], rfl, w, [y3], rfl, y3, [], rfl, rfl, ?_⟩
            have r4 := ((r3.store (free_lt c3) sl_io).unhold.store (i := j) (by have := free_lt c2; simpa using this) sl_io).unhold.store (i := i) (by have := free_lt c1; simpa using this) sl_io
            have es : ((σ.set l (some y3)).set j (some w)).set i (some v) = ((σ.set i (some v)).set j (some w)).set l (some y3) := by
              rw [List.set_comm _ _ (Ne.symm c6), List.set_comm (some y3) (some v) (Ne.symm c5), List.set_comm (some w) (some v) (Ne.symm c4)]
            rw [es] at r4
            exact q _ G3 _ (by simp) ((e1.trans e2).trans e3) (r4.new hp)
          · exact q.elim
        | exc c d st3 => exact PostX.unhold sl_io (PostX.unhold sl_io ((q σ rfl).mono (e1.trans e2)))
        | bad => exact q.elim
      | exc c d st2 => exact PostX.unhold sl_io ((q σ rfl).mono e1)
      | bad => exact q.elim
    | exc c d st' => exact q σ rfl
    | bad => exact q
end
end Pl

namespace Pl
open PySem L2 PySem.Spec PyProof.Rows

def bo (st : Sg) (i : Nat) : Option (List D) := match st[i]? with
  | some (.bo (.dat (.list ds))) => some ds
  | _ => none
def forB (i : Nat) (t : Tg) (body : SS) : Nat → Nat → SS
  | 0, k => fun st => match bo st i with
    | some es => if es.length ≤ k then .nx st else .bad
    | none => .bad
  | n + 1, k => fun st => match bo st i with
    | some es => match es[k]? with
      | some d => match t.set d st with
        | some st1 => forR (body st1) (forB i t body n (k + 1))
        | none => .bad
      | none => .bad
    | none => .bad
def unS (i : Nat) (st : Sg) : Option Sg := match st[i]? with
  | some (.bo u) => some (st.set i (.ow u))
  | _ => none
def unO (i : Nat) : RS → RS
  | .nx st => match unS i st with
    | some st' => .nx st'
    | none => .bad
  | .rt o u st => match unS i st with
    | some st' => .rt o u st'
    | none => .bad
  | .exc c d st => match unS i st with
    | some st' => .exc c d st'
    | none => .bad
  | _ => .bad
def forO (i : Nat) (t : Tg) (body : SS) : SS := fun st => match st[i]? with
  | some (.ow (.dat (.list ds))) => unO i (forB i t body ds.length 0 (st.set i (.bo (.dat (.list ds)))))
  | some (.ps (.dat (.list ds))) => forL ds t body st
  | some (.ps (.dat (.tuple ds))) => forL ds t body st
  | _ => .bad

abbrev Fr.pinned (F : Fr) (i : Nat) (v : V) : Fr := { F with pin := fun j => if j = i then some v else F.pin j }
section
variable {X : Cx} {F : Fr} {W : Wx} {G G' H H' : Hp} {σ : St} {st st' : Sg} {v : V} {u : U} {ds : List D} {vs : List V} {D0 : Ends} {i : Nat}
theorem HRel.pin (h : HRel F G H) : HRel (F.pinned i v) G H := ⟨h.ex, h.ex0, h.frm, h.frs, h.trk⟩
theorem HRel.unpin (h : HRel (F.pinned i v) G H) : HRel F G H := ⟨h.ex, h.ex0, h.frm, h.frs, h.trk⟩
theorem SlOk.pin {j : Nat} {w : Option V} {fp : List Addr} {s : Sl} (ne : j ≠ i) (h : SlOk F G H w j fp s) : SlOk (F.pinned i v) G H w j fp s := by
  cases s with
  | bo u => obtain ⟨⟨x, e, o, p⟩, q⟩ := h; exact ⟨⟨x, e, o, by show (if j = i then some v else F.pin j) = some x; rw [if_neg ne]; exact p⟩, q⟩
  | io u => obtain ⟨⟨x, e, o, p⟩, q⟩ := h; exact ⟨⟨x, e, o, by show (if j = i then some v else F.pin j) = some x; rw [if_neg ne]; exact p⟩, q⟩
  | _ => exact h
theorem SlOk.unpin {j : Nat} {w : Option V} {fp : List Addr} {s : Sl} (ne : j ≠ i) (h : SlOk (F.pinned i v) G H w j fp s) : SlOk F G H w j fp s := by
  cases s with
  | bo u =>
    obtain ⟨⟨x, e, o, p⟩, q⟩ := h
    have p' : (if j = i then some v else F.pin j) = some x := p
    rw [if_neg ne] at p'
    exact ⟨⟨x, e, o, p'⟩, q⟩
  | io u =>
    obtain ⟨⟨x, e, o, p⟩, q⟩ := h
    have p' : (if j = i then some v else F.pin j) = some x := p
    rw [if_neg ne] at p'
    exact ⟨⟨x, e, o, p'⟩, q⟩
  | _ => exact h
theorem SR.lock (h : SR F G H σ st) (hs : st[i]? = some (.ow u)) (hv : slv σ i = some v) : SR (F.pinned i v) G H σ (st.set i (.bo u)) := by
  obtain ⟨f, h1, h2⟩ := h.z.sl
  have hi := (List.getElem?_eq_some_iff.mp hs).1
  have hl := h.len
  refine ⟨⟨h.rel.pin, by have := h.z.len; simpa using this, f, fun j s q => ?_, fun j k hj hk => h2 j k (by simpa using hj) (by simpa using hk)⟩, by simpa using hl, h.nio⟩
  have e0 : (F.pinned i v).T = F.T := rfl
  have e1 : (F.pinned i v).ts = F.ts := rfl
  rw [e1, ← set_l hi] at q
  rw [e0]
  by_cases e : j = i
  · subst e
    rw [List.getElem?_set_self (by simp; omega)] at q
    cases q
    obtain ⟨⟨x, ex, o⟩, n⟩ := h1 j (.ow u) (SR.at hs)
    have hx : x = v := by
      have z := h.slvT hi
      have z2 : slv (σ ++ F.T) j = some x := ex
      rw [z, hv] at z2
      exact (Option.some.inj z2).symm
    subst hx
    exact ⟨⟨x, ex, o, by show (if j = j then some x else F.pin j) = some x; rw [if_pos rfl]⟩, n⟩
  · rw [List.getElem?_set_ne (Ne.symm e)] at q
    exact (h1 j s q).pin e
theorem SR.unlock (h : SR (F.pinned i v) G H σ st) (hs : st[i]? = some (.bo u)) : slv σ i = some v ∧ SR F G H σ (st.set i (.ow u)) := by
  obtain ⟨f, h1, h2⟩ := h.z.sl
  have hi := (List.getElem?_eq_some_iff.mp hs).1
  have hl := h.len
  have e0 : (F.pinned i v).T = F.T := rfl
  have e1 : (F.pinned i v).ts = F.ts := rfl
  obtain ⟨⟨x, ex, o, p⟩, n⟩ := h1 i (.bo u) (SR.at hs)
  have hx : v = x := by
    have p' : (if i = i then some v else F.pin i) = some x := p
    rw [if_pos rfl] at p'
    exact Option.some.inj p'
  subst hx
  have z := h.slvT hi
  refine ⟨by rw [← z]; exact ex, ⟨h.rel.unpin, by have := h.z.len; simpa using this, f, fun j s q => ?_, fun j k hj hk => h2 j k (by simpa using hj) (by simpa using hk)⟩, by simpa using hl, h.nio⟩
  rw [← set_l hi] at q
  by_cases e : j = i
  · subst e
    rw [List.getElem?_set_self (by simp; omega)] at q
    cases q
    exact ⟨⟨v, ex, o⟩, n⟩
  · rw [List.getElem?_set_ne (Ne.symm e)] at q
    exact (h1 j s q).unpin e
theorem unS_some {st1 : Sg} (h : unS i st = some st1) : ∃ u, st[i]? = some (.bo u) ∧ st1 = st.set i (.ow u) := by
  unfold unS at h
  split at h
  · rename_i u e
    cases h
    exact ⟨u, e, rfl⟩
  · cases h
theorem bo_some (h : bo st i = some ds) : st[i]? = some (.bo (.dat (.list ds))) := by
  unfold bo at h
  split at h
  · rename_i e
    cases h
    exact e
  · cases h
def tSx (F : Fr) (W : Wx) (f : SS) : TS := fun D σ H => ∃ F' : Fr, F'.K = F.K ∧ tS F' W f D σ H
theorem jb_ex {body : List Stmt} {f : SS} (h : ∀ F' : Fr, F'.K = F.K → JB X F' W body f) : PSs X body (tSx F W f) := ⟨fun pins s σ H D I ⟨F', e, q⟩ => (h F' e).run pins s σ H D I q⟩
theorem app_lt {α : Type} {l : List α} {x : α} {k : Nat} (h : k < l.length) : (l ++ [x]).set k = fun y => l.set k y ++ [x] := by
  funext y
  exact List.set_append_left _ _ h
theorem js_forO {tg iter : Expr} {body : List Stmt} {t : Tg} {f : SS} {pos : Pos} (hF : F.K = X.K) (hp : PassesOwn (model X.prog X.w) X.A X.env X.xe) (hc : X.calm = true) (hi : PE X iter (tVar i)) (hg : ∀ F' : Fr, F'.K = F.K → JG X F' tg t) (hb : ∀ F' : Fr, F'.K = F.K → JB X F' W body f)
    (hs : ∀ x, foldedSetIterable iter X.env x = pure x := by intro _; rfl) : JS X F W (.For tg iter body [] pos) (forO i t f) :=
  PS.imp (ps_for hp hc (pi_seq hi) (jg_ex (F := F) hg) (jb_ex (F := F) hb) hs) fun D σ H ⟨G, st, r, q⟩ => by
    unfold forO at q
    split at q
    · rename_i ds e
      obtain ⟨w, e1, rd⟩ := r.rd e rfl
      obtain ⟨a, vs0, e2, h1, h2⟩ := rd.lst
      subst e2
      refine ⟨.ref a, slv_some e1, a, rfl, .inl ⟨⟨vs0, hF ▸ h1⟩, ?_⟩⟩
      have r0 := r.lock e e1
      refine ⟨fun k m σ' H' => m + k = ds.length ∧ σ'.length = σ.length ∧ ∃ G' st2, Ex G G' ∧ SR (F.pinned i (.ref a)) G' H' σ' st2 ∧ PostS F W G' σ.length D (unO i (forB i t f m k st2)),
        ⟨ds.length, by omega, rfl, G, _, Ex.refl _, r0, q⟩, ?_⟩
      rintro k m σ' H' ⟨hk, hl, G2, st2, e2, r2, q2⟩
      cases m with
      | zero =>
        unfold forB at q2
        split at q2
        · rename_i es eb
          have eb' := bo_some eb
          split at q2
          · rename_i hle
            have eu : unS i st2 = some (st2.set i (.ow (.dat (.list es)))) := by unfold unS; rw [eb']
            obtain ⟨hv, r3⟩ := r2.unlock eb'
            obtain ⟨w, e3, rd⟩ := r2.rd eb' rfl
            obtain ⟨a', vs, e4, h3, h4⟩ := rd.lst
            rw [hv] at e3; cases e3; cases e4
            refine .inl ⟨⟨vs, hF ▸ h3, by rw [Dps.length h4]; exact hle⟩, ?_⟩
            have q3 : PostS F W G2 σ.length D (.nx (st2.set i (.ow (.dat (.list es))))) := by
              have : unO i (.nx st2) = .nx (st2.set i (.ow (.dat (.list es)))) := by unfold unO; dsimp only; rw [eu]
              rw [← this]; exact q2
            exact q3 σ' G2 H' hl (Ex.refl _) r3
          · exact q2.elim
        · exact q2.elim
      | succ m =>
        unfold forB at q2
        split at q2
        · rename_i es eb
          have eb' := bo_some eb
          split at q2
          · rename_i d hd
            split at q2
            · rename_i st3 e5
              obtain ⟨hv, _⟩ := r2.unlock eb'
              obtain ⟨w, e3, rd⟩ := r2.rd eb' rfl
              obtain ⟨a', vs, e4, h3, h4⟩ := rd.lst
              rw [hv] at e3; cases e3; cases e4
              obtain ⟨x, e6, px⟩ := Dps.get h4 hd
              have h3' : SqL X.K H' a vs := hF ▸ h3
              refine .inr ⟨⟨vs, x, h3', e6⟩, fun σ3 H3 => m + (k + 1) = ds.length ∧ σ3.length = σ.length ∧ ∃ G' st4, Ex G G' ∧ SR (F.pinned i (.ref a)) G' H3 σ3 st4 ∧ PostS F W G' σ.length D (unO i (forB i t f m (k + 1) st4)), fun σ3 H3 h => ⟨m, Nat.lt_succ_self _, h⟩, fun y H3 hy => ?_⟩
              obtain ⟨y1, y2⟩ := hy
              subst y1
              have e7 := y2 vs h3'
              rw [e6] at e7
              cases e7
              refine ⟨F.pinned i (.ref a), rfl, G2, st2, d, st3, r2, px, e5, fun σ4 l4 _ r4 => ⟨F.pinned i (.ref a), rfl, G2, st3, r4, ?_⟩⟩
              generalize f st3 = z at q2 ⊢
              have l4' : σ4.length = σ.length := by omega
              cases z with
              | nx st5 => exact fun σ5 G5 H5 l5 e8 r5 => ⟨by omega, by omega, G5, st5, e2.trans e8, r5, PostS.mono e8 q2⟩
              | ct st5 => exact fun σ5 G5 H5 l5 e8 r5 => ⟨by omega, by omega, G5, st5, e2.trans e8, r5, PostS.mono e8 q2⟩
              | bk st5 =>
                intro σ5 G5 H5 l5 e8 r5
                have q3 : PostS F W G2 σ.length D (unO i (.nx st5)) := q2
                unfold unO at q3
                dsimp only at q3
                split at q3
                · rename_i st6 e9
                  obtain ⟨u, e10, e11⟩ := unS_some e9
                  subst e11
                  exact q3 σ5 G5 H5 (by omega) e8 (r5.unlock e10).2
                · exact q3.elim
              | rt o u st5 =>
                intro v σ5 G5 H5 l5 e8 r5
                have q3 : PostS F W G2 σ.length D (unO i (.rt o u st5)) := q2
                unfold unO at q3
                dsimp only at q3
                split at q3
                · rename_i st6 e9
                  obtain ⟨u', e10, e11⟩ := unS_some e9
                  subst e11
                  have hi5 := (List.getElem?_eq_some_iff.mp e10).1
                  have r6 := (r5.unlock (i := i) (by rw [get_app_l hi5]; exact e10)).2
                  rw [app_lt hi5] at r6
                  exact q3 v σ5 G5 H5 (by omega) e8 r6
                · exact q3.elim
              | exc c d' st5 =>
                intro σ5 l5
                have q3 : PostS F W G2 σ.length D (unO i (.exc c d' st5)) := q2
                unfold unO at q3
                dsimp only at q3
                split at q3
                · rename_i st6 e9
                  obtain ⟨u', e10, e11⟩ := unS_some e9
                  subst e11
                  exact fun G5 H5 dx v e8 r5 hdx p => q3 σ5 (by omega) G5 H5 dx v e8 (r5.unlock e10).2 hdx p
                · exact q3.elim
              | bad => exact q2
            · exact q2.elim
          · exact q2.elim
        · exact q2.elim
    · rename_i ds e
      obtain ⟨w, e1, p⟩ := r.ps e
      have dr : ∃ a, w = .ref a ∧ (∃ xs, SqL X.K H a xs) ∧ Drives F.K G (Itl X.K a) ds := by
        cases p with
        | lst hs ha => exact ⟨_, rfl, ⟨_, hF ▸ ex_l r.ex hs⟩, by rw [← hF]; exact drives_lst hs ha⟩
      obtain ⟨a, ea, ex0, dr⟩ := dr
      subst ea
      refine ⟨.ref a, slv_some e1, a, rfl, .inl ⟨ex0, ?_⟩⟩
      refine ⟨fun k m σ' H' => m = ds.length - k ∧ k ≤ ds.length ∧ σ'.length = σ.length ∧ ∃ G' st2, Ex G G' ∧ SR F G' H' σ' st2 ∧ PostS F W G' σ.length D (forL (ds.drop k) t f st2),
        ⟨ds.length, by simp, Nat.zero_le _, rfl, G, st, Ex.refl _, r, q⟩, ?_⟩
      rintro k m σ' H' ⟨rfl, hk, hl, G2, st2, e2, r2, q2⟩
      by_cases hlt : k < ds.length
      · refine .inr ⟨dr.go k G2 H' hlt e2 r2.ex, fun σ3 H3 => σ3.length = σ.length ∧ ∃ G' st3, Ex G G' ∧ SR F G' H3 σ3 st3 ∧ PostS F W G' σ.length D (forL (ds.drop (k + 1)) t f st3), fun σ3 H3 ⟨l3, G3, st3, e3, r3, q3⟩ => ⟨ds.length - (k + 1), by omega, rfl, hlt, l3, G3, st3, e3, r3, q3⟩, fun x H3 y => ?_⟩
        have hd : ds[k]? = some ds[k] := List.getElem?_eq_getElem hlt
        rw [List.drop_eq_getElem_cons hlt] at q2
        have fin : ∀ G3, Ex G2 G3 → SR F G3 H3 σ' st2 → Dp F.K G3 x ds[k] → tGx F t x σ' H3 fun σ4 H4 => tSx F W f { D with nx := fun σ3 H3 => σ3.length = σ.length ∧ ∃ G' st3, Ex G G' ∧ SR F G' H3 σ3 st3 ∧ PostS F W G' σ.length D (forL (ds.drop (k + 1)) t f st3), ct := fun σ3 H3 => σ3.length = σ.length ∧ ∃ G' st3, Ex G G' ∧ SR F G' H3 σ3 st3 ∧ PostS F W G' σ.length D (forL (ds.drop (k + 1)) t f st3), bk := D.nx } σ4 H4 := by
          intro G3 e3 r3 p3
          unfold forL at q2
          split at q2
          · rename_i st3 e4
            refine ⟨F, rfl, G3, st2, ds[k], st3, r3, p3, e4, fun σ4 l4 _ r4 => ⟨F, rfl, G3, st3, r4, ?_⟩⟩
            have q3 := q2.mono e3
            generalize f st3 = y at q3 ⊢
            cases y with
            | nx st5 => exact fun σ5 G5 H5 l5 e5 r5 => ⟨by omega, G5, st5, (e2.trans e3).trans e5, r5, PostS.mono e5 q3⟩
            | ct st5 => exact fun σ5 G5 H5 l5 e5 r5 => ⟨by omega, G5, st5, (e2.trans e3).trans e5, r5, PostS.mono e5 q3⟩
            | bk st5 => exact fun σ5 G5 H5 l5 e5 r5 => q3 σ5 G5 H5 (by omega) e5 r5
            | rt o u st5 => exact fun v σ5 G5 H5 l5 e5 r5 => q3 v σ5 G5 H5 (by omega) e5 r5
            | exc c d st5 => exact fun σ5 l5 => q3 σ5 (by omega)
            | bad => exact q3
          · exact q2.elim
        rcases dr.yld k ds[k] G2 H' x H3 hd e2 r2.ex y with ⟨e3, p3⟩ | ⟨p, o, e3, e4, p3⟩
        · subst e3
          exact fin G2 (Ex.refl _) r2 p3
        · subst e4
          exact fin _ (Ex.new (r2.ex.back e3)) (r2.new_ps e3) p3
      · have e : k = ds.length := by omega
        subst e
        rw [List.drop_length] at q2
        exact .inl ⟨dr.stop _ G2 H' (Nat.le_refl _) e2 r2.ex, q2 σ' G2 H' hl (Ex.refl _) r2⟩
    · rename_i ds e
      obtain ⟨w, e1, p⟩ := r.ps e
      have dr : ∃ a, w = .ref a ∧ (∃ xs, SqT X.K H a xs) ∧ Drives F.K G (Itt X.K a) ds := by
        cases p with
        | tup hs ha => exact ⟨_, rfl, ⟨_, hF ▸ (ex_n r.ex hs).t⟩, by rw [← hF]; exact drives_tup hs.t ha⟩
      obtain ⟨a, ea, ex0, dr⟩ := dr
      subst ea
      refine ⟨.ref a, slv_some e1, a, rfl, .inr ⟨ex0, ?_⟩⟩
      refine ⟨fun k m σ' H' => m = ds.length - k ∧ k ≤ ds.length ∧ σ'.length = σ.length ∧ ∃ G' st2, Ex G G' ∧ SR F G' H' σ' st2 ∧ PostS F W G' σ.length D (forL (ds.drop k) t f st2),
        ⟨ds.length, by simp, Nat.zero_le _, rfl, G, st, Ex.refl _, r, q⟩, ?_⟩
      rintro k m σ' H' ⟨rfl, hk, hl, G2, st2, e2, r2, q2⟩
      by_cases hlt : k < ds.length
      · refine .inr ⟨dr.go k G2 H' hlt e2 r2.ex, fun σ3 H3 => σ3.length = σ.length ∧ ∃ G' st3, Ex G G' ∧ SR F G' H3 σ3 st3 ∧ PostS F W G' σ.length D (forL (ds.drop (k + 1)) t f st3), fun σ3 H3 ⟨l3, G3, st3, e3, r3, q3⟩ => ⟨ds.length - (k + 1), by omega, rfl, hlt, l3, G3, st3, e3, r3, q3⟩, fun x H3 y => ?_⟩
        have hd : ds[k]? = some ds[k] := List.getElem?_eq_getElem hlt
        rw [List.drop_eq_getElem_cons hlt] at q2
        have fin : ∀ G3, Ex G2 G3 → SR F G3 H3 σ' st2 → Dp F.K G3 x ds[k] → tGx F t x σ' H3 fun σ4 H4 => tSx F W f { D with nx := fun σ3 H3 => σ3.length = σ.length ∧ ∃ G' st3, Ex G G' ∧ SR F G' H3 σ3 st3 ∧ PostS F W G' σ.length D (forL (ds.drop (k + 1)) t f st3), ct := fun σ3 H3 => σ3.length = σ.length ∧ ∃ G' st3, Ex G G' ∧ SR F G' H3 σ3 st3 ∧ PostS F W G' σ.length D (forL (ds.drop (k + 1)) t f st3), bk := D.nx } σ4 H4 := by
          intro G3 e3 r3 p3
          unfold forL at q2
          split at q2
          · rename_i st3 e4
            refine ⟨F, rfl, G3, st2, ds[k], st3, r3, p3, e4, fun σ4 l4 _ r4 => ⟨F, rfl, G3, st3, r4, ?_⟩⟩
            have q3 := q2.mono e3
            generalize f st3 = y at q3 ⊢
            cases y with
            | nx st5 => exact fun σ5 G5 H5 l5 e5 r5 => ⟨by omega, G5, st5, (e2.trans e3).trans e5, r5, PostS.mono e5 q3⟩
            | ct st5 => exact fun σ5 G5 H5 l5 e5 r5 => ⟨by omega, G5, st5, (e2.trans e3).trans e5, r5, PostS.mono e5 q3⟩
            | bk st5 => exact fun σ5 G5 H5 l5 e5 r5 => q3 σ5 G5 H5 (by omega) e5 r5
            | rt o u st5 => exact fun v σ5 G5 H5 l5 e5 r5 => q3 v σ5 G5 H5 (by omega) e5 r5
            | exc c d st5 => exact fun σ5 l5 => q3 σ5 (by omega)
            | bad => exact q3
          · exact q2.elim
        rcases dr.yld k ds[k] G2 H' x H3 hd e2 r2.ex y with ⟨e3, p3⟩ | ⟨p, o, e3, e4, p3⟩
        · subst e3
          exact fin G2 (Ex.refl _) r2 p3
        · subst e4
          exact fin _ (Ex.new (r2.ex.back e3)) (r2.new_ps e3) p3
      · have e : k = ds.length := by omega
        subst e
        rw [List.drop_length] at q2
        exact .inl ⟨dr.stop _ G2 H' (Nat.le_refl _) e2 r2.ex, q2 σ' G2 H' hl (Ex.refl _) r2⟩
    · exact q.elim
end
end Pl

namespace Pl
open PySem L2 PySem.Spec PyProof.Rows

section
variable {P : Program} {w : World} {K : PySem.W.Frag} {mg : Str → Option Value} {base : Heap} {x : Str} {st : Stmt} {f : Addr} {fd : FuncData} {N ps : List Str} {k : Nat} {ks : List Bool} {ca : Nat → Addr} {body : SS} {g : SF}
abbrev FnA (K : PySem.W.Frag) (x : Str) (st : Stmt) (f : Addr) (fd : FuncData) : Prop := FunD K x x (defArgs st) (defBody st) (defScope st) [] [] f fd
/-- THE RULE: a def by its body -/
theorem def_okD (Fn : FnA K x st f fd) (S : FnScope N ps (defScope st)) (hk : ks.length = ps.length)
    (hbody : ∀ (cdv : Value) (A : Around) (outer : List Env) (s : Shared) (H : Hp) (E : XK) (fr : Fr), fr.K = K → Room k (A.deeper (envOfC x (defScope st) s.heap.objs.size f cdv)) →
      JB (cxOf (L2.CX P w) P w K mg base N x (defScope st) f cdv A outer s H E) fr ⟨ca, fun cls d _ H => E cls d H⟩ (defBody st) body) :
    FnOk P w K mg base (L2.CX P w) (k + 1) f fd ps (spF K ca ks (bodyF ks N.length body)) := by
  have hpn : ps.length ≤ N.length := by have := congrArg List.length S.pre; rw [List.length_take] at this; omega
  refine Fn.ok S (fun vs H Q E h => ?_) (fun cdv A outer s H vs Q E hr h => ?_)
  · obtain ⟨G, us, fps, _, _, h, _⟩ := h
    rw [h, hk]
  · obtain ⟨G, us, fps, r, hu, hv, h⟩ := h
    refine ⟨_, hbody cdv A outer s H E (frOf K G H vs fps) rfl hr, G, parSl ks us ++ List.replicate (N.length - ks.length) Sl.no, ?_, ?_⟩
    · have z := r.pad rfl rfl (N.length - ks.length)
      unfold L2.start
      rw [hv]
      exact z
    · unfold bodyF at h
      generalize body (parSl ks us ++ List.replicate (N.length - ks.length) Sl.no) = z at h ⊢
      have hp : ∀ i, (frOf K G H vs fps).pin i = vs[i]? := fun _ => rfl
      have hlen : ∀ {σ' : L2.St} {w : Option V} {st' : Sg} {s' : Sl} {G' H' : Hp}, σ'.length = (L2.start N vs).length → SR (frOf K G H vs fps) G' H' (σ' ++ [w]) (st' ++ [s']) → ks.length ≤ st'.length := fun {σ' w st' s' G' H'} l r' => by
        have z := r'.len
        have y : (L2.start N vs).length = N.length := by unfold L2.start; rw [List.length_append, List.length_map, List.length_replicate]; omega
        simp at z
        omega
      cases z with
      | nx st' =>
        intro σ' G' H' l e r'
        have r2 := r'.push_ps (v := .non) (u := .dat .none) .non
        exact h .non G' H' e (r2.out rfl rfl rfl (hlen l r2) hv hp)
      | rt o u st' =>
        intro v σ' G' H' l e r'
        exact h v G' H' e (r'.out rfl rfl (by cases o <;> rfl) (hlen l r') hv hp)
      | exc c d st' =>
        intro σ' l G' H' dx v e r' hd p
        exact h G' H' dx v e (r'.out0 rfl rfl (hlen l (r'.push_no (v := .non))) hv hp) hd p
      | bk st' => exact h.elim
      | ct st' => exact h.elim
      | bad => exact h.elim
/-- a def of the text: where it stands, what it does -/
structure Has (P : Program) (w : World) (K : PySem.W.Frag) (mg : Str → Option Value) (base : Heap) (ca : Nat → Addr) (x : Str) (st : Stmt) (ps : List Str) (ks : List Bool) (k : Nat) (g : SF) : Prop where
  ex : ∃ f fd, FnOk P w K mg base (L2.CX P w) k f fd ps (spF K ca ks g) ∧ mg x = some (.ref f) ∧ FnA K x st f fd ∧ Binds K fd ps []
/-- where a def stands -/
structure At (K : PySem.W.Frag) (mg : Str → Option Value) (x : Str) (st : Stmt) : Prop where
  ex : ∃ f fd, mg x = some (.ref f) ∧ FnA K x st f fd
theorem Has.def_ (a : At K mg x st) (S : FnScope N ps (defScope st)) (hk : ks.length = ps.length)
    (hb : ∀ (f : Addr) (fd : FuncData), FnA K x st f fd → Binds K fd ps [])
    (hbody : ∀ (f : Addr) (cdv : Value) (A : Around) (outer : List Env) (s : Shared) (H : Hp) (E : XK) (fr : Fr), fr.K = K → Room k (A.deeper (envOfC x (defScope st) s.heap.objs.size f cdv)) →
      JB (cxOf (L2.CX P w) P w K mg base N x (defScope st) f cdv A outer s H E) fr ⟨ca, fun cls d _ H => E cls d H⟩ (defBody st) body) :
    Has P w K mg base ca x st ps ks (k + 1) (bodyF ks N.length body) := by
  obtain ⟨f, fd, hm, Fn⟩ := a.ex
  exact ⟨f, fd, def_okD Fn S hk (hbody f), hm, Fn, hb f fd Fn⟩
/-- of a thing that is never called -/
theorem Has.bad (a : At K mg x st) (hk : ks.length = ps.length) (hb : ∀ (f : Addr) (fd : FuncData), FnA K x st f fd → Binds K fd ps []) : Has P w K mg base ca x st ps ks k (fun _ => .bad) := by
  obtain ⟨f, fd, hm, Fn⟩ := a.ex
  refine ⟨f, fd, ⟨fun vs H Q E h => ?_, fun A outer s H args us vs Q E hr he hb hv h => ?_⟩, hm, Fn, hb f fd Fn⟩
  · obtain ⟨G, us, fps, r, hu, hv, h⟩ := h
    exact h.elim
  · obtain ⟨G, us, fps, r, hu, hv, h⟩ := h
    exact h.elim
theorem Has.imp {g' : SF} (h : Has P w K mg base ca x st ps ks k g) (e : ∀ us, g' us ≠ .bad → g us = g' us) : Has P w K mg base ca x st ps ks k g' := by
  obtain ⟨f, fd, Fn, r⟩ := h.ex
  exact ⟨f, fd, Fn.imp (spF_imp e), r⟩
theorem Has.mono {j : Nat} (h : Has P w K mg base ca x st ps ks k g) (e : k ≤ j) : Has P w K mg base ca x st ps ks j g := by
  obtain ⟨f, fd, Fn, r⟩ := h.ex
  exact ⟨f, fd, Fn.mono e, r⟩
end
/-- what a call with keywords binds -/
def KwB (x : Str) (st : Stmt) (ps : List Str) (n : Nat) (ks : List Str) (pm : List Nat) : Prop :=
  ∀ (kV doc pq : Value) (an : Option Addr) (cdv ct : Value) (us ws : List Value), us.length = n → ws.length = ks.length → bindArgs (PySem.W.fnOf x x (defArgs st) (defBody st) (defScope st) .none kV doc pq an cdv ct) ⟨us, ks.zip ws⟩ = pure (ps.zip (pick pm (us ++ ws)))
theorem kbd_of {K : PySem.W.Frag} {x : Str} {st : Stmt} {f : Addr} {fd : FuncData} {ps ks : List Str} {n : Nat} {pm : List Nat} (F : FnA K x st f fd) (h : KwB x st ps n ks pm) : KBd K fd ps n ks pm := by
  obtain ⟨oc, od, dV, kV, doc, pq, an, cdv, ct, osl, rfl, lk, hcd, hD, hK⟩ := F.ex
  rcases hD with ⟨_, rfl⟩ | ⟨e, _⟩
  · exact ⟨fun s us ws _ h1 h2 => .of_eq (h kV doc pq an cdv ct us ws h1 h2)⟩
  · exact absurd rfl e
def PoB (x : Str) (st : Stmt) (ps : List Str) : Prop :=
  ∀ (kV doc pq : Value) (an : Option Addr) (cdv ct : Value) (us : List Value), us.length = ps.length → bindArgs (PySem.W.fnOf x x (defArgs st) (defBody st) (defScope st) .none kV doc pq an cdv ct) ⟨us, []⟩ = pure (ps.zip us)

section
variable {X : Cx} {F : Fr} {W : Wx} {k n : Nat} {ps ks : List Str} {x y : Str} {st : Stmt} {p pos : Pos} {e : Expr} {es : List Expr} {kws : List Keyword} {pm : List Nat} {kd : List Bool} {g : SF} {os oz : List Opn}
theorem je_callH (h : Has X.prog X.w X.K X.mg X.base W.ca x st ps kd k g) (hr : Room k X.A) (hg : Gl X x) (tk : Takes X W.W) (hF : F.K = X.K)
    (ha : JA X F W (e :: es) os) (hdb : (x == ("__debug__" : Str)) = false := by decide) (he : starEach (e :: es) X.env = (false, eval e X.env) :: starEach es X.env := by rfl) (hpl : (backTo pos (starEach es X.env)).any (·.1) = false := by rfl) :
    JE X F W (.Call (.Name x p) (e :: es) [] pos) (callE kd g os) := by
  obtain ⟨f, fd, Fn, hm, F1, hb⟩ := h.ex
  exact je_call Fn hr hg hm F1.kp hb tk hF ha hdb he hpl
theorem je_callHP (h : Has X.prog X.w X.K X.mg X.base W.ca x st ps kd k g) (hkb : KwB x st ps n ks pm) (hr : Room k X.A) (hg : Gl X x) (tk : Takes X W.W) (hF : F.K = X.K)
    (ha : JA X F W (e :: es) os) (hkw : JK X F W kws oz) (hn : os.length = n := by rfl) (hz : oz.length = ks.length := by rfl) (hall : (backToKw pos (keywordEach kws X.env)).all (·.1.isSome) = true := by rfl) (hks : (backToKw pos (keywordEach kws X.env)).filterMap (·.1) = ks := by rfl)
    (hdb : (x == ("__debug__" : Str)) = false := by decide) (he : starEach (e :: es) X.env = (false, eval e X.env) :: starEach es X.env := by rfl)
    (hpl : ((backTo pos (starEach (e :: es) X.env)).any (·.1) || (backToKw pos (keywordEach kws X.env)).any (·.1.isNone)) = false := by rfl) :
    JE X F W (.Call (.Name x p) (e :: es) kws pos) (callP kd g pm os oz) := by
  obtain ⟨f, fd, Fn, hm, F1, hb⟩ := h.ex
  exact je_callP Fn hr hg hm F1.kp (kbd_of F1 hkb) tk hF ha hkw hn hz hall hks hdb he hpl
theorem je_callHP0 (h : Has X.prog X.w X.K X.mg X.base W.ca x st ps kd k g) (hkb : KwB x st ps 0 ks pm) (hr : Room k X.A) (hg : Gl X x) (tk : Takes X W.W) (hF : F.K = X.K)
    (hkw : JK X F W kws oz) (hz : oz.length = ks.length := by rfl) (hall : (backToKw pos (keywordEach kws X.env)).all (·.1.isSome) = true := by rfl) (hks : (backToKw pos (keywordEach kws X.env)).filterMap (·.1) = ks := by rfl)
    (hdb : (x == ("__debug__" : Str)) = false := by decide)
    (hpl : ((backTo pos (starEach [] X.env)).any (·.1) || (backToKw pos (keywordEach kws X.env)).any (·.1.isNone)) = false := by rfl) :
    JE X F W (.Call (.Name x p) [] kws pos) (callP kd g pm [] oz) := by
  obtain ⟨f, fd, Fn, hm, F1, hb⟩ := h.ex
  exact je_callP0 Fn hr hg hm F1.kp (kbd_of F1 hkb) tk hF hkw hz hall hks hdb hpl
end
theorem hv_of {k : Nat} {A : Around} (h : Room k A) : A.units + 65 < cLine := by have := h.un; omega
theorem hu_of64 {k : Nat} {A : Around} (h : Room k A) : A.units + 64 < cLine := by have := h.un; omega
theorem hw_of {k : Nat} {A : Around} (h : Room k A) : A.units + 1 < cLine := by have := h.un; omega
/-- a dict of the module with text keys -/
structure KTab (K : PySem.W.Frag) (w : World) (mg : Str → Option Value) (x : Str) (kd : List (Str × D)) : Prop where
  ex : ∃ a, mg x = some (.ref a) ∧ ∀ z d, kd.lookup z = some d → ∃ v, KDct K w a z v ∧ ∀ G, Dp K G v d
def kixU (kd : List (Str × D)) (u : U) (st : Sg) : RE := match u with
  | .dat (.str z) => match kd.lookup z with
    | some d => .ok false (.dat d) st
    | none => .bad
  | _ => .bad
theorem je_kix {X : Cx} {F : Fr} {W : Wx} {x : Str} {kd : List (Str × D)} {b : Expr} {ob : Opn} {p pos : Pos} (hF : F.K = X.K) (h : KTab X.K X.w X.mg x kd) (hg : Gl X x) (hb : JO X F W b ob) (hs : PlainIx b := by exact fun _ _ => rfl) (hd : (x == ("__debug__" : Str)) = false := by decide) : JE X F W (.Subscript (.Name x p) b pos) (ev1 ob (kixU kd)) := by
  obtain ⟨a, hm, hk⟩ := h.ex
  refine PE.imp (pe_ix ix_kdict (pe_glob (v := .ref a) hg hm rfl hd) hb hs) fun σ H Q ⟨G, st, r, h⟩ => ?_
  show tO F W ob σ H fun y H2 => rIxD X.K X.w (.ref a) y H2 Q
  refine ev1_ok r h fun x u G' H' st' e r' h1 q => ?_
  unfold kixU at q
  split at q
  · rename_i z
    split at q
    · rename_i d hd
      obtain ⟨v, e1, e2⟩ := hk z d hd
      exact ⟨a, z, v, rfl, h1.str, e1, PostE.ps q r' (hF ▸ e2 G')⟩
    · exact q.elim
  · exact q.elim
/-- the law's promise, of the script -/
def spLaw (K : PySem.W.Frag) : Sp := fun vs H Q _ => ∃ (a : Addr) (ns : List Int), vs = [.ref a] ∧ SqL K H a (ns.map V.int) ∧ ns.length ≤ 63 ∧ ∀ v H', v = .bl true → Q v H'
theorem sp_top {K : PySem.W.Frag} {ca : Nat → Addr} {g : SF} (h : ∀ ns : List Int, ns.length ≤ 63 → ∃ outs, g [.dat (.list (ns.map PyData.int))] = .ret false (.dat (.bool true)) outs) : ∀ vs H Q E, spLaw K vs H Q E → spF K ca [false] g vs H Q E := by
  rintro vs H Q E ⟨a, ns, rfl, hs, hl, hq⟩
  obtain ⟨outs, e⟩ := h ns hl
  have p : PsU K H (.ref a) (.dat (.list (ns.map PyData.int))) := Dp.lst hs (dps_int ns)
  have r0 : SR (frOf K H H [.ref a] fun _ => []) H H [] [] := by
    refine SR.of_nil (h := rfl) (h' := rfl) ⟨⟨Ex.refl _, Ex.refl _, fun p o e _ => e, fun p o e => .inl e, fun p e => e⟩, rfl, fun _ => [], fun i s q => ?_, fun i j hi => ?_⟩
    · simp at q
    · simp at hi
  have r1 : SR (frOf K H H [.ref a] fun _ => []) H H [some (.ref a)] [.ps (.dat (.list (ns.map PyData.int)))] := r0.push_ps p
  refine ⟨H, [.dat (.list (ns.map PyData.int))], fun _ => [], r1, rfl, rfl, ?_⟩
  rw [e]
  intro v G' H' _ r2
  have p2 : Dp K G' v (.bool true) := r2.last_ps
  cases p2
  exact hq _ _ rfl
end Pl

namespace Pl
open PySem L2 PySem.Spec PyProof.Rows

/-! data of the module -/
mutual
def datB (K : PySem.W.Frag) : D → Value → Bool
  | .none, .none => true
  | .bool b, .bool c => b == c
  | .int i, .int j _ => decide (i = j)
  | .str s, .str z _ => decide (s = z)
  | .tuple ds, .ref a => match K.lookup a with
    | some ⟨.type c, Option.none, .seq its n, _⟩ => decide (c = "tuple") && (decide (its.size ≤ 16777216) && datsB K ds its.toList)
    | _ => false
  | _, _ => false
def datsB (K : PySem.W.Frag) : List D → List Value → Bool
  | [], [] => true
  | d :: ds, v :: vs => datB K d v && datsB K ds vs
  | _, _ => false
end
mutual
theorem datB_ok {K : PySem.W.Frag} : ∀ (d : D) (u : Value), datB K d u = true → ∃ v, RelV v u ∧ ∀ G, Dp K G v d
  | .none, u, h => by
    cases u with
    | none => exact ⟨.non, rfl, fun G => .non⟩
    | _ => simp [datB] at h
  | .bool b, u, h => by
    cases u with
    | bool c =>
      simp [datB] at h
      subst h
      exact ⟨.bl b, rfl, fun G => .bl b⟩
    | _ => simp [datB] at h
  | .int i, u, h => by
    cases u with
    | int j t =>
      simp [datB] at h
      subst h
      exact ⟨.int i, ⟨t, rfl⟩, fun G => .int i⟩
    | _ => simp [datB] at h
  | .str s, u, h => by
    cases u with
    | str z t =>
      simp [datB] at h
      subst h
      exact ⟨.str s, ⟨t, rfl⟩, fun G => .str s⟩
    | _ => simp [datB] at h
  | .tuple ds, u, h => by
    cases u with
    | ref a =>
      unfold datB at h
      split at h
      · rename_i c its n sl q
        simp only [Bool.and_eq_true, decide_eq_true_eq] at h
        obtain ⟨h1, h2, h3⟩ := h
        subst h1
        obtain ⟨vs, e1, e2⟩ := datsB_ok ds its.toList h3
        exact ⟨.ref a, rfl, fun G => .tup (.inr ⟨_, its, n, q, rfl, rfl, rfl, le_line h2, e1⟩) (e2 G)⟩
      · cases h
    | _ => simp [datB] at h
  | .list ds, u, h => by simp [datB] at h
  | .dict kvs, u, h => by simp [datB] at h
theorem datsB_ok {K : PySem.W.Frag} : ∀ (ds : List D) (us : List Value), datsB K ds us = true → ∃ vs, Vals vs us ∧ ∀ G, DpAll K G vs ds
  | [], us, h => by
    cases us with
    | nil => exact ⟨[], .nil, fun G => .nil⟩
    | cons _ _ => simp [datsB] at h
  | d :: ds, us, h => by
    cases us with
    | nil => simp [datsB] at h
    | cons u us =>
      unfold datsB at h
      rw [Bool.and_eq_true] at h
      obtain ⟨v, e1, e2⟩ := datB_ok d u h.1
      obtain ⟨vs, e3, e4⟩ := datsB_ok ds us h.2
      exact ⟨v :: vs, .cons e1 e3, fun G => .cons (e2 G) (e4 G)⟩
end
def kdB (K : PySem.W.Frag) (a : Addr) (kd : List (Str × D)) : Bool := kd.all fun q => match PySem.W.nsIn K a q.1 with
  | some (some u) => datB K q.2 u
  | _ => false
theorem lookup_mem' {z : Str} {d : D} : ∀ {kd : List (Str × D)}, kd.lookup z = some d → (z, d) ∈ kd
  | [], h => by cases h
  | (k, e) :: r, h => by
    rw [List.lookup_cons] at h
    split at h
    · rename_i q
      have : z = k := by simpa using q
      cases h
      rw [this]
      exact List.mem_cons_self
    · exact List.mem_cons_of_mem _ (lookup_mem' h)
theorem ktab_of {K : PySem.W.Frag} {w : World} {mg : Str → Option Value} {x : Str} {kd : List (Str × D)} (hm : mg x = some (.ref (He.ga K x))) (hd : ∃ es n, KDict K w (He.ga K x) es n) (hb : kdB K (He.ga K x) kd = true) : KTab K w mg x kd := by
  obtain ⟨es, n, D⟩ := hd
  refine ⟨He.ga K x, hm, fun z d h => ?_⟩
  have h2 := List.all_eq_true.mp hb (z, d) (lookup_mem' h)
  dsimp only at h2
  split at h2
  · rename_i u e
    obtain ⟨v, e1, e2⟩ := datB_ok d u h2
    exact ⟨v, ⟨es, n, u, D.at_, D.lit, e, e1⟩, e2⟩
  · cases h2
/-- a def as a datum of the head -/
def dd (x : Str) (st : Stmt) : He.DefD := ⟨(x, none), x, x, defArgs st, defBody st, defScope st, [], []⟩
theorem at_of {K : PySem.W.Frag} {h : Heap} {mg : Str → Option Value} {fa : List He.Fa} {fn : List He.DefD} {x : Str} {st : Stmt} (c : He.SaysD fa fn K) (X : K.In h) (G : h.Ns mainGlobals mg) (i j : Nat) (h1 : fn[i]? = some (dd x st)) (h2 : fa[j]? = some (.glo x)) : At K mg x st := by
  obtain ⟨fd, F⟩ := c.def_ i h1
  exact ⟨_, fd, He.glo_ok X G (c.fact j h2), F⟩
theorem fn_quiet {P : Program} {w : World} {K : PySem.W.Frag} {mg : Str → Option Value} {base : Heap} {k : Nat} {f : Addr} {fd : FuncData} {ps : List Str} {sp : Sp} (F : FnOk P w K mg base (L2.CX P w) k f fd ps sp) (hE : ∀ vs H Q E, sp vs H Q E → sp vs H Q (fun _ _ _ => False)) : FnOk P w K mg base L2.CX0 k f fd ps sp :=
  ⟨F.len, fun A outer s H args us vs Q E hr he hb hv hs => codeAny_mono (F.run A outer s H args us vs Q _ hr he hb hv (hE _ _ _ _ hs)) fun r s' hq => by
    cases r with
    | ok fl => cases fl <;> exact hq
    | error e =>
      obtain ⟨_, _, _, _, _, _, _, _, _, _, _, _, z⟩ := hq
      exact z.elim⟩
theorem fna_uniq {K : PySem.W.Frag} {x : Str} {st : Stmt} {f : Addr} {fd fd' : FuncData} (F : FnA K x st f fd) (F' : FnA K x st f fd') : fd = fd' := by
  obtain ⟨_, _, _, _, _, _, _, _, _, _, _, h1, _⟩ := F.ex
  obtain ⟨_, _, _, _, _, _, _, _, _, _, _, h2, _⟩ := F'.ex
  rw [h1] at h2
  cases h2; rfl
/-- the law's end: a def that gives True of every script -/
theorem law_end {P : Program} {w : World} {K : PySem.W.Frag} {mg : Str → Option Value} {base : Heap} {ca : Nat → Addr} {st : Stmt} {k : Nat} {g : SF} {fa : Addr} (h : Has P w K mg base ca "law" st ["script"] [false] k g) (hm : mg "law" = some (.ref fa))
    {fd : FuncData} (F0 : FnA K "law" st fa fd) (hg : ∀ ns : List Int, ns.length ≤ 63 → ∃ outs, g [.dat (.list (ns.map PyData.int))] = .ret false (.dat (.bool true)) outs) : FnOk P w K mg base L2.CX0 k fa fd ["script"] (spLaw K) := by
  obtain ⟨f, fd', Fn, e, F, _⟩ := h.ex
  rw [hm] at e; cases e
  have e2 := fna_uniq F0 F
  subst e2
  exact fn_quiet (Fn.imp (sp_top hg)) fun vs H Q E q => q
end Pl

namespace Pl
open PySem L2 PySem.Spec PyProof.Rows
section
variable {X : Cx} {pins : List (Addr × Obj)} {σ : St} {H : Hp} {s : Shared} {a : Addr} {xs : List V}
theorem inv_tupN (I : Inv X pins σ H s) (h : SqN X.K H a xs) : ∃ (its : List Value) (sl : Array (Option Value)) (n : Nat), s.heap.get? a = some { cls := .type "tuple", dict := Option.none, data := .seq its.toArray n, slots := sl } ∧ Vals xs its ∧ xs.length ≤ sizeLine := by
  obtain ⟨its, r, ⟨ob, e1, e2, n, e3⟩, hz⟩ := I.tuple h.t
  have hd : ob.dict = Option.none := by
    rcases h with ⟨o, e, d⟩ | ⟨o, its, n, hk, d, _⟩
    · obtain ⟨g, _⟩ := I.hok a _ e
      rw [g] at e1
      cases e1
      exact d
    · have g := I.kIn a o hk
      rw [g] at e1
      cases e1
      exact d
  obtain ⟨cls, dd, data, sl⟩ := ob
  simp only at e2 e3 hd
  subst e2 e3 hd
  exact ⟨its, sl, n, e1, r, hz⟩
def rIndexT (K : PySem.W.Frag) : V → List V → Hp → VK → Prop := fun x xs H Q => ∃ (a : Addr) (y : V) (d : PyData) (ds : List PyData) (ws : List V) (j : Nat) (z : PyData), x = V.ref a ∧ xs = [y] ∧ SqN K H a ws ∧ L2.DpAll K H ws ds ∧ L2.Dp K H y d ∧
  SeqAt.shaped (.list ds) = true ∧ SeqAt.shaped d = true ∧ ds[j]? = some z ∧ PyData.eqv z d = true ∧ (∀ (m : Nat) (z' : PyData), m < j → ds[m]? = some z' → PyData.eqv z' d = false) ∧ Q (.int (j : Nat)) H
theorem mt_indexT (hu : X.A.units + 65 < cLine) : MtR X "tuple.index" (rIndexT X.K) := by
  intro pins s σ H x xs v us Q I rx rxs h
  obtain ⟨a, y, d, ds, ws, j, z, rfl, rfl, hs, ha, hy, sl, sd, hz, hzj, hno, q⟩ := h
  cases rx
  cases rxs with
  | cons ry rt =>
    rename_i uy ut
    cases rt
    obtain ⟨bs, r1⟩ := L2.Dp.reads I d y uy hy ry
    have hxs : PyData.canLayAll0 ds = true := SeqAt.canLay_of_shaped sl
    have hroom : X.A.units + 1 + min (PyData.depthAll ds) d.depth < cLine := room_in_shaped sd hu
    obtain ⟨its, sls, n, ho, rv, hlen⟩ := inv_tupN I hs
    obtain ⟨as, h4⟩ := L2.Dp.readsAll I ds _ its ha rv
    have hn : its.length = ds.length := SeqAt.ReadsAll.length ds its as h4
    have hmap : its.map (SeqAt.readOf s.heap) = ds := SeqAt.readsAll_map ds its as hxs h4
    obtain ⟨hjd, _⟩ := List.getElem?_eq_some_iff.mp hz
    have hjl : j < its.length := by omega
    have hj : j < its.toArray.size := by simpa using hjl
    have at_ : ∀ (m : Nat) (hm : m < its.toArray.size) (z' : PyData), ds[m]? = some z' → SeqAt.readOf s.heap its.toArray[m] = z' := by
      intro m hm z' hz'
      have hml : m < its.length := by simpa using hm
      rw [← hmap, List.getElem?_map, List.getElem?_eq_getElem hml] at hz'
      have e1 : SeqAt.readOf s.heap its[m] = z' := Option.some.inj (show some (SeqAt.readOf s.heap its[m]) = some z' from hz')
      simpa using e1
    refine call_meets PySem.F.slot_tuple_index ⟨_, ho, rfl⟩ PySem.F.entry_tuple_index (PySem.F.args_tuple_index_2 _ _)
      (SeqAt.tuple_index2_found a its.toArray n Option.none sls uy (fun m => match its.toArray[m]? with | some u => PyData.eqv (SeqAt.readOf s.heap u) d | none => false) j hj (Nat.zero_le _) hj ?_ ?_) ⟨ho, fun m hm => ?_, ?_⟩
    · rw [Array.getElem?_eq_getElem hj]
      dsimp only
      rw [at_ j hj z hz]
      exact hzj
    · intro m hm _ hmj
      have hmd : m < ds.length := by omega
      have hz' : ds[m]? = some ds[m] := List.getElem?_eq_getElem hmd
      rw [Array.getElem?_eq_getElem hm]
      dsimp only
      rw [at_ m hm _ hz']
      exact hno m _ hmj hz'
    · rw [Array.getElem?_eq_getElem hm]
      exact SeqAt.items_eqAt (vs := its.toArray) (show ReadsAll s.heap its.toArray.toList ds as from h4) r1 hxs (SeqAt.canLay_of_shaped sd) hroom _ (Array.getElem_mem hm)
    · exact ⟨.int (j : Nat), H, I.tok _, ⟨_, rfl⟩, q⟩
/-- either -/
def tIdx (K : PySem.W.Frag) (to : TE) (t : TA) : TE := fun σ H Q => to σ H fun x H1 => (∃ a, x = .ref a ∧ ((∃ xs, SqL K H1 a xs) ∧ t σ H1 (fun xs H2 => rIndexD K x xs H2 Q) ∨ (∃ xs, SqN K H1 a xs) ∧ t σ H1 (fun xs H2 => rIndexT K x xs H2 Q)))
variable {o e : Expr} {es : List Expr} {to : TE} {t : TA} {apos cpos : Pos}
theorem pe_idx (hu : X.A.units + 65 < cLine) (ho : PE X o to) (ha : PA X (e :: es) t)
    (hbase : attributeBase o "index" X.env (eval o X.env) = eval o X.env := by rfl)
    (hfew : ((backTo cpos (starEach (e :: es) X.env)).all (fun x => !x.1) && (backToKw cpos (keywordEach [] X.env)).all (fun x => x.1.isSome)
      && decide ((e :: es).length + ([] : List Keyword).length + (if ([] : List Keyword).isEmpty then 0 else 1) < 30)) = true := by rfl)
    (hline : (apos.endLine == cpos.line) = true := by rfl) (hs : starEach (e :: es) X.env = (false, eval e X.env) :: starEach es X.env := by rfl) (hplain : (backTo cpos (starEach es X.env)).any (·.1) = false := by rfl) :
    PE X (.Call (.Attribute o "index" apos) (e :: es) [] cpos) (tIdx X.K to t) := by
  refine ⟨fun pins s σ H Q I h => ?_⟩
  refine wpAny_Call_method_late hbase hfew hline rfl (thn (ho.run pins s σ H _ I h) fun v s1 ⟨x, H1, I1, r1, a, ea, q1⟩ => ?_)
  subst ea
  cases r1
  rcases q1 with ⟨⟨ws, hs1⟩, q1⟩ | ⟨⟨ws, hs1⟩, q1⟩
  · obtain ⟨h1, h2⟩ := tyV_is (X := X) (x := .ref a) (v := .ref a) (T := "list") I1 rfl (.inl ⟨rfl, ws, hs1⟩)
    refine ⟨"list", "list.index", F.plainAttrs_list, F.slot_list_index, F.type_list_index, h1, h2, ?_⟩
    have hA := ha.run cpos pins s1 σ H1 _ I1 q1
    rw [hs] at hA ⊢
    refine Calls.callWith_builtin (by show (false || (backTo cpos (starEach es X.env)).any (·.1)) = false; rw [hplain] <;> rfl) (Calls.evalArgs_plain ?_)
    exact thn hA fun us s2 ⟨vs, H2, I2, r2, q2⟩ => mt_indexD hu pins s2 σ H2 (.ref a) vs (.ref a) us Q I2 rfl r2 q2
  · obtain ⟨its, sl, n, ho, _, _⟩ := inv_tupN I1 hs1
    refine ⟨"tuple", "tuple.index", F.plainAttrs_tuple, F.slot_tuple_index, F.type_tuple_index, ⟨_, ho, rfl⟩, fun b e => by cases e; exact ⟨_, ho, rfl⟩, ?_⟩
    have hA := ha.run cpos pins s1 σ H1 _ I1 q1
    rw [hs] at hA ⊢
    refine Calls.callWith_builtin (by show (false || (backTo cpos (starEach es X.env)).any (·.1)) = false; rw [hplain] <;> rfl) (Calls.evalArgs_plain ?_)
    exact thn hA fun us s2 ⟨vs, H2, I2, r2, q2⟩ => mt_indexT hu pins s2 σ H2 (.ref a) vs (.ref a) us Q I2 rfl r2 q2
end
theorem dps_l2 {K : PySem.W.Frag} {H : Hp} : ∀ {ds : List D} {vs : List V}, DpAll K H vs ds → PyData.canLayAll0 ds = true → L2.DpAll K H vs ds
  | [], _, h, _ => by cases h; exact .nil
  | d :: ds, _, h, c => by
    cases h with
    | cons h1 h2 =>
      unfold PyData.canLayAll0 at c
      rw [Bool.and_eq_true] at c
      exact .cons (h1.l2 c.1) (dps_l2 h2 c.2)
/-! the meaning -/
def idxK (x y : U) (st : Sg) : RE := match y with
  | .dat d => match x with
    | .dat (.list ds) => if SeqAt.shaped (.list ds) && SeqAt.shaped d then (match firstD d ds 0 with
      | some j => .ok false (.dat (.int (j : Nat))) st
      | none => .bad) else .bad
    | .dat (.tuple ds) => if SeqAt.shaped (.list ds) && SeqAt.shaped d then (match firstD d ds 0 with
      | some j => .ok false (.dat (.int (j : Nat))) st
      | none => .bad) else .bad
    | _ => .bad
  | _ => .bad
/-- which kind is it -/
def sqK : U → Option Bool
  | .dat (.list _) => some false
  | .dat (.tuple _) => some true
  | _ => none
def idxE (a b : Opn) : SE := fun st => evO a st fun x st1 => match (fetch st1 x).bind sqK with
  | some k => evO b st1 fun y st2 => match fetch st2 x, fetch st2 y with
    | some u, some w => if sqK u = some k then idxK u w st2 else .bad
    | _, _ => .bad
  | none => .bad
section
variable {X : Cx} {F : Fr} {W : Wx} {G G' H H' : Hp} {σ : St} {st st' : Sg} {Q : VK} {v : V} {u : U} {ds : List D} {vs : List V}
theorem je_idx {a b : Expr} {oa ob : Opn} {apos cpos : Pos} (hF : F.K = X.K) (hu : X.A.units + 65 < cLine) (ha : JO X F W a oa) (hb : JO X F W b ob)
    (hbase : attributeBase a "index" X.env (eval a X.env) = eval a X.env := by rfl)
    (hfew : ((backTo cpos (starEach [b] X.env)).all (fun x => !x.1) && (backToKw cpos (keywordEach [] X.env)).all (fun x => x.1.isSome) && decide ([b].length + ([] : List Keyword).length + (if ([] : List Keyword).isEmpty then 0 else 1) < 30)) = true := by rfl)
    (hline : (apos.endLine == cpos.line) = true := by rfl) (hs : starEach [b] X.env = (false, eval b X.env) :: starEach [] X.env := by rfl) (hplain : (backTo cpos (starEach [] X.env)).any (·.1) = false := by rfl) :
    JE X F W (.Call (.Attribute a "index" apos) [b] [] cpos) (idxE oa ob) :=
  PE.imp (pe_idx hu ha (pa_cons hb pa_nil hs) hbase hfew hline hs hplain) fun σ H Q ⟨G, st, r, h⟩ => by
    unfold idxE at h
    refine evO_ok (R := fun x H1 => ∃ a, x = .ref a ∧ ((∃ xs, SqL X.K H1 a xs) ∧ tCons (tO F W ob) tNil σ H1 (fun xs H2 => rIndexD X.K x xs H2 Q) ∨ (∃ xs, SqN X.K H1 a xs) ∧ tCons (tO F W ob) tNil σ H1 (fun xs H2 => rIndexT X.K x xs H2 Q))) r h fun x ac G1 H1 st1 e1 r1 p1 q1 => ?_
    split at q1
    · rename_i k hk
      obtain ⟨u0, f0, k0⟩ := Option.bind_eq_some_iff.mp hk
      have ru0 := p1.rd r1 f0
      have fin : ∀ (R : V → Hp → Prop), (∀ y G2 H2 (st2 : Sg) (u w : U), Ex G1 G2 → SR F G2 H2 σ st2 → RdU F.K G2 H2 x u → RdU F.K G2 H2 y w → sqK u = some k → PostE F W G2 σ Q (idxK u w st2) → R y H2) → tO F W ob σ H1 R := fun R hR => by
        refine evO_ok r1 q1 fun y bc G2 H2 st2 e2 r2 p2 q2 => ?_
        split at q2
        · rename_i u w f1 f2
          split at q2
          · rename_i hk2
            exact hR y G2 H2 st2 u w e2 r2 ((p1.mono e2).rd r2 f1) (p2.rd r2 f2) hk2 q2
          · exact q2.elim
        · exact q2.elim
      cases u0 with
      | dat d0 =>
        cases d0 with
        | list ds0 =>
          cases k0
          obtain ⟨a, ws, rfl, hs1, _⟩ := ru0.lst
          refine ⟨a, rfl, .inl ⟨⟨ws, hF ▸ hs1⟩, ?_⟩⟩
          refine fin _ fun y G2 H2 st2 u w e2 r2 ru rw_ hk2 q2 => ?_
          unfold idxK at q2
          split at q2
          · rename_i d
            split at q2
            · rename_i ds
              split at q2
              · rename_i hsh
                rw [Bool.and_eq_true] at hsh
                split at q2
                · rename_i j hj
                  obtain ⟨_, z, h1, h2, h3⟩ := firstD_spec hj
                  have hl := ru.dp r2.ex
                  have hy := rw_.dp r2.ex
                  exact ⟨a, y, d, ds, j, z, rfl, rfl, hF ▸ hl.l2 (SeqAt.canLay_of_shaped hsh.1), hF ▸ hy.l2 (SeqAt.canLay_of_shaped hsh.2), hsh.1, hsh.2, h1, h2, h3, PostE.ps q2 r2 (.int _)⟩
                · exact q2.elim
              · exact q2.elim
            · cases hk2
            · exact q2.elim
          · exact q2.elim
        | tuple ds0 =>
          cases k0
          have ru0' : Dp F.K G1 x (.tuple ds0) := ru0
          cases ru0' with
          | tup hs1 ha1 =>
            rename_i a ws
            refine ⟨a, rfl, .inr ⟨⟨ws, hF ▸ ex_n r1.ex hs1⟩, ?_⟩⟩
            refine fin _ fun y G2 H2 st2 u w e2 r2 ru rw_ hk2 q2 => ?_
            unfold idxK at q2
            split at q2
            · rename_i d
              split at q2
              · cases hk2
              · rename_i ds
                split at q2
                · rename_i hsh
                  rw [Bool.and_eq_true] at hsh
                  split at q2
                  · rename_i j hj
                    obtain ⟨_, z, h1, h2, h3⟩ := firstD_spec hj
                    have hy := rw_.dp r2.ex
                    have ru' : Dp F.K G2 (.ref a) (.tuple ds) := ru
                    cases ru' with
                    | tup hs2 ha2 =>
                      rename_i ws2
                      have hd : L2.Dp F.K H2 (.ref a) (.tuple ds) := (ru.dp r2.ex).l2 (SeqAt.canLay_of_shaped (d := .list ds) hsh.1)
                      have hn := ex_n r2.ex hs2
                      have ha3 : L2.DpAll F.K H2 ws2 ds := dps_l2 (dps_mono r2.ex _ ha2) (SeqAt.canLay_of_shaped (d := .list ds) hsh.1)
                      exact ⟨a, y, d, ds, ws2, j, z, rfl, rfl, hF ▸ hn, hF ▸ ha3, hF ▸ hy.l2 (SeqAt.canLay_of_shaped hsh.2), hsh.1, hsh.2, h1, h2, h3, PostE.ps q2 r2 (.int _)⟩
                  · exact q2.elim
                · exact q2.elim
              · exact q2.elim
            · exact q2.elim
        | _ => cases k0
      | dic kvs => cases k0
      | dl ns b => cases k0
    · exact q1.elim
end
end Pl

namespace Pl
open PySem L2 PySem.Spec PyProof.Rows
section
variable {X : Cx} {F : Fr} {W : Wx} {G G' H H' : Hp} {σ : St} {st st' : Sg} {Q : VK} {v : V} {u : U} {ds : List D} {vs : List V}
theorem wipeS_key : ∀ (is : List Nat) (st : Sg) (j : Nat), (wipeS st is)[j]? = if j ∈ is then (if j < st.length then some .no else none) else st[j]? := by
  intro is
  induction is with
  | nil => intro st j; simp [wipeS]
  | cons i is ih =>
    intro st j
    unfold wipeS
    by_cases e : i = j
    · subst e
      by_cases hi : i < st.length
      · rw [List.getElem?_set_self (by rw [wipeS_len]; exact hi), if_pos List.mem_cons_self, if_pos hi]
      · rw [if_pos List.mem_cons_self, if_neg hi, List.getElem?_eq_none]
        rw [List.length_set, wipeS_len]; omega
    · rw [List.getElem?_set_ne e, ih]
      by_cases m : j ∈ is
      · rw [if_pos m, if_pos (List.mem_cons_of_mem _ m)]
      · rw [if_neg m, if_neg (by simp only [List.mem_cons, not_or]; exact ⟨fun q => e q.symm, m⟩)]
theorem wipeS_two {own own1 : List Nat} (h : ∀ i ∈ own1, i ∈ own) : wipeS (wipeS st own1) own = wipeS st own := by
  apply List.ext_getElem?
  intro j
  rw [wipeS_key own (wipeS st own1) j, wipeS_key own st j, wipeS_len]
  by_cases m : j ∈ own
  · rw [if_pos m, if_pos m]
  · rw [if_neg m, if_neg m, wipeS_key own1 st j, if_neg fun z => m (h j z)]
/-- a loop over what J yields, from a list made so far -/
theorem lc_gen {items : List D} {own : List Nat} {t : Tg} {c : ST} {e : SE} {J : It} {st1 : Sg} {P : Hp → RL → Prop} {Nx : Hp → Prop} {Dl : Addr} {acc0 : List D} (hown : ∀ i ∈ t.sls, i ∈ own) (hP : ∀ {G G' : Hp} {r : RL}, Ex G G' → P G r → P G' r) (hbad : ∀ {G : Hp}, ¬ P G .bad)
    (dr : Drives F.K G J items) (r0 : SR F G H ((wipe σ own) ++ [some (.ref Dl)]) (wipeS st1 own ++ [.ow (.dat (.list acc0))])) (q : P G (lcL own t c e items acc0 st1))
    (hend : ∀ {G' H' : Hp} {acc : List D} {st : Sg}, Ex G G' → SR F G' H' ((wipe σ own) ++ [some (.ref Dl)]) (wipeS st own ++ [.ow (.dat (.list acc))]) → P G' (.ok acc st) → Nx H') :
    ∃ Wv : Nat → Nat → Hp → Prop, (∃ m, Wv 0 m H) ∧ ∀ i m H, Wv i m H →
      (J.stop i H ∧ Nx H) ∨ (J.go i H ∧ ∃ Nx : Hp → Prop, (∀ H', Nx H' → ∃ m', m' < m ∧ Wv (i + 1) m' H') ∧ ∀ x H', J.yld i H x H' → tGx F t x (wipe σ own) H' fun σ2 H2 => wipe σ2 own = wipe σ own ∧ tTx F (Wx.none W) c σ2 H2 fun b H3 =>
        if b = true then tEx F (Wx.none W) e σ2 H3 fun y H4 => ∃ acc, H4 Dl = some (.lst acc) ∧ acc.length < sizeLine ∧ Nx (upd H4 Dl (.lst (acc ++ [y]))) else Nx H3) := by
  -- at turn i: the slots, the list at Dl held besides
  let Iv : Nat → Hp → Prop := fun i H' => ∃ G' st2 acc, Ex G G' ∧ SR F G' H' ((wipe σ own) ++ [some (.ref Dl)]) (wipeS st2 own ++ [.ow (.dat (.list acc))]) ∧ P G' (lcL own t c e (items.drop i) acc st2)
  have wl : (wipe σ own).length = σ.length := wipe_length σ own
  refine ⟨fun i m H' => m = items.length - i ∧ i ≤ items.length ∧ Iv i H', ⟨items.length, by simp, Nat.zero_le _, G, st1, acc0, Ex.refl G, r0, q⟩, ?_⟩
  rintro i m H' ⟨rfl, hi, G2, st2, acc, e2, r2, q2⟩
  by_cases hlt : i < items.length
  · refine .inr ⟨dr.go i G2 H' hlt e2 r2.ex, Iv (i + 1), fun H3 h3 => ⟨items.length - (i + 1), by omega, rfl, hlt, h3⟩, fun x H3 y => ?_⟩
    have hd : items[i]? = some items[i] := List.getElem?_eq_getElem hlt
    rw [List.drop_eq_getElem_cons hlt] at q2
    have fin : ∀ G3, Ex G2 G3 → SR F G3 H3 ((wipe σ own) ++ [some (.ref Dl)]) (wipeS st2 own ++ [.ow (.dat (.list acc))]) → Dp F.K G3 x items[i] → tGx F t x (wipe σ own) H3 fun σ2 H2 => wipe σ2 own = wipe σ own ∧ tTx F (Wx.none W) c σ2 H2 fun b H3 =>
        if b = true then tEx F (Wx.none W) e σ2 H3 fun y H4 => ∃ acc, H4 Dl = some (.lst acc) ∧ acc.length < sizeLine ∧ Iv (i + 1) (upd H4 Dl (.lst (acc ++ [y]))) else Iv (i + 1) H3 := by
      intro G3 e3 r3 p3
      unfold lcL at q2
      split at q2
      · rename_i st3 e4
        refine ⟨F.and (.ref Dl) (.ow (.dat (.list acc))), rfl, G3, wipeS st2 own, items[i], st3, r3.hold rfl, p3, e4, fun σ2 l2 k2 r4 => ⟨wipe_of hown l2 k2, F.and (.ref Dl) (.ow (.dat (.list acc))), rfl, G3, st3, r4, ?_⟩⟩
        have ww : wipe σ2 own = wipe σ own := wipe_of hown l2 k2
        have q3 := hP e3 q2
        -- back to a turn's start
        have again : ∀ {G5 H5 : Hp} {st5 : Sg} {acc' : List D}, Ex G3 G5 → SR F G5 H5 (σ2 ++ [some (.ref Dl)]) (st5 ++ [.ow (.dat (.list acc'))]) → P G3 (lcL own t c e (items.drop (i + 1)) acc' st5) → Iv (i + 1) H5 := by
          intro G5 H5 st5 acc' e5 r5 q5
          refine ⟨G5, st5, acc', (e2.trans e3).trans e5, ?_, hP e5 q5⟩
          have r6 := r5.hold rfl
          have r7 := SR.wiped (σ' := wipe σ own) (is := own) r6 (by rw [wl]; have := r6.len; rw [l2, wl]) (fun j hj => by rw [← ww, wipe_join hj])
          exact r7.unhold
        unfold testR at q3
        generalize c st3 = z at q3 ⊢
        cases z with
        | ok b st5 =>
          intro G5 H5 e5 r5
          cases b with
          | false => rw [if_neg Bool.false_ne_true]; exact again e5 r5.unhold q3
          | true =>
            rw [if_pos rfl]
            refine ⟨F.and (.ref Dl) (.ow (.dat (.list acc))), rfl, G5, st5, r5, ?_⟩
            dsimp only at q3
            unfold pushR at q3
            generalize e st5 = y at q3 ⊢
            cases y with
            | ok o w st6 =>
              intro yv G6 H6 e6 r6
              cases w with
              | dat yd =>
                dsimp only at q3
                split at q3
                · exact (hbad q3).elim
                · rename_i hc
                  simp only [Bool.or_eq_true, Bool.and_eq_true, Bool.not_eq_true', decide_eq_false_iff_not, not_or, not_and, Bool.not_eq_false, Decidable.not_not] at hc
                  have fin2 : ∀ G7, Ex G6 G7 → SR (F.and (.ref Dl) (.ow (.dat (.list acc)))) G7 H6 σ2 st6 → Dp F.K G7 yv yd → ∃ acc, H6 Dl = some (.lst acc) ∧ acc.length < sizeLine ∧ Iv (i + 1) (upd H6 Dl (.lst (acc ++ [yv]))) := by
                    intro G7 e7 r7 p7
                    have r8 := r7.unhold
                    obtain ⟨vv, fp, hv, o, k⟩ := r8.mutate (i := st6.length) (s := .ow (.dat (.list acc))) get_app_n rfl
                    have hl6 : st6.length = σ2.length := r7.len
                    have ev : vv = .ref Dl := by
                      unfold slv at hv
                      rw [hl6, get_app_n] at hv
                      cases hv; rfl
                    subst ev
                    obtain ⟨a, xs, e1, e8, e9, e10, e11⟩ := o
                    cases e1
                    refine ⟨xs, e8, lt_line (by rw [Dps.length e10]; exact hc.2), ?_⟩
                    have r9 := k (upd H6 Dl (.lst (xs ++ [yv]))) (.dat (.list (acc ++ [yd]))) ⟨Dl, xs ++ [yv], rfl, upd_same, e9, Dps.append e10 (.cons p7 .nil), e11⟩
                      (fun b hb o eo => by rw [upd_ne (fun z => hb (by rw [e11, z]; simp))]; exact eo)
                      (fun b hb => by
                        by_cases z : b = Dl
                        · subst z; rw [upd_same] at hb; cases hb
                        · rw [upd_ne z] at hb; exact hb)
                    have es : (st6 ++ [Sl.ow (.dat (.list acc))]).set st6.length (Sl.re (.ow (.dat (.list acc))) (.dat (.list (acc ++ [yd])))) = st6 ++ [.ow (.dat (.list (acc ++ [yd])))] := by simp [Sl.re]
                    rw [es] at r9
                    exact again ((e5.trans e6).trans e7) r9 q3
                  cases o with
                  | false => exact fin2 G6 (Ex.refl _) (r6.pop rfl) r6.last_ps
                  | true =>
                    obtain ⟨G7, x7, r7, p7⟩ := r6.frz_last (hc.1 rfl)
                    exact fin2 G7 x7 r7 p7
              | _ => exact (hbad q3).elim
            | exc _ _ _ => exact (hbad q3).elim
            | bad => exact (hbad q3).elim
        | exc _ _ _ => exact (hbad q3).elim
        | bad => exact (hbad q3).elim
      · exact (hbad q2).elim
    rcases dr.yld i items[i] G2 H' x H3 hd e2 r2.ex y with ⟨e3, p3⟩ | ⟨p, o, e3, e4, p3⟩
    · subst e3
      exact fin G2 (Ex.refl _) r2 p3
    · subst e4
      exact fin _ (Ex.new (r2.ex.back e3)) (r2.new_ps e3) p3
  · have e : i = items.length := by omega
    subst e
    rw [List.drop_length] at q2
    refine .inl ⟨dr.stop _ G2 H' (Nat.le_refl _) e2 r2.ex, ?_⟩
    exact hend e2 r2 q2
/-- what the outer loop goes on with -/
def thenR (r : RL) (f : List D → Sg → RL) : RL := match r with
  | .ok acc st => f acc st
  | .bad => .bad
def srcR (r : RI) (f : List D → Sg → RL) : RL := match r with
  | .ok ds st => f ds st
  | _ => .bad
def lc2L (own own1 : List Nat) (t : Tg) (c : ST) (src1 : SI) (t1 : Tg) (c1 : ST) (e : SE) : List D → List D → Sg → RL
  | [], acc, st => .ok acc st
  | d :: ds, acc, st => match t.set d (wipeS st own) with
    | some st1 => testR (c st1) (fun st2 => srcR (src1 st2) fun ds1 st3 => thenR (lcL own1 t1 c1 e ds1 acc st3) (lc2L own own1 t c src1 t1 c1 e ds)) (fun st2 => lc2L own own1 t c src1 t1 c1 e ds acc st2)
    | none => .bad
def lc2E (src : SI) (own own1 : List Nat) (t : Tg) (c : ST) (src1 : SI) (t1 : Tg) (c1 : ST) (e : SE) : SE := fun st => match src st with
  | .ok ds st1 => lcR own st1 (lc2L own own1 t c src1 t1 c1 e ds [] st1)
  | .exc c d st1 => .exc c d st1
  | .bad => .bad
theorem wipe_key : ∀ (is : List Nat) (τ : St) (j : Nat), (wipe τ is)[j]? = if j ∈ is then (if j < τ.length then some none else none) else τ[j]? := by
  intro is
  induction is with
  | nil => intro τ j; simp [wipe]
  | cons i is ih =>
    intro τ j
    unfold wipe
    by_cases e : i = j
    · subst e
      by_cases hi : i < τ.length
      · rw [List.getElem?_set_self (by rw [wipe_length]; exact hi), if_pos List.mem_cons_self, if_pos hi]
      · rw [if_pos List.mem_cons_self, if_neg hi, List.getElem?_eq_none]
        rw [List.length_set, wipe_length]; omega
    · rw [List.getElem?_set_ne e, ih]
      by_cases m : j ∈ is
      · rw [if_pos m, if_pos (List.mem_cons_of_mem _ m)]
      · rw [if_neg m, if_neg (by simp only [List.mem_cons, not_or]; exact ⟨fun q => e q.symm, m⟩)]
/-- the loops of two clauses -/
theorem lc2_ok {items : List D} {own own1 : List Nat} {t t1 : Tg} {c c1 : ST} {src1 : SI} {e : SE} {J : It} {st1 : Sg} (hown : ∀ i ∈ t.sls, i ∈ own) (hown1 : ∀ i ∈ t1.sls, i ∈ own1) (hsub : ∀ i ∈ own1, i ∈ own) (r1 : SR F G H σ st1) (dr : Drives F.K G J items) (q : PostE F W G σ Q (lcR own st1 (lc2L own own1 t c src1 t1 c1 e items [] st1))) :
    ∀ D, H D = none → ∃ Wv : Nat → Nat → Hp → Prop, (∃ m, Wv 0 m (upd H D (.lst []))) ∧ ∀ i m H, Wv i m H →
      (J.stop i H ∧ Q (.ref D) H) ∨ (J.go i H ∧ ∃ Nx : Hp → Prop, (∀ H', Nx H' → ∃ m', m' < m ∧ Wv (i + 1) m' H') ∧ ∀ x H', J.yld i H x H' → tGx F t x (wipe σ own) H' fun σ2 H2 => wipe σ2 own = wipe σ own ∧ tTx F (Wx.none W) c σ2 H2 fun b H3 =>
        if b = true then tIx F (Wx.none W) src1 σ2 H3 fun J1 H4 => ∃ W1 : Nat → Nat → Hp → Prop, (∃ m, W1 0 m H4) ∧ ∀ j k H, W1 j k H →
          (J1.stop j H ∧ Nx H) ∨ (J1.go j H ∧ ∃ Nx1 : Hp → Prop, (∀ H', Nx1 H' → ∃ k', k' < k ∧ W1 (j + 1) k' H') ∧ ∀ x H', J1.yld j H x H' → tGx F t1 x (wipe σ2 own1) H' fun σ3 H5 => wipe σ3 own1 = wipe σ2 own1 ∧ tTx F (Wx.none W) c1 σ3 H5 fun b H6 =>
            if b = true then tEx F (Wx.none W) e σ3 H6 fun y H7 => ∃ acc, H7 D = some (.lst acc) ∧ acc.length < sizeLine ∧ Nx1 (upd H7 D (.lst (acc ++ [y]))) else Nx1 H6)
        else Nx H3) := by
  intro Dl hD
  -- at turn i: the slots, the list at Dl held besides
  let Iv : Nat → Hp → Prop := fun i H' => ∃ G' st2 acc, Ex G G' ∧ SR F G' H' ((wipe σ own) ++ [some (.ref Dl)]) (wipeS st2 own ++ [.ow (.dat (.list acc))]) ∧ PostE F W G' σ Q (lcR own st1 (lc2L own own1 t c src1 t1 c1 e (items.drop i) acc st2))
  have wl : (wipe σ own).length = σ.length := wipe_length σ own
  have r0 : SR F G (upd H Dl (.lst [])) ((wipe σ own) ++ [some (.ref Dl)]) (wipeS st1 own ++ [.ow (.dat (.list []))]) := by
    have r2 : SR F G H (wipe σ own) (wipeS st1 own) := r1.wiped wl fun j hj => wipe_join hj
    exact r2.push_ow (fp := [Dl]) ⟨Dl, [], rfl, upd_same, r1.ex.back hD, .nil, rfl⟩ (r2.rel.new hD) (Ex.new hD) (fun a ha => by
      have e : a = Dl := by simpa using ha
      rw [e]; exact hD)
  refine ⟨fun i m H' => m = items.length - i ∧ i ≤ items.length ∧ Iv i H', ⟨items.length, by simp, Nat.zero_le _, G, st1, [], Ex.refl G, r0, q⟩, ?_⟩
  rintro i m H' ⟨rfl, hi, G2, st2, acc, e2, r2, q2⟩
  by_cases hlt : i < items.length
  · refine .inr ⟨dr.go i G2 H' hlt e2 r2.ex, Iv (i + 1), fun H3 h3 => ⟨items.length - (i + 1), by omega, rfl, hlt, h3⟩, fun x H3 y => ?_⟩
    have hd : items[i]? = some items[i] := List.getElem?_eq_getElem hlt
    rw [List.drop_eq_getElem_cons hlt] at q2
    have fin : ∀ G3, Ex G2 G3 → SR F G3 H3 ((wipe σ own) ++ [some (.ref Dl)]) (wipeS st2 own ++ [.ow (.dat (.list acc))]) → Dp F.K G3 x items[i] → tGx F t x (wipe σ own) H3 fun σ2 H2 => wipe σ2 own = wipe σ own ∧ tTx F (Wx.none W) c σ2 H2 fun b H3 =>
        if b = true then tIx F (Wx.none W) src1 σ2 H3 fun J1 H4 => ∃ W1 : Nat → Nat → Hp → Prop, (∃ m, W1 0 m H4) ∧ ∀ j k H, W1 j k H →
          (J1.stop j H ∧ Iv (i + 1) H) ∨ (J1.go j H ∧ ∃ Nx1 : Hp → Prop, (∀ H', Nx1 H' → ∃ k', k' < k ∧ W1 (j + 1) k' H') ∧ ∀ x H', J1.yld j H x H' → tGx F t1 x (wipe σ2 own1) H' fun σ3 H5 => wipe σ3 own1 = wipe σ2 own1 ∧ tTx F (Wx.none W) c1 σ3 H5 fun b H6 =>
            if b = true then tEx F (Wx.none W) e σ3 H6 fun y H7 => ∃ acc, H7 Dl = some (.lst acc) ∧ acc.length < sizeLine ∧ Nx1 (upd H7 Dl (.lst (acc ++ [y]))) else Nx1 H6)
        else Iv (i + 1) H3 := by
      intro G3 e3 r3 p3
      unfold lc2L at q2
      split at q2
      · rename_i st3 e4
        refine ⟨F.and (.ref Dl) (.ow (.dat (.list acc))), rfl, G3, wipeS st2 own, items[i], st3, r3.hold rfl, p3, e4, fun σ2 l2 k2 r4 => ⟨wipe_of hown l2 k2, F.and (.ref Dl) (.ow (.dat (.list acc))), rfl, G3, st3, r4, ?_⟩⟩
        have ww : wipe σ2 own = wipe σ own := wipe_of hown l2 k2
        have q3 := q2.mono e3
        -- back to a turn's start
        have again : ∀ {G5 H5 : Hp} {st5 : Sg} {acc' : List D}, Ex G3 G5 → SR F G5 H5 (σ2 ++ [some (.ref Dl)]) (st5 ++ [.ow (.dat (.list acc'))]) → PostE F W G3 σ Q (lcR own st1 (lc2L own own1 t c src1 t1 c1 e (items.drop (i + 1)) acc' st5)) → Iv (i + 1) H5 := by
          intro G5 H5 st5 acc' e5 r5 q5
          refine ⟨G5, st5, acc', (e2.trans e3).trans e5, ?_, PostE.mono e5 q5⟩
          have r6 := r5.hold rfl
          have r7 := SR.wiped (σ' := wipe σ own) (is := own) r6 (by rw [wl]; have := r6.len; rw [l2, wl]) (fun j hj => by rw [← ww, wipe_join hj])
          exact r7.unhold
        unfold testR at q3
        generalize c st3 = z at q3 ⊢
        cases z with
        | ok b st5 =>
          intro G5 H5 e5 r5
          cases b with
          | false => rw [if_neg Bool.false_ne_true]; exact again e5 r5.unhold q3
          | true =>
            rw [if_pos rfl]
            refine ⟨F.and (.ref Dl) (.ow (.dat (.list acc))), rfl, G5, st5, r5, ?_⟩
            dsimp only at q3
            unfold srcR at q3
            generalize src1 st5 = y at q3 ⊢
            cases y with
            | ok items1 st6 =>
              intro G6 H6 J1 e6 r6 dr1
              dsimp only at q3
              have r7 := r6.unhold
              have r8 := SR.wiped (σ' := wipe σ2 own1) (is := own1) (r7.hold rfl) (by rw [wipe_length]) (fun j hj => wipe_join hj)
              refine lc_gen (F := F) (W := W) (σ := σ2) (own := own1) (t := t1) (c := c1) (e := e) (items := items1) (J := J1) (st1 := st6) (acc0 := acc) (Dl := Dl) (P := fun G rl => PostE F W G σ Q (lcR own st1 (thenR rl (lc2L own own1 t c src1 t1 c1 e (items.drop (i + 1)))))) (G := G6)
                hown1 (fun e h => PostE.mono e h) (fun h => h.elim) dr1 r8.unhold (PostE.mono (e5.trans e6) q3) fun {G7 H7 acc' st7} e7 r9 q7 => ?_
              refine ⟨G7, st7, acc', (((e2.trans e3).trans e5).trans e6).trans e7, ?_, q7⟩
              have r10 := SR.wiped (σ' := wipe σ own) (is := own) (r9.hold rfl) (by rw [wl, wipe_length, l2, wl]) (fun j hj => by
                rw [wipe_key, if_neg fun z => hj z, wipe_key, if_neg fun z => hj (hsub j z), ← wipe_join (σ := σ) hj, ← ww, wipe_join hj])
              rw [wipeS_two hsub] at r10
              exact r10.unhold
            | exc _ _ _ => exact q3.elim
            | bad => exact q3.elim
        | exc _ _ _ => exact q3.elim
        | bad => exact q3.elim
      · exact q2.elim
    rcases dr.yld i items[i] G2 H' x H3 hd e2 r2.ex y with ⟨e3, p3⟩ | ⟨p, o, e3, e4, p3⟩
    · subst e3
      exact fin G2 (Ex.refl _) r2 p3
    · subst e4
      exact fin _ (Ex.new (r2.ex.back e3)) (r2.new_ps e3) p3
  · have e : i = items.length := by omega
    subst e
    rw [List.drop_length] at q2
    refine .inl ⟨dr.stop _ G2 H' (Nat.le_refl _) e2 r2.ex, ?_⟩
    refine q2 (.ref Dl) G2 H' (Ex.refl _) ?_
    have r3 := r2.hold rfl
    have r4 := SR.wiped (σ' := σ) (is := own) r3 wl.symm (fun j hj => (wipe_join hj).symm)
    have e5 : wipeS (wipeS st2 own) own = wipeS st2 own := by
      have key : ∀ (is : List Nat) (st : Sg) (j : Nat), (wipeS st is)[j]? = if j ∈ is then (if j < st.length then some .no else none) else st[j]? := by
        intro is
        induction is with
        | nil => intro st j; simp [wipeS]
        | cons i is ih =>
          intro st j
          unfold wipeS
          by_cases e : i = j
          · subst e
            by_cases hi : i < st.length
            · rw [List.getElem?_set_self (by rw [wipeS_len]; exact hi), if_pos List.mem_cons_self, if_pos hi]
            · rw [if_pos List.mem_cons_self, if_neg hi, List.getElem?_eq_none]
              rw [List.length_set, wipeS_len]; omega
          · rw [List.getElem?_set_ne e, ih]
            by_cases m : j ∈ is
            · rw [if_pos m, if_pos (List.mem_cons_of_mem _ m)]
            · rw [if_neg m, if_neg (by simp only [List.mem_cons, not_or]; exact ⟨fun q => e q.symm, m⟩)]
      apply List.ext_getElem?
      intro j
      rw [key, key, wipeS_len]
      by_cases m : j ∈ own
      · rw [if_pos m, if_pos m]
      · rw [if_neg m, if_neg m]
    rw [e5] at r4
    exact (SR.rest (F := F) (F' := F.and (.ref Dl) (.ow (.dat (.list acc)))) rfl r1 e2 r4 own).unhold
/-- [elt for tg in iter if .. for tg1 in iter1 if ..] -/
theorem je_lc2 {elt tg iter tg1 iter1 : Expr} {ifs ifs1 : List Expr} {scope : Scope} {own : List (Str × Nat)} {own1 : List Nat} {pos : Pos} {src src1 : SI} {t t1 : Tg} {c c1 : ST} {f : SE} (hc : X.calm = true) (hN : X.N.Nodup) (hi : JI X F W tg iter src) (ok : BlkOk X.N X.env.scope scope own)
    (hg : ∀ (s : Shared) (H : Hp) (C : Addr) (cl : List (Str × Addr)) (fp : List Addr) (F' : Fr), F'.K = F.K → JG (X.blk s H scope (compEnvC scope cl C X.env) fp) F' tg t)
    (ht : ∀ (s : Shared) (H : Hp) (C : Addr) (cl : List (Str × Addr)) (fp : List Addr), JTs (X.blk s H scope (compEnvC scope cl C X.env) fp) F (Wx.none W) ifs c)
    (hi1 : ∀ (s : Shared) (H : Hp) (C : Addr) (cl : List (Str × Addr)) (fp : List Addr) (F' : Fr), F'.K = F.K → JI (X.blk s H scope (compEnvC scope cl C X.env) fp) F' (Wx.none W) tg1 iter1 src1)
    (hg1 : ∀ (s : Shared) (H : Hp) (C : Addr) (cl : List (Str × Addr)) (fp : List Addr) (F' : Fr), F'.K = F.K → JG (X.blk s H scope (compEnvC scope cl C X.env) fp) F' tg1 t1)
    (ht1 : ∀ (s : Shared) (H : Hp) (C : Addr) (cl : List (Str × Addr)) (fp : List Addr), JTs (X.blk s H scope (compEnvC scope cl C X.env) fp) F (Wx.none W) ifs1 c1)
    (he : ∀ (s : Shared) (H : Hp) (C : Addr) (cl : List (Str × Addr)) (fp : List Addr) (F' : Fr), F'.K = F.K → JE (X.blk s H scope (compEnvC scope cl C X.env) fp) F' (Wx.none W) elt f)
    (hown : ∀ i ∈ t.sls, i ∈ own.map (·.2) := by decide) (hown1 : ∀ i ∈ t1.sls, i ∈ own1 := by decide) (hsub : ∀ i ∈ own1, i ∈ own.map (·.2) := by decide) (hs : ∀ x, foldedSetIterable iter X.env x = pure x := by intro _; rfl) (hs1 : ∀ env x, foldedSetIterable iter1 env x = pure x := by intro _ _; rfl) :
    JE X F W (.ListComp elt [⟨tg, iter, ifs, 0⟩, ⟨tg1, iter1, ifs1, 0⟩] scope pos) (lc2E src (own.map (·.2)) own1 t c src1 t1 c1 f) :=
  PE.imp (pe_lc2 (vs1 := own1) hc hN hi ok hsub (fun s H C cl fp => jg_ex (F := F) (hg s H C cl fp)) ht (fun s H C cl fp => ji_ex (F := F) (hi1 s H C cl fp)) (fun s H C cl fp => jg_ex (F := F) (hg1 s H C cl fp)) ht1 (fun s H C cl fp => je_ex (F := F) (W := Wx.none W) (he s H C cl fp)) hs hs1) fun σ H Q ⟨G, st, r, q⟩ => by
    refine ⟨G, st, r, ?_⟩
    unfold lc2E at q
    generalize src st = z at q ⊢
    cases z with
    | ok items st' => exact fun G' H' J e r' dr => lc2_ok hown hown1 hsub r' dr (q.mono e)
    | exc c d st' => exact q
    | bad => exact q
theorem js_setLc2 {i : Nat} {y : Str} {py : Pos} {elt tg iter tg1 iter1 : Expr} {ifs ifs1 : List Expr} {scope : Scope} {own : List (Str × Nat)} {own1 : List Nat} {pos spos : Pos} {src src1 : SI} {t t1 : Tg} {c c1 : ST} {f : SE} (hc : X.calm = true) (hN : X.N.Nodup) (hy : X.N[i]? = some y) (hyl : X.env.scope.names.lookup y = some .local)
    (hsw : swapsWith (.ListComp elt [⟨tg, iter, ifs, 0⟩, ⟨tg1, iter1, ifs1, 0⟩] scope pos) (some (.Name y py)) spos.line X.env = pure true) (hi : JI X F W tg iter src) (ok : BlkOk X.N X.env.scope scope own)
    (hg : ∀ (s : Shared) (H : Hp) (C : Addr) (cl : List (Str × Addr)) (fp : List Addr) (F' : Fr), F'.K = F.K → JG (X.blk s H scope (compEnvC scope cl C X.env) fp) F' tg t)
    (ht : ∀ (s : Shared) (H : Hp) (C : Addr) (cl : List (Str × Addr)) (fp : List Addr), JTs (X.blk s H scope (compEnvC scope cl C X.env) fp) F (Wx.none W) ifs c)
    (hi1 : ∀ (s : Shared) (H : Hp) (C : Addr) (cl : List (Str × Addr)) (fp : List Addr) (F' : Fr), F'.K = F.K → JI (X.blk s H scope (compEnvC scope cl C X.env) fp) F' (Wx.none W) tg1 iter1 src1)
    (hg1 : ∀ (s : Shared) (H : Hp) (C : Addr) (cl : List (Str × Addr)) (fp : List Addr) (F' : Fr), F'.K = F.K → JG (X.blk s H scope (compEnvC scope cl C X.env) fp) F' tg1 t1)
    (ht1 : ∀ (s : Shared) (H : Hp) (C : Addr) (cl : List (Str × Addr)) (fp : List Addr), JTs (X.blk s H scope (compEnvC scope cl C X.env) fp) F (Wx.none W) ifs1 c1)
    (he : ∀ (s : Shared) (H : Hp) (C : Addr) (cl : List (Str × Addr)) (fp : List Addr) (F' : Fr), F'.K = F.K → JE (X.blk s H scope (compEnvC scope cl C X.env) fp) F' (Wx.none W) elt f)
    (hown : ∀ i ∈ t.sls, i ∈ own.map (·.2) := by decide) (hown1 : ∀ i ∈ t1.sls, i ∈ own1 := by decide) (hsub : ∀ i ∈ own1, i ∈ own.map (·.2) := by decide) (hs : ∀ x, foldedSetIterable iter X.env x = pure x := by intro _; rfl) (hs1 : ∀ env x, foldedSetIterable iter1 env x = pure x := by intro _ _; rfl) :
    JS X F W (.Assign [.Name y py] (.ListComp elt [⟨tg, iter, ifs, 0⟩, ⟨tg1, iter1, ifs1, 0⟩] scope pos) spos) (asgS i (lc2E src (own.map (·.2)) own1 t c src1 t1 c1 f)) :=
  js_asg (ps_setLc2 (vs1 := own1) hc hN hy hyl hsw hi ok hsub (fun s H C cl fp => jg_ex (F := F) (hg s H C cl fp)) ht (fun s H C cl fp => ji_ex (F := F) (hi1 s H C cl fp)) (fun s H C cl fp => jg_ex (F := F) (hg1 s H C cl fp)) ht1 (fun s H C cl fp => je_ex (F := F) (W := Wx.none W) (he s H C cl fp)) hs hs1) fun σ H Q ⟨G, st, r, q⟩ => by
    refine ⟨G, st, r, ?_⟩
    unfold lc2E at q
    generalize src st = z at q ⊢
    cases z with
    | ok items st' => exact fun G' H' J e r' dr => lc2_ok hown hown1 hsub r' dr (q.mono e)
    | exc c d st' => exact q
    | bad => exact q
end
end Pl

namespace Pl
open PySem L2 PySem.Spec PyProof.Rows

/-! own values kept for good; slots forgotten -/
def frzR : RE → RE
  | .ok true u st => if frzU u then .ok false u st else .bad
  | r => r
def frzE (f : SE) : SE := fun st => frzR (f st)
def fgR (is : List Nat) : RS → RS
  | .nx st => .nx (wipeS st is)
  | .ct st => .ct (wipeS st is)
  | .bk st => .bk (wipeS st is)
  | r => r
def fgS (is : List Nat) (b : SS) : SS := fun st => fgR is (b st)
def fzR (i : Nat) : RS → RS
  | .nx st => match st[i]? with
    | some (.ow u) => if frzU u then .nx (st.set i (.ps u)) else .bad
    | _ => .nx st
  | r => r
def fzS (i : Nat) (f : SS) : SS := fun st => fzR i (f st)
def pfS (i : Nat) (f : SS) : SS := fun st => match st[i]? with
  | some (.ow u) => if frzU u then f (st.set i (.ps u)) else .bad
  | _ => f st
section
variable {X : Cx} {F : Fr} {W : Wx} {G G' H H' : Hp} {σ : St} {st st' : Sg} {Q : VK} {v : V} {u : U}
theorem js_pf {i : Nat} {s : Stmt} {f : SS} (h : JS X F W s f) : JS X F W s (pfS i f) := PS.imp h fun D σ H ⟨G, st, r, q⟩ => by
  unfold pfS at q
  split at q
  · rename_i u e
    split at q
    · rename_i hf
      obtain ⟨G2, v, x2, r2, _, _⟩ := SR.freeze r e hf
      exact ⟨G2, _, r2, PostS.mono x2 q⟩
    · exact q.elim
  · exact ⟨G, st, r, q⟩
theorem js_fz {i : Nat} {s : Stmt} {f : SS} (h : JS X F W s f) : JS X F W s (fzS i f) := PS.imp h fun D σ H ⟨G, st, r, q⟩ => by
  refine ⟨G, st, r, ?_⟩
  have q' : PostS F W G σ.length D (fzR i (f st)) := q
  generalize f st = z at q' ⊢
  cases z with
  | nx s =>
    unfold fzR at q'
    dsimp only at q'
    split at q'
    · rename_i u e
      split at q'
      · rename_i hf
        intro σ' G' H' hl x r'
        obtain ⟨G2, v, x2, r2, _, _⟩ := SR.freeze r' e hf
        exact q' σ' G2 H' hl (x.trans x2) r2
      · exact q'.elim
    · exact q'
  | ct s => exact q'
  | bk s => exact q'
  | rt o u s => exact q'
  | exc c d s => exact q'
  | bad => exact q'
theorem je_frz {e : Expr} {f : SE} (h : JE X F W e f) : JE X F W e (frzE f) := PE.imp h fun σ H Q ⟨G, st, r, q⟩ => by
  refine ⟨G, st, r, ?_⟩
  have q' : PostE F W G σ Q (frzR (f st)) := q
  generalize f st = z at q' ⊢
  cases z with
  | ok o u st' =>
    cases o with
    | false => exact q'
    | true =>
      unfold frzR at q'
      dsimp only at q'
      split at q'
      · rename_i hf
        intro v G' H' e r'
        obtain ⟨G2, x, r2, p⟩ := SR.frz_last r' hf
        exact q' v G2 H' (e.trans x) (r2.push_ps p)
      · exact q'.elim
  | exc c d st' => exact q'
  | bad => exact q'
theorem jb_fg {is : List Nat} {s : List Stmt} {f : SS} (h : JB X F W s f) : JB X F W s (fgS is f) := PSs.imp h fun D σ H ⟨G, st, r, q⟩ => by
  refine ⟨G, st, r, ?_⟩
  have q' : PostS F W G σ.length D (fgR is (f st)) := q
  generalize f st = z at q' ⊢
  cases z with
  | nx s => exact fun σ' G' H' hl e r' => q' σ' G' H' hl e (r'.wiped rfl fun _ _ => rfl)
  | ct s => exact fun σ' G' H' hl e r' => q' σ' G' H' hl e (r'.wiped rfl fun _ _ => rfl)
  | bk s => exact fun σ' G' H' hl e r' => q' σ' G' H' hl e (r'.wiped rfl fun _ _ => rfl)
  | rt o u s => exact q'
  | exc c d s => exact q'
  | bad => exact q'
end

/-! how typed things stand as data -/
class Rp (α : Type) where
  enc : α → D
abbrev en {α : Type} [Rp α] (a : α) : D := Rp.enc a
abbrev Sx : Type := {s : Str // PyData.strOk s = true}
/-- a list of the program (a tuple is a list of ours) -/
structure Ls (α : Type) where
  l : List α
deriving DecidableEq
structure T3 (α β γ : Type) where
  a : α
  b : β
  c : γ
deriving DecidableEq
structure T4 (α β γ δ : Type) where
  a : α
  b : β
  c : γ
  d : δ
deriving DecidableEq
structure T5 (α β γ δ ε : Type) where
  a : α
  b : β
  c : γ
  d : δ
  e : ε
deriving DecidableEq
instance : Rp Int := ⟨PyData.int⟩
instance : Rp Bool := ⟨PyData.bool⟩
instance : Rp Sx := ⟨fun s => PyData.str s.1⟩
instance : Rp Unit := ⟨fun _ => PyData.none⟩
instance : Rp Empty := ⟨fun e => e.elim⟩
instance : Rp D := ⟨id⟩
instance {α : Type} [Rp α] : Rp (Option α) := ⟨fun o => match o with | some a => Rp.enc a | none => PyData.none⟩
instance {α : Type} [Rp α] : Rp (List α) := ⟨fun l => PyData.tuple (l.map Rp.enc)⟩
instance {α : Type} [Rp α] : Rp (Ls α) := ⟨fun l => PyData.list (l.l.map Rp.enc)⟩
instance {α β : Type} [Rp α] [Rp β] : Rp (α × β) := ⟨fun p => PyData.tuple [Rp.enc p.1, Rp.enc p.2]⟩
instance {α β γ : Type} [Rp α] [Rp β] [Rp γ] : Rp (T3 α β γ) := ⟨fun p => PyData.tuple [Rp.enc p.a, Rp.enc p.b, Rp.enc p.c]⟩
instance {α β γ δ : Type} [Rp α] [Rp β] [Rp γ] [Rp δ] : Rp (T4 α β γ δ) := ⟨fun p => PyData.tuple [Rp.enc p.a, Rp.enc p.b, Rp.enc p.c, Rp.enc p.d]⟩
instance {α β γ δ ε : Type} [Rp α] [Rp β] [Rp γ] [Rp δ] [Rp ε] : Rp (T5 α β γ δ ε) := ⟨fun p => PyData.tuple [Rp.enc p.a, Rp.enc p.b, Rp.enc p.c, Rp.enc p.d, Rp.enc p.e]⟩
/-- an item of zip or enumerate -/
def Pw (α β : Type) : Type := α × β
instance {α β : Type} [Rp α] [Rp β] : Rp (Pw α β) := ⟨fun p => PyData.dict [(Rp.enc p.1, Rp.enc p.2)]⟩
def Pw.of {α β : Type} (a : α) (b : β) : Pw α β := (a, b)
def zipW {α β : Type} (l : List α) (m : List β) : List (Pw α β) := List.zipWith Pw.of l m
def enumW {α : Type} (l : List α) : List (Pw Int α) := l.mapIdx fun i a => Pw.of (i : Int) a
theorem zipW_eq {α β : Type} (l : List α) (m : List β) : zipW l m = (l.zip m : List (α × β)) := rfl
theorem enumW_eq {α : Type} (l : List α) : enumW l = (l.mapIdx fun i a => ((i : Int), a) : List (Int × α)) := rfl
/-- never a dict or an item of zip or enumerate -/
class Nd (α : Type) [Rp α] : Prop where
  nd : ∀ a : α, isDicD (Rp.enc a) = false
instance : Nd Int := ⟨fun _ => rfl⟩
instance : Nd Bool := ⟨fun _ => rfl⟩
instance : Nd Sx := ⟨fun _ => rfl⟩
instance : Nd Unit := ⟨fun _ => rfl⟩
instance : Nd Empty := ⟨fun e => e.elim⟩
instance {α : Type} [Rp α] [Nd α] : Nd (Option α) := ⟨fun o => by cases o with | none => rfl | some a => exact Nd.nd a⟩
instance {α : Type} [Rp α] : Nd (List α) := ⟨fun _ => rfl⟩
instance {α : Type} [Rp α] : Nd (Ls α) := ⟨fun _ => rfl⟩
instance {α β : Type} [Rp α] [Rp β] : Nd (α × β) := ⟨fun _ => rfl⟩
instance {α β γ : Type} [Rp α] [Rp β] [Rp γ] : Nd (T3 α β γ) := ⟨fun _ => rfl⟩
instance {α β γ δ : Type} [Rp α] [Rp β] [Rp γ] [Rp δ] : Nd (T4 α β γ δ) := ⟨fun _ => rfl⟩
instance {α β γ δ ε : Type} [Rp α] [Rp β] [Rp γ] [Rp δ] [Rp ε] : Nd (T5 α β γ δ ε) := ⟨fun _ => rfl⟩
/-- as it stands it is told apart -/
class Enc (α : Type) [Rp α] where
  dp : Nat
  lay : ∀ a : α, (Rp.enc a).canLay0 = true
  dpt : ∀ a : α, (Rp.enc a).depth ≤ dp
  eqv : ∀ a b : α, PyData.eqv (Rp.enc a) (Rp.enc b) = true ↔ a = b
theorem enc_eqv {α : Type} [Rp α] [Enc α] {a b : α} {d : Decidable (a = b)} : PyData.eqv (Rp.enc a) (Rp.enc b) = @decide (a = b) d := by
  have h := Enc.eqv a b
  generalize PyData.eqv (Rp.enc a) (Rp.enc b) = z at h
  cases z with
  | true => exact (decide_eq_true (h.mp rfl)).symm
  | false => exact (decide_eq_false (fun c => Bool.noConfusion (h.mpr c))).symm
/-- never None -/
class Nn (α : Type) [Rp α] : Prop where
  nn : ∀ a : α, isNonD (Rp.enc a) = false
/-- a plain thing without parts -/
class Fl (α : Type) [Rp α] : Prop where
  fl : ∀ a : α, flatD (Rp.enc a) = true
theorem dec_congr {p q : Prop} {d1 : Decidable p} {d2 : Decidable q} (h : p ↔ q) : @decide p d1 = @decide q d2 := by
  by_cases c : p
  · rw [decide_eq_true c, decide_eq_true (h.mp c)]
  · rw [decide_eq_false c, decide_eq_false (fun z => c (h.mpr z))]
instance : Enc Int := ⟨0, fun _ => rfl, fun _ => Nat.le_refl _, fun a b => by simp [Rp.enc, PyData.eqv]⟩
instance : Enc Bool := ⟨0, fun _ => rfl, fun _ => Nat.le_refl _, fun a b => by simp [Rp.enc, PyData.eqv]⟩
instance : Enc Unit := ⟨0, fun _ => rfl, fun _ => Nat.le_refl _, fun a b => by simp [Rp.enc, PyData.eqv]⟩
instance : Enc Empty := ⟨0, fun a => a.elim, fun a => a.elim, fun a => a.elim⟩
instance : Enc Sx := ⟨0, fun a => a.2, fun _ => Nat.le_refl _, fun a b => by
  show PyData.eqv (.str a.1) (.str b.1) = _ ↔ _
  unfold PyData.eqv
  rw [beq_iff_eq]
  exact ⟨fun e => Subtype.ext e, fun e => by rw [e]⟩⟩
theorem canLayAll_map {α : Type} [Rp α] (h : ∀ a : α, (Rp.enc a).canLay0 = true) : ∀ l : List α, PyData.canLayAll0 (l.map Rp.enc) = true
  | [] => rfl
  | a :: l => by rw [List.map_cons]; unfold PyData.canLayAll0; rw [h a, canLayAll_map h l]; rfl
theorem depthAll_map {α : Type} [Rp α] {n : Nat} (h : ∀ a : α, (Rp.enc a).depth ≤ n) : ∀ l : List α, PyData.depthAll (l.map Rp.enc) ≤ n
  | [] => Nat.zero_le _
  | a :: l => by rw [List.map_cons]; unfold PyData.depthAll; exact Nat.max_le.mpr ⟨h a, depthAll_map h l⟩
theorem eqvAll_map {α : Type} [Rp α] [Enc α] : ∀ l m : List α, PyData.eqvAll (l.map Rp.enc) (m.map Rp.enc) = true ↔ l = m
  | [], [] => by simp [PyData.eqvAll]
  | [], b :: m => by simp [PyData.eqvAll]
  | a :: l, [] => by simp [PyData.eqvAll]
  | a :: l, b :: m => by
    rw [List.map_cons, List.map_cons]; unfold PyData.eqvAll; rw [Bool.and_eq_true, Enc.eqv, eqvAll_map l m, List.cons.injEq]
instance {α : Type} [Rp α] [Enc α] : Enc (List α) := ⟨Enc.dp α + 1, fun l => by
    show PyData.canLay0 (.tuple _) = true
    unfold PyData.canLay0; exact canLayAll_map Enc.lay l, fun l => by
    show PyData.depth (.tuple _) ≤ _
    unfold PyData.depth; exact Nat.succ_le_succ (depthAll_map Enc.dpt l), fun a b => by
    show PyData.eqv (.tuple _) (.tuple _) = _ ↔ _
    unfold PyData.eqv; exact eqvAll_map a b⟩
instance {α : Type} [Rp α] [Enc α] : Enc (Ls α) := ⟨Enc.dp α + 1, fun l => by
    show PyData.canLay0 (.list _) = true
    unfold PyData.canLay0; exact canLayAll_map Enc.lay l.l, fun l => by
    show PyData.depth (.list _) ≤ _
    unfold PyData.depth; exact Nat.succ_le_succ (depthAll_map Enc.dpt l.l), fun a b => by
    show PyData.eqv (.list _) (.list _) = _ ↔ _
    unfold PyData.eqv; rw [eqvAll_map a.l b.l]; exact ⟨fun h => by cases a; cases b; cases h; rfl, fun h => by rw [h]⟩⟩
instance {α β : Type} [Rp α] [Rp β] [Enc α] [Enc β] : Enc (α × β) := ⟨max (Enc.dp α) (Enc.dp β) + 1, fun p => by
    show PyData.canLay0 (.tuple _) = true
    simp [PyData.canLay0, PyData.canLayAll0, Enc.lay], fun p => by
    have h1 := Enc.dpt p.1; have h2 := Enc.dpt p.2
    show PyData.depth (.tuple _) ≤ _
    simp only [PyData.depth, PyData.depthAll]; omega, fun a b => by
    show PyData.eqv (.tuple _) (.tuple _) = _ ↔ _
    simp only [PyData.eqv, PyData.eqvAll, Bool.and_true, Bool.and_eq_true, Enc.eqv]
    exact ⟨fun h => Prod.ext h.1 h.2, fun h => by rw [h]; exact ⟨rfl, rfl⟩⟩⟩
instance {α β γ : Type} [Rp α] [Rp β] [Rp γ] [Enc α] [Enc β] [Enc γ] : Enc (T3 α β γ) := ⟨max (Enc.dp α) (max (Enc.dp β) (Enc.dp γ)) + 1, fun p => by
    show PyData.canLay0 (.tuple _) = true
    simp [PyData.canLay0, PyData.canLayAll0, Enc.lay], fun p => by
    have h1 := Enc.dpt p.1; have h2 := Enc.dpt p.2; have h3 := Enc.dpt p.3
    show PyData.depth (.tuple _) ≤ _
    simp only [PyData.depth, PyData.depthAll]; omega, fun a b => by
    show PyData.eqv (.tuple _) (.tuple _) = _ ↔ _
    simp only [PyData.eqv, PyData.eqvAll, Bool.and_true, Bool.and_eq_true, Enc.eqv]
    exact ⟨fun h => by cases a; cases b; simp_all, fun h => by rw [h]; exact ⟨rfl, rfl, rfl⟩⟩⟩
instance {α β γ δ : Type} [Rp α] [Rp β] [Rp γ] [Rp δ] [Enc α] [Enc β] [Enc γ] [Enc δ] : Enc (T4 α β γ δ) := ⟨max (Enc.dp α) (max (Enc.dp β) (max (Enc.dp γ) (Enc.dp δ))) + 1, fun p => by
    show PyData.canLay0 (.tuple _) = true
    simp [PyData.canLay0, PyData.canLayAll0, Enc.lay], fun p => by
    have h1 := Enc.dpt p.1; have h2 := Enc.dpt p.2; have h3 := Enc.dpt p.3; have h4 := Enc.dpt p.4
    show PyData.depth (.tuple _) ≤ _
    simp only [PyData.depth, PyData.depthAll]; omega, fun a b => by
    show PyData.eqv (.tuple _) (.tuple _) = _ ↔ _
    simp only [PyData.eqv, PyData.eqvAll, Bool.and_true, Bool.and_eq_true, Enc.eqv]
    exact ⟨fun h => by cases a; cases b; simp_all, fun h => by rw [h]; exact ⟨rfl, rfl, rfl, rfl⟩⟩⟩
instance {α : Type} [Rp α] [Enc α] [Nn α] : Enc (Option α) := ⟨Enc.dp α, fun o => by cases o with | none => rfl | some a => exact Enc.lay a, fun o => by cases o with | none => exact Nat.zero_le _ | some a => exact Enc.dpt a, fun a b => by
    cases a with
    | none =>
      cases b with
      | none => simp [Rp.enc, PyData.eqv]
      | some b =>
        have h := Nn.nn b
        refine ⟨fun z => ?_, fun z => nomatch z⟩
        have z' : PyData.eqv .none (Rp.enc b) = true := z
        generalize Rp.enc b = y at h z'
        cases y <;> first | exact absurd h (by decide) | simp [PyData.eqv] at z'
    | some a =>
      cases b with
      | none =>
        have h := Nn.nn a
        refine ⟨fun z => ?_, fun z => nomatch z⟩
        have z' : PyData.eqv (Rp.enc a) .none = true := z
        generalize Rp.enc a = y at h z'
        cases y <;> first | exact absurd h (by decide) | simp [PyData.eqv] at z'
      | some b => exact (Enc.eqv a b).trans ⟨fun h => by rw [h], fun h => by cases h; rfl⟩⟩
instance : Nn Int := ⟨fun _ => rfl⟩
instance : Nn Bool := ⟨fun _ => rfl⟩
instance : Nn Sx := ⟨fun _ => rfl⟩
instance : Nn Empty := ⟨fun e => e.elim⟩
instance {α : Type} [Rp α] : Nn (List α) := ⟨fun _ => rfl⟩
instance {α : Type} [Rp α] : Nn (Ls α) := ⟨fun _ => rfl⟩
instance {α β : Type} [Rp α] [Rp β] : Nn (α × β) := ⟨fun _ => rfl⟩
instance {α β γ : Type} [Rp α] [Rp β] [Rp γ] : Nn (T3 α β γ) := ⟨fun _ => rfl⟩
instance {α β γ δ : Type} [Rp α] [Rp β] [Rp γ] [Rp δ] : Nn (T4 α β γ δ) := ⟨fun _ => rfl⟩
instance {α β γ δ ε : Type} [Rp α] [Rp β] [Rp γ] [Rp δ] [Rp ε] : Nn (T5 α β γ δ ε) := ⟨fun _ => rfl⟩
instance : Fl Int := ⟨fun _ => rfl⟩
instance : Fl Bool := ⟨fun _ => rfl⟩
instance : Fl Sx := ⟨fun _ => rfl⟩
instance : Fl Unit := ⟨fun _ => rfl⟩
instance : Fl Empty := ⟨fun e => e.elim⟩
instance {α : Type} [Rp α] [Fl α] : Fl (Option α) := ⟨fun o => by cases o with | none => rfl | some a => exact Fl.fl a⟩
theorem shaped_en {α : Type} [Rp α] [Enc α] (a : α) (h : Enc.dp α ≤ 64) : SeqAt.shaped (en a) = true := by
  unfold SeqAt.shaped
  rw [Enc.lay a, Bool.true_and]
  exact decide_eq_true (Nat.le_trans (Enc.dpt a) h)
/-! keys of dicts -/
class Ky (α : Type) [Rp α] where
  ky : α → Key ⊕ NestedKey
  kd : Bool
  kx : ∀ a : α, Pl.kx (Rp.enc a) = some (ky a)
  inj : ∀ a b : α, ky a = ky b → a = b
  kk : ∀ a : α, kinK (ky a) = kd
instance : Ky Int := ⟨fun i => .inl (.inl i), false, fun _ => rfl, fun a b h => by cases h; rfl, fun _ => rfl⟩
instance : Ky Sx := ⟨fun s => .inl (.inr s.1), false, fun _ => rfl, fun a b h => Subtype.ext (by cases a; cases b; cases h; rfl), fun _ => rfl⟩
/-- of whole numbers and tuples of such, to depth n -/
class Nk (n : Nat) (α : Type) [Rp α] where
  k : α → NestedKey
  kx : ∀ a : α, nkD (Rp.enc a) = some (k a)
  inj : ∀ a b : α, k a = k b → a = b
  le : ∀ a : α, (k a).depth ≤ n
instance {n : Nat} : Nk n Int := ⟨.num, fun _ => by simp [Rp.enc, nkD], fun a b h => by cases h; rfl, fun _ => by simp [NestedKey.depth]⟩
instance {n : Nat} : Nk n (Option Int) := ⟨fun o => match o with | some i => .num i | none => .none, fun o => by cases o <;> simp [Rp.enc, nkD], fun a b h => (by cases a <;> cases b <;> first | rfl | (cases h; rfl) | cases h), fun o => by cases o <;> simp [NestedKey.depth]⟩
theorem nksD_enc {n : Nat} {α : Type} [Rp α] [Nk n α] : ∀ l : List α, nksD (l.map Rp.enc) = some (l.map (Nk.k n))
  | [] => by simp [nksD]
  | a :: l => by
    rw [List.map_cons]
    unfold nksD
    rw [Nk.kx (n := n) a, nksD_enc (n := n) l]
    rfl
theorem nk_map_inj {n : Nat} {α : Type} [Rp α] [Nk n α] : ∀ l m : List α, l.map (Nk.k n) = m.map (Nk.k n) → l = m
  | [], [], _ => rfl
  | [], _ :: _, h => by simp at h
  | _ :: _, [], h => by simp at h
  | a :: l, b :: m, h => by
    rw [List.map_cons, List.map_cons, List.cons.injEq] at h
    rw [Nk.inj (n := n) a b h.1, nk_map_inj (n := n) l m h.2]
theorem nk_le {n : Nat} {α : Type} [Rp α] [Nk n α] : ∀ l : List α, NestedKey.depthAll (l.map (Nk.k n)) ≤ n
  | [] => by simp [NestedKey.depthAll]
  | a :: l => by
    rw [List.map_cons, NestedKey.depthAll]
    exact Nat.max_le.mpr ⟨Nk.le (n := n) a, nk_le (n := n) l⟩
instance {n : Nat} {α : Type} [Rp α] [Nk n α] : Nk (n + 1) (List α) := ⟨fun l => .tup (l.map (Nk.k n)), fun l => by
    show nkD (.tuple (l.map Rp.enc)) = _
    unfold nkD
    rw [nksD_enc (n := n)]; rfl, fun a b h => nk_map_inj (n := n) a b (by injection h), fun l => by
    rw [NestedKey.depth]
    exact Nat.succ_le_succ (nk_le (n := n) l)⟩
instance {n : Nat} {α β : Type} [Rp α] [Rp β] [Nk n α] [Nk n β] : Nk (n + 1) (α × β) := ⟨fun p => .tup [Nk.k n p.1, Nk.k n p.2], fun p => by
    show nkD (.tuple [Rp.enc p.1, Rp.enc p.2]) = _
    simp [nkD, nksD, Nk.kx (n := n) p.1, Nk.kx (n := n) p.2], fun a b h => by
    injection h with h
    simp at h
    exact Prod.ext (Nk.inj (n := n) _ _ h.1) (Nk.inj (n := n) _ _ h.2), fun p => by
    simp only [NestedKey.depth, NestedKey.depthAll]
    have h1 := Nk.le (n := n) p.1
    have h2 := Nk.le (n := n) p.2
    omega⟩
instance {n : Nat} {α β γ : Type} [Rp α] [Rp β] [Rp γ] [Nk n α] [Nk n β] [Nk n γ] : Nk (n + 1) (T3 α β γ) := ⟨fun p => .tup [Nk.k n p.a, Nk.k n p.b, Nk.k n p.c], fun p => by
    show nkD (.tuple [Rp.enc p.a, Rp.enc p.b, Rp.enc p.c]) = _
    simp [nkD, nksD, Nk.kx (n := n) p.a, Nk.kx (n := n) p.b, Nk.kx (n := n) p.c], fun a b h => by
    injection h with h
    simp at h
    obtain ⟨a1, a2, a3⟩ := a
    obtain ⟨b1, b2, b3⟩ := b
    cases Nk.inj (n := n) _ _ h.1
    cases Nk.inj (n := n) _ _ h.2.1
    cases Nk.inj (n := n) _ _ h.2.2
    rfl, fun p => by
    simp only [NestedKey.depth, NestedKey.depthAll]
    have h1 := Nk.le (n := n) p.a
    have h2 := Nk.le (n := n) p.b
    have h3 := Nk.le (n := n) p.c
    omega⟩
theorem kx_nk {ds : List D} {ks : List NestedKey} (h : nkD (.tuple ds) = some (.tup ks)) (hd : (NestedKey.tup ks).depth ≤ 8) : Pl.kx (.tuple ds) = some (.inr (.tup ks)) := by
  unfold nkD at h
  obtain ⟨ks', e1, e2⟩ := Option.map_eq_some_iff.mp h
  cases e2
  unfold Pl.kx
  dsimp only
  rw [e1]
  dsimp only
  rw [if_pos hd]
instance {α : Type} [Rp α] [Nk 3 α] : Ky (List α) := ⟨fun l => .inr (Nk.k 4 l), true, fun l => kx_nk (Nk.kx (n := 4) l) (Nat.le_trans (Nk.le (n := 4) l) (by decide)), fun a b h => Nk.inj (n := 4) a b (by injection h), fun _ => rfl⟩
instance {α β : Type} [Rp α] [Rp β] [Nk 3 α] [Nk 3 β] : Ky (α × β) := ⟨fun l => .inr (Nk.k 4 l), true, fun l => kx_nk (Nk.kx (n := 4) l) (Nat.le_trans (Nk.le (n := 4) l) (by decide)), fun a b h => Nk.inj (n := 4) a b (by injection h), fun _ => rfl⟩
instance {α β γ : Type} [Rp α] [Rp β] [Rp γ] [Nk 3 α] [Nk 3 β] [Nk 3 γ] : Ky (T3 α β γ) := ⟨fun l => .inr (Nk.k 4 l), true, fun l => kx_nk (Nk.kx (n := 4) l) (Nat.le_trans (Nk.le (n := 4) l) (by decide)), fun a b h => Nk.inj (n := 4) a b (by injection h), fun _ => rfl⟩
end Pl

namespace Pl
open PySem L2 PySem.Spec PyProof.Rows
/-! binds -/
theorem ob {α β : Type} {x : Option α} {f : α → Option β} {r : β} (h : x.bind f = some r) : ∃ a, x = some a ∧ f a = some r := Option.bind_eq_some_iff.mp h
theorem ite_so {α : Type} {c : Bool} {x y : Option α} {r : α} (h : (if c = true then x else y) = some r) : (c = true ∧ x = some r) ∨ (c = false ∧ y = some r) := by
  cases c with
  | true => exact .inl ⟨rfl, h⟩
  | false => exact .inr ⟨rfl, h⟩
/-! goals -/
def Go (Q : RS → Prop) (rs : RS) : Prop := Q rs
def SeqQ (Q : RS → Prop) (rest : SS) (rs : RS) : Prop := Q (seqR rs rest)
def FgQ (Q : RS → Prop) (is : List Nat) (rs : RS) : Prop := Q (fgR is rs)
section
variable {Q : RS → Prop} {a b f g rest : SS} {S S1 : Sg} {rs : RS} {t : ST}
theorem q_seq (h : a S = .nx S1) (k : Go Q (b S1)) : Go Q (seqS a b S) := by unfold seqS; rw [h]; exact k
theorem q_end (h : a S = .nx S1) (k : Q (.nx S1)) : Go Q (a S) := by unfold Go; rw [h]; exact k
theorem q_to (h : a S = rs) (k : Q rs) : Go Q (a S) := by unfold Go; rw [h]; exact k
theorem q_of (k : Go Q (a S)) : Q (a S) := k
theorem q_if_t (h : t S = .ok true S1) (k : Go Q (f S1)) : Go Q (ifS t f g S) := by unfold ifS Go; rw [h]; exact k
theorem q_if_f (h : t S = .ok false S1) (k : Go Q (g S1)) : Go Q (ifS t f g S) := by unfold ifS Go; rw [h]; exact k
theorem q_sif_t (h : t S = .ok true S1) (k : Go (SeqQ Q rest) (f S1)) : Go Q (seqS (ifS t f g) rest S) := by unfold seqS ifS Go; rw [h]; exact k
theorem q_sif_f (h : t S = .ok false S1) (k : Go (SeqQ Q rest) (g S1)) : Go Q (seqS (ifS t f g) rest S) := by unfold seqS ifS Go; rw [h]; exact k
theorem q_fg {is : List Nat} (k : Go (FgQ Q is) (a S)) : Go Q (fgS is a S) := k
theorem q_pass (k : Q (.nx S)) : Go Q (passS S) := k
theorem q_brk (k : Q (.bk S)) : Go Q (brkS S) := k
theorem q_cnt (k : Q (.ct S)) : Go Q (cntS S) := k
theorem q_ret {e : SE} {o : Bool} {u : U} (h : e S = .ok o u S1) (k : Q (.rt o u S1)) : Go Q (retS e S) := by unfold retS Go; rw [h]; exact k
theorem q_retN (k : Q (.rt false (.dat .none) S)) : Go Q (retN S) := k
theorem q_srt {o : Bool} {u : U} (h : a S = .rt o u S1) (k : Q (.rt o u S1)) : Go Q (seqS a b S) := by unfold seqS Go; rw [h]; exact k
theorem q_srt_e {ks : List Bool} {o : Bool} {u : U} {outs : List Sl} (h : ∃ st, a S = .rt o u st ∧ maskSl ks st = outs) (k : ∀ st, maskSl ks st = outs → Q (.rt o u st)) : Go Q (seqS a b S) := by
  obtain ⟨st, e, m⟩ := h
  unfold seqS Go; rw [e]; exact k st m
theorem q_to_e {ks : List Bool} {o : Bool} {u : U} {outs : List Sl} (h : ∃ st, a S = .rt o u st ∧ maskSl ks st = outs) (k : ∀ st, maskSl ks st = outs → Q (.rt o u st)) : Go Q (a S) := by
  obtain ⟨st, e, m⟩ := h
  unfold Go; rw [e]; exact k st m
theorem q_srt' {e : SE} {o : Bool} {u : U} (h : e S = .ok o u S1) (k : Q (.rt o u S1)) : Go Q (seqS (retS e) b S) := by unfold seqS retS Go; rw [h]; exact k
theorem q_end_k (h : a S = .nx S1) (k : Go Q (rest S1)) : Go (SeqQ Q rest) (a S) := by unfold Go; rw [h]; exact k
theorem q_pass_k (k : Go Q (rest S)) : Go (SeqQ Q rest) (passS S) := k
theorem j_if {α : Type} {c : Bool} {x y : Option α} {r : α} {Sj : Sg} (hp : (if c = true then x else y) = some r) (ht : t S = .ok c S1) (k1 : c = true → x = some r → Go (fun rs => rs = .nx Sj) (f S1)) (k2 : c = false → y = some r → Go (fun rs => rs = .nx Sj) (g S1)) : ifS t f g S = .nx Sj := by
  unfold ifS
  rw [ht]
  cases c with
  | true => exact k1 rfl hp
  | false => exact k2 rfl hp
theorem fz_ow {i : Nat} {u : U} (h : f S = .nx S1) (e : S1[i]? = some (.ow u)) (hf : frzU u = true) : fzS i f S = .nx (S1.set i (.ps u)) := by unfold fzS; rw [h]; unfold fzR; dsimp only; rw [e]; dsimp only; rw [if_pos hf]
theorem pf_ow {i : Nat} {u : U} {rs : RS} (e : S[i]? = some (.ow u)) (hf : frzU u = true) (h : f (S.set i (.ps u)) = rs) : pfS i f S = rs := by unfold pfS; rw [e]; dsimp only; rw [if_pos hf]; exact h
theorem fz_ps {i : Nat} {u : U} (h : f S = .nx S1) (e : S1[i]? = some (.ps u)) : fzS i f S = .nx S1 := by unfold fzS; rw [h]; unfold fzR; dsimp only; rw [e]
theorem go_nx {S' : Sg} (k : Go (fun rs => rs = .nx S') (a S)) : a S = .nx S' := k
end
/-- what a return leaves -/
def RtG (ks : List Bool) (o : Bool) (u : U) (outs : List Sl) (rs : RS) : Prop := ∃ st, rs = .rt o u st ∧ maskSl ks st = outs
theorem RtG.body {ks : List Bool} {o : Bool} {u : U} {outs : List Sl} {rs : RS} (h : RtG ks o u outs rs) : bodyR ks rs = .ret o u outs := by
  obtain ⟨st, e, m⟩ := h
  subst e
  subst m
  rfl
/-! statements -/
section
variable {S S1 S2 : Sg} {f g : SE} {o : Bool} {u : U} {d : D} {i j : Nat}
theorem asg (h : f S = .ok false u S1) (hf : free S1 i = true) : asgS i f S = .nx (S1.set i (.ps u)) := by unfold asgS; rw [h]; unfold asgR; dsimp only; rw [if_pos hf]; rfl
theorem asgO (h : f S = .ok true u S1) (hf : free S1 i = true) : asgS i f S = .nx (S1.set i (.ow u)) := by unfold asgS; rw [h]; unfold asgR; dsimp only; rw [if_pos hf]; rfl
theorem frz (h : f S = .ok true u S1) (hf : frzU u = true) : frzE f S = .ok false u S1 := by unfold frzE; rw [h]; unfold frzR; dsimp only; rw [if_pos hf]
theorem frz0 (h : f S = .ok false u S1) : frzE f S = .ok false u S1 := by unfold frzE; rw [h]; rfl
theorem drop_ok (h : f S = .ok o u S1) : dropS f S = .nx S1 := by unfold dropS; rw [h]; rfl
theorem evc {d' : D} (h : f S = .ok o (.dat d) S1) (e : d = d') : f S = .ok o (.dat d') S1 := by rw [h, e]
theorem evS (h : f S = .ok o u S1) (e : S1 = S2) : f S = .ok o u S2 := by rw [h, e]
theorem tvS {t : ST} {b : Bool} (h : t S = .ok b S1) (e : S1 = S2) : t S = .ok b S2 := by rw [h, e]
theorem unp {t : Tg} (h : f S = .ok false (.dat d) S1) (k : t.set d S1 = some S2) : unpS t f S = .nx S2 := by unfold unpS; rw [h]; dsimp only; rw [if_neg (by decide), k]
theorem par2 {o2 : Bool} {u2 : U} (h : f S = .ok o u S1) (k : g S1 = .ok o2 u2 S2) (hf : (free S2 i && free S2 j && i != j) = true) : par2S i j f g S = .nx ((S2.set j (sl o2 u2)).set i (sl o u)) := by
  unfold par2S; rw [h]; dsimp only; rw [k]; dsimp only; rw [if_pos hf]
theorem par3 {l : Nat} {k : SE} {S3 : Sg} {o2 o3 : Bool} {u2 u3 : U} (h : f S = .ok o u S1) (h2 : g S1 = .ok o2 u2 S2) (h3 : k S2 = .ok o3 u3 S3) (hf : (free S3 i && free S3 j && free S3 l && i != j && i != l && j != l) = true) :
    par3S i j l f g k S = .nx (((S3.set l (sl o3 u3)).set j (sl o2 u2)).set i (sl o u)) := by
  unfold par3S; rw [h]; dsimp only; rw [h2]; dsimp only; rw [h3]; dsimp only; rw [if_pos hf]
/-! operands -/
inductive OpsEv : List Opn → Sg → List Acc → Sg → Prop
  | nil {S : Sg} : OpsEv [] S [] S
  | rd {i : Nat} {os : List Opn} {S S' : Sg} {as : List Acc} {u : U} (h : (S[i]?).bind Sl.val = some u) (t : OpsEv os S as S') : OpsEv (.rd i :: os) S (.inl i :: as) S'
  | ev {f : SE} {o : Bool} {u : U} {os : List Opn} {S S1 S' : Sg} {as : List Acc} (h : f S = .ok o u S1) (hz : o = true → frzU u = true) (t : OpsEv os S1 as S') : OpsEv (.ev f :: os) S (.inr u :: as) S'
theorem OpsEv.v {f : SE} {u : U} {os : List Opn} {S S1 S' : Sg} {as : List Acc} (h : f S = .ok false u S1) (t : OpsEv os S1 as S') : OpsEv (.ev f :: os) S (.inr u :: as) S' := .ev h (fun z => nomatch z) t
theorem OpsEv.w {f : SE} {u : U} {os : List Opn} {S S1 S' : Sg} {as : List Acc} (h : f S = .ok true u S1) (hz : frzU u = true) (t : OpsEv os S1 as S') : OpsEv (.ev f :: os) S (.inr u :: as) S' := .ev h (fun _ => hz) t
theorem evN_eq {k : List Acc → Sg → RE} : ∀ {os : List Opn} {S S' : Sg} {as acc : List Acc}, OpsEv os S as S' → evN os acc k S = k (acc ++ as) S'
  | _, _, _, _, acc, .nil => by rw [List.append_nil]; rfl
  | _, _, _, _, acc, .rd h t => by
    unfold evN evO
    dsimp only
    rw [h]
    dsimp only
    rw [evN_eq t, List.append_assoc]; rfl
  | _, _, _, _, acc, .ev (o := o) h hz t => by
    unfold evN evO
    dsimp only
    rw [h]
    cases o with
    | false => dsimp only; rw [evN_eq t, List.append_assoc]; rfl
    | true => dsimp only; rw [if_pos (hz rfl), evN_eq t, List.append_assoc]; rfl
theorem evA_eq : ∀ {os : List Opn} {S S' : Sg} {as acc : List Acc}, OpsEv os S as S' → evA os acc S = .ok (acc ++ as) S'
  | _, _, _, _, acc, .nil => by rw [List.append_nil]; rfl
  | _, _, _, _, acc, .rd h t => by
    unfold evA
    rw [h]
    dsimp only
    rw [evA_eq t, List.append_assoc]; rfl
  | _, _, _, _, acc, .ev (o := o) h hz t => by
    unfold evA
    rw [h]
    cases o with
    | false => simp only [Bool.false_and]; rw [if_neg (by decide), evA_eq t, List.append_assoc]; rfl
    | true => simp only [hz rfl]; rw [if_neg (by decide), evA_eq t, List.append_assoc]; rfl
theorem xq2 {a b : Opn} {as : List Acc} {u w : U} {k : U → U → Sg → RE} {R : RE} (p : OpsEv [a, b] S as S1) (q : fetchAll S1 as = some [u, w]) (r : k u w S1 = R) : ev2 a b k S = R := by
  unfold ev2
  rw [evN_eq p, List.nil_append]
  cases as with
  | nil => cases q
  | cons x as =>
    cases as with
    | nil => cases p with | rd _ t => cases t | ev _ _ t => cases t
    | cons y as =>
      cases as with
      | cons z as => exfalso; cases p with | rd _ t => (cases t with | rd _ t => cases t | ev _ _ t => cases t) | ev _ _ t => (cases t with | rd _ t => cases t | ev _ _ t => cases t)
      | nil =>
        dsimp only
        unfold fetchAll at q
        obtain ⟨u1, e1, q⟩ := ob q
        rw [Option.map_eq_some_iff] at q
        obtain ⟨us, e2, e3⟩ := q
        unfold fetchAll at e2
        obtain ⟨u2, e4, e5⟩ := ob e2
        rw [e1, e4]
        dsimp only
        unfold fetchAll at e5
        cases e5
        cases e3
        exact r
theorem xq1 {a : Opn} {as : List Acc} {u : U} {k : U → Sg → RE} {R : RE} (p : OpsEv [a] S as S1) (q : fetchAll S1 as = some [u]) (r : k u S1 = R) : ev1 a k S = R := by
  unfold ev1
  rw [evN_eq p, List.nil_append]
  cases as with
  | nil => cases q
  | cons x as =>
    cases as with
    | cons z as => exfalso; cases p with | rd _ t => cases t | ev _ _ t => cases t
    | nil =>
      dsimp only
      unfold fetchAll at q
      obtain ⟨u1, e1, q⟩ := ob q
      rw [e1]
      unfold fetchAll at q
      cases q
      exact r
theorem xqb {os : List Opn} {as : List Acc} {us : List U} {k : List U → Sg → RE} {R : RE} (p : OpsEv os S as S1) (q : fetchAll S1 as = some us) (r : k us S1 = R) : biE os k S = R := by
  unfold biE
  rw [evA_eq p, List.nil_append]
  dsimp only
  rw [q]
  exact r
theorem len_le {α : Type} {l : List α} {n : Nat} (h : l.length = n) (k : n ≤ LINE) : l.length ≤ LINE := by rw [h]; exact k
/-! names, constants -/
theorem v_ps (h : S[i]? = some (.ps u)) : varE i S = .ok false u S := by unfold varE; rw [h]
theorem v_ow (h : S[i]? = some (.ow u)) (hf : frzU u = true) : varE i S = .ok false u (S.set i (.ps u)) := by unfold varE; rw [h]; dsimp only; rw [if_pos hf]
theorem m_ps (h : S[i]? = some (.ps u)) : movE i S = .ok false u S := by unfold movE; rw [h]
theorem m_ow (h : S[i]? = some (.ow u)) : movE i S = .ok true u (S.set i .no) := by unfold movE; rw [h]
theorem c_int {n : Int} : intE n S = .ok false (.dat (en n)) S := rfl
theorem c_bl {b : Bool} : blE b S = .ok false (.dat (en b)) S := rfl
theorem c_str {s : Sx} : strE s.1 S = .ok false (.dat (en s)) S := rfl
theorem c_non : nonE S = .ok false (.dat (en ())) S := rfl
end
/-! arithmetic -/
def mulO (i j : Int) : Option Int := if i.natAbs.log2 + j.natAbs.log2 < 1000000 then some (i * j) else none
def fdivO (i j : Int) : Option Int := if 0 < j ∧ j.natAbs.log2 < 9000 then some (i / j) else none
def modO (i j : Int) : Option Int := if 0 < j then some (i % j) else none
def powO (i j : Int) : Option Int := if 0 ≤ j ∧ j ≤ 1000000 ∧ i.natAbs < 2 ^ 64 then some (i ^ j.toNat) else none
def catO {α : Type} (a b : List α) : Option (List α) := if a.length + b.length ≤ LINE then some (a ++ b) else none
theorem ifso {α : Type} {p : Prop} [Decidable p] {x y : α} (h : (if p then some x else none) = some y) : p ∧ x = y := by
  split at h
  · exact ⟨by assumption, by cases h; rfl⟩
  · cases h
section
variable {S S1 S2 : Sg} {i j : Int} {r : Int}
theorem a_add : addU (.dat (en i)) (.dat (en j)) S = .ok false (.dat (en (i + j))) S := rfl
theorem a_sub : subU (.dat (en i)) (.dat (en j)) S = .ok false (.dat (en (i - j))) S := rfl
theorem a_neg : negU (.dat (en i)) S = .ok false (.dat (en (-i))) S := rfl
theorem a_mul (h : mulO i j = some r) : mulU (.dat (en i)) (.dat (en j)) S = .ok false (.dat (en r)) S := by
  obtain ⟨p, e⟩ := ifso h
  subst e
  show (if decide (i.natAbs.log2 + j.natAbs.log2 < 1000000) = true then _ else _) = _
  rw [if_pos (decide_eq_true p)]; rfl
theorem a_fdiv (h : fdivO i j = some r) : fdivU (.dat (en i)) (.dat (en j)) S = .ok false (.dat (en r)) S := by
  obtain ⟨p, e⟩ := ifso h
  subst e
  show (if decide (0 < j ∧ j.natAbs.log2 < 9000) = true then _ else _) = _
  rw [if_pos (decide_eq_true p)]; rfl
theorem a_mod (h : modO i j = some r) : modU (.dat (en i)) (.dat (en j)) S = .ok false (.dat (en r)) S := by
  obtain ⟨p, e⟩ := ifso h
  subst e
  show (if decide (0 < j) = true then _ else _) = _
  rw [if_pos (decide_eq_true p)]; rfl
theorem a_pow (h : powO i j = some r) : powU (.dat (en i)) (.dat (en j)) S = .ok false (.dat (en r)) S := by
  obtain ⟨p, e⟩ := ifso h
  subst e
  show (if decide (0 ≤ j ∧ j ≤ 1000000 ∧ i.natAbs < 2 ^ 64) = true then _ else _) = _
  rw [if_pos (decide_eq_true p)]; rfl
theorem a_cat {α : Type} [Rp α] {a b c : List α} (h : catO a b = some c) : addU (.dat (en a)) (.dat (en b)) S = .ok false (.dat (en c)) S := by
  obtain ⟨p, e⟩ := ifso h
  subst e
  show (if (a.map Rp.enc).length + (b.map Rp.enc).length ≤ LINE then _ else _) = _
  rw [List.length_map, List.length_map, if_pos p, ← List.map_append]; rfl
theorem a_catL {α : Type} [Rp α] {a b c : List α} (h : catO a b = some c) : addU (.dat (en (Ls.mk a))) (.dat (en (Ls.mk b))) S = .ok true (.dat (en (Ls.mk c))) S := by
  obtain ⟨p, e⟩ := ifso h
  subst e
  show (if (a.map Rp.enc).length + (b.map Rp.enc).length ≤ LINE then _ else _) = _
  rw [List.length_map, List.length_map, if_pos p, ← List.map_append]; rfl
theorem u2c {k : U → U → Sg → RE} {d1 d2 e1 e2 : D} {R : RE} (h1 : d1 = e1) (h2 : d2 = e2) (h : k (.dat e1) (.dat e2) S = R) : k (.dat d1) (.dat d2) S = R := by rw [h1, h2]; exact h
theorem u1c {k : U → Sg → RE} {d1 e1 : D} {R : RE} (h1 : d1 = e1) (h : k (.dat e1) S = R) : k (.dat d1) S = R := by rw [h1]; exact h
/-! comparing -/
theorem lB {k : U → U → Option Bool} {u w : U} {b : Bool} (h : k u w = some b) : liftB k u w S = .ok false (.dat (en b)) S := by unfold liftB; rw [h]; rfl
theorem b_lt : ltB (.dat (en i)) (.dat (en j)) = some (decide (i < j)) := rfl
theorem b_le : leB (.dat (en i)) (.dat (en j)) = some (decide (i ≤ j)) := rfl
theorem b_gt : gtB (.dat (en i)) (.dat (en j)) = some (decide (j < i)) := rfl
theorem b_ge : geB (.dat (en i)) (.dat (en j)) = some (decide (j ≤ i)) := rfl
theorem b_eq {α : Type} [Rp α] [Enc α] {x y : α} [dq : Decidable (x = y)] (h : Enc.dp α ≤ 64) : eqB (.dat (en x)) (.dat (en y)) = some (@decide (x = y) dq) := by
  unfold eqB
  dsimp only
  rw [shaped_en x h, shaped_en y h, ← enc_eqv]; rfl
theorem b_ne {α : Type} [Rp α] [Enc α] {x y : α} [dq : Decidable (x = y)] (h : Enc.dp α ≤ 64) : neB (.dat (en x)) (.dat (en y)) = some (!@decide (x = y) dq) := by
  unfold neB; rw [b_eq (dq := dq) h]; rfl
/-- whether a list is empty -/
def nilO {α : Type} [Rp α] (l : List α) : Option Bool := if SeqAt.shaped (en (Ls.mk l)) = true then some l.isEmpty else none
theorem eqv_nilR {ds : List D} : PyData.eqv (.list ds) (.list []) = ds.isEmpty := by cases ds <;> simp [PyData.eqv, PyData.eqvAll]
theorem b_nil {α : Type} [Rp α] {l : List α} {b : Bool} (h : nilO l = some b) : eqB (.dat (en (Ls.mk l))) (.dat (en (Ls.mk ([] : List α)))) = some b := by
  obtain ⟨p, e⟩ := ifso h
  subst e
  show (if SeqAt.shaped (en (Ls.mk l)) && SeqAt.shaped (.list []) then some (PyData.eqv (.list (l.map Rp.enc)) (.list [])) else none) = _
  rw [p, eqv_nilR, show SeqAt.shaped (.list []) = true by decide, List.isEmpty_map]; rfl
theorem b_nnil {α : Type} [Rp α] {l : List α} {b : Bool} (h : nilO l = some b) : neB (.dat (en (Ls.mk l))) (.dat (en (Ls.mk ([] : List α)))) = some (!b) := by unfold neB; rw [b_nil h]; rfl
theorem nilO_eq {α : Type} [Rp α] [Enc α] (l : List α) (h : Enc.dp α + 1 ≤ 64) : nilO l = some l.isEmpty := by unfold nilO; rw [if_pos (shaped_en (Ls.mk l) h)]
/-- equality of any two things -/
def eqO (x y : D) : Option Bool := if SeqAt.shaped x = true ∧ SeqAt.shaped y = true then some (PyData.eqv x y) else none
theorem b_eqD {x y : D} {b : Bool} (h : eqO x y = some b) : eqB (.dat (en x)) (.dat (en y)) = some b := by
  obtain ⟨⟨p, q⟩, e⟩ := ifso h
  subst e
  show (if SeqAt.shaped x && SeqAt.shaped y then _ else _) = _
  rw [p, q]; rfl
theorem b_neD {x y : D} {b : Bool} (h : eqO x y = some b) : neB (.dat (en x)) (.dat (en y)) = some (!b) := by unfold neB; rw [b_eqD h]; rfl
theorem b_isN {d : D} : isB (.dat d) (.dat (en ())) = some (isNonD d) := rfl
theorem b_isB {d : D} {b : Bool} : isB (.dat d) (.dat (en b)) = some (isBlD b d) := rfl
theorem b_isnN {d : D} : isNotB (.dat d) (.dat (en ())) = some (!isNonD d) := rfl
theorem b_isnB {d : D} {b : Bool} : isNotB (.dat d) (.dat (en b)) = some (!isBlD b d) := rfl
theorem isNon_opt {α : Type} [Rp α] [Nn α] (o : Option α) : isNonD (en o) = o.isNone := by
  cases o with
  | none => rfl
  | some a => exact Nn.nn a
theorem b_isO {α : Type} [Rp α] [Nn α] {o : Option α} : isB (.dat (en o)) (.dat (en ())) = some o.isNone := by rw [b_isN, isNon_opt]
theorem b_isnO {α : Type} [Rp α] [Nn α] {o : Option α} : isNotB (.dat (en o)) (.dat (en ())) = some o.isSome := by rw [b_isnN, isNon_opt]; cases o <;> rfl
theorem any_mem {α : Type} [Rp α] [Enc α] {x : α} {l : List α} {dq : Decidable (x ∈ l)} : ((l.map Rp.enc).any fun z => PyData.eqv z (en x)) = @decide (x ∈ l) dq := by
  have key : ((l.map Rp.enc).any fun z => PyData.eqv z (en x)) = true ↔ x ∈ l := by
    rw [List.any_map, List.any_eq_true]
    constructor
    · rintro ⟨y, h1, h2⟩
      have : y = x := (Enc.eqv y x).mp h2
      rw [← this]; exact h1
    · intro h
      exact ⟨x, h, (Enc.eqv x x).mpr rfl⟩
  generalize ((l.map Rp.enc).any fun z => PyData.eqv z (en x)) = b at key
  cases b with
  | true => exact (decide_eq_true (key.mp rfl)).symm
  | false => exact (decide_eq_false (fun z => Bool.noConfusion (key.mpr z))).symm
theorem b_inT {α : Type} [Rp α] [Enc α] [Fl α] {x : α} {l : List α} [dq : Decidable (x ∈ l)] : inX (.dat (en x)) (.dat (en l)) = some (@decide (x ∈ l) dq) := by
  show (if flatD (Rp.enc x) && (l.map Rp.enc).all flatD then some ((l.map Rp.enc).any fun z => PyData.eqv z (en x)) else none) = _
  have h : (l.map Rp.enc).all flatD = true := by rw [List.all_map, List.all_eq_true]; exact fun y _ => Fl.fl y
  rw [Fl.fl, h, any_mem]; rfl
theorem b_inL {α : Type} [Rp α] [Enc α] {x : α} {l : List α} [dq : Decidable (x ∈ l)] (h1 : Enc.dp α + 1 ≤ 64) : inX (.dat (en x)) (.dat (en (Ls.mk l))) = some (@decide (x ∈ l) dq) := by
  show (if SeqAt.shaped (en x) && SeqAt.shaped (en (Ls.mk l)) then some ((l.map Rp.enc).any fun z => PyData.eqv z (en x)) else none) = _
  rw [shaped_en x (by omega), shaped_en (Ls.mk l) h1, any_mem]; rfl
theorem b_notin {u w : U} {b : Bool} (h : inX u w = some b) : notInX u w = some (!b) := by unfold notInX; rw [h]; rfl
theorem k2c {k : U → U → Option Bool} {d1 d2 e1 e2 : D} {R : Option Bool} (h1 : d1 = e1) (h2 : d2 = e2) (h : k (.dat e1) (.dat e2) = R) : k (.dat d1) (.dat d2) = R := by rw [h1, h2]; exact h
/-! tests -/
theorem tst_ok {f : SE} {o : Bool} {b : Bool} (h : f S = .ok o (.dat (en b)) S1) : tst f S = .ok b S1 := by unfold tst; rw [h]; rfl
theorem tc {t : ST} {c b : Bool} (h : t S = .ok c S1) (e : c = b) : t S = .ok b S1 := by rw [h, e]
theorem t_not {t : ST} {b : Bool} (h : t S = .ok b S1) : notT t S = .ok (!b) S1 := by unfold notT; rw [h]; cases b <;> rfl
theorem t_and {t t' : ST} {b c : Bool} (h : t S = .ok b S1) (k : b = true → t' S1 = .ok c S1) : andT t t' S = .ok (b && c) S1 := by
  unfold andT; rw [h]; cases b with
  | true => exact k rfl
  | false => rfl
theorem t_or {t t' : ST} {b c : Bool} (h : t S = .ok b S1) (k : b = false → t' S1 = .ok c S1) : orT t t' S = .ok (b || c) S1 := by
  unfold orT; rw [h]; cases b with
  | true => rfl
  | false => exact k rfl
theorem t_and1 {t t' : ST} {R : RT} (h : t S = .ok true S1) (k : t' S1 = R) : andT t t' S = R := by unfold andT; rw [h]; exact k
theorem t_and0 {t t' : ST} (h : t S = .ok false S1) : andT t t' S = .ok false S1 := by unfold andT; rw [h]; rfl
theorem t_or1 {t t' : ST} (h : t S = .ok true S1) : orT t t' S = .ok true S1 := by unfold orT; rw [h]; rfl
theorem t_or0 {t t' : ST} {R : RT} (h : t S = .ok false S1) (k : t' S1 = R) : orT t t' S = R := by unfold orT; rw [h]; exact k
theorem e_not {f : SE} {o b : Bool} (h : f S = .ok o (.dat (en b)) S1) : notE f S = .ok false (.dat (en (!b))) S1 := by unfold notE; rw [h]; cases b <;> rfl
theorem e_and1 {f g : SE} {o : Bool} {R : RE} (h : f S = .ok o (.dat (en true)) S1) (k : g S1 = R) : andE f g S = R := by unfold andE; rw [h]; exact k
theorem e_and0 {f g : SE} {o : Bool} (h : f S = .ok o (.dat (en false)) S1) : andE f g S = .ok false (.dat (en false)) S1 := by unfold andE; rw [h]; rfl
theorem e_or1 {f g : SE} {o : Bool} (h : f S = .ok o (.dat (en true)) S1) : orE f g S = .ok false (.dat (en true)) S1 := by unfold orE; rw [h]; rfl
theorem e_or0 {f g : SE} {o : Bool} {R : RE} (h : f S = .ok o (.dat (en false)) S1) (k : g S1 = R) : orE f g S = R := by unfold orE; rw [h]; exact k
theorem e_and {f g : SE} {o : Bool} {b c : Bool} (h : f S = .ok o (.dat (en b)) S1) (k : b = true → g S1 = .ok false (.dat (en c)) S1) : andE f g S = .ok false (.dat (en (b && c))) S1 := by
  cases b with
  | true => exact (e_and1 h (k rfl))
  | false => exact e_and0 h
theorem e_or {f g : SE} {o : Bool} {b c : Bool} (h : f S = .ok o (.dat (en b)) S1) (k : b = false → g S1 = .ok false (.dat (en c)) S1) : orE f g S = .ok false (.dat (en (b || c))) S1 := by
  cases b with
  | true => exact e_or1 h
  | false => exact e_or0 h (k rfl)
theorem i_t {t : ST} {f g : SE} {R : RE} (h : t S = .ok true S1) (k : f S1 = R) : ifE t f g S = R := by unfold ifE; rw [h]; exact k
theorem i_f {t : ST} {f g : SE} {R : RE} (h : t S = .ok false S1) (k : g S1 = R) : ifE t f g S = R := by unfold ifE; rw [h]; exact k
theorem i_b {α : Type} {t : ST} {f g : SE} {c : Bool} {x y : Option α} {r : α} {R : RE} (hp : (if c = true then x else y) = some r) (h : t S = .ok c S1) (k1 : c = true → x = some r → f S1 = R) (k2 : c = false → y = some r → g S1 = R) : ifE t f g S = R := by
  cases c with
  | true => exact i_t h (k1 rfl hp)
  | false => exact i_f h (k2 rfl hp)
theorem e_andb {f g : SE} {o : Bool} {b r : Bool} {x : Option Bool} (hp : (if b = true then x else some false) = some r) (h : f S = .ok o (.dat (en b)) S1) (k : x = some r → g S1 = .ok false (.dat (en r)) S1) : andE f g S = .ok false (.dat (en r)) S1 := by
  cases b with
  | true => exact e_and1 h (k hp)
  | false => cases hp; exact e_and0 h
theorem e_orb {f g : SE} {o : Bool} {b r : Bool} {x : Option Bool} (hp : (if b = true then some true else x) = some r) (h : f S = .ok o (.dat (en b)) S1) (k : x = some r → g S1 = .ok false (.dat (en r)) S1) : orE f g S = .ok false (.dat (en r)) S1 := by
  cases b with
  | true => cases hp; exact e_or1 h
  | false => exact e_or0 h (k hp)
theorem t_andb {α : Type} {t t' : ST} {b : Bool} {r : α} {x y : Option α} {R : RT} (hp : (if b = true then x else y) = some r) (h : t S = .ok b S1) (k : x = some r → t' S1 = R) (k0 : y = some r → RT.ok false S1 = R) : andT t t' S = R := by
  cases b with
  | true => exact t_and1 h (k hp)
  | false => exact (t_and0 h).trans (k0 hp)
theorem t_orb {α : Type} {t t' : ST} {b : Bool} {r : α} {x y : Option α} {R : RT} (hp : (if b = true then y else x) = some r) (h : t S = .ok b S1) (k : x = some r → t' S1 = R) (k0 : y = some r → RT.ok true S1 = R) : orT t t' S = R := by
  cases b with
  | true => exact (t_or1 h).trans (k0 hp)
  | false => exact t_or0 h (k hp)
theorem i_p {α : Type} [Rp α] {t : ST} {f g : SE} {b : Bool} {o : Bool} {x y : α} (h : t S = .ok b S1) (k1 : b = true → f S1 = .ok o (.dat (en x)) S2) (k2 : b = false → g S1 = .ok o (.dat (en y)) S2) : ifE t f g S = .ok o (.dat (en (if b = true then x else y))) S2 := by
  cases b with
  | true => exact i_t h (k1 rfl)
  | false => exact i_f h (k2 rfl)
theorem i_pL {α : Type} [Rp α] {t : ST} {f g : SE} {b : Bool} {o : Bool} {x y : List α} (h : t S = .ok b S1) (k1 : b = true → f S1 = .ok o (.dat (en (Ls.mk x))) S2) (k2 : b = false → g S1 = .ok o (.dat (en (Ls.mk y))) S2) : ifE t f g S = .ok o (.dat (en (Ls.mk (if b = true then x else y)))) S2 := by
  cases b with
  | true => exact i_t h (k1 rfl)
  | false => exact i_f h (k2 rfl)
end
end Pl

namespace Pl
open PySem L2 PySem.Spec PyProof.Rows
section
variable {S S1 S2 : Sg} {f g : SE} {o : Bool} {u : U} {d : D} {i j : Nat} {α β : Type} [Rp α] [Rp β]
/-! places, slices -/
theorem atI_map (l : List α) (k : Int) : atI (l.map Rp.enc) k = (atI l k).map Rp.enc := by
  unfold atI
  rw [List.length_map]
  cases ixN l.length k with
  | none => rfl
  | some n => rw [Option.bind_some, Option.bind_some, List.getElem?_map]
theorem ix_t {l : List α} {k : Int} {x : α} (h : atI l k = some x) : ixX (.dat (en l)) (.dat (en k)) S = .ok false (.dat (en x)) S := by
  show (match atI (l.map Rp.enc) k with | some d => RE.ok false (.dat d) S | none => .bad) = _
  rw [atI_map, h]; rfl
theorem ix_l {l : List α} {k : Int} {x : α} (h : atI l k = some x) : ixX (.dat (en (Ls.mk l))) (.dat (en k)) S = .ok false (.dat (en x)) S := by
  show (match atI (l.map Rp.enc) k with | some d => RE.ok false (.dat d) S | none => .bad) = _
  rw [atI_map, h]; rfl
theorem ix_c {ds : List D} {k : Int} {x : D} (h : atI ds k = some x) : ixX (.dat (.tuple ds)) (.dat (en k)) S = .ok false (.dat x) S := by
  show (match atI ds k with | some d => RE.ok false (.dat d) S | none => .bad) = _
  rw [h]
def cut (l : List α) (lo hi : Option Int) : List α := (l.drop (HT.sIx l.length 0 lo)).take (HT.sIx l.length l.length hi - HT.sIx l.length 0 lo)
theorem cut_map (l : List α) (lo hi : Option Int) : cutD (l.map Rp.enc) lo hi = (cut l lo hi).map Rp.enc := by
  unfold cutD cut
  rw [List.length_map, List.map_take, List.map_drop]
theorem sl_t {l : List α} {lo hi : Option Int} : slU (.dat (en l)) lo hi S = .ok false (.dat (en (cut l lo hi))) S := by
  show RE.ok false (.dat (.tuple (cutD (l.map Rp.enc) lo hi))) S = _
  rw [cut_map]; rfl
theorem sl_l {l : List α} {lo hi : Option Int} : slU (.dat (en (Ls.mk l))) lo hi S = .ok true (.dat (en (Ls.mk (cut l lo hi)))) S := by
  show RE.ok true (.dat (.list (cutD (l.map Rp.enc) lo hi))) S = _
  rw [cut_map]; rfl
theorem sl00 {R : RE} (h : slU u none none S = R) : slK00 [u] S = R := h
theorem sl01 {k : Int} {R : RE} (h : slU u none (some k) S = R) : slK01 [u, .dat (en k)] S = R := h
theorem sl10 {k : Int} {R : RE} (h : slU u (some k) none S = R) : slK10 [u, .dat (en k)] S = R := h
theorem sl11 {a b c : Opn} {x : Acc} {p q : Int} {as : List Acc} {R : RE} (h1 : OpsEv [a, b] S [x, .inr (.dat (en p))] S1) (h2 : OpsEv [c] S1 as S2) (h3 : fetchAll S2 (x :: as) = some [u, .dat (en q)]) (h : slU u (some p) (some q) S2 = R) : sl11E a b c S = R := by
  have e1 := evA_eq (acc := []) h1
  have e2 := evA_eq (acc := [x]) h2
  unfold sl11E
  rw [e1]
  show (match evA [c] [x] S1 with | .ok as st2 => _ | .exc c d st2 => _ | .bad => _) = R
  rw [e2]
  show (match fetchAll S2 (x :: as) with | some [u, .dat (.int j)] => slU u (some p) (some j) S2 | _ => .bad) = R
  rw [h3]
  exact h
theorem rev_ok {l : List α} (h : f S = .ok o (.dat (en (Ls.mk l))) S1) : revE f S = .ok true (.dat (en (Ls.mk l.reverse))) S1 := by
  unfold revE
  rw [h]
  show RE.ok true (.dat (.list (l.map Rp.enc).reverse)) S1 = _
  rw [← List.map_reverse]; rfl
/-! displays -/
inductive DisEv : List (Bool × SE) → Sg → List D → Sg → Prop
  | nil {S : Sg} : DisEv [] S [] S
  | one {f : SE} {o : Bool} {d : D} {fs : List (Bool × SE)} {S S1 S' : Sg} {ds : List D} (h : f S = .ok o (.dat d) S1) (hz : o = true → frzU (.dat d) = true) (t : DisEv fs S1 ds S') : DisEv ((false, f) :: fs) S (d :: ds) S'
  | star {f : SE} {o : Bool} {xs : List D} {fs : List (Bool × SE)} {S S1 S' : Sg} {ds : List D} (h : f S = .ok o (.dat (.tuple xs)) S1) (hz : o = true → frzU (.dat (.tuple xs)) = true) (t : DisEv fs S1 ds S') : DisEv ((true, f) :: fs) S (xs ++ ds) S'
  | starL {f : SE} {o : Bool} {xs : List D} {fs : List (Bool × SE)} {S S1 S' : Sg} {ds : List D} (h : f S = .ok o (.dat (.list xs)) S1) (t : DisEv fs S1 ds S') : DisEv ((true, f) :: fs) S (xs ++ ds) S'
theorem DisEv.v {f : SE} {d : D} {fs : List (Bool × SE)} {S S1 S' : Sg} {ds : List D} (h : f S = .ok false (.dat d) S1) (t : DisEv fs S1 ds S') : DisEv ((false, f) :: fs) S (d :: ds) S' := .one h (fun z => nomatch z) t
theorem DisEv.w {f : SE} {xs : List D} {fs : List (Bool × SE)} {S S1 S' : Sg} {ds : List D} (h : f S = .ok true (.dat (.list xs)) S1) (t : DisEv fs S1 ds S') : DisEv ((false, f) :: fs) S (.list xs :: ds) S' := .one h (fun _ => rfl) t
theorem DisEv.s {f : SE} {xs : List D} {fs : List (Bool × SE)} {S S1 S' : Sg} {ds : List D} (h : f S = .ok false (.dat (.tuple xs)) S1) (t : DisEv fs S1 ds S') : DisEv ((true, f) :: fs) S (xs ++ ds) S' := .star h (fun z => nomatch z) t
theorem evD_eq {k : List D → Sg → RE} : ∀ {fs : List (Bool × SE)} {S S' : Sg} {ds acc : List D}, DisEv fs S ds S' → evD fs acc k S = k (acc ++ ds) S'
  | _, _, _, _, acc, .nil => by rw [List.append_nil]; rfl
  | _, _, _, _, acc, .one (o := o) h hz t => by
    unfold evD evO
    dsimp only
    rw [h]
    cases o with
    | false => dsimp only [itemD]; rw [evD_eq t, List.append_assoc]; rfl
    | true => dsimp only; rw [if_pos (hz rfl)]; dsimp only [itemD]; rw [evD_eq t, List.append_assoc]; rfl
  | _, _, _, _, acc, .star (o := o) h hz t => by
    unfold evD evO
    dsimp only
    rw [h]
    cases o with
    | false => dsimp only [itemD]; rw [evD_eq t, List.append_assoc]
    | true => dsimp only; rw [if_pos (hz rfl)]; dsimp only [itemD]; rw [evD_eq t, List.append_assoc]
  | _, _, _, _, acc, .starL (o := o) h t => by
    unfold evD evO
    dsimp only
    rw [h]
    cases o with
    | false => dsimp only [itemD]; rw [evD_eq t, List.append_assoc]
    | true => dsimp only; rw [if_pos (show frzU (.dat (.list _)) = true from rfl)]; dsimp only [itemD]; rw [evD_eq t, List.append_assoc]
theorem tup_ok {fs : List (Bool × SE)} {ds : List D} (h : DisEv fs S ds S1) (hl : ds.length ≤ LINE) : tupE fs S = .ok false (.dat (.tuple ds)) S1 := by
  unfold tupE
  rw [evD_eq h]
  show (if ds.length ≤ LINE then _ else _) = _
  rw [if_pos hl]; rfl
theorem lst_ok {fs : List (Bool × SE)} {ds : List D} (h : DisEv fs S ds S1) (hl : ds.length ≤ LINE) : lstE fs S = .ok true (.dat (.list ds)) S1 := by
  unfold lstE
  rw [evD_eq h]
  show (if ds.length ≤ LINE then _ else _) = _
  rw [if_pos hl]; rfl
/-- so many at most -/
def lineO (l : List α) : Option (List α) := if l.length ≤ LINE then some l else none
theorem lineO_len {l m : List α} (h : lineO l = some m) : l.length ≤ LINE ∧ l = m := ifso h
/-! calls -/
theorem callK_n {n : Nat} {us : List U} {w : U} {outs : List Sl} {h : SF} (hn : us.length = n) (hf : h us = .ret o w outs) : callK (List.replicate n false) h (us.map Sum.inr) S1 = .ok o w S1 := by
  have io0 : ∀ j, ioAt (List.replicate n false) (us.map Sum.inr) j = none := fun j => by
    unfold ioAt
    rw [List.getElem?_map]
    cases (List.replicate n false)[j]? with
    | none => rfl
    | some k => cases k <;> cases us[j]? <;> rfl
  have nd : ((List.range (List.replicate n false).length).filterMap (ioAt (List.replicate n false) (us.map .inr))).Nodup := by
    have : ((List.range (List.replicate n false).length).filterMap (ioAt (List.replicate n false) (us.map .inr))) = [] := by
      rw [List.filterMap_eq_nil_iff]
      intro j _
      exact io0 j
    rw [this]
    exact List.nodup_nil
  have ar : ∀ (us : List U) (n : Nat), us.length = n → argsOf S1 (List.replicate n false) (us.map .inr) = some us := by
    intro us
    induction us with
    | nil => intro n e; subst e; rfl
    | cons u us ih =>
      intro n e
      subst e
      show ((argU S1 false (.inr u)).bind fun u => (argsOf S1 (List.replicate us.length false) (us.map .inr)).map (u :: ·)) = _
      rw [ih us.length rfl]
      rfl
  unfold callK
  rw [if_pos nd, ar us n hn]
  dsimp only
  rw [hf]
  dsimp only
  congr 1
  apply List.ext_getElem?
  intro k
  unfold backSt
  rw [List.getElem?_mapIdx]
  have hl : lentAt (List.replicate n false) (us.map .inr) k = none := by
    unfold lentAt
    rw [List.find?_eq_none]
    intro j _
    rw [io0]
    simp
  cases S1[k]? with
  | none => rfl
  | some t =>
    unfold backSl
    rw [Option.map_some, hl]
theorem call_no {n : Nat} {os : List Opn} {as : List Acc} {us : List U} {w : U} {outs : List Sl} {h : SF} (p : OpsEv os S as S1) (ha : as = us.map Sum.inr) (hn : us.length = n) (hf : h us = .ret o w outs) : callE (List.replicate n false) h os S = .ok o w S1 := by
  unfold callE
  rw [evN_eq p, List.nil_append]
  subst ha
  exact callK_n hn hf
theorem callP_no {n : Nat} {pm : List Nat} {os oz : List Opn} {as : List Acc} {us : List U} {w : U} {outs : List Sl} {h : SF} (p : OpsEv (os ++ oz) S as S1) (ha : pick pm as = us.map Sum.inr) (hn : us.length = n) (hf : h us = .ret o w outs) : callP (List.replicate n false) h pm os oz S = .ok o w S1 := by
  unfold callP
  rw [evN_eq p, List.nil_append]
  show callK _ h (pick pm as) S1 = _
  rw [ha]
  exact callK_n hn hf
/-- lent: one thing, in front -/
theorem call_dl {n k : Nat} {os : List Opn} {as : List Acc} {us : List U} {w d0 d1 : U} {s : Sl} {outs : List Sl} {h : SF} (p : OpsEv os S (.inl k :: as) S1) (ha : as = us.map Sum.inr) (hn : us.length = n) (hk : S1[k]? = some s) (hs : s.own = some d0)
    (hf : h (d0 :: us) = .ret o w (.io d1 :: outs)) : callE (true :: List.replicate n false) h os S = .ok o w (S1.set k (s.re d1)) := by
  unfold callE
  rw [evN_eq p, List.nil_append]
  subst ha
  have io0 : ∀ j, ioAt (true :: List.replicate n false) (Sum.inl k :: us.map Sum.inr) j = if j = 0 then some k else none := fun j => by
    cases j with
    | zero => rfl
    | succ j =>
      unfold ioAt
      rw [List.getElem?_cons_succ, List.getElem?_cons_succ, List.getElem?_map]
      rw [if_neg (Nat.succ_ne_zero j)]
      cases e : (List.replicate n false)[j]? with
      | none => rfl
      | some k =>
        have : k = false := by
          rw [List.getElem?_replicate] at e
          split at e
          · cases e; rfl
          · cases e
        subst this
        cases us[j]? <;> rfl
  have nd : ((List.range (true :: List.replicate n false).length).filterMap (ioAt (true :: List.replicate n false) (.inl k :: us.map .inr))).Nodup := by
    have : ((List.range (true :: List.replicate n false).length).filterMap (ioAt (true :: List.replicate n false) (.inl k :: us.map .inr))) = [k] := by
      have e : (ioAt (true :: List.replicate n false) (.inl k :: us.map .inr)) = fun j => if j = 0 then some k else none := funext io0
      rw [e]
      have : (true :: List.replicate n false).length = n + 1 := by simp
      rw [this, List.range_succ_eq_map, List.filterMap_cons]
      simp
    rw [this]
    simp
  have ar : ∀ (us : List U) (n : Nat), us.length = n → argsOf S1 (List.replicate n false) (us.map .inr) = some us := by
    intro us
    induction us with
    | nil => intro n e; subst e; rfl
    | cons u us ih =>
      intro n e
      subst e
      show ((argU S1 false (.inr u)).bind fun u => (argsOf S1 (List.replicate us.length false) (us.map .inr)).map (u :: ·)) = _
      rw [ih us.length rfl]
      rfl
  have ar0 : argsOf S1 (true :: List.replicate n false) (.inl k :: us.map .inr) = some (d0 :: us) := by
    show ((argU S1 true (.inl k)).bind fun u => (argsOf S1 (List.replicate n false) (us.map .inr)).map (u :: ·)) = _
    have e1 : argU S1 true (.inl k) = some d0 := by
      show (match S1[k]? with | some s => s.own | none => none) = some d0
      rw [hk]; exact hs
    rw [e1, ar us n hn]
    rfl
  unfold callK
  rw [if_pos nd, ar0]
  dsimp only
  rw [hf]
  dsimp only
  congr 1
  apply List.ext_getElem?
  intro q
  unfold backSt
  rw [List.getElem?_mapIdx]
  have hl : lentAt (true :: List.replicate n false) (.inl k :: us.map .inr) q = if k = q then some 0 else none := by
    unfold lentAt
    have l : (true :: List.replicate n false).length = n + 1 := by simp
    rw [l, List.range_succ_eq_map, List.find?_cons, io0]
    by_cases e : k = q
    · subst e; simp
    · have e1 : (k == q) = false := by simpa using e
      have e2 : (List.map Nat.succ (List.range n)).find? (fun j => ioAt (true :: List.replicate n false) (Sum.inl k :: us.map Sum.inr) j == some q) = none := by
        rw [List.find?_eq_none]
        intro j hj
        obtain ⟨z, _, rfl⟩ := List.mem_map.mp hj
        rw [io0]
        simp
      simp [e, e1, e2]
  by_cases e : k = q
  · subst e
    have hi := (List.getElem?_eq_some_iff.mp hk).1
    rw [List.getElem?_set_self hi, hk]
    unfold backSl
    rw [hl, if_pos rfl]
    rfl
  · rw [List.getElem?_set_ne e]
    cases S1[q]? with
    | none => rfl
    | some t =>
      unfold backSl
      rw [Option.map_some, hl, if_neg e]
end
end Pl

namespace Pl
open PySem L2 PySem.Spec PyProof.Rows
section
variable {S S1 S2 : Sg} {f g : SE} {o : Bool} {u : U} {d : D} {i j : Nat} {α β A ρ : Type} [Rp α] [Rp β]
/-! iterators -/
def IsSrc (s : SI) (S : Sg) (ds : List D) (S1 : Sg) : Prop := s S = .ok ds S1
theorem s_t {l : List α} (h : f S = .ok false (.dat (en l)) S1) : seqI f S = .ok (l.map Rp.enc) S1 := by
  unfold seqI; rw [h]; rfl
theorem s_l {l : List α} (h : f S = .ok o (.dat (en (Ls.mk l))) S1) : seqI f S = .ok (l.map Rp.enc) S1 := by
  unfold seqI; rw [h]; cases o <;> rfl
theorem s_en {l : List α} (h : seqI f S = .ok (l.map Rp.enc) S1) : enumI f S = .ok ((enumW l).map Rp.enc) S1 := by
  unfold enumI
  rw [h]
  show RI.ok (enumD (l.map Rp.enc)) S1 = _
  congr 1
  unfold enumD enumW
  apply List.ext_getElem?
  intro k
  rw [List.getElem?_mapIdx, List.getElem?_map, List.getElem?_map, List.getElem?_mapIdx]
  cases l[k]? <;> rfl
theorem zipD_en (l : List α) (m : List β) : zipD (l.map Rp.enc) (m.map Rp.enc) = (zipW l m).map Rp.enc := by
  unfold zipD zipW
  rw [List.zipWith_map, List.map_zipWith]; rfl
theorem s_zt {l : List α} {m : List β} (p : OpsEv [.ev f, .ev g] S [.inr (.dat (en l)), .inr (.dat (en m))] S1) : zipI f g S = .ok ((zipW l m).map Rp.enc) S1 := by
  unfold zipI
  rw [evA_eq p]
  show RI.ok (zipD (l.map Rp.enc) (m.map Rp.enc)) S1 = _
  rw [zipD_en]
theorem s_zl {l : List α} {m : List β} (p : OpsEv [.ev f, .ev g] S [.inr (.dat (en (Ls.mk l))), .inr (.dat (en (Ls.mk m)))] S1) : zipI f g S = .ok ((zipW l m).map Rp.enc) S1 := by
  unfold zipI
  rw [evA_eq p]
  show RI.ok (zipD (l.map Rp.enc) (m.map Rp.enc)) S1 = _
  rw [zipD_en]
def rngL (lo : Int) (n : Nat) : List Int := (List.range n).map fun i => lo + (i : Nat)
theorem rng_map (lo : Int) (n : Nat) : rngItems lo n = (rngL lo n).map Rp.enc := by
  unfold rngItems rngL
  rw [List.map_map]; rfl
def rng1O (k : Int) : Option (List Int) := if small k = true then some (rngL 0 k.toNat) else none
def rng2O (a b : Int) : Option (List Int) := if small a = true ∧ small b = true then some (rngL a (b - a).toNat) else none
theorem s_r1 {os : List Opn} {as : List Acc} {k : Int} {l : List Int} (p : OpsEv os S as S1) (q : fetchAll S1 as = some [.dat (en k)]) (h : rng1O k = some l) : rngI os S = .ok (l.map Rp.enc) S1 := by
  obtain ⟨c, e⟩ := ifso h
  subst e
  unfold rngI
  rw [evA_eq p]
  show (match (fetchAll S1 as).bind rngU with | some ds => RI.ok ds S1 | none => .bad) = _
  rw [q, Option.bind_some]
  show (match (if small k then some (rngItems 0 k.toNat) else none) with | some ds => RI.ok ds S1 | none => .bad) = _
  rw [if_pos c, rng_map]
theorem s_r2 {os : List Opn} {as : List Acc} {a b : Int} {l : List Int} (p : OpsEv os S as S1) (q : fetchAll S1 as = some [.dat (en a), .dat (en b)]) (h : rng2O a b = some l) : rngI os S = .ok (l.map Rp.enc) S1 := by
  obtain ⟨⟨c1, c2⟩, e⟩ := ifso h
  subst e
  unfold rngI
  rw [evA_eq p]
  show (match (fetchAll S1 as).bind rngU with | some ds => RI.ok ds S1 | none => .bad) = _
  rw [q, Option.bind_some]
  show (match (if small a && small b then some (rngItems a (b - a).toNat) else none) with | some ds => RI.ok ds S1 | none => .bad) = _
  rw [c1, c2, Bool.and_self, if_pos rfl, rng_map]
/-! loops -/
inductive Ctl (A ρ : Type) where
  | nx (a : A)
  | bk (a : A)
  | rt (r : ρ)
def loopO {α : Type} (step : A → α → Option A) : A → List α → Option A
  | a, [] => some a
  | a, x :: xs => (step a x).bind fun a' => loopO step a' xs
def loopC {α : Type} (step : A → α → Option (Ctl A ρ)) : A → List α → Option (Ctl A ρ)
  | a, [] => some (.nx a)
  | a, x :: xs => (step a x).bind fun c => match c with
    | .nx a' => loopC step a' xs
    | .bk a' => some (.nx a')
    | .rt r => some (.rt r)
def ctlO {γ : Type} (x : Option (Ctl A ρ)) (f : A → Option γ) (g : ρ → Option γ) : Option γ := x.bind fun c => match c with
  | .nx a => f a
  | .bk _ => none
  | .rt r => g r
theorem ctl_cases {γ : Type} {x : Option (Ctl A ρ)} {f : A → Option γ} {g : ρ → Option γ} {r : γ} (h : ctlO x f g = some r) : (∃ a, x = some (.nx a) ∧ f a = some r) ∨ (∃ q, x = some (.rt q) ∧ g q = some r) := by
  unfold ctlO at h
  rw [Option.bind_eq_some_iff] at h
  obtain ⟨c, h1, h2⟩ := h
  cases c with
  | nx a => exact .inl ⟨a, h1, h2⟩
  | bk a => cases h2
  | rt q => exact .inr ⟨q, h1, h2⟩
def StepOk (Sh : A → Sg) (a : A) (rs : RS) : Prop := rs = .nx (Sh a) ∨ rs = .ct (Sh a)
def CtlOk (Sh : A → Sg) (Rt : ρ → RS → Prop) : Ctl A ρ → RS → Prop
  | .nx a, rs => rs = .nx (Sh a) ∨ rs = .ct (Sh a)
  | .bk a, rs => rs = .bk (Sh a)
  | .rt r, rs => (∃ o u st, rs = .rt o u st) ∧ Rt r rs
theorem forL_sim {t : Tg} {body : SS} {Sh : A → Sg} {step : A → α → Option A} (hs : ∀ a x a', step a x = some a' → ∃ st1, t.set (Rp.enc x) (Sh a) = some st1 ∧ Go (StepOk Sh a') (body st1)) : ∀ (items : List α) (a a' : A), loopO step a items = some a' → forL (items.map Rp.enc) t body (Sh a) = .nx (Sh a')
  | [], a, a', h => by cases h; rfl
  | x :: xs, a, a', h => by
    obtain ⟨a1, h1, h2⟩ := ob h
    obtain ⟨st1, e1, e2⟩ := hs a x a1 h1
    have ih := forL_sim hs xs a1 a' h2
    rw [List.map_cons]
    unfold forL
    rw [e1]
    dsimp only
    rcases e2 with e2 | e2
    · rw [e2]; exact ih
    · rw [e2]; exact ih
theorem forL_simC {t : Tg} {body : SS} {Sh : A → Sg} {Rt : ρ → RS → Prop} {step : A → α → Option (Ctl A ρ)} (hs : ∀ a x c, step a x = some c → ∃ st1, t.set (Rp.enc x) (Sh a) = some st1 ∧ Go (CtlOk Sh Rt c) (body st1)) :
    ∀ (items : List α) (a : A) (c : Ctl A ρ), loopC step a items = some c → match c with | .nx a' => forL (items.map Rp.enc) t body (Sh a) = .nx (Sh a') | .bk _ => True | .rt r => (∃ o u st, forL (items.map Rp.enc) t body (Sh a) = .rt o u st) ∧ Rt r (forL (items.map Rp.enc) t body (Sh a))
  | [], a, c, h => by cases h; rfl
  | x :: xs, a, c, h => by
    obtain ⟨c1, h1, h2⟩ := ob h
    obtain ⟨st1, e1, e2⟩ := hs a x c1 h1
    have e0 : forL ((x :: xs).map Rp.enc) t body (Sh a) = forR (body st1) (forL (xs.map Rp.enc) t body) := by
      rw [List.map_cons]
      conv => lhs; unfold forL
      rw [e1]
    rw [e0]
    cases c1 with
    | nx a1 =>
      have ih := forL_simC hs xs a1 c h2
      rcases e2 with e2 | e2
      · rw [e2]; exact ih
      · rw [e2]; exact ih
    | bk a1 =>
      cases h2
      have e2' : body st1 = .bk (Sh a1) := e2
      rw [e2']; rfl
    | rt r =>
      cases h2
      obtain ⟨⟨o, u, st, e3⟩, e4⟩ := (show (∃ o u st, body st1 = .rt o u st) ∧ Rt r (body st1) from e2)
      rw [e3] at e4 ⊢
      exact ⟨⟨o, u, st, rfl⟩, e4⟩
theorem forL_nx {t : Tg} {body : SS} {Sh : A → Sg} {Rt : ρ → RS → Prop} {step : A → α → Option (Ctl A ρ)} (hs : ∀ a x c, step a x = some c → ∃ st1, t.set (Rp.enc x) (Sh a) = some st1 ∧ Go (CtlOk Sh Rt c) (body st1)) {items : List α} {a a' : A} (h : loopC step a items = some (.nx a')) : forL (items.map Rp.enc) t body (Sh a) = .nx (Sh a') :=
  forL_simC hs items a (.nx a') h
theorem forL_rt {t : Tg} {body : SS} {Sh : A → Sg} {Rt : ρ → RS → Prop} {step : A → α → Option (Ctl A ρ)} (hs : ∀ a x c, step a x = some c → ∃ st1, t.set (Rp.enc x) (Sh a) = some st1 ∧ Go (CtlOk Sh Rt c) (body st1)) {items : List α} {a : A} {r : ρ} (h : loopC step a items = some (.rt r)) : Rt r (forL (items.map Rp.enc) t body (Sh a)) :=
  (forL_simC hs items a (.rt r) h).2
theorem for_rtg {src : SI} {t : Tg} {body : SS} {ds : List D} {ks : List Bool} {o : Bool} {u : U} {outs : List Sl} (h : src S = .ok ds S1) (k : RtG ks o u outs (forL ds t body S1)) : ∃ st, forS src t body S = .rt o u st ∧ maskSl ks st = outs := by
  unfold forS; rw [h]; exact k
theorem forO_l_rtg {t : Tg} {body : SS} {l : List α} {ks : List Bool} {o : Bool} {u : U} {outs : List Sl} (h : S[i]? = some (.ps (.dat (en (Ls.mk l))))) (k : RtG ks o u outs (forL (l.map Rp.enc) t body S)) : ∃ st, forO i t body S = .rt o u st ∧ maskSl ks st = outs := by
  unfold forO; rw [h]; exact k
theorem forO_t_rtg {t : Tg} {body : SS} {l : List α} {ks : List Bool} {o : Bool} {u : U} {outs : List Sl} (h : S[i]? = some (.ps (.dat (en l)))) (k : RtG ks o u outs (forL (l.map Rp.enc) t body S)) : ∃ st, forO i t body S = .rt o u st ∧ maskSl ks st = outs := by
  unfold forO; rw [h]; exact k
theorem for_eq {src : SI} {t : Tg} {body : SS} {ds : List D} {rs : RS} (h : src S = .ok ds S1) (k : forL ds t body S1 = rs) : forS src t body S = rs := by
  unfold forS; rw [h]; exact k
theorem forO_l {t : Tg} {body : SS} {l : List α} {rs : RS} (h : S[i]? = some (.ps (.dat (en (Ls.mk l))))) (k : forL (l.map Rp.enc) t body S = rs) : forO i t body S = rs := by
  unfold forO; rw [h]; exact k
theorem forO_t {t : Tg} {body : SS} {l : List α} {rs : RS} (h : S[i]? = some (.ps (.dat (en l)))) (k : forL (l.map Rp.enc) t body S = rs) : forO i t body S = rs := by
  unfold forO; rw [h]; exact k
theorem forB_eq {t : Tg} {body : SS} {ds : List D} {Sh : A → Sg} (hb : ∀ a, bo (Sh a) i = some ds) {step : A → D → Option A} (hs : ∀ a x a', step a x = some a' → ∃ st1, t.set x (Sh a) = some st1 ∧ Go (StepOk Sh a') (body st1)) :
    ∀ (n k : Nat) (a a' : A), n + k = ds.length → loopO step a (ds.drop k) = some a' → forB i t body n k (Sh a) = .nx (Sh a')
  | 0, k, a, a', e, h => by
    have e' : k = ds.length := by omega
    subst e'
    rw [List.drop_length] at h
    cases h
    unfold forB
    rw [hb]
    dsimp only
    rw [if_pos (Nat.le_refl _)]
  | n + 1, k, a, a', e, h => by
    have hk : k < ds.length := by omega
    rw [List.drop_eq_getElem_cons hk] at h
    obtain ⟨a1, h1, h2⟩ := ob h
    obtain ⟨st1, e1, e2⟩ := hs a _ a1 h1
    have ih := forB_eq hb hs n (k + 1) a1 a' (by omega) h2
    unfold forB
    rw [hb]
    dsimp only
    rw [List.getElem?_eq_getElem hk]
    dsimp only
    rw [e1]
    dsimp only
    rcases e2 with e2 | e2
    · rw [e2]; exact ih
    · rw [e2]; exact ih
/-- over a list of one's own -/
theorem forO_ow {t : Tg} {body : SS} {l : List α} {Sh : A → Sg} {step : A → α → Option A} {a a' : A} (h : S[i]? = some (.ow (.dat (en (Ls.mk l))))) (h0 : S.set i (.bo (.dat (en (Ls.mk l)))) = Sh a) (hb : ∀ a, bo (Sh a) i = some (l.map Rp.enc))
    (hs : ∀ a x a', step a x = some a' → ∃ st1, t.set (Rp.enc x) (Sh a) = some st1 ∧ Go (StepOk Sh a') (body st1)) (k : loopO step a l = some a') (h1 : unS i (Sh a') = some S2) : forO i t body S = .nx S2 := by
  have key : ∀ (n k : Nat) (a a' : A), n + k = (l.map Rp.enc).length → loopO step a (l.drop k) = some a' → forB i t body n k (Sh a) = .nx (Sh a') := by
    intro n
    induction n with
    | zero =>
      intro k a a' e h
      rw [List.length_map] at e
      have e' : k = l.length := by omega
      subst e'
      rw [List.drop_length] at h
      cases h
      unfold forB
      rw [hb]
      dsimp only
      rw [if_pos (by rw [List.length_map]; exact Nat.le_refl _)]
    | succ n ih =>
      intro k a a' e h
      rw [List.length_map] at e
      have hk : k < l.length := by omega
      rw [List.drop_eq_getElem_cons hk] at h
      obtain ⟨a1, h1, h2⟩ := ob h
      obtain ⟨st1, e1, e2⟩ := hs a _ a1 h1
      have ih := ih (k + 1) a1 a' (by rw [List.length_map]; omega) h2
      unfold forB
      rw [hb]
      dsimp only
      rw [List.getElem?_map, List.getElem?_eq_getElem hk]
      dsimp only [Option.map_some]
      rw [e1]
      dsimp only
      rcases e2 with e2 | e2
      · rw [e2]; exact ih
      · rw [e2]; exact ih
  unfold forO
  rw [h]
  show unO i (forB i t body (l.map Rp.enc).length 0 (S.set i (.bo (.dat (en (Ls.mk l)))))) = _
  rw [h0, key _ 0 a a' rfl k]
  unfold unO
  dsimp only
  rw [h1]
/-! while -/
def whileON (c : A → Option Bool) (step : A → Option A) : Nat → A → Option A
  | 0, _ => none
  | n + 1, a => (c a).bind fun b => if b = true then (step a).bind (whileON c step n) else some a
open Classical in
noncomputable def whileO (c : A → Option Bool) (step : A → Option A) (a : A) : Option A := if h : ∃ n, (whileON c step n a).isSome then whileON c step (Classical.choose h) a else none
theorem whileON_succ {c : A → Option Bool} {step : A → Option A} : ∀ {n : Nat} {a r : A}, whileON c step n a = some r → whileON c step (n + 1) a = some r
  | 0, a, r, h => by cases h
  | n + 1, a, r, h => by
    unfold whileON at h
    obtain ⟨b, h1, h2⟩ := ob h
    unfold whileON
    rw [h1, Option.bind_some]
    cases b with
    | false => exact h2
    | true =>
      rw [if_pos rfl] at h2 ⊢
      obtain ⟨a', h3, h4⟩ := ob h2
      rw [h3, Option.bind_some]
      exact whileON_succ h4
theorem whileON_le {c : A → Option Bool} {step : A → Option A} {n m : Nat} (hm : n ≤ m) {a r : A} (h : whileON c step n a = some r) : whileON c step m a = some r := by
  induction hm with
  | refl => exact h
  | step _ ih => exact whileON_succ ih
theorem whileO_of {c : A → Option Bool} {step : A → Option A} {n : Nat} {a r : A} (h : whileON c step n a = some r) : whileO c step a = some r := by
  have ex : ∃ n, (whileON c step n a).isSome := ⟨n, by rw [h]; rfl⟩
  unfold whileO
  rw [dif_pos ex]
  have h2 := Classical.choose_spec ex
  obtain ⟨r2, h3⟩ := Option.isSome_iff_exists.mp h2
  rw [h3]
  have a1 := whileON_le (Nat.le_max_left n (Classical.choose ex)) h
  have a2 := whileON_le (Nat.le_max_right n (Classical.choose ex)) h3
  rw [a1] at a2
  exact a2.symm
theorem whileO_to {c : A → Option Bool} {step : A → Option A} {a r : A} (h : whileO c step a = some r) : ∃ n, whileON c step n a = some r := by
  unfold whileO at h
  split at h
  · exact ⟨_, h⟩
  · cases h
theorem whileO_eq {c : A → Option Bool} {step : A → Option A} {a : A} : whileO c step a = (c a).bind fun b => if b = true then (step a).bind (whileO c step) else some a := by
  apply Option.ext
  intro r
  constructor
  · intro h
    obtain ⟨n, h⟩ := whileO_to h
    cases n with
    | zero => cases h
    | succ n =>
      unfold whileON at h
      obtain ⟨b, h1, h2⟩ := ob h
      rw [h1, Option.bind_some]
      cases b with
      | false => exact h2
      | true =>
        rw [if_pos rfl] at h2 ⊢
        obtain ⟨a', h3, h4⟩ := ob h2
        rw [h3, Option.bind_some]
        exact whileO_of h4
  · intro h
    obtain ⟨b, h1, h2⟩ := ob h
    cases b with
    | false => exact whileO_of (n := 1) (by unfold whileON; rw [h1, Option.bind_some]; exact h2)
    | true =>
      rw [if_pos rfl] at h2
      obtain ⟨a', h3, h4⟩ := ob h2
      obtain ⟨n, h5⟩ := whileO_to h4
      exact whileO_of (n := n + 1) (by unfold whileON; rw [h1, Option.bind_some, if_pos rfl, h3, Option.bind_some]; exact h5)
theorem while_sim {c : ST} {body : SS} {Sh : A → Sg} {co : A → Option Bool} {step : A → Option A} (hc : ∀ a b, co a = some b → c (Sh a) = .ok b (Sh a)) (hs : ∀ a a', step a = some a' → Go (StepOk Sh a') (body (Sh a))) {a a' : A} (h : whileO co step a = some a') :
    whileS c body (Sh a) = .nx (Sh a') := by
  obtain ⟨n, h⟩ := whileO_to h
  have key : ∀ (n : Nat) (a a' : A), whileON co step n a = some a' → whileN n c body (Sh a) = .nx (Sh a') := by
    intro n
    induction n with
    | zero => intro a a' h; cases h
    | succ n ih =>
      intro a a' h
      unfold whileON at h
      obtain ⟨b, h1, h2⟩ := ob h
      unfold whileN
      rw [hc a b h1]
      cases b with
      | false => cases h2; rfl
      | true =>
        rw [if_pos rfl] at h2
        obtain ⟨a1, h3, h4⟩ := ob h2
        show forR (body (Sh a)) (whileN n c body) = _
        rcases hs a a1 h3 with e | e
        · rw [e]; exact ih a1 a' h4
        · rw [e]; exact ih a1 a' h4
  have z := key n a a' h
  rw [whileS_eq (n := n) (by rw [z]; simp), z]
/-! comprehensions -/
def lcO {α β : Type} (step : A → α → Option (Option β × A)) : A → List α → Option (List β × A)
  | a, [] => some ([], a)
  | a, x :: xs => (step a x).bind fun p => (lcO step p.2 xs).bind fun q => some (p.1.toList ++ q.1, q.2)
def lcP {α β : Type} (step : α → Option (Option β)) : List α → Option (List β)
  | [] => some []
  | x :: xs => (step x).bind fun p => (lcP step xs).bind fun q => some (p.toList ++ q)
def lenO {α A : Type} (p : List α × A) : Option (List α × A) := if p.1.length ≤ LINE then some p else none
def lenP {α : Type} (p : List α) : Option (List α) := if p.length ≤ LINE then some p else none
theorem lc_sim {own : List Nat} {t : Tg} {c : ST} {e : SE} {Sh : A → Sg} {step : A → α → Option (Option β × A)}
    (hs : ∀ a x r a', step a x = some (r, a') → ∃ st1 b st2, t.set (Rp.enc x) (Sh a) = some st1 ∧ c st1 = .ok b st2 ∧
      match r with
      | some y => b = true ∧ ∃ o st3, e st2 = .ok o (.dat (en y)) st3 ∧ (o = true → frzU (.dat (en y)) = true) ∧ wipeS st3 own = Sh a'
      | none => b = false ∧ wipeS st2 own = Sh a') :
    ∀ (items : List α) (a a' : A) (ys : List β) (acc : List D) (st : Sg), lcO step a items = some (ys, a') → acc.length + ys.length ≤ LINE → wipeS st own = Sh a → ∃ st', lcL own t c e (items.map Rp.enc) acc st = .ok (acc ++ ys.map Rp.enc) st' ∧ wipeS st' own = Sh a'
  | [], a, a', ys, acc, st, h, hl, hw => by
    cases h
    exact ⟨st, by simp [lcL], hw⟩
  | x :: xs, a, a', ys, acc, st, h, hl, hw => by
    obtain ⟨⟨r, a1⟩, h1, h2⟩ := ob h
    obtain ⟨⟨zs, a2⟩, h3, h4⟩ := ob h2
    cases h4
    obtain ⟨st1, b, st2, e1, e2, e3⟩ := hs a x r a1 h1
    rw [List.map_cons]
    unfold lcL
    rw [hw, e1]
    dsimp only
    rw [e2]
    unfold testR
    cases r with
    | none =>
      obtain ⟨rfl, e4⟩ := e3
      dsimp only
      exact lc_sim hs xs a1 a2 zs acc st2 h3 (by simpa using hl) e4
    | some y =>
      obtain ⟨rfl, o, st3, e4, e5, e6⟩ := e3
      dsimp only
      rw [e4]
      unfold pushR
      dsimp only
      rw [if_neg]
      · obtain ⟨st', e7, e8⟩ := lc_sim hs xs a1 a2 zs (acc ++ [en y]) st3 h3 (by simp at hl ⊢; omega) e6
        exact ⟨st', by rw [e7]; simp, e8⟩
      · have hl' : acc.length < LINE := by simp at hl; omega
        cases o with
        | false => simp; exact hl'
        | true => simp only [e5 rfl]; simp; exact hl'
theorem lc_go {own : List Nat} {t : Tg} {c : ST} {e : SE} {src : SI} {Sh : A → Sg} {step : A → α → Option (Option β × A)} {items : List α} {a : A} {r r' : List β × A} (hsrc : src S = .ok (items.map Rp.enc) S1) (h0 : wipeS S1 own = Sh a)
    (hs : ∀ a x r a', step a x = some (r, a') → ∃ st1 b st2, t.set (Rp.enc x) (Sh a) = some st1 ∧ c st1 = .ok b st2 ∧
      match r with
      | some y => b = true ∧ ∃ o st3, e st2 = .ok o (.dat (en y)) st3 ∧ (o = true → frzU (.dat (en y)) = true) ∧ wipeS st3 own = Sh a'
      | none => b = false ∧ wipeS st2 own = Sh a') (h : lcO step a items = some r) (hl : lenO r = some r') : lcE src own t c e S = .ok true (.dat (en (Ls.mk r'.1))) (restS S1 (Sh r'.2) own) := by
  obtain ⟨l1, l2⟩ := ifso hl
  subst l2
  obtain ⟨ys, a'⟩ := r
  obtain ⟨st', e1, e2⟩ := lc_sim hs items a a' ys [] S1 h (by simpa using l1) h0
  unfold lcE
  rw [hsrc]
  dsimp only
  rw [e1]
  unfold lcR
  dsimp only
  rw [e2, List.nil_append]
  rfl
theorem lcP_lcO {α β : Type} {step : α → Option (Option β)} : ∀ (items : List α) (ys : List β), lcP step items = some ys → lcO (fun (a : Unit) x => (step x).bind fun r => some (r, a)) () items = some (ys, ())
  | [], ys, h => by cases h; rfl
  | x :: xs, ys, h => by
    obtain ⟨p, h1, h2⟩ := ob h
    obtain ⟨q, h3, h4⟩ := ob h2
    cases h4
    unfold lcO
    rw [h1]
    show (lcO _ () xs).bind _ = _
    rw [lcP_lcO xs q h3]
    rfl
/-- without anything lent -/
theorem lc_goP {own : List Nat} {t : Tg} {c : ST} {e : SE} {src : SI} {S0 : Sg} {step : α → Option (Option β)} {items : List α} {r r' : List β} (hsrc : src S = .ok (items.map Rp.enc) S1) (h0 : wipeS S1 own = S0)
    (hs : ∀ x r, step x = some r → ∃ st1 b st2, t.set (Rp.enc x) S0 = some st1 ∧ c st1 = .ok b st2 ∧
      match r with
      | some y => b = true ∧ ∃ o st3, e st2 = .ok o (.dat (en y)) st3 ∧ (o = true → frzU (.dat (en y)) = true) ∧ wipeS st3 own = S0
      | none => b = false ∧ wipeS st2 own = S0) (h : lcP step items = some r) (hl : lenP r = some r') : lcE src own t c e S = .ok true (.dat (en (Ls.mk r'))) (restS S1 S0 own) := by
  obtain ⟨l1, l2⟩ := ifso hl
  subst l2
  have z := lc_go (A := Unit) (Sh := fun _ => S0) (step := fun (a : Unit) x => (step x).bind fun r => some (r, a)) (r := (r, ())) (r' := (r, ())) (a := ()) (t := t) (c := c) (e := e) (own := own) hsrc h0 (fun a x r a' q => by
    obtain ⟨r1, q1, q2⟩ := ob q
    cases q2
    exact hs x r q1) (lcP_lcO items r h) (by unfold lenO; rw [if_pos l1])
  exact z
end
end Pl

namespace Pl
open PySem L2 PySem.Spec PyProof.Rows
section
variable {S S1 S2 : Sg} {f g : SE} {o : Bool} {u : U} {d : D} {i j : Nat} {α β A ρ : Type} [Rp α] [Rp β]
/-! built-ins: what they make of the operands told -/
theorem k_lenT {l : List α} : lenX [.dat (en l)] S = .ok false (.dat (en (l.length : Int))) S := by
  show RE.ok false (.dat (.int ((l.map Rp.enc).length : Nat))) S = _
  rw [List.length_map]; rfl
theorem k_lenL {l : List α} : lenX [.dat (en (Ls.mk l))] S = .ok false (.dat (en (l.length : Int))) S := by
  show RE.ok false (.dat (.int ((l.map Rp.enc).length : Nat))) S = _
  rw [List.length_map]; rfl
theorem k_lenC {ds : List D} : lenX [.dat (.tuple ds)] S = .ok false (.dat (en (ds.length : Int))) S := rfl
def dcD {κ ν : Type} [Rp κ] [Rp ν] (kvs : List (κ × ν)) : List (D × D) := kvs.map fun p => (Rp.enc p.1, Rp.enc p.2)
theorem k_lenX {κ ν : Type} [Rp κ] [Rp ν] {kvs : List (κ × ν)} : lenX [.dic (dcD kvs)] S = .ok false (.dat (en (kvs.length : Int))) S := by
  show RE.ok false (.dat (.int ((dcD kvs).length : Nat))) S = _
  unfold dcD
  rw [List.length_map]; rfl
def absI (i : Int) : Int := if i < 0 then -i else i
theorem k_abs {k : Int} : absK [.dat (en k)] S = .ok false (.dat (en (absI k))) S := rfl
theorem k_intI {k : Int} : intK [.dat (en k)] S = .ok false (.dat (en k)) S := rfl
theorem k_intB {b : Bool} : intK [.dat (en b)] S = .ok false (.dat (en (if b = true then (1 : Int) else 0))) S := rfl
theorem ints_map : ∀ l : List Int, intsOf (l.map Rp.enc) = some l
  | [] => rfl
  | k :: l => by
    rw [List.map_cons]
    show (intsOf (l.map Rp.enc)).map (k :: ·) = _
    rw [ints_map l]; rfl
theorem bools_map : ∀ l : List Bool, boolsOf (l.map Rp.enc) = some l
  | [] => rfl
  | k :: l => by
    rw [List.map_cons]
    show (boolsOf (l.map Rp.enc)).map (k :: ·) = _
    rw [bools_map l]; rfl
theorem k_sum {l : List Int} : sumK [.dat (en (Ls.mk l))] S = .ok false (.dat (en l.sum)) S := by
  show (match intsOf (l.map Rp.enc) with | some ns => RE.ok false (.dat (.int ns.sum)) S | none => .bad) = _
  rw [ints_map]; rfl
def maxO (l : List Int) : Option Int := if 0 < l.length then some (maxL l) else none
def minO (l : List Int) : Option Int := if 0 < l.length then some (minL l) else none
theorem k_max {l : List Int} {r : Int} (h : maxO l = some r) : maxK [.dat (en (Ls.mk l))] S = .ok false (.dat (en r)) S := by
  obtain ⟨c, e⟩ := ifso h
  subst e
  show (match intsOf (l.map Rp.enc) with | some ns => if 0 < ns.length then RE.ok false (.dat (.int (maxL ns))) S else .bad | none => .bad) = _
  rw [ints_map]; dsimp only; rw [if_pos c]; rfl
theorem k_min {l : List Int} {r : Int} (h : minO l = some r) : minK [.dat (en (Ls.mk l))] S = .ok false (.dat (en r)) S := by
  obtain ⟨c, e⟩ := ifso h
  subst e
  show (match intsOf (l.map Rp.enc) with | some ns => if 0 < ns.length then RE.ok false (.dat (.int (minL ns))) S else .bad | none => .bad) = _
  rw [ints_map]; dsimp only; rw [if_pos c]; rfl
theorem k_max2 {a b : Int} : maxK [.dat (en a), .dat (en b)] S = .ok false (.dat (en (if b > a then b else a))) S := rfl
theorem k_min2 {a b : Int} : minK [.dat (en a), .dat (en b)] S = .ok false (.dat (en (if b < a then b else a))) S := rfl
theorem k_all {l : List Bool} : allK [.dat (en (Ls.mk l))] S = .ok false (.dat (en (l.all id))) S := by
  show (match boolsOf (l.map Rp.enc) with | some bs => RE.ok false (.dat (.bool (bs.all id))) S | none => .bad) = _
  rw [bools_map]; rfl
theorem k_any {l : List Bool} : anyK [.dat (en (Ls.mk l))] S = .ok false (.dat (en (l.any id))) S := by
  show (match boolsOf (l.map Rp.enc) with | some bs => RE.ok false (.dat (.bool (bs.any id))) S | none => .bad) = _
  rw [bools_map]; rfl
theorem k_tupL {l : List α} : tupleK [.dat (en (Ls.mk l))] S = .ok false (.dat (en l)) S := rfl
theorem k_tupT {l : List α} : tupleK [.dat (en l)] S = .ok false (.dat (en l)) S := rfl
theorem k_lstL {l : List α} : listK [.dat (en (Ls.mk l))] S = .ok true (.dat (en (Ls.mk l))) S := rfl
theorem k_lstT {l : List α} : listK [.dat (en l)] S = .ok true (.dat (en (Ls.mk l))) S := rfl
theorem k_dict0 : dictK [.dat (.list [])] S = .ok true (.dic []) S := rfl
theorem k_dict {l : List α} (h : l = []) : dictK [.dat (en (Ls.mk l))] S = .ok true (.dic []) S := by subst h; rfl
theorem sort_map (l : List Int) : (sortI l).map PyData.int = (sortI l).map Rp.enc := rfl
theorem k_sortL {l : List Int} : sortK [.dat (en (Ls.mk l))] S = .ok true (.dat (en (Ls.mk (sortI l)))) S := by
  show (match intsOf (l.map Rp.enc) with | some ns => RE.ok true (.dat (.list ((sortI ns).map .int))) S | none => .bad) = _
  rw [ints_map]; rfl
def sortDO {ν : Type} (kvs : List (Int × ν)) : Option (List Int) := if kvs.length < 64 ∧ kvs.length ≠ 0 then some (sortI (kvs.map (·.1))) else none
theorem intKeys_map {ν : Type} [Rp ν] : ∀ kvs : List (Int × ν), intKeys (dcD kvs) = some (kvs.map (·.1))
  | [] => rfl
  | (k, v) :: r => by
    show (intKeys (dcD r)).map (k :: ·) = _
    rw [intKeys_map r]; rfl
theorem k_sortT {l : List Int} : sortK [.dat (en l)] S = .ok true (.dat (en (Ls.mk (sortI l)))) S := by
  show (match intsOf (l.map Rp.enc) with | some ns => RE.ok true (.dat (.list ((sortI ns).map .int))) S | none => .bad) = _
  rw [ints_map]; rfl
theorem k_sortX {ν : Type} [Rp ν] {kvs : List (Int × ν)} {l : List Int} (h : sortDO kvs = some l) : sortK [.dic (dcD kvs)] S = .ok true (.dat (en (Ls.mk l))) S := by
  obtain ⟨⟨c1, c2⟩, e⟩ := ifso h
  subst e
  show (match intKeys (dcD kvs) with | some ns => if ns.length < 64 && (dcD kvs).length != 0 then RE.ok true (.dat (.list ((sortI ns).map .int))) S else .bad | none => .bad) = _
  rw [intKeys_map]
  dsimp only
  rw [if_pos]
  · rfl
  · unfold dcD
    rw [List.length_map, List.length_map]
    simp [c1]
    intro z
    exact c2 (by rw [z]; rfl)
def rgO (a b : Int) : Option (List Int) := if rgOk a b = true then some (rngL a (b - a).toNat) else none
theorem k_rg1t {b : Int} {l : List Int} (h : rgO 0 b = some l) : rg1U false (.dat (en b)) S = .ok false (.dat (en l)) S := by
  obtain ⟨c, e⟩ := ifso h
  subst e
  show rgK false 0 b S = _
  unfold rgK
  rw [if_pos c]
  unfold rgD
  rw [rng_map]; rfl
theorem k_rg2t {a b : Int} {l : List Int} (h : rgO a b = some l) : rg2U false (.dat (en a)) (.dat (en b)) S = .ok false (.dat (en l)) S := by
  obtain ⟨c, e⟩ := ifso h
  subst e
  show rgK false a b S = _
  unfold rgK
  rw [if_pos c]
  unfold rgD
  rw [rng_map]; rfl
theorem k_rg1l {b : Int} {l : List Int} (h : rgO 0 b = some l) : rg1U true (.dat (en b)) S = .ok true (.dat (en (Ls.mk l))) S := by
  obtain ⟨c, e⟩ := ifso h
  subst e
  show rgK true 0 b S = _
  unfold rgK
  rw [if_pos c]
  unfold rgD
  rw [rng_map]; rfl
theorem k_rg2l {a b : Int} {l : List Int} (h : rgO a b = some l) : rg2U true (.dat (en a)) (.dat (en b)) S = .ok true (.dat (en (Ls.mk l))) S := by
  obtain ⟨c, e⟩ := ifso h
  subst e
  show rgK true a b S = _
  unfold rgK
  rw [if_pos c]
  unfold rgD
  rw [rng_map]; rfl
theorem k_isi {α : Type} [Rp α] [Nd α] {gg : D → Bool} {a : α} : isiU gg (.dat (en a)) S = .ok false (.dat (en (gg (en a)))) S := by
  unfold isiU
  dsimp only
  rw [if_pos (Nd.nd a)]; rfl
def isiO (gg : D → Bool) (d : D) : Option Bool := if isDicD d = false then some (gg d) else none
theorem k_isiD {gg : D → Bool} {d : D} {b : Bool} (h : isiO gg d = some b) : isiU gg (.dat (en d)) S = .ok false (.dat (en b)) S := by
  unfold isiO at h
  split at h
  · rename_i c
    cases h
    show isiU gg (.dat d) S = _
    unfold isiU
    dsimp only
    rw [if_pos c]; rfl
  · cases h
/-! tables of the module -/
theorem lookup_map {γ δ : Type} (h : γ → δ) (z : Str) : ∀ l : List (Str × γ), (l.map fun p => (p.1, h p.2)).lookup z = (l.lookup z).map h
  | [] => rfl
  | p :: l => by
    rw [List.map_cons, List.lookup_cons, List.lookup_cons]
    cases e : (z == p.1) with
    | true => simp
    | false => exact lookup_map h z l
theorem k_tab {tt : List (Str × α)} {kd : List (Str × D)} (e : kd = tt.map fun p => (p.1, Rp.enc p.2)) {s : Sx} {r : α} (h : tt.lookup s.1 = some r) : kixU kd (.dat (en s)) S = .ok false (.dat (en r)) S := by
  show (match kd.lookup s.1 with | some d => RE.ok false (.dat d) S | none => .bad) = _
  rw [e, lookup_map, h]; rfl
/-! one's own lists -/
def appO (l : List α) (x : α) : Option (List α) := if l.length < LINE then some (l ++ [x]) else none
theorem own_l {l : List α} (h : S[i]? = some (.ow (.dat (en (Ls.mk l))))) : ownL S i = some (.ow (.dat (en (Ls.mk l))), l.map Rp.enc) := by unfold ownL; rw [h]; rfl
theorem app_ok {l l' r : List α} {x : α} (h0 : S[i]? = some (.ow (.dat (en (Ls.mk l'))))) (hf : f S = .ok o (.dat (en x)) S1) (hz : o = true → frzU (.dat (en x)) = true) (h1 : S1[i]? = some (.ow (.dat (en (Ls.mk l))))) (h : appO l x = some r) :
    onL i f (appK i) S = .ok false (.dat .none) (S1.set i (.ow (.dat (en (Ls.mk r))))) := by
  obtain ⟨c, e⟩ := ifso h
  subst e
  have key : ∀ u, u = U.dat (en x) → (match (Sum.inr u : Acc), ownL S1 i with
    | .inr (.dat d), some (s, ds) => appK i s ds d S1
    | _, _ => RE.bad) = .ok false (.dat .none) (S1.set i (.ow (.dat (en (Ls.mk (l ++ [x])))))) := fun u eu => by
    subst eu
    rw [own_l h1]
    show appK i _ (l.map Rp.enc) (en x) S1 = _
    unfold appK
    rw [if_pos (by rw [List.length_map]; exact c)]
    congr 2
    show Sl.ow (.dat (.list (l.map Rp.enc ++ [en x]))) = .ow (.dat (.list ((l ++ [x]).map Rp.enc)))
    rw [List.map_append]; rfl
  unfold onL
  rw [own_l h0]
  dsimp only [evO]
  rw [hf]
  cases o with
  | false => exact key _ rfl
  | true => dsimp only; rw [if_pos (hz rfl)]; exact key _ rfl
def popO {α : Type} (l : List α) : Option (α × List α) := l.getLast?.bind fun x => some (x, l.dropLast)
theorem pop_ok {l : List α} {r : α × List α} (h0 : S[i]? = some (.ow (.dat (en (Ls.mk l))))) (h : popO l = some r) : popE i S = .ok false (.dat (en r.1)) (S.set i (.ow (.dat (en (Ls.mk r.2))))) := by
  obtain ⟨x, h1, h2⟩ := ob h
  cases h2
  unfold popE
  rw [own_l h0]
  dsimp only
  have e : (l.map Rp.enc)[(l.map Rp.enc).length - 1]? = some (Rp.enc x) := by
    rw [List.length_map, List.getElem?_map, ← List.getLast?_eq_getElem?, h1]; rfl
  rw [e]
  dsimp only
  congr 2
  show Sl.ow (.dat (.list (l.map Rp.enc).dropLast)) = .ow (.dat (.list (l.dropLast.map Rp.enc)))
  rw [List.map_dropLast]
theorem erase_map {α β : Type} (h : α → β) : ∀ (l : List α) (n : Nat), (l.map h).eraseIdx n = (l.eraseIdx n).map h
  | [], _ => rfl
  | _ :: _, 0 => rfl
  | x :: l, n + 1 => by
    show h x :: (l.map h).eraseIdx n = h x :: (l.eraseIdx n).map h
    rw [erase_map h l n]
def popAtO {α : Type} (l : List α) (k : Int) : Option (α × List α) := if small k = true then (ixN l.length k).bind fun n => (l[n]?).bind fun x => some (x, l.eraseIdx n) else none
theorem popAt_ok {l l' : List α} {k : Int} {r : α × List α} (h0 : S[i]? = some (.ow (.dat (en (Ls.mk l'))))) (hf : f S = .ok false (.dat (en k)) S1) (h1 : S1[i]? = some (.ow (.dat (en (Ls.mk l))))) (h : popAtO l k = some r) :
    onL i f (popK i) S = .ok false (.dat (en r.1)) (S1.set i (.ow (.dat (en (Ls.mk r.2))))) := by
  unfold popAtO at h
  split at h
  · rename_i c
    obtain ⟨n, h2, h3⟩ := ob h
    obtain ⟨x, h4, h5⟩ := ob h3
    cases h5
    unfold onL
    rw [own_l h0]
    dsimp only [evO]
    rw [hf]
    dsimp only
    rw [own_l h1]
    show popK i _ (l.map Rp.enc) (.int k) S1 = _
    unfold popK
    dsimp only
    rw [if_pos c, List.length_map, h2]
    dsimp only
    rw [List.getElem?_map, h4]
    dsimp only [Option.map_some]
    congr 2
    show Sl.ow (.dat (.list ((l.map Rp.enc).eraseIdx n))) = .ow (.dat (.list ((l.eraseIdx n).map Rp.enc)))
    rw [erase_map]
  · cases h
def idxO {α : Type} [DecidableEq α] (l : List α) (x : α) : Option Int := (l.findIdx? fun z => decide (z = x)).map fun (n : Nat) => (n : Int)
theorem first_map [DecidableEq α] [Enc α] (x : α) : ∀ (l : List α) (n : Nat), firstD (Rp.enc x) (l.map Rp.enc) n = (l.findIdx? fun z => decide (z = x)).map (· + n)
  | [], n => rfl
  | z :: l, n => by
    rw [List.map_cons, List.findIdx?_cons]
    unfold firstD
    rw [enc_eqv]
    by_cases e : z = x
    · rw [decide_eq_true e, if_pos rfl, if_pos rfl]; simp
    · rw [decide_eq_false e, if_neg (by decide), if_neg (by decide), first_map x l (n + 1)]
      cases l.findIdx? fun z => decide (z = x) <;> simp
      omega
theorem idx_ok [DecidableEq α] [Enc α] {s s' : Sl} {l l' : List α} {x : α} {r : Int} (h0 : (S[i]?).bind Sl.val = some (.dat (en (Ls.mk l')))) (hf : f S = .ok false (.dat (en x)) S1) (h1 : (S1[i]?).bind Sl.val = some (.dat (en (Ls.mk l)))) (hd : Enc.dp α + 1 ≤ 64)
    (h : idxO l x = some r) : indexE i f S = .ok false (.dat (en r)) S1 := by
  unfold idxO at h
  rw [Option.map_eq_some_iff] at h
  obtain ⟨n, h2, h3⟩ := h
  subst h3
  unfold indexE
  have e0 : isLstAt S i = some (l'.map Rp.enc) := by unfold isLstAt; rw [h0]; rfl
  have e1 : isLstAt S1 i = some (l.map Rp.enc) := by unfold isLstAt; rw [h1]; rfl
  rw [e0]
  dsimp only [evO]
  rw [hf]
  dsimp only
  unfold indexK
  dsimp only
  rw [e1]
  dsimp only
  have s1 : SeqAt.shaped (.list (l.map Rp.enc)) = true := shaped_en (Ls.mk l) hd
  rw [s1, shaped_en x (by omega)]
  show (match firstD (Rp.enc x) (l.map Rp.enc) 0 with | some j => RE.ok false (.dat (.int (j : Nat))) S1 | none => .bad) = _
  rw [first_map, h2]; rfl
def setO {α : Type} (l : List α) (k : Int) (x : α) : Option (List α) := (ixN l.length k).map fun n => l.set n x
theorem setL_ok {l l' r : List α} {x : α} {k : Int} (hf : f S = .ok o (.dat (en x)) S1) (hz : o = true → frzU (.dat (en x)) = true) (h0 : S1[i]? = some (.ow (.dat (en (Ls.mk l'))))) (hg : g S1 = .ok false (.dat (en k)) S2) (h1 : S2[i]? = some (.ow (.dat (en (Ls.mk l))))) (h : setO l k x = some r) :
    setX i f g S = .nx (S2.set i (.ow (.dat (en (Ls.mk r))))) := by
  unfold setO at h
  rw [Option.map_eq_some_iff] at h
  obtain ⟨n, h2, h3⟩ := h
  subst h3
  have e0 : ownX S1 i = some (.ow (.dat (en (Ls.mk l'))), .dat (en (Ls.mk l'))) := by unfold ownX; rw [h0]; rfl
  have e1 : ownX S2 i = some (.ow (.dat (en (Ls.mk l))), .dat (en (Ls.mk l))) := by unfold ownX; rw [h1]; rfl
  have key : dropR (setXk i (en x) g S1) = .nx (S2.set i (.ow (.dat (en (Ls.mk (l.set n x)))))) := by
    unfold setXk
    rw [e0]
    dsimp only [evO]
    rw [hg]
    dsimp only
    rw [e1]
    dsimp only
    have ep : putX (.dat (en (Ls.mk l))) (en k) (en x) = some (.dat (en (Ls.mk (l.set n x)))) := by
      show (ixN (l.map Rp.enc).length k).map (fun j => U.dat (.list ((l.map Rp.enc).set j (Rp.enc x)))) = _
      rw [List.length_map, h2, Option.map_some, ← List.map_set]; rfl
    rw [ep]
    rfl
  unfold setX
  rw [hf]
  cases o with
  | false => exact key
  | true => dsimp only; rw [if_neg (by rw [hz rfl]; decide)]; exact key
theorem aug_i {a b : Int} (h0 : S1[i]? = some (.ps (.dat (en a)))) (hs : (S[i]?).bind Sl.val = some (.dat (en a))) (hf : f S = .ok false (.dat (en b)) S1) : augS i f S = .nx (S1.set i (.ps (.dat (en (a + b))))) := by
  unfold augS
  rw [hs]
  dsimp only
  rw [hf]
  show augU i false (.dat (.int b)) S1 = _
  unfold augU
  rw [h0]; rfl
theorem aug_l {a a' b r : List α} (h0 : S1[i]? = some (.ow (.dat (en (Ls.mk a))))) (hs : (S[i]?).bind Sl.val = some (.dat (en (Ls.mk a')))) (hf : f S = .ok true (.dat (en (Ls.mk b))) S1) (h : catO a b = some r) : augS i f S = .nx (S1.set i (.ow (.dat (en (Ls.mk r))))) := by
  obtain ⟨c, e⟩ := ifso h
  subst e
  unfold augS
  rw [hs]
  dsimp only
  rw [hf]
  show augU i true (.dat (.list (b.map Rp.enc))) S1 = _
  unfold augU
  rw [h0]
  show (if true && decide ((a.map Rp.enc).length + (b.map Rp.enc).length ≤ LINE) then _ else _) = _
  rw [List.length_map, List.length_map, if_pos (by simpa using c)]
  congr 2
  show Sl.ow (.dat (.list (a.map Rp.enc ++ b.map Rp.enc))) = .ow (.dat (.list ((a ++ b).map Rp.enc)))
  rw [List.map_append]
/-! dicts -/
def aGet {κ ν : Type} [DecidableEq κ] (kvs : List (κ × ν)) (k : κ) : Option ν := (kvs.find? fun p => decide (p.1 = k)).map (·.2)
def aPut {κ ν : Type} [DecidableEq κ] (kvs : List (κ × ν)) (k : κ) (v : ν) : List (κ × ν) := if kvs.any (fun p => decide (p.1 = k)) = true then kvs.map (fun p => if p.1 = k then (p.1, v) else p) else kvs ++ [(k, v)]
def aPutO {κ ν : Type} [DecidableEq κ] (kvs : List (κ × ν)) (k : κ) (v : ν) : Option (List (κ × ν)) := if kvs.length < LINE then some (aPut kvs k v) else none
section
variable {κ ν : Type} [Rp κ] [Rp ν] [DecidableEq κ] [Ky κ]
theorem kx_iff {a b : κ} : Pl.kx (Rp.enc a) = Pl.kx (Rp.enc b) ↔ a = b := by
  rw [Ky.kx, Ky.kx]
  exact ⟨fun h => Ky.inj a b (Option.some.inj h), fun h => by rw [h]⟩
theorem kx_dec {a b : κ} : decide (Pl.kx (Rp.enc a) = Pl.kx (Rp.enc b)) = decide (a = b) := dec_congr kx_iff
theorem dGet_map {k : κ} : ∀ kvs : List (κ × ν), dGet (dcD kvs) (Rp.enc k) = (aGet kvs k).map Rp.enc := fun kvs => by
  unfold dGet aGet dcD
  rw [List.find?_map, Option.map_map, Option.map_map]
  congr 1
  congr 1
  funext p
  exact kx_dec
theorem kin_ok {k : κ} (kvs : List (κ × ν)) : kin (dcD kvs) (Rp.enc k) = true := by
  unfold kin
  rw [Ky.kx]
  dsimp only
  cases kvs with
  | nil => rfl
  | cons p r =>
    show (match Pl.kx (Rp.enc p.1) with | some y => kinK y == kinK (Ky.ky k) | none => false) = true
    rw [Ky.kx]
    dsimp only
    rw [Ky.kk, Ky.kk]
    simp
theorem ix_x {kvs : List (κ × ν)} {k : κ} {v : ν} (h : aGet kvs k = some v) : ixX (.dic (dcD kvs)) (.dat (en k)) S = .ok false (.dat (en v)) S := by
  unfold ixX
  dsimp only
  rw [kin_ok, if_pos rfl, dGet_map, h]; rfl
theorem b_inX {kvs : List (κ × ν)} {k : κ} : inX (.dat (en k)) (.dic (dcD kvs)) = some (aGet kvs k).isSome := by
  unfold inX
  dsimp only
  rw [kin_ok, if_pos rfl, dGet_map, Option.isSome_map]
/-- a key of another kind -/
def aGetX {κ' : Type} [Rp κ'] [Ky κ'] (kvs : List (κ × ν)) (k : κ') : Option ν := (kvs.find? fun p => decide (Ky.ky p.1 = Ky.ky k)).map (·.2)
theorem dGet_mapX {κ' : Type} [Rp κ'] [Ky κ'] {k : κ'} : ∀ kvs : List (κ × ν), dGet (dcD kvs) (Rp.enc k) = (aGetX kvs k).map Rp.enc := fun kvs => by
  unfold dGet aGetX dcD
  rw [List.find?_map, Option.map_map, Option.map_map]
  congr 1
  congr 1
  funext p
  show decide (Pl.kx (Rp.enc p.1) = Pl.kx (Rp.enc k)) = _
  rw [Ky.kx, Ky.kx]
  exact dec_congr ⟨fun h => Option.some.inj h, fun h => by rw [h]⟩
theorem kin_okX {κ' : Type} [Rp κ'] [Ky κ'] {k : κ'} (kvs : List (κ × ν)) (hk : Ky.kd κ = Ky.kd κ') : kin (dcD kvs) (Rp.enc k) = true := by
  unfold kin
  rw [Ky.kx]
  dsimp only
  cases kvs with
  | nil => rfl
  | cons p r =>
    show (match Pl.kx (Rp.enc p.1) with | some y => kinK y == kinK (Ky.ky k) | none => false) = true
    rw [Ky.kx]
    dsimp only
    rw [Ky.kk, Ky.kk, hk]
    simp
theorem ix_xX {κ' : Type} [Rp κ'] [Ky κ'] {kvs : List (κ × ν)} {k : κ'} {v : ν} (hk : Ky.kd κ = Ky.kd κ') (h : aGetX kvs k = some v) : ixX (.dic (dcD kvs)) (.dat (en k)) S = .ok false (.dat (en v)) S := by
  unfold ixX
  dsimp only
  rw [kin_okX kvs hk, if_pos rfl, dGet_mapX, h]; rfl
theorem b_inXX {κ' : Type} [Rp κ'] [Ky κ'] {kvs : List (κ × ν)} {k : κ'} (hk : Ky.kd κ = Ky.kd κ') : inX (.dat (en k)) (.dic (dcD kvs)) = some (aGetX kvs k).isSome := by
  unfold inX
  dsimp only
  rw [kin_okX kvs hk, if_pos rfl, dGet_mapX, Option.isSome_map]
theorem dPut_map {k : κ} {v : ν} (kvs : List (κ × ν)) : dPut (dcD kvs) (Rp.enc k) (Rp.enc v) = dcD (aPut kvs k v) := by
  unfold dPut aPut
  have e : ((dcD kvs).any fun p => decide (Pl.kx p.1 = Pl.kx (Rp.enc k))) = kvs.any fun p => decide (p.1 = k) := by
    unfold dcD
    rw [List.any_map]
    congr 1
    funext p
    exact kx_dec
  rw [e]
  split
  · unfold dcD
    rw [List.map_map, List.map_map]
    congr 1
    funext p
    show (if Pl.kx (Rp.enc p.1) = Pl.kx (Rp.enc k) then _ else _) = _
    by_cases c : p.1 = k
    · rw [if_pos (kx_iff.mpr c)]
      show _ = ((Rp.enc (if p.1 = k then (p.1, v) else p).1, Rp.enc (if p.1 = k then (p.1, v) else p).2) : D × D)
      rw [if_pos c]
    · rw [if_neg (fun z => c (kx_iff.mp z))]
      show _ = ((Rp.enc (if p.1 = k then (p.1, v) else p).1, Rp.enc (if p.1 = k then (p.1, v) else p).2) : D × D)
      rw [if_neg c]
  · unfold dcD
    rw [List.map_append]; rfl
theorem setX_ok {kvs kvs' r : List (κ × ν)} {x : ν} {k : κ} (hf : f S = .ok o (.dat (en x)) S1) (hz : o = true → frzU (.dat (en x)) = true) (h0 : S1[i]? = some (.ow (.dic (dcD kvs')))) (hg : g S1 = .ok false (.dat (en k)) S2) (h1 : S2[i]? = some (.ow (.dic (dcD kvs))))
    (h : aPutO kvs k x = some r) : setX i f g S = .nx (S2.set i (.ow (.dic (dcD r)))) := by
  obtain ⟨c, e⟩ := ifso h
  subst e
  have e0 : ownX S1 i = some (.ow (.dic (dcD kvs')), .dic (dcD kvs')) := by unfold ownX; rw [h0]; rfl
  have e1 : ownX S2 i = some (.ow (.dic (dcD kvs)), .dic (dcD kvs)) := by unfold ownX; rw [h1]; rfl
  have key : dropR (setXk i (en x) g S1) = .nx (S2.set i (.ow (.dic (dcD (aPut kvs k x))))) := by
    unfold setXk
    rw [e0]
    dsimp only [evO]
    rw [hg]
    dsimp only
    rw [e1]
    dsimp only
    have ep : putX (.dic (dcD kvs)) (en k) (en x) = some (.dic (dcD (aPut kvs k x))) := by
      show (if kin (dcD kvs) (en k) && decide ((dcD kvs).length < LINE) then some (U.dic (dPut (dcD kvs) (en k) (en x))) else none) = _
      rw [kin_ok, dPut_map]
      have : (dcD kvs).length = kvs.length := by unfold dcD; rw [List.length_map]
      rw [this, decide_eq_true c]; rfl
    rw [ep]
    rfl
  unfold setX
  rw [hf]
  cases o with
  | false => exact key
  | true => dsimp only; rw [if_neg (by rw [hz rfl]; decide)]; exact key
end
end
/-! a source of draws -/
/-- a good source of draws -/
def GD (q : List Int) (b : Int) : Prop := q.length ≤ 100 ∧ 0 ≤ b ∧ b < 2147483647
structure Deal where
  q : List Int
  b : Int
  ok : GD q b
def dlU (d : Deal) : U := .dl d.q d.b
/-- enough of so many -/
theorem coe_map {α β : Type} [Rp α] [Rp β] {h : α → β} (k : ∀ x, Rp.enc (h x) = Rp.enc x) (l : List α) : (Rp.enc (l.map h) : D) = Rp.enc l := by
  show PyData.tuple ((l.map h).map Rp.enc) = .tuple (l.map Rp.enc)
  rw [List.map_map]
  congr 2
  funext x
  exact k x
theorem coe_mapL {α β : Type} [Rp α] [Rp β] {h : α → β} (k : ∀ x, Rp.enc (h x) = Rp.enc x) (l : List α) : (Rp.enc (Ls.mk (l.map h)) : D) = Rp.enc (Ls.mk l) := by
  show PyData.list ((l.map h).map Rp.enc) = .list (l.map Rp.enc)
  rw [List.map_map]
  congr 2
  funext x
  exact k x
end Pl

namespace Pl
open PySem L2 PySem.Spec PyProof.Rows
section
variable {S S1 S2 : Sg} {f g : SE} {o : Bool} {u : U} {d : D} {i j : Nat} {α β A ρ : Type} [Rp α] [Rp β]
theorem evO_eq {a : Opn} {x : Acc} {k : Acc → Sg → RE} (h : OpsEv [a] S [x] S1) : evO a S k = k x S1 :=
  (evN_eq (k := fun as st => match as with | [x] => k x st | _ => .bad) (acc := []) h : _)
theorem idxK_map [DecidableEq α] [Enc α] {l : List α} {v : α} {r : Int} (hd : Enc.dp α + 1 ≤ 64) (h : idxO l v = some r) :
    (if SeqAt.shaped (.list (l.map Rp.enc)) && SeqAt.shaped (Rp.enc v) then (match firstD (Rp.enc v) (l.map Rp.enc) 0 with
      | some j => RE.ok false (.dat (.int (j : Nat))) S
      | none => .bad) else .bad) = .ok false (.dat (en r)) S := by
  unfold idxO at h
  rw [Option.map_eq_some_iff] at h
  obtain ⟨n, h2, h3⟩ := h
  subst h3
  have s1 : SeqAt.shaped (.list (l.map Rp.enc)) = true := shaped_en (Ls.mk l) hd
  rw [s1, shaped_en v (by omega)]
  show (match firstD (Rp.enc v) (l.map Rp.enc) 0 with | some j => RE.ok false (.dat (.int (j : Nat))) S | none => .bad) = _
  rw [first_map, h2]; rfl
theorem idxT_ok [DecidableEq α] [Enc α] {a b : Opn} {x y : Acc} {l : List α} {v : α} {r : Int} {dl dv : D} (e1 : en l = dl) (e2 : en v = dv) (h1 : OpsEv [a] S [x] S1) (f1 : fetch S1 x = some (.dat dl)) (h2 : OpsEv [b] S1 [y] S2) (f2 : fetch S2 x = some (.dat dl)) (f3 : fetch S2 y = some (.dat dv))
    (hd : Enc.dp α + 1 ≤ 64) (h : idxO l v = some r) : idxE a b S = .ok false (.dat (en r)) S2 := by
  subst e1 e2
  unfold idxE
  rw [evO_eq h1]
  rw [f1]
  show evO b S1 _ = _
  rw [evO_eq h2]
  rw [f2, f3]
  show idxK (.dat (en l)) (.dat (en v)) S2 = _
  exact idxK_map hd h
theorem idxL_ok [DecidableEq α] [Enc α] {a b : Opn} {x y : Acc} {l : List α} {v : α} {r : Int} {dl dv : D} (e1 : en (Ls.mk l) = dl) (e2 : en v = dv) (h1 : OpsEv [a] S [x] S1) (f1 : fetch S1 x = some (.dat dl)) (h2 : OpsEv [b] S1 [y] S2) (f2 : fetch S2 x = some (.dat dl)) (f3 : fetch S2 y = some (.dat dv))
    (hd : Enc.dp α + 1 ≤ 64) (h : idxO l v = some r) : idxE a b S = .ok false (.dat (en r)) S2 := by
  subst e1 e2
  unfold idxE
  rw [evO_eq h1]
  rw [f1]
  show evO b S1 _ = _
  rw [evO_eq h2]
  rw [f2, f3]
  show idxK (.dat (en (Ls.mk l))) (.dat (en v)) S2 = _
  exact idxK_map hd h
/-! two clauses -/
def lcQ {α β : Type} (step : α → Option (List β)) : List α → Option (List β)
  | [] => some []
  | x :: xs => (step x).bind fun p => (lcQ step xs).bind fun q => some (p ++ q)
theorem lc_inP {own own1 : List Nat} {t1 : Tg} {c1 : ST} {e : SE} {S0 S01 st3 : Sg} {step1 : α → Option (Option β)} {items1 : List α} {r : List β}
    (hs : ∀ x r, step1 x = some r → ∃ st1 b st2, t1.set (Rp.enc x) S01 = some st1 ∧ c1 st1 = .ok b st2 ∧
      match r with
      | some y => b = true ∧ ∃ o st3, e st2 = .ok o (.dat (en y)) st3 ∧ (o = true → frzU (.dat (en y)) = true) ∧ wipeS st3 own1 = S01
      | none => b = false ∧ wipeS st2 own1 = S01) (h0 : wipeS st3 own1 = S01) (hw : wipeS S01 own = S0) (hsub : ∀ i ∈ own1, i ∈ own) (h : lcP step1 items1 = some r) :
    ∀ acc : List D, acc.length + r.length ≤ LINE → ∃ st4, lcL own1 t1 c1 e (items1.map Rp.enc) acc st3 = .ok (acc ++ r.map Rp.enc) st4 ∧ wipeS st4 own = S0 := fun acc hl => by
  obtain ⟨st4, e1, e2⟩ := lc_sim (A := Unit) (Sh := fun _ => S01) (step := fun (a : Unit) x => (step1 x).bind fun r => some (r, a)) (t := t1) (c := c1) (e := e) (own := own1) (fun a x r a' q => by
    obtain ⟨r1, q1, q2⟩ := ob q
    cases q2
    exact hs x r q1) items1 () () r acc st3 (lcP_lcO items1 r h) hl h0
  refine ⟨st4, e1, ?_⟩
  rw [← wipeS_two (st := st4) hsub, e2]
  exact hw
theorem lc2_sim {own own1 : List Nat} {t t1 : Tg} {src1 : SI} {c1 : ST} {e : SE} {S0 : Sg} {step : α → Option (List β)}
    (hs : ∀ x r, step x = some r → ∃ st1 ds1 st3, t.set (Rp.enc x) S0 = some st1 ∧ src1 st1 = .ok ds1 st3 ∧ ∀ acc : List D, acc.length + r.length ≤ LINE → ∃ st4, lcL own1 t1 c1 e ds1 acc st3 = .ok (acc ++ r.map Rp.enc) st4 ∧ wipeS st4 own = S0) :
    ∀ (items : List α) (ys : List β) (acc : List D) (st : Sg), lcQ step items = some ys → acc.length + ys.length ≤ LINE → wipeS st own = S0 → ∃ st', lc2L own own1 t yesT src1 t1 c1 e (items.map Rp.enc) acc st = .ok (acc ++ ys.map Rp.enc) st' ∧ wipeS st' own = S0
  | [], ys, acc, st, h, hl, hw => by
    cases h
    exact ⟨st, by simp [lc2L], hw⟩
  | x :: xs, ys, acc, st, h, hl, hw => by
    obtain ⟨r, h1, h2⟩ := ob h
    obtain ⟨zs, h3, h4⟩ := ob h2
    cases h4
    obtain ⟨st1, ds1, st3, e1, e2, e3⟩ := hs x r h1
    rw [List.length_append] at hl
    obtain ⟨st4, e4, e5⟩ := e3 acc (by omega)
    rw [List.map_cons]
    unfold lc2L
    rw [hw, e1]
    dsimp only
    rw [show yesT st1 = RT.ok true st1 from rfl]
    unfold testR
    dsimp only
    rw [e2]
    unfold srcR
    dsimp only
    rw [e4]
    unfold thenR
    dsimp only
    obtain ⟨st', e7, e8⟩ := lc2_sim hs xs zs (acc ++ r.map Rp.enc) st4 h3 (by rw [List.length_append, List.length_map]; omega) e5
    exact ⟨st', by rw [e7]; simp, e8⟩
theorem lc2_goP {own own1 : List Nat} {t t1 : Tg} {src src1 : SI} {c1 : ST} {e : SE} {S0 : Sg} {step : α → Option (List β)} {items : List α} {r r' : List β} (hsrc : src S = .ok (items.map Rp.enc) S1) (h0 : wipeS S1 own = S0)
    (hs : ∀ x r, step x = some r → ∃ st1 ds1 st3, t.set (Rp.enc x) S0 = some st1 ∧ src1 st1 = .ok ds1 st3 ∧ ∀ acc : List D, acc.length + r.length ≤ LINE → ∃ st4, lcL own1 t1 c1 e ds1 acc st3 = .ok (acc ++ r.map Rp.enc) st4 ∧ wipeS st4 own = S0)
    (h : lcQ step items = some r) (hl : lenP r = some r') : lc2E src own own1 t yesT src1 t1 c1 e S = .ok true (.dat (en (Ls.mk r'))) (restS S1 S0 own) := by
  obtain ⟨l1, l2⟩ := ifso hl
  subst l2
  obtain ⟨st', e1, e2⟩ := lc2_sim hs items r [] S1 h (by simpa using l1) h0
  unfold lc2E
  rw [hsrc]
  dsimp only
  rw [e1]
  unfold lcR
  dsimp only
  rw [e2, List.nil_append]
  rfl
/-! displays with stars; things taken as of other kinds -/
theorem tup_s {fs : List (Bool × SE)} {ds : List D} {l m : List α} (h : lineO l = some m) (p : DisEv fs S ds S1) (e : ds = l.map Rp.enc) : tupE fs S = .ok false (.dat (en m)) S1 := by
  obtain ⟨h1, rfl⟩ := lineO_len h
  subst e
  exact tup_ok p (by rw [List.length_map]; exact h1)
theorem lst_s {fs : List (Bool × SE)} {ds : List D} {l m : List α} (h : lineO l = some m) (p : DisEv fs S ds S1) (e : ds = l.map Rp.enc) : lstE fs S = .ok true (.dat (en (Ls.mk m))) S1 := by
  obtain ⟨h1, rfl⟩ := lineO_len h
  subst e
  exact lst_ok p (by rw [List.length_map]; exact h1)
section
variable {α' β' γ γ' δ δ' : Type} [Rp α'] [Rp β'] [Rp γ] [Rp γ'] [Rp δ] [Rp δ']
theorem coe_p2 {x : α × β} {a : α'} {b : β'} (h1 : (Rp.enc a : D) = Rp.enc x.1) (h2 : (Rp.enc b : D) = Rp.enc x.2) : (Rp.enc (a, b) : D) = Rp.enc x := by
  show PyData.tuple [Rp.enc a, Rp.enc b] = .tuple [Rp.enc x.1, Rp.enc x.2]
  rw [h1, h2]
theorem coe_p3 {x : T3 α β γ} {a : α'} {b : β'} {c : γ'} (h1 : (Rp.enc a : D) = Rp.enc x.a) (h2 : (Rp.enc b : D) = Rp.enc x.b) (h3 : (Rp.enc c : D) = Rp.enc x.c) : (Rp.enc (T3.mk a b c) : D) = Rp.enc x := by
  show PyData.tuple [Rp.enc a, Rp.enc b, Rp.enc c] = .tuple [Rp.enc x.a, Rp.enc x.b, Rp.enc x.c]
  rw [h1, h2, h3]
theorem coe_p4 {x : T4 α β γ δ} {a : α'} {b : β'} {c : γ'} {d : δ'} (h1 : (Rp.enc a : D) = Rp.enc x.a) (h2 : (Rp.enc b : D) = Rp.enc x.b) (h3 : (Rp.enc c : D) = Rp.enc x.c) (h4 : (Rp.enc d : D) = Rp.enc x.d) : (Rp.enc (T4.mk a b c d) : D) = Rp.enc x := by
  show PyData.tuple [Rp.enc a, Rp.enc b, Rp.enc c, Rp.enc d] = .tuple [Rp.enc x.a, Rp.enc x.b, Rp.enc x.c, Rp.enc x.d]
  rw [h1, h2, h3, h4]
theorem coe_t2 {x : α × β} {a b : α'} (h1 : (Rp.enc a : D) = Rp.enc x.1) (h2 : (Rp.enc b : D) = Rp.enc x.2) : (Rp.enc [a, b] : D) = Rp.enc x := by
  show PyData.tuple [Rp.enc a, Rp.enc b] = .tuple [Rp.enc x.1, Rp.enc x.2]
  rw [h1, h2]
theorem coe_t3 {x : T3 α β γ} {a b c : α'} (h1 : (Rp.enc a : D) = Rp.enc x.a) (h2 : (Rp.enc b : D) = Rp.enc x.b) (h3 : (Rp.enc c : D) = Rp.enc x.c) : (Rp.enc [a, b, c] : D) = Rp.enc x := by
  show PyData.tuple [Rp.enc a, Rp.enc b, Rp.enc c] = .tuple [Rp.enc x.a, Rp.enc x.b, Rp.enc x.c]
  rw [h1, h2, h3]
end
end
end Pl

namespace Pl
open PySem L2 PySem.Spec PyProof.Rows
section
variable {α β γ A ρ : Type}
theorem bnd {x : Option α} {a : α} (h : x = some a) (f : α → Option β) : x.bind f = f a := by rw [h]; rfl
/-! loops by what holds -/
theorem loopO_inv {step : A → α → Option A} (I : A → List α → Prop) (hs : ∀ a x xs, I a (x :: xs) → ∃ a', step a x = some a' ∧ I a' xs) : ∀ (xs : List α) (a : A), I a xs → ∃ a', loopO step a xs = some a' ∧ I a' []
  | [], a, h => ⟨a, rfl, h⟩
  | x :: xs, a, h => by
    obtain ⟨a1, e, h1⟩ := hs a x xs h
    obtain ⟨a2, e2, h2⟩ := loopO_inv I hs xs a1 h1
    exact ⟨a2, by unfold loopO; rw [e]; exact e2, h2⟩
/-- a loop that is a fold -/
theorem loopO_fold {step : A → α → Option A} (g : A → α → A) (I : A → List α → Prop) (hs : ∀ a x xs, I a (x :: xs) → step a x = some (g a x) ∧ I (g a x) xs) : ∀ (xs : List α) (a : A), I a xs → loopO step a xs = some (xs.foldl g a)
  | [], a, h => rfl
  | x :: xs, a, h => by
    obtain ⟨e, h1⟩ := hs a x xs h
    unfold loopO
    rw [e]
    exact loopO_fold g I hs xs (g a x) h1
inductive StC (I J : A → Prop) (K : ρ → Prop) : Ctl A ρ → Prop
  | nx {a : A} (h : I a) : StC I J K (.nx a)
  | bk {a : A} (h : J a) : StC I J K (.bk a)
  | rt {r : ρ} (h : K r) : StC I J K (.rt r)
/-- a loop that may end early: J at its end, K at its return -/
theorem loopC_inv {step : A → α → Option (Ctl A ρ)} (I : A → List α → Prop) (J : A → Prop) (K : ρ → Prop) (h0 : ∀ a, I a [] → J a) (hs : ∀ a x xs, I a (x :: xs) → ∃ c, step a x = some c ∧ StC (fun a => I a xs) J K c) :
    ∀ (xs : List α) (a : A), I a xs → (∃ a', loopC step a xs = some (.nx a') ∧ J a') ∨ (∃ r, loopC step a xs = some (.rt r) ∧ K r)
  | [], a, h => .inl ⟨a, rfl, h0 a h⟩
  | x :: xs, a, h => by
    obtain ⟨c, e, q⟩ := hs a x xs h
    unfold loopC
    rw [e]
    cases q with
    | nx q => exact loopC_inv I J K h0 hs xs _ q
    | bk q => exact .inl ⟨_, rfl, q⟩
    | rt q => exact .inr ⟨_, rfl, q⟩
theorem ctl_nx {x : Option (Ctl A ρ)} {a : A} (h : x = some (.nx a)) (f : A → Option γ) (g : ρ → Option γ) : ctlO x f g = f a := by rw [h]; rfl
theorem ctl_rt {x : Option (Ctl A ρ)} {r : ρ} (h : x = some (.rt r)) (f : A → Option γ) (g : ρ → Option γ) : ctlO x f g = g r := by rw [h]; rfl
theorem whileO_inv {c : A → Option Bool} {step : A → Option A} (I : A → Prop) (μ : A → Nat) (J : A → Prop)
    (hs : ∀ a, I a → ∃ b, c a = some b ∧ (b = true → ∃ a', step a = some a' ∧ I a' ∧ μ a' < μ a) ∧ (b = false → J a)) : ∀ (a : A), I a → ∃ a', whileO c step a = some a' ∧ J a' := by
  have key : ∀ (n : Nat) (a : A), μ a < n → I a → ∃ a', whileO c step a = some a' ∧ J a' := by
    intro n
    induction n with
    | zero => intro a h; omega
    | succ n ih =>
      intro a hn h
      obtain ⟨b, e, h1, h2⟩ := hs a h
      rw [whileO_eq, e, Option.bind_some]
      cases b with
      | false => exact ⟨a, rfl, h2 rfl⟩
      | true =>
        obtain ⟨a', e1, h3, h4⟩ := h1 rfl
        rw [if_pos rfl, e1, Option.bind_some]
        exact ih a' (by omega) h3
  exact fun a h => key (μ a + 1) a (by omega) h
/-! comprehensions -/
theorem lcP_map {step : α → Option (Option β)} (g : α → β) : ∀ (l : List α), (∀ x ∈ l, step x = some (some (g x))) → lcP step l = some (l.map g)
  | [], _ => rfl
  | x :: l, h => by
    unfold lcP
    rw [h x List.mem_cons_self, Option.bind_some, lcP_map g l fun y hy => h y (List.mem_cons_of_mem _ hy)]; rfl
theorem lcP_filter {step : α → Option (Option β)} (p : α → Bool) (g : α → β) : ∀ (l : List α), (∀ x ∈ l, step x = some (if p x = true then some (g x) else none)) → lcP step l = some ((l.filter p).map g)
  | [], _ => rfl
  | x :: l, h => by
    unfold lcP
    rw [h x List.mem_cons_self, Option.bind_some, lcP_filter p g l fun y hy => h y (List.mem_cons_of_mem _ hy), Option.bind_some]
    cases e : p x with
    | true => rw [if_pos rfl, List.filter_cons_of_pos e]; rfl
    | false => rw [if_neg (by decide), List.filter_cons_of_neg (by rw [e]; decide)]; rfl
theorem lcO_inv {step : A → α → Option (Option β × A)} (I : A → List α → Prop) (P : β → Prop) (hs : ∀ a x xs, I a (x :: xs) → ∃ r a', step a x = some (r, a') ∧ I a' xs ∧ ∀ y, r = some y → P y) :
    ∀ (xs : List α) (a : A), I a xs → ∃ ys a', lcO step a xs = some (ys, a') ∧ I a' [] ∧ (∀ y ∈ ys, P y) ∧ ys.length ≤ xs.length
  | [], a, h => ⟨[], a, rfl, h, by simp, by simp⟩
  | x :: xs, a, h => by
    obtain ⟨r, a1, e, h1, h2⟩ := hs a x xs h
    obtain ⟨ys, a2, e2, h3, h4, h5⟩ := lcO_inv I P hs xs a1 h1
    refine ⟨r.toList ++ ys, a2, ?_, h3, fun y hy => ?_, ?_⟩
    · unfold lcO
      rw [e, Option.bind_some]
      show (lcO step a1 xs).bind _ = _
      rw [e2]; rfl
    · rcases List.mem_append.mp hy with z | z
      · exact h2 y (Option.mem_toList.mp z)
      · exact h4 y z
    · have : r.toList.length ≤ 1 := by cases r <;> simp
      simp; omega
/-- one item from each -/
theorem lcO_all {step : A → α → Option (Option β × A)} (I : A → List α → Prop) (P : α → β → Prop) (hs : ∀ a x xs, I a (x :: xs) → ∃ y a', step a x = some (some y, a') ∧ I a' xs ∧ P x y) :
    ∀ (xs : List α) (a : A), I a xs → ∃ ys a', lcO step a xs = some (ys, a') ∧ I a' [] ∧ Paired P xs ys
  | [], a, h => ⟨[], a, rfl, h, .nil⟩
  | x :: xs, a, h => by
    obtain ⟨y, a1, e, h1, h2⟩ := hs a x xs h
    obtain ⟨ys, a2, e2, h3, h4⟩ := lcO_all I P hs xs a1 h1
    refine ⟨y :: ys, a2, ?_, h3, .cons h2 h4⟩
    unfold lcO
    rw [e, Option.bind_some]
    show (lcO step a1 xs).bind _ = _
    rw [e2]; rfl
theorem paired_length {P : α → β → Prop} : ∀ {xs : List α} {ys : List β}, Paired P xs ys → xs.length = ys.length
  | _, _, .nil => rfl
  | _, _, .cons _ t => by rw [List.length_cons, List.length_cons, paired_length t]
theorem paired_mem {P : α → β → Prop} : ∀ {xs : List α} {ys : List β}, Paired P xs ys → ∀ y ∈ ys, ∃ x ∈ xs, P x y
  | _, _, .nil, y, h => by cases h
  | _, _, .cons r t, y, h => by
    rcases List.mem_cons.mp h with e | h
    · subst e; exact ⟨_, List.mem_cons_self, r⟩
    · obtain ⟨x, h1, h2⟩ := paired_mem t y h
      exact ⟨x, List.mem_cons_of_mem _ h1, h2⟩
theorem lenP_ok {l : List α} (h : l.length ≤ LINE) : lenP l = some l := if_pos h
theorem lenO_ok {p : List α × A} (h : p.1.length ≤ LINE) : lenO p = some p := if_pos h
theorem appO_ok {l : List α} {x : α} (h : l.length < LINE) : appO l x = some (l ++ [x]) := if_pos h
theorem catO_ok {a b : List α} (h : a.length + b.length ≤ LINE) : catO a b = some (a ++ b) := if_pos h
theorem lineO_ok {a : List α} (h : a.length ≤ LINE) : lineO a = some a := if_pos h
/-! places -/
theorem atI_nat {l : List α} {k : Nat} (h : k < l.length) : atI l (k : Int) = some l[k] := by
  unfold atI ixN
  rw [if_pos (by omega), if_pos (by omega), Option.bind_some, Int.toNat_natCast]
  exact List.getElem?_eq_getElem h
theorem atI_int {l : List α} {k : Int} (h0 : 0 ≤ k) (h : k < l.length) : atI l k = some (l[k.toNat]'(by omega)) := by
  unfold atI ixN
  rw [if_pos h0, if_pos h, Option.bind_some]
  exact List.getElem?_eq_getElem (by omega)
theorem atI_mem {l : List α} {k : Int} (h0 : 0 ≤ k) (h : k < l.length) : ∃ x, atI l k = some x ∧ x ∈ l := ⟨_, atI_int h0 h, List.getElem_mem _⟩
theorem atI_last {l : List α} (h : l ≠ []) : atI l (-1) = some (l.getLast h) := by
  have hl := List.length_pos_iff.mpr h
  unfold atI ixN
  rw [if_neg (by omega), if_pos (by omega), Option.bind_some, List.getLast_eq_getElem]
  have : (-1 + (l.length : Int)).toNat = l.length - 1 := by omega
  rw [this]
  exact List.getElem?_eq_getElem (by omega)
theorem setO_ok {l : List α} {k : Nat} {x : α} (h : k < l.length) : setO l (k : Int) x = some (l.set k x) := by
  unfold setO ixN
  rw [if_pos (by omega), if_pos (by omega), Option.map_some, Int.toNat_natCast]
theorem setO_int {l : List α} {k : Int} {x : α} (h0 : 0 ≤ k) (h : k < l.length) : setO l k x = some (l.set k.toNat x) := by
  unfold setO ixN
  rw [if_pos h0, if_pos h, Option.map_some]
theorem cut_take {l : List α} {k : Int} (h : 0 ≤ k) : cut l none (some k) = l.take k.toNat := by
  have e : HT.sIx l.length l.length (some k) = min k.toNat l.length := by unfold HT.sIx; simp [h]; omega
  unfold cut
  rw [e, show HT.sIx l.length 0 none = 0 from rfl, List.drop_zero, Nat.sub_zero]
  rcases Nat.le_total k.toNat l.length with h | h
  · rw [Nat.min_eq_left h]
  · rw [Nat.min_eq_right h, List.take_of_length_le (Nat.le_refl _), List.take_of_length_le h]
theorem cut_drop {l : List α} {k : Int} (h : 0 ≤ k) : cut l (some k) none = l.drop k.toNat := by
  have e : HT.sIx l.length 0 (some k) = min k.toNat l.length := by unfold HT.sIx; simp [h]; omega
  unfold cut
  rw [e, show HT.sIx l.length l.length none = l.length from rfl]
  rcases Nat.le_total k.toNat l.length with h | h
  · rw [Nat.min_eq_left h, List.take_of_length_le (by simp)]
  · rw [Nat.min_eq_right h, List.drop_of_length_le (Nat.le_refl _), List.drop_of_length_le h]; simp
theorem cut_full {l : List α} : cut l none none = l := by
  unfold cut
  rw [show HT.sIx l.length 0 none = 0 from rfl, show HT.sIx l.length l.length none = l.length from rfl]; simp
theorem cut_sub (l : List α) (lo hi : Option Int) : (cut l lo hi).Sublist l := (List.take_sublist _ _).trans (List.drop_sublist _ _)
theorem cut_mid {l : List α} {i j : Int} (h0 : 0 ≤ i) (h1 : 0 ≤ j) : cut l (some i) (some j) = (l.drop i.toNat).take (j.toNat - i.toNat) := by
  have e : HT.sIx l.length 0 (some i) = min i.toNat l.length := by unfold HT.sIx; simp [h0]; omega
  have e2 : HT.sIx l.length l.length (some j) = min j.toNat l.length := by unfold HT.sIx; simp [h1]; omega
  unfold cut
  rw [e, e2]
  rcases Nat.le_total i.toNat l.length with h | h
  · rw [Nat.min_eq_left h]
    rcases Nat.le_total j.toNat l.length with h2 | h2
    · rw [Nat.min_eq_left h2]
    · rw [Nat.min_eq_right h2, List.take_of_length_le (by simp), List.take_of_length_le (by simp; omega)]
  · rw [Nat.min_eq_right h, List.drop_of_length_le (Nat.le_refl _), List.drop_of_length_le h]; simp
theorem rng1O_nat {n : Nat} (h : n ≤ 1000000) : rng1O (n : Int) = some ((List.range n).map fun (i : Nat) => (i : Int)) := by
  have hs : small (n : Int) = true := decide_eq_true (by
    have : (2 : Int) ^ 62 = 4611686018427387904 := by decide
    omega)
  unfold rng1O rngL
  rw [if_pos hs, Int.toNat_natCast]
  simp only [Int.zero_add]
theorem rng1O_int {k : Int} (h0 : 0 ≤ k) (h : k ≤ 1000000) : rng1O k = some ((List.range k.toNat).map fun (i : Nat) => (i : Int)) := by
  have : k = (k.toNat : Int) := by omega
  rw [this, rng1O_nat (by omega), Int.toNat_natCast]
/-! numbers -/
theorem log_le {n : Int} {k : Nat} (h : n.natAbs < 2 ^ k) : n.natAbs.log2 ≤ k := by
  by_cases z : n.natAbs = 0
  · rw [z, show Nat.log2 0 = 0 from by decide]; exact Nat.zero_le _
  · exact Nat.le_of_lt ((Nat.log2_lt z).mpr h)
theorem log_le' {n : Int} (h : n.natAbs ≤ 10000000000000000000000000) : n.natAbs.log2 ≤ 84 := log_le (n := n) (k := 84) (Nat.lt_of_le_of_lt h (by decide))
theorem mulO_ok {a b : Int} (h1 : a.natAbs ≤ 10000000000000000000000000) (h2 : b.natAbs ≤ 10000000000000000000000000) : mulO a b = some (a * b) := by
  have e1 := log_le' h1
  have e2 := log_le' h2
  clear h1 h2
  unfold mulO
  rw [if_pos (by omega)]
theorem modO_ok {a b : Int} (h : 0 < b) : modO a b = some (a % b) := if_pos h
theorem fdivO_ok {a b : Int} (h : 0 < b) (h2 : b.natAbs ≤ 10000000000000000000000000) : fdivO a b = some (a / b) := by
  have e2 := log_le' h2
  clear h2
  unfold fdivO
  rw [if_pos ⟨h, by omega⟩]
theorem log10 : ((10 : Int).natAbs : Nat) < 2 ^ 64 := by decide
theorem powO_ok {a b : Int} (h0 : 0 ≤ b) (h1 : b ≤ 1000000) (h2 : a.natAbs < 2 ^ 64) : powO a b = some (a ^ b.toNat) := if_pos ⟨h0, h1, h2⟩
/-! lists of one's own -/
theorem popO_append (l : List α) (x : α) : popO (l ++ [x]) = some (x, l) := by
  unfold popO
  rw [List.getLast?_append]
  simp
theorem popAtO_ok {l : List α} {k : Nat} (h : k < l.length) (h2 : k < 1000000) : popAtO l (k : Int) = some (l[k], l.eraseIdx k) := by
  have hs : small (k : Int) = true := decide_eq_true (by
    have : (2 : Int) ^ 62 = 4611686018427387904 := by decide
    omega)
  unfold popAtO ixN
  rw [if_pos hs, if_pos (by omega), if_pos (by omega), Option.bind_some, Int.toNat_natCast, List.getElem?_eq_getElem h]; rfl
/-! sorted -/
theorem insI_sorted (x : Int) : ∀ l : List Int, l.Pairwise (· ≤ ·) → (insI x l).Pairwise (· ≤ ·)
  | [], _ => by simp [insI]
  | y :: r, h => by
    unfold insI
    split
    · rename_i c
      refine List.pairwise_cons.mpr ⟨fun z hz => ?_, h⟩
      rcases List.mem_cons.mp hz with e | hz
      · subst e; exact c
      · exact Int.le_trans c ((List.pairwise_cons.mp h).1 z hz)
    · rename_i c
      refine List.pairwise_cons.mpr ⟨fun z hz => ?_, insI_sorted x r (List.pairwise_cons.mp h).2⟩
      rcases List.mem_cons.mp ((insI_perm x r).mem_iff.mp hz) with e | hz
      · subst e; omega
      · exact (List.pairwise_cons.mp h).1 z hz
theorem sortI_sorted : ∀ l : List Int, (sortI l).Pairwise (· ≤ ·)
  | [] => .nil
  | x :: r => insI_sorted x _ (sortI_sorted r)
theorem sortI_strict {l : List Int} (h : l.Nodup) : (sortI l).Pairwise (· < ·) := by
  have h1 := sortI_sorted l
  have h2 : (sortI l).Nodup := (sortI_perm l).nodup_iff.mpr h
  refine (h1.and h2).imp ?_
  rintro a b ⟨h3, h4⟩
  omega
theorem sortI_length (l : List Int) : (sortI l).length = l.length := (sortI_perm l).length_eq
/-! dicts -/
section
variable {κ ν : Type} [DecidableEq κ]
theorem aGet_put (kvs : List (κ × ν)) (k : κ) (v : ν) (z : κ) : aGet (aPut kvs k v) z = if z = k then some v else aGet kvs z := by
  unfold aPut
  split
  · rename_i h
    induction kvs with
    | nil => simp at h
    | cons p r ih =>
      rw [List.map_cons]
      by_cases e : p.1 = k
      · rw [if_pos e]
        by_cases c : z = k
        · subst c; unfold aGet; simp [e]
        · rw [if_neg c]
          unfold aGet
          have c' : ¬ p.1 = z := fun q => c (by rw [← q, e])
          simp only [List.find?_cons, c', decide_false]
          by_cases c2 : r.any (fun p => decide (p.1 = k)) = true
          · have := ih c2
            rw [if_neg c] at this
            exact this
          · have : r.map (fun p => if p.1 = k then (p.1, v) else p) = r := by
              conv => rhs; rw [← List.map_id r]
              apply List.map_congr_left
              intro q hq
              have : ¬ q.1 = k := fun w => c2 (List.any_eq_true.mpr ⟨q, hq, by simp [w]⟩)
              rw [if_neg this]; rfl
            rw [this]
      · rw [if_neg e]
        have h' : r.any (fun p => decide (p.1 = k)) = true := by simpa [e] using h
        have := ih h'
        unfold aGet at this ⊢
        by_cases c : p.1 = z
        · have : ¬ z = k := fun q => e (by rw [c, q])
          simp [c, this]
        · simp only [List.find?_cons, c, decide_false]
          exact this
  · rename_i h
    unfold aGet
    rw [List.find?_append]
    have hn : ∀ p ∈ kvs, ¬ p.1 = k := fun p hp q => h (List.any_eq_true.mpr ⟨p, hp, by simp [q]⟩)
    by_cases c : z = k
    · subst c
      have : kvs.find? (fun p => decide (p.1 = z)) = none := by
        rw [List.find?_eq_none]
        intro p hp
        simp [hn p hp]
      simp [this]
    · have c' : ¬ k = z := fun q => c q.symm
      simp [c, c']
theorem aPut_keys (kvs : List (κ × ν)) (k : κ) (v : ν) : (aPut kvs k v).map (·.1) = if k ∈ kvs.map (·.1) then kvs.map (·.1) else kvs.map (·.1) ++ [k] := by
  unfold aPut
  have e : (kvs.any (fun p => decide (p.1 = k)) = true) ↔ k ∈ kvs.map (·.1) := by
    rw [List.any_eq_true, List.mem_map]
    constructor
    · rintro ⟨p, h1, h2⟩; exact ⟨p, h1, by simpa using h2⟩
    · rintro ⟨p, h1, h2⟩; exact ⟨p, h1, by simpa using h2⟩
  by_cases c : k ∈ kvs.map (·.1)
  · rw [if_pos (e.mpr c), if_pos c, List.map_map]
    apply List.map_congr_left
    intro p _
    show (if p.1 = k then (p.1, v) else p).1 = p.1
    split <;> rfl
  · rw [if_neg (fun z => c (e.mp z)), if_neg c, List.map_append]; rfl
theorem aPut_nodup {kvs : List (κ × ν)} {k : κ} {v : ν} (h : (kvs.map (·.1)).Nodup) : ((aPut kvs k v).map (·.1)).Nodup := by
  rw [aPut_keys]
  split
  · exact h
  · rename_i c
    rw [List.nodup_append]
    refine ⟨h, by simp, fun a ha b hb e => ?_⟩
    have : b = k := by simpa using hb
    rw [e, this] at ha
    exact c ha
theorem aPut_len (kvs : List (κ × ν)) (k : κ) (v : ν) : (aPut kvs k v).length = if k ∈ kvs.map (·.1) then kvs.length else kvs.length + 1 := by
  have h := congrArg List.length (aPut_keys kvs k v)
  rw [List.length_map] at h
  rw [h]
  split <;> simp
end
end
end Pl

namespace Pl
open PySem L2 PySem.Spec PyProof.Rows
def top (i : Nat) : Stmt := PySem.Challenge.pw_plainlybest_k03_whole_others_and_least_w.main.body.getD i (.Pass ⟨0, 0, 0, 0⟩)
/-! profiles -/
theorem sc_profiles : FnScope ["market", "found", "ladder", "profile", "level"] ["market"] (defScope (top 1)) := ⟨rfl, rfl, rfl, by decide +kernel, rfl, by decide +kernel, by decide +kernel⟩
theorem po_profiles : PoB "profiles" (top 1) ["market"] := fun _ _ _ _ _ _ us hl => match us, hl with | [_], _ => rfl
noncomputable def l0_profiles : SE := lc2E (seqI (varE 1)) [3, 4] [4] (nameT 3) yesT (seqI (varE 2)) (nameT 4) (yesT) (tupE [(true, varE 3), (false, varE 4)])
noncomputable def b1_profiles : SS := fgS [2] (fzS 1 (asgS 1 (l0_profiles)))
noncomputable def s_profiles : SS := seqS (fzS 1 (asgS 1 (lstE [(false, tupE [])]))) (seqS (forO 0 (nameT 2) b1_profiles) (retS (biE [.rd 1] tupleK)))
noncomputable def f_profiles : SF := bodyF [false] 5 s_profiles
def k_profiles : Nat := 1
theorem ok_profiles {P : Program} {w : World} {K : PySem.W.Frag} {mg : Str → Option Value} {base : Heap} {ca : Nat → Addr} (a : At K mg "profiles" (top 1)) (m_tuple : mg "tuple" = none)   : Has P w K mg base ca "profiles" (top 1) ["market"] [false] k_profiles f_profiles :=
  Has.def_ (k := 0) (N := ["market", "found", "ladder", "profile", "level"]) a sc_profiles rfl (fun f fd F => F.bindsN po_profiles) (fun f cdv A outer s H E fr hF hr => by
    have hv := hv_of hr
    have hu := hu_of64 hr
    have hw := hw_of hr
    exact jb_cons (js_fz (js_set (i := 1) sc_profiles.nd rfl (Or.inl rfl) (je_lst (jd_cons (je_tup jd_nil) jd_nil)))) (jb_cons (js_forO hF (passes_of rfl) rfl (pv 0) (fun F1 hF1 => jg_name sc_profiles.nd (i := 2) rfl (Or.inr rfl)) (fun F1 hF1 => jb_fg (jb_one (js_fz (js_setLc2 (i := 1) (own := [("profile", 3), ("level", 4)]) (own1 := [4]) rfl sc_profiles.nd rfl rfl (sw_true rfl rfl rfl rfl) (ji_seq (hF1.trans hF) (je_var (pv 1))) (blkOk_by (N := ["market", "found", "ladder", "profile", "level"]) (sc := defScope (top 1)) (by decide +kernel)) (fun s2 H2 C2 cl2 fp2 F2 hF2 => jg_name sc_profiles.nd (i := 3) rfl (Or.inl rfl)) (fun s2 H2 C2 cl2 fp2 => jts_nil) (fun s2 H2 C2 cl2 fp2 F2 hF2 => ji_seq (hF2.trans (hF1.trans hF)) (je_var (pv 2))) (fun s2 H2 C2 cl2 fp2 F2 hF2 => jg_name sc_profiles.nd (i := 4) rfl (Or.inl rfl)) (fun s2 H2 C2 cl2 fp2 => jts_nil) (fun s2 H2 C2 cl2 fp2 F2 hF2 => je_tup (jd_star (hF2.trans (hF1.trans hF)) (je_var (pv 3)) (jd_cons (je_var (pv 4)) jd_nil)))))))) (jb_one (js_ret (je_tuple hF rfl m_tuple (ja_cons (jo_rd (pv 1)) ja_nil))))))
/-! place_of -/
theorem sc_place_of : FnScope ["market", "profile", "place", "level", "ladder"] ["market", "profile"] (defScope (top 2)) := ⟨rfl, rfl, rfl, by decide +kernel, rfl, by decide +kernel, by decide +kernel⟩
theorem po_place_of : PoB "place_of" (top 2) ["market", "profile"] := fun _ _ _ _ _ _ us hl => match us, hl with | [_, _], _ => rfl
noncomputable def b0_place_of : SS := fgS [3, 4] (fzS 2 (asgS 2 (ev2 (.ev (ev2 (.rd 2) (.ev (biE [.rd 4] lenX)) mulU)) (.ev (idxE (.rd 4) (.rd 3))) addU)))
noncomputable def s_place_of : SS := seqS (asgS 2 (intE 0)) (seqS (forS (zipI (varE 1) (varE 0)) (tupT [nameT 3, nameT 4]) b0_place_of) (retS (frzE (movE 2))))
noncomputable def f_place_of : SF := bodyF [false, false] 5 s_place_of
def k_place_of : Nat := 1
theorem ok_place_of {P : Program} {w : World} {K : PySem.W.Frag} {mg : Str → Option Value} {base : Heap} {ca : Nat → Addr} (a : At K mg "place_of" (top 2)) (m_zip : mg "zip" = none) (m_len : mg "len" = none)   : Has P w K mg base ca "place_of" (top 2) ["market", "profile"] [false, false] k_place_of f_place_of :=
  Has.def_ (k := 0) (N := ["market", "profile", "place", "level", "ladder"]) a sc_place_of rfl (fun f fd F => F.bindsN po_place_of) (fun f cdv A outer s H E fr hF hr => by
    have hv := hv_of hr
    have hu := hu_of64 hr
    have hw := hw_of hr
    exact jb_cons (js_set (i := 2) sc_place_of.nd rfl (Or.inl rfl) (je_int)) (jb_cons (js_for (passes_of rfl) rfl (ji_zip hF rfl m_zip (je_var (pv 1)) (je_var (pv 0))) (jg_tup hF rfl (jgs_cons (jg_name sc_place_of.nd (i := 3) rfl (Or.inl rfl)) (jgs_cons (jg_name sc_place_of.nd (i := 4) rfl (Or.inl rfl)) jgs_nil))) (jb_fg (jb_one (js_fz (js_set (i := 2) sc_place_of.nd rfl (Or.inl rfl) (je_add hF (jo_ev (je_mul (jo_rd (pv 2)) (jo_ev (je_lenX hF rfl m_len (ja_cons (jo_rd (pv 4)) ja_nil))))) (jo_ev (je_idx hF hv (jo_rd (pv 4)) (jo_rd (pv 3)))))))))) (jb_one (js_ret (je_frz (je_mov (pv 2)))))))
/-! lot_at -/
theorem sc_lot_at : FnScope ["rule", "profile"] ["rule", "profile"] (defScope (top 4)) := ⟨rfl, rfl, rfl, by decide +kernel, rfl, by decide +kernel, by decide +kernel⟩
theorem po_lot_at : PoB "lot_at" (top 4) ["rule", "profile"] := fun _ _ _ _ _ _ us hl => match us, hl with | [_, _], _ => rfl
noncomputable def c0_lot_at : SE := callE [false, false] (f_place_of) [.ev (ev2 (.rd 0) (.ev (intE 0)) ixX), .ev (varE 1)]
noncomputable def s_lot_at : SS := retS (ev2 (.ev (ev2 (.rd 0) (.ev (intE 1)) ixX)) (.ev (c0_lot_at)) ixX)
noncomputable def f_lot_at : SF := bodyF [false, false] 2 s_lot_at
def k_lot_at : Nat := 2
theorem ok_lot_at {P : Program} {w : World} {K : PySem.W.Frag} {mg : Str → Option Value} {base : Heap} {ca : Nat → Addr} (a : At K mg "lot_at" (top 4))   (h_place_of : Has P w K mg base ca "place_of" (top 2) ["market", "profile"] [false, false] k_place_of f_place_of) : Has P w K mg base ca "lot_at" (top 4) ["rule", "profile"] [false, false] k_lot_at f_lot_at :=
  Has.def_ (k := 1) (N := ["rule", "profile"]) a sc_lot_at rfl (fun f fd F => F.bindsN po_lot_at) (fun f cdv A outer s H E fr hF hr => by
    have hr_place_of := hr.mono (show k_place_of ≤ 1 by decide)
    have hv := hv_of hr
    have hu := hu_of64 hr
    have hw := hw_of hr
    exact jb_one (js_ret (je_ixd hF hv (jo_ev (je_ixd hF hv (jo_rd (pv 0)) (jo_ev (je_int)))) (jo_ev (je_callH h_place_of hr_place_of rfl (takes_of rfl rfl rfl rfl) hF (ja_cons (jo_ev (je_ixd hF hv (jo_rd (pv 0)) (jo_ev (je_int)))) (ja_cons (jo_ev (je_var (pv 1))) ja_nil)))))))
/-! wins -/
theorem sc_wins : FnScope ["rule", "profile", "buyer"] ["rule", "profile", "buyer"] (defScope (top 5)) := ⟨rfl, rfl, rfl, by decide +kernel, rfl, by decide +kernel, by decide +kernel⟩
theorem po_wins : PoB "wins" (top 5) ["rule", "profile", "buyer"] := fun _ _ _ _ _ _ us hl => match us, hl with | [_, _, _], _ => rfl
noncomputable def c0_wins : SE := callE [false, false] (f_lot_at) [.ev (varE 0), .ev (varE 1)]
noncomputable def s_wins : SS := retS (cmpE (.rd 2) (.ev (c0_wins)) inX)
noncomputable def f_wins : SF := bodyF [false, false, false] 3 s_wins
def k_wins : Nat := 3
theorem ok_wins {P : Program} {w : World} {K : PySem.W.Frag} {mg : Str → Option Value} {base : Heap} {ca : Nat → Addr} (a : At K mg "wins" (top 5))   (h_lot_at : Has P w K mg base ca "lot_at" (top 4) ["rule", "profile"] [false, false] k_lot_at f_lot_at) : Has P w K mg base ca "wins" (top 5) ["rule", "profile", "buyer"] [false, false, false] k_wins f_wins :=
  Has.def_ (k := 2) (N := ["rule", "profile", "buyer"]) a sc_wins rfl (fun f fd F => F.bindsN po_wins) (fun f cdv A outer s H E fr hF hr => by
    have hr_lot_at := hr.mono (show k_lot_at ≤ 2 by decide)
    have hv := hv_of hr
    have hu := hu_of64 hr
    have hw := hw_of hr
    exact jb_one (js_ret (je_cmp hF (cmp_inX hv) (jo_rd (pv 2)) (jo_ev (je_callH h_lot_at hr_lot_at rfl (takes_of rfl rfl rfl rfl) hF (ja_cons (jo_ev (je_var (pv 0))) (ja_cons (jo_ev (je_var (pv 1))) ja_nil)))) (by rfl))))
/-! others_of -/
theorem sc_others_of : FnScope ["market", "buyer", "at", "ladder"] ["market", "buyer"] (defScope (top 6)) := ⟨rfl, rfl, rfl, by decide +kernel, rfl, by decide +kernel, by decide +kernel⟩
theorem po_others_of : PoB "others_of" (top 6) ["market", "buyer"] := fun _ _ _ _ _ _ us hl => match us, hl with | [_, _], _ => rfl
noncomputable def l0_others_of : SE := lcE (enumI (varE 0)) [2, 3] (tupT [nameT 2, nameT 3]) (yesT) (ifE (tst (cmpE (.rd 2) (.rd 1) eqB)) (tupE [(false, nonE)]) (frzE (varE 3)))
noncomputable def c1_others_of : SE := callE [false] (f_profiles) [.ev (l0_others_of)]
noncomputable def s_others_of : SS := retS (frzE (c1_others_of))
noncomputable def f_others_of : SF := bodyF [false, false] 4 s_others_of
def k_others_of : Nat := 2
theorem ok_others_of {P : Program} {w : World} {K : PySem.W.Frag} {mg : Str → Option Value} {base : Heap} {ca : Nat → Addr} (a : At K mg "others_of" (top 6)) (m_enumerate : mg "enumerate" = none)  (h_profiles : Has P w K mg base ca "profiles" (top 1) ["market"] [false] k_profiles f_profiles) : Has P w K mg base ca "others_of" (top 6) ["market", "buyer"] [false, false] k_others_of f_others_of :=
  Has.def_ (k := 1) (N := ["market", "buyer", "at", "ladder"]) a sc_others_of rfl (fun f fd F => F.bindsN po_others_of) (fun f cdv A outer s H E fr hF hr => by
    have hr_profiles := hr.mono (show k_profiles ≤ 1 by decide)
    have hv := hv_of hr
    have hu := hu_of64 hr
    have hw := hw_of hr
    exact jb_one (js_ret (je_frz (je_callH h_profiles hr_profiles rfl (takes_of rfl rfl rfl rfl) hF (ja_cons (jo_ev (je_lc (own := [("at", 2), ("ladder", 3)]) rfl sc_others_of.nd (ji_enum hF rfl m_enumerate (je_var (pv 0))) (blkOk_by (N := ["market", "buyer", "at", "ladder"]) (sc := defScope (top 6)) (by decide +kernel)) (fun s1 H1 C1 cl1 fp1 F1 hF1 => jg_tup (hF1.trans hF) rfl (jgs_cons (jg_name sc_others_of.nd (i := 2) rfl (Or.inl rfl)) (jgs_cons (jg_name sc_others_of.nd (i := 3) rfl (Or.inl rfl)) jgs_nil))) (fun s1 H1 C1 cl1 fp1 => jts_nil) (fun s1 H1 C1 cl1 fp1 F1 hF1 => je_if (jt_cmp (hF1.trans hF) (cmp_eq hu) (jo_rd (pv 2)) (jo_rd (pv 1)) (nomark _)) (je_tup (jd_cons (je_non) jd_nil)) (je_frz (je_var (pv 3)))))) ja_nil)))))
/-! with_level -/
theorem sc_with_level : FnScope ["others", "buyer", "level"] ["others", "buyer", "level"] (defScope (top 7)) := ⟨rfl, rfl, rfl, by decide +kernel, rfl, by decide +kernel, by decide +kernel⟩
theorem po_with_level : PoB "with_level" (top 7) ["others", "buyer", "level"] := fun _ _ _ _ _ _ us hl => match us, hl with | [_, _, _], _ => rfl
noncomputable def s_with_level : SS := retS (frzE (ev2 (.ev (ev2 (.ev (biE [.rd 0, .rd 1] slK01)) (.ev (tupE [(false, varE 2)])) addU)) (.ev (biE [.rd 0, .ev (ev2 (.rd 1) (.ev (intE 1)) addU)] slK10)) addU))
noncomputable def f_with_level : SF := bodyF [false, false, false] 3 s_with_level
def k_with_level : Nat := 1
theorem ok_with_level {P : Program} {w : World} {K : PySem.W.Frag} {mg : Str → Option Value} {base : Heap} {ca : Nat → Addr} (a : At K mg "with_level" (top 7))    : Has P w K mg base ca "with_level" (top 7) ["others", "buyer", "level"] [false, false, false] k_with_level f_with_level :=
  Has.def_ (k := 0) (N := ["others", "buyer", "level"]) a sc_with_level rfl (fun f fd F => F.bindsN po_with_level) (fun f cdv A outer s H E fr hF hr => by
    have hv := hv_of hr
    have hu := hu_of64 hr
    have hw := hw_of hr
    exact jb_one (js_ret (je_frz (je_add hF (jo_ev (je_add hF (jo_ev (je_sl01 hF (jo_rd (pv 0)) (jo_rd (pv 1)))) (jo_ev (je_tup (jd_cons (je_var (pv 2)) jd_nil))))) (jo_ev (je_sl10 hF (jo_rd (pv 0)) (jo_ev (je_add hF (jo_rd (pv 1)) (jo_ev (je_int))))))))))
/-! falling_pair -/
theorem sc_falling_pair : FnScope ["rule", "market", "buyer", "ladder", "others", "low", "high", "one", "other"] ["rule"] (defScope (top 8)) := ⟨rfl, rfl, rfl, by decide +kernel, rfl, by decide +kernel, by decide +kernel⟩
theorem po_falling_pair : PoB "falling_pair" (top 8) ["rule"] := fun _ _ _ _ _ _ us hl => match us, hl with | [_], _ => rfl
noncomputable def c0_falling_pair : SE := callE [false, false] (f_others_of) [.ev (varE 1), .ev (varE 2)]
noncomputable def c1_falling_pair : SE := callE [false, false, false] (f_wins) [.ev (varE 0), .ev (varE 8), .ev (varE 2)]
noncomputable def c2_falling_pair : SE := callE [false, false, false] (f_wins) [.ev (varE 0), .ev (varE 7), .ev (varE 2)]
noncomputable def c3_falling_pair : SE := callE [false, false, false] (f_with_level) [.ev (varE 4), .ev (varE 2), .ev (varE 5)]
noncomputable def c4_falling_pair : SE := callE [false, false, false] (f_with_level) [.ev (varE 4), .ev (varE 2), .ev (varE 6)]
noncomputable def b5_falling_pair : SS := fgS [5, 6, 7, 8] (seqS (fzS 8 (fzS 7 (par2S 7 8 (c3_falling_pair) (c4_falling_pair)))) (ifS (andT (tst (c2_falling_pair)) (notT (tst (c1_falling_pair)))) (retS (tupE [(false, varE 2), (false, varE 7), (false, varE 8)])) (passS)))
noncomputable def b6_falling_pair : SS := fgS [4, 5, 6, 7, 8] (forS (zipI (varE 3) (biE [.rd 3, .ev (intE 1)] slK10)) (tupT [nameT 5, nameT 6]) b5_falling_pair)
noncomputable def b7_falling_pair : SS := fgS [2, 3, 4, 5, 6, 7, 8] (forS (seqI (c0_falling_pair)) (nameT 4) b6_falling_pair)
noncomputable def s_falling_pair : SS := seqS (asgS 1 (ev2 (.rd 0) (.ev (intE 0)) ixX)) (seqS (forS (enumI (varE 1)) (tupT [nameT 2, nameT 3]) b7_falling_pair) (retS (nonE)))
noncomputable def f_falling_pair : SF := bodyF [false] 9 s_falling_pair
def k_falling_pair : Nat := 4
theorem ok_falling_pair {P : Program} {w : World} {K : PySem.W.Frag} {mg : Str → Option Value} {base : Heap} {ca : Nat → Addr} (a : At K mg "falling_pair" (top 8)) (m_enumerate : mg "enumerate" = none) (m_zip : mg "zip" = none)  (h_others_of : Has P w K mg base ca "others_of" (top 6) ["market", "buyer"] [false, false] k_others_of f_others_of) (h_wins : Has P w K mg base ca "wins" (top 5) ["rule", "profile", "buyer"] [false, false, false] k_wins f_wins) (h_with_level : Has P w K mg base ca "with_level" (top 7) ["others", "buyer", "level"] [false, false, false] k_with_level f_with_level) : Has P w K mg base ca "falling_pair" (top 8) ["rule"] [false] k_falling_pair f_falling_pair :=
  Has.def_ (k := 3) (N := ["rule", "market", "buyer", "ladder", "others", "low", "high", "one", "other"]) a sc_falling_pair rfl (fun f fd F => F.bindsN po_falling_pair) (fun f cdv A outer s H E fr hF hr => by
    have hr_others_of := hr.mono (show k_others_of ≤ 3 by decide)
    have hr_wins := hr.mono (show k_wins ≤ 3 by decide)
    have hr_with_level := hr.mono (show k_with_level ≤ 3 by decide)
    have hv := hv_of hr
    have hu := hu_of64 hr
    have hw := hw_of hr
    exact jb_cons (js_set (i := 1) sc_falling_pair.nd rfl (Or.inl rfl) (je_ixd hF hv (jo_rd (pv 0)) (jo_ev (je_int)))) (jb_cons (js_for (passes_of rfl) rfl (ji_enum hF rfl m_enumerate (je_var (pv 1))) (jg_tup hF rfl (jgs_cons (jg_name sc_falling_pair.nd (i := 2) rfl (Or.inl rfl)) (jgs_cons (jg_name sc_falling_pair.nd (i := 3) rfl (Or.inl rfl)) jgs_nil))) (jb_fg (jb_one (js_for (passes_of rfl) rfl (ji_seq hF (je_callH h_others_of hr_others_of rfl (takes_of rfl rfl rfl rfl) hF (ja_cons (jo_ev (je_var (pv 1))) (ja_cons (jo_ev (je_var (pv 2))) ja_nil)))) (jg_name sc_falling_pair.nd (i := 4) rfl (Or.inl rfl)) (jb_fg (jb_one (js_for (passes_of rfl) rfl (ji_zip hF rfl m_zip (je_var (pv 3)) (je_sl10 hF (jo_rd (pv 3)) (jo_ev (je_int)))) (jg_tup hF rfl (jgs_cons (jg_name sc_falling_pair.nd (i := 5) rfl (Or.inl rfl)) (jgs_cons (jg_name sc_falling_pair.nd (i := 6) rfl (Or.inl rfl)) jgs_nil))) (jb_fg (jb_cons (js_fz (js_fz (js_par2 (fun ta h => ps_par (i := 7) (j := 8) rfl sc_falling_pair.nd rfl rfl (by decide) rfl rfl h rfl) (pa_cons (je_callH h_with_level hr_with_level rfl (takes_of rfl rfl rfl rfl) hF (ja_cons (jo_ev (je_var (pv 4))) (ja_cons (jo_ev (je_var (pv 2))) (ja_cons (jo_ev (je_var (pv 5))) ja_nil)))) (pa_cons (je_ex fun F1 hF1 => je_callH h_with_level hr_with_level rfl (takes_of rfl rfl rfl rfl) (hF1.trans hF) (ja_cons (jo_ev (je_var (pv 4))) (ja_cons (jo_ev (je_var (pv 2))) (ja_cons (jo_ev (je_var (pv 6))) ja_nil)))) pa_nil rfl) rfl)))) (jb_one (js_if (jt_w (jw_and (jt_val (je_callH h_wins hr_wins rfl (takes_of rfl rfl rfl rfl) hF (ja_cons (jo_ev (je_var (pv 0))) (ja_cons (jo_ev (je_var (pv 7))) (ja_cons (jo_ev (je_var (pv 2))) ja_nil))))) (jw_and1 (jt_not (jt_val (je_callH h_wins hr_wins rfl (takes_of rfl rfl rfl rfl) hF (ja_cons (jo_ev (je_var (pv 0))) (ja_cons (jo_ev (je_var (pv 8))) (ja_cons (jo_ev (je_var (pv 2))) ja_nil))))))))) (jb_one (js_ret (je_tup (jd_cons (je_var (pv 2)) (jd_cons (je_var (pv 7)) (jd_cons (je_var (pv 8)) jd_nil)))))) (jb_nil)))))))))))) (jb_one (js_ret (je_non)))))
/-! is_rising -/
theorem sc_is_rising : FnScope ["rule"] ["rule"] (defScope (top 9)) := ⟨rfl, rfl, rfl, by decide +kernel, rfl, by decide +kernel, by decide +kernel⟩
theorem po_is_rising : PoB "is_rising" (top 9) ["rule"] := fun _ _ _ _ _ _ us hl => match us, hl with | [_], _ => rfl
noncomputable def c0_is_rising : SE := callE [false] (f_falling_pair) [.ev (varE 0)]
noncomputable def s_is_rising : SS := retS (cmpE (.ev (c0_is_rising)) (.ev (nonE)) isB)
noncomputable def f_is_rising : SF := bodyF [false] 1 s_is_rising
def k_is_rising : Nat := 5
theorem ok_is_rising {P : Program} {w : World} {K : PySem.W.Frag} {mg : Str → Option Value} {base : Heap} {ca : Nat → Addr} (a : At K mg "is_rising" (top 9))   (h_falling_pair : Has P w K mg base ca "falling_pair" (top 8) ["rule"] [false] k_falling_pair f_falling_pair) : Has P w K mg base ca "is_rising" (top 9) ["rule"] [false] k_is_rising f_is_rising :=
  Has.def_ (k := 4) (N := ["rule"]) a sc_is_rising rfl (fun f fd F => F.bindsN po_is_rising) (fun f cdv A outer s H E fr hF hr => by
    have hr_falling_pair := hr.mono (show k_falling_pair ≤ 4 by decide)
    have hv := hv_of hr
    have hu := hu_of64 hr
    have hw := hw_of hr
    exact jb_one (js_ret (je_cmp hF cmp_is (jo_ev (je_callH h_falling_pair hr_falling_pair rfl (takes_of rfl rfl rfl rfl) hF (ja_cons (jo_ev (je_var (pv 0))) ja_nil))) (jo_ev (je_non)) (nomark _))))
/-! least_winning -/
theorem sc_least_winning : FnScope ["rule", "buyer", "others", "level"] ["rule", "buyer", "others"] (defScope (top 10)) := ⟨rfl, rfl, rfl, by decide +kernel, rfl, by decide +kernel, by decide +kernel⟩
theorem po_least_winning : PoB "least_winning" (top 10) ["rule", "buyer", "others"] := fun _ _ _ _ _ _ us hl => match us, hl with | [_, _, _], _ => rfl
noncomputable def c0_least_winning : SE := callE [false, false, false] (f_with_level) [.ev (varE 2), .ev (varE 1), .ev (varE 3)]
noncomputable def c1_least_winning : SE := callE [false, false, false] (f_wins) [.ev (varE 0), .ev (c0_least_winning), .ev (varE 1)]
noncomputable def b2_least_winning : SS := fgS [3] (ifS (tst (c1_least_winning)) (retS (frzE (movE 3))) (passS))
noncomputable def s_least_winning : SS := seqS (forS (seqI (ev2 (.ev (ev2 (.rd 0) (.ev (intE 0)) ixX)) (.rd 1) ixX)) (nameT 3) b2_least_winning) (retS (nonE))
noncomputable def f_least_winning : SF := bodyF [false, false, false] 4 s_least_winning
def k_least_winning : Nat := 4
theorem ok_least_winning {P : Program} {w : World} {K : PySem.W.Frag} {mg : Str → Option Value} {base : Heap} {ca : Nat → Addr} (a : At K mg "least_winning" (top 10))   (h_wins : Has P w K mg base ca "wins" (top 5) ["rule", "profile", "buyer"] [false, false, false] k_wins f_wins) (h_with_level : Has P w K mg base ca "with_level" (top 7) ["others", "buyer", "level"] [false, false, false] k_with_level f_with_level) : Has P w K mg base ca "least_winning" (top 10) ["rule", "buyer", "others"] [false, false, false] k_least_winning f_least_winning :=
  Has.def_ (k := 3) (N := ["rule", "buyer", "others", "level"]) a sc_least_winning rfl (fun f fd F => F.bindsN po_least_winning) (fun f cdv A outer s H E fr hF hr => by
    have hr_wins := hr.mono (show k_wins ≤ 3 by decide)
    have hr_with_level := hr.mono (show k_with_level ≤ 3 by decide)
    have hv := hv_of hr
    have hu := hu_of64 hr
    have hw := hw_of hr
    exact jb_cons (js_for (passes_of rfl) rfl (ji_seq hF (je_ixd hF hv (jo_ev (je_ixd hF hv (jo_rd (pv 0)) (jo_ev (je_int)))) (jo_rd (pv 1)))) (jg_name sc_least_winning.nd (i := 3) rfl (Or.inl rfl)) (jb_fg (jb_one (js_if (jt_val (je_callH h_wins hr_wins rfl (takes_of rfl rfl rfl rfl) hF (ja_cons (jo_ev (je_var (pv 0))) (ja_cons (jo_ev (je_callH h_with_level hr_with_level rfl (takes_of rfl rfl rfl rfl) hF (ja_cons (jo_ev (je_var (pv 2))) (ja_cons (jo_ev (je_var (pv 1))) (ja_cons (jo_ev (je_var (pv 3))) ja_nil))))) (ja_cons (jo_ev (je_var (pv 1))) ja_nil))))) (jb_one (js_ret (je_frz (je_mov (pv 3))))) (jb_nil))))) (jb_one (js_ret (je_non))))
/-! is_told_by_least -/
theorem sc_is_told_by_least : FnScope ["rule"] ["rule"] (defScope (top 11)) := ⟨rfl, rfl, rfl, by decide +kernel, rfl, by decide +kernel, by decide +kernel⟩
theorem po_is_told_by_least : PoB "is_told_by_least" (top 11) ["rule"] := fun _ _ _ _ _ _ us hl => match us, hl with | [_], _ => rfl
noncomputable def c0_is_told_by_least : SE := callE [false] (f_is_rising) [.ev (varE 0)]
noncomputable def s_is_told_by_least : SS := retS (frzE (c0_is_told_by_least))
noncomputable def f_is_told_by_least : SF := bodyF [false] 1 s_is_told_by_least
theorem kw_0 : KwB "is_told_by_least" (top 11) ["rule"] 0 ["rule"] [0] := fun _ _ _ _ _ _ us ws h1 h2 => match us, ws, h1, h2 with | [], [_], _, _ => rfl
theorem kw_1 : KwB "least_winning" (top 10) ["rule", "buyer", "others"] 0 ["others", "buyer", "rule"] [2, 1, 0] := fun _ _ _ _ _ _ us ws h1 h2 => match us, ws, h1, h2 with | [], [_, _, _], _, _ => rfl
theorem kw_2 : KwB "with_level" (top 7) ["others", "buyer", "level"] 0 ["level", "buyer", "others"] [2, 1, 0] := fun _ _ _ _ _ _ us ws h1 h2 => match us, ws, h1, h2 with | [], [_, _, _], _, _ => rfl
theorem kw_3 : KwB "others_of" (top 6) ["market", "buyer"] 0 ["buyer", "market"] [1, 0] := fun _ _ _ _ _ _ us ws h1 h2 => match us, ws, h1, h2 with | [], [_, _], _, _ => rfl
def k_is_told_by_least : Nat := 6
theorem ok_is_told_by_least {P : Program} {w : World} {K : PySem.W.Frag} {mg : Str → Option Value} {base : Heap} {ca : Nat → Addr} (a : At K mg "is_told_by_least" (top 11))   (h_is_rising : Has P w K mg base ca "is_rising" (top 9) ["rule"] [false] k_is_rising f_is_rising) : Has P w K mg base ca "is_told_by_least" (top 11) ["rule"] [false] k_is_told_by_least f_is_told_by_least :=
  Has.def_ (k := 5) (N := ["rule"]) a sc_is_told_by_least rfl (fun f fd F => F.bindsN po_is_told_by_least) (fun f cdv A outer s H E fr hF hr => by
    have hr_is_rising := hr.mono (show k_is_rising ≤ 5 by decide)
    have hv := hv_of hr
    have hu := hu_of64 hr
    have hw := hw_of hr
    exact jb_one (js_ret (je_frz (je_callH h_is_rising hr_is_rising rfl (takes_of rfl rfl rfl rfl) hF (ja_cons (jo_ev (je_var (pv 0))) ja_nil)))))
/-! _law_draw -/
theorem sc__law_draw : FnScope ["script", "salt", "cells", "blend", "cell"] ["script", "salt"] (defScope (top 13)) := ⟨rfl, rfl, rfl, by decide +kernel, rfl, by decide +kernel, by decide +kernel⟩
theorem po__law_draw : PoB "_law_draw" (top 13) ["script", "salt"] := fun _ _ _ _ _ _ us hl => match us, hl with | [_, _], _ => rfl
noncomputable def l0__law_draw : SE := lcE (seqI (varE 2)) [4] (nameT 4) (tst (cmpE (.rd 4) (.ev (ev2 (.ev (intE 10)) (.ev (intE 18)) powU)) geB)) (varE 4)
noncomputable def b1__law_draw : SS := asgS 3 (ev2 (.ev (biE [.ev (ev2 (.ev (ev2 (.ev (ev2 (.rd 3) (.ev (intE 48271)) mulU)) (.ev (ev2 (.rd 4) (.ev (intE 2147483549)) modU)) addU)) (.ev (intE 11)) addU)] intK)) (.ev (intE 2147483647)) modU)
noncomputable def l2__law_draw : SE := lcE (seqI (biE [.rd 0, .ev (intE 48)] slK01)) [4] (nameT 4) (yesT) (biE [.ev (biE [.rd 4] intK)] absK)
noncomputable def s__law_draw : SS := seqS (asgS 2 (l2__law_draw)) (seqS (asgS 3 (ev2 (.ev (intE 7919)) (.ev (ev2 (.ev (intE 104729)) (.rd 1) mulU)) addU)) (seqS (forO 2 (nameT 4) b1__law_draw) (retS (dlE (revE (l0__law_draw)) (varE 3)))))
noncomputable def f__law_draw : SF := bodyF [false, false] 5 s__law_draw
def k__law_draw : Nat := 1
theorem ok__law_draw {P : Program} {w : World} {K : PySem.W.Frag} {mg : Str → Option Value} {base : Heap} {ca : Nat → Addr} (a : At K mg "_law_draw" (top 13)) (m_int : mg "int" = none) (m_abs : mg "abs" = none)   : Has P w K mg base ca "_law_draw" (top 13) ["script", "salt"] [false, false] k__law_draw f__law_draw :=
  Has.def_ (k := 0) (N := ["script", "salt", "cells", "blend", "cell"]) a sc__law_draw rfl (fun f fd F => F.bindsN po__law_draw) (fun f cdv A outer s H E fr hF hr => by
    have hv := hv_of hr
    have hu := hu_of64 hr
    have hw := hw_of hr
    exact jb_cons (js_setLc (i := 2) (own := [("cell", 4)]) rfl sc__law_draw.nd rfl rfl (sw_true rfl rfl rfl rfl) (ji_seq hF (je_sl01 hF (jo_rd (pv 0)) (jo_ev (je_int)))) (blkOk_by (N := ["script", "salt", "cells", "blend", "cell"]) (sc := defScope (top 13)) (by decide +kernel)) (fun s4 H4 C4 cl4 fp4 F4 hF4 => jg_name sc__law_draw.nd (i := 4) rfl (Or.inl rfl)) (fun s4 H4 C4 cl4 fp4 => jts_nil) (fun s4 H4 C4 cl4 fp4 F4 hF4 => je_abs rfl m_abs (ja_cons (jo_ev (je_int_of rfl m_int (ja_cons (jo_rd (pv 4)) ja_nil))) ja_nil))) (jb_cons (js_set (i := 3) sc__law_draw.nd rfl (Or.inl rfl) (je_add hF (jo_ev (je_int)) (jo_ev (je_mul (jo_ev (je_int)) (jo_rd (pv 1)))))) (jb_cons (js_forO hF (passes_of rfl) rfl (pv 2) (fun F3 hF3 => jg_name sc__law_draw.nd (i := 4) rfl (Or.inl rfl)) (fun F3 hF3 => jb_one (js_set (i := 3) sc__law_draw.nd rfl (Or.inl rfl) (je_mod (jo_ev (je_int_of rfl m_int (ja_cons (jo_ev (je_add (hF3.trans hF) (jo_ev (je_add (hF3.trans hF) (jo_ev (je_mul (jo_rd (pv 3)) (jo_ev (je_int)))) (jo_ev (je_mod (jo_rd (pv 4)) (jo_ev (je_int)))))) (jo_ev (je_int)))) ja_nil))) (jo_ev (je_int)))))) (jb_one (js_ret (je_dl (je_rev hF (je_lc (own := [("cell", 4)]) rfl sc__law_draw.nd (ji_seq hF (je_var (pv 2))) (blkOk_by (N := ["script", "salt", "cells", "blend", "cell"]) (sc := defScope (top 13)) (by decide +kernel)) (fun s1 H1 C1 cl1 fp1 F1 hF1 => jg_name sc__law_draw.nd (i := 4) rfl (Or.inl rfl)) (fun s1 H1 C1 cl1 fp1 => (jts_one fun F1 hF1 => jt_cmp (hF1.trans hF) cmp_ge (jo_rd (pv 4)) (jo_ev (je_pow (jo_ev (je_int)) (jo_ev (je_int)))) (nomark _))) (fun s1 H1 C1 cl1 fp1 F1 hF1 => je_var (pv 4)))) fun F2 hF2 => je_var (pv 3)))))))
/-! _law_any -/
theorem sc__law_any : FnScope ["deal", "bound", "rest"] ["deal", "bound"] (defScope (top 14)) := ⟨rfl, rfl, rfl, by decide +kernel, rfl, by decide +kernel, by decide +kernel⟩
theorem po__law_any : PoB "_law_any" (top 14) ["deal", "bound"] := fun _ _ _ _ _ _ us hl => match us, hl with | [_, _], _ => rfl
noncomputable def b0__law_any : SS := dropS (dlPopE 0)
noncomputable def b1__law_any : ST := andT (tst (dlNeE 0)) (tst (cmpE (.ev (dlLastE 0)) (.ev (intE 0)) eqB))
noncomputable def s__law_any : SS := seqS (whileS b1__law_any b0__law_any) (seqS (ifS (tst (dlNeE 0)) (seqS (asgS 2 (biE [.ev (dlPopE 0)] intK)) (seqS (dropS (dlAppE 0 2 1)) (retS (ev2 (.rd 2) (.rd 1) modU)))) (passS)) (seqS (dlSetS 0 (ev2 (.ev (biE [.ev (ev2 (.ev (ev2 (.ev (dlNumE 0)) (.ev (intE 40693)) mulU)) (.ev (intE 71)) addU)] intK)) (.ev (intE 2147483647)) modU)) (retS (ev2 (.ev (biE [.ev (ev2 (.ev (dlNumE 0)) (.ev (intE 64)) fdivU)] intK)) (.rd 1) modU))))
noncomputable def f__law_any : SF := bodyF [true, false] 3 s__law_any
def k__law_any : Nat := 1
theorem ok__law_any {P : Program} {w : World} {K : PySem.W.Frag} {mg : Str → Option Value} {base : Heap} {ca : Nat → Addr} (a : At K mg "_law_any" (top 14)) (m_int : mg "int" = none)   : Has P w K mg base ca "_law_any" (top 14) ["deal", "bound"] [true, false] k__law_any f__law_any :=
  Has.def_ (k := 0) (N := ["deal", "bound", "rest"]) a sc__law_any rfl (fun f fd F => F.bindsN po__law_any) (fun f cdv A outer s H E fr hF hr => by
    have hv := hv_of hr
    have hu := hu_of64 hr
    have hw := hw_of hr
    exact jb_cons (js_while (passes_of rfl) (jt_w (jw_and (jt_dlNe hu (pv 0) (nomark _)) (jw_and1 (jt_cmp hF (cmp_eq hu) (jo_ev (je_dlLast (pv 0))) (jo_ev (je_int)) (nomark _))))) (jb_one (js_drop (je_dlPop (pv 0))))) (jb_cons (js_if (jt_dlNe hu (pv 0) (nomark _)) (jb_cons (js_set (i := 2) sc__law_any.nd rfl (Or.inl rfl) (je_int_of rfl m_int (ja_cons (jo_ev (je_dlPop (pv 0))) ja_nil))) (jb_cons (js_drop (je_dlApp (pv 0) (pv 2) (pv 1))) (jb_one (js_ret (je_mod (jo_rd (pv 2)) (jo_rd (pv 1))))))) (jb_nil)) (jb_cons (js_dlSet (pv 0) (je_mod (jo_ev (je_int_of rfl m_int (ja_cons (jo_ev (je_add hF (jo_ev (je_mul (jo_ev (je_dlNum (pv 0))) (jo_ev (je_int)))) (jo_ev (je_int)))) ja_nil))) (jo_ev (je_int)))) (jb_one (js_ret (je_mod (jo_ev (je_int_of rfl m_int (ja_cons (jo_ev (je_fdiv (jo_ev (je_dlNum (pv 0))) (jo_ev (je_int)))) ja_nil))) (jo_rd (pv 1))))))))
/-! _law_of -/
theorem sc__law_of : FnScope ["deal", "some"] ["deal", "some"] (defScope (top 15)) := ⟨rfl, rfl, rfl, by decide +kernel, rfl, by decide +kernel, by decide +kernel⟩
theorem po__law_of : PoB "_law_of" (top 15) ["deal", "some"] := fun _ _ _ _ _ _ us hl => match us, hl with | [_, _], _ => rfl
noncomputable def c0__law_of : SE := callE [true, false] (f__law_any) [.rd 0, .ev (biE [.rd 1] lenX)]
noncomputable def s__law_of : SS := retS (ev2 (.rd 1) (.ev (c0__law_of)) ixX)
noncomputable def f__law_of : SF := bodyF [true, false] 2 s__law_of
def k__law_of : Nat := 2
theorem ok__law_of {P : Program} {w : World} {K : PySem.W.Frag} {mg : Str → Option Value} {base : Heap} {ca : Nat → Addr} (a : At K mg "_law_of" (top 15)) (m_len : mg "len" = none)  (h__law_any : Has P w K mg base ca "_law_any" (top 14) ["deal", "bound"] [true, false] k__law_any f__law_any) : Has P w K mg base ca "_law_of" (top 15) ["deal", "some"] [true, false] k__law_of f__law_of :=
  Has.def_ (k := 1) (N := ["deal", "some"]) a sc__law_of rfl (fun f fd F => F.bindsN po__law_of) (fun f cdv A outer s H E fr hF hr => by
    have hr__law_any := hr.mono (show k__law_any ≤ 1 by decide)
    have hv := hv_of hr
    have hu := hu_of64 hr
    have hw := hw_of hr
    exact jb_one (js_ret (je_ixd hF hv (jo_rd (pv 1)) (jo_ev (je_callH h__law_any hr__law_any rfl (takes_of rfl rfl rfl rfl) hF (ja_cons (jo_rd (pv 0)) (ja_cons (jo_ev (je_lenX hF rfl m_len (ja_cons (jo_rd (pv 1)) ja_nil))) ja_nil)))))))
/-! _law_same -/
theorem sc__law_same : FnScope ["value", "due", "one", "other"] ["value", "due"] (defScope (top 16)) := ⟨rfl, rfl, rfl, by decide +kernel, rfl, by decide +kernel, by decide +kernel⟩
theorem po__law_same : PoB "_law_same" (top 16) ["value", "due"] := fun _ _ _ _ _ _ us hl => match us, hl with | [_, _], _ => rfl
noncomputable def c0__law_same (m : SF) : SE := callE [false, false] (m) [.ev (varE 2), .ev (varE 3)]
noncomputable def l1__law_same (m : SF) : SE := lcE (zipI (varE 0) (varE 1)) [2, 3] (tupT [nameT 2, nameT 3]) (notT (tst ((c0__law_same m)))) (intE 0)
noncomputable def s__law_same (m : SF) : SS := seqS (ifS (tst (ev1 (.rd 1) (isiU isTup))) (seqS (ifS (orT (notT (tst (ev1 (.rd 0) (isiU isTup)))) (tst (cmpE (.ev (biE [.rd 0] lenX)) (.ev (biE [.rd 1] lenX)) neB))) (retS (blE false)) (passS)) (retS (cmpE (.ev ((l1__law_same m))) (.ev (lstE [])) eqB))) (passS)) (seqS (ifS (tst (cmpE (.rd 1) (.ev (nonE)) isB)) (retS (cmpE (.rd 0) (.ev (nonE)) isB)) (passS)) (seqS (ifS (tst (cmpE (.rd 1) (.ev (blE true)) isB)) (retS (cmpE (.rd 0) (.ev (blE true)) isB)) (passS)) (seqS (ifS (tst (cmpE (.rd 1) (.ev (blE false)) isB)) (retS (cmpE (.rd 0) (.ev (blE false)) isB)) (passS)) (seqS (ifS (tst (ev1 (.rd 1) (isiU isInt))) (retS (andE (ev1 (.rd 0) (isiU isInt)) (andE (notE (ev1 (.rd 0) (isiU isBool))) (cmpE (.rd 0) (.rd 1) eqB)))) (passS)) (retS (andE (ev1 (.rd 0) (isiU isStr)) (cmpE (.rd 0) (.rd 1) eqB)))))))
noncomputable def f__law_same : Nat → SF
  | 0 => fun _ => .bad
  | n + 1 => bodyF [false, false] 4 (s__law_same (f__law_same n))
def k__law_same : Nat := 9
theorem ok__law_same {P : Program} {w : World} {K : PySem.W.Frag} {mg : Str → Option Value} {base : Heap} {ca : Nat → Addr} (a : At K mg "_law_same" (top 16)) (m_isinstance : mg "isinstance" = none) (m_str : mg "str" = none) (m_int : mg "int" = none) (m_bool : mg "bool" = none) (m_tuple : mg "tuple" = none) (m_zip : mg "zip" = none) (m_len : mg "len" = none)   : ∀ n : Nat, Has P w K mg base ca "_law_same" (top 16) ["value", "due"] [false, false] (0 + n) (f__law_same n)
  | 0 => Has.bad a rfl (fun f fd F => F.bindsN po__law_same)
  | n + 1 => Has.def_ (N := ["value", "due", "one", "other"]) a sc__law_same rfl (fun f fd F => F.bindsN po__law_same) (fun f cdv A outer s H E fr hF hr => by
    have h__law_same := ok__law_same (P := P) (w := w) (K := K) (mg := mg) (base := base) (ca := ca) a m_isinstance m_str m_int m_bool m_tuple m_zip m_len n
    have hr__law_same := hr
    have hv := hv_of hr
    have hu := hu_of64 hr
    have hw := hw_of hr
    exact jb_cons (js_if (jt_val (je_isi hF kit_tup rfl m_isinstance rfl m_tuple (by decide +kernel) (jo_rd (pv 1)))) (jb_cons (js_if (jt_w (jw_or (jt_not (jt_val (je_isi hF kit_tup rfl m_isinstance rfl m_tuple (by decide +kernel) (jo_rd (pv 0))))) (jw_or1 (jt_cmp hF (cmp_ne hu) (jo_ev (je_lenX hF rfl m_len (ja_cons (jo_rd (pv 0)) ja_nil))) (jo_ev (je_lenX hF rfl m_len (ja_cons (jo_rd (pv 1)) ja_nil))) (nomark _))))) (jb_one (js_ret (je_bl))) (jb_nil)) (jb_one (js_ret (je_cmp hF (cmp_eq hu) (jo_ev (je_lc (own := [("one", 2), ("other", 3)]) rfl sc__law_same.nd (ji_zip hF rfl m_zip (je_var (pv 0)) (je_var (pv 1))) (blkOk_by (N := ["value", "due", "one", "other"]) (sc := defScope (top 16)) (by decide +kernel)) (fun s1 H1 C1 cl1 fp1 F1 hF1 => jg_tup (hF1.trans hF) rfl (jgs_cons (jg_name sc__law_same.nd (i := 2) rfl (Or.inl rfl)) (jgs_cons (jg_name sc__law_same.nd (i := 3) rfl (Or.inl rfl)) jgs_nil))) (fun s1 H1 C1 cl1 fp1 => (jts_one fun F1 hF1 => jt_not (jt_val (je_callH h__law_same hr__law_same rfl takes0 (hF1.trans hF) (ja_cons (jo_ev (je_var (pv 2))) (ja_cons (jo_ev (je_var (pv 3))) ja_nil)))))) (fun s1 H1 C1 cl1 fp1 F1 hF1 => je_int))) (jo_ev (je_lst jd_nil)) (nomark _))))) (jb_nil)) (jb_cons (js_if (jt_cmp hF cmp_is (jo_rd (pv 1)) (jo_ev (je_non)) (nomark _)) (jb_one (js_ret (je_cmp hF cmp_is (jo_rd (pv 0)) (jo_ev (je_non)) (nomark _)))) (jb_nil)) (jb_cons (js_if (jt_cmp hF cmp_is (jo_rd (pv 1)) (jo_ev (je_bl)) (nomark _)) (jb_one (js_ret (je_cmp hF cmp_is (jo_rd (pv 0)) (jo_ev (je_bl)) (nomark _)))) (jb_nil)) (jb_cons (js_if (jt_cmp hF cmp_is (jo_rd (pv 1)) (jo_ev (je_bl)) (nomark _)) (jb_one (js_ret (je_cmp hF cmp_is (jo_rd (pv 0)) (jo_ev (je_bl)) (nomark _)))) (jb_nil)) (jb_cons (js_if (jt_val (je_isi hF kit_int rfl m_isinstance rfl m_int (by decide +kernel) (jo_rd (pv 1)))) (jb_one (js_ret (je_and (je_isi hF kit_int rfl m_isinstance rfl m_int (by decide +kernel) (jo_rd (pv 0))) (je_and (je_not (je_isi hF kit_bool rfl m_isinstance rfl m_bool (by decide +kernel) (jo_rd (pv 0)))) (je_one (je_cmp hF (cmp_eq hu) (jo_rd (pv 0)) (jo_rd (pv 1)) (nomark _))))))) (jb_nil)) (jb_one (js_ret (je_and (je_isi hF kit_str rfl m_isinstance rfl m_str (by decide +kernel) (jo_rd (pv 0))) (je_one (je_cmp hF (cmp_eq hu) (jo_rd (pv 0)) (jo_rd (pv 1)) (nomark _)))))))))))
/-! _law_profiles -/
theorem sc__law_profiles : FnScope ["market", "found", "ladder", "later", "profile", "level"] ["market"] (defScope (top 17)) := ⟨rfl, rfl, rfl, by decide +kernel, rfl, by decide +kernel, by decide +kernel⟩
theorem po__law_profiles : PoB "_law_profiles" (top 17) ["market"] := fun _ _ _ _ _ _ us hl => match us, hl with | [_], _ => rfl
noncomputable def l0__law_profiles : SE := lcE (seqI (varE 2)) [5] (nameT 5) (yesT) (ev2 (.rd 4) (.ev (tupE [(false, varE 5)])) addU)
noncomputable def b1__law_profiles : SS := fgS [4] (fzS 3 (asgS 3 (ev2 (.rd 3) (.ev (l0__law_profiles)) addU)))
noncomputable def b2__law_profiles : SS := fgS [2, 3, 4] (seqS (fzS 3 (asgS 3 (lstE []))) (seqS (forO 1 (nameT 4) b1__law_profiles) (fzS 1 (asgS 1 (varE 3)))))
noncomputable def s__law_profiles : SS := seqS (fzS 1 (asgS 1 (lstE [(false, tupE [])]))) (seqS (forO 0 (nameT 2) b2__law_profiles) (retS (frzE (movE 1))))
noncomputable def f__law_profiles : SF := bodyF [false] 6 s__law_profiles
def k__law_profiles : Nat := 1
theorem ok__law_profiles {P : Program} {w : World} {K : PySem.W.Frag} {mg : Str → Option Value} {base : Heap} {ca : Nat → Addr} (a : At K mg "_law_profiles" (top 17))    : Has P w K mg base ca "_law_profiles" (top 17) ["market"] [false] k__law_profiles f__law_profiles :=
  Has.def_ (k := 0) (N := ["market", "found", "ladder", "later", "profile", "level"]) a sc__law_profiles rfl (fun f fd F => F.bindsN po__law_profiles) (fun f cdv A outer s H E fr hF hr => by
    have hv := hv_of hr
    have hu := hu_of64 hr
    have hw := hw_of hr
    exact jb_cons (js_fz (js_set (i := 1) sc__law_profiles.nd rfl (Or.inl rfl) (je_lst (jd_cons (je_tup jd_nil) jd_nil)))) (jb_cons (js_forO hF (passes_of rfl) rfl (pv 0) (fun F1 hF1 => jg_name sc__law_profiles.nd (i := 2) rfl (Or.inl rfl)) (fun F1 hF1 => jb_fg (jb_cons (js_fz (js_set (i := 3) sc__law_profiles.nd rfl (Or.inl rfl) (je_lst jd_nil))) (jb_cons (js_forO (hF1.trans hF) (passes_of rfl) rfl (pv 1) (fun F2 hF2 => jg_name sc__law_profiles.nd (i := 4) rfl (Or.inr rfl)) (fun F2 hF2 => jb_fg (jb_one (js_fz (js_set (i := 3) sc__law_profiles.nd rfl (Or.inl rfl) (je_add (hF2.trans (hF1.trans hF)) (jo_rd (pv 3)) (jo_ev (je_lc (own := [("level", 5)]) rfl sc__law_profiles.nd (ji_seq (hF2.trans (hF1.trans hF)) (je_var (pv 2))) (blkOk_by (N := ["market", "found", "ladder", "later", "profile", "level"]) (sc := defScope (top 17)) (by decide +kernel)) (fun s3 H3 C3 cl3 fp3 F3 hF3 => jg_name sc__law_profiles.nd (i := 5) rfl (Or.inl rfl)) (fun s3 H3 C3 cl3 fp3 => jts_nil) (fun s3 H3 C3 cl3 fp3 F3 hF3 => je_add (hF3.trans (hF2.trans (hF1.trans hF))) (jo_rd (pv 4)) (jo_ev (je_tup (jd_cons (je_var (pv 5)) jd_nil)))))))))))) (jb_one (js_fz (js_set (i := 1) sc__law_profiles.nd rfl (Or.inl rfl) (je_var (pv 3))))))))) (jb_one (js_ret (je_frz (je_mov (pv 1)))))))
/-! _law_ladder -/
theorem sc__law_ladder : FnScope ["deal", "many", "style", "most", "found", "turn", "level", "start"] ["deal", "many", "style"] (defScope (top 18)) := ⟨rfl, rfl, rfl, by decide +kernel, rfl, by decide +kernel, by decide +kernel⟩
theorem po__law_ladder : PoB "_law_ladder" (top 18) ["deal", "many", "style"] := fun _ _ _ _ _ _ us hl => match us, hl with | [_, _, _], _ => rfl
noncomputable def b0__law_ladder : SS := fgS [6] (ifS (tst (cmpE (.ev (biE [.rd 4] lenX)) (.rd 1) ltB)) (setX 4 (blE true) (varE 6)) (passS))
noncomputable def c1__law_ladder : SE := callE [true, false] (f__law_any) [.rd 0, .ev (ev2 (.ev (ev2 (.ev (intE 2)) (.rd 3) mulU)) (.ev (intE 1)) addU)]
noncomputable def b2__law_ladder : SS := fgS [5] (ifS (tst (cmpE (.ev (biE [.rd 4] lenX)) (.rd 1) ltB)) (setX 4 (blE true) (ev2 (.ev (c1__law_ladder)) (.rd 3) subU)) (passS))
noncomputable def c3__law_ladder : SE := callE [true, false] (f__law_of) [.rd 0, .ev (lstE [(false, intE 0), (false, intE 0), (false, intE 1), (false, ev1 (.ev (intE 2)) negU)])]
noncomputable def s__law_ladder : SS := seqS (ifS (tst (cmpE (.rd 2) (.ev (intE 0)) eqB)) (seqS (asgS 7 (c3__law_ladder)) (retS (ev2 (.rd 7) (.ev (ev2 (.rd 7) (.rd 1) addU)) (rg2U false)))) (passS)) (seqS (asgS 3 (ev2 (.ev (lstE [(false, intE 12), (false, intE 100), (false, ev2 (.ev (ev2 (.ev (intE 10)) (.ev (intE 12)) powU)) (.ev (ev2 (.ev (intE 10)) (.ev (intE 6)) powU)) subU)])) (.ev (ev2 (.rd 2) (.ev (intE 1)) subU)) ixX)) (seqS (asgS 4 (biE [.ev (lstE [])] dictK)) (seqS (forS (rngI [.ev (ev2 (.ev (intE 4)) (.rd 1) mulU)]) (nameT 5) b2__law_ladder) (seqS (forS (rngI [.rd 1]) (nameT 6) b0__law_ladder) (retS (biE [.ev (biE [.ev (biE [.rd 4] sortK), .rd 1] slK01)] tupleK))))))
noncomputable def f__law_ladder : SF := bodyF [true, false, false] 8 s__law_ladder
def k__law_ladder : Nat := 3
theorem ok__law_ladder {P : Program} {w : World} {K : PySem.W.Frag} {mg : Str → Option Value} {base : Heap} {ca : Nat → Addr} (a : At K mg "_law_ladder" (top 18)) (m_tuple : mg "tuple" = none) (m_sorted : mg "sorted" = none) (m_range : mg "range" = none) (m_len : mg "len" = none) (m_dict : mg "dict" = none)  (h__law_any : Has P w K mg base ca "_law_any" (top 14) ["deal", "bound"] [true, false] k__law_any f__law_any) (h__law_of : Has P w K mg base ca "_law_of" (top 15) ["deal", "some"] [true, false] k__law_of f__law_of) : Has P w K mg base ca "_law_ladder" (top 18) ["deal", "many", "style"] [true, false, false] k__law_ladder f__law_ladder :=
  Has.def_ (k := 2) (N := ["deal", "many", "style", "most", "found", "turn", "level", "start"]) a sc__law_ladder rfl (fun f fd F => F.bindsN po__law_ladder) (fun f cdv A outer s H E fr hF hr => by
    have hr__law_any := hr.mono (show k__law_any ≤ 2 by decide)
    have hr__law_of := hr.mono (show k__law_of ≤ 2 by decide)
    have hv := hv_of hr
    have hu := hu_of64 hr
    have hw := hw_of hr
    exact jb_cons (js_if (jt_cmp hF (cmp_eq hu) (jo_rd (pv 2)) (jo_ev (je_int)) (nomark _)) (jb_cons (js_set (i := 7) sc__law_ladder.nd rfl (Or.inl rfl) (je_callH h__law_of hr__law_of rfl (takes_of rfl rfl rfl rfl) hF (ja_cons (jo_rd (pv 0)) (ja_cons (jo_ev (je_lst (jd_cons (je_int) (jd_cons (je_int) (jd_cons (je_int) (jd_cons (je_neg (jo_ev (je_int))) jd_nil)))))) ja_nil)))) (jb_one (js_ret (je_tupRg2 rfl rfl m_tuple rfl m_range (jo_rd (pv 7)) (jo_ev (je_add hF (jo_rd (pv 7)) (jo_rd (pv 1)))))))) (jb_nil)) (jb_cons (js_set (i := 3) sc__law_ladder.nd rfl (Or.inl rfl) (je_ixd hF hv (jo_ev (je_lst (jd_cons (je_int) (jd_cons (je_int) (jd_cons (je_sub (jo_ev (je_pow (jo_ev (je_int)) (jo_ev (je_int)))) (jo_ev (je_pow (jo_ev (je_int)) (jo_ev (je_int))))) jd_nil))))) (jo_ev (je_sub (jo_rd (pv 2)) (jo_ev (je_int)))))) (jb_cons (js_set (i := 4) sc__law_ladder.nd rfl (Or.inl rfl) (je_dict hF rfl rfl m_dict (ja_cons (jo_ev (je_lst jd_nil)) ja_nil))) (jb_cons (js_for (passes_of rfl) rfl (ji_rng1 rfl m_range (ja_cons (jo_ev (je_mul (jo_ev (je_int)) (jo_rd (pv 1)))) ja_nil)) (jg_name sc__law_ladder.nd (i := 5) rfl (Or.inl rfl)) (jb_fg (jb_one (js_if (jt_cmp hF cmp_lt (jo_ev (je_lenX hF rfl m_len (ja_cons (jo_rd (pv 4)) ja_nil))) (jo_rd (pv 1)) (nomark _)) (jb_one (js_setX hF hv (pv 4) (je_sub (jo_ev (je_callH h__law_any hr__law_any rfl (takes_of rfl rfl rfl rfl) hF (ja_cons (jo_rd (pv 0)) (ja_cons (jo_ev (je_add hF (jo_ev (je_mul (jo_ev (je_int)) (jo_rd (pv 3)))) (jo_ev (je_int)))) ja_nil)))) (jo_rd (pv 3))) (je_bl))) (jb_nil))))) (jb_cons (js_for (passes_of rfl) rfl (ji_rng1 rfl m_range (ja_cons (jo_rd (pv 1)) ja_nil)) (jg_name sc__law_ladder.nd (i := 6) rfl (Or.inl rfl)) (jb_fg (jb_one (js_if (jt_cmp hF cmp_lt (jo_ev (je_lenX hF rfl m_len (ja_cons (jo_rd (pv 4)) ja_nil))) (jo_rd (pv 1)) (nomark _)) (jb_one (js_setX hF hv (pv 4) (je_var (pv 6)) (je_bl))) (jb_nil))))) (jb_one (js_ret (je_tuple hF rfl m_tuple (ja_cons (jo_ev (je_sl01 hF (jo_ev (je_sorted hF rfl rfl m_sorted (ja_cons (jo_rd (pv 4)) ja_nil))) (jo_rd (pv 1)))) ja_nil)))))))))
/-! _law_market -/
theorem sc__law_market : FnScope ["deal", "buyers", "levels", "most", "buyer", "turn", "many", "sizes", "style", "count", "size", "at"] ["deal", "buyers", "levels", "most"] (defScope (top 19)) := ⟨rfl, rfl, rfl, by decide +kernel, rfl, by decide +kernel, by decide +kernel⟩
theorem po__law_market : PoB "_law_market" (top 19) ["deal", "buyers", "levels", "most"] := fun _ _ _ _ _ _ us hl => match us, hl with | [_, _, _, _], _ => rfl
noncomputable def c0__law_market : SE := callE [true, false, false] (f__law_ladder) [.rd 0, .ev (varE 10), .ev (varE 8)]
noncomputable def l1__law_market : SE := lcE (seqI (varE 7)) [10] (nameT 10) (yesT) (c0__law_market)
noncomputable def b2__law_market : SS := fgS [10] (asgS 9 (ev2 (.rd 9) (.rd 10) mulU))
noncomputable def b3__law_market : SS := fgS [5, 9, 10, 11] (seqS (asgS 9 (intE 1)) (seqS (forO 7 (nameT 10) b2__law_market) (ifS (tst (cmpE (.rd 9) (.rd 3) gtB)) (fgS [11] (seqS (fzS 11 (asgS 11 (idxE (.rd 7) (.ev (biE [.rd 7] maxK))))) (setX 7 (ev2 (.ev (ev2 (.rd 7) (.rd 11) ixX)) (.ev (intE 1)) subU) (varE 11)))) (passS))))
noncomputable def c4__law_market : SE := callE [true, false] (f__law_any) [.rd 0, .ev (varE 2)]
noncomputable def b5__law_market : SS := fgS [4] (dropS (onL 7 (ev2 (.ev (intE 1)) (.ev (c4__law_market)) addU) (appK 7)))
noncomputable def c6__law_market : SE := callE [true, false] (f__law_any) [.rd 0, .ev (varE 1)]
noncomputable def c7__law_market : SE := callE [true, false] (f__law_of) [.rd 0, .ev (lstE [(false, intE 0), (false, intE 0), (false, intE 1), (false, intE 2), (false, intE 3)])]
noncomputable def s__law_market : SS := seqS (fzS 6 (par3S 6 7 8 (ev2 (.ev (intE 1)) (.ev (c6__law_market)) addU) (lstE []) (c7__law_market))) (seqS (forS (rngI [.rd 6]) (nameT 4) b5__law_market) (seqS (forS (rngI [.ev (intE 64)]) (nameT 5) b3__law_market) (retS (biE [.ev (l1__law_market)] tupleK))))
noncomputable def f__law_market : SF := bodyF [true, false, false, false] 12 s__law_market
def k__law_market : Nat := 4
theorem ok__law_market {P : Program} {w : World} {K : PySem.W.Frag} {mg : Str → Option Value} {base : Heap} {ca : Nat → Addr} (a : At K mg "_law_market" (top 19)) (m_tuple : mg "tuple" = none) (m_range : mg "range" = none) (m_max : mg "max" = none)  (h__law_ladder : Has P w K mg base ca "_law_ladder" (top 18) ["deal", "many", "style"] [true, false, false] k__law_ladder f__law_ladder) (h__law_any : Has P w K mg base ca "_law_any" (top 14) ["deal", "bound"] [true, false] k__law_any f__law_any) (h__law_of : Has P w K mg base ca "_law_of" (top 15) ["deal", "some"] [true, false] k__law_of f__law_of) : Has P w K mg base ca "_law_market" (top 19) ["deal", "buyers", "levels", "most"] [true, false, false, false] k__law_market f__law_market :=
  Has.def_ (k := 3) (N := ["deal", "buyers", "levels", "most", "buyer", "turn", "many", "sizes", "style", "count", "size", "at"]) a sc__law_market rfl (fun f fd F => F.bindsN po__law_market) (fun f cdv A outer s H E fr hF hr => by
    have hr__law_ladder := hr.mono (show k__law_ladder ≤ 3 by decide)
    have hr__law_any := hr.mono (show k__law_any ≤ 3 by decide)
    have hr__law_of := hr.mono (show k__law_of ≤ 3 by decide)
    have hv := hv_of hr
    have hu := hu_of64 hr
    have hw := hw_of hr
    exact jb_cons (js_fz (js_par3u (i := 6) (j := 7) (l := 8) rfl sc__law_market.nd rfl rfl rfl (Or.inl rfl) (Or.inl rfl) (Or.inr rfl) (pa_cons (je_add hF (jo_ev (je_int)) (jo_ev (je_callH h__law_any hr__law_any rfl (takes_of rfl rfl rfl rfl) hF (ja_cons (jo_rd (pv 0)) (ja_cons (jo_ev (je_var (pv 1))) ja_nil))))) (pa_cons (je_ex fun F3 hF3 => je_lst jd_nil) (pa_cons (je_ex fun F3 hF3 => je_callH h__law_of hr__law_of rfl (takes_of rfl rfl rfl rfl) (hF3.trans hF) (ja_cons (jo_rd (pv 0)) (ja_cons (jo_ev (je_lst (jd_cons (je_int) (jd_cons (je_int) (jd_cons (je_int) (jd_cons (je_int) (jd_cons (je_int) jd_nil))))))) ja_nil))) pa_nil rfl) rfl) rfl) (by first | exact Or.inl rfl | exact Or.inr rfl) (by first | exact Or.inl rfl | exact Or.inr rfl) (by first | exact Or.inl rfl | exact Or.inr rfl))) (jb_cons (js_for (passes_of rfl) rfl (ji_rng1 rfl m_range (ja_cons (jo_rd (pv 6)) ja_nil)) (jg_name sc__law_market.nd (i := 4) rfl (Or.inl rfl)) (jb_fg (jb_one (js_drop (je_append hF (pv 7) (je_add hF (jo_ev (je_int)) (jo_ev (je_callH h__law_any hr__law_any rfl (takes_of rfl rfl rfl rfl) hF (ja_cons (jo_rd (pv 0)) (ja_cons (jo_ev (je_var (pv 2))) ja_nil)))))))))) (jb_cons (js_for (passes_of rfl) rfl (ji_rng1 rfl m_range (ja_cons (jo_ev (je_int)) ja_nil)) (jg_name sc__law_market.nd (i := 5) rfl (Or.inl rfl)) (jb_fg (jb_cons (js_set (i := 9) sc__law_market.nd rfl (Or.inl rfl) (je_int)) (jb_cons (js_forO hF (passes_of rfl) rfl (pv 7) (fun F2 hF2 => jg_name sc__law_market.nd (i := 10) rfl (Or.inl rfl)) (fun F2 hF2 => jb_fg (jb_one (js_set (i := 9) sc__law_market.nd rfl (Or.inl rfl) (je_mul (jo_rd (pv 9)) (jo_rd (pv 10))))))) (jb_one (js_if (jt_cmp hF cmp_gt (jo_rd (pv 9)) (jo_rd (pv 3)) (nomark _)) (jb_fg (jb_cons (js_fz (js_set (i := 11) sc__law_market.nd rfl (Or.inl rfl) (je_idx hF hv (jo_rd (pv 7)) (jo_ev (je_max hF rfl rfl m_max (ja_cons (jo_rd (pv 7)) ja_nil)))))) (jb_one (js_setX hF hv (pv 7) (je_var (pv 11)) (je_sub (jo_ev (je_ixd hF hv (jo_rd (pv 7)) (jo_rd (pv 11)))) (jo_ev (je_int))))))) (jb_nil))))))) (jb_one (js_ret (je_tuple hF rfl m_tuple (ja_cons (jo_ev (je_lc (own := [("size", 10)]) rfl sc__law_market.nd (ji_seq hF (je_var (pv 7))) (blkOk_by (N := ["deal", "buyers", "levels", "most", "buyer", "turn", "many", "sizes", "style", "count", "size", "at"]) (sc := defScope (top 19)) (by decide +kernel)) (fun s1 H1 C1 cl1 fp1 F1 hF1 => jg_name sc__law_market.nd (i := 10) rfl (Or.inl rfl)) (fun s1 H1 C1 cl1 fp1 => jts_nil) (fun s1 H1 C1 cl1 fp1 F1 hF1 => je_callH h__law_ladder hr__law_ladder rfl takes0 (hF1.trans hF) (ja_cons (jo_rd (pv 0)) (ja_cons (jo_ev (je_var (pv 10))) (ja_cons (jo_ev (je_var (pv 8))) ja_nil)))))) ja_nil)))))))
/-! _law_parted -/
theorem sc__law_parted : FnScope ["box", "buyer"] ["box", "buyer"] (defScope (top 20)) := ⟨rfl, rfl, rfl, by decide +kernel, rfl, by decide +kernel, by decide +kernel⟩
theorem po__law_parted : PoB "_law_parted" (top 20) ["box", "buyer"] := fun _ _ _ _ _ _ us hl => match us, hl with | [_, _], _ => rfl
noncomputable def s__law_parted : SS := retS (tupE [(false, ev2 (.ev (ev2 (.ev (biE [.rd 0, .rd 1] slK01)) (.ev (tupE [(false, biE [.ev (ev2 (.rd 0) (.rd 1) ixX), .ev (intE 1)] slK01)])) addU)) (.ev (biE [.rd 0, .ev (ev2 (.rd 1) (.ev (intE 1)) addU)] slK10)) addU), (false, ev2 (.ev (ev2 (.ev (biE [.rd 0, .rd 1] slK01)) (.ev (tupE [(false, biE [.ev (ev2 (.rd 0) (.rd 1) ixX), .ev (intE 1)] slK10)])) addU)) (.ev (biE [.rd 0, .ev (ev2 (.rd 1) (.ev (intE 1)) addU)] slK10)) addU)])
noncomputable def f__law_parted : SF := bodyF [false, false] 2 s__law_parted
def k__law_parted : Nat := 1
theorem ok__law_parted {P : Program} {w : World} {K : PySem.W.Frag} {mg : Str → Option Value} {base : Heap} {ca : Nat → Addr} (a : At K mg "_law_parted" (top 20))    : Has P w K mg base ca "_law_parted" (top 20) ["box", "buyer"] [false, false] k__law_parted f__law_parted :=
  Has.def_ (k := 0) (N := ["box", "buyer"]) a sc__law_parted rfl (fun f fd F => F.bindsN po__law_parted) (fun f cdv A outer s H E fr hF hr => by
    have hv := hv_of hr
    have hu := hu_of64 hr
    have hw := hw_of hr
    exact jb_one (js_ret (je_tup (jd_cons (je_add hF (jo_ev (je_add hF (jo_ev (je_sl01 hF (jo_rd (pv 0)) (jo_rd (pv 1)))) (jo_ev (je_tup (jd_cons (je_sl01 hF (jo_ev (je_ixd hF hv (jo_rd (pv 0)) (jo_rd (pv 1)))) (jo_ev (je_int))) jd_nil))))) (jo_ev (je_sl10 hF (jo_rd (pv 0)) (jo_ev (je_add hF (jo_rd (pv 1)) (jo_ev (je_int))))))) (jd_cons (je_add hF (jo_ev (je_add hF (jo_ev (je_sl01 hF (jo_rd (pv 0)) (jo_rd (pv 1)))) (jo_ev (je_tup (jd_cons (je_sl10 hF (jo_ev (je_ixd hF hv (jo_rd (pv 0)) (jo_rd (pv 1)))) (jo_ev (je_int))) jd_nil))))) (jo_ev (je_sl10 hF (jo_rd (pv 0)) (jo_ev (je_add hF (jo_rd (pv 1)) (jo_ev (je_int))))))) jd_nil)))))
/-! _law_clock_lots -/
theorem sc__law_clock_lots : FnScope ["deal", "market", "stops", "lots", "waiting", "some", "box", "out", "sure", "free", "lot", "profile", "buyer", "low", "high"] ["deal", "market", "stops"] (defScope (top 21)) := ⟨rfl, rfl, rfl, by decide +kernel, rfl, by decide +kernel, by decide +kernel⟩
theorem po__law_clock_lots : PoB "_law_clock_lots" (top 21) ["deal", "market", "stops"] := fun _ _ _ _ _ _ us hl => match us, hl with | [_, _, _], _ => rfl
noncomputable def c0__law_clock_lots : SE := callE [true, false] (f__law_any) [.rd 0, .ev (varE 2)]
noncomputable def c1__law_clock_lots : SE := callE [false] (f__law_profiles) [.ev (varE 6)]
noncomputable def b2__law_clock_lots : SS := fgS [11] (setX 3 (varE 10) (varE 11))
noncomputable def c3__law_clock_lots : SE := callE [true, false] (f__law_any) [.rd 0, .ev (intE 2)]
noncomputable def l4__law_clock_lots : SE := lcE (seqI (varE 9)) [12] (nameT 12) (tst (cmpE (.ev (c3__law_clock_lots)) (.ev (intE 0)) eqB)) (varE 12)
noncomputable def l5__law_clock_lots : SE := lcE (rngI [.ev (biE [.rd 1] lenX)]) [12] (nameT 12) (andT (tst (cmpE (.rd 12) (.rd 7) notInX)) (tst (cmpE (.rd 12) (.rd 8) notInX))) (varE 12)
noncomputable def c6__law_clock_lots : SE := callE [true, false] (f__law_any) [.rd 0, .ev (intE 3)]
noncomputable def c7__law_clock_lots : SE := callE [false, false] (f__law_parted) [.ev (varE 6), .ev (varE 12)]
noncomputable def c8__law_clock_lots : SE := callE [true, false] (f__law_of) [.rd 0, .ev (varE 5)]
noncomputable def l9__law_clock_lots : SE := lcE (rngI [.ev (biE [.rd 1] lenX)]) [12] (nameT 12) (andT (tst (cmpE (.rd 12) (.rd 7) notInX)) (andT (tst (cmpE (.rd 12) (.rd 8) notInX)) (tst (cmpE (.ev (biE [.ev (ev2 (.rd 6) (.rd 12) ixX)] lenX)) (.ev (intE 1)) gtB)))) (varE 12)
noncomputable def b10__law_clock_lots : SS := fgS [5, 6, 7, 8, 9, 10, 11, 12, 13, 14] (seqS (unpS (tupT [nameT 6, nameT 7, nameT 8]) (popE 4)) (seqS (fzS 5 (asgS 5 (l9__law_clock_lots))) (ifS (orT (tst (cmpE (.rd 5) (.ev (lstE [])) eqB)) (tst (cmpE (.ev (c0__law_clock_lots)) (.ev (intE 0)) eqB))) (fgS [9, 10] (seqS (fzS 9 (asgS 9 (l5__law_clock_lots))) (seqS (asgS 10 (biE [.ev (biE [.ev (ev2 (.ev (biE [.rd 8] listK)) (.ev (l4__law_clock_lots)) addU)] sortK)] tupleK)) (forS (seqI (c1__law_clock_lots)) (nameT 11) b2__law_clock_lots)))) (fgS [12, 13, 14] (seqS (asgS 12 (c8__law_clock_lots)) (seqS (unpS (tupT [nameT 13, nameT 14]) (c7__law_clock_lots)) (ifS (tst (cmpE (.ev (c6__law_clock_lots)) (.ev (intE 0)) gtB)) (asgS 4 (ev2 (.rd 4) (.ev (lstE [(false, tupE [(false, varE 13), (false, ev2 (.rd 7) (.ev (tupE [(false, varE 12)])) addU), (false, varE 8)]), (false, tupE [(false, varE 14), (false, varE 7), (false, varE 8)])])) addU)) (asgS 4 (ev2 (.rd 4) (.ev (lstE [(false, tupE [(false, varE 13), (false, varE 7), (false, varE 8)]), (false, tupE [(false, varE 14), (false, varE 7), (false, ev2 (.rd 8) (.ev (tupE [(false, varE 12)])) addU)])])) addU)))))))))
noncomputable def b11__law_clock_lots : ST := tst (cmpE (.rd 4) (.ev (lstE [])) neB)
noncomputable def s__law_clock_lots : SS := seqS (par2S 3 4 (biE [.ev (lstE [])] dictK) (lstE [(false, tupE [(false, varE 1), (false, tupE []), (false, tupE [])])])) (seqS (whileS b11__law_clock_lots b10__law_clock_lots) (retS (movE 3)))
noncomputable def f__law_clock_lots : SF := bodyF [true, false, false] 15 s__law_clock_lots
def k__law_clock_lots : Nat := 3
theorem ok__law_clock_lots {P : Program} {w : World} {K : PySem.W.Frag} {mg : Str → Option Value} {base : Heap} {ca : Nat → Addr} (a : At K mg "_law_clock_lots" (top 21)) (m_tuple : mg "tuple" = none) (m_sorted : mg "sorted" = none) (m_list : mg "list" = none) (m_range : mg "range" = none) (m_len : mg "len" = none) (m_dict : mg "dict" = none)  (h__law_any : Has P w K mg base ca "_law_any" (top 14) ["deal", "bound"] [true, false] k__law_any f__law_any) (h__law_profiles : Has P w K mg base ca "_law_profiles" (top 17) ["market"] [false] k__law_profiles f__law_profiles) (h__law_parted : Has P w K mg base ca "_law_parted" (top 20) ["box", "buyer"] [false, false] k__law_parted f__law_parted) (h__law_of : Has P w K mg base ca "_law_of" (top 15) ["deal", "some"] [true, false] k__law_of f__law_of) : Has P w K mg base ca "_law_clock_lots" (top 21) ["deal", "market", "stops"] [true, false, false] k__law_clock_lots f__law_clock_lots :=
  Has.def_ (k := 2) (N := ["deal", "market", "stops", "lots", "waiting", "some", "box", "out", "sure", "free", "lot", "profile", "buyer", "low", "high"]) a sc__law_clock_lots rfl (fun f fd F => F.bindsN po__law_clock_lots) (fun f cdv A outer s H E fr hF hr => by
    have hr__law_any := hr.mono (show k__law_any ≤ 2 by decide)
    have hr__law_profiles := hr.mono (show k__law_profiles ≤ 2 by decide)
    have hr__law_parted := hr.mono (show k__law_parted ≤ 2 by decide)
    have hr__law_of := hr.mono (show k__law_of ≤ 2 by decide)
    have hv := hv_of hr
    have hu := hu_of64 hr
    have hw := hw_of hr
    exact jb_cons (js_par2 (fun ta h => ps_par (i := 3) (j := 4) rfl sc__law_clock_lots.nd rfl rfl (by decide) rfl rfl h rfl) (pa_cons (je_dict hF rfl rfl m_dict (ja_cons (jo_ev (je_lst jd_nil)) ja_nil)) (pa_cons (je_ex fun F4 hF4 => je_lst (jd_cons (je_tup (jd_cons (je_var (pv 1)) (jd_cons (je_tup jd_nil) (jd_cons (je_tup jd_nil) jd_nil)))) jd_nil)) pa_nil rfl) rfl)) (jb_cons (js_while (passes_of rfl) (jt_cmp hF (cmp_ne hu) (jo_rd (pv 4)) (jo_ev (je_lst jd_nil)) (nomark _)) (jb_fg (jb_cons (js_unp (je_pop hF (pv 4)) (jg_tup hF rfl (jgs_cons (jg_name sc__law_clock_lots.nd (i := 6) rfl (Or.inr rfl)) (jgs_cons (jg_name sc__law_clock_lots.nd (i := 7) rfl (Or.inr rfl)) (jgs_cons (jg_name sc__law_clock_lots.nd (i := 8) rfl (Or.inr rfl)) jgs_nil))))) (jb_cons (js_fz (js_setLc (i := 5) (own := [("buyer", 12)]) rfl sc__law_clock_lots.nd rfl rfl (sw_true rfl rfl rfl rfl) (ji_rng1 rfl m_range (ja_cons (jo_ev (je_lenX hF rfl m_len (ja_cons (jo_rd (pv 1)) ja_nil))) ja_nil)) (blkOk_by (N := ["deal", "market", "stops", "lots", "waiting", "some", "box", "out", "sure", "free", "lot", "profile", "buyer", "low", "high"]) (sc := defScope (top 21)) (by decide +kernel)) (fun s3 H3 C3 cl3 fp3 F3 hF3 => jg_name sc__law_clock_lots.nd (i := 12) rfl (Or.inl rfl)) (fun s3 H3 C3 cl3 fp3 => (jts_one fun F3 hF3 => jt_w (jw_and (jt_cmp (hF3.trans hF) (cmp_notinX hv) (jo_rd (pv 12)) (jo_rd (pv 7)) (by rfl)) (jw_and (jt_cmp (hF3.trans hF) (cmp_notinX hv) (jo_rd (pv 12)) (jo_rd (pv 8)) (by rfl)) (jw_and1 (jt_cmp (hF3.trans hF) cmp_gt (jo_ev (je_lenX (hF3.trans hF) rfl m_len (ja_cons (jo_ev (je_ixd (hF3.trans hF) hv (jo_rd (pv 6)) (jo_rd (pv 12)))) ja_nil))) (jo_ev (je_int)) (nomark _))))))) (fun s3 H3 C3 cl3 fp3 F3 hF3 => je_var (pv 12)))) (jb_one (js_if (jt_w (jw_or (jt_cmp hF (cmp_eq hu) (jo_rd (pv 5)) (jo_ev (je_lst jd_nil)) (nomark _)) (jw_or1 (jt_cmp hF (cmp_eq hu) (jo_ev (je_callH h__law_any hr__law_any rfl (takes_of rfl rfl rfl rfl) hF (ja_cons (jo_rd (pv 0)) (ja_cons (jo_ev (je_var (pv 2))) ja_nil)))) (jo_ev (je_int)) (nomark _))))) (jb_fg (jb_cons (js_fz (js_setLc (i := 9) (own := [("buyer", 12)]) rfl sc__law_clock_lots.nd rfl rfl (sw_true rfl rfl rfl rfl) (ji_rng1 rfl m_range (ja_cons (jo_ev (je_lenX hF rfl m_len (ja_cons (jo_rd (pv 1)) ja_nil))) ja_nil)) (blkOk_by (N := ["deal", "market", "stops", "lots", "waiting", "some", "box", "out", "sure", "free", "lot", "profile", "buyer", "low", "high"]) (sc := defScope (top 21)) (by decide +kernel)) (fun s2 H2 C2 cl2 fp2 F2 hF2 => jg_name sc__law_clock_lots.nd (i := 12) rfl (Or.inl rfl)) (fun s2 H2 C2 cl2 fp2 => (jts_one fun F2 hF2 => jt_w (jw_and (jt_cmp (hF2.trans hF) (cmp_notinX hv) (jo_rd (pv 12)) (jo_rd (pv 7)) (by rfl)) (jw_and1 (jt_cmp (hF2.trans hF) (cmp_notinX hv) (jo_rd (pv 12)) (jo_rd (pv 8)) (by rfl)))))) (fun s2 H2 C2 cl2 fp2 F2 hF2 => je_var (pv 12)))) (jb_cons (js_set (i := 10) sc__law_clock_lots.nd rfl (Or.inl rfl) (je_tuple hF rfl m_tuple (ja_cons (jo_ev (je_sorted hF rfl rfl m_sorted (ja_cons (jo_ev (je_add hF (jo_ev (je_list hF rfl m_list (ja_cons (jo_rd (pv 8)) ja_nil))) (jo_ev (je_lc (own := [("buyer", 12)]) rfl sc__law_clock_lots.nd (ji_seq hF (je_var (pv 9))) (blkOk_by (N := ["deal", "market", "stops", "lots", "waiting", "some", "box", "out", "sure", "free", "lot", "profile", "buyer", "low", "high"]) (sc := defScope (top 21)) (by decide +kernel)) (fun s1 H1 C1 cl1 fp1 F1 hF1 => jg_name sc__law_clock_lots.nd (i := 12) rfl (Or.inl rfl)) (fun s1 H1 C1 cl1 fp1 => (jts_one fun F1 hF1 => jt_cmp (hF1.trans hF) (cmp_eq hu) (jo_ev (je_callH h__law_any hr__law_any rfl takes0 (hF1.trans hF) (ja_cons (jo_rd (pv 0)) (ja_cons (jo_ev (je_int)) ja_nil)))) (jo_ev (je_int)) (nomark _))) (fun s1 H1 C1 cl1 fp1 F1 hF1 => je_var (pv 12)))))) ja_nil))) ja_nil))) (jb_one (js_for (passes_of rfl) rfl (ji_seq hF (je_callH h__law_profiles hr__law_profiles rfl (takes_of rfl rfl rfl rfl) hF (ja_cons (jo_ev (je_var (pv 6))) ja_nil))) (jg_name sc__law_clock_lots.nd (i := 11) rfl (Or.inl rfl)) (jb_fg (jb_one (js_setX hF hv (pv 3) (je_var (pv 11)) (je_var (pv 10)))))))))) (jb_fg (jb_cons (js_set (i := 12) sc__law_clock_lots.nd rfl (Or.inl rfl) (je_callH h__law_of hr__law_of rfl (takes_of rfl rfl rfl rfl) hF (ja_cons (jo_rd (pv 0)) (ja_cons (jo_ev (je_var (pv 5))) ja_nil)))) (jb_cons (js_unp (je_callH h__law_parted hr__law_parted rfl (takes_of rfl rfl rfl rfl) hF (ja_cons (jo_ev (je_var (pv 6))) (ja_cons (jo_ev (je_var (pv 12))) ja_nil))) (jg_tup hF rfl (jgs_cons (jg_name sc__law_clock_lots.nd (i := 13) rfl (Or.inl rfl)) (jgs_cons (jg_name sc__law_clock_lots.nd (i := 14) rfl (Or.inl rfl)) jgs_nil)))) (jb_one (js_if (jt_cmp hF cmp_gt (jo_ev (je_callH h__law_any hr__law_any rfl (takes_of rfl rfl rfl rfl) hF (ja_cons (jo_rd (pv 0)) (ja_cons (jo_ev (je_int)) ja_nil)))) (jo_ev (je_int)) (nomark _)) (jb_one (js_set (i := 4) sc__law_clock_lots.nd rfl (Or.inl rfl) (je_add hF (jo_rd (pv 4)) (jo_ev (je_lst (jd_cons (je_tup (jd_cons (je_var (pv 13)) (jd_cons (je_add hF (jo_rd (pv 7)) (jo_ev (je_tup (jd_cons (je_var (pv 12)) jd_nil)))) (jd_cons (je_var (pv 8)) jd_nil)))) (jd_cons (je_tup (jd_cons (je_var (pv 14)) (jd_cons (je_var (pv 7)) (jd_cons (je_var (pv 8)) jd_nil)))) jd_nil))))))) (jb_one (js_set (i := 4) sc__law_clock_lots.nd rfl (Or.inl rfl) (je_add hF (jo_rd (pv 4)) (jo_ev (je_lst (jd_cons (je_tup (jd_cons (je_var (pv 13)) (jd_cons (je_var (pv 7)) (jd_cons (je_var (pv 8)) jd_nil)))) (jd_cons (je_tup (jd_cons (je_var (pv 14)) (jd_cons (je_var (pv 7)) (jd_cons (je_add hF (jo_rd (pv 8)) (jo_ev (je_tup (jd_cons (je_var (pv 12)) jd_nil)))) jd_nil)))) jd_nil)))))))))))))))))) (jb_one (js_ret (je_mov (pv 3))))))
/-! _law_rule -/
theorem sc__law_rule : FnScope ["market", "lots", "profile"] ["market", "lots"] (defScope (top 22)) := ⟨rfl, rfl, rfl, by decide +kernel, rfl, by decide +kernel, by decide +kernel⟩
theorem po__law_rule : PoB "_law_rule" (top 22) ["market", "lots"] := fun _ _ _ _ _ _ us hl => match us, hl with | [_, _], _ => rfl
noncomputable def c0__law_rule : SE := callE [false] (f__law_profiles) [.ev (varE 0)]
noncomputable def l1__law_rule : SE := lcE (seqI (c0__law_rule)) [2] (nameT 2) (yesT) (ev2 (.rd 1) (.rd 2) ixX)
noncomputable def s__law_rule : SS := retS (tupE [(false, varE 0), (false, biE [.ev (l1__law_rule)] tupleK)])
noncomputable def f__law_rule : SF := bodyF [false, false] 3 s__law_rule
def k__law_rule : Nat := 2
theorem ok__law_rule {P : Program} {w : World} {K : PySem.W.Frag} {mg : Str → Option Value} {base : Heap} {ca : Nat → Addr} (a : At K mg "_law_rule" (top 22)) (m_tuple : mg "tuple" = none)  (h__law_profiles : Has P w K mg base ca "_law_profiles" (top 17) ["market"] [false] k__law_profiles f__law_profiles) : Has P w K mg base ca "_law_rule" (top 22) ["market", "lots"] [false, false] k__law_rule f__law_rule :=
  Has.def_ (k := 1) (N := ["market", "lots", "profile"]) a sc__law_rule rfl (fun f fd F => F.bindsN po__law_rule) (fun f cdv A outer s H E fr hF hr => by
    have hr__law_profiles := hr.mono (show k__law_profiles ≤ 1 by decide)
    have hv := hv_of hr
    have hu := hu_of64 hr
    have hw := hw_of hr
    exact jb_one (js_ret (je_tup (jd_cons (je_var (pv 0)) (jd_cons (je_tuple hF rfl m_tuple (ja_cons (jo_ev (je_lc (own := [("profile", 2)]) rfl sc__law_rule.nd (ji_seq hF (je_callH h__law_profiles hr__law_profiles rfl (takes_of rfl rfl rfl rfl) hF (ja_cons (jo_ev (je_var (pv 0))) ja_nil))) (blkOk_by (N := ["market", "lots", "profile"]) (sc := defScope (top 22)) (by decide +kernel)) (fun s1 H1 C1 cl1 fp1 F1 hF1 => jg_name sc__law_rule.nd (i := 2) rfl (Or.inl rfl)) (fun s1 H1 C1 cl1 fp1 => jts_nil) (fun s1 H1 C1 cl1 fp1 F1 hF1 => je_ixd (hF1.trans hF) hv (jo_rd (pv 1)) (jo_rd (pv 2))))) ja_nil)) jd_nil)))))
/-! _law_lots -/
theorem sc__law_lots : FnScope ["deal", "market", "form", "some", "lots", "profile", "turn", "buyer", "lot", "at", "sums", "ladder", "one"] ["deal", "market"] (defScope (top 23)) := ⟨rfl, rfl, rfl, by decide +kernel, rfl, by decide +kernel, by decide +kernel⟩
theorem po__law_lots : PoB "_law_lots" (top 23) ["deal", "market"] := fun _ _ _ _ _ _ us hl => match us, hl with | [_, _], _ => rfl
noncomputable def c0__law_lots : SE := callE [false] (f__law_profiles) [.ev (varE 1)]
noncomputable def l1__law_lots : SE := lcE (seqI (varE 8)) [7] (nameT 7) (yesT) (ev2 (.rd 5) (.rd 7) ixX)
noncomputable def l2__law_lots : SE := lcE (seqI (varE 3)) [8] (nameT 8) (yesT) (biE [.ev (l1__law_lots)] sumK)
noncomputable def c3__law_lots : SE := callE [true, false] (f__law_of) [.rd 0, .ev (varE 3)]
noncomputable def b4__law_lots : SS := fgS [5, 10] (ifS (tst (cmpE (.rd 2) (.ev (intE 4)) eqB)) (fgS [10] (seqS (fzS 10 (asgS 10 (l2__law_lots))) (setX 4 (ev2 (.rd 3) (.ev (idxE (.rd 10) (.ev (biE [.rd 10] maxK)))) ixX) (varE 5)))) (setX 4 (c3__law_lots) (varE 5)))
noncomputable def c5__law_lots : SE := callE [true, false] (f__law_of) [.rd 0, .ev (lstE [(false, intE 2), (false, intE 3), (false, intE 4)])]
noncomputable def c6__law_lots : SE := callE [true, false] (f__law_any) [.rd 0, .ev (intE 2)]
noncomputable def l7__law_lots : SE := lcE (rngI [.ev (biE [.rd 1] lenX)]) [7] (nameT 7) (tst (cmpE (.ev (c6__law_lots)) (.ev (intE 0)) eqB)) (varE 7)
noncomputable def l8__law_lots : SE := lcE (rngI [.ev (c5__law_lots)]) [9] (nameT 9) (yesT) (biE [.ev (l7__law_lots)] tupleK)
noncomputable def c9__law_lots : SE := callE [true, false] (f__law_of) [.rd 0, .ev (lstE [(false, intE 1), (false, intE 1), (false, intE 3)])]
noncomputable def l10__law_lots : SE := lcE (seqI (varE 8)) [12] (nameT 12) (tst (cmpE (.rd 12) (.rd 7) neB)) (varE 12)
noncomputable def c11__law_lots : SE := callE [true, false] (f__law_any) [.rd 0, .ev (biE [.rd 1] lenX)]
noncomputable def c12__law_lots : SE := callE [true, false] (f__law_of) [.rd 0, .ev (varE 11)]
noncomputable def l13__law_lots : SE := lcE (seqI (varE 1)) [11] (nameT 11) (yesT) (c12__law_lots)
noncomputable def b14__law_lots : SS := fgS [5, 6, 7, 8] (seqS (asgS 5 (biE [.ev (l13__law_lots)] tupleK)) (seqS (asgS 7 (c11__law_lots)) (seqS (asgS 8 (ev2 (.rd 4) (.rd 5) ixX)) (setX 4 (ifE (tst (cmpE (.rd 7) (.rd 8) inX)) (biE [.ev (l10__law_lots)] tupleK) (biE [.ev (biE [.ev (ev2 (.rd 8) (.ev (tupE [(false, varE 7)])) addU)] sortK)] tupleK)) (varE 5)))))
noncomputable def c15__law_lots : SE := callE [true, false] (f__law_of) [.rd 0, .ev (lstE [(false, intE 3), (false, intE 6), (false, intE 12)])]
noncomputable def c16__law_lots : SE := callE [true, false, false] (f__law_clock_lots) [.rd 0, .ev (varE 1), .ev (c15__law_lots)]
noncomputable def c17__law_lots : SE := callE [true, false] (f__law_any) [.rd 0, .ev (intE 6)]
noncomputable def s__law_lots : SS := seqS (asgS 2 (c17__law_lots)) (seqS (ifS (tst (cmpE (.rd 2) (.ev (intE 4)) ltB)) (seqS (asgS 4 (c16__law_lots)) (seqS (forS (rngI [.ev (ifE (tst (cmpE (.rd 2) (.ev (intE 1)) gtB)) (c9__law_lots) (intE 0))]) (nameT 6) b14__law_lots) (retS (movE 4)))) (passS)) (seqS (fzS 3 (asgS 3 (l8__law_lots))) (seqS (asgS 4 (biE [.ev (lstE [])] dictK)) (seqS (forS (seqI (c0__law_lots)) (nameT 5) b4__law_lots) (retS (movE 4))))))
noncomputable def f__law_lots : SF := bodyF [true, false] 13 s__law_lots
def k__law_lots : Nat := 4
theorem ok__law_lots {P : Program} {w : World} {K : PySem.W.Frag} {mg : Str → Option Value} {base : Heap} {ca : Nat → Addr} (a : At K mg "_law_lots" (top 23)) (m_max : mg "max" = none) (m_sum : mg "sum" = none) (m_dict : mg "dict" = none) (m_range : mg "range" = none) (m_tuple : mg "tuple" = none) (m_len : mg "len" = none) (m_sorted : mg "sorted" = none)  (h__law_profiles : Has P w K mg base ca "_law_profiles" (top 17) ["market"] [false] k__law_profiles f__law_profiles) (h__law_of : Has P w K mg base ca "_law_of" (top 15) ["deal", "some"] [true, false] k__law_of f__law_of) (h__law_any : Has P w K mg base ca "_law_any" (top 14) ["deal", "bound"] [true, false] k__law_any f__law_any) (h__law_clock_lots : Has P w K mg base ca "_law_clock_lots" (top 21) ["deal", "market", "stops"] [true, false, false] k__law_clock_lots f__law_clock_lots) : Has P w K mg base ca "_law_lots" (top 23) ["deal", "market"] [true, false] k__law_lots f__law_lots :=
  Has.def_ (k := 3) (N := ["deal", "market", "form", "some", "lots", "profile", "turn", "buyer", "lot", "at", "sums", "ladder", "one"]) a sc__law_lots rfl (fun f fd F => F.bindsN po__law_lots) (fun f cdv A outer s H E fr hF hr => by
    have hr__law_profiles := hr.mono (show k__law_profiles ≤ 3 by decide)
    have hr__law_of := hr.mono (show k__law_of ≤ 3 by decide)
    have hr__law_any := hr.mono (show k__law_any ≤ 3 by decide)
    have hr__law_clock_lots := hr.mono (show k__law_clock_lots ≤ 3 by decide)
    have hv := hv_of hr
    have hu := hu_of64 hr
    have hw := hw_of hr
    exact jb_cons (js_set (i := 2) sc__law_lots.nd rfl (Or.inl rfl) (je_callH h__law_any hr__law_any rfl (takes_of rfl rfl rfl rfl) hF (ja_cons (jo_rd (pv 0)) (ja_cons (jo_ev (je_int)) ja_nil)))) (jb_cons (js_if (jt_cmp hF cmp_lt (jo_rd (pv 2)) (jo_ev (je_int)) (nomark _)) (jb_cons (js_set (i := 4) sc__law_lots.nd rfl (Or.inl rfl) (je_callH h__law_clock_lots hr__law_clock_lots rfl (takes_of rfl rfl rfl rfl) hF (ja_cons (jo_rd (pv 0)) (ja_cons (jo_ev (je_var (pv 1))) (ja_cons (jo_ev (je_callH h__law_of hr__law_of rfl (takes_of rfl rfl rfl rfl) hF (ja_cons (jo_rd (pv 0)) (ja_cons (jo_ev (je_lst (jd_cons (je_int) (jd_cons (je_int) (jd_cons (je_int) jd_nil))))) ja_nil)))) ja_nil))))) (jb_cons (js_for (passes_of rfl) rfl (ji_rng1 rfl m_range (ja_cons (jo_ev (je_if (jt_cmp hF cmp_gt (jo_rd (pv 2)) (jo_ev (je_int)) (nomark _)) (je_callH h__law_of hr__law_of rfl (takes_of rfl rfl rfl rfl) hF (ja_cons (jo_rd (pv 0)) (ja_cons (jo_ev (je_lst (jd_cons (je_int) (jd_cons (je_int) (jd_cons (je_int) jd_nil))))) ja_nil))) (je_int))) ja_nil)) (jg_name sc__law_lots.nd (i := 6) rfl (Or.inl rfl)) (jb_fg (jb_cons (js_set (i := 5) sc__law_lots.nd rfl (Or.inr rfl) (je_tuple hF rfl m_tuple (ja_cons (jo_ev (je_lc (own := [("ladder", 11)]) rfl sc__law_lots.nd (ji_seq hF (je_var (pv 1))) (blkOk_by (N := ["deal", "market", "form", "some", "lots", "profile", "turn", "buyer", "lot", "at", "sums", "ladder", "one"]) (sc := defScope (top 23)) (by decide +kernel)) (fun s6 H6 C6 cl6 fp6 F6 hF6 => jg_name sc__law_lots.nd (i := 11) rfl (Or.inl rfl)) (fun s6 H6 C6 cl6 fp6 => jts_nil) (fun s6 H6 C6 cl6 fp6 F6 hF6 => je_callH h__law_of hr__law_of rfl takes0 (hF6.trans hF) (ja_cons (jo_rd (pv 0)) (ja_cons (jo_ev (je_var (pv 11))) ja_nil))))) ja_nil))) (jb_cons (js_set (i := 7) sc__law_lots.nd rfl (Or.inr rfl) (je_callH h__law_any hr__law_any rfl (takes_of rfl rfl rfl rfl) hF (ja_cons (jo_rd (pv 0)) (ja_cons (jo_ev (je_lenX hF rfl m_len (ja_cons (jo_rd (pv 1)) ja_nil))) ja_nil)))) (jb_cons (js_set (i := 8) sc__law_lots.nd rfl (Or.inl rfl) (je_ixd hF hv (jo_rd (pv 4)) (jo_rd (pv 5)))) (jb_one (js_setX hF hv (pv 4) (je_var (pv 5)) (je_if (jt_cmp hF (cmp_inX hv) (jo_rd (pv 7)) (jo_rd (pv 8)) (by rfl)) (je_tuple hF rfl m_tuple (ja_cons (jo_ev (je_lc (own := [("one", 12)]) rfl sc__law_lots.nd (ji_seq hF (je_var (pv 8))) (blkOk_by (N := ["deal", "market", "form", "some", "lots", "profile", "turn", "buyer", "lot", "at", "sums", "ladder", "one"]) (sc := defScope (top 23)) (by decide +kernel)) (fun s5 H5 C5 cl5 fp5 F5 hF5 => jg_name sc__law_lots.nd (i := 12) rfl (Or.inl rfl)) (fun s5 H5 C5 cl5 fp5 => (jts_one fun F5 hF5 => jt_cmp (hF5.trans hF) (cmp_ne hu) (jo_rd (pv 12)) (jo_rd (pv 7)) (nomark _))) (fun s5 H5 C5 cl5 fp5 F5 hF5 => je_var (pv 12)))) ja_nil)) (je_tuple hF rfl m_tuple (ja_cons (jo_ev (je_sorted hF rfl rfl m_sorted (ja_cons (jo_ev (je_add hF (jo_rd (pv 8)) (jo_ev (je_tup (jd_cons (je_var (pv 7)) jd_nil))))) ja_nil))) ja_nil)))))))))) (jb_one (js_ret (je_mov (pv 4)))))) (jb_nil)) (jb_cons (js_fz (js_setLc (i := 3) (own := [("at", 9)]) rfl sc__law_lots.nd rfl rfl (sw_true rfl rfl rfl rfl) (ji_rng1 rfl m_range (ja_cons (jo_ev (je_callH h__law_of hr__law_of rfl (takes_of rfl rfl rfl rfl) hF (ja_cons (jo_rd (pv 0)) (ja_cons (jo_ev (je_lst (jd_cons (je_int) (jd_cons (je_int) (jd_cons (je_int) jd_nil))))) ja_nil)))) ja_nil)) (blkOk_by (N := ["deal", "market", "form", "some", "lots", "profile", "turn", "buyer", "lot", "at", "sums", "ladder", "one"]) (sc := defScope (top 23)) (by decide +kernel)) (fun s3 H3 C3 cl3 fp3 F3 hF3 => jg_name sc__law_lots.nd (i := 9) rfl (Or.inl rfl)) (fun s3 H3 C3 cl3 fp3 => jts_nil) (fun s3 H3 C3 cl3 fp3 F3 hF3 => je_tuple (hF3.trans hF) rfl m_tuple (ja_cons (jo_ev (je_lc (own := [("buyer", 7)]) rfl sc__law_lots.nd (ji_rng1 rfl m_range (ja_cons (jo_ev (je_lenX (hF3.trans hF) rfl m_len (ja_cons (jo_rd (pv 1)) ja_nil))) ja_nil)) (blkOk_by (by kernel_rfl)) (fun s4 H4 C4 cl4 fp4 F4 hF4 => jg_name sc__law_lots.nd (i := 7) rfl (Or.inl rfl)) (fun s4 H4 C4 cl4 fp4 => (jts_one fun F4 hF4 => jt_cmp (hF4.trans (hF3.trans hF)) (cmp_eq hu) (jo_ev (je_callH h__law_any hr__law_any rfl takes0 (hF4.trans (hF3.trans hF)) (ja_cons (jo_rd (pv 0)) (ja_cons (jo_ev (je_int)) ja_nil)))) (jo_ev (je_int)) (nomark _))) (fun s4 H4 C4 cl4 fp4 F4 hF4 => je_var (pv 7)))) ja_nil)))) (jb_cons (js_set (i := 4) sc__law_lots.nd rfl (Or.inl rfl) (je_dict hF rfl rfl m_dict (ja_cons (jo_ev (je_lst jd_nil)) ja_nil))) (jb_cons (js_for (passes_of rfl) rfl (ji_seq hF (je_callH h__law_profiles hr__law_profiles rfl (takes_of rfl rfl rfl rfl) hF (ja_cons (jo_ev (je_var (pv 1))) ja_nil))) (jg_name sc__law_lots.nd (i := 5) rfl (Or.inr rfl)) (jb_fg (jb_one (js_if (jt_cmp hF (cmp_eq hu) (jo_rd (pv 2)) (jo_ev (je_int)) (nomark _)) (jb_fg (jb_cons (js_fz (js_setLc (i := 10) (own := [("lot", 8)]) rfl sc__law_lots.nd rfl rfl (sw_true rfl rfl rfl rfl) (ji_seq hF (je_var (pv 3))) (blkOk_by (N := ["deal", "market", "form", "some", "lots", "profile", "turn", "buyer", "lot", "at", "sums", "ladder", "one"]) (sc := defScope (top 23)) (by decide +kernel)) (fun s1 H1 C1 cl1 fp1 F1 hF1 => jg_name sc__law_lots.nd (i := 8) rfl (Or.inl rfl)) (fun s1 H1 C1 cl1 fp1 => jts_nil) (fun s1 H1 C1 cl1 fp1 F1 hF1 => je_sum (hF1.trans hF) rfl rfl m_sum (ja_cons (jo_ev (je_lc (own := [("buyer", 7)]) rfl sc__law_lots.nd (ji_seq (hF1.trans hF) (je_var (pv 8))) (blkOk_by (by kernel_rfl)) (fun s2 H2 C2 cl2 fp2 F2 hF2 => jg_name sc__law_lots.nd (i := 7) rfl (Or.inl rfl)) (fun s2 H2 C2 cl2 fp2 => jts_nil) (fun s2 H2 C2 cl2 fp2 F2 hF2 => je_ixd (hF2.trans (hF1.trans hF)) hv (jo_rd (pv 5)) (jo_rd (pv 7))))) ja_nil)))) (jb_one (js_setX hF hv (pv 4) (je_var (pv 5)) (je_ixd hF hv (jo_rd (pv 3)) (jo_ev (je_idx hF hv (jo_rd (pv 10)) (jo_ev (je_max hF rfl rfl m_max (ja_cons (jo_rd (pv 10)) ja_nil)))))))))) (jb_one (js_setX hF hv (pv 4) (je_var (pv 5)) (je_callH h__law_of hr__law_of rfl (takes_of rfl rfl rfl rfl) hF (ja_cons (jo_rd (pv 0)) (ja_cons (jo_ev (je_var (pv 3))) ja_nil))))))))) (jb_one (js_ret (je_mov (pv 4)))))))))
/-! law -/
theorem sc_law : FnScope ["script", "deal", "market", "lots", "rule", "told", "buyer", "ladder", "ways", "others", "turn", "won", "profile", "level", "one"] ["script"] (defScope (top 24)) := ⟨rfl, rfl, rfl, by decide +kernel, rfl, by decide +kernel, by decide +kernel⟩
theorem po_law : PoB "law" (top 24) ["script"] := fun _ _ _ _ _ _ us hl => match us, hl with | [_], _ => rfl
noncomputable def c0_law : SE := callP [false] (f_is_told_by_least) [0] [] [.ev (varE 4)]
noncomputable def c1_law : SE := callE [false, false] (f__law_same 8) [.ev (c0_law), .ev (varE 5)]
noncomputable def c2_law : SE := callP [false, false, false] (f_least_winning) [2, 1, 0] [] [.ev (varE 9), .ev (varE 6), .ev (varE 4)]
noncomputable def c3_law : SE := callE [false, false] (f__law_same 8) [.ev (c2_law), .ev (ifE (tst (cmpE (.rd 11) (.ev (lstE [])) neB)) (ev2 (.rd 11) (.ev (intE 0)) ixX) (nonE))]
noncomputable def l4_law : SE := lcE (seqI (varE 7)) [14] (nameT 14) (tst (cmpE (.rd 6) (.ev (ev2 (.rd 3) (.ev (ev2 (.ev (ev2 (.ev (biE [.rd 9, .rd 6] slK01)) (.ev (tupE [(false, varE 14)])) addU)) (.ev (biE [.rd 9, .ev (ev2 (.rd 6) (.ev (intE 1)) addU)] slK10)) addU)) ixX)) inX)) (varE 14)
noncomputable def c5_law : SE := callP [false, false, false] (f_with_level) [2, 1, 0] [] [.ev (varE 13), .ev (varE 6), .ev (varE 9)]
noncomputable def c6_law : SE := callE [false, false] (f__law_same 8) [.ev (c5_law), .ev (varE 12)]
noncomputable def c7_law : SE := callE [true, false] (f__law_of) [.rd 1, .ev (varE 8)]
noncomputable def c8_law : SE := callE [true, false] (f__law_of) [.rd 1, .ev (varE 7)]
noncomputable def b9_law : SS := fgS [9, 10, 11, 12, 13] (seqS (par2S 9 13 (c7_law) (c8_law)) (seqS (fzS 12 (asgS 12 (ev2 (.ev (ev2 (.ev (biE [.rd 9, .rd 6] slK01)) (.ev (tupE [(false, varE 13)])) addU)) (.ev (biE [.rd 9, .ev (ev2 (.rd 6) (.ev (intE 1)) addU)] slK10)) addU))) (seqS (ifS (notT (tst (c6_law))) (retS (blE false)) (passS)) (seqS (fzS 11 (asgS 11 (l4_law))) (ifS (notT (tst (c3_law))) (retS (blE false)) (passS))))))
noncomputable def l10_law : SE := lcE (seqI (varE 7)) [13] (nameT 13) (tst (cmpE (.rd 13) (.ev (ev2 (.rd 11) (.ev (intE 0)) ixX)) geB)) (varE 13)
noncomputable def l11_law : SE := lcE (seqI (varE 7)) [13] (nameT 13) (tst (cmpE (.rd 6) (.ev (ev2 (.rd 3) (.ev (ev2 (.ev (ev2 (.ev (biE [.rd 9, .rd 6] slK01)) (.ev (tupE [(false, varE 13)])) addU)) (.ev (biE [.rd 9, .ev (ev2 (.rd 6) (.ev (intE 1)) addU)] slK10)) addU)) ixX)) inX)) (varE 13)
noncomputable def b12_law : SS := fgS [9, 11] (seqS (fzS 11 (asgS 11 (l11_law))) (ifS (andT (tst (cmpE (.rd 11) (.ev (lstE [])) neB)) (tst (cmpE (.ev (l10_law)) (.rd 11) neB))) (asgS 5 (blE false)) (passS)))
noncomputable def c13_law : SE := callP [false, false] (f_others_of) [1, 0] [] [.ev (varE 6), .ev (varE 2)]
noncomputable def c14_law : SE := callE [false, false] (f__law_same 8) [.ev (c13_law), .ev (biE [.rd 8] tupleK)]
noncomputable def c15_law : SE := callE [false] (f__law_profiles) [.ev (ev2 (.ev (ev2 (.ev (biE [.rd 2, .rd 6] slK01)) (.ev (tupE [(false, tupE [(false, nonE)])])) addU)) (.ev (biE [.rd 2, .ev (ev2 (.rd 6) (.ev (intE 1)) addU)] slK10)) addU)]
noncomputable def b16_law : SS := fgS [6, 7, 8, 9, 10, 11, 12, 13] (seqS (fzS 8 (asgS 8 (c15_law))) (seqS (ifS (notT (tst (c14_law))) (retS (blE false)) (passS)) (seqS (forO 8 (nameT 9) b12_law) (forS (rngI [.ev (intE 3)]) (nameT 10) b9_law))))
noncomputable def c17_law : SE := callE [false, false] (f__law_rule) [.ev (varE 2), .ev (varE 3)]
noncomputable def c18_law : SE := callE [true, false] (f__law_lots) [.rd 1, .ev (varE 2)]
noncomputable def c19_law : SE := callE [true, false, false, false] (f__law_market) [.rd 1, .ev (intE 6), .ev (intE 8), .ev (intE 2000)]
noncomputable def c20_law : SE := callE [true, false, false, false] (f__law_market) [.rd 1, .ev (intE 4), .ev (intE 4), .ev (intE 100)]
noncomputable def c21_law : SE := callE [true, false, false, false] (f__law_market) [.rd 1, .ev (intE 3), .ev (intE 8), .ev (intE 200)]
noncomputable def c22_law : SE := callE [true, false] (f__law_of) [.rd 1, .ev (lstE [(false, c19_law), (false, c20_law), (false, c21_law)])]
noncomputable def c23_law : SE := callE [false, false] (f__law_draw) [.ev (varE 0), .ev (intE 3)]
noncomputable def s_law : SS := seqS (asgS 1 (c23_law)) (seqS (asgS 2 (c22_law)) (seqS (fzS 3 (asgS 3 (c18_law))) (seqS (fzS 4 (par2S 4 5 (c17_law) (blE true))) (seqS (forS (enumI (varE 2)) (tupT [nameT 6, nameT 7]) b16_law) (retS (frzE (c1_law)))))))
noncomputable def f_law : SF := bodyF [false] 15 s_law
def k_law : Nat := 10
theorem ok_law {P : Program} {w : World} {K : PySem.W.Frag} {mg : Str → Option Value} {base : Heap} {ca : Nat → Addr} (a : At K mg "law" (top 24)) (m_enumerate : mg "enumerate" = none) (m_range : mg "range" = none) (m_tuple : mg "tuple" = none)  (h__law_same : Has P w K mg base ca "_law_same" (top 16) ["value", "due"] [false, false] k__law_same (f__law_same 8)) (h_is_told_by_least : Has P w K mg base ca "is_told_by_least" (top 11) ["rule"] [false] k_is_told_by_least f_is_told_by_least) (h_least_winning : Has P w K mg base ca "least_winning" (top 10) ["rule", "buyer", "others"] [false, false, false] k_least_winning f_least_winning) (h_with_level : Has P w K mg base ca "with_level" (top 7) ["others", "buyer", "level"] [false, false, false] k_with_level f_with_level) (h__law_of : Has P w K mg base ca "_law_of" (top 15) ["deal", "some"] [true, false] k__law_of f__law_of) (h_others_of : Has P w K mg base ca "others_of" (top 6) ["market", "buyer"] [false, false] k_others_of f_others_of) (h__law_profiles : Has P w K mg base ca "_law_profiles" (top 17) ["market"] [false] k__law_profiles f__law_profiles) (h__law_rule : Has P w K mg base ca "_law_rule" (top 22) ["market", "lots"] [false, false] k__law_rule f__law_rule) (h__law_lots : Has P w K mg base ca "_law_lots" (top 23) ["deal", "market"] [true, false] k__law_lots f__law_lots) (h__law_market : Has P w K mg base ca "_law_market" (top 19) ["deal", "buyers", "levels", "most"] [true, false, false, false] k__law_market f__law_market) (h__law_draw : Has P w K mg base ca "_law_draw" (top 13) ["script", "salt"] [false, false] k__law_draw f__law_draw) : Has P w K mg base ca "law" (top 24) ["script"] [false] k_law f_law :=
  Has.def_ (k := 9) (N := ["script", "deal", "market", "lots", "rule", "told", "buyer", "ladder", "ways", "others", "turn", "won", "profile", "level", "one"]) a sc_law rfl (fun f fd F => F.bindsN po_law) (fun f cdv A outer s H E fr hF hr => by
    have hr__law_same := hr.mono (show k__law_same ≤ 9 by decide)
    have hr_is_told_by_least := hr.mono (show k_is_told_by_least ≤ 9 by decide)
    have hr_least_winning := hr.mono (show k_least_winning ≤ 9 by decide)
    have hr_with_level := hr.mono (show k_with_level ≤ 9 by decide)
    have hr__law_of := hr.mono (show k__law_of ≤ 9 by decide)
    have hr_others_of := hr.mono (show k_others_of ≤ 9 by decide)
    have hr__law_profiles := hr.mono (show k__law_profiles ≤ 9 by decide)
    have hr__law_rule := hr.mono (show k__law_rule ≤ 9 by decide)
    have hr__law_lots := hr.mono (show k__law_lots ≤ 9 by decide)
    have hr__law_market := hr.mono (show k__law_market ≤ 9 by decide)
    have hr__law_draw := hr.mono (show k__law_draw ≤ 9 by decide)
    have hv := hv_of hr
    have hu := hu_of64 hr
    have hw := hw_of hr
    exact jb_cons (js_set (i := 1) sc_law.nd rfl (Or.inl rfl) (je_callH h__law_draw hr__law_draw rfl (takes_of rfl rfl rfl rfl) hF (ja_cons (jo_ev (je_var (pv 0))) (ja_cons (jo_ev (je_int)) ja_nil)))) (jb_cons (js_set (i := 2) sc_law.nd rfl (Or.inl rfl) (je_callH h__law_of hr__law_of rfl (takes_of rfl rfl rfl rfl) hF (ja_cons (jo_rd (pv 1)) (ja_cons (jo_ev (je_lst (jd_cons (je_callH h__law_market hr__law_market rfl (takes_of rfl rfl rfl rfl) hF (ja_cons (jo_rd (pv 1)) (ja_cons (jo_ev (je_int)) (ja_cons (jo_ev (je_int)) (ja_cons (jo_ev (je_int)) ja_nil))))) (jd_cons (je_callH h__law_market hr__law_market rfl (takes_of rfl rfl rfl rfl) hF (ja_cons (jo_rd (pv 1)) (ja_cons (jo_ev (je_int)) (ja_cons (jo_ev (je_int)) (ja_cons (jo_ev (je_int)) ja_nil))))) (jd_cons (je_callH h__law_market hr__law_market rfl (takes_of rfl rfl rfl rfl) hF (ja_cons (jo_rd (pv 1)) (ja_cons (jo_ev (je_int)) (ja_cons (jo_ev (je_int)) (ja_cons (jo_ev (je_int)) ja_nil))))) jd_nil))))) ja_nil)))) (jb_cons (js_fz (js_set (i := 3) sc_law.nd rfl (Or.inr rfl) (je_callH h__law_lots hr__law_lots rfl (takes_of rfl rfl rfl rfl) hF (ja_cons (jo_rd (pv 1)) (ja_cons (jo_ev (je_var (pv 2))) ja_nil))))) (jb_cons (js_fz (js_par2 (fun ta h => ps_par (i := 4) (j := 5) rfl sc_law.nd rfl rfl (by decide) rfl rfl h rfl) (pa_cons (je_callH h__law_rule hr__law_rule rfl (takes_of rfl rfl rfl rfl) hF (ja_cons (jo_ev (je_var (pv 2))) (ja_cons (jo_ev (je_var (pv 3))) ja_nil))) (pa_cons (je_ex fun F6 hF6 => je_bl) pa_nil rfl) rfl))) (jb_cons (js_for (passes_of rfl) rfl (ji_enum hF rfl m_enumerate (je_var (pv 2))) (jg_tup hF rfl (jgs_cons (jg_name sc_law.nd (i := 6) rfl (Or.inr rfl)) (jgs_cons (jg_name sc_law.nd (i := 7) rfl (Or.inl rfl)) jgs_nil))) (jb_fg (jb_cons (js_fz (js_set (i := 8) sc_law.nd rfl (Or.inl rfl) (je_callH h__law_profiles hr__law_profiles rfl (takes_of rfl rfl rfl rfl) hF (ja_cons (jo_ev (je_add hF (jo_ev (je_add hF (jo_ev (je_sl01 hF (jo_rd (pv 2)) (jo_rd (pv 6)))) (jo_ev (je_tup (jd_cons (je_tup (jd_cons (je_non) jd_nil)) jd_nil))))) (jo_ev (je_sl10 hF (jo_rd (pv 2)) (jo_ev (je_add hF (jo_rd (pv 6)) (jo_ev (je_int)))))))) ja_nil)))) (jb_cons (js_if (jt_not (jt_val (je_callH h__law_same hr__law_same rfl (takes_of rfl rfl rfl rfl) hF (ja_cons (jo_ev (je_callHP0 h_others_of kw_3 hr_others_of rfl (takes_of rfl rfl rfl rfl) hF (jk_cons (jo_ev (je_var (pv 6))) (jk_cons (jo_ev (je_var (pv 2))) jk_nil)))) (ja_cons (jo_ev (je_tuple hF rfl m_tuple (ja_cons (jo_rd (pv 8)) ja_nil))) ja_nil))))) (jb_one (js_ret (je_bl))) (jb_nil)) (jb_cons (js_forO hF (passes_of rfl) rfl (pv 8) (fun F3 hF3 => jg_name sc_law.nd (i := 9) rfl (Or.inr rfl)) (fun F3 hF3 => jb_fg (jb_cons (js_fz (js_set (i := 11) sc_law.nd rfl (Or.inr rfl) (je_lc (own := [("level", 13)]) rfl sc_law.nd (ji_seq (hF3.trans hF) (je_var (pv 7))) (blkOk_by (N := ["script", "deal", "market", "lots", "rule", "told", "buyer", "ladder", "ways", "others", "turn", "won", "profile", "level", "one"]) (sc := defScope (top 24)) (by decide +kernel)) (fun s5 H5 C5 cl5 fp5 F5 hF5 => jg_name sc_law.nd (i := 13) rfl (Or.inl rfl)) (fun s5 H5 C5 cl5 fp5 => (jts_one fun F5 hF5 => jt_cmp (hF5.trans (hF3.trans hF)) (cmp_inX hv) (jo_rd (pv 6)) (jo_ev (je_ixd (hF5.trans (hF3.trans hF)) hv (jo_rd (pv 3)) (jo_ev (je_add (hF5.trans (hF3.trans hF)) (jo_ev (je_add (hF5.trans (hF3.trans hF)) (jo_ev (je_sl01 (hF5.trans (hF3.trans hF)) (jo_rd (pv 9)) (jo_rd (pv 6)))) (jo_ev (je_tup (jd_cons (je_var (pv 13)) jd_nil))))) (jo_ev (je_sl10 (hF5.trans (hF3.trans hF)) (jo_rd (pv 9)) (jo_ev (je_add (hF5.trans (hF3.trans hF)) (jo_rd (pv 6)) (jo_ev (je_int)))))))))) (by rfl))) (fun s5 H5 C5 cl5 fp5 F5 hF5 => je_var (pv 13))))) (jb_one (js_if (jt_w (jw_and (jt_cmp (hF3.trans hF) (cmp_ne hu) (jo_rd (pv 11)) (jo_ev (je_lst jd_nil)) (nomark _)) (jw_and1 (jt_cmp (hF3.trans hF) (cmp_ne hu) (jo_ev (je_lc (own := [("level", 13)]) rfl sc_law.nd (ji_seq (hF3.trans hF) (je_var (pv 7))) (blkOk_by (N := ["script", "deal", "market", "lots", "rule", "told", "buyer", "ladder", "ways", "others", "turn", "won", "profile", "level", "one"]) (sc := defScope (top 24)) (by decide +kernel)) (fun s4 H4 C4 cl4 fp4 F4 hF4 => jg_name sc_law.nd (i := 13) rfl (Or.inl rfl)) (fun s4 H4 C4 cl4 fp4 => (jts_one fun F4 hF4 => jt_cmp (hF4.trans (hF3.trans hF)) cmp_ge (jo_rd (pv 13)) (jo_ev (je_ixd (hF4.trans (hF3.trans hF)) hv (jo_rd (pv 11)) (jo_ev (je_int)))) (nomark _))) (fun s4 H4 C4 cl4 fp4 F4 hF4 => je_var (pv 13)))) (jo_rd (pv 11)) (nomark _))))) (jb_one (js_set (i := 5) sc_law.nd rfl (Or.inl rfl) (je_bl))) (jb_nil)))))) (jb_one (js_for (passes_of rfl) rfl (ji_rng1 rfl m_range (ja_cons (jo_ev (je_int)) ja_nil)) (jg_name sc_law.nd (i := 10) rfl (Or.inl rfl)) (jb_fg (jb_cons (js_par2u (i := 9) (j := 13) rfl sc_law.nd rfl rfl (Or.inr rfl) (Or.inl rfl) (pa_cons (je_callH h__law_of hr__law_of rfl (takes_of rfl rfl rfl rfl) hF (ja_cons (jo_rd (pv 1)) (ja_cons (jo_ev (je_var (pv 8))) ja_nil))) (pa_cons (je_ex fun F2 hF2 => je_callH h__law_of hr__law_of rfl (takes_of rfl rfl rfl rfl) (hF2.trans hF) (ja_cons (jo_rd (pv 1)) (ja_cons (jo_ev (je_var (pv 7))) ja_nil))) pa_nil rfl) rfl) (by first | exact Or.inl rfl | exact Or.inr rfl) (by first | exact Or.inl rfl | exact Or.inr rfl)) (jb_cons (js_fz (js_set (i := 12) sc_law.nd rfl (Or.inl rfl) (je_add hF (jo_ev (je_add hF (jo_ev (je_sl01 hF (jo_rd (pv 9)) (jo_rd (pv 6)))) (jo_ev (je_tup (jd_cons (je_var (pv 13)) jd_nil))))) (jo_ev (je_sl10 hF (jo_rd (pv 9)) (jo_ev (je_add hF (jo_rd (pv 6)) (jo_ev (je_int))))))))) (jb_cons (js_if (jt_not (jt_val (je_callH h__law_same hr__law_same rfl (takes_of rfl rfl rfl rfl) hF (ja_cons (jo_ev (je_callHP0 h_with_level kw_2 hr_with_level rfl (takes_of rfl rfl rfl rfl) hF (jk_cons (jo_ev (je_var (pv 13))) (jk_cons (jo_ev (je_var (pv 6))) (jk_cons (jo_ev (je_var (pv 9))) jk_nil))))) (ja_cons (jo_ev (je_var (pv 12))) ja_nil))))) (jb_one (js_ret (je_bl))) (jb_nil)) (jb_cons (js_fz (js_set (i := 11) sc_law.nd rfl (Or.inr rfl) (je_lc (own := [("one", 14)]) rfl sc_law.nd (ji_seq hF (je_var (pv 7))) (blkOk_by (N := ["script", "deal", "market", "lots", "rule", "told", "buyer", "ladder", "ways", "others", "turn", "won", "profile", "level", "one"]) (sc := defScope (top 24)) (by decide +kernel)) (fun s1 H1 C1 cl1 fp1 F1 hF1 => jg_name sc_law.nd (i := 14) rfl (Or.inl rfl)) (fun s1 H1 C1 cl1 fp1 => (jts_one fun F1 hF1 => jt_cmp (hF1.trans hF) (cmp_inX hv) (jo_rd (pv 6)) (jo_ev (je_ixd (hF1.trans hF) hv (jo_rd (pv 3)) (jo_ev (je_add (hF1.trans hF) (jo_ev (je_add (hF1.trans hF) (jo_ev (je_sl01 (hF1.trans hF) (jo_rd (pv 9)) (jo_rd (pv 6)))) (jo_ev (je_tup (jd_cons (je_var (pv 14)) jd_nil))))) (jo_ev (je_sl10 (hF1.trans hF) (jo_rd (pv 9)) (jo_ev (je_add (hF1.trans hF) (jo_rd (pv 6)) (jo_ev (je_int)))))))))) (by rfl))) (fun s1 H1 C1 cl1 fp1 F1 hF1 => je_var (pv 14))))) (jb_one (js_if (jt_not (jt_val (je_callH h__law_same hr__law_same rfl (takes_of rfl rfl rfl rfl) hF (ja_cons (jo_ev (je_callHP0 h_least_winning kw_1 hr_least_winning rfl (takes_of rfl rfl rfl rfl) hF (jk_cons (jo_ev (je_var (pv 9))) (jk_cons (jo_ev (je_var (pv 6))) (jk_cons (jo_ev (je_var (pv 4))) jk_nil))))) (ja_cons (jo_ev (je_if (jt_cmp hF (cmp_ne hu) (jo_rd (pv 11)) (jo_ev (je_lst jd_nil)) (nomark _)) (je_ixd hF hv (jo_rd (pv 11)) (jo_ev (je_int))) (je_non))) ja_nil))))) (jb_one (js_ret (je_bl))) (jb_nil))))))))))))))) (jb_one (js_ret (je_frz (je_callH h__law_same hr__law_same rfl (takes_of rfl rfl rfl rfl) hF (ja_cons (jo_ev (je_callHP0 h_is_told_by_least kw_0 hr_is_told_by_least rfl (takes_of rfl rfl rfl rfl) hF (jk_cons (jo_ev (je_var (pv 4))) jk_nil))) (ja_cons (jo_ev (je_var (pv 5))) ja_nil)))))))))))
end Pl

namespace Pl
open PySem L2 PySem.Spec PyProof.Rows
/-- plain data of a depth -/
def Pln : Nat → D → Prop
  | _, .none => True
  | _, .bool _ => True
  | _, .int _ => True
  | _, .str s => SeqAt.shaped (.str s) = true
  | n + 1, .tuple ds => ds.length ≤ LINE ∧ ∀ d ∈ ds, Pln n d
  | _, _ => False
namespace Pre
/-- a comprehension whose items and tests are reckoned from the item alone -/
theorem lcL_pure {own : List Nat} {t : Tg} {c : ST} {e : SE} {st0 : Sg} (g : D → D) (p : D → Bool) : ∀ (items acc : List D) (st : Sg), wipeS st own = st0 → acc.length + items.length ≤ LINE →
    (∀ d ∈ items, ∃ st1, t.set d st0 = some st1 ∧ wipeS st1 own = st0 ∧ c st1 = .ok (p d) st1 ∧ (p d = true → e st1 = .ok false (.dat (g d)) st1)) → ∃ st', wipeS st' own = st0 ∧ lcL own t c e items acc st = .ok (acc ++ (items.filter p).map g) st'
  | [], acc, st, h0, _, _ => ⟨st, h0, by simp [lcL]⟩
  | d :: ds, acc, st, h0, hl, h => by
    obtain ⟨st1, e1, e2, e3, e4⟩ := h d List.mem_cons_self
    unfold lcL
    rw [h0, e1]
    dsimp only
    rw [e3]
    unfold testR
    have hrec := fun acc' st' h0' hl' => lcL_pure (own := own) (t := t) (c := c) (e := e) g p ds acc' st' h0' hl' (fun d hd => h d (List.mem_cons_of_mem _ hd))
    simp only [List.length_cons] at hl
    cases hp : p d with
    | true =>
      dsimp only
      rw [e4 hp]
      unfold pushR
      dsimp only
      rw [if_neg (by simp; omega)]
      obtain ⟨st', h1, h2⟩ := hrec (acc ++ [g d]) st1 e2 (by simp; omega)
      exact ⟨st', h1, by rw [h2, List.filter_cons_of_pos hp, List.map_cons, List.append_assoc]; rfl⟩
    | false =>
      dsimp only
      obtain ⟨st', h1, h2⟩ := hrec acc st1 e2 (by omega)
      exact ⟨st', h1, by rw [h2, List.filter_cons_of_neg (by simp [hp])]⟩
theorem lcE_pure {src : SI} {own : List Nat} {t : Tg} {c : ST} {e : SE} {st st1 : Sg} {items : List D} (g : D → D) (p : D → Bool) (hs : src st = .ok items st1) (hl : items.length ≤ LINE)
    (h : ∀ d ∈ items, ∃ st2, t.set d (wipeS st1 own) = some st2 ∧ wipeS st2 own = wipeS st1 own ∧ c st2 = .ok (p d) st2 ∧ (p d = true → e st2 = .ok false (.dat (g d)) st2)) : lcE src own t c e st = .ok true (.dat (.list ((items.filter p).map g))) (restS st1 (wipeS st1 own) own) := by
  obtain ⟨st', h1, h2⟩ := lcL_pure (st0 := wipeS st1 own) g p items [] st1 rfl (by simpa using hl) h
  unfold lcE
  rw [hs]
  dsimp only
  rw [h2]
  unfold lcR
  dsimp only
  rw [h1, List.nil_append]
theorem filter_true {α : Type} (l : List α) : l.filter (fun _ => true) = l := by induction l with
  | nil => rfl
  | cons x l ih => simp [List.filter_cons, ih]
/-! loops by what holds at each turn -/
def StepQ (I : Sg → Prop) (Q : RS → Prop) : RS → Prop
  | .nx s => I s
  | .ct s => I s
  | .bk s => Q (.nx s)
  | r => Q r
theorem forL_q {t : Tg} {body : SS} (I : List D → Sg → Prop) (Q : RS → Prop) (h0 : ∀ st, I [] st → Q (.nx st)) (hs : ∀ d ds st, I (d :: ds) st → ∃ st1, t.set d st = some st1 ∧ StepQ (I ds) Q (body st1)) : ∀ items st, I items st → Q (forL items t body st)
  | [], st, h => h0 st h
  | d :: ds, st, h => by
    obtain ⟨st1, e, q⟩ := hs d ds st h
    unfold forL
    rw [e]
    dsimp only
    generalize body st1 = z at q
    cases z with
    | nx s => exact forL_q I Q h0 hs ds s q
    | ct s => exact forL_q I Q h0 hs ds s q
    | bk s => exact q
    | rt _ _ _ => exact q
    | exc _ _ _ => exact q
    | bad => exact q
theorem forB_q {i : Nat} {t : Tg} {body : SS} {ds : List D} (I : List D → Sg → Prop) (Q : RS → Prop) (hl : ∀ items st, I items st → bo st i = some ds) (h0 : ∀ st, I [] st → Q (.nx st))
    (hs : ∀ d r st, I (d :: r) st → ∃ st1, t.set d st = some st1 ∧ StepQ (I r) Q (body st1)) : ∀ m k st, m + k = ds.length → I (ds.drop k) st → Q (forB i t body m k st)
  | 0, k, st, e, h => by
    have ek : k = ds.length := by omega
    have hb := hl _ _ h
    unfold forB
    rw [hb]
    dsimp only
    rw [if_pos (by omega)]
    rw [ek, List.drop_length] at h
    exact h0 st h
  | m + 1, k, st, e, h => by
    have hk : k < ds.length := by omega
    have hb := hl _ _ h
    rw [List.drop_eq_getElem_cons hk] at h
    obtain ⟨st1, e1, q⟩ := hs _ _ _ h
    unfold forB
    rw [hb]
    dsimp only
    rw [List.getElem?_eq_getElem hk]
    dsimp only
    rw [e1]
    dsimp only
    generalize body st1 = z at q
    cases z with
    | nx s => exact forB_q I Q hl h0 hs m (k + 1) s (by omega) q
    | ct s => exact forB_q I Q hl h0 hs m (k + 1) s (by omega) q
    | bk s => exact q
    | rt _ _ _ => exact q
    | exc _ _ _ => exact q
    | bad => exact q
/-- a loop over a list of one's own -/
theorem forO_q {i : Nat} {t : Tg} {body : SS} {ds : List D} {st : Sg} (I : List D → Sg → Prop) (Q : RS → Prop) (hi : st[i]? = some (.ow (.dat (.list ds)))) (hI : I ds (st.set i (.bo (.dat (.list ds))))) (hl : ∀ items st, I items st → bo st i = some ds) (h0 : ∀ st, I [] st → Q (unO i (.nx st)))
    (hs : ∀ d r st, I (d :: r) st → ∃ st1, t.set d st = some st1 ∧ StepQ (I r) (fun r => Q (unO i r)) (body st1)) : Q (forO i t body st) := by
  unfold forO
  rw [hi]
  exact forB_q I (fun r => Q (unO i r)) hl h0 hs ds.length 0 _ (by omega) hI
theorem forO_ps {i : Nat} {t : Tg} {body : SS} {ds : List D} {st : Sg} (hi : st[i]? = some (.ps (.dat (.tuple ds)))) : forO i t body st = forL ds t body st := by
  unfold forO
  rw [hi]
theorem lcL_q {own : List Nat} {t : Tg} {c : ST} {e : SE} (I : List D → List D → Sg → Prop) (Q : RL → Prop) (h0 : ∀ acc st, I [] acc st → Q (.ok acc st))
    (hs : ∀ d ds acc st, I (d :: ds) acc st → ∃ st1 b st2, t.set d (wipeS st own) = some st1 ∧ c st1 = .ok b st2 ∧ (b = true → ∃ o y st3, e st2 = .ok o (.dat y) st3 ∧ (o = true → frzU (.dat y) = true) ∧ acc.length < LINE ∧ I ds (acc ++ [y]) st3) ∧ (b = false → I ds acc st2)) : ∀ items acc st, I items acc st → Q (lcL own t c e items acc st)
  | [], acc, st, h => h0 acc st h
  | d :: ds, acc, st, h => by
    obtain ⟨st1, b, st2, e1, e2, e3, e4⟩ := hs d ds acc st h
    unfold lcL
    rw [e1]
    dsimp only
    rw [e2]
    cases b with
    | false => exact lcL_q I Q h0 hs ds acc st2 (e4 rfl)
    | true =>
      obtain ⟨o, y, st3, e5, e6, e7, e8⟩ := e3 rfl
      unfold testR pushR
      dsimp only
      rw [e5]
      dsimp only
      rw [if_neg]
      · exact lcL_q I Q h0 hs ds (acc ++ [y]) st3 e8
      · cases o with
        | false => simp; omega
        | true => simp [e6 rfl]; omega
theorem while_q {c : ST} {body : SS} (I : Sg → Prop) (μ : Sg → Nat) (Q : RS → Prop) (hb : ¬ Q .bad)
    (hs : ∀ st, I st → ∃ b st1, c st = .ok b st1 ∧ (b = true → StepQ (fun s => I s ∧ μ s < μ st) Q (body st1)) ∧ (b = false → Q (.nx st1))) : ∀ st, I st → Q (whileS c body st) := by
  have key : ∀ (n : Nat) (st : Sg), μ st < n → I st → Q (whileN n c body st) := by
    intro n
    induction n with
    | zero => intro st h; omega
    | succ n ih =>
      intro st hn h
      obtain ⟨b, st1, e1, e2, e3⟩ := hs st h
      unfold whileN
      rw [e1]
      cases b with
      | false => exact e3 rfl
      | true =>
        have q := e2 rfl
        show Q (forR (body st1) (whileN n c body))
        generalize body st1 = z at q ⊢
        cases z with
        | nx s => exact ih s (by have := q.2; omega) q.1
        | ct s => exact ih s (by have := q.2; omega) q.1
        | bk s => exact q
        | rt _ _ _ => exact q
        | exc _ _ _ => exact q
        | bad => exact q
  intro st h
  have q := key (μ st + 1) st (by omega) h
  rw [whileS_eq (n := μ st + 1) (fun e => hb (by rw [e] at q; exact q))]
  exact q
theorem sIx0 {n : Nat} : HT.sIx n 0 none = 0 := rfl
theorem sIxn {n : Nat} : HT.sIx n n none = n := rfl
theorem sIxp {n e : Nat} {k : Int} (h : 0 ≤ k) : HT.sIx n e (some k) = min k.toNat n := by
  unfold HT.sIx
  simp [h]
  omega
theorem own_io {q : List Int} {b : Int} {r : Sg} : ownDl (.io (.dl q b) :: r) 0 = some (.io (.dl q b), q, b) := rfl
theorem any_while (b : Int) (x y : Sl) : ∀ (n : Nat) (q : List Int), q.length ≤ n → ∃ k q', q'.length ≤ q.length ∧ whileN k b1__law_any b0__law_any [.io (.dl q b), x, y] = .nx [.io (.dl q' b), x, y] := by
  intro n
  induction n with
  | zero =>
    intro q h
    have e : q = [] := List.length_eq_zero_iff.mp (by omega)
    subst e
    exact ⟨1, [], by simp, rfl⟩
  | succ n ih =>
    intro q h
    rcases List.eq_nil_or_concat q with e | ⟨l, a, e⟩
    · subst e; exact ⟨1, [], by simp, rfl⟩
    · rw [List.concat_eq_append] at e
      subst e
      have hne : ∀ z : Int, (l ++ [z] != []) = true := fun z => by cases l <;> rfl
      by_cases ha : a = 0
      · subst ha
        obtain ⟨k, q', h1, h2⟩ := ih l (by simp at h; omega)
        refine ⟨k + 1, q', by simp; omega, ?_⟩
        unfold whileN
        have ec : b1__law_any [.io (.dl (l ++ [0]) b), x, y] = .ok true [.io (.dl (l ++ [0]) b), x, y] := by
          simp [b1__law_any, andT, thenT, tst, dlNeE, own_io, tstR, cmpE, ev2, evN, evO, dlLastE, intE, fetch, liftB, eqB, SeqAt.shaped, PyData.canLay0, PyData.depth, PyData.eqv, hne]
        have eb : b0__law_any [.io (.dl (l ++ [0]) b), x, y] = .nx [.io (.dl l b), x, y] := by
          simp [b0__law_any, dropS, dlPopE, own_io, dropR, Sl.re]
        rw [ec]
        unfold ifR
        dsimp only
        rw [eb]
        exact h2
      · refine ⟨1, l ++ [a], by simp, ?_⟩
        unfold whileN
        have ec : b1__law_any [.io (.dl (l ++ [a]) b), x, y] = .ok false [.io (.dl (l ++ [a]) b), x, y] := by
          simp [b1__law_any, andT, thenT, tst, dlNeE, own_io, tstR, cmpE, ev2, evN, evO, dlLastE, intE, fetch, liftB, eqB, SeqAt.shaped, PyData.canLay0, PyData.depth, PyData.eqv, ha, hne]
        rw [ec]
        rfl
theorem log_le {n : Int} {k : Nat} (h : n.natAbs < 2 ^ k) : n.natAbs.log2 ≤ k := by
  by_cases z : n.natAbs = 0
  · rw [z, show Nat.log2 0 = 0 from by decide]; exact Nat.zero_le _
  · exact Nat.le_of_lt ((Nat.log2_lt z).mpr h)
theorem any_ok {q : List Int} {b m : Int} (h : GD q b) (hm : 0 < m) (hm2 : m < 2 ^ 70) : ∃ r q' b', GD q' b' ∧ 0 ≤ r ∧ r < m ∧ f__law_any [.dl q b, .dat (.int m)] = .ret false (.dat (.int r)) [.io (.dl q' b'), .no] := by
  obtain ⟨k, q1, h1, h2⟩ := any_while b (.ps (.dat (.int m))) .no q.length q (Nat.le_refl _)
  have hw : whileS b1__law_any b0__law_any [.io (.dl q b), .ps (.dat (.int m)), .no] = .nx [.io (.dl q1 b), .ps (.dat (.int m)), .no] := by
    rw [whileS_eq (n := k) (by rw [h2]; simp), h2]
  obtain ⟨g1, g2, g3⟩ := h
  have st0 : ∀ r, s__law_any [.io (.dl q b), .ps (.dat (.int m)), .no] = r → f__law_any [.dl q b, .dat (.int m)] = bodyR [true, false] r := fun r e => by rw [← e]; rfl
  rcases List.eq_nil_or_concat q1 with e | ⟨l, a, e⟩
  · subst e
    refine ⟨(b * 40693 + 71) % 2147483647 / 64 % m, [], (b * 40693 + 71) % 2147483647, ⟨by simp, Int.emod_nonneg _ (by decide), Int.emod_lt_of_pos _ (by decide)⟩, Int.emod_nonneg _ (by omega), Int.emod_lt_of_pos _ hm, ?_⟩
    rw [st0 _ rfl]
    have lb : b.natAbs.log2 + Nat.log2 40693 < 1000000 := by
      have := log_le (n := b) (k := 31) (by omega)
      have : Nat.log2 40693 ≤ 16 := log_le (n := 40693) (by decide)
      omega
    have lf : Nat.log2 64 < 9000 := by have : Nat.log2 64 ≤ 7 := log_le (n := 64) (by decide); omega
    unfold s__law_any seqS
    rw [hw]
    simp [seqR, ifS, tst, dlNeE, own_io, tstR, ifR, passS, dlSetS, ev2, evN, evO, biE, evA, fetchAll, fetch, dlNumE, intE, mulU, intU, lb, addU, frzU, intK, modU, retS, retR, fdivU, bodyR, maskSl, keepIo, Sl.re, Sl.val, hm, lf]
  · rw [List.concat_eq_append] at e
    subst e
    have hne : ∀ z : Int, (l ++ [z] != []) = true := fun z => by cases l <;> rfl
    refine ⟨a % m, l ++ [a / m], b, ⟨by simp at h1 ⊢; omega, g2, g3⟩, Int.emod_nonneg _ (by omega), Int.emod_lt_of_pos _ hm, ?_⟩
    rw [st0 _ rfl]
    have lm : m.natAbs.log2 < 9000 := by
      have := log_le (n := m) (k := 70) (by omega)
      omega
    have ll : l.length < LINE := by simp at h1; unfold LINE; omega
    unfold s__law_any seqS
    rw [hw]
    simp [seqR, ifS, tst, dlNeE, own_io, tstR, ifR, passS, asgS, asgR, dlPopE, dropS, dropR, dlAppE, ev2, evN, evO, biE, evA, fetchAll, fetch, intE, intK, modU, intU, retS, retR, bodyR, maskSl, keepIo, Sl.re, Sl.val, hm, lm, ll, frzU, free, sl, hne]
def ixI : D → Int
  | .int i => i
  | _ => 0
theorem cut_take {ds : List D} {k : Int} (h : 0 ≤ k) : cutD ds none (some k) = ds.take k.toNat := by
  unfold cutD
  rw [sIx0, sIxp h, List.drop_zero, Nat.sub_zero]
  rcases Nat.le_total k.toNat ds.length with h | h
  · rw [Nat.min_eq_left h]
  · rw [Nat.min_eq_right h, List.take_of_length_le (Nat.le_refl _), List.take_of_length_le h]
theorem cut_drop {ds : List D} {k : Int} (h : 0 ≤ k) : cutD ds (some k) none = ds.drop k.toNat := by
  unfold cutD
  rw [sIxn, sIxp h]
  rcases Nat.le_total k.toNat ds.length with h | h
  · rw [Nat.min_eq_left h, List.take_of_length_le (by simp)]
  · rw [Nat.min_eq_right h, List.drop_of_length_le (Nat.le_refl _), List.drop_of_length_le h]; simp
theorem intsOf_map : ∀ l : List Int, intsOf (l.map PyData.int) = some l
  | [] => rfl
  | i :: l => by
    rw [List.map_cons]
    unfold intsOf
    rw [intsOf_map l]
    rfl
theorem filter_ints (p : Int → Bool) (l : List Int) : ((l.map PyData.int).filter (fun d => p (ixI d))).map id = (l.filter p).map PyData.int := by
  induction l with
  | nil => rfl
  | cons i l ih =>
    rw [List.map_cons]
    cases h : p i with
    | true => rw [List.filter_cons_of_pos (p := fun d => p (ixI d)) (a := .int i) h, List.filter_cons_of_pos h, List.map_cons, List.map_cons, ih]; rfl
    | false => rw [List.filter_cons_of_neg (p := fun d => p (ixI d)) (a := .int i) (by show ¬ p i = true; rw [h]; decide), List.filter_cons_of_neg (by rw [h]; decide), ih]
theorem draw_ok {ns : List Int} (h : ns.length ≤ 63) {salt : Int} (hs : 0 ≤ salt) (hs2 : salt < 100) : ∃ q b, GD q b ∧ f__law_draw [.dat (.list (ns.map .int)), .dat (.int salt)] = .ret true (.dl q b) [.no, .no] := by
  -- the cells
  have e1 : lcE (seqI (biE [.rd 0, .ev (intE 48)] slK01)) [4] (nameT 4) (yesT) (biE [.ev (biE [.rd 4] intK)] absK) [.ps (.dat (.list (ns.map .int))), .ps (.dat (.int salt)), .no, .no, .no]
      = .ok true (.dat (.list (((ns.take 48).map absI).map .int))) [.ps (.dat (.list (ns.map .int))), .ps (.dat (.int salt)), .no, .no, .no] := by
    have hsrc : seqI (biE [.rd 0, .ev (intE 48)] slK01) [.ps (.dat (.list (ns.map .int))), .ps (.dat (.int salt)), .no, .no, .no] = .ok ((ns.take 48).map .int) [.ps (.dat (.list (ns.map .int))), .ps (.dat (.int salt)), .no, .no, .no] := by
      simp [seqI, biE, evA, intE, frzU, fetchAll, fetch, slK01, slU, itemsU, Sl.val, cut_take, List.map_take]
    have z := lcE_pure (own := [4]) (t := nameT 4) (c := yesT) (e := biE [.ev (biE [.rd 4] intK)] absK) (fun d => .int (absI (ixI d))) (fun _ => true) hsrc (by simp [LINE]; omega) (fun d hd => by
      obtain ⟨i, _, e⟩ := List.mem_map.mp hd
      subst e
      refine ⟨[.ps (.dat (.list (ns.map .int))), .ps (.dat (.int salt)), .no, .no, .ps (.dat (.int i))], rfl, rfl, rfl, fun _ => ?_⟩
      simp [biE, evA, fetchAll, fetch, intK, absK, frzU, Sl.val, absI, ixI]
      try (by_cases hi : i < 0 <;> simp [hi]))
    rw [z, filter_true]
    simp [List.map_map, Function.comp_def, ixI, restS, wipeS]
  generalize hcs : (ns.take 48).map absI = cs at e1
  have lc : cs.length ≤ 48 := by rw [← hcs]; simp; omega
  -- the blend
  have e2 : ∀ b0, 0 ≤ b0 → b0 < 2147483647 → ∃ b, 0 ≤ b ∧ b < 2147483647 ∧ ∃ x, forO 2 (nameT 4) b1__law_draw [.ps (.dat (.list (ns.map .int))), .ps (.dat (.int salt)), .ow (.dat (.list (cs.map .int))), .ps (.dat (.int b0)), .no]
      = .nx [.ps (.dat (.list (ns.map .int))), .ps (.dat (.int salt)), .ow (.dat (.list (cs.map .int))), .ps (.dat (.int b)), x] ∧ x.isIo = false := by
    intro b0 hb0 hb1
    refine forO_q (ds := cs.map .int) (fun items st => (∀ d ∈ items, ∃ i, d = .int i) ∧ ∃ b x, x.isIo = false ∧ 0 ≤ b ∧ b < 2147483647 ∧ st = [.ps (.dat (.list (ns.map .int))), .ps (.dat (.int salt)), .bo (.dat (.list (cs.map .int))), .ps (.dat (.int b)), x])
      (fun r => ∃ b, 0 ≤ b ∧ b < 2147483647 ∧ ∃ x, r = .nx [.ps (.dat (.list (ns.map .int))), .ps (.dat (.int salt)), .ow (.dat (.list (cs.map .int))), .ps (.dat (.int b)), x] ∧ x.isIo = false) rfl ⟨fun d hd => by
        obtain ⟨i, _, e⟩ := List.mem_map.mp hd
        exact ⟨i, e.symm⟩, b0, .no, rfl, hb0, hb1, rfl⟩ ?_ ?_ ?_
    · rintro items st ⟨_, b, x, hx, h1, h2, rfl⟩
      rfl
    · rintro st ⟨_, b, x, hx, h1, h2, rfl⟩
      exact ⟨b, h1, h2, x, rfl, hx⟩
    · rintro d ds st ⟨hd, b, x, hx, h1, h2, rfl⟩
      obtain ⟨i, rfl⟩ := hd d List.mem_cons_self
      refine ⟨[.ps (.dat (.list (ns.map .int))), .ps (.dat (.int salt)), .bo (.dat (.list (cs.map .int))), .ps (.dat (.int b)), .ps (.dat (.int i))], by unfold nameT; dsimp only; rw [if_pos (by cases x <;> first | rfl | cases hx)]; rfl, ?_⟩
      have lb : b.natAbs.log2 + Nat.log2 48271 < 1000000 := by
        have := log_le (n := b) (k := 31) (by omega)
        have : Nat.log2 48271 ≤ 16 := log_le (n := 48271) (by decide)
        omega
      have ev : b1__law_draw [.ps (.dat (.list (ns.map .int))), .ps (.dat (.int salt)), .bo (.dat (.list (cs.map .int))), .ps (.dat (.int b)), .ps (.dat (.int i))] = .nx [.ps (.dat (.list (ns.map .int))), .ps (.dat (.int salt)), .bo (.dat (.list (cs.map .int))), .ps (.dat (.int ((b * 48271 + i % 2147483549 + 11) % 2147483647))), .ps (.dat (.int i))] := by
        simp [b1__law_draw, asgS, ev2, evN, evO, biE, evA, intE, fetch, fetchAll, mulU, modU, intU, addU, intK, asgR, free, sl, frzU, Sl.val, lb]
      rw [ev]
      exact ⟨fun d hd' => hd d (List.mem_cons_of_mem _ hd'), _, _, rfl, Int.emod_nonneg _ (by decide), Int.emod_lt_of_pos _ (by decide), rfl⟩
  obtain ⟨b, hb0, hb1, x, e3, hx⟩ := e2 (7919 + 104729 * salt) (by omega) (by omega)
  -- the great cells
  have e4 : lcE (seqI (varE 2)) [4] (nameT 4) (tst (cmpE (.rd 4) (.ev (ev2 (.ev (intE 10)) (.ev (intE 18)) powU)) geB)) (varE 4) [.ps (.dat (.list (ns.map .int))), .ps (.dat (.int salt)), .ow (.dat (.list (cs.map .int))), .ps (.dat (.int b)), x]
      = .ok true (.dat (.list ((cs.filter (fun i => decide ((10 : Int) ^ 18 ≤ i))).map .int))) (restS [.ps (.dat (.list (ns.map .int))), .ps (.dat (.int salt)), .ps (.dat (.list (cs.map .int))), .ps (.dat (.int b)), x] [.ps (.dat (.list (ns.map .int))), .ps (.dat (.int salt)), .ps (.dat (.list (cs.map .int))), .ps (.dat (.int b)), .no] [4]) := by
    have hsrc : seqI (varE 2) [.ps (.dat (.list (ns.map .int))), .ps (.dat (.int salt)), .ow (.dat (.list (cs.map .int))), .ps (.dat (.int b)), x] = .ok (cs.map .int) [.ps (.dat (.list (ns.map .int))), .ps (.dat (.int salt)), .ps (.dat (.list (cs.map .int))), .ps (.dat (.int b)), x] := rfl
    have z := lcE_pure (own := [4]) (t := nameT 4) (c := tst (cmpE (.rd 4) (.ev (ev2 (.ev (intE 10)) (.ev (intE 18)) powU)) geB)) (e := varE 4) id (fun d => decide ((10 : Int) ^ 18 ≤ ixI d)) hsrc (by simp [LINE]; omega) (fun d hd => by
      obtain ⟨i, _, e⟩ := List.mem_map.mp hd
      subst e
      refine ⟨[.ps (.dat (.list (ns.map .int))), .ps (.dat (.int salt)), .ps (.dat (.list (cs.map .int))), .ps (.dat (.int b)), .ps (.dat (.int i))], rfl, rfl, ?_, fun _ => rfl⟩
      simp [tst, cmpE, ev2, evN, evO, intE, fetch, powU, intU, liftB, geB, cmpI, tstR, Sl.val, ixI]
      try exact decide_eq_decide.mpr Iff.rfl)
    rw [z, filter_ints (fun i => decide ((10 : Int) ^ 18 ≤ i))]
    rfl
  have hx' : ∃ y, restS [.ps (.dat (.list (ns.map .int))), .ps (.dat (.int salt)), .ps (.dat (.list (cs.map .int))), .ps (.dat (.int b)), x] [.ps (.dat (.list (ns.map .int))), .ps (.dat (.int salt)), .ps (.dat (.list (cs.map .int))), .ps (.dat (.int b)), .no] [4] = [.ps (.dat (.list (ns.map .int))), .ps (.dat (.int salt)), .ps (.dat (.list (cs.map .int))), .ps (.dat (.int b)), y] := by
    cases x with
    | ps u => exact ⟨.ps u, rfl⟩
    | _ => exact ⟨.no, rfl⟩
  obtain ⟨y, ey⟩ := hx'
  rw [ey] at e4
  refine ⟨(cs.filter (fun i => decide ((10 : Int) ^ 18 ≤ i))).reverse, b, ⟨?_, hb0, hb1⟩, ?_⟩
  · rw [List.length_reverse]
    have := List.length_filter_le (fun i => decide ((10 : Int) ^ 18 ≤ i)) cs
    omega
  · show bodyR [false, false] (s__law_draw [.ps (.dat (.list (ns.map .int))), .ps (.dat (.int salt)), .no, .no, .no]) = _
    have ls : Nat.log2 104729 + salt.natAbs.log2 < 1000000 := by
      have := log_le (n := salt) (k := 7) (by omega)
      have : Nat.log2 104729 ≤ 17 := log_le (n := 104729) (by decide)
      omega
    have ef : intsOf (List.map PyData.int (cs.filter (fun i => decide ((10 : Int) ^ 18 ≤ i)))).reverse = some (cs.filter (fun i => decide ((10 : Int) ^ 18 ≤ i))).reverse := by
      rw [← List.map_reverse, intsOf_map]
    have a1 : asgS 2 l2__law_draw [.ps (.dat (.list (ns.map .int))), .ps (.dat (.int salt)), .no, .no, .no] = .nx [.ps (.dat (.list (ns.map .int))), .ps (.dat (.int salt)), .ow (.dat (.list (cs.map .int))), .no, .no] := by
      unfold asgS l2__law_draw; rw [e1]; rfl
    have a2 : asgS 3 (ev2 (.ev (intE 7919)) (.ev (ev2 (.ev (intE 104729)) (.rd 1) mulU)) addU) [.ps (.dat (.list (ns.map .int))), .ps (.dat (.int salt)), .ow (.dat (.list (cs.map .int))), .no, .no] = .nx [.ps (.dat (.list (ns.map .int))), .ps (.dat (.int salt)), .ow (.dat (.list (cs.map .int))), .ps (.dat (.int (7919 + 104729 * salt))), .no] := by
      simp [asgS, ev2, evN, evO, intE, fetch, mulU, intU, addU, asgR, free, sl, Sl.val, ls]
    have a3 : forO 2 (nameT 4) b1__law_draw [.ps (.dat (.list (ns.map .int))), .ps (.dat (.int salt)), .ow (.dat (.list (cs.map .int))), .ps (.dat (.int (7919 + 104729 * salt))), .no] = .nx [.ps (.dat (.list (ns.map .int))), .ps (.dat (.int salt)), .ow (.dat (.list (cs.map .int))), .ps (.dat (.int b)), x] := e3
    have a4 : retS (dlE (revE l0__law_draw) (varE 3)) [.ps (.dat (.list (ns.map .int))), .ps (.dat (.int salt)), .ow (.dat (.list (cs.map .int))), .ps (.dat (.int b)), x] = .rt true (.dl (cs.filter (fun i => decide ((10 : Int) ^ 18 ≤ i))).reverse b) [.ps (.dat (.list (ns.map .int))), .ps (.dat (.int salt)), .ps (.dat (.list (cs.map .int))), .ps (.dat (.int b)), y] := by
      unfold retS dlE revE l0__law_draw
      rw [e4]
      simp only [varE]
      show retR (match intsOf (List.map PyData.int (cs.filter (fun i => decide ((10 : Int) ^ 18 ≤ i)))).reverse with | some ns => .ok true (.dl ns b) _ | none => .bad) = _
      rw [ef]
      rfl
    unfold s__law_draw seqS
    rw [a1]
    unfold seqR
    dsimp only
    rw [a2]
    dsimp only
    rw [a3]
    dsimp only
    rw [a4]
    rfl
theorem seq_nx {f g : SS} {st st1 : Sg} (h : f st = .nx st1) : seqS f g st = g st1 := by unfold seqS; rw [h]; rfl
theorem seq_rt {f g : SS} {st st1 : Sg} {o : Bool} {u : U} (h : f st = .rt o u st1) : seqS f g st = .rt o u st1 := by unfold seqS; rw [h]; rfl
theorem if_yes {t : ST} {f g : SS} {st st1 : Sg} (h : t st = .ok true st1) : ifS t f g st = f st1 := by unfold ifS; rw [h]; rfl
theorem if_no {t : ST} {f g : SS} {st st1 : Sg} (h : t st = .ok false st1) : ifS t f g st = g st1 := by unfold ifS; rw [h]; rfl
theorem eqv_int {a b : Int} : PyData.eqv (.int a) (.int b) = decide (a = b) := by
  simp [PyData.eqv]
  by_cases h : a = b <;> simp [h]
theorem shaped_nil : SeqAt.shaped (.list []) = true := by decide
theorem eqv_str (s : Str) : PyData.eqv (.str s) (.str s) = true := by simp [PyData.eqv]
theorem same_int (m : SF) (i : Int) : s__law_same m [.ps (.dat (.int i)), .ps (.dat (.int i)), .no, .no] = .rt false (.dat (.bool true)) [.ps (.dat (.int i)), .ps (.dat (.int i)), .no, .no] := by
  simp [s__law_same, seqS, seqR, ifS, ifR, tst, tstR, ev1, evN, evO, isiU, isDicD, isTup, isInt, isBool, fetch, Sl.val, passS, cmpE, ev2, nonE, blE, liftB, isB, isNonD, isBlD, retS, retR, andE, notE, eqB, SeqAt.shaped, PyData.canLay0, PyData.depth, eqv_int]
theorem same_str (m : SF) (s : Str) (h : SeqAt.shaped (.str s) = true) : s__law_same m [.ps (.dat (.str s)), .ps (.dat (.str s)), .no, .no] = .rt false (.dat (.bool true)) [.ps (.dat (.str s)), .ps (.dat (.str s)), .no, .no] := by
  simp [s__law_same, seqS, seqR, ifS, ifR, tst, tstR, ev1, evN, evO, isiU, isDicD, isTup, isInt, isBool, isStr, fetch, Sl.val, passS, cmpE, ev2, nonE, blE, liftB, isB, isNonD, isBlD, retS, retR, andE, notE, eqB, h, eqv_str]
theorem same_bool (m : SF) (b : Bool) : s__law_same m [.ps (.dat (.bool b)), .ps (.dat (.bool b)), .no, .no] = .rt false (.dat (.bool true)) [.ps (.dat (.bool b)), .ps (.dat (.bool b)), .no, .no] := by
  cases b <;> rfl
theorem same_none (m : SF) : s__law_same m [.ps (.dat .none), .ps (.dat .none), .no, .no] = .rt false (.dat (.bool true)) [.ps (.dat .none), .ps (.dat .none), .no, .no] := rfl
theorem call00 {st : Sg} {f : SF} {g k : SE} {u w x : U} {o : Bool} {outs : List Sl} (hg : g st = .ok false u st) (hk : k st = .ok false w st) (hf : f [u, w] = .ret o x outs) : callE [false, false] f [.ev g, .ev k] st = .ok o x st := by
  unfold callE evN evO
  dsimp only
  rw [hg]
  dsimp only
  unfold evN evO
  dsimp only
  rw [hk]
  exact callK_n (n := 2) (us := [u, w]) rfl hf
theorem zip_self {ds : List D} {d : D} (h : d ∈ zipD ds ds) : ∃ x ∈ ds, d = .dict [(x, x)] := by
  obtain ⟨i, hi, e⟩ := List.mem_iff_getElem.mp h
  have e' : (zipD ds ds)[i]? = some d := by rw [List.getElem?_eq_getElem hi, e]
  obtain ⟨x, y, e1, e2, e3⟩ := zipD_at e'
  rw [e1] at e2; cases e2
  exact ⟨x, List.mem_of_getElem? e1, e3⟩
theorem zip_self_len {ds : List D} : (zipD ds ds).length = ds.length := by simp [zipD]
theorem same_tup (m : SF) {ds : List D} (hl : ds.length ≤ LINE) (ih : ∀ d ∈ ds, m [.dat d, .dat d] = .ret false (.dat (.bool true)) [.no, .no]) : s__law_same m [.ps (.dat (.tuple ds)), .ps (.dat (.tuple ds)), .no, .no] = .rt false (.dat (.bool true)) [.ps (.dat (.tuple ds)), .ps (.dat (.tuple ds)), .no, .no] := by
  have el : l1__law_same m [.ps (.dat (.tuple ds)), .ps (.dat (.tuple ds)), .no, .no] = .ok true (.dat (.list [])) [.ps (.dat (.tuple ds)), .ps (.dat (.tuple ds)), .no, .no] := by
    unfold l1__law_same
    have z := lcE_pure (src := zipI (varE 0) (varE 1)) (own := [2, 3]) (t := tupT [nameT 2, nameT 3]) (c := notT (tst (c0__law_same m))) (e := intE 0) (st := [.ps (.dat (.tuple ds)), .ps (.dat (.tuple ds)), .no, .no]) (st1 := [.ps (.dat (.tuple ds)), .ps (.dat (.tuple ds)), .no, .no]) (items := zipD ds ds) (fun _ => .int 0) (fun _ => false) rfl (by rw [zip_self_len]; exact hl) (fun d hd => by
      obtain ⟨x, hx, rfl⟩ := zip_self hd
      refine ⟨[.ps (.dat (.tuple ds)), .ps (.dat (.tuple ds)), .ps (.dat x), .ps (.dat x)], rfl, rfl, ?_, fun h => nomatch h⟩
      have ec : c0__law_same m [.ps (.dat (.tuple ds)), .ps (.dat (.tuple ds)), .ps (.dat x), .ps (.dat x)] = .ok false (.dat (.bool true)) [.ps (.dat (.tuple ds)), .ps (.dat (.tuple ds)), .ps (.dat x), .ps (.dat x)] := call00 rfl rfl (ih x hx)
      unfold notT tst
      rw [ec]
      rfl)
    rw [z]
    have ef : (zipD ds ds).filter (fun _ => false) = [] := by simp
    rw [ef]
    rfl
  generalize hS : [Sl.ps (.dat (.tuple ds)), .ps (.dat (.tuple ds)), .no, .no] = S at el ⊢
  have v0 : S[0]?.bind Sl.val = some (.dat (.tuple ds)) := by rw [← hS]; rfl
  have v1 : S[1]?.bind Sl.val = some (.dat (.tuple ds)) := by rw [← hS]; rfl
  have t1 : tst (ev1 (.rd 1) (isiU isTup)) S = .ok true S := by
    simp only [tst, ev1, evN, evO, v1, fetch, List.nil_append, isiU, isDicD, isTup, tstR, if_pos]
  have t0 : tst (ev1 (.rd 0) (isiU isTup)) S = .ok true S := by
    simp only [tst, ev1, evN, evO, v0, fetch, List.nil_append, isiU, isDicD, isTup, tstR, if_pos]
  have l0 : biE [.rd 0] lenX S = .ok false (.dat (.int ds.length)) S := by
    unfold biE
    simp only [evA, v0, List.nil_append, fetchAll, fetch, Option.bind_some, Option.map_some]
    rfl
  have l1 : biE [.rd 1] lenX S = .ok false (.dat (.int ds.length)) S := by
    unfold biE
    simp only [evA, v1, List.nil_append, fetchAll, fetch, Option.bind_some, Option.map_some]
    rfl
  have t2 : tst (cmpE (.ev (biE [.rd 0] lenX)) (.ev (biE [.rd 1] lenX)) neB) S = .ok false S := by
    generalize biE [.rd 0] lenX = A at l0 ⊢
    generalize biE [.rd 1] lenX = B at l1 ⊢
    generalize (ds.length : Int) = n at l0 l1
    simp [tst, cmpE, ev2, evN, evO, l0, l1, fetch, liftB, neB, eqB, SeqAt.shaped, PyData.canLay0, PyData.depth, eqv_int, tstR]
  have t3 : orT (notT (tst (ev1 (.rd 0) (isiU isTup)))) (tst (cmpE (.ev (biE [.rd 0] lenX)) (.ev (biE [.rd 1] lenX)) neB)) S = .ok false S := by
    unfold orT notT
    rw [t0]
    unfold thenT
    dsimp only
    exact t2
  have e3 : retS (cmpE (.ev (l1__law_same m)) (.ev (lstE [])) eqB) S = .rt false (.dat (.bool true)) S := by
    have en : lstE [] S = .ok true (.dat (.list [])) S := rfl
    have ee : PyData.eqv (.list []) (.list []) = true := rfl
    simp [retS, cmpE, ev2, evN, evO, el, en, frzU, fetch, liftB, eqB, shaped_nil, ee, retR]
  unfold s__law_same
  refine seq_rt ?_
  rw [if_yes t1, seq_nx (st1 := S) (by rw [if_no t3]; rfl), e3]
theorem same_ok : ∀ (n : Nat) (d : D), Pln n d → f__law_same (n + 1) [.dat d, .dat d] = .ret false (.dat (.bool true)) [.no, .no]
  | n, .none, _ => by
    show bodyR [false, false] (s__law_same (f__law_same n) [.ps (.dat .none), .ps (.dat .none), .no, .no]) = _
    rw [same_none]; rfl
  | n, .bool b, _ => by
    show bodyR [false, false] (s__law_same (f__law_same n) [.ps (.dat (.bool b)), .ps (.dat (.bool b)), .no, .no]) = _
    rw [same_bool]; rfl
  | n, .int i, _ => by
    show bodyR [false, false] (s__law_same (f__law_same n) [.ps (.dat (.int i)), .ps (.dat (.int i)), .no, .no]) = _
    rw [same_int]; rfl
  | n, .str s, h => by
    show bodyR [false, false] (s__law_same (f__law_same n) [.ps (.dat (.str s)), .ps (.dat (.str s)), .no, .no]) = _
    rw [same_str _ _ (by cases n <;> exact h)]; rfl
  | 0, .tuple ds, h => False.elim h
  | n + 1, .tuple ds, h => by
    show bodyR [false, false] (s__law_same (f__law_same (n + 1)) [.ps (.dat (.tuple ds)), .ps (.dat (.tuple ds)), .no, .no]) = _
    rw [same_tup _ h.1 (fun d hd => same_ok n d (h.2 d hd))]; rfl
  | 0, .list ds, h => False.elim h
  | n + 1, .list ds, h => False.elim h
  | 0, .dict ds, h => False.elim h
  | n + 1, .dict ds, h => False.elim h
end Pre
theorem any_ex (d : Deal) {m : Int} (h : 0 < m ∧ m < 2 ^ 70) : ∃ p : Int × Deal, 0 ≤ p.1 ∧ p.1 < m ∧ f__law_any [dlU d, .dat (.int m)] = .ret false (.dat (.int p.1)) [.io (dlU p.2), .no] := by
  obtain ⟨r, q', b', g, r0, r1, e⟩ := Pre.any_ok d.ok h.1 h.2
  exact ⟨(r, ⟨q', b', g⟩), r0, r1, e⟩
open Classical in
noncomputable def anyO (d : Deal) (m : Int) : Option (Int × Deal) := if h : 0 < m ∧ m < 2 ^ 70 then some (choose (any_ex d h)) else none
theorem anyO_eq (d : Deal) {m : Int} (h : 0 < m ∧ m < 2 ^ 70) : anyO d m = some (Classical.choose (any_ex d h)) := by unfold anyO; rw [dif_pos h]
theorem sim_any (d : Deal) (m : Int) (r : Int × Deal) (h : anyO d m = some r) : f__law_any [dlU d, .dat (en (m : Int))] = .ret false (.dat (en (r.1 : Int))) [.io (dlU r.2), .no] := by
  by_cases c : 0 < m ∧ m < 2 ^ 70
  · rw [anyO_eq d c] at h
    cases h
    exact (Classical.choose_spec (any_ex d c)).2.2
  · unfold anyO at h
    rw [dif_neg c] at h
    cases h
theorem any_some (d : Deal) {m : Int} (h0 : 0 < m) (h1 : m < 2 ^ 70) : ∃ p, anyO d m = some p ∧ 0 ≤ p.1 ∧ p.1 < m := by
  have s := Classical.choose_spec (any_ex d ⟨h0, h1⟩)
  exact ⟨_, anyO_eq d ⟨h0, h1⟩, s.1, s.2.1⟩
theorem draw_ex {ns : List Int} {salt : Int} (h : ns.length ≤ 63 ∧ 0 ≤ salt ∧ salt < 100) : ∃ d : Deal, f__law_draw [.dat (.list (ns.map .int)), .dat (.int salt)] = .ret true (dlU d) [.no, .no] := by
  obtain ⟨q, b, g, e⟩ := Pre.draw_ok h.1 h.2.1 h.2.2
  exact ⟨⟨q, b, g⟩, e⟩
open Classical in
noncomputable def drawO (ns : List Int) (salt : Int) : Option Deal := if h : ns.length ≤ 63 ∧ 0 ≤ salt ∧ salt < 100 then some (choose (draw_ex h)) else none
theorem drawO_eq {ns : List Int} {salt : Int} (h : ns.length ≤ 63 ∧ 0 ≤ salt ∧ salt < 100) : drawO ns salt = some (Classical.choose (draw_ex h)) := by unfold drawO; rw [dif_pos h]
theorem sim_draw (ns : List Int) (salt : Int) (r : Deal) (h : drawO ns salt = some r) : f__law_draw [.dat (en (Ls.mk ns)), .dat (en (salt : Int))] = .ret true (dlU r) [.no, .no] := by
  by_cases c : ns.length ≤ 63 ∧ 0 ≤ salt ∧ salt < 100
  · rw [drawO_eq c] at h
    cases h
    exact Classical.choose_spec (draw_ex c)
  · unfold drawO at h
    rw [dif_neg c] at h
    cases h
theorem draw_some {ns : List Int} {salt : Int} (h : ns.length ≤ 63) (h1 : 0 ≤ salt) (h2 : salt < 100) : ∃ d, drawO ns salt = some d := ⟨_, drawO_eq ⟨h, h1, h2⟩⟩
open Classical in
/-- whether two things are just the same: told where they are -/
noncomputable def sameO (x y : D) : Option Bool := if x = y ∧ Pln 7 x then some true else none
theorem sim_same (x y : D) (r : Bool) (h : sameO x y = some r) : f__law_same 8 [.dat (en (x : D)), .dat (en (y : D))] = .ret false (.dat (en (r : Bool))) [.no, .no] := by
  unfold sameO at h
  split at h
  · rename_i c
    cases h
    rw [← c.1]
    exact Pre.same_ok 7 x c.2
  · cases h
theorem same_some {x y : D} (h : x = y) (p : Pln 7 x) : sameO x y = some true := by unfold sameO; rw [if_pos ⟨h, p⟩]
/-- plain things -/
class Pl7 (α : Type) [Rp α] where
  n : Nat
  Ok : α → Prop
  ok : ∀ a, Ok a → Pln n (Rp.enc a)
theorem Pln.mono : ∀ {n m : Nat} {d : D}, n ≤ m → Pln n d → Pln m d
  | n, m, .none, _, _ => by cases m <;> trivial
  | n, m, .bool b, _, _ => by cases m <;> trivial
  | n, m, .int i, _, _ => by cases m <;> trivial
  | n, m, .str s, _, h => by cases n <;> cases m <;> exact h
  | 0, m, .tuple ds, _, h => False.elim h
  | n + 1, 0, .tuple ds, hm, _ => by omega
  | n + 1, m + 1, .tuple ds, hm, h => ⟨h.1, fun d hd => Pln.mono (by omega) (h.2 d hd)⟩
  | 0, m, .list ds, _, h => False.elim h
  | n + 1, m, .list ds, _, h => False.elim h
  | 0, m, .dict ds, _, h => False.elim h
  | n + 1, m, .dict ds, _, h => False.elim h
theorem pln_int {n : Nat} (i : Int) : Pln n (Rp.enc i) := by cases n <;> trivial
theorem pln_bool {n : Nat} (i : Bool) : Pln n (Rp.enc i) := by cases n <;> trivial
theorem pln_unit {n : Nat} (i : Unit) : Pln n (Rp.enc i) := by cases n <;> trivial
theorem pln_sx {n : Nat} (s : Sx) : Pln n (Rp.enc s) := by
  have h : SeqAt.shaped (.str s.1) = true := shaped_en s (by decide)
  cases n <;> exact h
theorem pln_opt {n : Nat} {α : Type} [Rp α] (o : Option α) (h : ∀ a, o = some a → Pln n (Rp.enc a)) : Pln n (Rp.enc o) := by
  cases o with
  | none => cases n <;> trivial
  | some a => exact h a rfl
theorem pln_list {n : Nat} {α : Type} [Rp α] (l : List α) (hl : l.length ≤ LINE) (h : ∀ a ∈ l, Pln n (Rp.enc a)) : Pln (n + 1) (Rp.enc l) := by
  refine ⟨by rw [List.length_map]; exact hl, fun d hd => ?_⟩
  obtain ⟨a, h1, h2⟩ := List.mem_map.mp hd
  rw [← h2]
  exact h a h1
theorem pln_pair {n : Nat} {α β : Type} [Rp α] [Rp β] (p : α × β) (h1 : Pln n (Rp.enc p.1)) (h2 : Pln n (Rp.enc p.2)) : Pln (n + 1) (Rp.enc p) := by
  refine ⟨show (2:Nat) ≤ LINE by decide, fun d hd => ?_⟩
  simp only [List.mem_cons, List.not_mem_nil, or_false] at hd
  rcases hd with e | e
  · rw [e]; exact h1
  · rw [e]; exact h2
end Pl

namespace Pl
open PySem L2 PySem.Spec PyProof.Rows
/-! _law_of -/
noncomputable def F__law_of {α : Type} [Rp α] (deal_ : Deal) (some_ : (List α)) : Option (α × Deal) := (anyO deal_ (some_.length : Int)).bind fun t1 => (atI some_ t1.1).bind fun t2 => some (t2, t1.2)
theorem sim__law_of {α : Type} [Rp α] (deal_ : Deal) (some_ : (List α)) (r : (α × Deal)) (h : F__law_of deal_ some_ = some r) : f__law_of [dlU deal_, .dat (en ((Ls.mk some_) : (Ls α)))] = .ret false (.dat (en (r.1 : α))) [.io (dlU r.2), .no] := by
  unfold F__law_of at h
  show Go (fun rs => bodyR [true, false] rs = .ret false (.dat (en (r.1 : α))) [.io (dlU r.2), .no]) (s__law_of [.io (dlU deal_), .ps (.dat (en ((Ls.mk some_) : (Ls α))))])
  replace h := ob h; obtain ⟨t1, ht1, h⟩ := h
  replace h := ob h; obtain ⟨t2, ht2, h⟩ := h
  refine q_ret (xq2 (.rd rfl (.v (call_dl (n := 1) (us := [.dat (en ((some_.length : Int) : Int))]) (.rd rfl (.v (xqb (.rd rfl .nil) rfl (k_lenL (α := α) (l := some_))) .nil)) rfl rfl rfl rfl (sim_any _ _ _ ht1)) .nil)) rfl (ix_l (α := α) (l := some_) ht2)) ?_
  cases h
  rfl
/-! _law_ladder -/
noncomputable def F__law_ladder (deal_ : Deal) (many_ : Int) (style_ : Int) : Option ((List Int) × Deal) := if (decide ((style_ : Int) = ((0 : Int) : Int))) = true then (F__law_of deal_ ([(0 : Int), (0 : Int), (1 : Int), (-(2 : Int))])).bind fun t1 => (rgO t1.1 (t1.1 + many_)).bind fun t2 => some (t2, t1.2) else (powO (10 : Int) (12 : Int)).bind fun t3 => (powO (10 : Int) (6 : Int)).bind fun t4 => (atI ([(12 : Int), (100 : Int), (t3 - t4)]) (style_ - (1 : Int))).bind fun t5 => (mulO (4 : Int) many_).bind fun t6 => (rng1O t6).bind fun t7 => (loopO (fun (a17 : (Deal × (List (Int × Bool)))) (x8 : Int) => (if (decide ((a17.2.length : Int) < many_)) = true then (mulO (2 : Int) t5).bind fun t18 => (anyO a17.1 (t18 + (1 : Int))).bind fun t19 => (aPutO a17.2 (t19.1 - t5) true).bind fun t20 => some (t19.2, t20) else some (a17.1, a17.2) : Option (Deal × (List (Int × Bool))))) (deal_, ([] : (List (Int × Bool)))) t7).bind fun t21 => (rng1O many_).bind fun t22 => (loopO (fun (a28 : (List (Int × Bool))) (x23 : Int) => (if (decide ((a28.length : Int) < many_)) = true then (aPutO a28 x23 true).bind fun t29 => some t29 else some a28 : Option (List (Int × Bool)))) t21.2 t22).bind fun t30 => (sortDO t30).bind fun t31 => some ((cut t31 none (some many_)), t21.1)
theorem sim__law_ladder (deal_ : Deal) (many_ : Int) (style_ : Int) (r : ((List Int) × Deal)) (h : F__law_ladder deal_ many_ style_ = some r) : f__law_ladder [dlU deal_, .dat (en (many_ : Int)), .dat (en (style_ : Int))] = .ret false (.dat (en (r.1 : (List Int)))) [.io (dlU r.2), .no, .no] := by
  unfold F__law_ladder at h
  show Go (fun rs => bodyR [true, false, false] rs = .ret false (.dat (en (r.1 : (List Int)))) [.io (dlU r.2), .no, .no]) (s__law_ladder [.io (dlU deal_), .ps (.dat (en (many_ : Int))), .ps (.dat (en (style_ : Int))), .no, .no, .no, .no, .no])
  replace h := ite_so h; rcases h with ⟨hc, h⟩ | ⟨hc, h⟩
  · refine q_sif_t (tc (tst_ok (xq2 (.rd rfl (.v c_int .nil)) rfl (lB (b_eq (α := Int) (x := (style_ : Int)) (y := ((0 : Int) : Int)) (by decide))))) hc) ?_
    replace h := ob h; obtain ⟨t1, ht1, h⟩ := h
    refine q_seq (asg (call_dl (n := 1) (us := [.dat (en ((Ls.mk [(0 : Int), (0 : Int), (1 : Int), (-(2 : Int))]) : (Ls Int)))]) (.rd rfl (.w (lst_ok (.v c_int (.v c_int (.v c_int (.v (xq1 (.v c_int .nil) rfl a_neg) .nil)))) (len_le (n := 4) rfl (by decide))) rfl .nil)) rfl rfl rfl rfl (sim__law_of _ _ _ ht1)) rfl) ?_
    replace h := ob h; obtain ⟨t2, ht2, h⟩ := h
    refine q_ret (xq2 (.rd rfl (.v (xq2 (.rd rfl (.rd rfl .nil)) rfl a_add) .nil)) rfl (k_rg2t ht2)) ?_
    cases h
    rfl
  · refine q_sif_f (tc (tst_ok (xq2 (.rd rfl (.v c_int .nil)) rfl (lB (b_eq (α := Int) (x := (style_ : Int)) (y := ((0 : Int) : Int)) (by decide))))) hc) ?_
    refine q_pass_k ?_
    replace h := ob h; obtain ⟨t3, ht3, h⟩ := h
    replace h := ob h; obtain ⟨t4, ht4, h⟩ := h
    replace h := ob h; obtain ⟨t5, ht5, h⟩ := h
    refine q_seq (asg (xq2 (.w (lst_ok (.v c_int (.v c_int (.v (xq2 (.v (xq2 (.v c_int (.v c_int .nil)) rfl (a_pow ht3)) (.v (xq2 (.v c_int (.v c_int .nil)) rfl (a_pow ht4)) .nil)) rfl a_sub) .nil))) (len_le (n := 3) rfl (by decide))) rfl (.v (xq2 (.rd rfl (.v c_int .nil)) rfl a_sub) .nil)) rfl (ix_l (α := Int) (l := [(12 : Int), (100 : Int), (t3 - t4)]) ht5)) rfl) ?_
    refine q_seq (asgO (xqb (.w (lst_ok .nil (len_le (n := 0) rfl (by decide))) rfl .nil) rfl k_dict0) rfl) ?_
    replace h := ob h; obtain ⟨t6, ht6, h⟩ := h
    replace h := ob h; obtain ⟨t7, ht7, h⟩ := h
    replace h := ob h; obtain ⟨t21, ht21, h⟩ := h
    refine q_seq (for_eq (s_r1 (.v (xq2 (.v c_int (.rd rfl .nil)) rfl (a_mul ht6)) .nil) rfl ht7) (forL_sim (Sh := fun (a17 : (Deal × (List (Int × Bool)))) => [.io (dlU a17.1), .ps (.dat (en (many_ : Int))), .ps (.dat (en (style_ : Int))), .ps (.dat (en (t5 : Int))), .ow (.dic (dcD a17.2)), .no, .no, .no]) (fun a17 x8 a' h => ?_) _ (deal_, ([] : (List (Int × Bool)))) _ ht21)) ?_
    · refine ⟨_, rfl, ?_⟩
      refine q_fg ?_
      replace h := ite_so h; rcases h with ⟨hc, h⟩ | ⟨hc, h⟩
      · refine q_if_t (tc (tst_ok (xq2 (.v (xqb (.rd rfl .nil) rfl k_lenX) (.rd rfl .nil)) rfl (lB b_lt))) hc) ?_
        replace h := ob h; obtain ⟨t18, ht18, h⟩ := h
        replace h := ob h; obtain ⟨t19, ht19, h⟩ := h
        replace h := ob h; obtain ⟨t20, ht20, h⟩ := h
        refine q_end (setX_ok (x := true) (k := (t19.1 - t5)) c_bl (fun z => nomatch z) rfl (xq2 (.v (call_dl (n := 1) (us := [.dat (en ((t18 + (1 : Int)) : Int))]) (.rd rfl (.v (xq2 (.v (xq2 (.v c_int (.rd rfl .nil)) rfl (a_mul ht18)) (.v c_int .nil)) rfl a_add) .nil)) rfl rfl rfl rfl (sim_any _ _ _ ht19)) (.rd rfl .nil)) rfl a_sub) rfl ht20) ?_
        cases h
        exact Or.inl rfl
      · refine q_if_f (tc (tst_ok (xq2 (.v (xqb (.rd rfl .nil) rfl k_lenX) (.rd rfl .nil)) rfl (lB b_lt))) hc) ?_
        refine q_pass ?_
        cases h
        exact Or.inl rfl
    replace h := ob h; obtain ⟨t22, ht22, h⟩ := h
    replace h := ob h; obtain ⟨t30, ht30, h⟩ := h
    refine q_seq (for_eq (s_r1 (.rd rfl .nil) rfl ht22) (forL_sim (Sh := fun (a28 : (List (Int × Bool))) => [.io (dlU t21.1), .ps (.dat (en (many_ : Int))), .ps (.dat (en (style_ : Int))), .ps (.dat (en (t5 : Int))), .ow (.dic (dcD a28)), .no, .no, .no]) (fun a28 x23 a' h => ?_) _ t21.2 _ ht30)) ?_
    · refine ⟨_, rfl, ?_⟩
      refine q_fg ?_
      replace h := ite_so h; rcases h with ⟨hc, h⟩ | ⟨hc, h⟩
      · refine q_if_t (tc (tst_ok (xq2 (.v (xqb (.rd rfl .nil) rfl k_lenX) (.rd rfl .nil)) rfl (lB b_lt))) hc) ?_
        replace h := ob h; obtain ⟨t29, ht29, h⟩ := h
        refine q_end (setX_ok (x := true) (k := x23) c_bl (fun z => nomatch z) rfl (v_ps rfl) rfl ht29) ?_
        cases h
        exact Or.inl rfl
      · refine q_if_f (tc (tst_ok (xq2 (.v (xqb (.rd rfl .nil) rfl k_lenX) (.rd rfl .nil)) rfl (lB b_lt))) hc) ?_
        refine q_pass ?_
        cases h
        exact Or.inl rfl
    replace h := ob h; obtain ⟨t31, ht31, h⟩ := h
    refine q_ret (xqb (.w (xqb (.w (xqb (.rd rfl .nil) rfl (k_sortX ht31)) rfl (.rd rfl .nil)) rfl (sl01 (sl_l (α := Int) (l := t31)))) rfl .nil) rfl (k_tupL (α := Int) (l := (cut t31 none (some many_))))) ?_
    cases h
    rfl
/-! _law_market -/
noncomputable def F__law_market (deal_ : Deal) (buyers_ : Int) (levels_ : Int) (most_ : Int) : Option ((List (List Int)) × Deal) := (anyO deal_ buyers_).bind fun t1 => (F__law_of t1.2 ([(0 : Int), (0 : Int), (1 : Int), (2 : Int), (3 : Int)])).bind fun t2 => (rng1O ((1 : Int) + t1.1)).bind fun t3 => (loopO (fun (a11 : (Deal × (List Int))) (x4 : Int) => ((anyO a11.1 levels_).bind fun t12 => (appO a11.2 ((1 : Int) + t12.1)).bind fun t13 => some (t12.2, t13) : Option (Deal × (List Int)))) (t2.2, ([] : (List Int))) t3).bind fun t14 => (rng1O (64 : Int)).bind fun t15 => (loopO (fun (a43 : (List Int)) (x16 : Int) => ((loopO (fun (a49 : Int) (x44 : Int) => ((mulO a49 x44).bind fun t50 => some t50 : Option Int)) (1 : Int) a43).bind fun t51 => if (decide (most_ < t51)) = true then (maxO a43).bind fun t52 => (idxO a43 t52).bind fun t53 => (atI a43 t53).bind fun t54 => (setO a43 t53 (t54 - (1 : Int))).bind fun t55 => some t55 else some a43 : Option (List Int))) t14.2 t15).bind fun t56 => (lcO (fun (d59 : Deal) (x57 : Int) => ((F__law_ladder d59 x57 t2.1).bind fun t60 => some (some t60.1, t60.2) : Option (Option (List Int) × Deal))) t14.1 t56).bind fun t61 => (lenO t61).bind fun t62 => some (t62.1, t62.2)
theorem sim__law_market (deal_ : Deal) (buyers_ : Int) (levels_ : Int) (most_ : Int) (r : ((List (List Int)) × Deal)) (h : F__law_market deal_ buyers_ levels_ most_ = some r) : f__law_market [dlU deal_, .dat (en (buyers_ : Int)), .dat (en (levels_ : Int)), .dat (en (most_ : Int))] = .ret false (.dat (en (r.1 : (List (List Int))))) [.io (dlU r.2), .no, .no, .no] := by
  unfold F__law_market at h
  show Go (fun rs => bodyR [true, false, false, false] rs = .ret false (.dat (en (r.1 : (List (List Int))))) [.io (dlU r.2), .no, .no, .no]) (s__law_market [.io (dlU deal_), .ps (.dat (en (buyers_ : Int))), .ps (.dat (en (levels_ : Int))), .ps (.dat (en (most_ : Int))), .no, .no, .no, .no, .no, .no, .no, .no])
  replace h := ob h; obtain ⟨t1, ht1, h⟩ := h
  replace h := ob h; obtain ⟨t2, ht2, h⟩ := h
  refine q_seq (fz_ps (par3 (xq2 (.v c_int (.v (call_dl (n := 1) (us := [.dat (en (buyers_ : Int))]) (.rd rfl (.v (v_ps rfl) .nil)) rfl rfl rfl rfl (sim_any _ _ _ ht1)) .nil)) rfl a_add) (lst_ok .nil (len_le (n := 0) rfl (by decide))) (call_dl (n := 1) (us := [.dat (en ((Ls.mk [(0 : Int), (0 : Int), (1 : Int), (2 : Int), (3 : Int)]) : (Ls Int)))]) (.rd rfl (.w (lst_ok (.v c_int (.v c_int (.v c_int (.v c_int (.v c_int .nil))))) (len_le (n := 5) rfl (by decide))) rfl .nil)) rfl rfl rfl rfl (sim__law_of _ _ _ ht2)) rfl) rfl) ?_
  replace h := ob h; obtain ⟨t3, ht3, h⟩ := h
  replace h := ob h; obtain ⟨t14, ht14, h⟩ := h
  refine q_seq (for_eq (s_r1 (.rd rfl .nil) rfl ht3) (forL_sim (Sh := fun (a11 : (Deal × (List Int))) => [.io (dlU a11.1), .ps (.dat (en (buyers_ : Int))), .ps (.dat (en (levels_ : Int))), .ps (.dat (en (most_ : Int))), .no, .no, .ps (.dat (en (((1 : Int) + t1.1) : Int))), .ow (.dat (en ((Ls.mk a11.2) : (Ls Int)))), .ps (.dat (en (t2.1 : Int))), .no, .no, .no]) (fun a11 x4 a' h => ?_) _ (t2.2, ([] : (List Int))) _ ht14)) ?_
  · refine ⟨_, rfl, ?_⟩
    refine q_fg ?_
    replace h := ob h; obtain ⟨t12, ht12, h⟩ := h
    replace h := ob h; obtain ⟨t13, ht13, h⟩ := h
    refine q_end (drop_ok (app_ok (α := Int) (x := ((1 : Int) + t12.1)) rfl (xq2 (.v c_int (.v (call_dl (n := 1) (us := [.dat (en (levels_ : Int))]) (.rd rfl (.v (v_ps rfl) .nil)) rfl rfl rfl rfl (sim_any _ _ _ ht12)) .nil)) rfl a_add) (fun z => nomatch z) rfl ht13)) ?_
    cases h
    exact Or.inl rfl
  replace h := ob h; obtain ⟨t15, ht15, h⟩ := h
  replace h := ob h; obtain ⟨t56, ht56, h⟩ := h
  refine q_seq (for_eq (s_r1 (.v c_int .nil) rfl ht15) (forL_sim (Sh := fun (a43 : (List Int)) => [.io (dlU t14.1), .ps (.dat (en (buyers_ : Int))), .ps (.dat (en (levels_ : Int))), .ps (.dat (en (most_ : Int))), .no, .no, .ps (.dat (en (((1 : Int) + t1.1) : Int))), .ow (.dat (en ((Ls.mk a43) : (Ls Int)))), .ps (.dat (en (t2.1 : Int))), .no, .no, .no]) (fun a43 x16 a' h => ?_) _ t14.2 _ ht56)) ?_
  · refine ⟨_, rfl, ?_⟩
    refine q_fg ?_
    refine q_seq (asg c_int rfl) ?_
    replace h := ob h; obtain ⟨t51, ht51, h⟩ := h
    refine q_seq (forO_ow (Sh := fun (a49 : Int) => [.io (dlU t14.1), .ps (.dat (en (buyers_ : Int))), .ps (.dat (en (levels_ : Int))), .ps (.dat (en (most_ : Int))), .no, .ps (.dat (en (x16 : Int))), .ps (.dat (en (((1 : Int) + t1.1) : Int))), .bo (.dat (en ((Ls.mk a43) : (Ls Int)))), .ps (.dat (en (t2.1 : Int))), .ps (.dat (en (a49 : Int))), .no, .no]) (a := (1 : Int)) rfl rfl (fun _ => rfl) (fun a49 x44 a' h => ?_) ht51 rfl) ?_
    · refine ⟨_, rfl, ?_⟩
      refine q_fg ?_
      replace h := ob h; obtain ⟨t50, ht50, h⟩ := h
      refine q_end (asg (xq2 (.rd rfl (.rd rfl .nil)) rfl (a_mul ht50)) rfl) ?_
      cases h
      exact Or.inl rfl
    replace h := ite_so h; rcases h with ⟨hc, h⟩ | ⟨hc, h⟩
    · refine q_if_t (tc (tst_ok (xq2 (.rd rfl (.rd rfl .nil)) rfl (lB b_gt))) hc) ?_
      refine q_fg ?_
      replace h := ob h; obtain ⟨t52, ht52, h⟩ := h
      replace h := ob h; obtain ⟨t53, ht53, h⟩ := h
      refine q_seq (fz_ps (asg (idxL_ok (α := Int) (l := a43) (v := t52) rfl rfl (.rd rfl .nil) rfl (.v (xqb (.rd rfl .nil) rfl (k_max ht52)) .nil) rfl rfl (by decide) ht53) rfl) rfl) ?_
      replace h := ob h; obtain ⟨t54, ht54, h⟩ := h
      replace h := ob h; obtain ⟨t55, ht55, h⟩ := h
      refine q_end (setL_ok (x := (t54 - (1 : Int))) (xq2 (.v (xq2 (.rd rfl (.rd rfl .nil)) rfl (ix_l (α := Int) (l := a43) ht54)) (.v c_int .nil)) rfl a_sub) (fun z => nomatch z) rfl (v_ps rfl) rfl ht55) ?_
      cases h
      exact Or.inl rfl
    · refine q_if_f (tc (tst_ok (xq2 (.rd rfl (.rd rfl .nil)) rfl (lB b_gt))) hc) ?_
      refine q_pass ?_
      cases h
      exact Or.inl rfl
  replace h := ob h; obtain ⟨t61, ht61, h⟩ := h
  replace h := ob h; obtain ⟨t62, ht62, h⟩ := h
  refine q_ret (xqb (.w (lc_go (Sh := fun (d59 : Deal) => [.io (dlU d59), .ps (.dat (en (buyers_ : Int))), .ps (.dat (en (levels_ : Int))), .ps (.dat (en (most_ : Int))), .no, .no, .ps (.dat (en (((1 : Int) + t1.1) : Int))), .ps (.dat (en ((Ls.mk t56) : (Ls Int)))), .ps (.dat (en (t2.1 : Int))), .no, .no, .no]) (s_l (α := Int) (l := t56) (v_ow rfl rfl)) rfl (fun d59 x57 r a h => by replace h := ob h; obtain ⟨t60, ht60, h⟩ := h; cases h; exact ⟨_, true, _, rfl, rfl, ⟨rfl, _, _, (call_dl (n := 2) (us := [.dat (en (x57 : Int)), .dat (en (t2.1 : Int))]) (.rd rfl (.v (v_ps rfl) (.v (v_ps rfl) .nil))) rfl rfl rfl rfl (sim__law_ladder _ _ _ _ ht60)), (fun z => nomatch z), rfl⟩⟩) ht61 ht62) rfl .nil) rfl (k_tupL (α := (List Int)) (l := t62.1))) ?_
  cases h
  rfl
/-! _law_profiles -/
noncomputable def F__law_profiles (market_ : (List (List Int))) : Option (List (List Int)) := (loopO (fun (a44 : (List (List Int))) (x1 : (List Int)) => ((loopO (fun (a58 : (List (List Int))) (x45 : (List Int)) => ((lcP (fun (x59 : Int) => ((catO x45 [x59]).bind fun t60 => some (some t60) : Option (Option (List Int)))) x1).bind fun t61 => (lenP t61).bind fun t62 => (catO a58 t62).bind fun t63 => some t63 : Option (List (List Int)))) ([] : (List (List Int))) a44).bind fun t64 => some t64 : Option (List (List Int)))) [[]] market_).bind fun t65 => some t65
theorem sim__law_profiles (market_ : (List (List Int))) (r : (List (List Int))) (h : F__law_profiles market_ = some r) : f__law_profiles [.dat (en (market_ : (List (List Int))))] = .ret false (.dat (en ((Ls.mk r) : (Ls (List Int))))) [.no] := by
  unfold F__law_profiles at h
  show Go (fun rs => bodyR [false] rs = .ret false (.dat (en ((Ls.mk r) : (Ls (List Int))))) [.no]) (s__law_profiles [.ps (.dat (en (market_ : (List (List Int))))), .no, .no, .no, .no, .no])
  refine q_seq (fz_ow (asgO (lst_ok (.v (tup_ok .nil (len_le (n := 0) rfl (by decide))) .nil) (len_le (n := 1) rfl (by decide))) rfl) rfl rfl) ?_
  replace h := ob h; obtain ⟨t65, ht65, h⟩ := h
  refine q_seq (forO_t rfl (forL_sim (Sh := fun (a44 : (List (List Int))) => [.ps (.dat (en (market_ : (List (List Int))))), .ps (.dat (en ((Ls.mk a44) : (Ls (List Int))))), .no, .no, .no, .no]) (fun a44 x1 a' h => ?_) _ [[]] _ ht65)) ?_
  · refine ⟨_, rfl, ?_⟩
    refine q_fg ?_
    refine q_seq (fz_ow (asgO (lst_ok .nil (len_le (n := 0) rfl (by decide))) rfl) rfl rfl) ?_
    replace h := ob h; obtain ⟨t64, ht64, h⟩ := h
    refine q_seq (forO_l rfl (forL_sim (Sh := fun (a58 : (List (List Int))) => [.ps (.dat (en (market_ : (List (List Int))))), .ps (.dat (en ((Ls.mk a44) : (Ls (List Int))))), .ps (.dat (en (x1 : (List Int)))), .ps (.dat (en ((Ls.mk a58) : (Ls (List Int))))), .no, .no]) (fun a58 x45 a' h => ?_) _ ([] : (List (List Int))) _ ht64)) ?_
    · refine ⟨_, rfl, ?_⟩
      refine q_fg ?_
      replace h := ob h; obtain ⟨t61, ht61, h⟩ := h
      replace h := ob h; obtain ⟨t62, ht62, h⟩ := h
      replace h := ob h; obtain ⟨t63, ht63, h⟩ := h
      refine q_end (fz_ow (asgO (xq2 (.rd rfl (.w (lc_goP (S0 := [.ps (.dat (en (market_ : (List (List Int))))), .ps (.dat (en ((Ls.mk a44) : (Ls (List Int))))), .ps (.dat (en (x1 : (List Int)))), .ps (.dat (en ((Ls.mk a58) : (Ls (List Int))))), .ps (.dat (en (x45 : (List Int)))), .no]) (s_t (α := Int) (l := x1) (v_ps rfl)) rfl (fun x59 r h => by replace h := ob h; obtain ⟨t60, ht60, h⟩ := h; cases h; exact ⟨_, true, _, rfl, rfl, ⟨rfl, _, _, (xq2 (.rd rfl (.v (tup_ok (.v (v_ps rfl) .nil) (len_le (n := 1) rfl (by decide))) .nil)) rfl (a_cat (α := Int) (a := x45) (b := [x59]) ht60)), (fun z => nomatch z), rfl⟩⟩) ht61 ht62) rfl .nil)) rfl (a_catL (α := (List Int)) (a := a58) (b := t62) ht63)) rfl) rfl rfl) ?_
      cases h
      exact Or.inl rfl
    refine q_end (fz_ps (asg (v_ps rfl) rfl) rfl) ?_
    cases h
    exact Or.inl rfl
  refine q_ret (frz0 (m_ps rfl)) ?_
  cases h
  rfl
/-! _law_parted -/
noncomputable def F__law_parted (box_ : (List (List Int))) (buyer_ : Int) : Option ((List (List Int)) × (List (List Int))) := (atI box_ buyer_).bind fun t1 => (catO (cut box_ none (some buyer_)) ([(cut t1 none (some (1 : Int)))])).bind fun t2 => (catO t2 (cut box_ (some (buyer_ + (1 : Int))) none)).bind fun t3 => (atI box_ buyer_).bind fun t4 => (catO (cut box_ none (some buyer_)) ([(cut t4 (some (1 : Int)) none)])).bind fun t5 => (catO t5 (cut box_ (some (buyer_ + (1 : Int))) none)).bind fun t6 => some (t3, t6)
theorem sim__law_parted (box_ : (List (List Int))) (buyer_ : Int) (r : ((List (List Int)) × (List (List Int)))) (h : F__law_parted box_ buyer_ = some r) : f__law_parted [.dat (en (box_ : (List (List Int)))), .dat (en (buyer_ : Int))] = .ret false (.dat (en (r : ((List (List Int)) × (List (List Int)))))) [.no, .no] := by
  unfold F__law_parted at h
  show Go (fun rs => bodyR [false, false] rs = .ret false (.dat (en (r : ((List (List Int)) × (List (List Int)))))) [.no, .no]) (s__law_parted [.ps (.dat (en (box_ : (List (List Int))))), .ps (.dat (en (buyer_ : Int)))])
  replace h := ob h; obtain ⟨t1, ht1, h⟩ := h
  replace h := ob h; obtain ⟨t2, ht2, h⟩ := h
  replace h := ob h; obtain ⟨t3, ht3, h⟩ := h
  replace h := ob h; obtain ⟨t4, ht4, h⟩ := h
  replace h := ob h; obtain ⟨t5, ht5, h⟩ := h
  replace h := ob h; obtain ⟨t6, ht6, h⟩ := h
  refine q_ret (tup_ok (.v (xq2 (.v (xq2 (.v (xqb (.rd rfl (.rd rfl .nil)) rfl (sl01 (sl_t (α := (List Int)) (l := box_)))) (.v (tup_ok (.v (xqb (.v (xq2 (.rd rfl (.rd rfl .nil)) rfl (ix_t (α := (List Int)) (l := box_) ht1)) (.v c_int .nil)) rfl (sl01 (sl_t (α := Int) (l := t1)))) .nil) (len_le (n := 1) rfl (by decide))) .nil)) rfl (a_cat (α := (List Int)) (a := (cut box_ none (some buyer_))) (b := [(cut t1 none (some (1 : Int)))]) ht2)) (.v (xqb (.rd rfl (.v (xq2 (.rd rfl (.v c_int .nil)) rfl a_add) .nil)) rfl (sl10 (sl_t (α := (List Int)) (l := box_)))) .nil)) rfl (a_cat (α := (List Int)) (a := t2) (b := (cut box_ (some (buyer_ + (1 : Int))) none)) ht3)) (.v (xq2 (.v (xq2 (.v (xqb (.rd rfl (.rd rfl .nil)) rfl (sl01 (sl_t (α := (List Int)) (l := box_)))) (.v (tup_ok (.v (xqb (.v (xq2 (.rd rfl (.rd rfl .nil)) rfl (ix_t (α := (List Int)) (l := box_) ht4)) (.v c_int .nil)) rfl (sl10 (sl_t (α := Int) (l := t4)))) .nil) (len_le (n := 1) rfl (by decide))) .nil)) rfl (a_cat (α := (List Int)) (a := (cut box_ none (some buyer_))) (b := [(cut t4 (some (1 : Int)) none)]) ht5)) (.v (xqb (.rd rfl (.v (xq2 (.rd rfl (.v c_int .nil)) rfl a_add) .nil)) rfl (sl10 (sl_t (α := (List Int)) (l := box_)))) .nil)) rfl (a_cat (α := (List Int)) (a := t5) (b := (cut box_ (some (buyer_ + (1 : Int))) none)) ht6)) .nil)) (len_le (n := 2) rfl (by decide))) ?_
  cases h
  rfl
/-! _law_clock_lots -/
noncomputable def F__law_clock_lots (deal_ : Deal) (market_ : (List (List Int))) (stops_ : Int) : Option ((List ((List Int) × (List Int))) × Deal) := (whileO (fun (a77 : (Deal × ((List ((List Int) × (List Int))) × (List (T3 (List (List Int)) (List Int) (List Int)))))) => some (!(decide ((Ls.mk (a77.2.2 : (List (T3 (List (List Int)) (List Int) (List Int))))) = (Ls.mk ([] : (List (T3 (List (List Int)) (List Int) (List Int))))))))) (fun (a77 : (Deal × ((List ((List Int) × (List Int))) × (List (T3 (List (List Int)) (List Int) (List Int)))))) => ((popO a77.2.2).bind fun t78 => (rng1O (market_.length : Int)).bind fun t79 => (lcP (fun (x80 : Int) => ((if (!(decide ((x80 : Int) ∈ (t78.1.b : (List Int))))) = true then (if (!(decide ((x80 : Int) ∈ (t78.1.c : (List Int))))) = true then (atI t78.1.a x80).bind fun t81 => some (decide ((1 : Int) < (t81.length : Int))) else some false).bind fun t82 => some t82 else some false).bind fun t83 => if t83 = true then some (some x80) else some none : Option (Option Int))) t79).bind fun t84 => (lenP t84).bind fun t85 => (if (decide ((Ls.mk (t85 : (List Int))) = (Ls.mk ([] : (List Int))))) = true then some (true, a77.1) else (anyO a77.1 stops_).bind fun t86 => some ((decide ((t86.1 : Int) = ((0 : Int) : Int))), t86.2)).bind fun t87 => if t87.1 = true then (rng1O (market_.length : Int)).bind fun t88 => (lcP (fun (x89 : Int) => (if ((!(decide ((x89 : Int) ∈ (t78.1.b : (List Int))))) && (!(decide ((x89 : Int) ∈ (t78.1.c : (List Int)))))) = true then some (some x89) else some none : Option (Option Int))) t88).bind fun t90 => (lenP t90).bind fun t91 => (lcO (fun (d94 : Deal) (x92 : Int) => ((anyO d94 (2 : Int)).bind fun t95 => if (decide ((t95.1 : Int) = ((0 : Int) : Int))) = true then some (some x92, t95.2) else some (none, t95.2) : Option (Option Int × Deal))) t87.2 t91).bind fun t96 => (lenO t96).bind fun t97 => (catO t78.1.c t97.1).bind fun t98 => (F__law_profiles t78.1.a).bind fun t99 => (loopO (fun (a105 : (List ((List Int) × (List Int)))) (x100 : (List Int)) => ((aPutO a105 x100 (sortI t98)).bind fun t106 => some t106 : Option (List ((List Int) × (List Int))))) a77.2.1 t99).bind fun t107 => some (t97.2, (t107, t78.2)) else (F__law_of t87.2 t85).bind fun t108 => (F__law_parted t78.1.a t108.1).bind fun t109 => (anyO t108.2 (3 : Int)).bind fun t110 => if (decide ((0 : Int) < t110.1)) = true then (catO t78.1.b [t108.1]).bind fun t111 => (catO t78.2 ([(T3.mk t109.1 t111 t78.1.c), (T3.mk t109.2 t78.1.b t78.1.c)])).bind fun t112 => some (t110.2, (a77.2.1, t112)) else (catO t78.1.c [t108.1]).bind fun t113 => (catO t78.2 ([(T3.mk t109.1 t78.1.b t78.1.c), (T3.mk t109.2 t78.1.b t113)])).bind fun t114 => some (t110.2, (a77.2.1, t114)) : Option (Deal × ((List ((List Int) × (List Int))) × (List (T3 (List (List Int)) (List Int) (List Int))))))) (deal_, (([] : (List ((List Int) × (List Int)))), [(T3.mk market_ [] [])]))).bind fun t115 => some (t115.2.1, t115.1)
theorem sim__law_clock_lots (deal_ : Deal) (market_ : (List (List Int))) (stops_ : Int) (r : ((List ((List Int) × (List Int))) × Deal)) (h : F__law_clock_lots deal_ market_ stops_ = some r) : f__law_clock_lots [dlU deal_, .dat (en (market_ : (List (List Int)))), .dat (en (stops_ : Int))] = .ret true (.dic (dcD r.1)) [.io (dlU r.2), .no, .no] := by
  unfold F__law_clock_lots at h
  show Go (fun rs => bodyR [true, false, false] rs = .ret true (.dic (dcD r.1)) [.io (dlU r.2), .no, .no]) (s__law_clock_lots [.io (dlU deal_), .ps (.dat (en (market_ : (List (List Int))))), .ps (.dat (en (stops_ : Int))), .no, .no, .no, .no, .no, .no, .no, .no, .no, .no, .no, .no])
  refine q_seq (par2 (xqb (.w (lst_ok .nil (len_le (n := 0) rfl (by decide))) rfl .nil) rfl k_dict0) (lst_ok (.v (tup_ok (.v (v_ps rfl) (.v (tup_ok .nil (len_le (n := 0) rfl (by decide))) (.v (tup_ok .nil (len_le (n := 0) rfl (by decide))) .nil))) (len_le (n := 3) rfl (by decide))) .nil) (len_le (n := 1) rfl (by decide))) rfl) ?_
  replace h := ob h; obtain ⟨t115, ht115, h⟩ := h
  refine q_seq (while_sim (a := (deal_, (([] : (List ((List Int) × (List Int)))), [(T3.mk market_ [] [])]))) (Sh := fun (a77 : (Deal × ((List ((List Int) × (List Int))) × (List (T3 (List (List Int)) (List Int) (List Int)))))) => [.io (dlU a77.1), .ps (.dat (en (market_ : (List (List Int))))), .ps (.dat (en (stops_ : Int))), .ow (.dic (dcD a77.2.1)), .ow (.dat (en ((Ls.mk a77.2.2) : (Ls (T3 (List (List Int)) (List Int) (List Int)))))), .no, .no, .no, .no, .no, .no, .no, .no, .no, .no]) (fun a77 b h => ?_) (fun a77 a' h => ?_) ht115) ?_
  · cases h
    exact (tst_ok (xq2 (.rd rfl (.w (lst_ok .nil (len_le (n := 0) rfl (by decide))) rfl .nil)) rfl (lB (b_ne (α := (Ls (T3 (List (List Int)) (List Int) (List Int)))) (x := (Ls.mk (a77.2.2 : (List (T3 (List (List Int)) (List Int) (List Int)))))) (y := (Ls.mk ([] : (List (T3 (List (List Int)) (List Int) (List Int)))))) (by decide)))))
  · refine q_fg ?_
    replace h := ob h; obtain ⟨t78, ht78, h⟩ := h
    refine q_seq (unp (pop_ok rfl ht78) rfl) ?_
    replace h := ob h; obtain ⟨t79, ht79, h⟩ := h
    replace h := ob h; obtain ⟨t84, ht84, h⟩ := h
    replace h := ob h; obtain ⟨t85, ht85, h⟩ := h
    refine q_seq (fz_ow (asgO (lc_goP (S0 := [.io (dlU a77.1), .ps (.dat (en (market_ : (List (List Int))))), .ps (.dat (en (stops_ : Int))), .ow (.dic (dcD a77.2.1)), .ow (.dat (en ((Ls.mk t78.2) : (Ls (T3 (List (List Int)) (List Int) (List Int)))))), .no, .ps (.dat (en (t78.1.a : (List (List Int))))), .ps (.dat (en (t78.1.b : (List Int)))), .ps (.dat (en (t78.1.c : (List Int)))), .no, .no, .no, .no, .no, .no]) (s_r1 (.v (xqb (.rd rfl .nil) rfl (k_lenT (α := (List Int)) (l := market_))) .nil) rfl ht79) rfl (fun x80 r h => by replace h := ob h; obtain ⟨t83, ht83, h⟩ := h; replace h := ite_so h; rcases h with ⟨hc, h⟩ | ⟨hc, h⟩ <;> first | (cases h; exact ⟨_, true, _, rfl, tc (t_andb (R := .ok t83 [.io (dlU a77.1), .ps (.dat (en (market_ : (List (List Int))))), .ps (.dat (en (stops_ : Int))), .ow (.dic (dcD a77.2.1)), .ow (.dat (en ((Ls.mk t78.2) : (Ls (T3 (List (List Int)) (List Int) (List Int)))))), .no, .ps (.dat (en (t78.1.a : (List (List Int))))), .ps (.dat (en (t78.1.b : (List Int)))), .ps (.dat (en (t78.1.c : (List Int)))), .no, .no, .no, .ps (.dat (en (x80 : Int))), .no, .no]) ht83 (tst_ok (xq2 (.rd rfl (.rd rfl .nil)) rfl (lB (b_notin (b_inT (α := Int) (x := x80) (l := t78.1.b)))))) (fun h => by replace h := ob h; obtain ⟨t82, ht82, h⟩ := h; replace h := Option.some.inj h; subst h; exact tvS (t_andb (R := .ok t82 [.io (dlU a77.1), .ps (.dat (en (market_ : (List (List Int))))), .ps (.dat (en (stops_ : Int))), .ow (.dic (dcD a77.2.1)), .ow (.dat (en ((Ls.mk t78.2) : (Ls (T3 (List (List Int)) (List Int) (List Int)))))), .no, .ps (.dat (en (t78.1.a : (List (List Int))))), .ps (.dat (en (t78.1.b : (List Int)))), .ps (.dat (en (t78.1.c : (List Int)))), .no, .no, .no, .ps (.dat (en (x80 : Int))), .no, .no]) ht82 (tst_ok (xq2 (.rd rfl (.rd rfl .nil)) rfl (lB (b_notin (b_inT (α := Int) (x := x80) (l := t78.1.c)))))) (fun h => by replace h := ob h; obtain ⟨t81, ht81, h⟩ := h; replace h := Option.some.inj h; subst h; exact tvS (tst_ok (xq2 (.v (xqb (.v (xq2 (.rd rfl (.rd rfl .nil)) rfl (ix_t (α := (List Int)) (l := t78.1.a) ht81)) .nil) rfl (k_lenT (α := Int) (l := t81))) (.v c_int .nil)) rfl (lB b_gt))) rfl) (fun h => by cases h; rfl)) rfl) (fun h => by cases h; rfl)) hc, ⟨rfl, _, _, (v_ps rfl), (fun z => nomatch z), rfl⟩⟩) | (cases h; exact ⟨_, false, _, rfl, tc (t_andb (R := .ok t83 [.io (dlU a77.1), .ps (.dat (en (market_ : (List (List Int))))), .ps (.dat (en (stops_ : Int))), .ow (.dic (dcD a77.2.1)), .ow (.dat (en ((Ls.mk t78.2) : (Ls (T3 (List (List Int)) (List Int) (List Int)))))), .no, .ps (.dat (en (t78.1.a : (List (List Int))))), .ps (.dat (en (t78.1.b : (List Int)))), .ps (.dat (en (t78.1.c : (List Int)))), .no, .no, .no, .ps (.dat (en (x80 : Int))), .no, .no]) ht83 (tst_ok (xq2 (.rd rfl (.rd rfl .nil)) rfl (lB (b_notin (b_inT (α := Int) (x := x80) (l := t78.1.b)))))) (fun h => by replace h := ob h; obtain ⟨t82, ht82, h⟩ := h; replace h := Option.some.inj h; subst h; exact tvS (t_andb (R := .ok t82 [.io (dlU a77.1), .ps (.dat (en (market_ : (List (List Int))))), .ps (.dat (en (stops_ : Int))), .ow (.dic (dcD a77.2.1)), .ow (.dat (en ((Ls.mk t78.2) : (Ls (T3 (List (List Int)) (List Int) (List Int)))))), .no, .ps (.dat (en (t78.1.a : (List (List Int))))), .ps (.dat (en (t78.1.b : (List Int)))), .ps (.dat (en (t78.1.c : (List Int)))), .no, .no, .no, .ps (.dat (en (x80 : Int))), .no, .no]) ht82 (tst_ok (xq2 (.rd rfl (.rd rfl .nil)) rfl (lB (b_notin (b_inT (α := Int) (x := x80) (l := t78.1.c)))))) (fun h => by replace h := ob h; obtain ⟨t81, ht81, h⟩ := h; replace h := Option.some.inj h; subst h; exact tvS (tst_ok (xq2 (.v (xqb (.v (xq2 (.rd rfl (.rd rfl .nil)) rfl (ix_t (α := (List Int)) (l := t78.1.a) ht81)) .nil) rfl (k_lenT (α := Int) (l := t81))) (.v c_int .nil)) rfl (lB b_gt))) rfl) (fun h => by cases h; rfl)) rfl) (fun h => by cases h; rfl)) hc, ⟨rfl, rfl⟩⟩)) ht84 ht85) rfl) rfl rfl) ?_
    replace h := ob h; obtain ⟨t87, ht87, h⟩ := h
    replace h := ite_so h; rcases h with ⟨hc, h⟩ | ⟨hc, h⟩
    · refine q_if_t (tc (t_orb (R := .ok t87.1 [.io (dlU t87.2), .ps (.dat (en (market_ : (List (List Int))))), .ps (.dat (en (stops_ : Int))), .ow (.dic (dcD a77.2.1)), .ow (.dat (en ((Ls.mk t78.2) : (Ls (T3 (List (List Int)) (List Int) (List Int)))))), .ps (.dat (en ((Ls.mk t85) : (Ls Int)))), .ps (.dat (en (t78.1.a : (List (List Int))))), .ps (.dat (en (t78.1.b : (List Int)))), .ps (.dat (en (t78.1.c : (List Int)))), .no, .no, .no, .no, .no, .no]) ht87 (tst_ok (xq2 (.rd rfl (.w (lst_ok .nil (len_le (n := 0) rfl (by decide))) rfl .nil)) rfl (lB (b_eq (α := (Ls Int)) (x := (Ls.mk (t85 : (List Int)))) (y := (Ls.mk ([] : (List Int)))) (by decide))))) (fun h => by replace h := ob h; obtain ⟨t86, ht86, h⟩ := h; replace h := Option.some.inj h; subst h; exact tvS (tst_ok (xq2 (.v (call_dl (n := 1) (us := [.dat (en (stops_ : Int))]) (.rd rfl (.v (v_ps rfl) .nil)) rfl rfl rfl rfl (sim_any _ _ _ ht86)) (.v c_int .nil)) rfl (lB (b_eq (α := Int) (x := (t86.1 : Int)) (y := ((0 : Int) : Int)) (by decide))))) rfl) (fun h => by cases h; rfl)) hc) ?_
      refine q_fg ?_
      replace h := ob h; obtain ⟨t88, ht88, h⟩ := h
      replace h := ob h; obtain ⟨t90, ht90, h⟩ := h
      replace h := ob h; obtain ⟨t91, ht91, h⟩ := h
      refine q_seq (fz_ow (asgO (lc_goP (S0 := [.io (dlU t87.2), .ps (.dat (en (market_ : (List (List Int))))), .ps (.dat (en (stops_ : Int))), .ow (.dic (dcD a77.2.1)), .ow (.dat (en ((Ls.mk t78.2) : (Ls (T3 (List (List Int)) (List Int) (List Int)))))), .ps (.dat (en ((Ls.mk t85) : (Ls Int)))), .ps (.dat (en (t78.1.a : (List (List Int))))), .ps (.dat (en (t78.1.b : (List Int)))), .ps (.dat (en (t78.1.c : (List Int)))), .no, .no, .no, .no, .no, .no]) (s_r1 (.v (xqb (.rd rfl .nil) rfl (k_lenT (α := (List Int)) (l := market_))) .nil) rfl ht88) rfl (fun x89 r h => by replace h := ite_so h; rcases h with ⟨hc, h⟩ | ⟨hc, h⟩ <;> first | (cases h; exact ⟨_, true, _, rfl, tc (t_and (tst_ok (xq2 (.rd rfl (.rd rfl .nil)) rfl (lB (b_notin (b_inT (α := Int) (x := x89) (l := t78.1.b)))))) (fun _ => (tst_ok (xq2 (.rd rfl (.rd rfl .nil)) rfl (lB (b_notin (b_inT (α := Int) (x := x89) (l := t78.1.c)))))))) hc, ⟨rfl, _, _, (v_ps rfl), (fun z => nomatch z), rfl⟩⟩) | (cases h; exact ⟨_, false, _, rfl, tc (t_and (tst_ok (xq2 (.rd rfl (.rd rfl .nil)) rfl (lB (b_notin (b_inT (α := Int) (x := x89) (l := t78.1.b)))))) (fun _ => (tst_ok (xq2 (.rd rfl (.rd rfl .nil)) rfl (lB (b_notin (b_inT (α := Int) (x := x89) (l := t78.1.c)))))))) hc, ⟨rfl, rfl⟩⟩)) ht90 ht91) rfl) rfl rfl) ?_
      replace h := ob h; obtain ⟨t96, ht96, h⟩ := h
      replace h := ob h; obtain ⟨t97, ht97, h⟩ := h
      replace h := ob h; obtain ⟨t98, ht98, h⟩ := h
      refine q_seq (asg (xqb (.w (xqb (.w (xq2 (.w (xqb (.rd rfl .nil) rfl (k_lstT (α := Int) (l := t78.1.c))) rfl (.w (lc_go (Sh := fun (d94 : Deal) => [.io (dlU d94), .ps (.dat (en (market_ : (List (List Int))))), .ps (.dat (en (stops_ : Int))), .ow (.dic (dcD a77.2.1)), .ow (.dat (en ((Ls.mk t78.2) : (Ls (T3 (List (List Int)) (List Int) (List Int)))))), .ps (.dat (en ((Ls.mk t85) : (Ls Int)))), .ps (.dat (en (t78.1.a : (List (List Int))))), .ps (.dat (en (t78.1.b : (List Int)))), .ps (.dat (en (t78.1.c : (List Int)))), .ps (.dat (en ((Ls.mk t91) : (Ls Int)))), .no, .no, .no, .no, .no]) (s_l (α := Int) (l := t91) (v_ps rfl)) rfl (fun d94 x92 r a h => by replace h := ob h; obtain ⟨t95, ht95, h⟩ := h; replace h := ite_so h; rcases h with ⟨hc, h⟩ | ⟨hc, h⟩ <;> first | (cases h; exact ⟨_, true, _, rfl, tc (tst_ok (xq2 (.v (call_dl (n := 1) (us := [.dat (en ((2 : Int) : Int))]) (.rd rfl (.v c_int .nil)) rfl rfl rfl rfl (sim_any _ _ _ ht95)) (.v c_int .nil)) rfl (lB (b_eq (α := Int) (x := (t95.1 : Int)) (y := ((0 : Int) : Int)) (by decide))))) hc, ⟨rfl, _, _, (v_ps rfl), (fun z => nomatch z), rfl⟩⟩) | (cases h; exact ⟨_, false, _, rfl, tc (tst_ok (xq2 (.v (call_dl (n := 1) (us := [.dat (en ((2 : Int) : Int))]) (.rd rfl (.v c_int .nil)) rfl rfl rfl rfl (sim_any _ _ _ ht95)) (.v c_int .nil)) rfl (lB (b_eq (α := Int) (x := (t95.1 : Int)) (y := ((0 : Int) : Int)) (by decide))))) hc, ⟨rfl, rfl⟩⟩)) ht96 ht97) rfl .nil)) rfl (a_catL (α := Int) (a := t78.1.c) (b := t97.1) ht98)) rfl .nil) rfl (k_sortL (l := t98))) rfl .nil) rfl (k_tupL (α := Int) (l := (sortI t98)))) rfl) ?_
      replace h := ob h; obtain ⟨t99, ht99, h⟩ := h
      replace h := ob h; obtain ⟨t107, ht107, h⟩ := h
      refine q_end (for_eq (s_l (α := (List Int)) (l := t99) (call_no (n := 1) (us := [.dat (en (t78.1.a : (List (List Int))))]) (.v (v_ps rfl) .nil) rfl rfl (sim__law_profiles _ _ ht99))) (forL_sim (Sh := fun (a105 : (List ((List Int) × (List Int)))) => [.io (dlU t97.2), .ps (.dat (en (market_ : (List (List Int))))), .ps (.dat (en (stops_ : Int))), .ow (.dic (dcD a105)), .ow (.dat (en ((Ls.mk t78.2) : (Ls (T3 (List (List Int)) (List Int) (List Int)))))), .ps (.dat (en ((Ls.mk t85) : (Ls Int)))), .ps (.dat (en (t78.1.a : (List (List Int))))), .ps (.dat (en (t78.1.b : (List Int)))), .ps (.dat (en (t78.1.c : (List Int)))), .ps (.dat (en ((Ls.mk t91) : (Ls Int)))), .ps (.dat (en ((sortI t98) : (List Int)))), .no, .no, .no, .no]) (fun a105 x100 a' h => ?_) _ a77.2.1 _ ht107)) ?_
      · refine ⟨_, rfl, ?_⟩
        refine q_fg ?_
        replace h := ob h; obtain ⟨t106, ht106, h⟩ := h
        refine q_end (setX_ok (x := (sortI t98)) (k := x100) (v_ps rfl) (fun z => nomatch z) rfl (v_ps rfl) rfl ht106) ?_
        cases h
        exact Or.inl rfl
      cases h
      exact Or.inl rfl
    · refine q_if_f (tc (t_orb (R := .ok t87.1 [.io (dlU t87.2), .ps (.dat (en (market_ : (List (List Int))))), .ps (.dat (en (stops_ : Int))), .ow (.dic (dcD a77.2.1)), .ow (.dat (en ((Ls.mk t78.2) : (Ls (T3 (List (List Int)) (List Int) (List Int)))))), .ps (.dat (en ((Ls.mk t85) : (Ls Int)))), .ps (.dat (en (t78.1.a : (List (List Int))))), .ps (.dat (en (t78.1.b : (List Int)))), .ps (.dat (en (t78.1.c : (List Int)))), .no, .no, .no, .no, .no, .no]) ht87 (tst_ok (xq2 (.rd rfl (.w (lst_ok .nil (len_le (n := 0) rfl (by decide))) rfl .nil)) rfl (lB (b_eq (α := (Ls Int)) (x := (Ls.mk (t85 : (List Int)))) (y := (Ls.mk ([] : (List Int)))) (by decide))))) (fun h => by replace h := ob h; obtain ⟨t86, ht86, h⟩ := h; replace h := Option.some.inj h; subst h; exact tvS (tst_ok (xq2 (.v (call_dl (n := 1) (us := [.dat (en (stops_ : Int))]) (.rd rfl (.v (v_ps rfl) .nil)) rfl rfl rfl rfl (sim_any _ _ _ ht86)) (.v c_int .nil)) rfl (lB (b_eq (α := Int) (x := (t86.1 : Int)) (y := ((0 : Int) : Int)) (by decide))))) rfl) (fun h => by cases h; rfl)) hc) ?_
      refine q_fg ?_
      replace h := ob h; obtain ⟨t108, ht108, h⟩ := h
      refine q_seq (asg (call_dl (n := 1) (us := [.dat (en ((Ls.mk t85) : (Ls Int)))]) (.rd rfl (.v (v_ps rfl) .nil)) rfl rfl rfl rfl (sim__law_of _ _ _ ht108)) rfl) ?_
      replace h := ob h; obtain ⟨t109, ht109, h⟩ := h
      refine q_seq (unp (call_no (n := 2) (us := [.dat (en (t78.1.a : (List (List Int)))), .dat (en (t108.1 : Int))]) (.v (v_ps rfl) (.v (v_ps rfl) .nil)) rfl rfl (sim__law_parted _ _ _ ht109)) rfl) ?_
      replace h := ob h; obtain ⟨t110, ht110, h⟩ := h
      replace h := ite_so h; rcases h with ⟨hc, h⟩ | ⟨hc, h⟩
      · refine q_if_t (tc (tst_ok (xq2 (.v (call_dl (n := 1) (us := [.dat (en ((3 : Int) : Int))]) (.rd rfl (.v c_int .nil)) rfl rfl rfl rfl (sim_any _ _ _ ht110)) (.v c_int .nil)) rfl (lB b_gt))) hc) ?_
        replace h := ob h; obtain ⟨t111, ht111, h⟩ := h
        replace h := ob h; obtain ⟨t112, ht112, h⟩ := h
        refine q_end (asgO (xq2 (.rd rfl (.w (lst_ok (.v (tup_ok (.v (v_ps rfl) (.v (xq2 (.rd rfl (.v (tup_ok (.v (v_ps rfl) .nil) (len_le (n := 1) rfl (by decide))) .nil)) rfl (a_cat (α := Int) (a := t78.1.b) (b := [t108.1]) ht111)) (.v (v_ps rfl) .nil))) (len_le (n := 3) rfl (by decide))) (.v (tup_ok (.v (v_ps rfl) (.v (v_ps rfl) (.v (v_ps rfl) .nil))) (len_le (n := 3) rfl (by decide))) .nil)) (len_le (n := 2) rfl (by decide))) rfl .nil)) rfl (a_catL (α := (T3 (List (List Int)) (List Int) (List Int))) (a := t78.2) (b := [(T3.mk t109.1 t111 t78.1.c), (T3.mk t109.2 t78.1.b t78.1.c)]) ht112)) rfl) ?_
        cases h
        exact Or.inl rfl
      · refine q_if_f (tc (tst_ok (xq2 (.v (call_dl (n := 1) (us := [.dat (en ((3 : Int) : Int))]) (.rd rfl (.v c_int .nil)) rfl rfl rfl rfl (sim_any _ _ _ ht110)) (.v c_int .nil)) rfl (lB b_gt))) hc) ?_
        replace h := ob h; obtain ⟨t113, ht113, h⟩ := h
        replace h := ob h; obtain ⟨t114, ht114, h⟩ := h
        refine q_end (asgO (xq2 (.rd rfl (.w (lst_ok (.v (tup_ok (.v (v_ps rfl) (.v (v_ps rfl) (.v (v_ps rfl) .nil))) (len_le (n := 3) rfl (by decide))) (.v (tup_ok (.v (v_ps rfl) (.v (v_ps rfl) (.v (xq2 (.rd rfl (.v (tup_ok (.v (v_ps rfl) .nil) (len_le (n := 1) rfl (by decide))) .nil)) rfl (a_cat (α := Int) (a := t78.1.c) (b := [t108.1]) ht113)) .nil))) (len_le (n := 3) rfl (by decide))) .nil)) (len_le (n := 2) rfl (by decide))) rfl .nil)) rfl (a_catL (α := (T3 (List (List Int)) (List Int) (List Int))) (a := t78.2) (b := [(T3.mk t109.1 t78.1.b t78.1.c), (T3.mk t109.2 t78.1.b t113)]) ht114)) rfl) ?_
        cases h
        exact Or.inl rfl
  refine q_ret (m_ow rfl) ?_
  cases h
  rfl
/-! _law_of -/
noncomputable def F__law_of_1 {α : Type} [Rp α] (deal_ : Deal) (some_ : (List α)) : Option (α × Deal) := (anyO deal_ (some_.length : Int)).bind fun t1 => (atI some_ t1.1).bind fun t2 => some (t2, t1.2)
theorem sim__law_of_1 {α : Type} [Rp α] (deal_ : Deal) (some_ : (List α)) (r : (α × Deal)) (h : F__law_of_1 deal_ some_ = some r) : f__law_of [dlU deal_, .dat (en (some_ : (List α)))] = .ret false (.dat (en (r.1 : α))) [.io (dlU r.2), .no] := by
  unfold F__law_of_1 at h
  show Go (fun rs => bodyR [true, false] rs = .ret false (.dat (en (r.1 : α))) [.io (dlU r.2), .no]) (s__law_of [.io (dlU deal_), .ps (.dat (en (some_ : (List α))))])
  replace h := ob h; obtain ⟨t1, ht1, h⟩ := h
  replace h := ob h; obtain ⟨t2, ht2, h⟩ := h
  refine q_ret (xq2 (.rd rfl (.v (call_dl (n := 1) (us := [.dat (en ((some_.length : Int) : Int))]) (.rd rfl (.v (xqb (.rd rfl .nil) rfl (k_lenT (α := α) (l := some_))) .nil)) rfl rfl rfl rfl (sim_any _ _ _ ht1)) .nil)) rfl (ix_t (α := α) (l := some_) ht2)) ?_
  cases h
  rfl
/-! _law_lots -/
noncomputable def F__law_lots (deal_ : Deal) (market_ : (List (List Int))) : Option ((List ((List Int) × (List Int))) × Deal) := (anyO deal_ (6 : Int)).bind fun t1 => if (decide (t1.1 < (4 : Int))) = true then (F__law_of t1.2 ([(3 : Int), (6 : Int), (12 : Int)])).bind fun t2 => (F__law_clock_lots t2.2 market_ t2.1).bind fun t3 => (if (decide ((1 : Int) < t1.1)) = true then (F__law_of t3.2 ([(1 : Int), (1 : Int), (3 : Int)])).bind fun t4 => some (t4.1, t4.2) else some ((0 : Int), t3.2)).bind fun t5 => (rng1O t5.1).bind fun t6 => (loopO (fun (a38 : (Deal × (List ((List Int) × (List Int))))) (x7 : Int) => ((lcO (fun (d41 : Deal) (x39 : (List Int)) => ((F__law_of_1 d41 x39).bind fun t42 => some (some t42.1, t42.2) : Option (Option Int × Deal))) a38.1 market_).bind fun t43 => (lenO t43).bind fun t44 => (anyO t44.2 (market_.length : Int)).bind fun t45 => (aGet a38.2 t44.1).bind fun t46 => (if (decide ((t45.1 : Int) ∈ (t46 : (List Int)))) = true then (lcP (fun (x47 : Int) => (if (!(decide ((x47 : Int) = (t45.1 : Int)))) = true then some (some x47) else some none : Option (Option Int))) t46).bind fun t48 => (lenP t48).bind fun t49 => some t49 else (catO t46 [t45.1]).bind fun t50 => some (sortI t50)).bind fun t51 => (aPutO a38.2 t44.1 t51).bind fun t52 => some (t45.2, t52) : Option (Deal × (List ((List Int) × (List Int)))))) (t5.2, t3.1) t6).bind fun t53 => some (t53.2, t53.1) else (F__law_of t1.2 ([(2 : Int), (3 : Int), (4 : Int)])).bind fun t54 => (rng1O t54.1).bind fun t55 => (lcO (fun (d64 : Deal) (x56 : Int) => ((rng1O (market_.length : Int)).bind fun t65 => (lcO (fun (d68 : Deal) (x66 : Int) => ((anyO d68 (2 : Int)).bind fun t69 => if (decide ((t69.1 : Int) = ((0 : Int) : Int))) = true then some (some x66, t69.2) else some (none, t69.2) : Option (Option Int × Deal))) d64 t65).bind fun t70 => (lenO t70).bind fun t71 => some (some t71.1, t71.2) : Option (Option (List Int) × Deal))) t54.2 t55).bind fun t72 => (lenO t72).bind fun t73 => (F__law_profiles market_).bind fun t74 => (loopO (fun (a104 : (Deal × (List ((List Int) × (List Int))))) (x75 : (List Int)) => (if (decide ((t1.1 : Int) = ((4 : Int) : Int))) = true then (lcP (fun (x105 : (List Int)) => ((lcP (fun (x106 : Int) => ((atI x75 x106).bind fun t107 => some (some t107) : Option (Option Int))) x105).bind fun t108 => (lenP t108).bind fun t109 => some (some t109.sum) : Option (Option Int))) t73.1).bind fun t110 => (lenP t110).bind fun t111 => (maxO t111).bind fun t112 => (idxO t111 t112).bind fun t113 => (atI t73.1 t113).bind fun t114 => (aPutO a104.2 x75 t114).bind fun t115 => some (a104.1, t115) else (F__law_of a104.1 t73.1).bind fun t116 => (aPutO a104.2 x75 t116.1).bind fun t117 => some (t116.2, t117) : Option (Deal × (List ((List Int) × (List Int)))))) (t73.2, ([] : (List ((List Int) × (List Int))))) t74).bind fun t118 => some (t118.2, t118.1)
theorem sim__law_lots (deal_ : Deal) (market_ : (List (List Int))) (r : ((List ((List Int) × (List Int))) × Deal)) (h : F__law_lots deal_ market_ = some r) : f__law_lots [dlU deal_, .dat (en (market_ : (List (List Int))))] = .ret true (.dic (dcD r.1)) [.io (dlU r.2), .no] := by
  unfold F__law_lots at h
  show Go (fun rs => bodyR [true, false] rs = .ret true (.dic (dcD r.1)) [.io (dlU r.2), .no]) (s__law_lots [.io (dlU deal_), .ps (.dat (en (market_ : (List (List Int))))), .no, .no, .no, .no, .no, .no, .no, .no, .no, .no, .no])
  replace h := ob h; obtain ⟨t1, ht1, h⟩ := h
  refine q_seq (asg (call_dl (n := 1) (us := [.dat (en ((6 : Int) : Int))]) (.rd rfl (.v c_int .nil)) rfl rfl rfl rfl (sim_any _ _ _ ht1)) rfl) ?_
  replace h := ite_so h; rcases h with ⟨hc, h⟩ | ⟨hc, h⟩
  · refine q_sif_t (tc (tst_ok (xq2 (.rd rfl (.v c_int .nil)) rfl (lB b_lt))) hc) ?_
    replace h := ob h; obtain ⟨t2, ht2, h⟩ := h
    replace h := ob h; obtain ⟨t3, ht3, h⟩ := h
    refine q_seq (asgO (call_dl (n := 2) (us := [.dat (en (market_ : (List (List Int)))), .dat (en (t2.1 : Int))]) (.rd rfl (.v (v_ps rfl) (.v (call_dl (n := 1) (us := [.dat (en ((Ls.mk [(3 : Int), (6 : Int), (12 : Int)]) : (Ls Int)))]) (.rd rfl (.w (lst_ok (.v c_int (.v c_int (.v c_int .nil))) (len_le (n := 3) rfl (by decide))) rfl .nil)) rfl rfl rfl rfl (sim__law_of _ _ _ ht2)) .nil))) rfl rfl rfl rfl (sim__law_clock_lots _ _ _ _ ht3)) rfl) ?_
    replace h := ob h; obtain ⟨t5, ht5, h⟩ := h
    replace h := ob h; obtain ⟨t6, ht6, h⟩ := h
    replace h := ob h; obtain ⟨t53, ht53, h⟩ := h
    refine q_seq (for_eq (s_r1 (.v (i_b (R := .ok false (.dat (en (t5.1 : Int))) [.io (dlU t5.2), .ps (.dat (en (market_ : (List (List Int))))), .ps (.dat (en (t1.1 : Int))), .no, .ow (.dic (dcD t3.1)), .no, .no, .no, .no, .no, .no, .no, .no]) ht5 (tst_ok (xq2 (.rd rfl (.v c_int .nil)) rfl (lB b_gt))) (fun hc h => by replace h := ob h; obtain ⟨t4, ht4, h⟩ := h; replace h := Option.some.inj h; subst h; exact evS (call_dl (n := 1) (us := [.dat (en ((Ls.mk [(1 : Int), (1 : Int), (3 : Int)]) : (Ls Int)))]) (.rd rfl (.w (lst_ok (.v c_int (.v c_int (.v c_int .nil))) (len_le (n := 3) rfl (by decide))) rfl .nil)) rfl rfl rfl rfl (sim__law_of _ _ _ ht4)) rfl) (fun hc h => by replace h := Option.some.inj h; subst h; exact evS c_int rfl)) .nil) rfl ht6) (forL_sim (Sh := fun (a38 : (Deal × (List ((List Int) × (List Int))))) => [.io (dlU a38.1), .ps (.dat (en (market_ : (List (List Int))))), .ps (.dat (en (t1.1 : Int))), .no, .ow (.dic (dcD a38.2)), .no, .no, .no, .no, .no, .no, .no, .no]) (fun a38 x7 a' h => ?_) _ (t5.2, t3.1) _ ht53)) ?_
    · refine ⟨_, rfl, ?_⟩
      refine q_fg ?_
      replace h := ob h; obtain ⟨t43, ht43, h⟩ := h
      replace h := ob h; obtain ⟨t44, ht44, h⟩ := h
      refine q_seq (asg (xqb (.w (lc_go (Sh := fun (d41 : Deal) => [.io (dlU d41), .ps (.dat (en (market_ : (List (List Int))))), .ps (.dat (en (t1.1 : Int))), .no, .ow (.dic (dcD a38.2)), .no, .ps (.dat (en (x7 : Int))), .no, .no, .no, .no, .no, .no]) (s_t (α := (List Int)) (l := market_) (v_ps rfl)) rfl (fun d41 x39 r a h => by replace h := ob h; obtain ⟨t42, ht42, h⟩ := h; cases h; exact ⟨_, true, _, rfl, rfl, ⟨rfl, _, _, (call_dl (n := 1) (us := [.dat (en (x39 : (List Int)))]) (.rd rfl (.v (v_ps rfl) .nil)) rfl rfl rfl rfl (sim__law_of_1 _ _ _ ht42)), (fun z => nomatch z), rfl⟩⟩) ht43 ht44) rfl .nil) rfl (k_tupL (α := Int) (l := t44.1))) rfl) ?_
      replace h := ob h; obtain ⟨t45, ht45, h⟩ := h
      refine q_seq (asg (call_dl (n := 1) (us := [.dat (en ((market_.length : Int) : Int))]) (.rd rfl (.v (xqb (.rd rfl .nil) rfl (k_lenT (α := (List Int)) (l := market_))) .nil)) rfl rfl rfl rfl (sim_any _ _ _ ht45)) rfl) ?_
      replace h := ob h; obtain ⟨t46, ht46, h⟩ := h
      refine q_seq (asg (xq2 (.rd rfl (.rd rfl .nil)) rfl (ix_x ht46)) rfl) ?_
      replace h := ob h; obtain ⟨t51, ht51, h⟩ := h
      replace h := ob h; obtain ⟨t52, ht52, h⟩ := h
      refine q_end (setX_ok (x := t51) (k := t44.1) (i_b (R := .ok false (.dat (en (t51 : (List Int)))) [.io (dlU t45.2), .ps (.dat (en (market_ : (List (List Int))))), .ps (.dat (en (t1.1 : Int))), .no, .ow (.dic (dcD a38.2)), .ps (.dat (en (t44.1 : (List Int)))), .ps (.dat (en (x7 : Int))), .ps (.dat (en (t45.1 : Int))), .ps (.dat (en (t46 : (List Int)))), .no, .no, .no, .no]) ht51 (tst_ok (xq2 (.rd rfl (.rd rfl .nil)) rfl (lB (b_inT (α := Int) (x := t45.1) (l := t46))))) (fun hc h => by replace h := ob h; obtain ⟨t48, ht48, h⟩ := h; replace h := ob h; obtain ⟨t49, ht49, h⟩ := h; replace h := Option.some.inj h; subst h; exact evS (xqb (.w (lc_goP (S0 := [.io (dlU t45.2), .ps (.dat (en (market_ : (List (List Int))))), .ps (.dat (en (t1.1 : Int))), .no, .ow (.dic (dcD a38.2)), .ps (.dat (en (t44.1 : (List Int)))), .ps (.dat (en (x7 : Int))), .ps (.dat (en (t45.1 : Int))), .ps (.dat (en (t46 : (List Int)))), .no, .no, .no, .no]) (s_t (α := Int) (l := t46) (v_ps rfl)) rfl (fun x47 r h => by replace h := ite_so h; rcases h with ⟨hc, h⟩ | ⟨hc, h⟩ <;> first | (cases h; exact ⟨_, true, _, rfl, tc (tst_ok (xq2 (.rd rfl (.rd rfl .nil)) rfl (lB (b_ne (α := Int) (x := (x47 : Int)) (y := (t45.1 : Int)) (by decide))))) hc, ⟨rfl, _, _, (v_ps rfl), (fun z => nomatch z), rfl⟩⟩) | (cases h; exact ⟨_, false, _, rfl, tc (tst_ok (xq2 (.rd rfl (.rd rfl .nil)) rfl (lB (b_ne (α := Int) (x := (x47 : Int)) (y := (t45.1 : Int)) (by decide))))) hc, ⟨rfl, rfl⟩⟩)) ht48 ht49) rfl .nil) rfl (k_tupL (α := Int) (l := t49))) rfl) (fun hc h => by replace h := ob h; obtain ⟨t50, ht50, h⟩ := h; replace h := Option.some.inj h; subst h; exact evS (xqb (.w (xqb (.v (xq2 (.rd rfl (.v (tup_ok (.v (v_ps rfl) .nil) (len_le (n := 1) rfl (by decide))) .nil)) rfl (a_cat (α := Int) (a := t46) (b := [t45.1]) ht50)) .nil) rfl (k_sortT (l := t50))) rfl .nil) rfl (k_tupL (α := Int) (l := (sortI t50)))) rfl)) (fun z => nomatch z) rfl (v_ps rfl) rfl ht52) ?_
      cases h
      exact Or.inl rfl
    refine q_ret (m_ow rfl) ?_
    cases h
    rfl
  · refine q_sif_f (tc (tst_ok (xq2 (.rd rfl (.v c_int .nil)) rfl (lB b_lt))) hc) ?_
    refine q_pass_k ?_
    replace h := ob h; obtain ⟨t54, ht54, h⟩ := h
    replace h := ob h; obtain ⟨t55, ht55, h⟩ := h
    replace h := ob h; obtain ⟨t72, ht72, h⟩ := h
    replace h := ob h; obtain ⟨t73, ht73, h⟩ := h
    refine q_seq (fz_ow (asgO (lc_go (Sh := fun (d64 : Deal) => [.io (dlU d64), .ps (.dat (en (market_ : (List (List Int))))), .ps (.dat (en (t1.1 : Int))), .no, .no, .no, .no, .no, .no, .no, .no, .no, .no]) (s_r1 (.v (call_dl (n := 1) (us := [.dat (en ((Ls.mk [(2 : Int), (3 : Int), (4 : Int)]) : (Ls Int)))]) (.rd rfl (.w (lst_ok (.v c_int (.v c_int (.v c_int .nil))) (len_le (n := 3) rfl (by decide))) rfl .nil)) rfl rfl rfl rfl (sim__law_of _ _ _ ht54)) .nil) rfl ht55) rfl (fun d64 x56 r a h => by replace h := ob h; obtain ⟨t65, ht65, h⟩ := h; replace h := ob h; obtain ⟨t70, ht70, h⟩ := h; replace h := ob h; obtain ⟨t71, ht71, h⟩ := h; cases h; exact ⟨_, true, _, rfl, rfl, ⟨rfl, _, _, (xqb (.w (lc_go (Sh := fun (d68 : Deal) => [.io (dlU d68), .ps (.dat (en (market_ : (List (List Int))))), .ps (.dat (en (t1.1 : Int))), .no, .no, .no, .no, .no, .no, .ps (.dat (en (x56 : Int))), .no, .no, .no]) (s_r1 (.v (xqb (.rd rfl .nil) rfl (k_lenT (α := (List Int)) (l := market_))) .nil) rfl ht65) rfl (fun d68 x66 r a h => by replace h := ob h; obtain ⟨t69, ht69, h⟩ := h; replace h := ite_so h; rcases h with ⟨hc, h⟩ | ⟨hc, h⟩ <;> first | (cases h; exact ⟨_, true, _, rfl, tc (tst_ok (xq2 (.v (call_dl (n := 1) (us := [.dat (en ((2 : Int) : Int))]) (.rd rfl (.v c_int .nil)) rfl rfl rfl rfl (sim_any _ _ _ ht69)) (.v c_int .nil)) rfl (lB (b_eq (α := Int) (x := (t69.1 : Int)) (y := ((0 : Int) : Int)) (by decide))))) hc, ⟨rfl, _, _, (v_ps rfl), (fun z => nomatch z), rfl⟩⟩) | (cases h; exact ⟨_, false, _, rfl, tc (tst_ok (xq2 (.v (call_dl (n := 1) (us := [.dat (en ((2 : Int) : Int))]) (.rd rfl (.v c_int .nil)) rfl rfl rfl rfl (sim_any _ _ _ ht69)) (.v c_int .nil)) rfl (lB (b_eq (α := Int) (x := (t69.1 : Int)) (y := ((0 : Int) : Int)) (by decide))))) hc, ⟨rfl, rfl⟩⟩)) ht70 ht71) rfl .nil) rfl (k_tupL (α := Int) (l := t71.1))), (fun z => nomatch z), rfl⟩⟩) ht72 ht73) rfl) rfl rfl) ?_
    refine q_seq (asgO (xqb (.w (lst_ok .nil (len_le (n := 0) rfl (by decide))) rfl .nil) rfl k_dict0) rfl) ?_
    replace h := ob h; obtain ⟨t74, ht74, h⟩ := h
    replace h := ob h; obtain ⟨t118, ht118, h⟩ := h
    refine q_seq (for_eq (s_l (α := (List Int)) (l := t74) (call_no (n := 1) (us := [.dat (en (market_ : (List (List Int))))]) (.v (v_ps rfl) .nil) rfl rfl (sim__law_profiles _ _ ht74))) (forL_sim (Sh := fun (a104 : (Deal × (List ((List Int) × (List Int))))) => [.io (dlU a104.1), .ps (.dat (en (market_ : (List (List Int))))), .ps (.dat (en (t1.1 : Int))), .ps (.dat (en ((Ls.mk t73.1) : (Ls (List Int))))), .ow (.dic (dcD a104.2)), .no, .no, .no, .no, .no, .no, .no, .no]) (fun a104 x75 a' h => ?_) _ (t73.2, ([] : (List ((List Int) × (List Int))))) _ ht118)) ?_
    · refine ⟨_, rfl, ?_⟩
      refine q_fg ?_
      replace h := ite_so h; rcases h with ⟨hc, h⟩ | ⟨hc, h⟩
      · refine q_if_t (tc (tst_ok (xq2 (.rd rfl (.v c_int .nil)) rfl (lB (b_eq (α := Int) (x := (t1.1 : Int)) (y := ((4 : Int) : Int)) (by decide))))) hc) ?_
        refine q_fg ?_
        replace h := ob h; obtain ⟨t110, ht110, h⟩ := h
        replace h := ob h; obtain ⟨t111, ht111, h⟩ := h
        refine q_seq (fz_ow (asgO (lc_goP (S0 := [.io (dlU a104.1), .ps (.dat (en (market_ : (List (List Int))))), .ps (.dat (en (t1.1 : Int))), .ps (.dat (en ((Ls.mk t73.1) : (Ls (List Int))))), .ow (.dic (dcD a104.2)), .ps (.dat (en (x75 : (List Int)))), .no, .no, .no, .no, .no, .no, .no]) (s_l (α := (List Int)) (l := t73.1) (v_ps rfl)) rfl (fun x105 r h => by replace h := ob h; obtain ⟨t108, ht108, h⟩ := h; replace h := ob h; obtain ⟨t109, ht109, h⟩ := h; cases h; exact ⟨_, true, _, rfl, rfl, ⟨rfl, _, _, (xqb (.w (lc_goP (S0 := [.io (dlU a104.1), .ps (.dat (en (market_ : (List (List Int))))), .ps (.dat (en (t1.1 : Int))), .ps (.dat (en ((Ls.mk t73.1) : (Ls (List Int))))), .ow (.dic (dcD a104.2)), .ps (.dat (en (x75 : (List Int)))), .no, .no, .ps (.dat (en (x105 : (List Int)))), .no, .no, .no, .no]) (s_t (α := Int) (l := x105) (v_ps rfl)) rfl (fun x106 r h => by replace h := ob h; obtain ⟨t107, ht107, h⟩ := h; cases h; exact ⟨_, true, _, rfl, rfl, ⟨rfl, _, _, (xq2 (.rd rfl (.rd rfl .nil)) rfl (ix_t (α := Int) (l := x75) ht107)), (fun z => nomatch z), rfl⟩⟩) ht108 ht109) rfl .nil) rfl k_sum), (fun z => nomatch z), rfl⟩⟩) ht110 ht111) rfl) rfl rfl) ?_
        replace h := ob h; obtain ⟨t112, ht112, h⟩ := h
        replace h := ob h; obtain ⟨t113, ht113, h⟩ := h
        replace h := ob h; obtain ⟨t114, ht114, h⟩ := h
        replace h := ob h; obtain ⟨t115, ht115, h⟩ := h
        refine q_end (setX_ok (x := t114) (k := x75) (xq2 (.rd rfl (.v (idxL_ok (α := Int) (l := t111) (v := t112) rfl rfl (.rd rfl .nil) rfl (.v (xqb (.rd rfl .nil) rfl (k_max ht112)) .nil) rfl rfl (by decide) ht113) .nil)) rfl (ix_l (α := (List Int)) (l := t73.1) ht114)) (fun z => nomatch z) rfl (v_ps rfl) rfl ht115) ?_
        cases h
        exact Or.inl rfl
      · refine q_if_f (tc (tst_ok (xq2 (.rd rfl (.v c_int .nil)) rfl (lB (b_eq (α := Int) (x := (t1.1 : Int)) (y := ((4 : Int) : Int)) (by decide))))) hc) ?_
        replace h := ob h; obtain ⟨t116, ht116, h⟩ := h
        replace h := ob h; obtain ⟨t117, ht117, h⟩ := h
        refine q_end (setX_ok (x := t116.1) (k := x75) (call_dl (n := 1) (us := [.dat (en ((Ls.mk t73.1) : (Ls (List Int))))]) (.rd rfl (.v (v_ps rfl) .nil)) rfl rfl rfl rfl (sim__law_of _ _ _ ht116)) (fun z => nomatch z) rfl (v_ps rfl) rfl ht117) ?_
        cases h
        exact Or.inl rfl
    refine q_ret (m_ow rfl) ?_
    cases h
    rfl
/-! _law_rule -/
noncomputable def F__law_rule (market_ : (List (List Int))) (lots_ : (List ((List Int) × (List Int)))) : Option ((List (List Int)) × (List (List Int))) := (F__law_profiles market_).bind fun t1 => (lcP (fun (x2 : (List Int)) => ((aGet lots_ x2).bind fun t3 => some (some t3) : Option (Option (List Int)))) t1).bind fun t4 => (lenP t4).bind fun t5 => some (market_, t5)
theorem sim__law_rule (market_ : (List (List Int))) (lots_ : (List ((List Int) × (List Int)))) (r : ((List (List Int)) × (List (List Int)))) (h : F__law_rule market_ lots_ = some r) : f__law_rule [.dat (en (market_ : (List (List Int)))), .dic (dcD lots_)] = .ret false (.dat (en (r : ((List (List Int)) × (List (List Int)))))) [.no, .no] := by
  unfold F__law_rule at h
  show Go (fun rs => bodyR [false, false] rs = .ret false (.dat (en (r : ((List (List Int)) × (List (List Int)))))) [.no, .no]) (s__law_rule [.ps (.dat (en (market_ : (List (List Int))))), .ps (.dic (dcD lots_)), .no])
  replace h := ob h; obtain ⟨t1, ht1, h⟩ := h
  replace h := ob h; obtain ⟨t4, ht4, h⟩ := h
  replace h := ob h; obtain ⟨t5, ht5, h⟩ := h
  refine q_ret (tup_ok (.v (v_ps rfl) (.v (xqb (.w (lc_goP (S0 := [.ps (.dat (en (market_ : (List (List Int))))), .ps (.dic (dcD lots_)), .no]) (s_l (α := (List Int)) (l := t1) (call_no (n := 1) (us := [.dat (en (market_ : (List (List Int))))]) (.v (v_ps rfl) .nil) rfl rfl (sim__law_profiles _ _ ht1))) rfl (fun x2 r h => by replace h := ob h; obtain ⟨t3, ht3, h⟩ := h; cases h; exact ⟨_, true, _, rfl, rfl, ⟨rfl, _, _, (xq2 (.rd rfl (.rd rfl .nil)) rfl (ix_x ht3)), (fun z => nomatch z), rfl⟩⟩) ht4 ht5) rfl .nil) rfl (k_tupL (α := (List Int)) (l := t5))) .nil)) (len_le (n := 2) rfl (by decide))) ?_
  cases h
  rfl
/-! _law_profiles -/
noncomputable def F__law_profiles_1 (market_ : (List (List (Option Int)))) : Option (List (List (Option Int))) := (loopO (fun (a44 : (List (List (Option Int)))) (x1 : (List (Option Int))) => ((loopO (fun (a58 : (List (List (Option Int)))) (x45 : (List (Option Int))) => ((lcP (fun (x59 : (Option Int)) => ((catO x45 [x59]).bind fun t60 => some (some t60) : Option (Option (List (Option Int))))) x1).bind fun t61 => (lenP t61).bind fun t62 => (catO a58 t62).bind fun t63 => some t63 : Option (List (List (Option Int))))) ([] : (List (List (Option Int)))) a44).bind fun t64 => some t64 : Option (List (List (Option Int))))) [[]] market_).bind fun t65 => some t65
theorem sim__law_profiles_1 (market_ : (List (List (Option Int)))) (r : (List (List (Option Int)))) (h : F__law_profiles_1 market_ = some r) : f__law_profiles [.dat (en (market_ : (List (List (Option Int)))))] = .ret false (.dat (en ((Ls.mk r) : (Ls (List (Option Int)))))) [.no] := by
  unfold F__law_profiles_1 at h
  show Go (fun rs => bodyR [false] rs = .ret false (.dat (en ((Ls.mk r) : (Ls (List (Option Int)))))) [.no]) (s__law_profiles [.ps (.dat (en (market_ : (List (List (Option Int)))))), .no, .no, .no, .no, .no])
  refine q_seq (fz_ow (asgO (lst_ok (.v (tup_ok .nil (len_le (n := 0) rfl (by decide))) .nil) (len_le (n := 1) rfl (by decide))) rfl) rfl rfl) ?_
  replace h := ob h; obtain ⟨t65, ht65, h⟩ := h
  refine q_seq (forO_t rfl (forL_sim (Sh := fun (a44 : (List (List (Option Int)))) => [.ps (.dat (en (market_ : (List (List (Option Int)))))), .ps (.dat (en ((Ls.mk a44) : (Ls (List (Option Int)))))), .no, .no, .no, .no]) (fun a44 x1 a' h => ?_) _ [[]] _ ht65)) ?_
  · refine ⟨_, rfl, ?_⟩
    refine q_fg ?_
    refine q_seq (fz_ow (asgO (lst_ok .nil (len_le (n := 0) rfl (by decide))) rfl) rfl rfl) ?_
    replace h := ob h; obtain ⟨t64, ht64, h⟩ := h
    refine q_seq (forO_l rfl (forL_sim (Sh := fun (a58 : (List (List (Option Int)))) => [.ps (.dat (en (market_ : (List (List (Option Int)))))), .ps (.dat (en ((Ls.mk a44) : (Ls (List (Option Int)))))), .ps (.dat (en (x1 : (List (Option Int))))), .ps (.dat (en ((Ls.mk a58) : (Ls (List (Option Int)))))), .no, .no]) (fun a58 x45 a' h => ?_) _ ([] : (List (List (Option Int)))) _ ht64)) ?_
    · refine ⟨_, rfl, ?_⟩
      refine q_fg ?_
      replace h := ob h; obtain ⟨t61, ht61, h⟩ := h
      replace h := ob h; obtain ⟨t62, ht62, h⟩ := h
      replace h := ob h; obtain ⟨t63, ht63, h⟩ := h
      refine q_end (fz_ow (asgO (xq2 (.rd rfl (.w (lc_goP (S0 := [.ps (.dat (en (market_ : (List (List (Option Int)))))), .ps (.dat (en ((Ls.mk a44) : (Ls (List (Option Int)))))), .ps (.dat (en (x1 : (List (Option Int))))), .ps (.dat (en ((Ls.mk a58) : (Ls (List (Option Int)))))), .ps (.dat (en (x45 : (List (Option Int))))), .no]) (s_t (α := (Option Int)) (l := x1) (v_ps rfl)) rfl (fun x59 r h => by replace h := ob h; obtain ⟨t60, ht60, h⟩ := h; cases h; exact ⟨_, true, _, rfl, rfl, ⟨rfl, _, _, (xq2 (.rd rfl (.v (tup_ok (.v (v_ps rfl) .nil) (len_le (n := 1) rfl (by decide))) .nil)) rfl (a_cat (α := (Option Int)) (a := x45) (b := [x59]) ht60)), (fun z => nomatch z), rfl⟩⟩) ht61 ht62) rfl .nil)) rfl (a_catL (α := (List (Option Int))) (a := a58) (b := t62) ht63)) rfl) rfl rfl) ?_
      cases h
      exact Or.inl rfl
    refine q_end (fz_ps (asg (v_ps rfl) rfl) rfl) ?_
    cases h
    exact Or.inl rfl
  refine q_ret (frz0 (m_ps rfl)) ?_
  cases h
  rfl
/-! profiles -/
noncomputable def F_profiles (market_ : (List (List (Option Int)))) : Option (List (List (Option Int))) := (loopO (fun (a14 : (List (List (Option Int)))) (x1 : (List (Option Int))) => ((lcQ (fun (x15 : (List (Option Int))) => (lcP (fun (x16 : (Option Int)) => ((lineO (x15 ++ [x16])).bind fun t17 => some (some t17) : Option (Option (List (Option Int))))) x1 : Option (List (List (Option Int))))) a14).bind fun t18 => (lenP t18).bind fun t19 => some t19 : Option (List (List (Option Int))))) [[]] market_).bind fun t20 => some t20
theorem sim_profiles (market_ : (List (List (Option Int)))) (r : (List (List (Option Int)))) (h : F_profiles market_ = some r) : f_profiles [.dat (en ((Ls.mk market_) : (Ls (List (Option Int)))))] = .ret false (.dat (en (r : (List (List (Option Int)))))) [.no] := by
  unfold F_profiles at h
  show Go (fun rs => bodyR [false] rs = .ret false (.dat (en (r : (List (List (Option Int)))))) [.no]) (s_profiles [.ps (.dat (en ((Ls.mk market_) : (Ls (List (Option Int)))))), .no, .no, .no, .no])
  refine q_seq (fz_ow (asgO (lst_ok (.v (tup_ok .nil (len_le (n := 0) rfl (by decide))) .nil) (len_le (n := 1) rfl (by decide))) rfl) rfl rfl) ?_
  replace h := ob h; obtain ⟨t20, ht20, h⟩ := h
  refine q_seq (forO_l rfl (forL_sim (Sh := fun (a14 : (List (List (Option Int)))) => [.ps (.dat (en ((Ls.mk market_) : (Ls (List (Option Int)))))), .ps (.dat (en ((Ls.mk a14) : (Ls (List (Option Int)))))), .no, .no, .no]) (fun a14 x1 a' h => ?_) _ [[]] _ ht20)) ?_
  · refine ⟨_, rfl, ?_⟩
    refine q_fg ?_
    replace h := ob h; obtain ⟨t18, ht18, h⟩ := h
    replace h := ob h; obtain ⟨t19, ht19, h⟩ := h
    refine q_end (fz_ow (asgO (lc2_goP (S0 := [.ps (.dat (en ((Ls.mk market_) : (Ls (List (Option Int)))))), .ps (.dat (en ((Ls.mk a14) : (Ls (List (Option Int)))))), .ps (.dat (en (x1 : (List (Option Int))))), .no, .no]) (s_l (α := (List (Option Int))) (l := a14) (v_ps rfl)) rfl (fun x15 r h => by exact ⟨_, _, _, rfl, (s_t (α := (Option Int)) (l := x1) (v_ps rfl)), lc_inP (S01 := [.ps (.dat (en ((Ls.mk market_) : (Ls (List (Option Int)))))), .ps (.dat (en ((Ls.mk a14) : (Ls (List (Option Int)))))), .ps (.dat (en (x1 : (List (Option Int))))), .ps (.dat (en (x15 : (List (Option Int))))), .no]) (fun x16 r h => by replace h := ob h; obtain ⟨t17, ht17, h⟩ := h; cases h; exact ⟨_, true, _, rfl, rfl, ⟨rfl, _, _, (tup_s ht17 (.s (v_ps rfl) (.v (v_ps rfl) .nil)) (by simp)), (fun z => nomatch z), rfl⟩⟩) rfl rfl (by decide) h⟩) ht18 ht19) rfl) rfl rfl) ?_
    cases h
    exact Or.inl rfl
  refine q_ret (xqb (.rd rfl .nil) rfl (k_tupL (α := (List (Option Int))) (l := t20))) ?_
  cases h
  rfl
/-! others_of -/
noncomputable def F_others_of (market_ : (List (List Int))) (buyer_ : Int) : Option (List (List (Option Int))) := (lcP (fun (x1 : (Pw Int (List Int))) => (some (some (if (decide ((x1.1 : Int) = (buyer_ : Int))) = true then ([()].map (fun z => (none : (Option Int)))) else (x1.2.map (fun z => (some z))))) : Option (Option (List (Option Int))))) (enumW market_)).bind fun t2 => (lenP t2).bind fun t3 => (F_profiles t3).bind fun t4 => some t4
theorem sim_others_of (market_ : (List (List Int))) (buyer_ : Int) (r : (List (List (Option Int)))) (h : F_others_of market_ buyer_ = some r) : f_others_of [.dat (en (market_ : (List (List Int)))), .dat (en (buyer_ : Int))] = .ret false (.dat (en (r : (List (List (Option Int)))))) [.no, .no] := by
  unfold F_others_of at h
  show Go (fun rs => bodyR [false, false] rs = .ret false (.dat (en (r : (List (List (Option Int)))))) [.no, .no]) (s_others_of [.ps (.dat (en (market_ : (List (List Int))))), .ps (.dat (en (buyer_ : Int))), .no, .no])
  replace h := ob h; obtain ⟨t2, ht2, h⟩ := h
  replace h := ob h; obtain ⟨t3, ht3, h⟩ := h
  replace h := ob h; obtain ⟨t4, ht4, h⟩ := h
  refine q_ret (frz0 (call_no (n := 1) (us := [.dat (en ((Ls.mk t3) : (Ls (List (Option Int)))))]) (.w (lc_goP (S0 := [.ps (.dat (en (market_ : (List (List Int))))), .ps (.dat (en (buyer_ : Int))), .no, .no]) (s_en (s_t (α := (List Int)) (l := market_) (v_ps rfl))) rfl (fun x1 r h => by cases h; exact ⟨_, true, _, rfl, rfl, ⟨rfl, _, _, (i_p (x := ([()].map (fun z => (none : (Option Int))))) (y := (x1.2.map (fun z => (some z)))) (tst_ok (xq2 (.rd rfl (.rd rfl .nil)) rfl (lB (b_eq (α := Int) (x := (x1.1 : Int)) (y := (buyer_ : Int)) (by decide))))) (fun _ => (evc (tup_ok (.v c_non .nil) (len_le (n := 1) rfl (by decide))) ((coe_map (h := fun (z : Unit) => ((none : (Option Int)) : (Option Int))) (fun z => rfl) [()]).symm))) (fun _ => (frz0 (evc (v_ps rfl) ((coe_map (h := fun (z : Int) => ((some z) : (Option Int))) (fun z => rfl) x1.2).symm))))), (fun z => nomatch z), rfl⟩⟩) ht2 ht3) rfl .nil) rfl rfl (sim_profiles _ _ ht4))) ?_
  cases h
  rfl
/-! with_level -/
noncomputable def F_with_level (others_ : (List (Option Int))) (buyer_ : Int) (level_ : Int) : Option (List (Option Int)) := (catO (cut others_ none (some buyer_)) ([level_].map (fun z => (some z)))).bind fun t1 => (catO t1 (cut others_ (some (buyer_ + (1 : Int))) none)).bind fun t2 => some t2
theorem sim_with_level (others_ : (List (Option Int))) (buyer_ : Int) (level_ : Int) (r : (List (Option Int))) (h : F_with_level others_ buyer_ level_ = some r) : f_with_level [.dat (en (others_ : (List (Option Int)))), .dat (en (buyer_ : Int)), .dat (en (level_ : Int))] = .ret false (.dat (en (r : (List (Option Int))))) [.no, .no, .no] := by
  unfold F_with_level at h
  show Go (fun rs => bodyR [false, false, false] rs = .ret false (.dat (en (r : (List (Option Int))))) [.no, .no, .no]) (s_with_level [.ps (.dat (en (others_ : (List (Option Int))))), .ps (.dat (en (buyer_ : Int))), .ps (.dat (en (level_ : Int)))])
  replace h := ob h; obtain ⟨t1, ht1, h⟩ := h
  replace h := ob h; obtain ⟨t2, ht2, h⟩ := h
  refine q_ret (frz0 (xq2 (.v (xq2 (.v (xqb (.rd rfl (.rd rfl .nil)) rfl (sl01 (sl_t (α := (Option Int)) (l := others_)))) (.v (tup_ok (.v (v_ps rfl) .nil) (len_le (n := 1) rfl (by decide))) .nil)) rfl (u2c rfl ((coe_map (h := fun (z : Int) => ((some z) : (Option Int))) (fun z => rfl) [level_])).symm (a_cat (α := (Option Int)) (a := (cut others_ none (some buyer_))) (b := ([level_].map (fun z => (some z)))) ht1))) (.v (xqb (.rd rfl (.v (xq2 (.rd rfl (.v c_int .nil)) rfl a_add) .nil)) rfl (sl10 (sl_t (α := (Option Int)) (l := others_)))) .nil)) rfl (a_cat (α := (Option Int)) (a := t1) (b := (cut others_ (some (buyer_ + (1 : Int))) none)) ht2))) ?_
  cases h
  rfl
/-! place_of -/
noncomputable def F_place_of (market_ : (List (List Int))) (profile_ : (List (Option Int))) : Option Int := (loopO (fun (a8 : Int) (x1 : (Pw (Option Int) (List Int))) => ((mulO a8 (x1.2.length : Int)).bind fun t9 => (idxO (x1.2.map (fun z => (some z))) x1.1).bind fun t10 => some (t9 + t10) : Option Int)) (0 : Int) (zipW profile_ market_)).bind fun t11 => some t11
theorem sim_place_of (market_ : (List (List Int))) (profile_ : (List (Option Int))) (r : Int) (h : F_place_of market_ profile_ = some r) : f_place_of [.dat (en (market_ : (List (List Int)))), .dat (en (profile_ : (List (Option Int))))] = .ret false (.dat (en (r : Int))) [.no, .no] := by
  unfold F_place_of at h
  show Go (fun rs => bodyR [false, false] rs = .ret false (.dat (en (r : Int))) [.no, .no]) (s_place_of [.ps (.dat (en (market_ : (List (List Int))))), .ps (.dat (en (profile_ : (List (Option Int))))), .no, .no, .no])
  refine q_seq (asg c_int rfl) ?_
  replace h := ob h; obtain ⟨t11, ht11, h⟩ := h
  refine q_seq (for_eq (s_zt (.v (v_ps rfl) (.v (v_ps rfl) .nil))) (forL_sim (Sh := fun (a8 : Int) => [.ps (.dat (en (market_ : (List (List Int))))), .ps (.dat (en (profile_ : (List (Option Int))))), .ps (.dat (en (a8 : Int))), .no, .no]) (fun a8 x1 a' h => ?_) _ (0 : Int) _ ht11)) ?_
  · refine ⟨_, rfl, ?_⟩
    refine q_fg ?_
    replace h := ob h; obtain ⟨t9, ht9, h⟩ := h
    replace h := ob h; obtain ⟨t10, ht10, h⟩ := h
    refine q_end (fz_ps (asg (xq2 (.v (xq2 (.rd rfl (.v (xqb (.rd rfl .nil) rfl (k_lenT (α := Int) (l := x1.2))) .nil)) rfl (a_mul ht9)) (.v (idxT_ok (α := (Option Int)) (l := (x1.2.map (fun z => (some z)))) (v := x1.1) (coe_map (h := fun (z : Int) => ((some z) : (Option Int))) (fun z => rfl) x1.2) rfl (.rd rfl .nil) rfl (.rd rfl .nil) rfl rfl (by decide) ht10) .nil)) rfl a_add) rfl) rfl) ?_
    cases h
    exact Or.inl rfl
  refine q_ret (frz0 (m_ps rfl)) ?_
  cases h
  rfl
/-! lot_at -/
noncomputable def F_lot_at (rule_ : ((List (List Int)) × (List (List Int)))) (profile_ : (List (Option Int))) : Option (List Int) := (F_place_of rule_.1 profile_).bind fun t1 => (atI rule_.2 t1).bind fun t2 => some t2
theorem sim_lot_at (rule_ : ((List (List Int)) × (List (List Int)))) (profile_ : (List (Option Int))) (r : (List Int)) (h : F_lot_at rule_ profile_ = some r) : f_lot_at [.dat (en (rule_ : ((List (List Int)) × (List (List Int))))), .dat (en (profile_ : (List (Option Int))))] = .ret false (.dat (en (r : (List Int)))) [.no, .no] := by
  unfold F_lot_at at h
  show Go (fun rs => bodyR [false, false] rs = .ret false (.dat (en (r : (List Int)))) [.no, .no]) (s_lot_at [.ps (.dat (en (rule_ : ((List (List Int)) × (List (List Int)))))), .ps (.dat (en (profile_ : (List (Option Int)))))])
  replace h := ob h; obtain ⟨t1, ht1, h⟩ := h
  replace h := ob h; obtain ⟨t2, ht2, h⟩ := h
  refine q_ret (xq2 (.v (xq2 (.rd rfl (.v c_int .nil)) rfl (ix_c rfl)) (.v (call_no (n := 2) (us := [.dat (en (rule_.1 : (List (List Int)))), .dat (en (profile_ : (List (Option Int))))]) (.v (xq2 (.rd rfl (.v c_int .nil)) rfl (ix_c rfl)) (.v (v_ps rfl) .nil)) rfl rfl (sim_place_of _ _ _ ht1)) .nil)) rfl (ix_t (α := (List Int)) (l := rule_.2) ht2)) ?_
  cases h
  rfl
/-! wins -/
noncomputable def F_wins (rule_ : ((List (List Int)) × (List (List Int)))) (profile_ : (List (Option Int))) (buyer_ : Int) : Option Bool := (F_lot_at rule_ profile_).bind fun t1 => some (decide ((buyer_ : Int) ∈ (t1 : (List Int))))
theorem sim_wins (rule_ : ((List (List Int)) × (List (List Int)))) (profile_ : (List (Option Int))) (buyer_ : Int) (r : Bool) (h : F_wins rule_ profile_ buyer_ = some r) : f_wins [.dat (en (rule_ : ((List (List Int)) × (List (List Int))))), .dat (en (profile_ : (List (Option Int)))), .dat (en (buyer_ : Int))] = .ret false (.dat (en (r : Bool))) [.no, .no, .no] := by
  unfold F_wins at h
  show Go (fun rs => bodyR [false, false, false] rs = .ret false (.dat (en (r : Bool))) [.no, .no, .no]) (s_wins [.ps (.dat (en (rule_ : ((List (List Int)) × (List (List Int)))))), .ps (.dat (en (profile_ : (List (Option Int))))), .ps (.dat (en (buyer_ : Int)))])
  replace h := ob h; obtain ⟨t1, ht1, h⟩ := h
  refine q_ret (xq2 (.rd rfl (.v (call_no (n := 2) (us := [.dat (en (rule_ : ((List (List Int)) × (List (List Int))))), .dat (en (profile_ : (List (Option Int))))]) (.v (v_ps rfl) (.v (v_ps rfl) .nil)) rfl rfl (sim_lot_at _ _ _ ht1)) .nil)) rfl (lB (b_inT (α := Int) (x := buyer_) (l := t1)))) ?_
  cases h
  rfl
/-! least_winning -/
noncomputable def F_least_winning (rule_ : ((List (List Int)) × (List (List Int)))) (buyer_ : Int) (others_ : (List (Option Int))) : Option (Option Int) := (atI rule_.1 buyer_).bind fun t1 => ctlO (loopC (ρ := (Option Int)) (fun (a6 : Unit) (x2 : Int) => ((F_with_level others_ buyer_ x2).bind fun t7 => (F_wins rule_ t7 buyer_).bind fun t8 => if t8 = true then some (.rt (some x2)) else some (.nx ()) : Option (Ctl Unit (Option Int)))) () t1) (fun t9 => some (none : (Option Int))) (fun r10 => some r10)
theorem sim_least_winning (rule_ : ((List (List Int)) × (List (List Int)))) (buyer_ : Int) (others_ : (List (Option Int))) (r : (Option Int)) (h : F_least_winning rule_ buyer_ others_ = some r) : f_least_winning [.dat (en (rule_ : ((List (List Int)) × (List (List Int))))), .dat (en (buyer_ : Int)), .dat (en (others_ : (List (Option Int))))] = .ret false (.dat (en (r : (Option Int)))) [.no, .no, .no] := by
  unfold F_least_winning at h
  show Go (fun rs => bodyR [false, false, false] rs = .ret false (.dat (en (r : (Option Int)))) [.no, .no, .no]) (s_least_winning [.ps (.dat (en (rule_ : ((List (List Int)) × (List (List Int)))))), .ps (.dat (en (buyer_ : Int))), .ps (.dat (en (others_ : (List (Option Int))))), .no])
  replace h := ob h; obtain ⟨t1, ht1, h⟩ := h
  replace h := ctl_cases h; rcases h with ⟨t9, hl, h⟩ | ⟨r10, hl, h⟩
  · refine q_seq (for_eq (s_t (α := Int) (l := t1) (xq2 (.v (xq2 (.rd rfl (.v c_int .nil)) rfl (ix_c rfl)) (.rd rfl .nil)) rfl (ix_t (α := (List Int)) (l := rule_.1) ht1))) (forL_nx (Sh := fun (a6 : Unit) => [.ps (.dat (en (rule_ : ((List (List Int)) × (List (List Int)))))), .ps (.dat (en (buyer_ : Int))), .ps (.dat (en (others_ : (List (Option Int))))), .no]) (Rt := fun (r : (Option Int)) rs => RtG [false, false, false] false (.dat (en (r : (Option Int)))) [.no, .no, .no] rs) (a := ()) (fun a6 x2 c h => ?_) hl)) ?_
    · refine ⟨_, rfl, ?_⟩
      refine q_fg ?_
      replace h := ob h; obtain ⟨t7, ht7, h⟩ := h
      replace h := ob h; obtain ⟨t8, ht8, h⟩ := h
      replace h := ite_so h; rcases h with ⟨hc, h⟩ | ⟨hc, h⟩
      · refine q_if_t (tc (tst_ok (call_no (n := 3) (us := [.dat (en (rule_ : ((List (List Int)) × (List (List Int))))), .dat (en (t7 : (List (Option Int)))), .dat (en (buyer_ : Int))]) (.v (v_ps rfl) (.v (call_no (n := 3) (us := [.dat (en (others_ : (List (Option Int)))), .dat (en (buyer_ : Int)), .dat (en (x2 : Int))]) (.v (v_ps rfl) (.v (v_ps rfl) (.v (v_ps rfl) .nil))) rfl rfl (sim_with_level _ _ _ _ ht7)) (.v (v_ps rfl) .nil))) rfl rfl (sim_wins _ _ _ _ ht8))) hc) ?_
        refine q_ret (frz0 (m_ps rfl)) ?_
        cases h
        exact ⟨⟨_, _, _, rfl⟩, ⟨_, rfl, rfl⟩⟩
      · refine q_if_f (tc (tst_ok (call_no (n := 3) (us := [.dat (en (rule_ : ((List (List Int)) × (List (List Int))))), .dat (en (t7 : (List (Option Int)))), .dat (en (buyer_ : Int))]) (.v (v_ps rfl) (.v (call_no (n := 3) (us := [.dat (en (others_ : (List (Option Int)))), .dat (en (buyer_ : Int)), .dat (en (x2 : Int))]) (.v (v_ps rfl) (.v (v_ps rfl) (.v (v_ps rfl) .nil))) rfl rfl (sim_with_level _ _ _ _ ht7)) (.v (v_ps rfl) .nil))) rfl rfl (sim_wins _ _ _ _ ht8))) hc) ?_
        refine q_pass ?_
        cases h
        exact Or.inl rfl
    refine q_ret c_non ?_
    cases h
    rfl
  · refine q_srt_e (for_rtg (s_t (α := Int) (l := t1) (xq2 (.v (xq2 (.rd rfl (.v c_int .nil)) rfl (ix_c rfl)) (.rd rfl .nil)) rfl (ix_t (α := (List Int)) (l := rule_.1) ht1))) (forL_rt (Sh := fun (a6 : Unit) => [.ps (.dat (en (rule_ : ((List (List Int)) × (List (List Int)))))), .ps (.dat (en (buyer_ : Int))), .ps (.dat (en (others_ : (List (Option Int))))), .no]) (Rt := fun (r : (Option Int)) rs => RtG [false, false, false] false (.dat (en (r : (Option Int)))) [.no, .no, .no] rs) (a := ()) (fun a6 x2 c h => ?_) hl)) ?_
    · refine ⟨_, rfl, ?_⟩
      refine q_fg ?_
      replace h := ob h; obtain ⟨t7, ht7, h⟩ := h
      replace h := ob h; obtain ⟨t8, ht8, h⟩ := h
      replace h := ite_so h; rcases h with ⟨hc, h⟩ | ⟨hc, h⟩
      · refine q_if_t (tc (tst_ok (call_no (n := 3) (us := [.dat (en (rule_ : ((List (List Int)) × (List (List Int))))), .dat (en (t7 : (List (Option Int)))), .dat (en (buyer_ : Int))]) (.v (v_ps rfl) (.v (call_no (n := 3) (us := [.dat (en (others_ : (List (Option Int)))), .dat (en (buyer_ : Int)), .dat (en (x2 : Int))]) (.v (v_ps rfl) (.v (v_ps rfl) (.v (v_ps rfl) .nil))) rfl rfl (sim_with_level _ _ _ _ ht7)) (.v (v_ps rfl) .nil))) rfl rfl (sim_wins _ _ _ _ ht8))) hc) ?_
        refine q_ret (frz0 (m_ps rfl)) ?_
        cases h
        exact ⟨⟨_, _, _, rfl⟩, ⟨_, rfl, rfl⟩⟩
      · refine q_if_f (tc (tst_ok (call_no (n := 3) (us := [.dat (en (rule_ : ((List (List Int)) × (List (List Int))))), .dat (en (t7 : (List (Option Int)))), .dat (en (buyer_ : Int))]) (.v (v_ps rfl) (.v (call_no (n := 3) (us := [.dat (en (others_ : (List (Option Int)))), .dat (en (buyer_ : Int)), .dat (en (x2 : Int))]) (.v (v_ps rfl) (.v (v_ps rfl) (.v (v_ps rfl) .nil))) rfl rfl (sim_with_level _ _ _ _ ht7)) (.v (v_ps rfl) .nil))) rfl rfl (sim_wins _ _ _ _ ht8))) hc) ?_
        refine q_pass ?_
        cases h
        exact Or.inl rfl
    intro st m
    cases h
    exact RtG.body ⟨st, rfl, m⟩
/-! falling_pair -/
noncomputable def F_falling_pair (rule_ : ((List (List Int)) × (List (List Int)))) : Option (Option (T3 Int (List (Option Int)) (List (Option Int)))) := ctlO (loopC (ρ := (Option (T3 Int (List (Option Int)) (List (Option Int))))) (fun (a39 : Unit) (x1 : (Pw Int (List Int))) => ((F_others_of rule_.1 x1.1).bind fun t40 => ctlO (loopC (ρ := (Option (T3 Int (List (Option Int)) (List (Option Int))))) (fun (a58 : Unit) (x41 : (List (Option Int))) => (ctlO (loopC (ρ := (Option (T3 Int (List (Option Int)) (List (Option Int))))) (fun (a66 : Unit) (x59 : (Pw Int Int)) => ((F_with_level x41 x1.1 x59.1).bind fun t67 => (F_with_level x41 x1.1 x59.2).bind fun t68 => (F_wins rule_ t67 x1.1).bind fun t69 => (if t69 = true then (F_wins rule_ t68 x1.1).bind fun t70 => some (!t70) else some false).bind fun t71 => if t71 = true then some (.rt (some (T3.mk x1.1 t67 t68))) else some (.nx ()) : Option (Ctl Unit (Option (T3 Int (List (Option Int)) (List (Option Int))))))) () (zipW x1.2 (cut x1.2 (some (1 : Int)) none))) (fun t72 => some (.nx ())) (fun r73 => some (.rt r73)) : Option (Ctl Unit (Option (T3 Int (List (Option Int)) (List (Option Int))))))) () t40) (fun t74 => some (.nx ())) (fun r75 => some (.rt r75)) : Option (Ctl Unit (Option (T3 Int (List (Option Int)) (List (Option Int))))))) () (enumW rule_.1)) (fun t76 => some (none : (Option (T3 Int (List (Option Int)) (List (Option Int)))))) (fun r77 => some r77)
theorem sim_falling_pair (rule_ : ((List (List Int)) × (List (List Int)))) (r : (Option (T3 Int (List (Option Int)) (List (Option Int))))) (h : F_falling_pair rule_ = some r) : f_falling_pair [.dat (en (rule_ : ((List (List Int)) × (List (List Int)))))] = .ret false (.dat (en (r : (Option (T3 Int (List (Option Int)) (List (Option Int))))))) [.no] := by
  unfold F_falling_pair at h
  show Go (fun rs => bodyR [false] rs = .ret false (.dat (en (r : (Option (T3 Int (List (Option Int)) (List (Option Int))))))) [.no]) (s_falling_pair [.ps (.dat (en (rule_ : ((List (List Int)) × (List (List Int)))))), .no, .no, .no, .no, .no, .no, .no, .no])
  refine q_seq (asg (xq2 (.rd rfl (.v c_int .nil)) rfl (ix_c rfl)) rfl) ?_
  replace h := ctl_cases h; rcases h with ⟨t76, hl, h⟩ | ⟨r77, hl, h⟩
  · refine q_seq (for_eq (s_en (s_t (α := (List Int)) (l := rule_.1) (v_ps rfl))) (forL_nx (Sh := fun (a39 : Unit) => [.ps (.dat (en (rule_ : ((List (List Int)) × (List (List Int)))))), .ps (.dat (en (rule_.1 : (List (List Int))))), .no, .no, .no, .no, .no, .no, .no]) (Rt := fun (r : (Option (T3 Int (List (Option Int)) (List (Option Int))))) rs => RtG [false] false (.dat (en (r : (Option (T3 Int (List (Option Int)) (List (Option Int))))))) [.no] rs) (a := ()) (fun a39 x1 c h => ?_) hl)) ?_
    · refine ⟨_, rfl, ?_⟩
      refine q_fg ?_
      replace h := ob h; obtain ⟨t40, ht40, h⟩ := h
      replace h := ctl_cases h; rcases h with ⟨t74, hl, h⟩ | ⟨r75, hl, h⟩
      · refine q_end (for_eq (s_t (α := (List (Option Int))) (l := t40) (call_no (n := 2) (us := [.dat (en (rule_.1 : (List (List Int)))), .dat (en (x1.1 : Int))]) (.v (v_ps rfl) (.v (v_ps rfl) .nil)) rfl rfl (sim_others_of _ _ _ ht40))) (forL_nx (Sh := fun (a58 : Unit) => [.ps (.dat (en (rule_ : ((List (List Int)) × (List (List Int)))))), .ps (.dat (en (rule_.1 : (List (List Int))))), .ps (.dat (en (x1.1 : Int))), .ps (.dat (en (x1.2 : (List Int)))), .no, .no, .no, .no, .no]) (Rt := fun (r : (Option (T3 Int (List (Option Int)) (List (Option Int))))) rs => RtG [false] false (.dat (en (r : (Option (T3 Int (List (Option Int)) (List (Option Int))))))) [.no] rs) (a := ()) (fun a58 x41 c h => ?_) hl)) ?_
        · refine ⟨_, rfl, ?_⟩
          refine q_fg ?_
          replace h := ctl_cases h; rcases h with ⟨t72, hl, h⟩ | ⟨r73, hl, h⟩
          · refine q_end (for_eq (s_zt (.v (v_ps rfl) (.v (xqb (.rd rfl (.v c_int .nil)) rfl (sl10 (sl_t (α := Int) (l := x1.2)))) .nil))) (forL_nx (Sh := fun (a66 : Unit) => [.ps (.dat (en (rule_ : ((List (List Int)) × (List (List Int)))))), .ps (.dat (en (rule_.1 : (List (List Int))))), .ps (.dat (en (x1.1 : Int))), .ps (.dat (en (x1.2 : (List Int)))), .ps (.dat (en (x41 : (List (Option Int))))), .no, .no, .no, .no]) (Rt := fun (r : (Option (T3 Int (List (Option Int)) (List (Option Int))))) rs => RtG [false] false (.dat (en (r : (Option (T3 Int (List (Option Int)) (List (Option Int))))))) [.no] rs) (a := ()) (fun a66 x59 c h => ?_) hl)) ?_
            · refine ⟨_, rfl, ?_⟩
              refine q_fg ?_
              replace h := ob h; obtain ⟨t67, ht67, h⟩ := h
              replace h := ob h; obtain ⟨t68, ht68, h⟩ := h
              refine q_seq (fz_ps (fz_ps (par2 (call_no (n := 3) (us := [.dat (en (x41 : (List (Option Int)))), .dat (en (x1.1 : Int)), .dat (en (x59.1 : Int))]) (.v (v_ps rfl) (.v (v_ps rfl) (.v (v_ps rfl) .nil))) rfl rfl (sim_with_level _ _ _ _ ht67)) (call_no (n := 3) (us := [.dat (en (x41 : (List (Option Int)))), .dat (en (x1.1 : Int)), .dat (en (x59.2 : Int))]) (.v (v_ps rfl) (.v (v_ps rfl) (.v (v_ps rfl) .nil))) rfl rfl (sim_with_level _ _ _ _ ht68)) rfl) rfl) rfl) ?_
              replace h := ob h; obtain ⟨t69, ht69, h⟩ := h
              replace h := ob h; obtain ⟨t71, ht71, h⟩ := h
              replace h := ite_so h; rcases h with ⟨hc, h⟩ | ⟨hc, h⟩
              · refine q_if_t (tc (t_andb (R := .ok t71 [.ps (.dat (en (rule_ : ((List (List Int)) × (List (List Int)))))), .ps (.dat (en (rule_.1 : (List (List Int))))), .ps (.dat (en (x1.1 : Int))), .ps (.dat (en (x1.2 : (List Int)))), .ps (.dat (en (x41 : (List (Option Int))))), .ps (.dat (en (x59.1 : Int))), .ps (.dat (en (x59.2 : Int))), .ps (.dat (en (t67 : (List (Option Int))))), .ps (.dat (en (t68 : (List (Option Int)))))]) ht71 (tst_ok (call_no (n := 3) (us := [.dat (en (rule_ : ((List (List Int)) × (List (List Int))))), .dat (en (t67 : (List (Option Int)))), .dat (en (x1.1 : Int))]) (.v (v_ps rfl) (.v (v_ps rfl) (.v (v_ps rfl) .nil))) rfl rfl (sim_wins _ _ _ _ ht69))) (fun h => by replace h := ob h; obtain ⟨t70, ht70, h⟩ := h; replace h := Option.some.inj h; subst h; exact tvS (t_not (tst_ok (call_no (n := 3) (us := [.dat (en (rule_ : ((List (List Int)) × (List (List Int))))), .dat (en (t68 : (List (Option Int)))), .dat (en (x1.1 : Int))]) (.v (v_ps rfl) (.v (v_ps rfl) (.v (v_ps rfl) .nil))) rfl rfl (sim_wins _ _ _ _ ht70)))) rfl) (fun h => by cases h; rfl)) hc) ?_
                refine q_ret (tup_ok (.v (v_ps rfl) (.v (v_ps rfl) (.v (v_ps rfl) .nil))) (len_le (n := 3) rfl (by decide))) ?_
                cases h
                exact ⟨⟨_, _, _, rfl⟩, ⟨_, rfl, rfl⟩⟩
              · refine q_if_f (tc (t_andb (R := .ok t71 [.ps (.dat (en (rule_ : ((List (List Int)) × (List (List Int)))))), .ps (.dat (en (rule_.1 : (List (List Int))))), .ps (.dat (en (x1.1 : Int))), .ps (.dat (en (x1.2 : (List Int)))), .ps (.dat (en (x41 : (List (Option Int))))), .ps (.dat (en (x59.1 : Int))), .ps (.dat (en (x59.2 : Int))), .ps (.dat (en (t67 : (List (Option Int))))), .ps (.dat (en (t68 : (List (Option Int)))))]) ht71 (tst_ok (call_no (n := 3) (us := [.dat (en (rule_ : ((List (List Int)) × (List (List Int))))), .dat (en (t67 : (List (Option Int)))), .dat (en (x1.1 : Int))]) (.v (v_ps rfl) (.v (v_ps rfl) (.v (v_ps rfl) .nil))) rfl rfl (sim_wins _ _ _ _ ht69))) (fun h => by replace h := ob h; obtain ⟨t70, ht70, h⟩ := h; replace h := Option.some.inj h; subst h; exact tvS (t_not (tst_ok (call_no (n := 3) (us := [.dat (en (rule_ : ((List (List Int)) × (List (List Int))))), .dat (en (t68 : (List (Option Int)))), .dat (en (x1.1 : Int))]) (.v (v_ps rfl) (.v (v_ps rfl) (.v (v_ps rfl) .nil))) rfl rfl (sim_wins _ _ _ _ ht70)))) rfl) (fun h => by cases h; rfl)) hc) ?_
                refine q_pass ?_
                cases h
                exact Or.inl rfl
            cases h
            exact Or.inl rfl
          · refine q_to_e (for_rtg (s_zt (.v (v_ps rfl) (.v (xqb (.rd rfl (.v c_int .nil)) rfl (sl10 (sl_t (α := Int) (l := x1.2)))) .nil))) (forL_rt (Sh := fun (a66 : Unit) => [.ps (.dat (en (rule_ : ((List (List Int)) × (List (List Int)))))), .ps (.dat (en (rule_.1 : (List (List Int))))), .ps (.dat (en (x1.1 : Int))), .ps (.dat (en (x1.2 : (List Int)))), .ps (.dat (en (x41 : (List (Option Int))))), .no, .no, .no, .no]) (Rt := fun (r : (Option (T3 Int (List (Option Int)) (List (Option Int))))) rs => RtG [false] false (.dat (en (r : (Option (T3 Int (List (Option Int)) (List (Option Int))))))) [.no] rs) (a := ()) (fun a66 x59 c h => ?_) hl)) ?_
            · refine ⟨_, rfl, ?_⟩
              refine q_fg ?_
              replace h := ob h; obtain ⟨t67, ht67, h⟩ := h
              replace h := ob h; obtain ⟨t68, ht68, h⟩ := h
              refine q_seq (fz_ps (fz_ps (par2 (call_no (n := 3) (us := [.dat (en (x41 : (List (Option Int)))), .dat (en (x1.1 : Int)), .dat (en (x59.1 : Int))]) (.v (v_ps rfl) (.v (v_ps rfl) (.v (v_ps rfl) .nil))) rfl rfl (sim_with_level _ _ _ _ ht67)) (call_no (n := 3) (us := [.dat (en (x41 : (List (Option Int)))), .dat (en (x1.1 : Int)), .dat (en (x59.2 : Int))]) (.v (v_ps rfl) (.v (v_ps rfl) (.v (v_ps rfl) .nil))) rfl rfl (sim_with_level _ _ _ _ ht68)) rfl) rfl) rfl) ?_
              replace h := ob h; obtain ⟨t69, ht69, h⟩ := h
              replace h := ob h; obtain ⟨t71, ht71, h⟩ := h
              replace h := ite_so h; rcases h with ⟨hc, h⟩ | ⟨hc, h⟩
              · refine q_if_t (tc (t_andb (R := .ok t71 [.ps (.dat (en (rule_ : ((List (List Int)) × (List (List Int)))))), .ps (.dat (en (rule_.1 : (List (List Int))))), .ps (.dat (en (x1.1 : Int))), .ps (.dat (en (x1.2 : (List Int)))), .ps (.dat (en (x41 : (List (Option Int))))), .ps (.dat (en (x59.1 : Int))), .ps (.dat (en (x59.2 : Int))), .ps (.dat (en (t67 : (List (Option Int))))), .ps (.dat (en (t68 : (List (Option Int)))))]) ht71 (tst_ok (call_no (n := 3) (us := [.dat (en (rule_ : ((List (List Int)) × (List (List Int))))), .dat (en (t67 : (List (Option Int)))), .dat (en (x1.1 : Int))]) (.v (v_ps rfl) (.v (v_ps rfl) (.v (v_ps rfl) .nil))) rfl rfl (sim_wins _ _ _ _ ht69))) (fun h => by replace h := ob h; obtain ⟨t70, ht70, h⟩ := h; replace h := Option.some.inj h; subst h; exact tvS (t_not (tst_ok (call_no (n := 3) (us := [.dat (en (rule_ : ((List (List Int)) × (List (List Int))))), .dat (en (t68 : (List (Option Int)))), .dat (en (x1.1 : Int))]) (.v (v_ps rfl) (.v (v_ps rfl) (.v (v_ps rfl) .nil))) rfl rfl (sim_wins _ _ _ _ ht70)))) rfl) (fun h => by cases h; rfl)) hc) ?_
                refine q_ret (tup_ok (.v (v_ps rfl) (.v (v_ps rfl) (.v (v_ps rfl) .nil))) (len_le (n := 3) rfl (by decide))) ?_
                cases h
                exact ⟨⟨_, _, _, rfl⟩, ⟨_, rfl, rfl⟩⟩
              · refine q_if_f (tc (t_andb (R := .ok t71 [.ps (.dat (en (rule_ : ((List (List Int)) × (List (List Int)))))), .ps (.dat (en (rule_.1 : (List (List Int))))), .ps (.dat (en (x1.1 : Int))), .ps (.dat (en (x1.2 : (List Int)))), .ps (.dat (en (x41 : (List (Option Int))))), .ps (.dat (en (x59.1 : Int))), .ps (.dat (en (x59.2 : Int))), .ps (.dat (en (t67 : (List (Option Int))))), .ps (.dat (en (t68 : (List (Option Int)))))]) ht71 (tst_ok (call_no (n := 3) (us := [.dat (en (rule_ : ((List (List Int)) × (List (List Int))))), .dat (en (t67 : (List (Option Int)))), .dat (en (x1.1 : Int))]) (.v (v_ps rfl) (.v (v_ps rfl) (.v (v_ps rfl) .nil))) rfl rfl (sim_wins _ _ _ _ ht69))) (fun h => by replace h := ob h; obtain ⟨t70, ht70, h⟩ := h; replace h := Option.some.inj h; subst h; exact tvS (t_not (tst_ok (call_no (n := 3) (us := [.dat (en (rule_ : ((List (List Int)) × (List (List Int))))), .dat (en (t68 : (List (Option Int)))), .dat (en (x1.1 : Int))]) (.v (v_ps rfl) (.v (v_ps rfl) (.v (v_ps rfl) .nil))) rfl rfl (sim_wins _ _ _ _ ht70)))) rfl) (fun h => by cases h; rfl)) hc) ?_
                refine q_pass ?_
                cases h
                exact Or.inl rfl
            intro st m
            cases h
            exact ⟨⟨_, _, _, rfl⟩, ⟨st, rfl, m⟩⟩
        cases h
        exact Or.inl rfl
      · refine q_to_e (for_rtg (s_t (α := (List (Option Int))) (l := t40) (call_no (n := 2) (us := [.dat (en (rule_.1 : (List (List Int)))), .dat (en (x1.1 : Int))]) (.v (v_ps rfl) (.v (v_ps rfl) .nil)) rfl rfl (sim_others_of _ _ _ ht40))) (forL_rt (Sh := fun (a58 : Unit) => [.ps (.dat (en (rule_ : ((List (List Int)) × (List (List Int)))))), .ps (.dat (en (rule_.1 : (List (List Int))))), .ps (.dat (en (x1.1 : Int))), .ps (.dat (en (x1.2 : (List Int)))), .no, .no, .no, .no, .no]) (Rt := fun (r : (Option (T3 Int (List (Option Int)) (List (Option Int))))) rs => RtG [false] false (.dat (en (r : (Option (T3 Int (List (Option Int)) (List (Option Int))))))) [.no] rs) (a := ()) (fun a58 x41 c h => ?_) hl)) ?_
        · refine ⟨_, rfl, ?_⟩
          refine q_fg ?_
          replace h := ctl_cases h; rcases h with ⟨t72, hl, h⟩ | ⟨r73, hl, h⟩
          · refine q_end (for_eq (s_zt (.v (v_ps rfl) (.v (xqb (.rd rfl (.v c_int .nil)) rfl (sl10 (sl_t (α := Int) (l := x1.2)))) .nil))) (forL_nx (Sh := fun (a66 : Unit) => [.ps (.dat (en (rule_ : ((List (List Int)) × (List (List Int)))))), .ps (.dat (en (rule_.1 : (List (List Int))))), .ps (.dat (en (x1.1 : Int))), .ps (.dat (en (x1.2 : (List Int)))), .ps (.dat (en (x41 : (List (Option Int))))), .no, .no, .no, .no]) (Rt := fun (r : (Option (T3 Int (List (Option Int)) (List (Option Int))))) rs => RtG [false] false (.dat (en (r : (Option (T3 Int (List (Option Int)) (List (Option Int))))))) [.no] rs) (a := ()) (fun a66 x59 c h => ?_) hl)) ?_
            · refine ⟨_, rfl, ?_⟩
              refine q_fg ?_
              replace h := ob h; obtain ⟨t67, ht67, h⟩ := h
              replace h := ob h; obtain ⟨t68, ht68, h⟩ := h
              refine q_seq (fz_ps (fz_ps (par2 (call_no (n := 3) (us := [.dat (en (x41 : (List (Option Int)))), .dat (en (x1.1 : Int)), .dat (en (x59.1 : Int))]) (.v (v_ps rfl) (.v (v_ps rfl) (.v (v_ps rfl) .nil))) rfl rfl (sim_with_level _ _ _ _ ht67)) (call_no (n := 3) (us := [.dat (en (x41 : (List (Option Int)))), .dat (en (x1.1 : Int)), .dat (en (x59.2 : Int))]) (.v (v_ps rfl) (.v (v_ps rfl) (.v (v_ps rfl) .nil))) rfl rfl (sim_with_level _ _ _ _ ht68)) rfl) rfl) rfl) ?_
              replace h := ob h; obtain ⟨t69, ht69, h⟩ := h
              replace h := ob h; obtain ⟨t71, ht71, h⟩ := h
              replace h := ite_so h; rcases h with ⟨hc, h⟩ | ⟨hc, h⟩
              · refine q_if_t (tc (t_andb (R := .ok t71 [.ps (.dat (en (rule_ : ((List (List Int)) × (List (List Int)))))), .ps (.dat (en (rule_.1 : (List (List Int))))), .ps (.dat (en (x1.1 : Int))), .ps (.dat (en (x1.2 : (List Int)))), .ps (.dat (en (x41 : (List (Option Int))))), .ps (.dat (en (x59.1 : Int))), .ps (.dat (en (x59.2 : Int))), .ps (.dat (en (t67 : (List (Option Int))))), .ps (.dat (en (t68 : (List (Option Int)))))]) ht71 (tst_ok (call_no (n := 3) (us := [.dat (en (rule_ : ((List (List Int)) × (List (List Int))))), .dat (en (t67 : (List (Option Int)))), .dat (en (x1.1 : Int))]) (.v (v_ps rfl) (.v (v_ps rfl) (.v (v_ps rfl) .nil))) rfl rfl (sim_wins _ _ _ _ ht69))) (fun h => by replace h := ob h; obtain ⟨t70, ht70, h⟩ := h; replace h := Option.some.inj h; subst h; exact tvS (t_not (tst_ok (call_no (n := 3) (us := [.dat (en (rule_ : ((List (List Int)) × (List (List Int))))), .dat (en (t68 : (List (Option Int)))), .dat (en (x1.1 : Int))]) (.v (v_ps rfl) (.v (v_ps rfl) (.v (v_ps rfl) .nil))) rfl rfl (sim_wins _ _ _ _ ht70)))) rfl) (fun h => by cases h; rfl)) hc) ?_
                refine q_ret (tup_ok (.v (v_ps rfl) (.v (v_ps rfl) (.v (v_ps rfl) .nil))) (len_le (n := 3) rfl (by decide))) ?_
                cases h
                exact ⟨⟨_, _, _, rfl⟩, ⟨_, rfl, rfl⟩⟩
              · refine q_if_f (tc (t_andb (R := .ok t71 [.ps (.dat (en (rule_ : ((List (List Int)) × (List (List Int)))))), .ps (.dat (en (rule_.1 : (List (List Int))))), .ps (.dat (en (x1.1 : Int))), .ps (.dat (en (x1.2 : (List Int)))), .ps (.dat (en (x41 : (List (Option Int))))), .ps (.dat (en (x59.1 : Int))), .ps (.dat (en (x59.2 : Int))), .ps (.dat (en (t67 : (List (Option Int))))), .ps (.dat (en (t68 : (List (Option Int)))))]) ht71 (tst_ok (call_no (n := 3) (us := [.dat (en (rule_ : ((List (List Int)) × (List (List Int))))), .dat (en (t67 : (List (Option Int)))), .dat (en (x1.1 : Int))]) (.v (v_ps rfl) (.v (v_ps rfl) (.v (v_ps rfl) .nil))) rfl rfl (sim_wins _ _ _ _ ht69))) (fun h => by replace h := ob h; obtain ⟨t70, ht70, h⟩ := h; replace h := Option.some.inj h; subst h; exact tvS (t_not (tst_ok (call_no (n := 3) (us := [.dat (en (rule_ : ((List (List Int)) × (List (List Int))))), .dat (en (t68 : (List (Option Int)))), .dat (en (x1.1 : Int))]) (.v (v_ps rfl) (.v (v_ps rfl) (.v (v_ps rfl) .nil))) rfl rfl (sim_wins _ _ _ _ ht70)))) rfl) (fun h => by cases h; rfl)) hc) ?_
                refine q_pass ?_
                cases h
                exact Or.inl rfl
            cases h
            exact Or.inl rfl
          · refine q_to_e (for_rtg (s_zt (.v (v_ps rfl) (.v (xqb (.rd rfl (.v c_int .nil)) rfl (sl10 (sl_t (α := Int) (l := x1.2)))) .nil))) (forL_rt (Sh := fun (a66 : Unit) => [.ps (.dat (en (rule_ : ((List (List Int)) × (List (List Int)))))), .ps (.dat (en (rule_.1 : (List (List Int))))), .ps (.dat (en (x1.1 : Int))), .ps (.dat (en (x1.2 : (List Int)))), .ps (.dat (en (x41 : (List (Option Int))))), .no, .no, .no, .no]) (Rt := fun (r : (Option (T3 Int (List (Option Int)) (List (Option Int))))) rs => RtG [false] false (.dat (en (r : (Option (T3 Int (List (Option Int)) (List (Option Int))))))) [.no] rs) (a := ()) (fun a66 x59 c h => ?_) hl)) ?_
            · refine ⟨_, rfl, ?_⟩
              refine q_fg ?_
              replace h := ob h; obtain ⟨t67, ht67, h⟩ := h
              replace h := ob h; obtain ⟨t68, ht68, h⟩ := h
              refine q_seq (fz_ps (fz_ps (par2 (call_no (n := 3) (us := [.dat (en (x41 : (List (Option Int)))), .dat (en (x1.1 : Int)), .dat (en (x59.1 : Int))]) (.v (v_ps rfl) (.v (v_ps rfl) (.v (v_ps rfl) .nil))) rfl rfl (sim_with_level _ _ _ _ ht67)) (call_no (n := 3) (us := [.dat (en (x41 : (List (Option Int)))), .dat (en (x1.1 : Int)), .dat (en (x59.2 : Int))]) (.v (v_ps rfl) (.v (v_ps rfl) (.v (v_ps rfl) .nil))) rfl rfl (sim_with_level _ _ _ _ ht68)) rfl) rfl) rfl) ?_
              replace h := ob h; obtain ⟨t69, ht69, h⟩ := h
              replace h := ob h; obtain ⟨t71, ht71, h⟩ := h
              replace h := ite_so h; rcases h with ⟨hc, h⟩ | ⟨hc, h⟩
              · refine q_if_t (tc (t_andb (R := .ok t71 [.ps (.dat (en (rule_ : ((List (List Int)) × (List (List Int)))))), .ps (.dat (en (rule_.1 : (List (List Int))))), .ps (.dat (en (x1.1 : Int))), .ps (.dat (en (x1.2 : (List Int)))), .ps (.dat (en (x41 : (List (Option Int))))), .ps (.dat (en (x59.1 : Int))), .ps (.dat (en (x59.2 : Int))), .ps (.dat (en (t67 : (List (Option Int))))), .ps (.dat (en (t68 : (List (Option Int)))))]) ht71 (tst_ok (call_no (n := 3) (us := [.dat (en (rule_ : ((List (List Int)) × (List (List Int))))), .dat (en (t67 : (List (Option Int)))), .dat (en (x1.1 : Int))]) (.v (v_ps rfl) (.v (v_ps rfl) (.v (v_ps rfl) .nil))) rfl rfl (sim_wins _ _ _ _ ht69))) (fun h => by replace h := ob h; obtain ⟨t70, ht70, h⟩ := h; replace h := Option.some.inj h; subst h; exact tvS (t_not (tst_ok (call_no (n := 3) (us := [.dat (en (rule_ : ((List (List Int)) × (List (List Int))))), .dat (en (t68 : (List (Option Int)))), .dat (en (x1.1 : Int))]) (.v (v_ps rfl) (.v (v_ps rfl) (.v (v_ps rfl) .nil))) rfl rfl (sim_wins _ _ _ _ ht70)))) rfl) (fun h => by cases h; rfl)) hc) ?_
                refine q_ret (tup_ok (.v (v_ps rfl) (.v (v_ps rfl) (.v (v_ps rfl) .nil))) (len_le (n := 3) rfl (by decide))) ?_
                cases h
                exact ⟨⟨_, _, _, rfl⟩, ⟨_, rfl, rfl⟩⟩
              · refine q_if_f (tc (t_andb (R := .ok t71 [.ps (.dat (en (rule_ : ((List (List Int)) × (List (List Int)))))), .ps (.dat (en (rule_.1 : (List (List Int))))), .ps (.dat (en (x1.1 : Int))), .ps (.dat (en (x1.2 : (List Int)))), .ps (.dat (en (x41 : (List (Option Int))))), .ps (.dat (en (x59.1 : Int))), .ps (.dat (en (x59.2 : Int))), .ps (.dat (en (t67 : (List (Option Int))))), .ps (.dat (en (t68 : (List (Option Int)))))]) ht71 (tst_ok (call_no (n := 3) (us := [.dat (en (rule_ : ((List (List Int)) × (List (List Int))))), .dat (en (t67 : (List (Option Int)))), .dat (en (x1.1 : Int))]) (.v (v_ps rfl) (.v (v_ps rfl) (.v (v_ps rfl) .nil))) rfl rfl (sim_wins _ _ _ _ ht69))) (fun h => by replace h := ob h; obtain ⟨t70, ht70, h⟩ := h; replace h := Option.some.inj h; subst h; exact tvS (t_not (tst_ok (call_no (n := 3) (us := [.dat (en (rule_ : ((List (List Int)) × (List (List Int))))), .dat (en (t68 : (List (Option Int)))), .dat (en (x1.1 : Int))]) (.v (v_ps rfl) (.v (v_ps rfl) (.v (v_ps rfl) .nil))) rfl rfl (sim_wins _ _ _ _ ht70)))) rfl) (fun h => by cases h; rfl)) hc) ?_
                refine q_pass ?_
                cases h
                exact Or.inl rfl
            intro st m
            cases h
            exact ⟨⟨_, _, _, rfl⟩, ⟨st, rfl, m⟩⟩
        intro st m
        cases h
        exact ⟨⟨_, _, _, rfl⟩, ⟨st, rfl, m⟩⟩
    refine q_ret c_non ?_
    cases h
    rfl
  · refine q_srt_e (for_rtg (s_en (s_t (α := (List Int)) (l := rule_.1) (v_ps rfl))) (forL_rt (Sh := fun (a39 : Unit) => [.ps (.dat (en (rule_ : ((List (List Int)) × (List (List Int)))))), .ps (.dat (en (rule_.1 : (List (List Int))))), .no, .no, .no, .no, .no, .no, .no]) (Rt := fun (r : (Option (T3 Int (List (Option Int)) (List (Option Int))))) rs => RtG [false] false (.dat (en (r : (Option (T3 Int (List (Option Int)) (List (Option Int))))))) [.no] rs) (a := ()) (fun a39 x1 c h => ?_) hl)) ?_
    · refine ⟨_, rfl, ?_⟩
      refine q_fg ?_
      replace h := ob h; obtain ⟨t40, ht40, h⟩ := h
      replace h := ctl_cases h; rcases h with ⟨t74, hl, h⟩ | ⟨r75, hl, h⟩
      · refine q_end (for_eq (s_t (α := (List (Option Int))) (l := t40) (call_no (n := 2) (us := [.dat (en (rule_.1 : (List (List Int)))), .dat (en (x1.1 : Int))]) (.v (v_ps rfl) (.v (v_ps rfl) .nil)) rfl rfl (sim_others_of _ _ _ ht40))) (forL_nx (Sh := fun (a58 : Unit) => [.ps (.dat (en (rule_ : ((List (List Int)) × (List (List Int)))))), .ps (.dat (en (rule_.1 : (List (List Int))))), .ps (.dat (en (x1.1 : Int))), .ps (.dat (en (x1.2 : (List Int)))), .no, .no, .no, .no, .no]) (Rt := fun (r : (Option (T3 Int (List (Option Int)) (List (Option Int))))) rs => RtG [false] false (.dat (en (r : (Option (T3 Int (List (Option Int)) (List (Option Int))))))) [.no] rs) (a := ()) (fun a58 x41 c h => ?_) hl)) ?_
        · refine ⟨_, rfl, ?_⟩
          refine q_fg ?_
          replace h := ctl_cases h; rcases h with ⟨t72, hl, h⟩ | ⟨r73, hl, h⟩
          · refine q_end (for_eq (s_zt (.v (v_ps rfl) (.v (xqb (.rd rfl (.v c_int .nil)) rfl (sl10 (sl_t (α := Int) (l := x1.2)))) .nil))) (forL_nx (Sh := fun (a66 : Unit) => [.ps (.dat (en (rule_ : ((List (List Int)) × (List (List Int)))))), .ps (.dat (en (rule_.1 : (List (List Int))))), .ps (.dat (en (x1.1 : Int))), .ps (.dat (en (x1.2 : (List Int)))), .ps (.dat (en (x41 : (List (Option Int))))), .no, .no, .no, .no]) (Rt := fun (r : (Option (T3 Int (List (Option Int)) (List (Option Int))))) rs => RtG [false] false (.dat (en (r : (Option (T3 Int (List (Option Int)) (List (Option Int))))))) [.no] rs) (a := ()) (fun a66 x59 c h => ?_) hl)) ?_
            · refine ⟨_, rfl, ?_⟩
              refine q_fg ?_
              replace h := ob h; obtain ⟨t67, ht67, h⟩ := h
              replace h := ob h; obtain ⟨t68, ht68, h⟩ := h
              refine q_seq (fz_ps (fz_ps (par2 (call_no (n := 3) (us := [.dat (en (x41 : (List (Option Int)))), .dat (en (x1.1 : Int)), .dat (en (x59.1 : Int))]) (.v (v_ps rfl) (.v (v_ps rfl) (.v (v_ps rfl) .nil))) rfl rfl (sim_with_level _ _ _ _ ht67)) (call_no (n := 3) (us := [.dat (en (x41 : (List (Option Int)))), .dat (en (x1.1 : Int)), .dat (en (x59.2 : Int))]) (.v (v_ps rfl) (.v (v_ps rfl) (.v (v_ps rfl) .nil))) rfl rfl (sim_with_level _ _ _ _ ht68)) rfl) rfl) rfl) ?_
              replace h := ob h; obtain ⟨t69, ht69, h⟩ := h
              replace h := ob h; obtain ⟨t71, ht71, h⟩ := h
              replace h := ite_so h; rcases h with ⟨hc, h⟩ | ⟨hc, h⟩
              · refine q_if_t (tc (t_andb (R := .ok t71 [.ps (.dat (en (rule_ : ((List (List Int)) × (List (List Int)))))), .ps (.dat (en (rule_.1 : (List (List Int))))), .ps (.dat (en (x1.1 : Int))), .ps (.dat (en (x1.2 : (List Int)))), .ps (.dat (en (x41 : (List (Option Int))))), .ps (.dat (en (x59.1 : Int))), .ps (.dat (en (x59.2 : Int))), .ps (.dat (en (t67 : (List (Option Int))))), .ps (.dat (en (t68 : (List (Option Int)))))]) ht71 (tst_ok (call_no (n := 3) (us := [.dat (en (rule_ : ((List (List Int)) × (List (List Int))))), .dat (en (t67 : (List (Option Int)))), .dat (en (x1.1 : Int))]) (.v (v_ps rfl) (.v (v_ps rfl) (.v (v_ps rfl) .nil))) rfl rfl (sim_wins _ _ _ _ ht69))) (fun h => by replace h := ob h; obtain ⟨t70, ht70, h⟩ := h; replace h := Option.some.inj h; subst h; exact tvS (t_not (tst_ok (call_no (n := 3) (us := [.dat (en (rule_ : ((List (List Int)) × (List (List Int))))), .dat (en (t68 : (List (Option Int)))), .dat (en (x1.1 : Int))]) (.v (v_ps rfl) (.v (v_ps rfl) (.v (v_ps rfl) .nil))) rfl rfl (sim_wins _ _ _ _ ht70)))) rfl) (fun h => by cases h; rfl)) hc) ?_
                refine q_ret (tup_ok (.v (v_ps rfl) (.v (v_ps rfl) (.v (v_ps rfl) .nil))) (len_le (n := 3) rfl (by decide))) ?_
                cases h
                exact ⟨⟨_, _, _, rfl⟩, ⟨_, rfl, rfl⟩⟩
              · refine q_if_f (tc (t_andb (R := .ok t71 [.ps (.dat (en (rule_ : ((List (List Int)) × (List (List Int)))))), .ps (.dat (en (rule_.1 : (List (List Int))))), .ps (.dat (en (x1.1 : Int))), .ps (.dat (en (x1.2 : (List Int)))), .ps (.dat (en (x41 : (List (Option Int))))), .ps (.dat (en (x59.1 : Int))), .ps (.dat (en (x59.2 : Int))), .ps (.dat (en (t67 : (List (Option Int))))), .ps (.dat (en (t68 : (List (Option Int)))))]) ht71 (tst_ok (call_no (n := 3) (us := [.dat (en (rule_ : ((List (List Int)) × (List (List Int))))), .dat (en (t67 : (List (Option Int)))), .dat (en (x1.1 : Int))]) (.v (v_ps rfl) (.v (v_ps rfl) (.v (v_ps rfl) .nil))) rfl rfl (sim_wins _ _ _ _ ht69))) (fun h => by replace h := ob h; obtain ⟨t70, ht70, h⟩ := h; replace h := Option.some.inj h; subst h; exact tvS (t_not (tst_ok (call_no (n := 3) (us := [.dat (en (rule_ : ((List (List Int)) × (List (List Int))))), .dat (en (t68 : (List (Option Int)))), .dat (en (x1.1 : Int))]) (.v (v_ps rfl) (.v (v_ps rfl) (.v (v_ps rfl) .nil))) rfl rfl (sim_wins _ _ _ _ ht70)))) rfl) (fun h => by cases h; rfl)) hc) ?_
                refine q_pass ?_
                cases h
                exact Or.inl rfl
            cases h
            exact Or.inl rfl
          · refine q_to_e (for_rtg (s_zt (.v (v_ps rfl) (.v (xqb (.rd rfl (.v c_int .nil)) rfl (sl10 (sl_t (α := Int) (l := x1.2)))) .nil))) (forL_rt (Sh := fun (a66 : Unit) => [.ps (.dat (en (rule_ : ((List (List Int)) × (List (List Int)))))), .ps (.dat (en (rule_.1 : (List (List Int))))), .ps (.dat (en (x1.1 : Int))), .ps (.dat (en (x1.2 : (List Int)))), .ps (.dat (en (x41 : (List (Option Int))))), .no, .no, .no, .no]) (Rt := fun (r : (Option (T3 Int (List (Option Int)) (List (Option Int))))) rs => RtG [false] false (.dat (en (r : (Option (T3 Int (List (Option Int)) (List (Option Int))))))) [.no] rs) (a := ()) (fun a66 x59 c h => ?_) hl)) ?_
            · refine ⟨_, rfl, ?_⟩
              refine q_fg ?_
              replace h := ob h; obtain ⟨t67, ht67, h⟩ := h
              replace h := ob h; obtain ⟨t68, ht68, h⟩ := h
              refine q_seq (fz_ps (fz_ps (par2 (call_no (n := 3) (us := [.dat (en (x41 : (List (Option Int)))), .dat (en (x1.1 : Int)), .dat (en (x59.1 : Int))]) (.v (v_ps rfl) (.v (v_ps rfl) (.v (v_ps rfl) .nil))) rfl rfl (sim_with_level _ _ _ _ ht67)) (call_no (n := 3) (us := [.dat (en (x41 : (List (Option Int)))), .dat (en (x1.1 : Int)), .dat (en (x59.2 : Int))]) (.v (v_ps rfl) (.v (v_ps rfl) (.v (v_ps rfl) .nil))) rfl rfl (sim_with_level _ _ _ _ ht68)) rfl) rfl) rfl) ?_
              replace h := ob h; obtain ⟨t69, ht69, h⟩ := h
              replace h := ob h; obtain ⟨t71, ht71, h⟩ := h
              replace h := ite_so h; rcases h with ⟨hc, h⟩ | ⟨hc, h⟩
              · refine q_if_t (tc (t_andb (R := .ok t71 [.ps (.dat (en (rule_ : ((List (List Int)) × (List (List Int)))))), .ps (.dat (en (rule_.1 : (List (List Int))))), .ps (.dat (en (x1.1 : Int))), .ps (.dat (en (x1.2 : (List Int)))), .ps (.dat (en (x41 : (List (Option Int))))), .ps (.dat (en (x59.1 : Int))), .ps (.dat (en (x59.2 : Int))), .ps (.dat (en (t67 : (List (Option Int))))), .ps (.dat (en (t68 : (List (Option Int)))))]) ht71 (tst_ok (call_no (n := 3) (us := [.dat (en (rule_ : ((List (List Int)) × (List (List Int))))), .dat (en (t67 : (List (Option Int)))), .dat (en (x1.1 : Int))]) (.v (v_ps rfl) (.v (v_ps rfl) (.v (v_ps rfl) .nil))) rfl rfl (sim_wins _ _ _ _ ht69))) (fun h => by replace h := ob h; obtain ⟨t70, ht70, h⟩ := h; replace h := Option.some.inj h; subst h; exact tvS (t_not (tst_ok (call_no (n := 3) (us := [.dat (en (rule_ : ((List (List Int)) × (List (List Int))))), .dat (en (t68 : (List (Option Int)))), .dat (en (x1.1 : Int))]) (.v (v_ps rfl) (.v (v_ps rfl) (.v (v_ps rfl) .nil))) rfl rfl (sim_wins _ _ _ _ ht70)))) rfl) (fun h => by cases h; rfl)) hc) ?_
                refine q_ret (tup_ok (.v (v_ps rfl) (.v (v_ps rfl) (.v (v_ps rfl) .nil))) (len_le (n := 3) rfl (by decide))) ?_
                cases h
                exact ⟨⟨_, _, _, rfl⟩, ⟨_, rfl, rfl⟩⟩
              · refine q_if_f (tc (t_andb (R := .ok t71 [.ps (.dat (en (rule_ : ((List (List Int)) × (List (List Int)))))), .ps (.dat (en (rule_.1 : (List (List Int))))), .ps (.dat (en (x1.1 : Int))), .ps (.dat (en (x1.2 : (List Int)))), .ps (.dat (en (x41 : (List (Option Int))))), .ps (.dat (en (x59.1 : Int))), .ps (.dat (en (x59.2 : Int))), .ps (.dat (en (t67 : (List (Option Int))))), .ps (.dat (en (t68 : (List (Option Int)))))]) ht71 (tst_ok (call_no (n := 3) (us := [.dat (en (rule_ : ((List (List Int)) × (List (List Int))))), .dat (en (t67 : (List (Option Int)))), .dat (en (x1.1 : Int))]) (.v (v_ps rfl) (.v (v_ps rfl) (.v (v_ps rfl) .nil))) rfl rfl (sim_wins _ _ _ _ ht69))) (fun h => by replace h := ob h; obtain ⟨t70, ht70, h⟩ := h; replace h := Option.some.inj h; subst h; exact tvS (t_not (tst_ok (call_no (n := 3) (us := [.dat (en (rule_ : ((List (List Int)) × (List (List Int))))), .dat (en (t68 : (List (Option Int)))), .dat (en (x1.1 : Int))]) (.v (v_ps rfl) (.v (v_ps rfl) (.v (v_ps rfl) .nil))) rfl rfl (sim_wins _ _ _ _ ht70)))) rfl) (fun h => by cases h; rfl)) hc) ?_
                refine q_pass ?_
                cases h
                exact Or.inl rfl
            intro st m
            cases h
            exact ⟨⟨_, _, _, rfl⟩, ⟨st, rfl, m⟩⟩
        cases h
        exact Or.inl rfl
      · refine q_to_e (for_rtg (s_t (α := (List (Option Int))) (l := t40) (call_no (n := 2) (us := [.dat (en (rule_.1 : (List (List Int)))), .dat (en (x1.1 : Int))]) (.v (v_ps rfl) (.v (v_ps rfl) .nil)) rfl rfl (sim_others_of _ _ _ ht40))) (forL_rt (Sh := fun (a58 : Unit) => [.ps (.dat (en (rule_ : ((List (List Int)) × (List (List Int)))))), .ps (.dat (en (rule_.1 : (List (List Int))))), .ps (.dat (en (x1.1 : Int))), .ps (.dat (en (x1.2 : (List Int)))), .no, .no, .no, .no, .no]) (Rt := fun (r : (Option (T3 Int (List (Option Int)) (List (Option Int))))) rs => RtG [false] false (.dat (en (r : (Option (T3 Int (List (Option Int)) (List (Option Int))))))) [.no] rs) (a := ()) (fun a58 x41 c h => ?_) hl)) ?_
        · refine ⟨_, rfl, ?_⟩
          refine q_fg ?_
          replace h := ctl_cases h; rcases h with ⟨t72, hl, h⟩ | ⟨r73, hl, h⟩
          · refine q_end (for_eq (s_zt (.v (v_ps rfl) (.v (xqb (.rd rfl (.v c_int .nil)) rfl (sl10 (sl_t (α := Int) (l := x1.2)))) .nil))) (forL_nx (Sh := fun (a66 : Unit) => [.ps (.dat (en (rule_ : ((List (List Int)) × (List (List Int)))))), .ps (.dat (en (rule_.1 : (List (List Int))))), .ps (.dat (en (x1.1 : Int))), .ps (.dat (en (x1.2 : (List Int)))), .ps (.dat (en (x41 : (List (Option Int))))), .no, .no, .no, .no]) (Rt := fun (r : (Option (T3 Int (List (Option Int)) (List (Option Int))))) rs => RtG [false] false (.dat (en (r : (Option (T3 Int (List (Option Int)) (List (Option Int))))))) [.no] rs) (a := ()) (fun a66 x59 c h => ?_) hl)) ?_
            · refine ⟨_, rfl, ?_⟩
              refine q_fg ?_
              replace h := ob h; obtain ⟨t67, ht67, h⟩ := h
              replace h := ob h; obtain ⟨t68, ht68, h⟩ := h
              refine q_seq (fz_ps (fz_ps (par2 (call_no (n := 3) (us := [.dat (en (x41 : (List (Option Int)))), .dat (en (x1.1 : Int)), .dat (en (x59.1 : Int))]) (.v (v_ps rfl) (.v (v_ps rfl) (.v (v_ps rfl) .nil))) rfl rfl (sim_with_level _ _ _ _ ht67)) (call_no (n := 3) (us := [.dat (en (x41 : (List (Option Int)))), .dat (en (x1.1 : Int)), .dat (en (x59.2 : Int))]) (.v (v_ps rfl) (.v (v_ps rfl) (.v (v_ps rfl) .nil))) rfl rfl (sim_with_level _ _ _ _ ht68)) rfl) rfl) rfl) ?_
              replace h := ob h; obtain ⟨t69, ht69, h⟩ := h
              replace h := ob h; obtain ⟨t71, ht71, h⟩ := h
              replace h := ite_so h; rcases h with ⟨hc, h⟩ | ⟨hc, h⟩
              · refine q_if_t (tc (t_andb (R := .ok t71 [.ps (.dat (en (rule_ : ((List (List Int)) × (List (List Int)))))), .ps (.dat (en (rule_.1 : (List (List Int))))), .ps (.dat (en (x1.1 : Int))), .ps (.dat (en (x1.2 : (List Int)))), .ps (.dat (en (x41 : (List (Option Int))))), .ps (.dat (en (x59.1 : Int))), .ps (.dat (en (x59.2 : Int))), .ps (.dat (en (t67 : (List (Option Int))))), .ps (.dat (en (t68 : (List (Option Int)))))]) ht71 (tst_ok (call_no (n := 3) (us := [.dat (en (rule_ : ((List (List Int)) × (List (List Int))))), .dat (en (t67 : (List (Option Int)))), .dat (en (x1.1 : Int))]) (.v (v_ps rfl) (.v (v_ps rfl) (.v (v_ps rfl) .nil))) rfl rfl (sim_wins _ _ _ _ ht69))) (fun h => by replace h := ob h; obtain ⟨t70, ht70, h⟩ := h; replace h := Option.some.inj h; subst h; exact tvS (t_not (tst_ok (call_no (n := 3) (us := [.dat (en (rule_ : ((List (List Int)) × (List (List Int))))), .dat (en (t68 : (List (Option Int)))), .dat (en (x1.1 : Int))]) (.v (v_ps rfl) (.v (v_ps rfl) (.v (v_ps rfl) .nil))) rfl rfl (sim_wins _ _ _ _ ht70)))) rfl) (fun h => by cases h; rfl)) hc) ?_
                refine q_ret (tup_ok (.v (v_ps rfl) (.v (v_ps rfl) (.v (v_ps rfl) .nil))) (len_le (n := 3) rfl (by decide))) ?_
                cases h
                exact ⟨⟨_, _, _, rfl⟩, ⟨_, rfl, rfl⟩⟩
              · refine q_if_f (tc (t_andb (R := .ok t71 [.ps (.dat (en (rule_ : ((List (List Int)) × (List (List Int)))))), .ps (.dat (en (rule_.1 : (List (List Int))))), .ps (.dat (en (x1.1 : Int))), .ps (.dat (en (x1.2 : (List Int)))), .ps (.dat (en (x41 : (List (Option Int))))), .ps (.dat (en (x59.1 : Int))), .ps (.dat (en (x59.2 : Int))), .ps (.dat (en (t67 : (List (Option Int))))), .ps (.dat (en (t68 : (List (Option Int)))))]) ht71 (tst_ok (call_no (n := 3) (us := [.dat (en (rule_ : ((List (List Int)) × (List (List Int))))), .dat (en (t67 : (List (Option Int)))), .dat (en (x1.1 : Int))]) (.v (v_ps rfl) (.v (v_ps rfl) (.v (v_ps rfl) .nil))) rfl rfl (sim_wins _ _ _ _ ht69))) (fun h => by replace h := ob h; obtain ⟨t70, ht70, h⟩ := h; replace h := Option.some.inj h; subst h; exact tvS (t_not (tst_ok (call_no (n := 3) (us := [.dat (en (rule_ : ((List (List Int)) × (List (List Int))))), .dat (en (t68 : (List (Option Int)))), .dat (en (x1.1 : Int))]) (.v (v_ps rfl) (.v (v_ps rfl) (.v (v_ps rfl) .nil))) rfl rfl (sim_wins _ _ _ _ ht70)))) rfl) (fun h => by cases h; rfl)) hc) ?_
                refine q_pass ?_
                cases h
                exact Or.inl rfl
            cases h
            exact Or.inl rfl
          · refine q_to_e (for_rtg (s_zt (.v (v_ps rfl) (.v (xqb (.rd rfl (.v c_int .nil)) rfl (sl10 (sl_t (α := Int) (l := x1.2)))) .nil))) (forL_rt (Sh := fun (a66 : Unit) => [.ps (.dat (en (rule_ : ((List (List Int)) × (List (List Int)))))), .ps (.dat (en (rule_.1 : (List (List Int))))), .ps (.dat (en (x1.1 : Int))), .ps (.dat (en (x1.2 : (List Int)))), .ps (.dat (en (x41 : (List (Option Int))))), .no, .no, .no, .no]) (Rt := fun (r : (Option (T3 Int (List (Option Int)) (List (Option Int))))) rs => RtG [false] false (.dat (en (r : (Option (T3 Int (List (Option Int)) (List (Option Int))))))) [.no] rs) (a := ()) (fun a66 x59 c h => ?_) hl)) ?_
            · refine ⟨_, rfl, ?_⟩
              refine q_fg ?_
              replace h := ob h; obtain ⟨t67, ht67, h⟩ := h
              replace h := ob h; obtain ⟨t68, ht68, h⟩ := h
              refine q_seq (fz_ps (fz_ps (par2 (call_no (n := 3) (us := [.dat (en (x41 : (List (Option Int)))), .dat (en (x1.1 : Int)), .dat (en (x59.1 : Int))]) (.v (v_ps rfl) (.v (v_ps rfl) (.v (v_ps rfl) .nil))) rfl rfl (sim_with_level _ _ _ _ ht67)) (call_no (n := 3) (us := [.dat (en (x41 : (List (Option Int)))), .dat (en (x1.1 : Int)), .dat (en (x59.2 : Int))]) (.v (v_ps rfl) (.v (v_ps rfl) (.v (v_ps rfl) .nil))) rfl rfl (sim_with_level _ _ _ _ ht68)) rfl) rfl) rfl) ?_
              replace h := ob h; obtain ⟨t69, ht69, h⟩ := h
              replace h := ob h; obtain ⟨t71, ht71, h⟩ := h
              replace h := ite_so h; rcases h with ⟨hc, h⟩ | ⟨hc, h⟩
              · refine q_if_t (tc (t_andb (R := .ok t71 [.ps (.dat (en (rule_ : ((List (List Int)) × (List (List Int)))))), .ps (.dat (en (rule_.1 : (List (List Int))))), .ps (.dat (en (x1.1 : Int))), .ps (.dat (en (x1.2 : (List Int)))), .ps (.dat (en (x41 : (List (Option Int))))), .ps (.dat (en (x59.1 : Int))), .ps (.dat (en (x59.2 : Int))), .ps (.dat (en (t67 : (List (Option Int))))), .ps (.dat (en (t68 : (List (Option Int)))))]) ht71 (tst_ok (call_no (n := 3) (us := [.dat (en (rule_ : ((List (List Int)) × (List (List Int))))), .dat (en (t67 : (List (Option Int)))), .dat (en (x1.1 : Int))]) (.v (v_ps rfl) (.v (v_ps rfl) (.v (v_ps rfl) .nil))) rfl rfl (sim_wins _ _ _ _ ht69))) (fun h => by replace h := ob h; obtain ⟨t70, ht70, h⟩ := h; replace h := Option.some.inj h; subst h; exact tvS (t_not (tst_ok (call_no (n := 3) (us := [.dat (en (rule_ : ((List (List Int)) × (List (List Int))))), .dat (en (t68 : (List (Option Int)))), .dat (en (x1.1 : Int))]) (.v (v_ps rfl) (.v (v_ps rfl) (.v (v_ps rfl) .nil))) rfl rfl (sim_wins _ _ _ _ ht70)))) rfl) (fun h => by cases h; rfl)) hc) ?_
                refine q_ret (tup_ok (.v (v_ps rfl) (.v (v_ps rfl) (.v (v_ps rfl) .nil))) (len_le (n := 3) rfl (by decide))) ?_
                cases h
                exact ⟨⟨_, _, _, rfl⟩, ⟨_, rfl, rfl⟩⟩
              · refine q_if_f (tc (t_andb (R := .ok t71 [.ps (.dat (en (rule_ : ((List (List Int)) × (List (List Int)))))), .ps (.dat (en (rule_.1 : (List (List Int))))), .ps (.dat (en (x1.1 : Int))), .ps (.dat (en (x1.2 : (List Int)))), .ps (.dat (en (x41 : (List (Option Int))))), .ps (.dat (en (x59.1 : Int))), .ps (.dat (en (x59.2 : Int))), .ps (.dat (en (t67 : (List (Option Int))))), .ps (.dat (en (t68 : (List (Option Int)))))]) ht71 (tst_ok (call_no (n := 3) (us := [.dat (en (rule_ : ((List (List Int)) × (List (List Int))))), .dat (en (t67 : (List (Option Int)))), .dat (en (x1.1 : Int))]) (.v (v_ps rfl) (.v (v_ps rfl) (.v (v_ps rfl) .nil))) rfl rfl (sim_wins _ _ _ _ ht69))) (fun h => by replace h := ob h; obtain ⟨t70, ht70, h⟩ := h; replace h := Option.some.inj h; subst h; exact tvS (t_not (tst_ok (call_no (n := 3) (us := [.dat (en (rule_ : ((List (List Int)) × (List (List Int))))), .dat (en (t68 : (List (Option Int)))), .dat (en (x1.1 : Int))]) (.v (v_ps rfl) (.v (v_ps rfl) (.v (v_ps rfl) .nil))) rfl rfl (sim_wins _ _ _ _ ht70)))) rfl) (fun h => by cases h; rfl)) hc) ?_
                refine q_pass ?_
                cases h
                exact Or.inl rfl
            intro st m
            cases h
            exact ⟨⟨_, _, _, rfl⟩, ⟨st, rfl, m⟩⟩
        intro st m
        cases h
        exact ⟨⟨_, _, _, rfl⟩, ⟨st, rfl, m⟩⟩
    intro st m
    cases h
    exact RtG.body ⟨st, rfl, m⟩
/-! is_rising -/
noncomputable def F_is_rising (rule_ : ((List (List Int)) × (List (List Int)))) : Option Bool := (F_falling_pair rule_).bind fun t1 => some t1.isNone
theorem sim_is_rising (rule_ : ((List (List Int)) × (List (List Int)))) (r : Bool) (h : F_is_rising rule_ = some r) : f_is_rising [.dat (en (rule_ : ((List (List Int)) × (List (List Int)))))] = .ret false (.dat (en (r : Bool))) [.no] := by
  unfold F_is_rising at h
  show Go (fun rs => bodyR [false] rs = .ret false (.dat (en (r : Bool))) [.no]) (s_is_rising [.ps (.dat (en (rule_ : ((List (List Int)) × (List (List Int))))))])
  replace h := ob h; obtain ⟨t1, ht1, h⟩ := h
  refine q_ret (xq2 (.v (call_no (n := 1) (us := [.dat (en (rule_ : ((List (List Int)) × (List (List Int)))))]) (.v (v_ps rfl) .nil) rfl rfl (sim_falling_pair _ _ ht1)) (.v c_non .nil)) rfl (lB b_isO)) ?_
  cases h
  rfl
/-! is_told_by_least -/
noncomputable def F_is_told_by_least (rule_ : ((List (List Int)) × (List (List Int)))) : Option Bool := (F_is_rising rule_).bind fun t1 => some t1
theorem sim_is_told_by_least (rule_ : ((List (List Int)) × (List (List Int)))) (r : Bool) (h : F_is_told_by_least rule_ = some r) : f_is_told_by_least [.dat (en (rule_ : ((List (List Int)) × (List (List Int)))))] = .ret false (.dat (en (r : Bool))) [.no] := by
  unfold F_is_told_by_least at h
  show Go (fun rs => bodyR [false] rs = .ret false (.dat (en (r : Bool))) [.no]) (s_is_told_by_least [.ps (.dat (en (rule_ : ((List (List Int)) × (List (List Int))))))])
  replace h := ob h; obtain ⟨t1, ht1, h⟩ := h
  refine q_ret (frz0 (call_no (n := 1) (us := [.dat (en (rule_ : ((List (List Int)) × (List (List Int)))))]) (.v (v_ps rfl) .nil) rfl rfl (sim_is_rising _ _ ht1))) ?_
  cases h
  rfl
/-! law -/
noncomputable def F_law (script_ : (List Int)) : Option Bool := (drawO script_ (3 : Int)).bind fun t1 => (F__law_market t1 (6 : Int) (8 : Int) (2000 : Int)).bind fun t2 => (F__law_market t2.2 (4 : Int) (4 : Int) (100 : Int)).bind fun t3 => (F__law_market t3.2 (3 : Int) (8 : Int) (200 : Int)).bind fun t4 => (F__law_of t4.2 ([t2.1, t3.1, t4.1])).bind fun t5 => (F__law_lots t5.2 t5.1).bind fun t6 => (F__law_rule t5.1 t6.1).bind fun t7 => ctlO (loopC (ρ := Bool) (fun (a207 : (Deal × Bool)) (x8 : (Pw Int (List Int))) => ((catO ((cut t5.1 none (some x8.1)).map (fun z => (z.map (fun z => (some z))))) ([[()]].map (fun z => (z.map (fun z => (none : (Option Int))))))).bind fun t208 => (catO t208 ((cut t5.1 (some (x8.1 + (1 : Int))) none).map (fun z => (z.map (fun z => (some z)))))).bind fun t209 => (F__law_profiles_1 t209).bind fun t210 => (F_others_of t5.1 x8.1).bind fun t211 => (sameO (en (t211 : (List (List (Option Int))))) (en (t210 : (List (List (Option Int)))))).bind fun t212 => if (!t212) = true then some (.rt false) else (loopO (fun (a238 : Bool) (x213 : (List (Option Int))) => ((lcP (fun (x239 : Int) => ((catO (cut x213 none (some x8.1)) ([x239].map (fun z => (some z)))).bind fun t240 => (catO t240 (cut x213 (some (x8.1 + (1 : Int))) none)).bind fun t241 => (aGetX t6.1 (t241 : (List (Option Int)))).bind fun t242 => if (decide ((x8.1 : Int) ∈ (t242 : (List Int)))) = true then some (some x239) else some none : Option (Option Int))) x8.2).bind fun t243 => (lenP t243).bind fun t244 => (if (!(decide ((Ls.mk (t244 : (List Int))) = (Ls.mk ([] : (List Int)))))) = true then (lcP (fun (x245 : Int) => ((atI t244 (0 : Int)).bind fun t246 => if (decide (t246 ≤ x245)) = true then some (some x245) else some none : Option (Option Int))) x8.2).bind fun t247 => (lenP t247).bind fun t248 => some (!(decide ((Ls.mk (t248 : (List Int))) = (Ls.mk (t244 : (List Int)))))) else some false).bind fun t249 => if t249 = true then some false else some a238 : Option Bool)) a207.2 t210).bind fun t250 => (rng1O (3 : Int)).bind fun t251 => ctlO (loopC (ρ := Bool) (fun (a287 : Deal) (x252 : Int) => ((F__law_of a287 t210).bind fun t288 => (F__law_of_1 t288.2 x8.2).bind fun t289 => (catO (cut t288.1 none (some x8.1)) ([t289.1].map (fun z => (some z)))).bind fun t290 => (catO t290 (cut t288.1 (some (x8.1 + (1 : Int))) none)).bind fun t291 => (F_with_level t288.1 x8.1 t289.1).bind fun t292 => (sameO (en (t292 : (List (Option Int)))) (en (t291 : (List (Option Int))))).bind fun t293 => if (!t293) = true then some (.rt false) else (lcP (fun (x294 : Int) => ((catO (cut t288.1 none (some x8.1)) ([x294].map (fun z => (some z)))).bind fun t295 => (catO t295 (cut t288.1 (some (x8.1 + (1 : Int))) none)).bind fun t296 => (aGetX t6.1 (t296 : (List (Option Int)))).bind fun t297 => if (decide ((x8.1 : Int) ∈ (t297 : (List Int)))) = true then some (some x294) else some none : Option (Option Int))) x8.2).bind fun t298 => (lenP t298).bind fun t299 => (F_least_winning t7 x8.1 t288.1).bind fun t300 => (if (!(decide ((Ls.mk (t299 : (List Int))) = (Ls.mk ([] : (List Int)))))) = true then (atI t299 (0 : Int)).bind fun t301 => some (some t301) else some (none : (Option Int))).bind fun t302 => (sameO (en (t300 : (Option Int))) (en (t302 : (Option Int)))).bind fun t303 => if (!t303) = true then some (.rt false) else some (.nx t289.2) : Option (Ctl Deal Bool))) a207.1 t251) (fun t304 => some (.nx (t304, t250))) (fun r305 => some (.rt r305)) : Option (Ctl (Deal × Bool) Bool))) (t6.2, true) (enumW t5.1)) (fun t306 => (F_is_told_by_least t7).bind fun t307 => (sameO (en (t307 : Bool)) (en (t306.2 : Bool))).bind fun t308 => some t308) (fun r309 => some r309)
theorem sim_law (script_ : (List Int)) (r : Bool) (h : F_law script_ = some r) : f_law [.dat (en ((Ls.mk script_) : (Ls Int)))] = .ret false (.dat (en (r : Bool))) [.no] := by
  unfold F_law at h
  show Go (fun rs => bodyR [false] rs = .ret false (.dat (en (r : Bool))) [.no]) (s_law [.ps (.dat (en ((Ls.mk script_) : (Ls Int)))), .no, .no, .no, .no, .no, .no, .no, .no, .no, .no, .no, .no, .no, .no])
  replace h := ob h; obtain ⟨t1, ht1, h⟩ := h
  refine q_seq (asgO (call_no (n := 2) (us := [.dat (en ((Ls.mk script_) : (Ls Int))), .dat (en ((3 : Int) : Int))]) (.v (v_ps rfl) (.v c_int .nil)) rfl rfl (sim_draw _ _ _ ht1)) rfl) ?_
  replace h := ob h; obtain ⟨t2, ht2, h⟩ := h
  replace h := ob h; obtain ⟨t3, ht3, h⟩ := h
  replace h := ob h; obtain ⟨t4, ht4, h⟩ := h
  replace h := ob h; obtain ⟨t5, ht5, h⟩ := h
  refine q_seq (asg (call_dl (n := 1) (us := [.dat (en ((Ls.mk [t2.1, t3.1, t4.1]) : (Ls (List (List Int)))))]) (.rd rfl (.w (lst_ok (.v (call_dl (n := 3) (us := [.dat (en ((6 : Int) : Int)), .dat (en ((8 : Int) : Int)), .dat (en ((2000 : Int) : Int))]) (.rd rfl (.v c_int (.v c_int (.v c_int .nil)))) rfl rfl rfl rfl (sim__law_market _ _ _ _ _ ht2)) (.v (call_dl (n := 3) (us := [.dat (en ((4 : Int) : Int)), .dat (en ((4 : Int) : Int)), .dat (en ((100 : Int) : Int))]) (.rd rfl (.v c_int (.v c_int (.v c_int .nil)))) rfl rfl rfl rfl (sim__law_market _ _ _ _ _ ht3)) (.v (call_dl (n := 3) (us := [.dat (en ((3 : Int) : Int)), .dat (en ((8 : Int) : Int)), .dat (en ((200 : Int) : Int))]) (.rd rfl (.v c_int (.v c_int (.v c_int .nil)))) rfl rfl rfl rfl (sim__law_market _ _ _ _ _ ht4)) .nil))) (len_le (n := 3) rfl (by decide))) rfl .nil)) rfl rfl rfl rfl (sim__law_of _ _ _ ht5)) rfl) ?_
  replace h := ob h; obtain ⟨t6, ht6, h⟩ := h
  refine q_seq (fz_ow (asgO (call_dl (n := 1) (us := [.dat (en (t5.1 : (List (List Int))))]) (.rd rfl (.v (v_ps rfl) .nil)) rfl rfl rfl rfl (sim__law_lots _ _ _ ht6)) rfl) rfl rfl) ?_
  replace h := ob h; obtain ⟨t7, ht7, h⟩ := h
  refine q_seq (fz_ps (par2 (call_no (n := 2) (us := [.dat (en (t5.1 : (List (List Int)))), .dic (dcD t6.1)]) (.v (v_ps rfl) (.v (v_ps rfl) .nil)) rfl rfl (sim__law_rule _ _ _ ht7)) c_bl rfl) rfl) ?_
  replace h := ctl_cases h; rcases h with ⟨t306, hl, h⟩ | ⟨r309, hl, h⟩
  · refine q_seq (for_eq (s_en (s_t (α := (List Int)) (l := t5.1) (v_ps rfl))) (forL_nx (Sh := fun (a207 : (Deal × Bool)) => [.ps (.dat (en ((Ls.mk script_) : (Ls Int)))), .ow (dlU a207.1), .ps (.dat (en (t5.1 : (List (List Int))))), .ps (.dic (dcD t6.1)), .ps (.dat (en (t7 : ((List (List Int)) × (List (List Int)))))), .ps (.dat (en (a207.2 : Bool))), .no, .no, .no, .no, .no, .no, .no, .no, .no]) (Rt := fun (r : Bool) rs => RtG [false] false (.dat (en (r : Bool))) [.no] rs) (a := (t6.2, true)) (fun a207 x8 c h => ?_) hl)) ?_
    · refine ⟨_, rfl, ?_⟩
      refine q_fg ?_
      replace h := ob h; obtain ⟨t208, ht208, h⟩ := h
      replace h := ob h; obtain ⟨t209, ht209, h⟩ := h
      replace h := ob h; obtain ⟨t210, ht210, h⟩ := h
      refine q_seq (fz_ps (asg (call_no (n := 1) (us := [.dat (en (t209 : (List (List (Option Int)))))]) (.v (xq2 (.v (xq2 (.v (xqb (.rd rfl (.rd rfl .nil)) rfl (sl01 (sl_t (α := (List Int)) (l := t5.1)))) (.v (tup_ok (.v (tup_ok (.v c_non .nil) (len_le (n := 1) rfl (by decide))) .nil) (len_le (n := 1) rfl (by decide))) .nil)) rfl (u2c ((coe_map (h := fun (z : (List Int)) => ((z.map (fun z => (some z))) : (List (Option Int)))) (fun z => (coe_map (h := fun (z : Int) => ((some z) : (Option Int))) (fun z => rfl) z)) (cut t5.1 none (some x8.1)))).symm ((coe_map (h := fun (z : (List Unit)) => ((z.map (fun z => (none : (Option Int)))) : (List (Option Int)))) (fun z => (coe_map (h := fun (z : Unit) => ((none : (Option Int)) : (Option Int))) (fun z => rfl) z)) [[()]])).symm (a_cat (α := (List (Option Int))) (a := ((cut t5.1 none (some x8.1)).map (fun z => (z.map (fun z => (some z)))))) (b := ([[()]].map (fun z => (z.map (fun z => (none : (Option Int))))))) ht208))) (.v (xqb (.rd rfl (.v (xq2 (.rd rfl (.v c_int .nil)) rfl a_add) .nil)) rfl (sl10 (sl_t (α := (List Int)) (l := t5.1)))) .nil)) rfl (u2c rfl ((coe_map (h := fun (z : (List Int)) => ((z.map (fun z => (some z))) : (List (Option Int)))) (fun z => (coe_map (h := fun (z : Int) => ((some z) : (Option Int))) (fun z => rfl) z)) (cut t5.1 (some (x8.1 + (1 : Int))) none))).symm (a_cat (α := (List (Option Int))) (a := t208) (b := ((cut t5.1 (some (x8.1 + (1 : Int))) none).map (fun z => (z.map (fun z => (some z)))))) ht209))) .nil) rfl rfl (sim__law_profiles_1 _ _ ht210)) rfl) rfl) ?_
      replace h := ob h; obtain ⟨t211, ht211, h⟩ := h
      replace h := ob h; obtain ⟨t212, ht212, h⟩ := h
      replace h := ite_so h; rcases h with ⟨hc, h⟩ | ⟨hc, h⟩
      · refine q_sif_t (tc (t_not (tst_ok (call_no (n := 2) (us := [.dat (en ((en (t211 : (List (List (Option Int))))) : D)), .dat (en ((en (t210 : (List (List (Option Int))))) : D))]) (.v (callP_no (n := 2) (us := [.dat (en (t5.1 : (List (List Int)))), .dat (en (x8.1 : Int))]) (.v (v_ps rfl) (.v (v_ps rfl) .nil)) rfl rfl (sim_others_of _ _ _ ht211)) (.v (xqb (.rd rfl .nil) rfl (k_tupL (α := (List (Option Int))) (l := t210))) .nil)) rfl rfl (sim_same _ _ _ ht212)))) hc) ?_
        refine q_ret c_bl ?_
        cases h
        exact ⟨⟨_, _, _, rfl⟩, ⟨_, rfl, rfl⟩⟩
      · refine q_sif_f (tc (t_not (tst_ok (call_no (n := 2) (us := [.dat (en ((en (t211 : (List (List (Option Int))))) : D)), .dat (en ((en (t210 : (List (List (Option Int))))) : D))]) (.v (callP_no (n := 2) (us := [.dat (en (t5.1 : (List (List Int)))), .dat (en (x8.1 : Int))]) (.v (v_ps rfl) (.v (v_ps rfl) .nil)) rfl rfl (sim_others_of _ _ _ ht211)) (.v (xqb (.rd rfl .nil) rfl (k_tupL (α := (List (Option Int))) (l := t210))) .nil)) rfl rfl (sim_same _ _ _ ht212)))) hc) ?_
        refine q_pass_k ?_
        replace h := ob h; obtain ⟨t250, ht250, h⟩ := h
        refine q_seq (forO_l rfl (forL_sim (Sh := fun (a238 : Bool) => [.ps (.dat (en ((Ls.mk script_) : (Ls Int)))), .ow (dlU a207.1), .ps (.dat (en (t5.1 : (List (List Int))))), .ps (.dic (dcD t6.1)), .ps (.dat (en (t7 : ((List (List Int)) × (List (List Int)))))), .ps (.dat (en (a238 : Bool))), .ps (.dat (en (x8.1 : Int))), .ps (.dat (en (x8.2 : (List Int)))), .ps (.dat (en ((Ls.mk t210) : (Ls (List (Option Int)))))), .no, .no, .no, .no, .no, .no]) (fun a238 x213 a' h => ?_) _ a207.2 _ ht250)) ?_
        · refine ⟨_, rfl, ?_⟩
          refine q_fg ?_
          replace h := ob h; obtain ⟨t243, ht243, h⟩ := h
          replace h := ob h; obtain ⟨t244, ht244, h⟩ := h
          refine q_seq (fz_ow (asgO (lc_goP (S0 := [.ps (.dat (en ((Ls.mk script_) : (Ls Int)))), .ow (dlU a207.1), .ps (.dat (en (t5.1 : (List (List Int))))), .ps (.dic (dcD t6.1)), .ps (.dat (en (t7 : ((List (List Int)) × (List (List Int)))))), .ps (.dat (en (a238 : Bool))), .ps (.dat (en (x8.1 : Int))), .ps (.dat (en (x8.2 : (List Int)))), .ps (.dat (en ((Ls.mk t210) : (Ls (List (Option Int)))))), .ps (.dat (en (x213 : (List (Option Int))))), .no, .no, .no, .no, .no]) (s_t (α := Int) (l := x8.2) (v_ps rfl)) rfl (fun x239 r h => by replace h := ob h; obtain ⟨t240, ht240, h⟩ := h; replace h := ob h; obtain ⟨t241, ht241, h⟩ := h; replace h := ob h; obtain ⟨t242, ht242, h⟩ := h; replace h := ite_so h; rcases h with ⟨hc, h⟩ | ⟨hc, h⟩ <;> first | (cases h; exact ⟨_, true, _, rfl, tc (tst_ok (xq2 (.rd rfl (.v (xq2 (.rd rfl (.v (xq2 (.v (xq2 (.v (xqb (.rd rfl (.rd rfl .nil)) rfl (sl01 (sl_t (α := (Option Int)) (l := x213)))) (.v (tup_ok (.v (v_ps rfl) .nil) (len_le (n := 1) rfl (by decide))) .nil)) rfl (u2c rfl ((coe_map (h := fun (z : Int) => ((some z) : (Option Int))) (fun z => rfl) [x239])).symm (a_cat (α := (Option Int)) (a := (cut x213 none (some x8.1))) (b := ([x239].map (fun z => (some z)))) ht240))) (.v (xqb (.rd rfl (.v (xq2 (.rd rfl (.v c_int .nil)) rfl a_add) .nil)) rfl (sl10 (sl_t (α := (Option Int)) (l := x213)))) .nil)) rfl (a_cat (α := (Option Int)) (a := t240) (b := (cut x213 (some (x8.1 + (1 : Int))) none)) ht241)) .nil)) rfl (ix_xX rfl ht242)) .nil)) rfl (lB (b_inT (α := Int) (x := x8.1) (l := t242))))) hc, ⟨rfl, _, _, (v_ps rfl), (fun z => nomatch z), rfl⟩⟩) | (cases h; exact ⟨_, false, _, rfl, tc (tst_ok (xq2 (.rd rfl (.v (xq2 (.rd rfl (.v (xq2 (.v (xq2 (.v (xqb (.rd rfl (.rd rfl .nil)) rfl (sl01 (sl_t (α := (Option Int)) (l := x213)))) (.v (tup_ok (.v (v_ps rfl) .nil) (len_le (n := 1) rfl (by decide))) .nil)) rfl (u2c rfl ((coe_map (h := fun (z : Int) => ((some z) : (Option Int))) (fun z => rfl) [x239])).symm (a_cat (α := (Option Int)) (a := (cut x213 none (some x8.1))) (b := ([x239].map (fun z => (some z)))) ht240))) (.v (xqb (.rd rfl (.v (xq2 (.rd rfl (.v c_int .nil)) rfl a_add) .nil)) rfl (sl10 (sl_t (α := (Option Int)) (l := x213)))) .nil)) rfl (a_cat (α := (Option Int)) (a := t240) (b := (cut x213 (some (x8.1 + (1 : Int))) none)) ht241)) .nil)) rfl (ix_xX rfl ht242)) .nil)) rfl (lB (b_inT (α := Int) (x := x8.1) (l := t242))))) hc, ⟨rfl, rfl⟩⟩)) ht243 ht244) rfl) rfl rfl) ?_
          replace h := ob h; obtain ⟨t249, ht249, h⟩ := h
          replace h := ite_so h; rcases h with ⟨hc, h⟩ | ⟨hc, h⟩
          · refine q_if_t (tc (t_andb (R := .ok t249 [.ps (.dat (en ((Ls.mk script_) : (Ls Int)))), .ow (dlU a207.1), .ps (.dat (en (t5.1 : (List (List Int))))), .ps (.dic (dcD t6.1)), .ps (.dat (en (t7 : ((List (List Int)) × (List (List Int)))))), .ps (.dat (en (a238 : Bool))), .ps (.dat (en (x8.1 : Int))), .ps (.dat (en (x8.2 : (List Int)))), .ps (.dat (en ((Ls.mk t210) : (Ls (List (Option Int)))))), .ps (.dat (en (x213 : (List (Option Int))))), .no, .ps (.dat (en ((Ls.mk t244) : (Ls Int)))), .no, .no, .no]) ht249 (tst_ok (xq2 (.rd rfl (.w (lst_ok .nil (len_le (n := 0) rfl (by decide))) rfl .nil)) rfl (lB (b_ne (α := (Ls Int)) (x := (Ls.mk (t244 : (List Int)))) (y := (Ls.mk ([] : (List Int)))) (by decide))))) (fun h => by replace h := ob h; obtain ⟨t247, ht247, h⟩ := h; replace h := ob h; obtain ⟨t248, ht248, h⟩ := h; replace h := Option.some.inj h; subst h; exact tvS (tst_ok (xq2 (.w (lc_goP (S0 := [.ps (.dat (en ((Ls.mk script_) : (Ls Int)))), .ow (dlU a207.1), .ps (.dat (en (t5.1 : (List (List Int))))), .ps (.dic (dcD t6.1)), .ps (.dat (en (t7 : ((List (List Int)) × (List (List Int)))))), .ps (.dat (en (a238 : Bool))), .ps (.dat (en (x8.1 : Int))), .ps (.dat (en (x8.2 : (List Int)))), .ps (.dat (en ((Ls.mk t210) : (Ls (List (Option Int)))))), .ps (.dat (en (x213 : (List (Option Int))))), .no, .ps (.dat (en ((Ls.mk t244) : (Ls Int)))), .no, .no, .no]) (s_t (α := Int) (l := x8.2) (v_ps rfl)) rfl (fun x245 r h => by replace h := ob h; obtain ⟨t246, ht246, h⟩ := h; replace h := ite_so h; rcases h with ⟨hc, h⟩ | ⟨hc, h⟩ <;> first | (cases h; exact ⟨_, true, _, rfl, tc (tst_ok (xq2 (.rd rfl (.v (xq2 (.rd rfl (.v c_int .nil)) rfl (ix_l (α := Int) (l := t244) ht246)) .nil)) rfl (lB b_ge))) hc, ⟨rfl, _, _, (v_ps rfl), (fun z => nomatch z), rfl⟩⟩) | (cases h; exact ⟨_, false, _, rfl, tc (tst_ok (xq2 (.rd rfl (.v (xq2 (.rd rfl (.v c_int .nil)) rfl (ix_l (α := Int) (l := t244) ht246)) .nil)) rfl (lB b_ge))) hc, ⟨rfl, rfl⟩⟩)) ht247 ht248) rfl (.rd rfl .nil)) rfl (lB (b_ne (α := (Ls Int)) (x := (Ls.mk (t248 : (List Int)))) (y := (Ls.mk (t244 : (List Int)))) (by decide))))) rfl) (fun h => by cases h; rfl)) hc) ?_
            refine q_end (asg c_bl rfl) ?_
            cases h
            exact Or.inl rfl
          · refine q_if_f (tc (t_andb (R := .ok t249 [.ps (.dat (en ((Ls.mk script_) : (Ls Int)))), .ow (dlU a207.1), .ps (.dat (en (t5.1 : (List (List Int))))), .ps (.dic (dcD t6.1)), .ps (.dat (en (t7 : ((List (List Int)) × (List (List Int)))))), .ps (.dat (en (a238 : Bool))), .ps (.dat (en (x8.1 : Int))), .ps (.dat (en (x8.2 : (List Int)))), .ps (.dat (en ((Ls.mk t210) : (Ls (List (Option Int)))))), .ps (.dat (en (x213 : (List (Option Int))))), .no, .ps (.dat (en ((Ls.mk t244) : (Ls Int)))), .no, .no, .no]) ht249 (tst_ok (xq2 (.rd rfl (.w (lst_ok .nil (len_le (n := 0) rfl (by decide))) rfl .nil)) rfl (lB (b_ne (α := (Ls Int)) (x := (Ls.mk (t244 : (List Int)))) (y := (Ls.mk ([] : (List Int)))) (by decide))))) (fun h => by replace h := ob h; obtain ⟨t247, ht247, h⟩ := h; replace h := ob h; obtain ⟨t248, ht248, h⟩ := h; replace h := Option.some.inj h; subst h; exact tvS (tst_ok (xq2 (.w (lc_goP (S0 := [.ps (.dat (en ((Ls.mk script_) : (Ls Int)))), .ow (dlU a207.1), .ps (.dat (en (t5.1 : (List (List Int))))), .ps (.dic (dcD t6.1)), .ps (.dat (en (t7 : ((List (List Int)) × (List (List Int)))))), .ps (.dat (en (a238 : Bool))), .ps (.dat (en (x8.1 : Int))), .ps (.dat (en (x8.2 : (List Int)))), .ps (.dat (en ((Ls.mk t210) : (Ls (List (Option Int)))))), .ps (.dat (en (x213 : (List (Option Int))))), .no, .ps (.dat (en ((Ls.mk t244) : (Ls Int)))), .no, .no, .no]) (s_t (α := Int) (l := x8.2) (v_ps rfl)) rfl (fun x245 r h => by replace h := ob h; obtain ⟨t246, ht246, h⟩ := h; replace h := ite_so h; rcases h with ⟨hc, h⟩ | ⟨hc, h⟩ <;> first | (cases h; exact ⟨_, true, _, rfl, tc (tst_ok (xq2 (.rd rfl (.v (xq2 (.rd rfl (.v c_int .nil)) rfl (ix_l (α := Int) (l := t244) ht246)) .nil)) rfl (lB b_ge))) hc, ⟨rfl, _, _, (v_ps rfl), (fun z => nomatch z), rfl⟩⟩) | (cases h; exact ⟨_, false, _, rfl, tc (tst_ok (xq2 (.rd rfl (.v (xq2 (.rd rfl (.v c_int .nil)) rfl (ix_l (α := Int) (l := t244) ht246)) .nil)) rfl (lB b_ge))) hc, ⟨rfl, rfl⟩⟩)) ht247 ht248) rfl (.rd rfl .nil)) rfl (lB (b_ne (α := (Ls Int)) (x := (Ls.mk (t248 : (List Int)))) (y := (Ls.mk (t244 : (List Int)))) (by decide))))) rfl) (fun h => by cases h; rfl)) hc) ?_
            refine q_pass ?_
            cases h
            exact Or.inl rfl
        replace h := ob h; obtain ⟨t251, ht251, h⟩ := h
        replace h := ctl_cases h; rcases h with ⟨t304, hl, h⟩ | ⟨r305, hl, h⟩
        · refine q_end (for_eq (s_r1 (.v c_int .nil) rfl ht251) (forL_nx (Sh := fun (a287 : Deal) => [.ps (.dat (en ((Ls.mk script_) : (Ls Int)))), .ow (dlU a287), .ps (.dat (en (t5.1 : (List (List Int))))), .ps (.dic (dcD t6.1)), .ps (.dat (en (t7 : ((List (List Int)) × (List (List Int)))))), .ps (.dat (en (t250 : Bool))), .ps (.dat (en (x8.1 : Int))), .ps (.dat (en (x8.2 : (List Int)))), .ps (.dat (en ((Ls.mk t210) : (Ls (List (Option Int)))))), .no, .no, .no, .no, .no, .no]) (Rt := fun (r : Bool) rs => RtG [false] false (.dat (en (r : Bool))) [.no] rs) (a := a207.1) (fun a287 x252 c h => ?_) hl)) ?_
          · refine ⟨_, rfl, ?_⟩
            refine q_fg ?_
            replace h := ob h; obtain ⟨t288, ht288, h⟩ := h
            replace h := ob h; obtain ⟨t289, ht289, h⟩ := h
            refine q_seq (par2 (call_dl (n := 1) (us := [.dat (en ((Ls.mk t210) : (Ls (List (Option Int)))))]) (.rd rfl (.v (v_ps rfl) .nil)) rfl rfl rfl rfl (sim__law_of _ _ _ ht288)) (call_dl (n := 1) (us := [.dat (en (x8.2 : (List Int)))]) (.rd rfl (.v (v_ps rfl) .nil)) rfl rfl rfl rfl (sim__law_of_1 _ _ _ ht289)) rfl) ?_
            replace h := ob h; obtain ⟨t290, ht290, h⟩ := h
            replace h := ob h; obtain ⟨t291, ht291, h⟩ := h
            refine q_seq (fz_ps (asg (xq2 (.v (xq2 (.v (xqb (.rd rfl (.rd rfl .nil)) rfl (sl01 (sl_t (α := (Option Int)) (l := t288.1)))) (.v (tup_ok (.v (v_ps rfl) .nil) (len_le (n := 1) rfl (by decide))) .nil)) rfl (u2c rfl ((coe_map (h := fun (z : Int) => ((some z) : (Option Int))) (fun z => rfl) [t289.1])).symm (a_cat (α := (Option Int)) (a := (cut t288.1 none (some x8.1))) (b := ([t289.1].map (fun z => (some z)))) ht290))) (.v (xqb (.rd rfl (.v (xq2 (.rd rfl (.v c_int .nil)) rfl a_add) .nil)) rfl (sl10 (sl_t (α := (Option Int)) (l := t288.1)))) .nil)) rfl (a_cat (α := (Option Int)) (a := t290) (b := (cut t288.1 (some (x8.1 + (1 : Int))) none)) ht291)) rfl) rfl) ?_
            replace h := ob h; obtain ⟨t292, ht292, h⟩ := h
            replace h := ob h; obtain ⟨t293, ht293, h⟩ := h
            replace h := ite_so h; rcases h with ⟨hc, h⟩ | ⟨hc, h⟩
            · refine q_sif_t (tc (t_not (tst_ok (call_no (n := 2) (us := [.dat (en ((en (t292 : (List (Option Int)))) : D)), .dat (en ((en (t291 : (List (Option Int)))) : D))]) (.v (callP_no (n := 3) (us := [.dat (en (t288.1 : (List (Option Int)))), .dat (en (x8.1 : Int)), .dat (en (t289.1 : Int))]) (.v (v_ps rfl) (.v (v_ps rfl) (.v (v_ps rfl) .nil))) rfl rfl (sim_with_level _ _ _ _ ht292)) (.v (v_ps rfl) .nil)) rfl rfl (sim_same _ _ _ ht293)))) hc) ?_
              refine q_ret c_bl ?_
              cases h
              exact ⟨⟨_, _, _, rfl⟩, ⟨_, rfl, rfl⟩⟩
            · refine q_sif_f (tc (t_not (tst_ok (call_no (n := 2) (us := [.dat (en ((en (t292 : (List (Option Int)))) : D)), .dat (en ((en (t291 : (List (Option Int)))) : D))]) (.v (callP_no (n := 3) (us := [.dat (en (t288.1 : (List (Option Int)))), .dat (en (x8.1 : Int)), .dat (en (t289.1 : Int))]) (.v (v_ps rfl) (.v (v_ps rfl) (.v (v_ps rfl) .nil))) rfl rfl (sim_with_level _ _ _ _ ht292)) (.v (v_ps rfl) .nil)) rfl rfl (sim_same _ _ _ ht293)))) hc) ?_
              refine q_pass_k ?_
              replace h := ob h; obtain ⟨t298, ht298, h⟩ := h
              replace h := ob h; obtain ⟨t299, ht299, h⟩ := h
              refine q_seq (fz_ow (asgO (lc_goP (S0 := [.ps (.dat (en ((Ls.mk script_) : (Ls Int)))), .ow (dlU t289.2), .ps (.dat (en (t5.1 : (List (List Int))))), .ps (.dic (dcD t6.1)), .ps (.dat (en (t7 : ((List (List Int)) × (List (List Int)))))), .ps (.dat (en (t250 : Bool))), .ps (.dat (en (x8.1 : Int))), .ps (.dat (en (x8.2 : (List Int)))), .ps (.dat (en ((Ls.mk t210) : (Ls (List (Option Int)))))), .ps (.dat (en (t288.1 : (List (Option Int))))), .ps (.dat (en (x252 : Int))), .no, .ps (.dat (en (t291 : (List (Option Int))))), .ps (.dat (en (t289.1 : Int))), .no]) (s_t (α := Int) (l := x8.2) (v_ps rfl)) rfl (fun x294 r h => by replace h := ob h; obtain ⟨t295, ht295, h⟩ := h; replace h := ob h; obtain ⟨t296, ht296, h⟩ := h; replace h := ob h; obtain ⟨t297, ht297, h⟩ := h; replace h := ite_so h; rcases h with ⟨hc, h⟩ | ⟨hc, h⟩ <;> first | (cases h; exact ⟨_, true, _, rfl, tc (tst_ok (xq2 (.rd rfl (.v (xq2 (.rd rfl (.v (xq2 (.v (xq2 (.v (xqb (.rd rfl (.rd rfl .nil)) rfl (sl01 (sl_t (α := (Option Int)) (l := t288.1)))) (.v (tup_ok (.v (v_ps rfl) .nil) (len_le (n := 1) rfl (by decide))) .nil)) rfl (u2c rfl ((coe_map (h := fun (z : Int) => ((some z) : (Option Int))) (fun z => rfl) [x294])).symm (a_cat (α := (Option Int)) (a := (cut t288.1 none (some x8.1))) (b := ([x294].map (fun z => (some z)))) ht295))) (.v (xqb (.rd rfl (.v (xq2 (.rd rfl (.v c_int .nil)) rfl a_add) .nil)) rfl (sl10 (sl_t (α := (Option Int)) (l := t288.1)))) .nil)) rfl (a_cat (α := (Option Int)) (a := t295) (b := (cut t288.1 (some (x8.1 + (1 : Int))) none)) ht296)) .nil)) rfl (ix_xX rfl ht297)) .nil)) rfl (lB (b_inT (α := Int) (x := x8.1) (l := t297))))) hc, ⟨rfl, _, _, (v_ps rfl), (fun z => nomatch z), rfl⟩⟩) | (cases h; exact ⟨_, false, _, rfl, tc (tst_ok (xq2 (.rd rfl (.v (xq2 (.rd rfl (.v (xq2 (.v (xq2 (.v (xqb (.rd rfl (.rd rfl .nil)) rfl (sl01 (sl_t (α := (Option Int)) (l := t288.1)))) (.v (tup_ok (.v (v_ps rfl) .nil) (len_le (n := 1) rfl (by decide))) .nil)) rfl (u2c rfl ((coe_map (h := fun (z : Int) => ((some z) : (Option Int))) (fun z => rfl) [x294])).symm (a_cat (α := (Option Int)) (a := (cut t288.1 none (some x8.1))) (b := ([x294].map (fun z => (some z)))) ht295))) (.v (xqb (.rd rfl (.v (xq2 (.rd rfl (.v c_int .nil)) rfl a_add) .nil)) rfl (sl10 (sl_t (α := (Option Int)) (l := t288.1)))) .nil)) rfl (a_cat (α := (Option Int)) (a := t295) (b := (cut t288.1 (some (x8.1 + (1 : Int))) none)) ht296)) .nil)) rfl (ix_xX rfl ht297)) .nil)) rfl (lB (b_inT (α := Int) (x := x8.1) (l := t297))))) hc, ⟨rfl, rfl⟩⟩)) ht298 ht299) rfl) rfl rfl) ?_
              replace h := ob h; obtain ⟨t300, ht300, h⟩ := h
              replace h := ob h; obtain ⟨t302, ht302, h⟩ := h
              replace h := ob h; obtain ⟨t303, ht303, h⟩ := h
              replace h := ite_so h; rcases h with ⟨hc, h⟩ | ⟨hc, h⟩
              · refine q_if_t (tc (t_not (tst_ok (call_no (n := 2) (us := [.dat (en ((en (t300 : (Option Int))) : D)), .dat (en ((en (t302 : (Option Int))) : D))]) (.v (callP_no (n := 3) (us := [.dat (en (t7 : ((List (List Int)) × (List (List Int))))), .dat (en (x8.1 : Int)), .dat (en (t288.1 : (List (Option Int))))]) (.v (v_ps rfl) (.v (v_ps rfl) (.v (v_ps rfl) .nil))) rfl rfl (sim_least_winning _ _ _ _ ht300)) (.v (i_b (R := .ok false (.dat (en (t302 : (Option Int)))) [.ps (.dat (en ((Ls.mk script_) : (Ls Int)))), .ow (dlU t289.2), .ps (.dat (en (t5.1 : (List (List Int))))), .ps (.dic (dcD t6.1)), .ps (.dat (en (t7 : ((List (List Int)) × (List (List Int)))))), .ps (.dat (en (t250 : Bool))), .ps (.dat (en (x8.1 : Int))), .ps (.dat (en (x8.2 : (List Int)))), .ps (.dat (en ((Ls.mk t210) : (Ls (List (Option Int)))))), .ps (.dat (en (t288.1 : (List (Option Int))))), .ps (.dat (en (x252 : Int))), .ps (.dat (en ((Ls.mk t299) : (Ls Int)))), .ps (.dat (en (t291 : (List (Option Int))))), .ps (.dat (en (t289.1 : Int))), .no]) ht302 (tst_ok (xq2 (.rd rfl (.w (lst_ok .nil (len_le (n := 0) rfl (by decide))) rfl .nil)) rfl (lB (b_ne (α := (Ls Int)) (x := (Ls.mk (t299 : (List Int)))) (y := (Ls.mk ([] : (List Int)))) (by decide))))) (fun hc h => by replace h := ob h; obtain ⟨t301, ht301, h⟩ := h; replace h := Option.some.inj h; subst h; exact evS (xq2 (.rd rfl (.v c_int .nil)) rfl (ix_l (α := Int) (l := t299) ht301)) rfl) (fun hc h => by replace h := Option.some.inj h; subst h; exact evS c_non rfl)) .nil)) rfl rfl (sim_same _ _ _ ht303)))) hc) ?_
                refine q_ret c_bl ?_
                cases h
                exact ⟨⟨_, _, _, rfl⟩, ⟨_, rfl, rfl⟩⟩
              · refine q_if_f (tc (t_not (tst_ok (call_no (n := 2) (us := [.dat (en ((en (t300 : (Option Int))) : D)), .dat (en ((en (t302 : (Option Int))) : D))]) (.v (callP_no (n := 3) (us := [.dat (en (t7 : ((List (List Int)) × (List (List Int))))), .dat (en (x8.1 : Int)), .dat (en (t288.1 : (List (Option Int))))]) (.v (v_ps rfl) (.v (v_ps rfl) (.v (v_ps rfl) .nil))) rfl rfl (sim_least_winning _ _ _ _ ht300)) (.v (i_b (R := .ok false (.dat (en (t302 : (Option Int)))) [.ps (.dat (en ((Ls.mk script_) : (Ls Int)))), .ow (dlU t289.2), .ps (.dat (en (t5.1 : (List (List Int))))), .ps (.dic (dcD t6.1)), .ps (.dat (en (t7 : ((List (List Int)) × (List (List Int)))))), .ps (.dat (en (t250 : Bool))), .ps (.dat (en (x8.1 : Int))), .ps (.dat (en (x8.2 : (List Int)))), .ps (.dat (en ((Ls.mk t210) : (Ls (List (Option Int)))))), .ps (.dat (en (t288.1 : (List (Option Int))))), .ps (.dat (en (x252 : Int))), .ps (.dat (en ((Ls.mk t299) : (Ls Int)))), .ps (.dat (en (t291 : (List (Option Int))))), .ps (.dat (en (t289.1 : Int))), .no]) ht302 (tst_ok (xq2 (.rd rfl (.w (lst_ok .nil (len_le (n := 0) rfl (by decide))) rfl .nil)) rfl (lB (b_ne (α := (Ls Int)) (x := (Ls.mk (t299 : (List Int)))) (y := (Ls.mk ([] : (List Int)))) (by decide))))) (fun hc h => by replace h := ob h; obtain ⟨t301, ht301, h⟩ := h; replace h := Option.some.inj h; subst h; exact evS (xq2 (.rd rfl (.v c_int .nil)) rfl (ix_l (α := Int) (l := t299) ht301)) rfl) (fun hc h => by replace h := Option.some.inj h; subst h; exact evS c_non rfl)) .nil)) rfl rfl (sim_same _ _ _ ht303)))) hc) ?_
                refine q_pass ?_
                cases h
                exact Or.inl rfl
          cases h
          exact Or.inl rfl
        · refine q_to_e (for_rtg (s_r1 (.v c_int .nil) rfl ht251) (forL_rt (Sh := fun (a287 : Deal) => [.ps (.dat (en ((Ls.mk script_) : (Ls Int)))), .ow (dlU a287), .ps (.dat (en (t5.1 : (List (List Int))))), .ps (.dic (dcD t6.1)), .ps (.dat (en (t7 : ((List (List Int)) × (List (List Int)))))), .ps (.dat (en (t250 : Bool))), .ps (.dat (en (x8.1 : Int))), .ps (.dat (en (x8.2 : (List Int)))), .ps (.dat (en ((Ls.mk t210) : (Ls (List (Option Int)))))), .no, .no, .no, .no, .no, .no]) (Rt := fun (r : Bool) rs => RtG [false] false (.dat (en (r : Bool))) [.no] rs) (a := a207.1) (fun a287 x252 c h => ?_) hl)) ?_
          · refine ⟨_, rfl, ?_⟩
            refine q_fg ?_
            replace h := ob h; obtain ⟨t288, ht288, h⟩ := h
            replace h := ob h; obtain ⟨t289, ht289, h⟩ := h
            refine q_seq (par2 (call_dl (n := 1) (us := [.dat (en ((Ls.mk t210) : (Ls (List (Option Int)))))]) (.rd rfl (.v (v_ps rfl) .nil)) rfl rfl rfl rfl (sim__law_of _ _ _ ht288)) (call_dl (n := 1) (us := [.dat (en (x8.2 : (List Int)))]) (.rd rfl (.v (v_ps rfl) .nil)) rfl rfl rfl rfl (sim__law_of_1 _ _ _ ht289)) rfl) ?_
            replace h := ob h; obtain ⟨t290, ht290, h⟩ := h
            replace h := ob h; obtain ⟨t291, ht291, h⟩ := h
            refine q_seq (fz_ps (asg (xq2 (.v (xq2 (.v (xqb (.rd rfl (.rd rfl .nil)) rfl (sl01 (sl_t (α := (Option Int)) (l := t288.1)))) (.v (tup_ok (.v (v_ps rfl) .nil) (len_le (n := 1) rfl (by decide))) .nil)) rfl (u2c rfl ((coe_map (h := fun (z : Int) => ((some z) : (Option Int))) (fun z => rfl) [t289.1])).symm (a_cat (α := (Option Int)) (a := (cut t288.1 none (some x8.1))) (b := ([t289.1].map (fun z => (some z)))) ht290))) (.v (xqb (.rd rfl (.v (xq2 (.rd rfl (.v c_int .nil)) rfl a_add) .nil)) rfl (sl10 (sl_t (α := (Option Int)) (l := t288.1)))) .nil)) rfl (a_cat (α := (Option Int)) (a := t290) (b := (cut t288.1 (some (x8.1 + (1 : Int))) none)) ht291)) rfl) rfl) ?_
            replace h := ob h; obtain ⟨t292, ht292, h⟩ := h
            replace h := ob h; obtain ⟨t293, ht293, h⟩ := h
            replace h := ite_so h; rcases h with ⟨hc, h⟩ | ⟨hc, h⟩
            · refine q_sif_t (tc (t_not (tst_ok (call_no (n := 2) (us := [.dat (en ((en (t292 : (List (Option Int)))) : D)), .dat (en ((en (t291 : (List (Option Int)))) : D))]) (.v (callP_no (n := 3) (us := [.dat (en (t288.1 : (List (Option Int)))), .dat (en (x8.1 : Int)), .dat (en (t289.1 : Int))]) (.v (v_ps rfl) (.v (v_ps rfl) (.v (v_ps rfl) .nil))) rfl rfl (sim_with_level _ _ _ _ ht292)) (.v (v_ps rfl) .nil)) rfl rfl (sim_same _ _ _ ht293)))) hc) ?_
              refine q_ret c_bl ?_
              cases h
              exact ⟨⟨_, _, _, rfl⟩, ⟨_, rfl, rfl⟩⟩
            · refine q_sif_f (tc (t_not (tst_ok (call_no (n := 2) (us := [.dat (en ((en (t292 : (List (Option Int)))) : D)), .dat (en ((en (t291 : (List (Option Int)))) : D))]) (.v (callP_no (n := 3) (us := [.dat (en (t288.1 : (List (Option Int)))), .dat (en (x8.1 : Int)), .dat (en (t289.1 : Int))]) (.v (v_ps rfl) (.v (v_ps rfl) (.v (v_ps rfl) .nil))) rfl rfl (sim_with_level _ _ _ _ ht292)) (.v (v_ps rfl) .nil)) rfl rfl (sim_same _ _ _ ht293)))) hc) ?_
              refine q_pass_k ?_
              replace h := ob h; obtain ⟨t298, ht298, h⟩ := h
              replace h := ob h; obtain ⟨t299, ht299, h⟩ := h
              refine q_seq (fz_ow (asgO (lc_goP (S0 := [.ps (.dat (en ((Ls.mk script_) : (Ls Int)))), .ow (dlU t289.2), .ps (.dat (en (t5.1 : (List (List Int))))), .ps (.dic (dcD t6.1)), .ps (.dat (en (t7 : ((List (List Int)) × (List (List Int)))))), .ps (.dat (en (t250 : Bool))), .ps (.dat (en (x8.1 : Int))), .ps (.dat (en (x8.2 : (List Int)))), .ps (.dat (en ((Ls.mk t210) : (Ls (List (Option Int)))))), .ps (.dat (en (t288.1 : (List (Option Int))))), .ps (.dat (en (x252 : Int))), .no, .ps (.dat (en (t291 : (List (Option Int))))), .ps (.dat (en (t289.1 : Int))), .no]) (s_t (α := Int) (l := x8.2) (v_ps rfl)) rfl (fun x294 r h => by replace h := ob h; obtain ⟨t295, ht295, h⟩ := h; replace h := ob h; obtain ⟨t296, ht296, h⟩ := h; replace h := ob h; obtain ⟨t297, ht297, h⟩ := h; replace h := ite_so h; rcases h with ⟨hc, h⟩ | ⟨hc, h⟩ <;> first | (cases h; exact ⟨_, true, _, rfl, tc (tst_ok (xq2 (.rd rfl (.v (xq2 (.rd rfl (.v (xq2 (.v (xq2 (.v (xqb (.rd rfl (.rd rfl .nil)) rfl (sl01 (sl_t (α := (Option Int)) (l := t288.1)))) (.v (tup_ok (.v (v_ps rfl) .nil) (len_le (n := 1) rfl (by decide))) .nil)) rfl (u2c rfl ((coe_map (h := fun (z : Int) => ((some z) : (Option Int))) (fun z => rfl) [x294])).symm (a_cat (α := (Option Int)) (a := (cut t288.1 none (some x8.1))) (b := ([x294].map (fun z => (some z)))) ht295))) (.v (xqb (.rd rfl (.v (xq2 (.rd rfl (.v c_int .nil)) rfl a_add) .nil)) rfl (sl10 (sl_t (α := (Option Int)) (l := t288.1)))) .nil)) rfl (a_cat (α := (Option Int)) (a := t295) (b := (cut t288.1 (some (x8.1 + (1 : Int))) none)) ht296)) .nil)) rfl (ix_xX rfl ht297)) .nil)) rfl (lB (b_inT (α := Int) (x := x8.1) (l := t297))))) hc, ⟨rfl, _, _, (v_ps rfl), (fun z => nomatch z), rfl⟩⟩) | (cases h; exact ⟨_, false, _, rfl, tc (tst_ok (xq2 (.rd rfl (.v (xq2 (.rd rfl (.v (xq2 (.v (xq2 (.v (xqb (.rd rfl (.rd rfl .nil)) rfl (sl01 (sl_t (α := (Option Int)) (l := t288.1)))) (.v (tup_ok (.v (v_ps rfl) .nil) (len_le (n := 1) rfl (by decide))) .nil)) rfl (u2c rfl ((coe_map (h := fun (z : Int) => ((some z) : (Option Int))) (fun z => rfl) [x294])).symm (a_cat (α := (Option Int)) (a := (cut t288.1 none (some x8.1))) (b := ([x294].map (fun z => (some z)))) ht295))) (.v (xqb (.rd rfl (.v (xq2 (.rd rfl (.v c_int .nil)) rfl a_add) .nil)) rfl (sl10 (sl_t (α := (Option Int)) (l := t288.1)))) .nil)) rfl (a_cat (α := (Option Int)) (a := t295) (b := (cut t288.1 (some (x8.1 + (1 : Int))) none)) ht296)) .nil)) rfl (ix_xX rfl ht297)) .nil)) rfl (lB (b_inT (α := Int) (x := x8.1) (l := t297))))) hc, ⟨rfl, rfl⟩⟩)) ht298 ht299) rfl) rfl rfl) ?_
              replace h := ob h; obtain ⟨t300, ht300, h⟩ := h
              replace h := ob h; obtain ⟨t302, ht302, h⟩ := h
              replace h := ob h; obtain ⟨t303, ht303, h⟩ := h
              replace h := ite_so h; rcases h with ⟨hc, h⟩ | ⟨hc, h⟩
              · refine q_if_t (tc (t_not (tst_ok (call_no (n := 2) (us := [.dat (en ((en (t300 : (Option Int))) : D)), .dat (en ((en (t302 : (Option Int))) : D))]) (.v (callP_no (n := 3) (us := [.dat (en (t7 : ((List (List Int)) × (List (List Int))))), .dat (en (x8.1 : Int)), .dat (en (t288.1 : (List (Option Int))))]) (.v (v_ps rfl) (.v (v_ps rfl) (.v (v_ps rfl) .nil))) rfl rfl (sim_least_winning _ _ _ _ ht300)) (.v (i_b (R := .ok false (.dat (en (t302 : (Option Int)))) [.ps (.dat (en ((Ls.mk script_) : (Ls Int)))), .ow (dlU t289.2), .ps (.dat (en (t5.1 : (List (List Int))))), .ps (.dic (dcD t6.1)), .ps (.dat (en (t7 : ((List (List Int)) × (List (List Int)))))), .ps (.dat (en (t250 : Bool))), .ps (.dat (en (x8.1 : Int))), .ps (.dat (en (x8.2 : (List Int)))), .ps (.dat (en ((Ls.mk t210) : (Ls (List (Option Int)))))), .ps (.dat (en (t288.1 : (List (Option Int))))), .ps (.dat (en (x252 : Int))), .ps (.dat (en ((Ls.mk t299) : (Ls Int)))), .ps (.dat (en (t291 : (List (Option Int))))), .ps (.dat (en (t289.1 : Int))), .no]) ht302 (tst_ok (xq2 (.rd rfl (.w (lst_ok .nil (len_le (n := 0) rfl (by decide))) rfl .nil)) rfl (lB (b_ne (α := (Ls Int)) (x := (Ls.mk (t299 : (List Int)))) (y := (Ls.mk ([] : (List Int)))) (by decide))))) (fun hc h => by replace h := ob h; obtain ⟨t301, ht301, h⟩ := h; replace h := Option.some.inj h; subst h; exact evS (xq2 (.rd rfl (.v c_int .nil)) rfl (ix_l (α := Int) (l := t299) ht301)) rfl) (fun hc h => by replace h := Option.some.inj h; subst h; exact evS c_non rfl)) .nil)) rfl rfl (sim_same _ _ _ ht303)))) hc) ?_
                refine q_ret c_bl ?_
                cases h
                exact ⟨⟨_, _, _, rfl⟩, ⟨_, rfl, rfl⟩⟩
              · refine q_if_f (tc (t_not (tst_ok (call_no (n := 2) (us := [.dat (en ((en (t300 : (Option Int))) : D)), .dat (en ((en (t302 : (Option Int))) : D))]) (.v (callP_no (n := 3) (us := [.dat (en (t7 : ((List (List Int)) × (List (List Int))))), .dat (en (x8.1 : Int)), .dat (en (t288.1 : (List (Option Int))))]) (.v (v_ps rfl) (.v (v_ps rfl) (.v (v_ps rfl) .nil))) rfl rfl (sim_least_winning _ _ _ _ ht300)) (.v (i_b (R := .ok false (.dat (en (t302 : (Option Int)))) [.ps (.dat (en ((Ls.mk script_) : (Ls Int)))), .ow (dlU t289.2), .ps (.dat (en (t5.1 : (List (List Int))))), .ps (.dic (dcD t6.1)), .ps (.dat (en (t7 : ((List (List Int)) × (List (List Int)))))), .ps (.dat (en (t250 : Bool))), .ps (.dat (en (x8.1 : Int))), .ps (.dat (en (x8.2 : (List Int)))), .ps (.dat (en ((Ls.mk t210) : (Ls (List (Option Int)))))), .ps (.dat (en (t288.1 : (List (Option Int))))), .ps (.dat (en (x252 : Int))), .ps (.dat (en ((Ls.mk t299) : (Ls Int)))), .ps (.dat (en (t291 : (List (Option Int))))), .ps (.dat (en (t289.1 : Int))), .no]) ht302 (tst_ok (xq2 (.rd rfl (.w (lst_ok .nil (len_le (n := 0) rfl (by decide))) rfl .nil)) rfl (lB (b_ne (α := (Ls Int)) (x := (Ls.mk (t299 : (List Int)))) (y := (Ls.mk ([] : (List Int)))) (by decide))))) (fun hc h => by replace h := ob h; obtain ⟨t301, ht301, h⟩ := h; replace h := Option.some.inj h; subst h; exact evS (xq2 (.rd rfl (.v c_int .nil)) rfl (ix_l (α := Int) (l := t299) ht301)) rfl) (fun hc h => by replace h := Option.some.inj h; subst h; exact evS c_non rfl)) .nil)) rfl rfl (sim_same _ _ _ ht303)))) hc) ?_
                refine q_pass ?_
                cases h
                exact Or.inl rfl
          intro st m
          cases h
          exact ⟨⟨_, _, _, rfl⟩, ⟨st, rfl, m⟩⟩
    replace h := ob h; obtain ⟨t307, ht307, h⟩ := h
    replace h := ob h; obtain ⟨t308, ht308, h⟩ := h
    refine q_ret (frz0 (call_no (n := 2) (us := [.dat (en ((en (t307 : Bool)) : D)), .dat (en ((en (t306.2 : Bool)) : D))]) (.v (callP_no (n := 1) (us := [.dat (en (t7 : ((List (List Int)) × (List (List Int)))))]) (.v (v_ps rfl) .nil) rfl rfl (sim_is_told_by_least _ _ ht307)) (.v (v_ps rfl) .nil)) rfl rfl (sim_same _ _ _ ht308))) ?_
    cases h
    rfl
  · refine q_srt_e (for_rtg (s_en (s_t (α := (List Int)) (l := t5.1) (v_ps rfl))) (forL_rt (Sh := fun (a207 : (Deal × Bool)) => [.ps (.dat (en ((Ls.mk script_) : (Ls Int)))), .ow (dlU a207.1), .ps (.dat (en (t5.1 : (List (List Int))))), .ps (.dic (dcD t6.1)), .ps (.dat (en (t7 : ((List (List Int)) × (List (List Int)))))), .ps (.dat (en (a207.2 : Bool))), .no, .no, .no, .no, .no, .no, .no, .no, .no]) (Rt := fun (r : Bool) rs => RtG [false] false (.dat (en (r : Bool))) [.no] rs) (a := (t6.2, true)) (fun a207 x8 c h => ?_) hl)) ?_
    · refine ⟨_, rfl, ?_⟩
      refine q_fg ?_
      replace h := ob h; obtain ⟨t208, ht208, h⟩ := h
      replace h := ob h; obtain ⟨t209, ht209, h⟩ := h
      replace h := ob h; obtain ⟨t210, ht210, h⟩ := h
      refine q_seq (fz_ps (asg (call_no (n := 1) (us := [.dat (en (t209 : (List (List (Option Int)))))]) (.v (xq2 (.v (xq2 (.v (xqb (.rd rfl (.rd rfl .nil)) rfl (sl01 (sl_t (α := (List Int)) (l := t5.1)))) (.v (tup_ok (.v (tup_ok (.v c_non .nil) (len_le (n := 1) rfl (by decide))) .nil) (len_le (n := 1) rfl (by decide))) .nil)) rfl (u2c ((coe_map (h := fun (z : (List Int)) => ((z.map (fun z => (some z))) : (List (Option Int)))) (fun z => (coe_map (h := fun (z : Int) => ((some z) : (Option Int))) (fun z => rfl) z)) (cut t5.1 none (some x8.1)))).symm ((coe_map (h := fun (z : (List Unit)) => ((z.map (fun z => (none : (Option Int)))) : (List (Option Int)))) (fun z => (coe_map (h := fun (z : Unit) => ((none : (Option Int)) : (Option Int))) (fun z => rfl) z)) [[()]])).symm (a_cat (α := (List (Option Int))) (a := ((cut t5.1 none (some x8.1)).map (fun z => (z.map (fun z => (some z)))))) (b := ([[()]].map (fun z => (z.map (fun z => (none : (Option Int))))))) ht208))) (.v (xqb (.rd rfl (.v (xq2 (.rd rfl (.v c_int .nil)) rfl a_add) .nil)) rfl (sl10 (sl_t (α := (List Int)) (l := t5.1)))) .nil)) rfl (u2c rfl ((coe_map (h := fun (z : (List Int)) => ((z.map (fun z => (some z))) : (List (Option Int)))) (fun z => (coe_map (h := fun (z : Int) => ((some z) : (Option Int))) (fun z => rfl) z)) (cut t5.1 (some (x8.1 + (1 : Int))) none))).symm (a_cat (α := (List (Option Int))) (a := t208) (b := ((cut t5.1 (some (x8.1 + (1 : Int))) none).map (fun z => (z.map (fun z => (some z)))))) ht209))) .nil) rfl rfl (sim__law_profiles_1 _ _ ht210)) rfl) rfl) ?_
      replace h := ob h; obtain ⟨t211, ht211, h⟩ := h
      replace h := ob h; obtain ⟨t212, ht212, h⟩ := h
      replace h := ite_so h; rcases h with ⟨hc, h⟩ | ⟨hc, h⟩
      · refine q_sif_t (tc (t_not (tst_ok (call_no (n := 2) (us := [.dat (en ((en (t211 : (List (List (Option Int))))) : D)), .dat (en ((en (t210 : (List (List (Option Int))))) : D))]) (.v (callP_no (n := 2) (us := [.dat (en (t5.1 : (List (List Int)))), .dat (en (x8.1 : Int))]) (.v (v_ps rfl) (.v (v_ps rfl) .nil)) rfl rfl (sim_others_of _ _ _ ht211)) (.v (xqb (.rd rfl .nil) rfl (k_tupL (α := (List (Option Int))) (l := t210))) .nil)) rfl rfl (sim_same _ _ _ ht212)))) hc) ?_
        refine q_ret c_bl ?_
        cases h
        exact ⟨⟨_, _, _, rfl⟩, ⟨_, rfl, rfl⟩⟩
      · refine q_sif_f (tc (t_not (tst_ok (call_no (n := 2) (us := [.dat (en ((en (t211 : (List (List (Option Int))))) : D)), .dat (en ((en (t210 : (List (List (Option Int))))) : D))]) (.v (callP_no (n := 2) (us := [.dat (en (t5.1 : (List (List Int)))), .dat (en (x8.1 : Int))]) (.v (v_ps rfl) (.v (v_ps rfl) .nil)) rfl rfl (sim_others_of _ _ _ ht211)) (.v (xqb (.rd rfl .nil) rfl (k_tupL (α := (List (Option Int))) (l := t210))) .nil)) rfl rfl (sim_same _ _ _ ht212)))) hc) ?_
        refine q_pass_k ?_
        replace h := ob h; obtain ⟨t250, ht250, h⟩ := h
        refine q_seq (forO_l rfl (forL_sim (Sh := fun (a238 : Bool) => [.ps (.dat (en ((Ls.mk script_) : (Ls Int)))), .ow (dlU a207.1), .ps (.dat (en (t5.1 : (List (List Int))))), .ps (.dic (dcD t6.1)), .ps (.dat (en (t7 : ((List (List Int)) × (List (List Int)))))), .ps (.dat (en (a238 : Bool))), .ps (.dat (en (x8.1 : Int))), .ps (.dat (en (x8.2 : (List Int)))), .ps (.dat (en ((Ls.mk t210) : (Ls (List (Option Int)))))), .no, .no, .no, .no, .no, .no]) (fun a238 x213 a' h => ?_) _ a207.2 _ ht250)) ?_
        · refine ⟨_, rfl, ?_⟩
          refine q_fg ?_
          replace h := ob h; obtain ⟨t243, ht243, h⟩ := h
          replace h := ob h; obtain ⟨t244, ht244, h⟩ := h
          refine q_seq (fz_ow (asgO (lc_goP (S0 := [.ps (.dat (en ((Ls.mk script_) : (Ls Int)))), .ow (dlU a207.1), .ps (.dat (en (t5.1 : (List (List Int))))), .ps (.dic (dcD t6.1)), .ps (.dat (en (t7 : ((List (List Int)) × (List (List Int)))))), .ps (.dat (en (a238 : Bool))), .ps (.dat (en (x8.1 : Int))), .ps (.dat (en (x8.2 : (List Int)))), .ps (.dat (en ((Ls.mk t210) : (Ls (List (Option Int)))))), .ps (.dat (en (x213 : (List (Option Int))))), .no, .no, .no, .no, .no]) (s_t (α := Int) (l := x8.2) (v_ps rfl)) rfl (fun x239 r h => by replace h := ob h; obtain ⟨t240, ht240, h⟩ := h; replace h := ob h; obtain ⟨t241, ht241, h⟩ := h; replace h := ob h; obtain ⟨t242, ht242, h⟩ := h; replace h := ite_so h; rcases h with ⟨hc, h⟩ | ⟨hc, h⟩ <;> first | (cases h; exact ⟨_, true, _, rfl, tc (tst_ok (xq2 (.rd rfl (.v (xq2 (.rd rfl (.v (xq2 (.v (xq2 (.v (xqb (.rd rfl (.rd rfl .nil)) rfl (sl01 (sl_t (α := (Option Int)) (l := x213)))) (.v (tup_ok (.v (v_ps rfl) .nil) (len_le (n := 1) rfl (by decide))) .nil)) rfl (u2c rfl ((coe_map (h := fun (z : Int) => ((some z) : (Option Int))) (fun z => rfl) [x239])).symm (a_cat (α := (Option Int)) (a := (cut x213 none (some x8.1))) (b := ([x239].map (fun z => (some z)))) ht240))) (.v (xqb (.rd rfl (.v (xq2 (.rd rfl (.v c_int .nil)) rfl a_add) .nil)) rfl (sl10 (sl_t (α := (Option Int)) (l := x213)))) .nil)) rfl (a_cat (α := (Option Int)) (a := t240) (b := (cut x213 (some (x8.1 + (1 : Int))) none)) ht241)) .nil)) rfl (ix_xX rfl ht242)) .nil)) rfl (lB (b_inT (α := Int) (x := x8.1) (l := t242))))) hc, ⟨rfl, _, _, (v_ps rfl), (fun z => nomatch z), rfl⟩⟩) | (cases h; exact ⟨_, false, _, rfl, tc (tst_ok (xq2 (.rd rfl (.v (xq2 (.rd rfl (.v (xq2 (.v (xq2 (.v (xqb (.rd rfl (.rd rfl .nil)) rfl (sl01 (sl_t (α := (Option Int)) (l := x213)))) (.v (tup_ok (.v (v_ps rfl) .nil) (len_le (n := 1) rfl (by decide))) .nil)) rfl (u2c rfl ((coe_map (h := fun (z : Int) => ((some z) : (Option Int))) (fun z => rfl) [x239])).symm (a_cat (α := (Option Int)) (a := (cut x213 none (some x8.1))) (b := ([x239].map (fun z => (some z)))) ht240))) (.v (xqb (.rd rfl (.v (xq2 (.rd rfl (.v c_int .nil)) rfl a_add) .nil)) rfl (sl10 (sl_t (α := (Option Int)) (l := x213)))) .nil)) rfl (a_cat (α := (Option Int)) (a := t240) (b := (cut x213 (some (x8.1 + (1 : Int))) none)) ht241)) .nil)) rfl (ix_xX rfl ht242)) .nil)) rfl (lB (b_inT (α := Int) (x := x8.1) (l := t242))))) hc, ⟨rfl, rfl⟩⟩)) ht243 ht244) rfl) rfl rfl) ?_
          replace h := ob h; obtain ⟨t249, ht249, h⟩ := h
          replace h := ite_so h; rcases h with ⟨hc, h⟩ | ⟨hc, h⟩
          · refine q_if_t (tc (t_andb (R := .ok t249 [.ps (.dat (en ((Ls.mk script_) : (Ls Int)))), .ow (dlU a207.1), .ps (.dat (en (t5.1 : (List (List Int))))), .ps (.dic (dcD t6.1)), .ps (.dat (en (t7 : ((List (List Int)) × (List (List Int)))))), .ps (.dat (en (a238 : Bool))), .ps (.dat (en (x8.1 : Int))), .ps (.dat (en (x8.2 : (List Int)))), .ps (.dat (en ((Ls.mk t210) : (Ls (List (Option Int)))))), .ps (.dat (en (x213 : (List (Option Int))))), .no, .ps (.dat (en ((Ls.mk t244) : (Ls Int)))), .no, .no, .no]) ht249 (tst_ok (xq2 (.rd rfl (.w (lst_ok .nil (len_le (n := 0) rfl (by decide))) rfl .nil)) rfl (lB (b_ne (α := (Ls Int)) (x := (Ls.mk (t244 : (List Int)))) (y := (Ls.mk ([] : (List Int)))) (by decide))))) (fun h => by replace h := ob h; obtain ⟨t247, ht247, h⟩ := h; replace h := ob h; obtain ⟨t248, ht248, h⟩ := h; replace h := Option.some.inj h; subst h; exact tvS (tst_ok (xq2 (.w (lc_goP (S0 := [.ps (.dat (en ((Ls.mk script_) : (Ls Int)))), .ow (dlU a207.1), .ps (.dat (en (t5.1 : (List (List Int))))), .ps (.dic (dcD t6.1)), .ps (.dat (en (t7 : ((List (List Int)) × (List (List Int)))))), .ps (.dat (en (a238 : Bool))), .ps (.dat (en (x8.1 : Int))), .ps (.dat (en (x8.2 : (List Int)))), .ps (.dat (en ((Ls.mk t210) : (Ls (List (Option Int)))))), .ps (.dat (en (x213 : (List (Option Int))))), .no, .ps (.dat (en ((Ls.mk t244) : (Ls Int)))), .no, .no, .no]) (s_t (α := Int) (l := x8.2) (v_ps rfl)) rfl (fun x245 r h => by replace h := ob h; obtain ⟨t246, ht246, h⟩ := h; replace h := ite_so h; rcases h with ⟨hc, h⟩ | ⟨hc, h⟩ <;> first | (cases h; exact ⟨_, true, _, rfl, tc (tst_ok (xq2 (.rd rfl (.v (xq2 (.rd rfl (.v c_int .nil)) rfl (ix_l (α := Int) (l := t244) ht246)) .nil)) rfl (lB b_ge))) hc, ⟨rfl, _, _, (v_ps rfl), (fun z => nomatch z), rfl⟩⟩) | (cases h; exact ⟨_, false, _, rfl, tc (tst_ok (xq2 (.rd rfl (.v (xq2 (.rd rfl (.v c_int .nil)) rfl (ix_l (α := Int) (l := t244) ht246)) .nil)) rfl (lB b_ge))) hc, ⟨rfl, rfl⟩⟩)) ht247 ht248) rfl (.rd rfl .nil)) rfl (lB (b_ne (α := (Ls Int)) (x := (Ls.mk (t248 : (List Int)))) (y := (Ls.mk (t244 : (List Int)))) (by decide))))) rfl) (fun h => by cases h; rfl)) hc) ?_
            refine q_end (asg c_bl rfl) ?_
            cases h
            exact Or.inl rfl
          · refine q_if_f (tc (t_andb (R := .ok t249 [.ps (.dat (en ((Ls.mk script_) : (Ls Int)))), .ow (dlU a207.1), .ps (.dat (en (t5.1 : (List (List Int))))), .ps (.dic (dcD t6.1)), .ps (.dat (en (t7 : ((List (List Int)) × (List (List Int)))))), .ps (.dat (en (a238 : Bool))), .ps (.dat (en (x8.1 : Int))), .ps (.dat (en (x8.2 : (List Int)))), .ps (.dat (en ((Ls.mk t210) : (Ls (List (Option Int)))))), .ps (.dat (en (x213 : (List (Option Int))))), .no, .ps (.dat (en ((Ls.mk t244) : (Ls Int)))), .no, .no, .no]) ht249 (tst_ok (xq2 (.rd rfl (.w (lst_ok .nil (len_le (n := 0) rfl (by decide))) rfl .nil)) rfl (lB (b_ne (α := (Ls Int)) (x := (Ls.mk (t244 : (List Int)))) (y := (Ls.mk ([] : (List Int)))) (by decide))))) (fun h => by replace h := ob h; obtain ⟨t247, ht247, h⟩ := h; replace h := ob h; obtain ⟨t248, ht248, h⟩ := h; replace h := Option.some.inj h; subst h; exact tvS (tst_ok (xq2 (.w (lc_goP (S0 := [.ps (.dat (en ((Ls.mk script_) : (Ls Int)))), .ow (dlU a207.1), .ps (.dat (en (t5.1 : (List (List Int))))), .ps (.dic (dcD t6.1)), .ps (.dat (en (t7 : ((List (List Int)) × (List (List Int)))))), .ps (.dat (en (a238 : Bool))), .ps (.dat (en (x8.1 : Int))), .ps (.dat (en (x8.2 : (List Int)))), .ps (.dat (en ((Ls.mk t210) : (Ls (List (Option Int)))))), .ps (.dat (en (x213 : (List (Option Int))))), .no, .ps (.dat (en ((Ls.mk t244) : (Ls Int)))), .no, .no, .no]) (s_t (α := Int) (l := x8.2) (v_ps rfl)) rfl (fun x245 r h => by replace h := ob h; obtain ⟨t246, ht246, h⟩ := h; replace h := ite_so h; rcases h with ⟨hc, h⟩ | ⟨hc, h⟩ <;> first | (cases h; exact ⟨_, true, _, rfl, tc (tst_ok (xq2 (.rd rfl (.v (xq2 (.rd rfl (.v c_int .nil)) rfl (ix_l (α := Int) (l := t244) ht246)) .nil)) rfl (lB b_ge))) hc, ⟨rfl, _, _, (v_ps rfl), (fun z => nomatch z), rfl⟩⟩) | (cases h; exact ⟨_, false, _, rfl, tc (tst_ok (xq2 (.rd rfl (.v (xq2 (.rd rfl (.v c_int .nil)) rfl (ix_l (α := Int) (l := t244) ht246)) .nil)) rfl (lB b_ge))) hc, ⟨rfl, rfl⟩⟩)) ht247 ht248) rfl (.rd rfl .nil)) rfl (lB (b_ne (α := (Ls Int)) (x := (Ls.mk (t248 : (List Int)))) (y := (Ls.mk (t244 : (List Int)))) (by decide))))) rfl) (fun h => by cases h; rfl)) hc) ?_
            refine q_pass ?_
            cases h
            exact Or.inl rfl
        replace h := ob h; obtain ⟨t251, ht251, h⟩ := h
        replace h := ctl_cases h; rcases h with ⟨t304, hl, h⟩ | ⟨r305, hl, h⟩
        · refine q_end (for_eq (s_r1 (.v c_int .nil) rfl ht251) (forL_nx (Sh := fun (a287 : Deal) => [.ps (.dat (en ((Ls.mk script_) : (Ls Int)))), .ow (dlU a287), .ps (.dat (en (t5.1 : (List (List Int))))), .ps (.dic (dcD t6.1)), .ps (.dat (en (t7 : ((List (List Int)) × (List (List Int)))))), .ps (.dat (en (t250 : Bool))), .ps (.dat (en (x8.1 : Int))), .ps (.dat (en (x8.2 : (List Int)))), .ps (.dat (en ((Ls.mk t210) : (Ls (List (Option Int)))))), .no, .no, .no, .no, .no, .no]) (Rt := fun (r : Bool) rs => RtG [false] false (.dat (en (r : Bool))) [.no] rs) (a := a207.1) (fun a287 x252 c h => ?_) hl)) ?_
          · refine ⟨_, rfl, ?_⟩
            refine q_fg ?_
            replace h := ob h; obtain ⟨t288, ht288, h⟩ := h
            replace h := ob h; obtain ⟨t289, ht289, h⟩ := h
            refine q_seq (par2 (call_dl (n := 1) (us := [.dat (en ((Ls.mk t210) : (Ls (List (Option Int)))))]) (.rd rfl (.v (v_ps rfl) .nil)) rfl rfl rfl rfl (sim__law_of _ _ _ ht288)) (call_dl (n := 1) (us := [.dat (en (x8.2 : (List Int)))]) (.rd rfl (.v (v_ps rfl) .nil)) rfl rfl rfl rfl (sim__law_of_1 _ _ _ ht289)) rfl) ?_
            replace h := ob h; obtain ⟨t290, ht290, h⟩ := h
            replace h := ob h; obtain ⟨t291, ht291, h⟩ := h
            refine q_seq (fz_ps (asg (xq2 (.v (xq2 (.v (xqb (.rd rfl (.rd rfl .nil)) rfl (sl01 (sl_t (α := (Option Int)) (l := t288.1)))) (.v (tup_ok (.v (v_ps rfl) .nil) (len_le (n := 1) rfl (by decide))) .nil)) rfl (u2c rfl ((coe_map (h := fun (z : Int) => ((some z) : (Option Int))) (fun z => rfl) [t289.1])).symm (a_cat (α := (Option Int)) (a := (cut t288.1 none (some x8.1))) (b := ([t289.1].map (fun z => (some z)))) ht290))) (.v (xqb (.rd rfl (.v (xq2 (.rd rfl (.v c_int .nil)) rfl a_add) .nil)) rfl (sl10 (sl_t (α := (Option Int)) (l := t288.1)))) .nil)) rfl (a_cat (α := (Option Int)) (a := t290) (b := (cut t288.1 (some (x8.1 + (1 : Int))) none)) ht291)) rfl) rfl) ?_
            replace h := ob h; obtain ⟨t292, ht292, h⟩ := h
            replace h := ob h; obtain ⟨t293, ht293, h⟩ := h
            replace h := ite_so h; rcases h with ⟨hc, h⟩ | ⟨hc, h⟩
            · refine q_sif_t (tc (t_not (tst_ok (call_no (n := 2) (us := [.dat (en ((en (t292 : (List (Option Int)))) : D)), .dat (en ((en (t291 : (List (Option Int)))) : D))]) (.v (callP_no (n := 3) (us := [.dat (en (t288.1 : (List (Option Int)))), .dat (en (x8.1 : Int)), .dat (en (t289.1 : Int))]) (.v (v_ps rfl) (.v (v_ps rfl) (.v (v_ps rfl) .nil))) rfl rfl (sim_with_level _ _ _ _ ht292)) (.v (v_ps rfl) .nil)) rfl rfl (sim_same _ _ _ ht293)))) hc) ?_
              refine q_ret c_bl ?_
              cases h
              exact ⟨⟨_, _, _, rfl⟩, ⟨_, rfl, rfl⟩⟩
            · refine q_sif_f (tc (t_not (tst_ok (call_no (n := 2) (us := [.dat (en ((en (t292 : (List (Option Int)))) : D)), .dat (en ((en (t291 : (List (Option Int)))) : D))]) (.v (callP_no (n := 3) (us := [.dat (en (t288.1 : (List (Option Int)))), .dat (en (x8.1 : Int)), .dat (en (t289.1 : Int))]) (.v (v_ps rfl) (.v (v_ps rfl) (.v (v_ps rfl) .nil))) rfl rfl (sim_with_level _ _ _ _ ht292)) (.v (v_ps rfl) .nil)) rfl rfl (sim_same _ _ _ ht293)))) hc) ?_
              refine q_pass_k ?_
              replace h := ob h; obtain ⟨t298, ht298, h⟩ := h
              replace h := ob h; obtain ⟨t299, ht299, h⟩ := h
              refine q_seq (fz_ow (asgO (lc_goP (S0 := [.ps (.dat (en ((Ls.mk script_) : (Ls Int)))), .ow (dlU t289.2), .ps (.dat (en (t5.1 : (List (List Int))))), .ps (.dic (dcD t6.1)), .ps (.dat (en (t7 : ((List (List Int)) × (List (List Int)))))), .ps (.dat (en (t250 : Bool))), .ps (.dat (en (x8.1 : Int))), .ps (.dat (en (x8.2 : (List Int)))), .ps (.dat (en ((Ls.mk t210) : (Ls (List (Option Int)))))), .ps (.dat (en (t288.1 : (List (Option Int))))), .ps (.dat (en (x252 : Int))), .no, .ps (.dat (en (t291 : (List (Option Int))))), .ps (.dat (en (t289.1 : Int))), .no]) (s_t (α := Int) (l := x8.2) (v_ps rfl)) rfl (fun x294 r h => by replace h := ob h; obtain ⟨t295, ht295, h⟩ := h; replace h := ob h; obtain ⟨t296, ht296, h⟩ := h; replace h := ob h; obtain ⟨t297, ht297, h⟩ := h; replace h := ite_so h; rcases h with ⟨hc, h⟩ | ⟨hc, h⟩ <;> first | (cases h; exact ⟨_, true, _, rfl, tc (tst_ok (xq2 (.rd rfl (.v (xq2 (.rd rfl (.v (xq2 (.v (xq2 (.v (xqb (.rd rfl (.rd rfl .nil)) rfl (sl01 (sl_t (α := (Option Int)) (l := t288.1)))) (.v (tup_ok (.v (v_ps rfl) .nil) (len_le (n := 1) rfl (by decide))) .nil)) rfl (u2c rfl ((coe_map (h := fun (z : Int) => ((some z) : (Option Int))) (fun z => rfl) [x294])).symm (a_cat (α := (Option Int)) (a := (cut t288.1 none (some x8.1))) (b := ([x294].map (fun z => (some z)))) ht295))) (.v (xqb (.rd rfl (.v (xq2 (.rd rfl (.v c_int .nil)) rfl a_add) .nil)) rfl (sl10 (sl_t (α := (Option Int)) (l := t288.1)))) .nil)) rfl (a_cat (α := (Option Int)) (a := t295) (b := (cut t288.1 (some (x8.1 + (1 : Int))) none)) ht296)) .nil)) rfl (ix_xX rfl ht297)) .nil)) rfl (lB (b_inT (α := Int) (x := x8.1) (l := t297))))) hc, ⟨rfl, _, _, (v_ps rfl), (fun z => nomatch z), rfl⟩⟩) | (cases h; exact ⟨_, false, _, rfl, tc (tst_ok (xq2 (.rd rfl (.v (xq2 (.rd rfl (.v (xq2 (.v (xq2 (.v (xqb (.rd rfl (.rd rfl .nil)) rfl (sl01 (sl_t (α := (Option Int)) (l := t288.1)))) (.v (tup_ok (.v (v_ps rfl) .nil) (len_le (n := 1) rfl (by decide))) .nil)) rfl (u2c rfl ((coe_map (h := fun (z : Int) => ((some z) : (Option Int))) (fun z => rfl) [x294])).symm (a_cat (α := (Option Int)) (a := (cut t288.1 none (some x8.1))) (b := ([x294].map (fun z => (some z)))) ht295))) (.v (xqb (.rd rfl (.v (xq2 (.rd rfl (.v c_int .nil)) rfl a_add) .nil)) rfl (sl10 (sl_t (α := (Option Int)) (l := t288.1)))) .nil)) rfl (a_cat (α := (Option Int)) (a := t295) (b := (cut t288.1 (some (x8.1 + (1 : Int))) none)) ht296)) .nil)) rfl (ix_xX rfl ht297)) .nil)) rfl (lB (b_inT (α := Int) (x := x8.1) (l := t297))))) hc, ⟨rfl, rfl⟩⟩)) ht298 ht299) rfl) rfl rfl) ?_
              replace h := ob h; obtain ⟨t300, ht300, h⟩ := h
              replace h := ob h; obtain ⟨t302, ht302, h⟩ := h
              replace h := ob h; obtain ⟨t303, ht303, h⟩ := h
              replace h := ite_so h; rcases h with ⟨hc, h⟩ | ⟨hc, h⟩
              · refine q_if_t (tc (t_not (tst_ok (call_no (n := 2) (us := [.dat (en ((en (t300 : (Option Int))) : D)), .dat (en ((en (t302 : (Option Int))) : D))]) (.v (callP_no (n := 3) (us := [.dat (en (t7 : ((List (List Int)) × (List (List Int))))), .dat (en (x8.1 : Int)), .dat (en (t288.1 : (List (Option Int))))]) (.v (v_ps rfl) (.v (v_ps rfl) (.v (v_ps rfl) .nil))) rfl rfl (sim_least_winning _ _ _ _ ht300)) (.v (i_b (R := .ok false (.dat (en (t302 : (Option Int)))) [.ps (.dat (en ((Ls.mk script_) : (Ls Int)))), .ow (dlU t289.2), .ps (.dat (en (t5.1 : (List (List Int))))), .ps (.dic (dcD t6.1)), .ps (.dat (en (t7 : ((List (List Int)) × (List (List Int)))))), .ps (.dat (en (t250 : Bool))), .ps (.dat (en (x8.1 : Int))), .ps (.dat (en (x8.2 : (List Int)))), .ps (.dat (en ((Ls.mk t210) : (Ls (List (Option Int)))))), .ps (.dat (en (t288.1 : (List (Option Int))))), .ps (.dat (en (x252 : Int))), .ps (.dat (en ((Ls.mk t299) : (Ls Int)))), .ps (.dat (en (t291 : (List (Option Int))))), .ps (.dat (en (t289.1 : Int))), .no]) ht302 (tst_ok (xq2 (.rd rfl (.w (lst_ok .nil (len_le (n := 0) rfl (by decide))) rfl .nil)) rfl (lB (b_ne (α := (Ls Int)) (x := (Ls.mk (t299 : (List Int)))) (y := (Ls.mk ([] : (List Int)))) (by decide))))) (fun hc h => by replace h := ob h; obtain ⟨t301, ht301, h⟩ := h; replace h := Option.some.inj h; subst h; exact evS (xq2 (.rd rfl (.v c_int .nil)) rfl (ix_l (α := Int) (l := t299) ht301)) rfl) (fun hc h => by replace h := Option.some.inj h; subst h; exact evS c_non rfl)) .nil)) rfl rfl (sim_same _ _ _ ht303)))) hc) ?_
                refine q_ret c_bl ?_
                cases h
                exact ⟨⟨_, _, _, rfl⟩, ⟨_, rfl, rfl⟩⟩
              · refine q_if_f (tc (t_not (tst_ok (call_no (n := 2) (us := [.dat (en ((en (t300 : (Option Int))) : D)), .dat (en ((en (t302 : (Option Int))) : D))]) (.v (callP_no (n := 3) (us := [.dat (en (t7 : ((List (List Int)) × (List (List Int))))), .dat (en (x8.1 : Int)), .dat (en (t288.1 : (List (Option Int))))]) (.v (v_ps rfl) (.v (v_ps rfl) (.v (v_ps rfl) .nil))) rfl rfl (sim_least_winning _ _ _ _ ht300)) (.v (i_b (R := .ok false (.dat (en (t302 : (Option Int)))) [.ps (.dat (en ((Ls.mk script_) : (Ls Int)))), .ow (dlU t289.2), .ps (.dat (en (t5.1 : (List (List Int))))), .ps (.dic (dcD t6.1)), .ps (.dat (en (t7 : ((List (List Int)) × (List (List Int)))))), .ps (.dat (en (t250 : Bool))), .ps (.dat (en (x8.1 : Int))), .ps (.dat (en (x8.2 : (List Int)))), .ps (.dat (en ((Ls.mk t210) : (Ls (List (Option Int)))))), .ps (.dat (en (t288.1 : (List (Option Int))))), .ps (.dat (en (x252 : Int))), .ps (.dat (en ((Ls.mk t299) : (Ls Int)))), .ps (.dat (en (t291 : (List (Option Int))))), .ps (.dat (en (t289.1 : Int))), .no]) ht302 (tst_ok (xq2 (.rd rfl (.w (lst_ok .nil (len_le (n := 0) rfl (by decide))) rfl .nil)) rfl (lB (b_ne (α := (Ls Int)) (x := (Ls.mk (t299 : (List Int)))) (y := (Ls.mk ([] : (List Int)))) (by decide))))) (fun hc h => by replace h := ob h; obtain ⟨t301, ht301, h⟩ := h; replace h := Option.some.inj h; subst h; exact evS (xq2 (.rd rfl (.v c_int .nil)) rfl (ix_l (α := Int) (l := t299) ht301)) rfl) (fun hc h => by replace h := Option.some.inj h; subst h; exact evS c_non rfl)) .nil)) rfl rfl (sim_same _ _ _ ht303)))) hc) ?_
                refine q_pass ?_
                cases h
                exact Or.inl rfl
          cases h
          exact Or.inl rfl
        · refine q_to_e (for_rtg (s_r1 (.v c_int .nil) rfl ht251) (forL_rt (Sh := fun (a287 : Deal) => [.ps (.dat (en ((Ls.mk script_) : (Ls Int)))), .ow (dlU a287), .ps (.dat (en (t5.1 : (List (List Int))))), .ps (.dic (dcD t6.1)), .ps (.dat (en (t7 : ((List (List Int)) × (List (List Int)))))), .ps (.dat (en (t250 : Bool))), .ps (.dat (en (x8.1 : Int))), .ps (.dat (en (x8.2 : (List Int)))), .ps (.dat (en ((Ls.mk t210) : (Ls (List (Option Int)))))), .no, .no, .no, .no, .no, .no]) (Rt := fun (r : Bool) rs => RtG [false] false (.dat (en (r : Bool))) [.no] rs) (a := a207.1) (fun a287 x252 c h => ?_) hl)) ?_
          · refine ⟨_, rfl, ?_⟩
            refine q_fg ?_
            replace h := ob h; obtain ⟨t288, ht288, h⟩ := h
            replace h := ob h; obtain ⟨t289, ht289, h⟩ := h
            refine q_seq (par2 (call_dl (n := 1) (us := [.dat (en ((Ls.mk t210) : (Ls (List (Option Int)))))]) (.rd rfl (.v (v_ps rfl) .nil)) rfl rfl rfl rfl (sim__law_of _ _ _ ht288)) (call_dl (n := 1) (us := [.dat (en (x8.2 : (List Int)))]) (.rd rfl (.v (v_ps rfl) .nil)) rfl rfl rfl rfl (sim__law_of_1 _ _ _ ht289)) rfl) ?_
            replace h := ob h; obtain ⟨t290, ht290, h⟩ := h
            replace h := ob h; obtain ⟨t291, ht291, h⟩ := h
            refine q_seq (fz_ps (asg (xq2 (.v (xq2 (.v (xqb (.rd rfl (.rd rfl .nil)) rfl (sl01 (sl_t (α := (Option Int)) (l := t288.1)))) (.v (tup_ok (.v (v_ps rfl) .nil) (len_le (n := 1) rfl (by decide))) .nil)) rfl (u2c rfl ((coe_map (h := fun (z : Int) => ((some z) : (Option Int))) (fun z => rfl) [t289.1])).symm (a_cat (α := (Option Int)) (a := (cut t288.1 none (some x8.1))) (b := ([t289.1].map (fun z => (some z)))) ht290))) (.v (xqb (.rd rfl (.v (xq2 (.rd rfl (.v c_int .nil)) rfl a_add) .nil)) rfl (sl10 (sl_t (α := (Option Int)) (l := t288.1)))) .nil)) rfl (a_cat (α := (Option Int)) (a := t290) (b := (cut t288.1 (some (x8.1 + (1 : Int))) none)) ht291)) rfl) rfl) ?_
            replace h := ob h; obtain ⟨t292, ht292, h⟩ := h
            replace h := ob h; obtain ⟨t293, ht293, h⟩ := h
            replace h := ite_so h; rcases h with ⟨hc, h⟩ | ⟨hc, h⟩
            · refine q_sif_t (tc (t_not (tst_ok (call_no (n := 2) (us := [.dat (en ((en (t292 : (List (Option Int)))) : D)), .dat (en ((en (t291 : (List (Option Int)))) : D))]) (.v (callP_no (n := 3) (us := [.dat (en (t288.1 : (List (Option Int)))), .dat (en (x8.1 : Int)), .dat (en (t289.1 : Int))]) (.v (v_ps rfl) (.v (v_ps rfl) (.v (v_ps rfl) .nil))) rfl rfl (sim_with_level _ _ _ _ ht292)) (.v (v_ps rfl) .nil)) rfl rfl (sim_same _ _ _ ht293)))) hc) ?_
              refine q_ret c_bl ?_
              cases h
              exact ⟨⟨_, _, _, rfl⟩, ⟨_, rfl, rfl⟩⟩
            · refine q_sif_f (tc (t_not (tst_ok (call_no (n := 2) (us := [.dat (en ((en (t292 : (List (Option Int)))) : D)), .dat (en ((en (t291 : (List (Option Int)))) : D))]) (.v (callP_no (n := 3) (us := [.dat (en (t288.1 : (List (Option Int)))), .dat (en (x8.1 : Int)), .dat (en (t289.1 : Int))]) (.v (v_ps rfl) (.v (v_ps rfl) (.v (v_ps rfl) .nil))) rfl rfl (sim_with_level _ _ _ _ ht292)) (.v (v_ps rfl) .nil)) rfl rfl (sim_same _ _ _ ht293)))) hc) ?_
              refine q_pass_k ?_
              replace h := ob h; obtain ⟨t298, ht298, h⟩ := h
              replace h := ob h; obtain ⟨t299, ht299, h⟩ := h
              refine q_seq (fz_ow (asgO (lc_goP (S0 := [.ps (.dat (en ((Ls.mk script_) : (Ls Int)))), .ow (dlU t289.2), .ps (.dat (en (t5.1 : (List (List Int))))), .ps (.dic (dcD t6.1)), .ps (.dat (en (t7 : ((List (List Int)) × (List (List Int)))))), .ps (.dat (en (t250 : Bool))), .ps (.dat (en (x8.1 : Int))), .ps (.dat (en (x8.2 : (List Int)))), .ps (.dat (en ((Ls.mk t210) : (Ls (List (Option Int)))))), .ps (.dat (en (t288.1 : (List (Option Int))))), .ps (.dat (en (x252 : Int))), .no, .ps (.dat (en (t291 : (List (Option Int))))), .ps (.dat (en (t289.1 : Int))), .no]) (s_t (α := Int) (l := x8.2) (v_ps rfl)) rfl (fun x294 r h => by replace h := ob h; obtain ⟨t295, ht295, h⟩ := h; replace h := ob h; obtain ⟨t296, ht296, h⟩ := h; replace h := ob h; obtain ⟨t297, ht297, h⟩ := h; replace h := ite_so h; rcases h with ⟨hc, h⟩ | ⟨hc, h⟩ <;> first | (cases h; exact ⟨_, true, _, rfl, tc (tst_ok (xq2 (.rd rfl (.v (xq2 (.rd rfl (.v (xq2 (.v (xq2 (.v (xqb (.rd rfl (.rd rfl .nil)) rfl (sl01 (sl_t (α := (Option Int)) (l := t288.1)))) (.v (tup_ok (.v (v_ps rfl) .nil) (len_le (n := 1) rfl (by decide))) .nil)) rfl (u2c rfl ((coe_map (h := fun (z : Int) => ((some z) : (Option Int))) (fun z => rfl) [x294])).symm (a_cat (α := (Option Int)) (a := (cut t288.1 none (some x8.1))) (b := ([x294].map (fun z => (some z)))) ht295))) (.v (xqb (.rd rfl (.v (xq2 (.rd rfl (.v c_int .nil)) rfl a_add) .nil)) rfl (sl10 (sl_t (α := (Option Int)) (l := t288.1)))) .nil)) rfl (a_cat (α := (Option Int)) (a := t295) (b := (cut t288.1 (some (x8.1 + (1 : Int))) none)) ht296)) .nil)) rfl (ix_xX rfl ht297)) .nil)) rfl (lB (b_inT (α := Int) (x := x8.1) (l := t297))))) hc, ⟨rfl, _, _, (v_ps rfl), (fun z => nomatch z), rfl⟩⟩) | (cases h; exact ⟨_, false, _, rfl, tc (tst_ok (xq2 (.rd rfl (.v (xq2 (.rd rfl (.v (xq2 (.v (xq2 (.v (xqb (.rd rfl (.rd rfl .nil)) rfl (sl01 (sl_t (α := (Option Int)) (l := t288.1)))) (.v (tup_ok (.v (v_ps rfl) .nil) (len_le (n := 1) rfl (by decide))) .nil)) rfl (u2c rfl ((coe_map (h := fun (z : Int) => ((some z) : (Option Int))) (fun z => rfl) [x294])).symm (a_cat (α := (Option Int)) (a := (cut t288.1 none (some x8.1))) (b := ([x294].map (fun z => (some z)))) ht295))) (.v (xqb (.rd rfl (.v (xq2 (.rd rfl (.v c_int .nil)) rfl a_add) .nil)) rfl (sl10 (sl_t (α := (Option Int)) (l := t288.1)))) .nil)) rfl (a_cat (α := (Option Int)) (a := t295) (b := (cut t288.1 (some (x8.1 + (1 : Int))) none)) ht296)) .nil)) rfl (ix_xX rfl ht297)) .nil)) rfl (lB (b_inT (α := Int) (x := x8.1) (l := t297))))) hc, ⟨rfl, rfl⟩⟩)) ht298 ht299) rfl) rfl rfl) ?_
              replace h := ob h; obtain ⟨t300, ht300, h⟩ := h
              replace h := ob h; obtain ⟨t302, ht302, h⟩ := h
              replace h := ob h; obtain ⟨t303, ht303, h⟩ := h
              replace h := ite_so h; rcases h with ⟨hc, h⟩ | ⟨hc, h⟩
              · refine q_if_t (tc (t_not (tst_ok (call_no (n := 2) (us := [.dat (en ((en (t300 : (Option Int))) : D)), .dat (en ((en (t302 : (Option Int))) : D))]) (.v (callP_no (n := 3) (us := [.dat (en (t7 : ((List (List Int)) × (List (List Int))))), .dat (en (x8.1 : Int)), .dat (en (t288.1 : (List (Option Int))))]) (.v (v_ps rfl) (.v (v_ps rfl) (.v (v_ps rfl) .nil))) rfl rfl (sim_least_winning _ _ _ _ ht300)) (.v (i_b (R := .ok false (.dat (en (t302 : (Option Int)))) [.ps (.dat (en ((Ls.mk script_) : (Ls Int)))), .ow (dlU t289.2), .ps (.dat (en (t5.1 : (List (List Int))))), .ps (.dic (dcD t6.1)), .ps (.dat (en (t7 : ((List (List Int)) × (List (List Int)))))), .ps (.dat (en (t250 : Bool))), .ps (.dat (en (x8.1 : Int))), .ps (.dat (en (x8.2 : (List Int)))), .ps (.dat (en ((Ls.mk t210) : (Ls (List (Option Int)))))), .ps (.dat (en (t288.1 : (List (Option Int))))), .ps (.dat (en (x252 : Int))), .ps (.dat (en ((Ls.mk t299) : (Ls Int)))), .ps (.dat (en (t291 : (List (Option Int))))), .ps (.dat (en (t289.1 : Int))), .no]) ht302 (tst_ok (xq2 (.rd rfl (.w (lst_ok .nil (len_le (n := 0) rfl (by decide))) rfl .nil)) rfl (lB (b_ne (α := (Ls Int)) (x := (Ls.mk (t299 : (List Int)))) (y := (Ls.mk ([] : (List Int)))) (by decide))))) (fun hc h => by replace h := ob h; obtain ⟨t301, ht301, h⟩ := h; replace h := Option.some.inj h; subst h; exact evS (xq2 (.rd rfl (.v c_int .nil)) rfl (ix_l (α := Int) (l := t299) ht301)) rfl) (fun hc h => by replace h := Option.some.inj h; subst h; exact evS c_non rfl)) .nil)) rfl rfl (sim_same _ _ _ ht303)))) hc) ?_
                refine q_ret c_bl ?_
                cases h
                exact ⟨⟨_, _, _, rfl⟩, ⟨_, rfl, rfl⟩⟩
              · refine q_if_f (tc (t_not (tst_ok (call_no (n := 2) (us := [.dat (en ((en (t300 : (Option Int))) : D)), .dat (en ((en (t302 : (Option Int))) : D))]) (.v (callP_no (n := 3) (us := [.dat (en (t7 : ((List (List Int)) × (List (List Int))))), .dat (en (x8.1 : Int)), .dat (en (t288.1 : (List (Option Int))))]) (.v (v_ps rfl) (.v (v_ps rfl) (.v (v_ps rfl) .nil))) rfl rfl (sim_least_winning _ _ _ _ ht300)) (.v (i_b (R := .ok false (.dat (en (t302 : (Option Int)))) [.ps (.dat (en ((Ls.mk script_) : (Ls Int)))), .ow (dlU t289.2), .ps (.dat (en (t5.1 : (List (List Int))))), .ps (.dic (dcD t6.1)), .ps (.dat (en (t7 : ((List (List Int)) × (List (List Int)))))), .ps (.dat (en (t250 : Bool))), .ps (.dat (en (x8.1 : Int))), .ps (.dat (en (x8.2 : (List Int)))), .ps (.dat (en ((Ls.mk t210) : (Ls (List (Option Int)))))), .ps (.dat (en (t288.1 : (List (Option Int))))), .ps (.dat (en (x252 : Int))), .ps (.dat (en ((Ls.mk t299) : (Ls Int)))), .ps (.dat (en (t291 : (List (Option Int))))), .ps (.dat (en (t289.1 : Int))), .no]) ht302 (tst_ok (xq2 (.rd rfl (.w (lst_ok .nil (len_le (n := 0) rfl (by decide))) rfl .nil)) rfl (lB (b_ne (α := (Ls Int)) (x := (Ls.mk (t299 : (List Int)))) (y := (Ls.mk ([] : (List Int)))) (by decide))))) (fun hc h => by replace h := ob h; obtain ⟨t301, ht301, h⟩ := h; replace h := Option.some.inj h; subst h; exact evS (xq2 (.rd rfl (.v c_int .nil)) rfl (ix_l (α := Int) (l := t299) ht301)) rfl) (fun hc h => by replace h := Option.some.inj h; subst h; exact evS c_non rfl)) .nil)) rfl rfl (sim_same _ _ _ ht303)))) hc) ?_
                refine q_pass ?_
                cases h
                exact Or.inl rfl
          intro st m
          cases h
          exact ⟨⟨_, _, _, rfl⟩, ⟨st, rfl, m⟩⟩
    intro st m
    cases h
    exact RtG.body ⟨st, rfl, m⟩
end Pl

namespace Pl
open PySem L2 PySem.Spec PyProof.Rows
/-! what is drawn -/
theorem of_some {α : Type} [Rp α] (d : Deal) {l : List α} (h : l ≠ []) (hl : l.length < 2 ^ 60) : ∃ p, F__law_of d l = some p ∧ p.1 ∈ l := by
  have hp := List.length_pos_iff.mpr h
  obtain ⟨p, e, h0, h1⟩ := any_some d (m := (l.length : Int)) (by omega) (by
    have : (2 : Int) ^ 70 = 1180591620717411303424 := by decide
    have : (2 : Nat) ^ 60 = 1152921504606846976 := by decide
    omega)
  obtain ⟨x, e2, hx⟩ := atI_mem h0 h1
  refine ⟨(x, p.2), ?_, hx⟩
  unfold F__law_of
  rw [bnd e, bnd e2]
theorem of_some' {α : Type} [Rp α] (d : Deal) {l : List α} (h : l ≠ []) (hl : l.length < 2 ^ 60) : ∃ x d', F__law_of d l = some (x, d') ∧ x ∈ l := by
  obtain ⟨p, e, m⟩ := of_some d h hl
  exact ⟨p.1, p.2, e, m⟩
theorem any_le (d : Deal) {m : Int} (h0 : 0 < m) (h1 : m ≤ 10000000000000000) : ∃ r d', anyO d m = some (r, d') ∧ 0 ≤ r ∧ r < m := by
  obtain ⟨p, e, q⟩ := any_some d h0 (by
    have : (2 : Int) ^ 70 = 1180591620717411303424 := by decide
    omega)
  exact ⟨p.1, p.2, e, q⟩
def LadOk (l : List Int) : Prop := l.Pairwise (· < ·) ∧ ∀ x ∈ l, -1000000000000 ≤ x ∧ x ≤ 1000000000000
theorem cover {ks : List Int} : ∀ {n : Nat}, (∀ i : Nat, i < n → (i : Int) ∈ ks) → n ≤ ks.length := by
  intro n
  induction n generalizing ks with
  | zero => intro _; omega
  | succ n ih =>
    intro h
    have hm := h n (by omega)
    have := ih (ks := ks.erase (n : Int)) (fun i hi => (List.mem_erase_of_ne (by omega)).mpr (h i (by omega)))
    rw [List.length_erase_of_mem hm] at this
    have := List.length_pos_of_mem hm
    omega
theorem rngL_lt (lo : Int) (n : Nat) : (rngL lo n).Pairwise (· < ·) := by
  unfold rngL
  rw [List.pairwise_map]
  exact List.pairwise_lt_range.imp (by intro a b h; omega)
theorem rngL_mem {lo : Int} {n : Nat} {x : Int} (h : x ∈ rngL lo n) : lo ≤ x ∧ x < lo + n := by
  unfold rngL at h
  obtain ⟨i, h1, h2⟩ := List.mem_map.mp h
  rw [List.mem_range] at h1
  omega
def KeysOk (many : Int) (kvs : List (Int × Bool)) : Prop := (kvs.map (·.1)).Nodup ∧ (kvs.length : Int) ≤ many ∧ ∀ k ∈ kvs.map (·.1), -1000000000000 ≤ k ∧ k ≤ 1000000000000
theorem keys_put {many : Int} {kvs : List (Int × Bool)} {k : Int} (h : KeysOk many kvs) (hl : (kvs.length : Int) < many) (h1 : -1000000000000 ≤ k) (h2 : k ≤ 1000000000000) : KeysOk many (aPut kvs k true) := by
  obtain ⟨a, b, c⟩ := h
  refine ⟨aPut_nodup a, ?_, fun z hz => ?_⟩
  · rw [aPut_len]; split <;> omega
  · rw [aPut_keys] at hz
    split at hz
    · exact c z hz
    · rcases List.mem_append.mp hz with q | q
      · exact c z q
      · have : z = k := by simpa using q
        subst this; exact ⟨h1, h2⟩
theorem aPutO_ok {kvs : List (Int × Bool)} {k : Int} {b : Bool} (h : kvs.length < 100) : aPutO kvs k b = some (aPut kvs k b) := if_pos (by unfold LINE; omega)
theorem ladder_some (d : Deal) {many style : Int} (m0 : 0 < many) (m8 : many ≤ 8) (s0 : 0 ≤ style) (s3 : style ≤ 3) : ∃ l d', F__law_ladder d many style = some (l, d') ∧ (l.length : Int) = many ∧ LadOk l := by
  by_cases c : style = 0
  · obtain ⟨x, d1, e, hx⟩ := of_some' d (l := [(0 : Int), 0, 1, -2]) (by simp) (by decide)
    have hx' : -2 ≤ x ∧ x ≤ 1 := by simp at hx; omega
    have hg : rgOk x (x + many) = true := decide_eq_true (by
      have : (2 : Int) ^ 62 = 4611686018427387904 := by decide
      have : (2 : Nat) ^ 24 = 16777216 := by decide
      omega)
    refine ⟨rngL x many.toNat, d1, ?_, by unfold rngL; simp; omega, rngL_lt _ _, fun y hy => ?_⟩
    · unfold F__law_ladder
      rw [if_pos (decide_eq_true c), bnd e]
      unfold rgO
      rw [if_pos hg, Option.bind_some, show x + many - x = many by omega]
    · have := rngL_mem hy
      omega
  · have hs : 0 ≤ style - 1 ∧ style - 1 < 3 := by omega
    obtain ⟨t5, e5, h5⟩ := atI_mem (l := [(12 : Int), 100, 10 ^ 12 - 10 ^ 6]) (k := style - 1) hs.1 hs.2
    have h5' : 0 < t5 ∧ t5 ≤ 1000000000000 := by
      simp at h5
      omega
    have hr : rng1O (4 * many) = some _ := rng1O_int (by omega) (by omega)
    obtain ⟨a1, e1, i1⟩ := loopO_inv (step := fun (a17 : (Deal × (List (Int × Bool)))) (x8 : Int) => (if (decide ((a17.2.length : Int) < many)) = true then (mulO (2 : Int) t5).bind fun t18 => (anyO a17.1 (t18 + (1 : Int))).bind fun t19 => (aPutO a17.2 (t19.1 - t5) true).bind fun t20 => some (t19.2, t20) else some (a17.1, a17.2) : Option (Deal × (List (Int × Bool))))) (fun a _ => KeysOk many a.2)
      (by
        rintro ⟨dl, kvs⟩ x xs h
        dsimp only at h ⊢
        by_cases cl : (kvs.length : Int) < many
        · rw [if_pos (decide_eq_true cl), mulO_ok (by decide) (by omega), Option.bind_some]
          obtain ⟨r, d2, e2, r0, r1⟩ := any_le dl (m := 2 * t5 + 1) (by omega) (by omega)
          rw [e2, Option.bind_some, aPutO_ok (by omega), Option.bind_some]
          exact ⟨_, rfl, keys_put h cl (by dsimp only; omega) (by dsimp only; omega)⟩
        · rw [if_neg (by simpa using cl)]
          exact ⟨_, rfl, h⟩) ((List.range (4 * many).toNat).map fun (i : Nat) => (i : Int)) (d, []) ⟨by simp, by simp; omega, by simp⟩
    have hr2 : rng1O many = some _ := rng1O_int (by omega) (by omega)
    obtain ⟨a2, e2, i2⟩ := loopO_inv (step := fun (a28 : (List (Int × Bool))) (x23 : Int) => (if (decide ((a28.length : Int) < many)) = true then (aPutO a28 x23 true).bind fun t29 => some t29 else some a28 : Option (List (Int × Bool))))
      (fun a xs => KeysOk many a ∧ ∃ i : Nat, i + xs.length = many.toNat ∧ xs = (List.range' i xs.length).map (fun (i : Nat) => (i : Int)) ∧ ((a.length : Int) = many ∨ ∀ j : Nat, j < i → (j : Int) ∈ a.map (·.1)))
      (by
        rintro kvs x xs ⟨h, i, h1, h2, h3⟩
        simp only [List.length_cons, List.range'_succ, List.map_cons, List.cons.injEq] at h2
        obtain ⟨hx, h2⟩ := h2
        simp only [List.length_cons] at h1
        by_cases cl : (kvs.length : Int) < many
        · rw [if_pos (decide_eq_true cl), aPutO_ok (by omega), Option.bind_some]
          refine ⟨_, rfl, keys_put h cl (by omega) (by omega), i + 1, by omega, h2, .inr fun j hj => ?_⟩
          rw [aPut_keys]
          have hin : j < i → (j : Int) ∈ kvs.map (·.1) := fun q => by
            rcases h3 with z | z
            · omega
            · exact z j q
          by_cases cj : j < i
          · split
            · exact hin cj
            · exact List.mem_append_left _ (hin cj)
          · have : (j : Int) = x := by omega
            rw [this]
            split
            · assumption
            · simp
        · rw [if_neg (by simpa using cl)]
          exact ⟨_, rfl, h, i + 1, by omega, h2, .inl (by have := h.2.1; omega)⟩) ((List.range many.toNat).map fun (i : Nat) => (i : Int)) a1.2
      ⟨i1, 0, by simp, by simp [List.range_eq_range'], .inr fun j hj => by omega⟩
    obtain ⟨k2, i, j1, _, j3⟩ := i2
    have hlen : (a2.length : Int) = many := by
      rcases j3 with z | z
      · exact z
      · have := cover (ks := a2.map (·.1)) (n := i) z
        rw [List.length_map] at this
        have := k2.2.1
        simp at j1
        omega
    have hsd : sortDO a2 = some (sortI (a2.map (·.1))) := if_pos ⟨by omega, by omega⟩
    have hcut : cut (sortI (a2.map (·.1))) none (some many) = sortI (a2.map (·.1)) := by
      rw [cut_take (by omega)]
      exact List.take_of_length_le (by rw [sortI_length, List.length_map]; omega)
    refine ⟨sortI (a2.map (·.1)), a1.1, ?_, by rw [sortI_length, List.length_map]; exact hlen, sortI_strict k2.1, fun x hx => k2.2.2 x ((sortI_perm _).mem_iff.mp hx)⟩
    unfold F__law_ladder
    rw [if_neg (by simpa using c), bnd (powO_ok (by decide) (by decide) (by decide)), bnd (powO_ok (by decide) (by decide) (by decide))]
    refine (bnd (show atI [(12 : Int), 100, 10 ^ (12 : Int).toNat - 10 ^ (6 : Int).toNat] (style - 1) = some t5 from e5) _).trans ?_
    rw [bnd (mulO_ok (by decide) (by omega)), bnd hr, bnd e1, bnd hr2, bnd e2, bnd hsd, hcut]
end Pl

namespace Pl
open PySem L2 PySem.Spec PyProof.Rows
/-- how many profiles -/
def cnt {α : Type} : List (List α) → Nat
  | [] => 1
  | l :: m => l.length * cnt m
def LvOk (l : List Int) : Prop := 0 < l.length ∧ l.length ≤ 8 ∧ LadOk l
def MktOk (m : List (List Int)) : Prop := 0 < m.length ∧ m.length ≤ 6 ∧ ∀ l ∈ m, LvOk l
def pr : List Int → Int
  | [] => 1
  | x :: xs => x * pr xs
def SzOk (xs : List Int) : Prop := ∀ x ∈ xs, 1 ≤ x ∧ x ≤ 8
theorem pr_pos : ∀ {xs : List Int}, SzOk xs → 1 ≤ pr xs
  | [], _ => by simp [pr]
  | x :: xs, h => by
    have h1 := (h x List.mem_cons_self).1
    have h2 := pr_pos (fun y hy => h y (List.mem_cons_of_mem _ hy))
    unfold pr
    have := Int.mul_le_mul h1 h2 (by omega) (by omega)
    omega
theorem pow8 (n : Nat) : (1 : Int) ≤ 8 ^ n := by
  induction n with
  | zero => simp
  | succ n ih => rw [Int.pow_succ]; omega
theorem p8 : ∀ n : Fin 7, (8 : Int) ^ (n : Nat) ≤ 262144 := by decide
theorem prod_loop {xs : List Int} (h : SzOk xs) (hl : xs.length ≤ 6) : loopO (fun (a49 : Int) (x44 : Int) => ((mulO a49 x44).bind fun t50 => some t50 : Option Int)) (1 : Int) xs = some (pr xs) := by
  have key : ∀ (xs : List Int) (a : Int), SzOk xs → 1 ≤ a → a ≤ 8 ^ (6 - xs.length) → xs.length ≤ 6 → loopO (fun (a49 : Int) (x44 : Int) => ((mulO a49 x44).bind fun t50 => some t50 : Option Int)) a xs = some (a * pr xs) := by
    intro xs
    induction xs with
    | nil => intro a _ _ _ _; simp [loopO, pr]
    | cons x xs ih =>
      intro a h h1 h2 hl
      have hx := h x List.mem_cons_self
      simp only [List.length_cons] at h2 hl
      have h6 : (8 : Int) ^ (6 - (xs.length + 1)) ≤ 262144 := p8 ⟨6 - (xs.length + 1), by omega⟩
      have hm : a * x ≤ 8 ^ (6 - xs.length) := by
        have e : 6 - xs.length = (6 - (xs.length + 1)) + 1 := by omega
        rw [e, Int.pow_succ]
        exact Int.mul_le_mul h2 hx.2 (by omega) (by have := pow8 (6 - (xs.length + 1)); omega)
      have hp : 1 ≤ a * x := by
        have := Int.mul_le_mul h1 hx.1 (by omega) (by omega)
        omega
      unfold loopO
      rw [mulO_ok (by omega) (by omega), Option.bind_some, Option.bind_some, ih (a * x) (fun y hy => h y (List.mem_cons_of_mem _ hy)) hp hm (by omega)]
      show some (a * x * pr xs) = some (a * (x * pr xs))
      rw [Int.mul_assoc]
  rw [key xs 1 h (by decide) (pow8 _) hl, Int.one_mul]
theorem maxL_mem : ∀ {l : List Int}, l ≠ [] → maxL l ∈ l ∧ ∀ x ∈ l, x ≤ maxL l
  | [], h => absurd rfl h
  | [x], _ => by simp [maxL]
  | x :: y :: r, _ => by
    have ih := maxL_mem (l := y :: r) (by simp)
    unfold maxL
    split
    · rename_i c
      refine ⟨List.mem_cons_of_mem _ ih.1, fun z hz => ?_⟩
      rcases List.mem_cons.mp hz with e | hz
      · subst e; omega
      · exact ih.2 z hz
    · rename_i c
      refine ⟨List.mem_cons_self, fun z hz => ?_⟩
      rcases List.mem_cons.mp hz with e | hz
      · subst e; omega
      · have := ih.2 z hz; omega
theorem idxO_mem {α : Type} [DecidableEq α] {l : List α} {x : α} (h : x ∈ l) : ∃ (i : Nat) (hi : i < l.length), idxO l x = some (i : Int) ∧ l[i] = x := by
  unfold idxO
  cases e : l.findIdx? (fun z => decide (z = x)) with
  | none =>
    rw [List.findIdx?_eq_none_iff] at e
    have := e x h
    simp at this
  | some i =>
    rw [List.findIdx?_eq_some_iff_getElem] at e
    obtain ⟨hi, h1, _⟩ := e
    exact ⟨i, hi, rfl, by simpa using h1⟩
theorem sum_set : ∀ (l : List Int) (i : Nat) (v : Int) (hi : i < l.length), (l.set i v).sum = l.sum - l[i] + v
  | x :: l, 0, v, _ => by simp; omega
  | x :: l, i + 1, v, h => by
    have := sum_set l i v (by simpa using h)
    simp [this]; omega
theorem sum_ge : ∀ {l : List Int}, SzOk l → (l.length : Int) ≤ l.sum ∧ l.sum ≤ 8 * l.length
  | [], _ => by simp
  | x :: l, h => by
    have h1 := h x List.mem_cons_self
    have h2 := sum_ge (fun y hy => h y (List.mem_cons_of_mem _ hy))
    simp; omega
theorem pr_one : ∀ {l : List Int}, (∀ x ∈ l, x = 1) → pr l = 1
  | [], _ => rfl
  | x :: l, h => by
    unfold pr
    rw [h x List.mem_cons_self, pr_one fun y hy => h y (List.mem_cons_of_mem _ hy)]; rfl
theorem cnt_pr : ∀ {m : List (List Int)} {xs : List Int}, Paired (fun x (l : List Int) => (l.length : Int) = x ∧ LadOk l) xs m → (cnt m : Int) = pr xs
  | _, _, .nil => rfl
  | _, _, .cons (a := x) (b := l) (l₁ := xs) (l₂ := m) r t => by
    unfold cnt pr
    rw [← cnt_pr t, ← r.1]
    simp
theorem market_some (d : Deal) {bu le mo : Int} (b1 : 1 ≤ bu) (b6 : bu ≤ 6) (l1 : 1 ≤ le) (l8 : le ≤ 8) (m1 : 1 ≤ mo) : ∃ m d', F__law_market d bu le mo = some (m, d') ∧ MktOk m ∧ (cnt m : Int) ≤ mo ∧ (m.length : Int) ≤ bu ∧ ∀ l ∈ m, (l.length : Int) ≤ le := by
  obtain ⟨n, d1, e1, n0, n1⟩ := any_le d (m := bu) (by omega) (by omega)
  obtain ⟨st, d2, e2, hst⟩ := of_some' d1 (l := [(0 : Int), 0, 1, 2, 3]) (by simp) (by decide)
  have hst' : 0 ≤ st ∧ st ≤ 3 := by simp at hst; omega
  have hr : rng1O (1 + n) = some _ := rng1O_int (by omega) (by omega)
  obtain ⟨a1, e3, i1⟩ := loopO_inv (step := fun (a11 : (Deal × (List Int))) (x4 : Int) => ((anyO a11.1 le).bind fun t12 => (appO a11.2 ((1 : Int) + t12.1)).bind fun t13 => some (t12.2, t13) : Option (Deal × (List Int)))) (fun a xs => (a.2.length : Int) + xs.length = 1 + n ∧ ∀ x ∈ a.2, 1 ≤ x ∧ x ≤ le)
    (by
      rintro ⟨dl, xs⟩ x r ⟨h1, h2⟩
      obtain ⟨v, d3, e, v0, v1⟩ := any_le dl (m := le) (by omega) (by omega)
      simp only [List.length_cons] at h1
      dsimp only at h1 h2 ⊢
      rw [e, Option.bind_some, appO_ok (by unfold LINE; omega), Option.bind_some]
      refine ⟨_, rfl, by simp; omega, fun y hy => ?_⟩
      rcases List.mem_append.mp hy with z | z
      · exact h2 y z
      · have : y = 1 + v := by simpa using z
        omega) ((List.range (1 + n).toNat).map fun (i : Nat) => (i : Int)) (d2, []) ⟨by simp; omega, by simp⟩
  obtain ⟨d3, sz⟩ := a1
  obtain ⟨hlen, hsz⟩ := i1
  simp only [List.length_nil] at hlen
  dsimp only at hlen hsz
  have hr2 : rng1O 64 = some _ := rng1O_int (by omega) (by omega)
  obtain ⟨sz2, e4, i2⟩ := loopO_inv (step := fun (a43 : (List Int)) (x16 : Int) => ((loopO (fun (a49 : Int) (x44 : Int) => ((mulO a49 x44).bind fun t50 => some t50 : Option Int)) (1 : Int) a43).bind fun t51 => if (decide (mo < t51)) = true then (maxO a43).bind fun t52 => (idxO a43 t52).bind fun t53 => (atI a43 t53).bind fun t54 => (setO a43 t53 (t54 - (1 : Int))).bind fun t55 => some t55 else some a43 : Option (List Int)))
    (fun a xs => (a.length : Int) = 1 + n ∧ (∀ x ∈ a, 1 ≤ x ∧ x ≤ le) ∧ (pr a ≤ mo ∨ a.sum ≤ 48 - (64 - xs.length)))
    (by
      rintro a x xs ⟨h1, h2, h3⟩
      have hs8 : SzOk a := fun y hy => ⟨(h2 y hy).1, by have := (h2 y hy).2; omega⟩
      rw [prod_loop hs8 (by omega), Option.bind_some]
      by_cases c : mo < pr a
      · rw [if_pos (decide_eq_true c)]
        have hne : a ≠ [] := by intro z; rw [z] at h1; simp at h1; omega
        obtain ⟨hm, hM⟩ := maxL_mem hne
        have h2' : 2 ≤ maxL a := by
          rcases Int.lt_or_le (maxL a) 2 with z | z
          · exfalso
            have : pr a = 1 := pr_one fun y hy => by have := hM y hy; have := (h2 y hy).1; omega
            omega
          · exact z
        obtain ⟨i, hi, e5, e6⟩ := idxO_mem hm
        have hmx : maxO a = some (maxL a) := if_pos (List.length_pos_iff.mpr hne)
        rw [hmx, Option.bind_some, e5, Option.bind_some, atI_nat hi, Option.bind_some, setO_ok hi, Option.bind_some]
        have hle := (h2 _ hm).2
        refine ⟨_, rfl, by simp; exact h1, fun y hy => ?_, ?_⟩
        · rcases List.mem_or_eq_of_mem_set hy with z | z
          · exact h2 y z
          · rw [z, e6]; omega
        · right
          rw [sum_set a i _ hi, e6]
          rcases h3 with z | z
          · omega
          · simp only [List.length_cons] at z; omega
      · rw [if_neg (by simpa using c)]
        exact ⟨_, rfl, h1, h2, .inl (by omega)⟩) ((List.range (64 : Int).toNat).map fun (i : Nat) => (i : Int)) sz
    ⟨by omega, hsz, .inr (by
      have := (sum_ge (l := sz) (fun y hy => ⟨(hsz y hy).1, by have := (hsz y hy).2; omega⟩)).2
      simp; omega)⟩
  obtain ⟨g1, g2, g3⟩ := i2
  have hs8 : SzOk sz2 := fun y hy => ⟨(g2 y hy).1, by have := (g2 y hy).2; omega⟩
  have g4 : pr sz2 ≤ mo := by
    rcases g3 with z | z
    · exact z
    · have := (sum_ge hs8).1
      simp at z
      omega
  obtain ⟨m, d4, e5, _, hp⟩ := lcO_all (step := fun (d59 : Deal) (x57 : Int) => ((F__law_ladder d59 x57 st).bind fun t60 => some (some t60.1, t60.2) : Option (Option (List Int) × Deal))) (fun _ xs => SzOk xs) (fun x (l : List Int) => (l.length : Int) = x ∧ LadOk l)
    (by
      intro dl x xs h
      have hx := h x List.mem_cons_self
      obtain ⟨l, d', e, hl, hk⟩ := ladder_some dl (many := x) (style := st) (by omega) hx.2 hst'.1 hst'.2
      exact ⟨l, d', by rw [e]; rfl, fun y hy => h y (List.mem_cons_of_mem _ hy), hl, hk⟩) sz2 d3 hs8
  have hml := paired_length hp
  have hc := cnt_pr hp
  refine ⟨m, d4, ?_, ⟨by omega, by omega, fun l hl => ?_⟩, by omega, by omega, fun l hl => ?_⟩
  · unfold F__law_market
    rw [bnd e1]
    dsimp only
    rw [bnd e2, bnd hr, bnd e3, bnd hr2, bnd e4, bnd e5, bnd (lenO_ok (show m.length ≤ LINE by unfold LINE; omega))]
  · obtain ⟨x, hx, h1, h2⟩ := paired_mem hp l hl
    have := hs8 x hx
    exact ⟨by omega, by omega, h2⟩
  · obtain ⟨x, hx, h1, h2⟩ := paired_mem hp l hl
    have := g2 x hx
    omega
end Pl

namespace Pl
open PySem L2 PySem.Spec PyProof.Rows
section
variable {α β : Type}
/-! all profiles, ascending -/
def stepP (acc : List (List α)) (l : List α) : List (List α) := acc.flatMap fun p => l.map fun x => p ++ [x]
def pfsF (acc : List (List α)) (m : List (List α)) : List (List α) := m.foldl stepP acc
def pfs (m : List (List α)) : List (List α) := pfsF [[]] m
abbrev PIn (p : List α) (m : List (List α)) : Prop := Paired (fun x (l : List α) => x ∈ l) p m
theorem stepP_len (acc : List (List α)) (l : List α) : (stepP acc l).length = acc.length * l.length := by
  unfold stepP
  induction acc with
  | nil => simp
  | cons p acc ih => rw [List.flatMap_cons, List.length_append, ih, List.length_map, List.length_cons, Nat.succ_mul, Nat.add_comm]
theorem pfsF_len : ∀ (m : List (List α)) (acc : List (List α)), (pfsF acc m).length = acc.length * cnt m
  | [], acc => by simp [pfsF, cnt]
  | l :: m, acc => by
    show (pfsF (stepP acc l) m).length = _
    rw [pfsF_len m, stepP_len, Nat.mul_assoc]; rfl
theorem pfs_len (m : List (List α)) : (pfs m).length = cnt m := by
  unfold pfs
  rw [pfsF_len]; simp
theorem pfsF_mem : ∀ (m : List (List α)) (acc : List (List α)) (p : List α), p ∈ pfsF acc m ↔ ∃ q r, q ∈ acc ∧ PIn r m ∧ p = q ++ r
  | [], acc, p => by
    constructor
    · intro h; exact ⟨p, [], h, .nil, by simp⟩
    · rintro ⟨q, r, h1, h2, rfl⟩
      cases h2
      rw [List.append_nil]; exact h1
  | l :: m, acc, p => by
    show p ∈ pfsF (stepP acc l) m ↔ _
    rw [pfsF_mem m]
    constructor
    · rintro ⟨q, r, h1, h2, rfl⟩
      unfold stepP at h1
      obtain ⟨q', h3, h4⟩ := List.mem_flatMap.mp h1
      obtain ⟨x, h5, rfl⟩ := List.mem_map.mp h4
      exact ⟨q', x :: r, h3, .cons h5 h2, by simp⟩
    · rintro ⟨q, r, h1, h2, rfl⟩
      cases h2 with
      | cons h3 h4 =>
        rename_i x r
        exact ⟨q ++ [x], r, List.mem_flatMap.mpr ⟨q, h1, List.mem_map.mpr ⟨x, h3, rfl⟩⟩, h4, by simp⟩
theorem pfs_mem {m : List (List α)} {p : List α} : p ∈ pfs m ↔ PIn p m := by
  unfold pfs
  rw [pfsF_mem]
  constructor
  · rintro ⟨q, r, h1, h2, rfl⟩
    have : q = [] := by simpa using h1
    subst this; exact h2
  · intro h; exact ⟨[], p, by simp, h, by simp⟩
theorem pfsF_map (f : α → β) : ∀ (m : List (List α)) (acc : List (List α)), pfsF (acc.map (List.map f)) (m.map (List.map f)) = (pfsF acc m).map (List.map f)
  | [], acc => rfl
  | l :: m, acc => by
    show pfsF (stepP (acc.map (List.map f)) (l.map f)) (m.map (List.map f)) = (pfsF (stepP acc l) m).map (List.map f)
    rw [← pfsF_map f m]
    congr 1
    unfold stepP
    rw [List.flatMap_map, List.map_flatMap]
    congr 1
    funext p
    rw [List.map_map, List.map_map]
    congr 1
    funext x
    simp
theorem pfs_map (f : α → β) (m : List (List α)) : pfs (m.map (List.map f)) = (pfs m).map (List.map f) := pfsF_map f m [[]]
theorem cnt_pos : ∀ {m : List (List α)}, (∀ l ∈ m, l ≠ []) → 0 < cnt m
  | [], _ => by simp [cnt]
  | l :: m, h => by
    unfold cnt
    exact Nat.mul_pos (List.length_pos_iff.mpr (h l List.mem_cons_self)) (cnt_pos fun z hz => h z (List.mem_cons_of_mem _ hz))
/-- the law's and the program's loops -/
theorem inner_ok {l : List α} : ∀ (acc later : List (List α)), (∀ p ∈ acc, p.length < 1000) → later.length + acc.length * l.length ≤ 1000000 → l.length ≤ 1000000 →
    loopO (fun (a58 : List (List α)) (x45 : List α) => ((lcP (fun (x59 : α) => ((catO x45 [x59]).bind fun t60 => some (some t60) : Option (Option (List α)))) l).bind fun t61 => (lenP t61).bind fun t62 => (catO a58 t62).bind fun t63 => some t63 : Option (List (List α)))) later acc = some (later ++ stepP acc l)
  | [], later, _, _, _ => by simp [loopO, stepP]
  | p :: acc, later, h, hl, h2 => by
    have hp := h p List.mem_cons_self
    rw [List.length_cons, Nat.succ_mul] at hl
    have e1 : lcP (fun (x59 : α) => ((catO p [x59]).bind fun t60 => some (some t60) : Option (Option (List α)))) l = some (l.map fun x => p ++ [x]) := lcP_map (fun x => p ++ [x]) l fun x _ => by
      rw [catO_ok (by unfold LINE; simp; omega)]; rfl
    unfold loopO
    rw [e1, Option.bind_some, lenP_ok (by unfold LINE; rw [List.length_map]; omega), Option.bind_some, catO_ok (by unfold LINE; rw [List.length_map]; omega), Option.bind_some, Option.bind_some,
      inner_ok acc (later ++ l.map fun x => p ++ [x]) (fun q hq => h q (List.mem_cons_of_mem _ hq)) (by rw [List.length_append, List.length_map]; omega) h2]
    unfold stepP
    rw [List.flatMap_cons, List.append_assoc]
theorem le_cnt {l : List α} {m : List (List α)} {acc : List (List α)} (h : ∀ z ∈ m, z ≠ []) : acc.length * l.length ≤ acc.length * cnt (l :: m) := by
  unfold cnt
  have := cnt_pos h
  exact Nat.mul_le_mul_left _ (Nat.le_mul_of_pos_right _ this)
theorem profL_ok : ∀ (m acc : List (List α)), (∀ l ∈ m, l ≠ [] ∧ l.length ≤ 1000) → (∀ p ∈ acc, p.length + m.length < 1000) → acc.length * cnt m ≤ 1000000 →
    loopO (fun (a44 : List (List α)) (x1 : List α) => ((loopO (fun (a58 : List (List α)) (x45 : List α) => ((lcP (fun (x59 : α) => ((catO x45 [x59]).bind fun t60 => some (some t60) : Option (Option (List α)))) x1).bind fun t61 => (lenP t61).bind fun t62 => (catO a58 t62).bind fun t63 => some t63 : Option (List (List α)))) ([] : List (List α)) a44).bind fun t64 => some t64 : Option (List (List α)))) acc m = some (pfsF acc m)
  | [], acc, _, _, _ => rfl
  | l :: m, acc, h, hp, hc => by
    have h' : ∀ z ∈ m, z ≠ [] := fun z hz => (h z (List.mem_cons_of_mem _ hz)).1
    have hl := h l List.mem_cons_self
    have := le_cnt (l := l) (acc := acc) h'
    unfold loopO
    rw [inner_ok acc [] (fun p hq => by have := hp p hq; omega) (by simp; omega) (by omega), Option.bind_some, Option.bind_some, List.nil_append]
    refine profL_ok m (stepP acc l) (fun z hz => h z (List.mem_cons_of_mem _ hz)) (fun p hq => ?_) ?_
    · unfold stepP at hq
      obtain ⟨q', h3, h4⟩ := List.mem_flatMap.mp hq
      obtain ⟨x, h5, rfl⟩ := List.mem_map.mp h4
      have := hp q' h3
      simp only [List.length_append, List.length_cons, List.length_nil] at this ⊢
      omega
    · rw [stepP_len]
      unfold cnt at hc
      rw [Nat.mul_assoc]; exact hc
theorem innerQ_ok {l : List α} : ∀ (acc : List (List α)), (∀ p ∈ acc, p.length < 1000) →
    lcQ (fun (x15 : List α) => (lcP (fun (x16 : α) => ((lineO (x15 ++ [x16])).bind fun t17 => some (some t17) : Option (Option (List α)))) l : Option (List (List α)))) acc = some (stepP acc l)
  | [], _ => rfl
  | p :: acc, h => by
    have hp := h p List.mem_cons_self
    have e1 : lcP (fun (x16 : α) => ((lineO (p ++ [x16])).bind fun t17 => some (some t17) : Option (Option (List α)))) l = some (l.map fun x => p ++ [x]) := lcP_map (fun x => p ++ [x]) l fun x _ => by
      rw [lineO_ok (by unfold LINE; simp; omega)]; rfl
    unfold lcQ
    rw [e1, Option.bind_some, innerQ_ok acc fun q hq => h q (List.mem_cons_of_mem _ hq)]
    unfold stepP
    rw [List.flatMap_cons]; rfl
theorem profQ_ok : ∀ (m acc : List (List α)), (∀ l ∈ m, l ≠ [] ∧ l.length ≤ 1000) → (∀ p ∈ acc, p.length + m.length < 1000) → acc.length * cnt m ≤ 1000000 →
    loopO (fun (a14 : List (List α)) (x1 : List α) => ((lcQ (fun (x15 : List α) => (lcP (fun (x16 : α) => ((lineO (x15 ++ [x16])).bind fun t17 => some (some t17) : Option (Option (List α)))) x1 : Option (List (List α)))) a14).bind fun t18 => (lenP t18).bind fun t19 => some t19 : Option (List (List α)))) acc m = some (pfsF acc m)
  | [], acc, _, _, _ => rfl
  | l :: m, acc, h, hp, hc => by
    have h' : ∀ z ∈ m, z ≠ [] := fun z hz => (h z (List.mem_cons_of_mem _ hz)).1
    have hl := h l List.mem_cons_self
    have := le_cnt (l := l) (acc := acc) h'
    unfold loopO
    rw [innerQ_ok acc (fun p hq => by have := hp p hq; omega), Option.bind_some, lenP_ok (by unfold LINE; rw [stepP_len]; omega), Option.bind_some, Option.bind_some]
    refine profQ_ok m (stepP acc l) (fun z hz => h z (List.mem_cons_of_mem _ hz)) (fun p hq => ?_) ?_
    · unfold stepP at hq
      obtain ⟨q', h3, h4⟩ := List.mem_flatMap.mp hq
      obtain ⟨x, h5, rfl⟩ := List.mem_map.mp h4
      have := hp q' h3
      simp only [List.length_append, List.length_cons, List.length_nil] at this ⊢
      omega
    · rw [stepP_len]
      unfold cnt at hc
      rw [Nat.mul_assoc]; exact hc
/-- where a profile stands -/
theorem stepP_get {l : List α} {q : List α} {x : α} {j : Nat} : ∀ {acc : List (List α)} {i : Nat}, acc[i]? = some q → l[j]? = some x → (stepP acc l)[i * l.length + j]? = some (q ++ [x])
  | [], i, h, _ => by simp at h
  | p :: acc, 0, h, hj => by
    simp at h
    subst h
    unfold stepP
    have hl : j < l.length := (List.getElem?_eq_some_iff.mp hj).1
    rw [List.flatMap_cons, Nat.zero_mul, Nat.zero_add, List.getElem?_append_left (by rw [List.length_map]; exact hl), List.getElem?_map, hj]; rfl
  | p :: acc, i + 1, h, hj => by
    have ih := stepP_get (acc := acc) (i := i) (l := l) (by simpa using h) hj
    unfold stepP at ih ⊢
    rw [List.flatMap_cons, List.getElem?_append_right (by rw [List.length_map, Nat.succ_mul]; omega), List.length_map]
    have e : (i + 1) * l.length + j - l.length = i * l.length + j := by rw [Nat.succ_mul]; omega
    rw [e]; exact ih
end
end Pl

namespace Pl
open PySem L2 PySem.Spec PyProof.Rows
section
variable {α β : Type}
theorem nodup_sub {α : Type} [DecidableEq α] : ∀ {l m : List α}, l.Nodup → (∀ x ∈ l, x ∈ m) → l.length ≤ m.length
  | [], _, _, _ => by simp
  | x :: l, m, h, hs => by
    rw [List.nodup_cons] at h
    have hx := hs x List.mem_cons_self
    have := nodup_sub (m := m.erase x) h.2 fun y hy => (List.mem_erase_of_ne (fun (e : y = x) => h.1 (by rw [← e]; exact hy))).mpr (hs y (List.mem_cons_of_mem _ hy))
    rw [List.length_erase_of_mem hx] at this
    have := List.length_pos_of_mem hx
    rw [List.length_cons]; omega
theorem cnt_app : ∀ (a b : List (List α)), cnt (a ++ b) = cnt a * cnt b
  | [], b => by simp [cnt]
  | l :: a, b => by
    show l.length * cnt (a ++ b) = l.length * cnt a * cnt b
    rw [cnt_app a b, Nat.mul_assoc]
theorem pin_app {A B : List (List α)} : ∀ {p q : List α}, PIn p A → PIn q B → PIn (p ++ q) (A ++ B)
  | _, _, .nil, h => h
  | _, _, .cons r t, h => .cons r (pin_app t h)
theorem pin_split {A B : List (List α)} : ∀ {p : List α}, PIn p (A ++ B) → ∃ q r, p = q ++ r ∧ PIn q A ∧ PIn r B := by
  induction A with
  | nil => intro p h; exact ⟨[], p, rfl, .nil, h⟩
  | cons l A ih =>
    intro p h
    cases h with
    | cons r t =>
      obtain ⟨q, s, rfl, h1, h2⟩ := ih t
      exact ⟨_ :: q, s, rfl, .cons r h1, h2⟩
theorem pin_mid {A B : List (List α)} {l : List α} {p : List α} : PIn p (A ++ [l] ++ B) ↔ ∃ q x r, p = q ++ [x] ++ r ∧ PIn q A ∧ x ∈ l ∧ PIn r B := by
  constructor
  · intro h
    obtain ⟨q', r, rfl, h1, h2⟩ := pin_split h
    obtain ⟨q, s, rfl, h3, h4⟩ := pin_split h1
    cases h4 with
    | cons h5 h6 =>
      cases h6
      exact ⟨q, _, r, rfl, h3, h5, h2⟩
  · rintro ⟨q, x, r, rfl, h1, h2, h3⟩
    exact pin_app (pin_app h1 (.cons h2 .nil)) h3
theorem pin_len {m : List (List α)} {p : List α} (h : PIn p m) : p.length = m.length := paired_length h
theorem take_mid (l : List α) (b : Nat) (h : b < l.length) : l.take b ++ [l[b]] ++ l.drop (b + 1) = l := by
  rw [List.append_assoc, List.singleton_append, List.getElem_cons_drop, List.take_append_drop]
theorem mid_take {q r : List α} {x : α} : (q ++ [x] ++ r).take q.length = q := by
  rw [List.append_assoc, List.take_left]
theorem mid_drop {q r : List α} {x : α} : (q ++ [x] ++ r).drop (q.length + 1) = r := by
  rw [List.drop_append_of_le_length (by simp)]
  simp
/-- dicts -/
theorem aGet_mem {κ ν : Type} [DecidableEq κ] {kvs : List (κ × ν)} {k : κ} {v : ν} (h : aGet kvs k = some v) : (k, v) ∈ kvs := by
  unfold aGet at h
  obtain ⟨p, h1, h2⟩ := Option.map_eq_some_iff.mp h
  have h3 := List.find?_some h1
  have h4 := List.mem_of_find?_eq_some h1
  have h5 : p.1 = k := of_decide_eq_true h3
  obtain ⟨a, b⟩ := p
  simp only at h2 h5
  subst h2 h5
  exact h4
theorem aGet_there {κ ν : Type} [DecidableEq κ] {kvs : List (κ × ν)} {k : κ} (h : k ∈ kvs.map (·.1)) : ∃ v, aGet kvs k = some v := by
  obtain ⟨p, h1, h2⟩ := List.mem_map.mp h
  cases e : kvs.find? fun p => decide (p.1 = k) with
  | none =>
    rw [List.find?_eq_none] at e
    exact absurd (decide_eq_true h2) (e p h1)
  | some q => exact ⟨q.2, by unfold aGet; rw [e]; rfl⟩
theorem aPut_mem {κ ν : Type} [DecidableEq κ] {kvs : List (κ × ν)} {k : κ} {v : ν} {e : κ × ν} (h : e ∈ aPut kvs k v) : e ∈ kvs ∨ e = (k, v) := by
  unfold aPut at h
  split at h
  · obtain ⟨p, h1, h2⟩ := List.mem_map.mp h
    by_cases c : p.1 = k
    · rw [if_pos c] at h2; right; rw [← h2, c]
    · rw [if_neg c] at h2; left; rw [← h2]; exact h1
  · rcases List.mem_append.mp h with z | z
    · exact .inl z
    · right; simpa using z
/-- lots of a market: of its profiles, short -/
def LO (m : List (List Int)) (B : Nat) (lots : List (List Int × List Int)) : Prop := (lots.map (·.1)).Nodup ∧ (∀ k ∈ lots.map (·.1), PIn k m) ∧ ∀ e ∈ lots, e.2.length ≤ B
def LF (m : List (List Int)) (lots : List (List Int × List Int)) : Prop := ∀ p, PIn p m → p ∈ lots.map (·.1)
theorem LO.len {m : List (List Int)} {B : Nat} {lots : List (List Int × List Int)} (h : LO m B lots) : lots.length ≤ cnt m := by
  have := nodup_sub h.1 fun k hk => pfs_mem.mpr (h.2.1 k hk)
  rw [List.length_map, pfs_len] at this
  exact this
theorem LO.put {m : List (List Int)} {B : Nat} {lots : List (List Int × List Int)} {p lot : List Int} (h : LO m B lots) (hp : PIn p m) (hl : lot.length ≤ B) : LO m B (aPut lots p lot) := by
  refine ⟨aPut_nodup h.1, fun k hk => ?_, fun e he => ?_⟩
  · rw [aPut_keys] at hk
    split at hk
    · exact h.2.1 k hk
    · rcases List.mem_append.mp hk with z | z
      · exact h.2.1 k z
      · have : k = p := by simpa using z
        subst this; exact hp
  · rcases aPut_mem he with z | z
    · exact h.2.2 e z
    · subst z; exact hl
theorem aPutO_lo {m : List (List Int)} {B : Nat} {lots : List (List Int × List Int)} {p lot : List Int} (h : LO m B lots) (hc : cnt m ≤ 2000) : aPutO lots p lot = some (aPut lots p lot) := if_pos (by have := h.len; unfold LINE; omega)
theorem put_keys {lots : List (List Int × List Int)} {p lot q : List Int} (h : q ∈ lots.map (·.1) ∨ q = p) : q ∈ (aPut lots p lot).map (·.1) := by
  rw [aPut_keys]
  split
  · rename_i c
    rcases h with h | h
    · exact h
    · rw [h]; exact c
  · rcases h with h | h
    · exact List.mem_append_left _ h
    · rw [h]; simp
theorem LF.put {m : List (List Int)} {lots : List (List Int × List Int)} {p lot : List Int} (h : LF m lots) : LF m (aPut lots p lot) := fun q hq => put_keys (.inl (h q hq))
theorem LO.mono {m : List (List Int)} {B C : Nat} {lots : List (List Int × List Int)} (h : LO m B lots) (hc : B ≤ C) : LO m C lots := ⟨h.1, h.2.1, fun e he => Nat.le_trans (h.2.2 e he) hc⟩
/-- a lot that is there -/
theorem lot_of {m : List (List Int)} {B : Nat} {lots : List (List Int × List Int)} {p : List Int} (h : LO m B lots) (f : LF m lots) (hp : PIn p m) : ∃ lot, aGet lots p = some lot ∧ lot.length ≤ B := by
  obtain ⟨v, e⟩ := aGet_there (f p hp)
  exact ⟨v, e, h.2.2 _ (aGet_mem e)⟩
theorem ky_some (p : List Int) : (Ky.ky (p.map some) : Key ⊕ NestedKey) = Ky.ky p := by
  show (Sum.inr (Nk.k 4 (p.map some)) : Key ⊕ NestedKey) = .inr (Nk.k 4 p)
  congr 1
  show NestedKey.tup ((p.map some).map (Nk.k 3)) = .tup (p.map (Nk.k 3))
  congr 1
  rw [List.map_map]; rfl
theorem aGetX_some {ν : Type} (kvs : List (List Int × ν)) (p : List Int) : aGetX kvs (p.map some) = aGet kvs p := by
  unfold aGetX aGet
  congr 1
  congr 1
  funext z
  rw [ky_some]
  exact dec_congr ⟨fun h => Ky.inj _ _ h, fun h => by rw [h]⟩
end
end Pl

namespace Pl
open PySem L2 PySem.Spec PyProof.Rows
section
variable {α β ρ : Type}
/-! a filter that goes up -/
def upB (w : Int → Bool) : List Int → Prop
  | [] => True
  | [_] => True
  | x :: y :: l => (w x = true → w y = true) ∧ upB w (y :: l)
theorem up_all {w : Int → Bool} : ∀ {l : List Int} {x : Int}, upB w (x :: l) → w x = true → ∀ y ∈ x :: l, w y = true
  | [], x, _, hx, y, hy => by
    have : y = x := by simpa using hy
    rw [this]; exact hx
  | z :: l, x, h, hx, y, hy => by
    rcases List.mem_cons.mp hy with e | hy
    · rw [e]; exact hx
    · exact up_all h.2 (h.1 hx) y hy
theorem all_up {w : Int → Bool} : ∀ {l : List Int}, (∀ y ∈ l, w y = true) → upB w l
  | [], _ => True.intro
  | [_], _ => True.intro
  | x :: y :: l, h => ⟨fun _ => h y (by simp), all_up fun z hz => h z (List.mem_cons_of_mem _ hz)⟩
theorem up_cons {w : Int → Bool} {x : Int} (hx : w x = false) : ∀ {l : List Int}, upB w (x :: l) ↔ upB w l
  | [] => ⟨fun _ => True.intro, fun _ => True.intro⟩
  | y :: l => ⟨fun h => h.2, fun h => ⟨fun z => (by rw [hx] at z; cases z), h⟩⟩
theorem up_iff {w : Int → Bool} : ∀ {l : List Int}, l.Pairwise (· < ·) → (upB w l ↔ ∀ h t, l.filter w = h :: t → l.filter (fun y => decide (h ≤ y)) = l.filter w)
  | [], _ => ⟨fun _ h t e => by simp at e, fun _ => True.intro⟩
  | x :: l, hp => by
    rw [List.pairwise_cons] at hp
    cases hx : w x with
    | true =>
      have e1 : (x :: l).filter w = x :: l.filter w := by rw [List.filter_cons, if_pos hx]
      have e2 : (x :: l).filter (fun y => decide (x ≤ y)) = x :: l := by
        rw [List.filter_eq_self]
        intro y hy
        rcases List.mem_cons.mp hy with e | hy
        · subst e; simp
        · have := hp.1 y hy; simp; omega
      constructor
      · intro h a t e
        rw [e1] at e
        cases e
        rw [e2]
        symm
        rw [List.filter_eq_self]
        exact up_all h hx
      · intro h
        have := h x _ e1
        rw [e2] at this
        exact all_up (List.filter_eq_self.mp this.symm)
    | false =>
      have e1 : (x :: l).filter w = l.filter w := by rw [List.filter_cons, if_neg (by rw [hx]; decide)]
      rw [up_cons hx, up_iff hp.2, e1]
      have e3 : ∀ a t, l.filter w = a :: t → (x :: l).filter (fun y => decide (a ≤ y)) = l.filter (fun y => decide (a ≤ y)) := fun a t e => by
        have : a ∈ l := (List.mem_filter.mp (by rw [e]; exact List.mem_cons_self)).1
        have := hp.1 a this
        rw [List.filter_cons, if_neg (by simp; omega)]
      constructor
      · intro h a t e; rw [e3 a t e]; exact h a t e
      · intro h a t e; rw [← e3 a t e]; exact h a t e
theorem loopC_any {step : Unit → α → Option (Ctl Unit ρ)} (P : α → Prop) (K : ρ → Prop) : ∀ (xs : List α), (∀ x ∈ xs, ∃ c, step () x = some c ∧ ((c = .nx () ∧ P x) ∨ ∃ r, c = .rt r ∧ K r ∧ ¬ P x)) →
    ∃ c, loopC step () xs = some c ∧ ((c = .nx () ∧ ∀ x ∈ xs, P x) ∨ ∃ r, c = .rt r ∧ K r ∧ ¬ ∀ x ∈ xs, P x)
  | [], _ => ⟨.nx (), rfl, .inl ⟨rfl, by simp⟩⟩
  | x :: xs, h => by
    obtain ⟨c, e, h1⟩ := h x List.mem_cons_self
    unfold loopC
    rw [e, Option.bind_some]
    rcases h1 with ⟨rfl, hp⟩ | ⟨r, rfl, hk, hp⟩
    · obtain ⟨c, e2, h2⟩ := loopC_any P K xs fun y hy => h y (List.mem_cons_of_mem _ hy)
      refine ⟨c, e2, ?_⟩
      rcases h2 with ⟨rfl, h3⟩ | ⟨r, rfl, h3, h4⟩
      · exact .inl ⟨rfl, fun y hy => by
          rcases List.mem_cons.mp hy with e | hy
          · rw [e]; exact hp
          · exact h3 y hy⟩
      · exact .inr ⟨r, rfl, h3, fun z => h4 fun y hy => z y (List.mem_cons_of_mem _ hy)⟩
    · exact ⟨.rt r, rfl, .inr ⟨r, rfl, hk, fun z => hp (z x List.mem_cons_self)⟩⟩
/-- neighbours -/
theorem up_zip {w : Int → Bool} : ∀ {l : List Int}, upB w l ↔ ∀ z ∈ l.zip (l.drop 1), ¬ (w z.1 = true ∧ w z.2 = false)
  | [] => ⟨fun _ z hz => by simp at hz, fun _ => True.intro⟩
  | [x] => ⟨fun _ z hz => by simp at hz, fun _ => True.intro⟩
  | x :: y :: l => by
    have ih := up_zip (w := w) (l := y :: l)
    show ((w x = true → w y = true) ∧ upB w (y :: l)) ↔ ∀ z ∈ (x, y) :: (y :: l).zip ((y :: l).drop 1), _
    rw [ih]
    constructor
    · rintro ⟨h1, h2⟩ z hz
      rcases List.mem_cons.mp hz with e | hz
      · subst e
        rintro ⟨a, b⟩
        have := h1 a
        rw [b] at this; cases this
      · exact h2 z hz
    · intro h
      refine ⟨fun a => ?_, fun z hz => h z (List.mem_cons_of_mem _ hz)⟩
      have := h (x, y) List.mem_cons_self
      cases hy : w y with
      | true => rfl
      | false => exact absurd ⟨a, hy⟩ this
/-! the ways of the others -/
theorem pin_some {A : List (List α)} : ∀ {o : List (Option α)}, PIn o (A.map (List.map some)) ↔ ∃ q, o = q.map some ∧ PIn q A := by
  induction A with
  | nil =>
    intro o
    constructor
    · intro h; cases h; exact ⟨[], rfl, .nil⟩
    · rintro ⟨q, rfl, h⟩; cases h; exact .nil
  | cons l A ih =>
    intro o
    constructor
    · intro h
      cases h with
      | cons r t =>
        obtain ⟨q, rfl, h2⟩ := ih.mp t
        obtain ⟨x, hx, rfl⟩ := List.mem_map.mp r
        exact ⟨x :: q, rfl, .cons hx h2⟩
    · rintro ⟨q, rfl, h⟩
      cases h with
      | cons r t => exact .cons (List.mem_map.mpr ⟨_, r, rfl⟩) (ih.mpr ⟨_, rfl, t⟩)
def wayM (m : List (List α)) (b : Nat) : List (List (Option α)) := (m.take b).map (List.map some) ++ [[none]] ++ (m.drop (b + 1)).map (List.map some)
def ways (m : List (List α)) (b : Nat) : List (List (Option α)) := pfs (wayM m b)
theorem ways_mem {m : List (List α)} {b : Nat} {o : List (Option α)} : o ∈ ways m b ↔ ∃ q r, o = q.map some ++ [none] ++ r.map some ∧ PIn q (m.take b) ∧ PIn r (m.drop (b + 1)) := by
  unfold ways wayM
  rw [pfs_mem, pin_mid]
  constructor
  · rintro ⟨q, x, r, rfl, h1, h2, h3⟩
    obtain ⟨q', e1, g1⟩ := pin_some.mp h1
    obtain ⟨r', e3, g3⟩ := pin_some.mp h3
    have : x = none := by simpa using h2
    subst this e1 e3
    exact ⟨q', r', rfl, g1, g3⟩
  · rintro ⟨q, r, rfl, h1, h3⟩
    exact ⟨_, none, _, rfl, pin_some.mpr ⟨q, rfl, h1⟩, by simp, pin_some.mpr ⟨r, rfl, h3⟩⟩
theorem cnt_map (f : α → β) : ∀ A : List (List α), cnt (A.map (List.map f)) = cnt A
  | [] => rfl
  | l :: A => by
    show (l.map f).length * cnt (A.map (List.map f)) = l.length * cnt A
    rw [cnt_map f A, List.length_map]
theorem wayM_cnt {m : List (List α)} {b : Nat} (hb : b < m.length) (h : ∀ l ∈ m, l ≠ []) : cnt (wayM m b) ≤ cnt m := by
  unfold wayM
  rw [cnt_app, cnt_app, cnt_map, cnt_map]
  have e : cnt m = cnt (m.take b) * cnt [m[b]] * cnt (m.drop (b + 1)) := by rw [← cnt_app, ← cnt_app, take_mid m b hb]
  rw [e]
  have h1 : 0 < (m[b]).length := List.length_pos_iff.mpr (h _ (List.getElem_mem hb))
  have e2 : cnt [([none] : List (Option α))] = 1 := rfl
  have e3 : cnt [m[b]] = (m[b]).length := by simp [cnt]
  rw [e2, e3]
  exact Nat.mul_le_mul_right _ (Nat.mul_le_mul_left _ h1)
theorem wayM_len {m : List (List α)} {b : Nat} (hb : b < m.length) : (wayM m b).length = m.length := by
  unfold wayM
  simp
  omega
theorem wayM_ok {m : List (List α)} {b : Nat} (h : ∀ l ∈ m, l ≠ [] ∧ l.length ≤ 1000) : ∀ l ∈ wayM m b, l ≠ [] ∧ l.length ≤ 1000 := by
  intro l hl
  unfold wayM at hl
  rcases List.mem_append.mp hl with hl | hl
  · rcases List.mem_append.mp hl with hl | hl
    · obtain ⟨z, hz, rfl⟩ := List.mem_map.mp hl
      have := h z (List.mem_of_mem_take hz)
      exact ⟨by simpa using this.1, by simpa using this.2⟩
    · have : l = [none] := by simpa using hl
      subst this; simp
  · obtain ⟨z, hz, rfl⟩ := List.mem_map.mp hl
    have := h z (List.mem_of_mem_drop hz)
    exact ⟨by simpa using this.1, by simpa using this.2⟩
end
end Pl

namespace Pl
open PySem L2 PySem.Spec PyProof.Rows
/-! what the program's functions answer -/
def MkOk (m : List (List Int)) : Prop := (∀ l ∈ m, l ≠ [] ∧ l.length ≤ 1000) ∧ m.length < 1000 ∧ cnt m ≤ 2000
theorem profiles_ok {m : List (List Int)} (h : MkOk m) : F__law_profiles m = some (pfs m) := by
  unfold F__law_profiles
  rw [bnd (profL_ok m [[]] h.1 (by have := h.2.1; simp; omega) (by have := h.2.2; simp; omega))]; rfl
theorem ways_ok1 {m : List (List Int)} {b : Nat} (h : MkOk m) (hb : b < m.length) : F__law_profiles_1 (wayM m b) = some (ways m b) := by
  have h1 := wayM_cnt hb fun l hl => (h.1 l hl).1
  unfold F__law_profiles_1
  rw [bnd (profL_ok (wayM m b) [[]] (wayM_ok h.1) (by have := h.2.1; rw [wayM_len hb]; simp; omega) (by have := h.2.2; simp; omega))]; rfl
theorem ways_ok2 {m : List (List Int)} {b : Nat} (h : MkOk m) (hb : b < m.length) : F_profiles (wayM m b) = some (ways m b) := by
  have h1 := wayM_cnt hb fun l hl => (h.1 l hl).1
  unfold F_profiles
  rw [bnd (profQ_ok (wayM m b) [[]] (wayM_ok h.1) (by have := h.2.1; rw [wayM_len hb]; simp; omega) (by have := h.2.2; simp; omega))]; rfl
theorem enumW_mem {m : List (List Int)} {x : Pw Int (List Int)} (h : x ∈ enumW m) : ∃ (b : Nat) (hb : b < m.length), x = Pw.of (b : Int) m[b] := by
  unfold enumW at h
  obtain ⟨b, hb, e⟩ := List.mem_iff_getElem.mp h
  rw [List.getElem_mapIdx] at e
  exact ⟨b, by simpa using hb, e.symm⟩
theorem others_ok {m : List (List Int)} {b : Nat} (h : MkOk m) (hb : b < m.length) : F_others_of m (b : Int) = some (ways m b) := by
  have e1 : lcP (fun (x1 : (Pw Int (List Int))) => (some (some (if (decide ((x1.1 : Int) = ((b : Int) : Int))) = true then ([()].map (fun z => (none : (Option Int)))) else (x1.2.map (fun z => (some z))))) : Option (Option (List (Option Int))))) (enumW m) = some (wayM m b) := by
    rw [lcP_map (fun (x1 : (Pw Int (List Int))) => if (decide ((x1.1 : Int) = ((b : Int) : Int))) = true then ([()].map (fun z => (none : (Option Int)))) else (x1.2.map (fun z => (some z)))) _ fun x _ => rfl]
    congr 1
    apply List.ext_getElem?
    intro k
    unfold enumW
    rw [List.getElem?_map, List.getElem?_mapIdx]
    by_cases hk : k < m.length
    · rw [List.getElem?_eq_getElem hk]
      show some (if (decide ((k : Int) = (b : Int))) = true then [none] else (m[k]).map some) = _
      unfold wayM
      by_cases e : k = b
      · subst e
        rw [if_pos (by simp), List.append_assoc, List.getElem?_append_right (by simp; omega)]
        simp
        rw [Nat.min_eq_left (by omega)]
        simp
      · rw [if_neg (by simp; omega)]
        by_cases c : k < b
        · rw [List.append_assoc, List.getElem?_append_left (by simp; omega), List.getElem?_map, List.getElem?_take_of_lt c, List.getElem?_eq_getElem hk]; rfl
        · rw [List.getElem?_append_right (by simp; omega), List.getElem?_map, List.getElem?_drop]
          have : b + 1 + (k - ((m.take b).map (List.map some) ++ [[(none : Option Int)]]).length) = k := by simp; omega
          rw [this, List.getElem?_eq_getElem hk]; rfl
    · rw [List.getElem?_eq_none (by omega), List.getElem?_eq_none (by rw [wayM_len hb]; omega)]; rfl
  unfold F_others_of
  rw [bnd e1, bnd (lenP_ok (by rw [wayM_len hb]; have := h.2.1; unfold LINE; omega)), bnd (ways_ok2 h hb)]
theorem level_ok {q r : List Int} {x : Int} {b : Nat} (hq : q.length = b) (hl : q.length + r.length < 1000) : F_with_level (q.map some ++ [none] ++ r.map some) (b : Int) x = some ((q ++ [x] ++ r).map some) := by
  unfold F_with_level
  have e1 : cut (q.map some ++ [none] ++ r.map some) none (some (b : Int)) = q.map some := by
    rw [cut_take (by omega), Int.toNat_natCast]
    have := mid_take (q := q.map some) (x := (none : Option Int)) (r := r.map some)
    rw [List.length_map, hq] at this
    exact this
  have e2 : cut (q.map some ++ [none] ++ r.map some) (some ((b : Int) + 1)) none = r.map some := by
    rw [cut_drop (by omega)]
    have := mid_drop (q := q.map some) (x := (none : Option Int)) (r := r.map some)
    rw [List.length_map, hq] at this
    have e : ((b : Int) + 1).toNat = b + 1 := by omega
    rw [e]; exact this
  rw [e1, e2, catO_ok (by unfold LINE; simp; omega), Option.bind_some, catO_ok (by unfold LINE; simp; omega), Option.bind_some]
  simp
theorem place_go : ∀ {m : List (List Int)} {r : List Int}, PIn r m → (∀ l ∈ m, l ≠ [] ∧ l.length ≤ 1000) → ∀ (acc : List (List Int)) (a : Nat) (q : List Int), acc[a]? = some q → acc.length * cnt m ≤ 1000000 →
    ∃ i : Nat, loopO (fun (a8 : Int) (x1 : (Pw (Option Int) (List Int))) => ((mulO a8 (x1.2.length : Int)).bind fun t9 => (idxO (x1.2.map (fun z => (some z))) x1.1).bind fun t10 => some (t9 + t10) : Option Int)) (a : Int) (zipW (r.map some) m) = some (i : Int) ∧ (pfsF acc m)[i]? = some (q ++ r)
  | _, _, .nil, _, acc, a, q, ha, _ => ⟨a, rfl, by rw [List.append_nil]; exact ha⟩
  | _, _, .cons (a := x) (b := l) (l₁ := r) (l₂ := m) hx t, h, acc, a, q, ha, hc => by
    obtain ⟨j, hj, e1, e2⟩ := idxO_mem (l := l.map fun z => (some z)) (x := some x) (List.mem_map.mpr ⟨x, hx, rfl⟩)
    have hj' : j < l.length := by simpa using hj
    have e3 : l[j]? = some x := by
      rw [List.getElem?_eq_getElem hj']
      simp at e2
      rw [e2]
    have hl := (h l List.mem_cons_self).2
    have hle := le_cnt (l := l) (acc := acc) (m := m) fun z hz => (h z (List.mem_cons_of_mem _ hz)).1
    obtain ⟨i, e4, e5⟩ := place_go t (fun z hz => h z (List.mem_cons_of_mem _ hz)) (stepP acc l) (a * l.length + j) (q ++ [x]) (stepP_get ha e3) (by rw [stepP_len]; unfold cnt at hc; rw [Nat.mul_assoc]; exact hc)
    have hal : a < acc.length := (List.getElem?_eq_some_iff.mp ha).1
    have hlp : 0 < l.length := by omega
    have hal2 : acc.length ≤ acc.length * l.length := Nat.le_mul_of_pos_right _ hlp
    refine ⟨i, ?_, ?_⟩
    · show loopO _ (a : Int) (Pw.of (some x) l :: zipW (r.map some) m) = _
      unfold loopO
      show ((mulO (a : Int) (l.length : Int)).bind fun t9 => (idxO (l.map (fun z => (some z))) (some x)).bind fun t10 => some (t9 + t10)).bind _ = _
      rw [mulO_ok (by omega) (by omega), Option.bind_some, e1, Option.bind_some, Option.bind_some]
      have e6 : ((a : Int) * (l.length : Int) + (j : Int)) = ((a * l.length + j : Nat) : Int) := by rw [Int.natCast_add, Int.natCast_mul]
      rw [e6]
      exact e4
    · show (pfsF (stepP acc l) m)[i]? = _
      rw [e5]; simp
theorem place_ok {m : List (List Int)} {p : List Int} (h : MkOk m) (hp : PIn p m) : ∃ i : Nat, F_place_of m (p.map some) = some (i : Int) ∧ (pfs m)[i]? = some p := by
  obtain ⟨i, e1, e2⟩ := place_go hp h.1 [[]] 0 [] rfl (by have := h.2.2; simp; omega)
  refine ⟨i, ?_, e2⟩
  exact congrArg (fun z => Option.bind z fun t11 => some t11) e1
def lotR (m : List (List Int)) (lots : List (List Int × List Int)) : List (List Int) := (pfs m).map fun p => (aGet lots p).getD []
def Wn (lots : List (List Int × List Int)) (b : Int) (p : List Int) : Bool := decide (b ∈ (aGet lots p).getD [])
theorem rule_ok {m : List (List Int)} {B : Nat} {lots : List (List Int × List Int)} (h : MkOk m) (lo : LO m B lots) (lf : LF m lots) : F__law_rule m lots = some (m, lotR m lots) := by
  unfold F__law_rule
  have e : lcP (fun (x2 : (List Int)) => ((aGet lots x2).bind fun t3 => some (some t3) : Option (Option (List Int)))) (pfs m) = some (lotR m lots) := lcP_map (fun p => (aGet lots p).getD []) _ fun p hp => by
    obtain ⟨v, e, _⟩ := lot_of lo lf (pfs_mem.mp hp)
    rw [e]; rfl
  rw [bnd (profiles_ok h), bnd e, bnd (lenP_ok (by unfold lotR; rw [List.length_map, pfs_len]; have := h.2.2; unfold LINE; omega))]
theorem wins_ok {m : List (List Int)} {lots : List (List Int × List Int)} {p : List Int} {b : Int} (h : MkOk m) (hp : PIn p m) : F_wins (m, lotR m lots) (p.map some) b = some (Wn lots b p) := by
  obtain ⟨i, e1, e2⟩ := place_ok h hp
  have hi := (List.getElem?_eq_some_iff.mp e2).1
  unfold F_wins F_lot_at
  rw [bnd e1, bnd (atI_nat (l := lotR m lots) (k := i) (by unfold lotR; rw [List.length_map]; exact hi)), Option.bind_some]
  have e3 : (lotR m lots)[i]'(by unfold lotR; rw [List.length_map]; exact hi) = (aGet lots p).getD [] := by
    unfold lotR
    rw [List.getElem_map]
    rw [List.getElem?_eq_getElem hi] at e2
    rw [Option.some.inj e2]
  rw [e3]; rfl
/-- a way of the others, a buyer's level put in -/
theorem way_in {m : List (List Int)} {b : Nat} (hb : b < m.length) {q r : List Int} {x : Int} (h1 : PIn q (m.take b)) (h2 : PIn r (m.drop (b + 1))) (hx : x ∈ m[b]) : PIn (q ++ [x] ++ r) m := by
  have := pin_mid.mpr ⟨q, x, r, rfl, h1, hx, h2⟩
  rwa [take_mid m b hb] at this
theorem way_len {m : List (List Int)} {b : Nat} (hb : b < m.length) {q r : List Int} (h : MkOk m) (h1 : PIn q (m.take b)) (h2 : PIn r (m.drop (b + 1))) : q.length = b ∧ q.length + r.length < 1000 := by
  have a := pin_len h1
  have c := pin_len h2
  have := h.2.1
  simp at a c
  omega
/-- the levels at which a buyer wins -/
theorem least_ok {m : List (List Int)} {lots : List (List Int × List Int)} {b : Nat} (h : MkOk m) (hb : b < m.length) {q r : List Int} (h1 : PIn q (m.take b)) (h2 : PIn r (m.drop (b + 1))) :
    F_least_winning (m, lotR m lots) (b : Int) (q.map some ++ [none] ++ r.map some) = some ((m[b]).filter fun x => Wn lots b (q ++ [x] ++ r)).head? := by
  obtain ⟨g1, g2⟩ := way_len hb h h1 h2
  unfold F_least_winning
  rw [bnd (show atI m (b : Int) = some m[b] from atI_nat hb)]
  have key : ∀ l : List Int, (∀ x ∈ l, x ∈ m[b]) → ctlO (loopC (ρ := (Option Int)) (fun (a6 : Unit) (x2 : Int) => ((F_with_level (q.map some ++ [none] ++ r.map some) (b : Int) x2).bind fun t7 => (F_wins (m, lotR m lots) t7 (b : Int)).bind fun t8 => if t8 = true then some (.rt (some x2)) else some (.nx ()) : Option (Ctl Unit (Option Int)))) () l) (fun t9 => some (none : (Option Int))) (fun r10 => some r10) = some (l.filter fun x => Wn lots b (q ++ [x] ++ r)).head? := by
    intro l
    induction l with
    | nil => intro _; rfl
    | cons x l ih =>
      intro hl
      unfold loopC
      rw [level_ok g1 g2, Option.bind_some, wins_ok h (way_in hb h1 h2 (hl x List.mem_cons_self)), Option.bind_some]
      cases hw : Wn lots b (q ++ [x] ++ r) with
      | true =>
        rw [if_pos rfl, List.filter_cons, if_pos hw]; rfl
      | false =>
        rw [if_neg (by decide), List.filter_cons, if_neg (by rw [hw]; decide)]
        exact ih fun y hy => hl y (List.mem_cons_of_mem _ hy)
  exact key _ fun _ hx => hx
/-- all ways go up -/
def Rises (m : List (List Int)) (lots : List (List Int × List Int)) (b : Nat) (l : List Int) : Prop := ∀ q r, PIn q (m.take b) → PIn r (m.drop (b + 1)) → upB (fun x => Wn lots b (q ++ [x] ++ r)) l
abbrev FP : Type := Option (T3 Int (List (Option Int)) (List (Option Int)))
noncomputable def st3 (ru : (List (List Int)) × (List (List Int))) (b : Int) (o : List (Option Int)) (_ : Unit) (z : Pw Int Int) : Option (Ctl Unit FP) := ((F_with_level o b z.1).bind fun t67 => (F_with_level o b z.2).bind fun t68 => (F_wins ru t67 b).bind fun t69 => (if t69 = true then (F_wins ru t68 b).bind fun t70 => some (!t70) else some false).bind fun t71 => if t71 = true then some (.rt (some (T3.mk b t67 t68))) else some (.nx ()))
noncomputable def st2 (ru : (List (List Int)) × (List (List Int))) (b : Int) (l : List Int) (_ : Unit) (o : List (Option Int)) : Option (Ctl Unit FP) := ctlO (loopC (st3 ru b o) () (zipW l (cut l (some (1 : Int)) none))) (fun t72 => some (.nx ())) (fun r73 => some (.rt r73))
noncomputable def st1 (ru : (List (List Int)) × (List (List Int))) (_ : Unit) (x : Pw Int (List Int)) : Option (Ctl Unit FP) := ((F_others_of ru.1 x.1).bind fun t40 => ctlO (loopC (st2 ru x.1 x.2) () t40) (fun t74 => some (.nx ())) (fun r75 => some (.rt r75)))
theorem fall_eq (ru : (List (List Int)) × (List (List Int))) : F_falling_pair ru = ctlO (loopC (st1 ru) () (enumW ru.1)) (fun t76 => some none) (fun r77 => some r77) := rfl
theorem st3_ok {m : List (List Int)} {lots : List (List Int × List Int)} {b : Nat} (h : MkOk m) (hb : b < m.length) {q r : List Int} (h1 : PIn q (m.take b)) (h2 : PIn r (m.drop (b + 1))) {x y : Int} (hx : x ∈ m[b]) (hy : y ∈ m[b]) :
    ∃ c, st3 (m, lotR m lots) (b : Int) (q.map some ++ [none] ++ r.map some) () (Pw.of x y) = some c ∧ ((c = .nx () ∧ ¬ (Wn lots b (q ++ [x] ++ r) = true ∧ Wn lots b (q ++ [y] ++ r) = false)) ∨ ∃ r' : FP, c = .rt r' ∧ r' ≠ none ∧ ¬ ¬ (Wn lots b (q ++ [x] ++ r) = true ∧ Wn lots b (q ++ [y] ++ r) = false)) := by
  obtain ⟨g1, g2⟩ := way_len hb h h1 h2
  have ex := level_ok (x := x) g1 g2
  have ey := level_ok (x := y) g1 g2
  have e : st3 (m, lotR m lots) (b : Int) (q.map some ++ [none] ++ r.map some) () (Pw.of x y) = (if Wn lots b (q ++ [x] ++ r) = true then some (!(Wn lots b (q ++ [y] ++ r))) else some false).bind fun t71 => if t71 = true then some (Ctl.rt (some (T3.mk (b : Int) ((q ++ [x] ++ r).map some) ((q ++ [y] ++ r).map some)))) else some (.nx ()) := by
    show (F_with_level (q.map some ++ [none] ++ r.map some) (b : Int) x).bind _ = _
    rw [ex, Option.bind_some]
    show (F_with_level (q.map some ++ [none] ++ r.map some) (b : Int) y).bind _ = _
    rw [ey, Option.bind_some, wins_ok h (way_in hb h1 h2 hx), Option.bind_some, wins_ok h (way_in hb h1 h2 hy)]; rfl
  rw [e]
  cases hwx : Wn lots b (q ++ [x] ++ r) with
  | false => exact ⟨_, rfl, .inl ⟨rfl, fun z => by cases z.1⟩⟩
  | true =>
    cases hwy : Wn lots b (q ++ [y] ++ r) with
    | true => exact ⟨_, rfl, .inl ⟨rfl, fun z => by cases z.2⟩⟩
    | false => exact ⟨_, rfl, .inr ⟨_, rfl, by simp, fun z => z ⟨rfl, rfl⟩⟩⟩
theorem way_inj {q q' r r' : List Int} (hl : q.length = q'.length) (e : q.map some ++ [none] ++ r.map some = q'.map some ++ [none] ++ r'.map some) : q = q' ∧ r = r' := by
  have e1 : q.map some = q'.map some ∧ ([(none : Option Int)] ++ r.map some) = [none] ++ r'.map some := List.append_inj (by rw [← List.append_assoc, ← List.append_assoc]; exact e) (by simp; omega)
  exact ⟨(List.map_inj_right (fun _ _ h => Option.some.inj h)).mp e1.1, (List.map_inj_right (fun _ _ h => Option.some.inj h)).mp (by simpa using e1.2)⟩
theorem st2_ok {m : List (List Int)} {lots : List (List Int × List Int)} {b : Nat} (h : MkOk m) (hb : b < m.length) {q r : List Int} (h1 : PIn q (m.take b)) (h2 : PIn r (m.drop (b + 1))) :
    ∃ c, st2 (m, lotR m lots) (b : Int) m[b] () (q.map some ++ [none] ++ r.map some) = some c ∧ ((c = .nx () ∧ upB (fun x => Wn lots b (q ++ [x] ++ r)) m[b]) ∨ ∃ r' : FP, c = .rt r' ∧ r' ≠ none ∧ ¬ upB (fun x => Wn lots b (q ++ [x] ++ r)) m[b]) := by
  obtain ⟨c, e, hc⟩ := loopC_any (step := st3 (m, lotR m lots) (b : Int) (q.map some ++ [none] ++ r.map some)) (P := fun (z : Pw Int Int) => ¬ (Wn lots b (q ++ [z.1] ++ r) = true ∧ Wn lots b (q ++ [z.2] ++ r) = false)) (K := fun (r : FP) => r ≠ none) (zipW m[b] (cut m[b] (some (1 : Int)) none)) (fun z hz => by
    obtain ⟨x, y⟩ := z
    have hz' : (x, y) ∈ (m[b]).zip ((m[b]).drop 1) := by
      rw [cut_drop (by decide)] at hz
      exact hz
    exact st3_ok h hb h1 h2 (List.of_mem_zip hz').1 (List.mem_of_mem_drop (List.of_mem_zip hz').2))
  have hup : (∀ z ∈ zipW m[b] (cut m[b] (some (1 : Int)) none), ¬ (Wn lots b (q ++ [z.1] ++ r) = true ∧ Wn lots b (q ++ [z.2] ++ r) = false)) ↔ upB (fun x => Wn lots b (q ++ [x] ++ r)) m[b] := by
    rw [cut_drop (by decide)]
    exact (up_zip (w := fun x => Wn lots b (q ++ [x] ++ r)) (l := m[b])).symm
  unfold st2
  rw [e]
  rcases hc with ⟨rfl, h3⟩ | ⟨r', rfl, h3, h4⟩
  · exact ⟨.nx (), rfl, .inl ⟨rfl, hup.mp h3⟩⟩
  · exact ⟨.rt r', rfl, .inr ⟨r', rfl, h3, fun z => h4 (hup.mpr z)⟩⟩
theorem st1_ok {m : List (List Int)} {lots : List (List Int × List Int)} {b : Nat} (h : MkOk m) (hb : b < m.length) :
    ∃ c, st1 (m, lotR m lots) () (Pw.of (b : Int) m[b]) = some c ∧ ((c = .nx () ∧ Rises m lots b m[b]) ∨ ∃ r' : FP, c = .rt r' ∧ r' ≠ none ∧ ¬ Rises m lots b m[b]) := by
  obtain ⟨c, e, hc⟩ := loopC_any (step := st2 (m, lotR m lots) (b : Int) m[b]) (P := fun (o : List (Option Int)) => ∀ q r, o = q.map some ++ [none] ++ r.map some → PIn q (m.take b) → PIn r (m.drop (b + 1)) → upB (fun x => Wn lots b (q ++ [x] ++ r)) m[b]) (K := fun (r : FP) => r ≠ none) (ways m b) (fun o ho => by
    obtain ⟨q, r, rfl, h1, h2⟩ := ways_mem.mp ho
    obtain ⟨c, e, hc⟩ := st2_ok (lots := lots) h hb h1 h2
    refine ⟨c, e, ?_⟩
    rcases hc with ⟨rfl, h3⟩ | ⟨r', rfl, h3, h4⟩
    · refine .inl ⟨rfl, fun q' r' e' h1' h2' => ?_⟩
      have l1 := pin_len h1
      have l2 := pin_len h1'
      obtain ⟨e2, e3⟩ := way_inj (by omega) e'
      subst e2 e3
      exact h3
    · exact .inr ⟨r', rfl, h3, fun z => h4 (z q r rfl h1 h2)⟩)
  have hr : (∀ o ∈ ways m b, ∀ q r, o = q.map some ++ [none] ++ r.map some → PIn q (m.take b) → PIn r (m.drop (b + 1)) → upB (fun x => Wn lots b (q ++ [x] ++ r)) m[b]) ↔ Rises m lots b m[b] :=
    ⟨fun z q r h1 h2 => z _ (ways_mem.mpr ⟨q, r, rfl, h1, h2⟩) q r rfl h1 h2, fun z o _ q r _ h1 h2 => z q r h1 h2⟩
  have e0 : st1 (m, lotR m lots) () (Pw.of (b : Int) m[b]) = (F_others_of m (b : Int)).bind fun t40 => ctlO (loopC (st2 (m, lotR m lots) (b : Int) m[b]) () t40) (fun t74 => some (.nx ())) (fun r75 => some (.rt r75)) := rfl
  rw [e0, others_ok h hb, Option.bind_some, e]
  rcases hc with ⟨rfl, h3⟩ | ⟨r', rfl, h3, h4⟩
  · exact ⟨.nx (), rfl, .inl ⟨rfl, hr.mp h3⟩⟩
  · exact ⟨.rt r', rfl, .inr ⟨r', rfl, h3, fun z => h4 (hr.mpr z)⟩⟩
theorem fall_ok {m : List (List Int)} {lots : List (List Int × List Int)} (h : MkOk m) : ∃ r, F_falling_pair (m, lotR m lots) = some r ∧ (r = none ↔ ∀ (b : Nat) (hb : b < m.length), Rises m lots b m[b]) := by
  obtain ⟨c, e, hc⟩ := loopC_any (step := st1 (m, lotR m lots)) (P := fun (x : Pw Int (List Int)) => ∃ (b : Nat) (hb : b < m.length), x = Pw.of (b : Int) m[b] ∧ Rises m lots b m[b]) (K := fun (r : FP) => r ≠ none) (enumW m) (fun x hx => by
    obtain ⟨b, hb, rfl⟩ := enumW_mem hx
    obtain ⟨c, e, hc⟩ := st1_ok (lots := lots) h hb
    refine ⟨c, e, ?_⟩
    rcases hc with ⟨rfl, h3⟩ | ⟨r', rfl, h3, h4⟩
    · exact .inl ⟨rfl, b, hb, rfl, h3⟩
    · refine .inr ⟨r', rfl, h3, ?_⟩
      rintro ⟨b', hb', e', z⟩
      have eb : (b : Int) = (b' : Int) := congrArg Prod.fst e'
      have eb' : b = b' := by omega
      subst eb'
      exact h4 z)
  have ha : (∀ x ∈ enumW m, ∃ (b : Nat) (hb : b < m.length), x = Pw.of (b : Int) m[b] ∧ Rises m lots b m[b]) ↔ ∀ (b : Nat) (hb : b < m.length), Rises m lots b m[b] := by
    constructor
    · intro z b hb
      obtain ⟨b', hb', e', z'⟩ := z (Pw.of (b : Int) m[b]) (by
        unfold enumW
        exact List.mem_iff_getElem.mpr ⟨b, by simpa using hb, by simp⟩)
      have eb : (b : Int) = (b' : Int) := congrArg Prod.fst e'
      have eb' : b = b' := by omega
      subst eb'
      exact z'
    · intro z x hx
      obtain ⟨b, hb, e⟩ := enumW_mem hx
      exact ⟨b, hb, e, z b hb⟩
  rw [fall_eq]
  show ∃ r, ctlO (loopC (st1 (m, lotR m lots)) () (enumW m)) _ _ = some r ∧ _
  rw [e]
  rcases hc with ⟨rfl, h3⟩ | ⟨r', rfl, h3, h4⟩
  · exact ⟨none, rfl, fun _ => ha.mp h3, fun _ => rfl⟩
  · exact ⟨r', rfl, fun z => absurd z h3, fun z => absurd (ha.mpr z) h4⟩
end Pl

namespace Pl
open PySem L2 PySem.Spec PyProof.Rows
/-! lots of a drawn clock -/
abbrev Bx : Type := T3 (List (List Int)) (List Int) (List Int)
abbrev Lots : Type := List (List Int × List Int)
abbrev CS : Type := Deal × (Lots × List Bx)
noncomputable def clA (w : Bx) (x80 : Int) : Option (Option Int) := ((if (!(decide ((x80 : Int) ∈ (w.b : (List Int))))) = true then (if (!(decide ((x80 : Int) ∈ (w.c : (List Int))))) = true then (atI w.a x80).bind fun t81 => some (decide ((1 : Int) < (t81.length : Int))) else some false).bind fun t82 => some t82 else some false).bind fun t83 => if t83 = true then some (some x80) else some none)
noncomputable def clEnd (m : List (List Int)) (dl : Deal) (lots : Lots) (w : Bx) (rest : List Bx) : Option CS := (rng1O (m.length : Int)).bind fun t88 => (lcP (fun (x89 : Int) => (if ((!(decide ((x89 : Int) ∈ (w.b : (List Int))))) && (!(decide ((x89 : Int) ∈ (w.c : (List Int)))))) = true then some (some x89) else some none : Option (Option Int))) t88).bind fun t90 => (lenP t90).bind fun t91 => (lcO (fun (d94 : Deal) (x92 : Int) => ((anyO d94 (2 : Int)).bind fun t95 => if (decide ((t95.1 : Int) = ((0 : Int) : Int))) = true then some (some x92, t95.2) else some (none, t95.2) : Option (Option Int × Deal))) dl t91).bind fun t96 => (lenO t96).bind fun t97 => (catO w.c t97.1).bind fun t98 => (F__law_profiles w.a).bind fun t99 => (loopO (fun (a105 : Lots) (x100 : (List Int)) => ((aPutO a105 x100 (sortI t98)).bind fun t106 => some t106 : Option Lots)) lots t99).bind fun t107 => some (t97.2, (t107, rest))
noncomputable def clSplit (dl : Deal) (lots : Lots) (w : Bx) (rest : List Bx) (some_ : List Int) : Option CS := (F__law_of dl some_).bind fun t108 => (F__law_parted w.a t108.1).bind fun t109 => (anyO t108.2 (3 : Int)).bind fun t110 => if (decide ((0 : Int) < t110.1)) = true then (catO w.b [t108.1]).bind fun t111 => (catO rest ([(T3.mk t109.1 t111 w.c), (T3.mk t109.2 w.b w.c)])).bind fun t112 => some (t110.2, (lots, t112)) else (catO w.c [t108.1]).bind fun t113 => (catO rest ([(T3.mk t109.1 w.b w.c), (T3.mk t109.2 w.b t113)])).bind fun t114 => some (t110.2, (lots, t114))
noncomputable def clStep (m : List (List Int)) (stops : Int) (a : CS) : Option CS := (popO a.2.2).bind fun t78 => (rng1O (m.length : Int)).bind fun t79 => (lcP (clA t78.1) t79).bind fun t84 => (lenP t84).bind fun t85 => (if (decide ((Ls.mk (t85 : (List Int))) = (Ls.mk ([] : (List Int))))) = true then some (true, a.1) else (anyO a.1 stops).bind fun t86 => some ((decide ((t86.1 : Int) = ((0 : Int) : Int))), t86.2)).bind fun t87 => if t87.1 = true then clEnd m t87.2 a.2.1 t78.1 t78.2 else clSplit t87.2 a.2.1 t78.1 t78.2 t85
theorem clock_eq (d : Deal) (m : List (List Int)) (stops : Int) : F__law_clock_lots d m stops = (whileO (fun (a77 : CS) => some (!(decide ((Ls.mk (a77.2.2 : List Bx)) = (Ls.mk ([] : List Bx)))))) (clStep m stops) (d, (([] : Lots), [(T3.mk m [] [] : Bx)]))).bind fun t115 => some (t115.2.1, t115.1) := rfl
/-- a box that waits -/
structure BoxOk (m : List (List Int)) (w : Bx) : Prop where
  len : w.a.length = m.length
  ok : ∀ l ∈ w.a, l ≠ [] ∧ l.length ≤ 1000
  sub : ∀ p, PIn p w.a → PIn p m
  cn : cnt w.a ≤ 2000
  ob : w.b.length + cnt w.a ≤ 2001
  oc : w.c.length + cnt w.a ≤ 2001
theorem BoxOk.mk' {m : List (List Int)} {w : Bx} (h : BoxOk m w) (hm : MkOk m) : MkOk w.a := ⟨h.ok, by rw [h.len]; exact hm.2.1, h.cn⟩
theorem BoxOk.pos {m : List (List Int)} {w : Bx} (h : BoxOk m w) : 0 < cnt w.a := cnt_pos fun l hl => (h.ok l hl).1
/-- one ladder of a box made smaller -/
def putL (a : List (List Int)) (n : Nat) (l : List Int) : List (List Int) := a.take n ++ [l] ++ a.drop (n + 1)
theorem putL_cnt {a : List (List Int)} {n : Nat} (l : List Int) : cnt (putL a n l) = cnt (a.take n) * l.length * cnt (a.drop (n + 1)) := by
  unfold putL
  rw [cnt_app, cnt_app]
  have : cnt [l] = l.length := by simp [cnt]
  rw [this]
theorem putL_same {a : List (List Int)} {n : Nat} (h : n < a.length) : putL a n a[n] = a := take_mid a n h
theorem putL_sum {a : List (List Int)} {n : Nat} (h : n < a.length) (h1 : a[n] ≠ []) : cnt (putL a n (a[n].take 1)) + cnt (putL a n (a[n].drop 1)) = cnt a := by
  have e : cnt a = cnt (a.take n) * (a[n]).length * cnt (a.drop (n + 1)) := by rw [← putL_cnt, putL_same h]
  have hp := List.length_pos_iff.mpr h1
  rw [putL_cnt, putL_cnt, e, List.length_take, List.length_drop, ← Nat.add_mul, ← Nat.mul_add]
  congr 2
  omega
theorem putL_box {m : List (List Int)} {w : Bx} {n : Nat} {l b c : List Int} (h : BoxOk m w) (hn : n < w.a.length) (hl : l ≠ []) (hs : ∀ x ∈ l, x ∈ w.a[n]) (hlen : l.length ≤ (w.a[n]).length) (hc : cnt (putL w.a n l) < cnt w.a) (hb : b.length ≤ w.b.length + 1) (hcc : c.length ≤ w.c.length + 1) : BoxOk m (T3.mk (putL w.a n l) b c) := by
  have h0 := h.cn
  have h1 := h.ob
  have h2 := h.oc
  refine ⟨?_, fun z hz => ?_, fun p hp => ?_, ?_, ?_, ?_⟩
  · show (putL w.a n l).length = _
    unfold putL
    rw [← h.len]; simp; omega
  · unfold putL at hz
    rcases List.mem_append.mp hz with hz | hz
    · rcases List.mem_append.mp hz with hz | hz
      · exact h.ok z (List.mem_of_mem_take hz)
      · have : z = l := by simpa using hz
        subst this
        exact ⟨hl, Nat.le_trans hlen (h.ok _ (List.getElem_mem hn)).2⟩
    · exact h.ok z (List.mem_of_mem_drop hz)
  · refine h.sub p ?_
    obtain ⟨q, x, r, rfl, g1, g2, g3⟩ := pin_mid.mp (show PIn p (w.a.take n ++ [l] ++ w.a.drop (n + 1)) from hp)
    rw [← putL_same hn]
    exact pin_mid.mpr ⟨q, x, r, rfl, g1, hs x g2, g3⟩
  · show cnt (putL w.a n l) ≤ _; omega
  · show b.length + cnt (putL w.a n l) ≤ _; omega
  · show c.length + cnt (putL w.a n l) ≤ _; omega
theorem parted_ok {a : List (List Int)} {n : Nat} (h : n < a.length) (hl : a.length < 1000) : F__law_parted a (n : Int) = some (putL a n (a[n].take 1), putL a n (a[n].drop 1)) := by
  have e1 : atI a (n : Int) = some a[n] := atI_nat h
  have c1 : cut a none (some (n : Int)) = a.take n := by rw [cut_take (by omega), Int.toNat_natCast]
  have c2 : cut a (some ((n : Int) + 1)) none = a.drop (n + 1) := by
    rw [cut_drop (by omega)]
    have e : ((n : Int) + 1).toNat = n + 1 := by omega
    rw [e]
  have c3 : cut a[n] none (some (1 : Int)) = (a[n]).take 1 := cut_take (by decide)
  have c4 : cut a[n] (some (1 : Int)) none = (a[n]).drop 1 := cut_drop (by decide)
  unfold F__law_parted
  rw [bnd e1, c1, c2, c3, bnd (catO_ok (by unfold LINE; simp; omega)), bnd (catO_ok (by unfold LINE; simp; omega)), bnd e1, c4, bnd (catO_ok (by unfold LINE; simp; omega)), bnd (catO_ok (by unfold LINE; simp; omega))]
  rfl
theorem lcO_len {A α β : Type} {step : A → α → Option (Option β × A)} : ∀ {xs : List α} {a a' : A} {ys : List β}, lcO step a xs = some (ys, a') → ys.length ≤ xs.length
  | [], _, _, _, h => by cases h; simp
  | x :: xs, a, a', ys, h => by
    unfold lcO at h
    obtain ⟨p, h1, h2⟩ := ob h
    obtain ⟨q, h3, h4⟩ := ob h2
    cases h4
    have := lcO_len (a' := q.2) (ys := q.1) h3
    rw [List.length_append, List.length_cons]
    cases p.1 <;> simp <;> omega
/-- what a box's end makes -/
theorem end_ok {m : List (List Int)} {w : Bx} {lots : Lots} (rest : List Bx) (dl : Deal) (hm : MkOk m) (h : BoxOk m w) (lo : LO m 4000 lots) :
    ∃ d' lots', clEnd m dl lots w rest = some (d', (lots', rest)) ∧ LO m 4000 lots' ∧ (∀ k ∈ lots.map (·.1), k ∈ lots'.map (·.1)) ∧ ∀ p, PIn p w.a → p ∈ lots'.map (·.1) := by
  have hlen := hm.2.1
  have hr : rng1O (m.length : Int) = some _ := rng1O_nat (n := m.length) (by omega)
  obtain ⟨fr, e2, hfr⟩ : ∃ fr, lcP (fun (x89 : Int) => (if ((!(decide ((x89 : Int) ∈ (w.b : (List Int))))) && (!(decide ((x89 : Int) ∈ (w.c : (List Int)))))) = true then some (some x89) else some none : Option (Option Int))) ((List.range m.length).map fun (i : Nat) => (i : Int)) = some fr ∧ fr.length ≤ m.length := by
    refine ⟨_, lcP_filter (fun x => (!(decide ((x : Int) ∈ (w.b : (List Int))))) && (!(decide ((x : Int) ∈ (w.c : (List Int)))))) (fun x => x) _ (fun x _ => by split <;> simp_all), ?_⟩
    rw [List.length_map]
    refine Nat.le_trans (List.length_filter_le _ _) ?_
    simp
  obtain ⟨ys, d2, e3, _, _⟩ := lcO_inv (step := fun (d94 : Deal) (x92 : Int) => ((anyO d94 (2 : Int)).bind fun t95 => if (decide ((t95.1 : Int) = ((0 : Int) : Int))) = true then some (some x92, t95.2) else some (none, t95.2) : Option (Option Int × Deal))) (fun _ _ => True) (fun _ => True) (fun a x xs _ => by
    obtain ⟨r, d', e, _, _⟩ := any_le a (m := 2) (by omega) (by omega)
    rw [e, Option.bind_some]
    by_cases c : r = 0
    · exact ⟨some x, d', if_pos (decide_eq_true c), trivial, fun _ _ => trivial⟩
    · exact ⟨none, d', if_neg (by simpa using c), trivial, fun _ _ => trivial⟩) fr dl trivial
  have hys := lcO_len e3
  have hc := h.oc
  obtain ⟨lots', e4, i4⟩ := loopO_inv (step := fun (a105 : Lots) (x100 : (List Int)) => ((aPutO a105 x100 (sortI (w.c ++ ys))).bind fun t106 => some t106 : Option Lots)) (fun a xs => LO m 4000 a ∧ (∀ k ∈ lots.map (·.1), k ∈ a.map (·.1)) ∧ (∀ p ∈ pfs w.a, p ∈ a.map (·.1) ∨ p ∈ xs) ∧ ∀ p ∈ xs, PIn p m) (by
    rintro a x xs ⟨i1, i2, i3, i4⟩
    rw [aPutO_lo i1 hm.2.2, Option.bind_some]
    refine ⟨_, rfl, i1.put (i4 x List.mem_cons_self) ?_, fun k hk => put_keys (.inl (i2 k hk)), fun p hp => ?_, fun p hp => i4 p (List.mem_cons_of_mem _ hp)⟩
    · rw [sortI_length, List.length_append]; omega
    · rcases i3 p hp with z | z
      · exact .inl (put_keys (.inl z))
      · rcases List.mem_cons.mp z with z | z
        · exact .inl (put_keys (.inr z))
        · exact .inr z) (pfs w.a) lots ⟨lo, fun _ hk => hk, fun p hp => .inr hp, fun p hp => h.sub p (pfs_mem.mp hp)⟩
  obtain ⟨i1, i2, i3, _⟩ := i4
  refine ⟨d2, lots', ?_, i1, i2, fun p hp => ?_⟩
  · unfold clEnd
    rw [bnd hr, bnd e2, bnd (lenP_ok (by unfold LINE; omega)), bnd e3, bnd (lenO_ok (show ys.length ≤ LINE by unfold LINE; omega)), bnd (catO_ok (by unfold LINE; dsimp only; omega)), bnd (profiles_ok (h.mk' hm)), bnd e4]
  · rcases i3 p (pfs_mem.mpr hp) with z | z
    · exact z
    · cases z
end Pl

namespace Pl
open PySem L2 PySem.Spec PyProof.Rows
/-- what a box parted makes -/
theorem split_ok {m : List (List Int)} {w : Bx} {rest : List Bx} (lots : Lots) (dl : Deal) {s : List Int} (hm : MkOk m) (h : BoxOk m w) (hr : rest.length ≤ 4000) (hs : s ≠ []) (hl : s.length < 1000) (hb : ∀ x ∈ s, ∃ (n : Nat) (hn : n < w.a.length), x = (n : Int) ∧ 1 < (w.a[n]).length) :
    ∃ d' lo hi, clSplit dl lots w rest s = some (d', (lots, rest ++ [lo, hi])) ∧ BoxOk m lo ∧ BoxOk m hi ∧ cnt lo.a + cnt hi.a = cnt w.a ∧ ∀ p, PIn p w.a → PIn p lo.a ∨ PIn p hi.a := by
  obtain ⟨x, d1, e1, hx⟩ := of_some' dl hs (by omega)
  obtain ⟨n, hn, rfl, h1⟩ := hb x hx
  have hne : w.a[n] ≠ [] := (h.ok _ (List.getElem_mem hn)).1
  have hml := (h.mk' hm).2.1
  have e2 := parted_ok hn hml
  obtain ⟨k, d2, e3, _, _⟩ := any_le d1 (m := 3) (by omega) (by omega)
  have hsum := putL_sum hn hne
  have t1 : (w.a[n]).take 1 ≠ [] := by
    intro z
    have := congrArg List.length z
    rw [List.length_take, List.length_nil] at this
    omega
  have t2 : (w.a[n]).drop 1 ≠ [] := by
    intro z
    have := congrArg List.length z
    rw [List.length_drop, List.length_nil] at this
    omega
  have b1 : ∀ x ∈ (w.a[n]).take 1, x ∈ w.a[n] := fun x hx => List.mem_of_mem_take hx
  have b2 : ∀ x ∈ (w.a[n]).drop 1, x ∈ w.a[n] := fun x hx => List.mem_of_mem_drop hx
  have cok : ∀ (l : List Int), l ≠ [] → l.length ≤ (w.a[n]).length → (∀ x ∈ l, x ∈ w.a[n]) → 0 < cnt (putL w.a n l) := fun l g1 g2 g3 => by
    refine cnt_pos fun z hz => ?_
    unfold putL at hz
    rcases List.mem_append.mp hz with hz | hz
    · rcases List.mem_append.mp hz with hz | hz
      · exact (h.ok z (List.mem_of_mem_take hz)).1
      · have : z = l := by simpa using hz
        subst this; exact g1
    · exact (h.ok z (List.mem_of_mem_drop hz)).1
  have l1 : ((w.a[n]).take 1).length ≤ (w.a[n]).length := by rw [List.length_take]; omega
  have l2 : ((w.a[n]).drop 1).length ≤ (w.a[n]).length := by rw [List.length_drop]; omega
  have p1 := cok _ t1 l1 b1
  have p2 := cok _ t2 l2 b2
  have c1 : cnt (putL w.a n ((w.a[n]).take 1)) < cnt w.a := by omega
  have c2 : cnt (putL w.a n ((w.a[n]).drop 1)) < cnt w.a := by omega
  have cov : ∀ p, PIn p w.a → PIn p (putL w.a n ((w.a[n]).take 1)) ∨ PIn p (putL w.a n ((w.a[n]).drop 1)) := fun p hp => by
    rw [← putL_same hn] at hp
    obtain ⟨q, y, r, rfl, g1, g2, g3⟩ := pin_mid.mp (show PIn p (w.a.take n ++ [w.a[n]] ++ w.a.drop (n + 1)) from hp)
    rw [← List.take_append_drop 1 w.a[n]] at g2
    rcases List.mem_append.mp g2 with z | z
    · exact .inl (pin_mid.mpr ⟨q, y, r, rfl, g1, z, g3⟩)
    · exact .inr (pin_mid.mpr ⟨q, y, r, rfl, g1, z, g3⟩)
  have hob := h.ob
  have hoc := h.oc
  by_cases c : 0 < k
  · refine ⟨d2, T3.mk (putL w.a n ((w.a[n]).take 1)) (w.b ++ [(n : Int)]) w.c, T3.mk (putL w.a n ((w.a[n]).drop 1)) w.b w.c, ?_, putL_box h hn t1 b1 l1 c1 (by simp) (by omega), putL_box h hn t2 b2 l2 c2 (by omega) (by omega), hsum, cov⟩
    unfold clSplit
    rw [bnd e1, bnd e2, bnd e3, if_pos (decide_eq_true c), bnd (catO_ok (by unfold LINE; simp; omega)), bnd (catO_ok (by unfold LINE; simp; omega))]
  · refine ⟨d2, T3.mk (putL w.a n ((w.a[n]).take 1)) w.b w.c, T3.mk (putL w.a n ((w.a[n]).drop 1)) w.b (w.c ++ [(n : Int)]), ?_, putL_box h hn t1 b1 l1 c1 (by omega) (by omega), putL_box h hn t2 b2 l2 c2 (by omega) (by simp), hsum, cov⟩
    unfold clSplit
    rw [bnd e1, bnd e2, bnd e3, if_neg (by simpa using c), bnd (catO_ok (by unfold LINE; simp; omega)), bnd (catO_ok (by unfold LINE; simp; omega))]
def mu (l : List Bx) : Nat := (l.map fun w => 2 * cnt w.a - 1).sum
theorem mu_app (a b : List Bx) : mu (a ++ b) = mu a + mu b := by unfold mu; rw [List.map_append, List.sum_append]
theorem mu_len {m : List (List Int)} : ∀ {l : List Bx}, (∀ w ∈ l, BoxOk m w) → l.length ≤ mu l
  | [], _ => by simp [mu]
  | w :: l, h => by
    have h1 := (h w List.mem_cons_self).pos
    have h2 := mu_len fun z hz => h z (List.mem_cons_of_mem _ hz)
    unfold mu at h2 ⊢
    rw [List.map_cons, List.sum_cons, List.length_cons]
    omega
def CI (m : List (List Int)) (a : CS) : Prop := LO m 4000 a.2.1 ∧ (∀ w ∈ a.2.2, BoxOk m w) ∧ (∀ p, PIn p m → p ∈ a.2.1.map (·.1) ∨ ∃ w ∈ a.2.2, PIn p w.a) ∧ mu a.2.2 ≤ 4000
theorem clA_ok {m : List (List Int)} {w : Bx} (h : BoxOk m w) : ∃ s, lcP (clA w) ((List.range m.length).map fun (i : Nat) => (i : Int)) = some s ∧ s.length ≤ m.length ∧ ∀ x ∈ s, ∃ (n : Nat) (hn : n < w.a.length), x = (n : Int) ∧ 1 < (w.a[n]).length := by
  refine ⟨_, lcP_filter (fun x => (!(decide ((x : Int) ∈ (w.b : (List Int))))) && ((!(decide ((x : Int) ∈ (w.c : (List Int))))) && decide (1 < (w.a[x.toNat]?.getD []).length))) (fun x => x) _ (fun x hx => ?_), ?_, fun x hx => ?_⟩
  · obtain ⟨i, hi, rfl⟩ := List.mem_map.mp hx
    rw [List.mem_range, ← h.len] at hi
    have e : atI w.a (i : Int) = some w.a[i] := atI_nat hi
    unfold clA
    rw [e, Int.toNat_natCast, List.getElem?_eq_getElem hi]
    by_cases c1 : (i : Int) ∈ w.b
    · simp [c1]
    · by_cases c2 : (i : Int) ∈ w.c
      · simp [c1, c2]
      · by_cases c3 : 1 < (w.a[i]).length
        · have : (1 : Int) < ((w.a[i]).length : Int) := by omega
          simp [c1, c2, c3, this]
        · have : ¬ (1 : Int) < ((w.a[i]).length : Int) := by omega
          simp [c1, c2, c3, this]
  · rw [List.length_map]
    refine Nat.le_trans (List.length_filter_le _ _) ?_
    simp
  · rw [List.map_id'] at hx
    obtain ⟨h1, h2⟩ := List.mem_filter.mp hx
    obtain ⟨i, hi, rfl⟩ := List.mem_map.mp h1
    rw [List.mem_range, ← h.len] at hi
    refine ⟨i, hi, rfl, ?_⟩
    simp only [Bool.and_eq_true, decide_eq_true_eq, Int.toNat_natCast, List.getElem?_eq_getElem hi, Option.getD_some] at h2
    exact h2.2.2
theorem step_ok {m : List (List Int)} {stops : Int} (hm : MkOk m) (s0 : 0 < stops) (s1 : stops ≤ 100) {a : CS} (h : CI m a) (hne : a.2.2 ≠ []) : ∃ a', clStep m stops a = some a' ∧ CI m a' ∧ mu a'.2.2 < mu a.2.2 := by
  obtain ⟨dl, lots, wait⟩ := a
  obtain ⟨lo, hw, hc, hmu⟩ := h
  dsimp only at lo hw hc hmu hne ⊢
  obtain ⟨rest, w, rfl⟩ : ∃ rest w, wait = rest ++ [w] := ⟨wait.dropLast, wait.getLast hne, (List.dropLast_concat_getLast hne).symm⟩
  have hbw := hw w (by simp)
  have hbr : ∀ z ∈ rest, BoxOk m z := fun z hz => hw z (List.mem_append_left _ hz)
  have hmr := mu_len hbr
  have hmw : mu [w] = 2 * cnt w.a - 1 := by simp [mu]
  rw [mu_app] at hmu
  have hcp := hbw.pos
  obtain ⟨s, e1, hsl, hsm⟩ := clA_ok hbw
  have hlen := hm.2.1
  have hr : rng1O (m.length : Int) = some _ := rng1O_nat (n := m.length) (by omega)
  have fin : ∀ d : Deal, ∃ a', clEnd m d lots w rest = some a' ∧ CI m a' ∧ mu a'.2.2 < mu (rest ++ [w]) := fun d => by
    obtain ⟨d', lots', e, g1, g2, g3⟩ := end_ok rest d hm hbw lo
    refine ⟨(d', (lots', rest)), e, ⟨g1, hbr, fun p hp => ?_, by show mu rest ≤ 4000; omega⟩, by show mu rest < mu (rest ++ [w]); rw [mu_app]; omega⟩
    rcases hc p hp with z | ⟨z, hz, hz2⟩
    · exact .inl (g2 p z)
    · rcases List.mem_append.mp hz with hz | hz
      · exact .inr ⟨z, hz, hz2⟩
      · have : z = w := by simpa using hz
        subst this
        exact .inl (g3 p hz2)
  have go : ∀ d : Deal, s ≠ [] → ∃ a', clSplit d lots w rest s = some a' ∧ CI m a' ∧ mu a'.2.2 < mu (rest ++ [w]) := fun d hs => by
    obtain ⟨d', bl, bh, e, g1, g2, g3, g4⟩ := split_ok (rest := rest) lots d hm hbw (by omega) hs (by omega) hsm
    have q1 := g1.pos
    have q2 := g2.pos
    have hm2 : mu [bl, bh] = (2 * cnt bl.a - 1) + (2 * cnt bh.a - 1) := by simp [mu]
    refine ⟨(d', (lots, rest ++ [bl, bh])), e, ⟨lo, fun z hz => ?_, fun p hp => ?_, by show mu (rest ++ [bl, bh]) ≤ 4000; rw [mu_app]; omega⟩, by show mu (rest ++ [bl, bh]) < mu (rest ++ [w]); rw [mu_app, mu_app]; omega⟩
    · rcases List.mem_append.mp hz with hz | hz
      · exact hbr z hz
      · have : z = bl ∨ z = bh := by simpa using hz
        rcases this with rfl | rfl
        · exact g1
        · exact g2
    · rcases hc p hp with z | ⟨z, hz, hz2⟩
      · exact .inl z
      · rcases List.mem_append.mp hz with hz | hz
        · exact .inr ⟨z, List.mem_append_left _ hz, hz2⟩
        · have : z = w := by simpa using hz
          subst this
          rcases g4 p hz2 with y | y
          · exact .inr ⟨bl, by simp, y⟩
          · exact .inr ⟨bh, by simp, y⟩
  unfold clStep
  dsimp only
  rw [popO_append, Option.bind_some, bnd hr]
  dsimp only
  rw [bnd e1, bnd (lenP_ok (by unfold LINE; omega))]
  by_cases c : s = []
  · rw [if_pos (by subst c; simp), Option.bind_some]
    exact fin dl
  · rw [if_neg (by simpa using c)]
    obtain ⟨r, d2, e2, _, _⟩ := any_le dl (m := stops) s0 (by omega)
    rw [e2, Option.bind_some, Option.bind_some]
    by_cases c2 : r = 0
    · rw [if_pos (decide_eq_true c2)]
      exact fin d2
    · rw [if_neg (by simpa using c2)]
      exact go d2 c
theorem clock_ok {m : List (List Int)} {stops : Int} (d : Deal) (hm : MkOk m) (s0 : 0 < stops) (s1 : stops ≤ 100) : ∃ lots d', F__law_clock_lots d m stops = some (lots, d') ∧ LO m 4000 lots ∧ LF m lots := by
  obtain ⟨a, e, h1, h2⟩ := whileO_inv (c := fun (a77 : CS) => some (!(decide ((Ls.mk (a77.2.2 : List Bx)) = (Ls.mk ([] : List Bx)))))) (step := clStep m stops) (CI m) (fun a => mu a.2.2) (fun a => LO m 4000 a.2.1 ∧ LF m a.2.1) (fun a h => by
    refine ⟨_, rfl, fun hb => ?_, fun hb => ?_⟩
    · exact step_ok hm s0 s1 h (by simpa using hb)
    · have he : a.2.2 = [] := by simpa using hb
      refine ⟨h.1, fun p hp => ?_⟩
      rcases h.2.2.1 p hp with z | ⟨w, hw, _⟩
      · exact z
      · rw [he] at hw; cases hw) (d, (([] : Lots), [(T3.mk m [] [] : Bx)])) ⟨⟨by simp, by simp, by simp⟩, fun w hw => by
      have : w = T3.mk m [] [] := by simpa using hw
      subst this
      exact ⟨rfl, hm.1, fun p hp => hp, hm.2.2, by have := hm.2.2; simp; omega, by have := hm.2.2; simp; omega⟩, fun p hp => .inr ⟨T3.mk m [] [], by simp, hp⟩, by have := hm.2.2; simp [mu]; omega⟩
  rw [clock_eq]
  exact ⟨a.2.1, a.1, by rw [bnd e], h1, h2⟩
end Pl

namespace Pl
open PySem L2 PySem.Spec PyProof.Rows
theorem paired_swap {α β : Type} {P : α → β → Prop} : ∀ {xs : List α} {ys : List β}, Paired P xs ys → Paired (fun y x => P x y) ys xs
  | _, _, .nil => .nil
  | _, _, .cons r t => .cons r (paired_swap t)
theorem of1_eq {α : Type} [Rp α] (d : Deal) (l : List α) : F__law_of_1 d l = F__law_of d l := rfl
theorem prof_some (d : Deal) {m : List (List Int)} (hm : MkOk m) : ∃ p d', lcO (fun (d41 : Deal) (x39 : (List Int)) => ((F__law_of_1 d41 x39).bind fun t42 => some (some t42.1, t42.2) : Option (Option Int × Deal))) d m = some (p, d') ∧ PIn p m := by
  obtain ⟨p, d', e, _, hp⟩ := lcO_all (step := fun (d41 : Deal) (x39 : (List Int)) => ((F__law_of_1 d41 x39).bind fun t42 => some (some t42.1, t42.2) : Option (Option Int × Deal))) (fun _ xs => ∀ l ∈ xs, l ≠ [] ∧ l.length ≤ 1000) (fun (l : List Int) y => y ∈ l) (fun dl l xs h => by
    obtain ⟨h1, h2⟩ := h l List.mem_cons_self
    obtain ⟨x, d', e, hx⟩ := of_some' dl h1 (by omega)
    exact ⟨x, d', by rw [of1_eq, e]; rfl, fun z hz => h z (List.mem_cons_of_mem _ hz), hx⟩) m d hm.1
  exact ⟨p, d', e, paired_swap hp⟩
/-- some lots, drawn -/
def GoodLot (n : Nat) (l : List Int) : Prop := l.length ≤ n ∧ ∀ x ∈ l, 0 ≤ x ∧ x < n
theorem lot_draw (d : Deal) {n : Nat} (hn : n < 1000) : ∃ l d', (rng1O (n : Int)).bind (fun t65 => (lcO (fun (d68 : Deal) (x66 : Int) => ((anyO d68 (2 : Int)).bind fun t69 => if (decide ((t69.1 : Int) = ((0 : Int) : Int))) = true then some (some x66, t69.2) else some (none, t69.2) : Option (Option Int × Deal))) d t65).bind fun t70 => (lenO t70).bind fun t71 => some (some t71.1, t71.2)) = some (some l, d') ∧ GoodLot n l := by
  obtain ⟨ys, d2, e3, _, hP⟩ := lcO_inv (step := fun (d94 : Deal) (x92 : Int) => ((anyO d94 (2 : Int)).bind fun t95 => if (decide ((t95.1 : Int) = ((0 : Int) : Int))) = true then some (some x92, t95.2) else some (none, t95.2) : Option (Option Int × Deal))) (fun _ xs => ∀ x ∈ xs, 0 ≤ x ∧ x < (n : Int)) (fun x => 0 ≤ x ∧ x < (n : Int)) (fun a x xs h => by
    obtain ⟨r, d', e, _, _⟩ := any_le a (m := 2) (by omega) (by omega)
    have hx := h x List.mem_cons_self
    have ht : ∀ y ∈ xs, 0 ≤ y ∧ y < (n : Int) := fun y hy => h y (List.mem_cons_of_mem _ hy)
    rw [e, Option.bind_some]
    by_cases c : r = 0
    · exact ⟨some x, d', if_pos (decide_eq_true c), ht, fun y hy => by cases hy; exact hx⟩
    · exact ⟨none, d', if_neg (by simpa using c), ht, fun _ hy => by cases hy⟩) ((List.range n).map fun (i : Nat) => (i : Int)) d (fun x hx => by
      obtain ⟨i, hi, rfl⟩ := List.mem_map.mp hx
      rw [List.mem_range] at hi
      omega)
  have hl := lcO_len e3
  simp at hl
  refine ⟨ys, d2, ?_, hl, hP.1⟩
  rw [bnd (rng1O_nat (n := n) (by omega)), bnd e3, bnd (lenO_ok (show ys.length ≤ LINE by unfold LINE; omega))]
theorem lots_draw (d : Deal) {n : Nat} {k : Int} (hn : n < 1000) (k1 : 2 ≤ k) (k4 : k ≤ 4) : ∃ ls d', (rng1O k).bind (fun t55 => (lcO (fun (d64 : Deal) (x56 : Int) => ((rng1O (n : Int)).bind fun t65 => (lcO (fun (d68 : Deal) (x66 : Int) => ((anyO d68 (2 : Int)).bind fun t69 => if (decide ((t69.1 : Int) = ((0 : Int) : Int))) = true then some (some x66, t69.2) else some (none, t69.2) : Option (Option Int × Deal))) d64 t65).bind fun t70 => (lenO t70).bind fun t71 => some (some t71.1, t71.2) : Option (Option (List Int) × Deal))) d t55).bind fun t72 => lenO t72) = some (ls, d') ∧ ls ≠ [] ∧ ls.length ≤ 4 ∧ ∀ l ∈ ls, GoodLot n l := by
  have hr : rng1O k = some _ := rng1O_int (by omega) (by omega)
  obtain ⟨ls, d', e, _, hp⟩ := lcO_all (step := fun (d64 : Deal) (x56 : Int) => ((rng1O (n : Int)).bind fun t65 => (lcO (fun (d68 : Deal) (x66 : Int) => ((anyO d68 (2 : Int)).bind fun t69 => if (decide ((t69.1 : Int) = ((0 : Int) : Int))) = true then some (some x66, t69.2) else some (none, t69.2) : Option (Option Int × Deal))) d64 t65).bind fun t70 => (lenO t70).bind fun t71 => some (some t71.1, t71.2) : Option (Option (List Int) × Deal))) (fun _ _ => True) (fun (_ : Int) l => GoodLot n l) (fun dl x xs _ => by
    obtain ⟨l, d', e, hl⟩ := lot_draw dl hn
    exact ⟨l, d', e, trivial, hl⟩) ((List.range k.toNat).map fun (i : Nat) => (i : Int)) d trivial
  have hlen := paired_length hp
  simp at hlen
  refine ⟨ls, d', ?_, ?_, by omega, fun l hl => ?_⟩
  · rw [bnd hr, bnd e, lenO_ok (show ls.length ≤ LINE by unfold LINE; omega)]
  · intro z; rw [z] at hlen; simp at hlen; omega
  · obtain ⟨_, _, h⟩ := paired_mem hp l hl
    exact h
noncomputable def lotStep (t1 : Int) (ls : List (List Int)) (a104 : Deal × Lots) (x75 : List Int) : Option (Deal × Lots) := (if (decide ((t1 : Int) = ((4 : Int) : Int))) = true then (lcP (fun (x105 : (List Int)) => ((lcP (fun (x106 : Int) => ((atI x75 x106).bind fun t107 => some (some t107) : Option (Option Int))) x105).bind fun t108 => (lenP t108).bind fun t109 => some (some t109.sum) : Option (Option Int))) ls).bind fun t110 => (lenP t110).bind fun t111 => (maxO t111).bind fun t112 => (idxO t111 t112).bind fun t113 => (atI ls t113).bind fun t114 => (aPutO a104.2 x75 t114).bind fun t115 => some (a104.1, t115) else (F__law_of a104.1 ls).bind fun t116 => (aPutO a104.2 x75 t116.1).bind fun t117 => some (t116.2, t117))
theorem lotStep_ok {m : List (List Int)} {t1 : Int} {ls : List (List Int)} (hm : MkOk m) (h0 : ls ≠ []) (h4 : ls.length ≤ 4) (hg : ∀ l ∈ ls, GoodLot m.length l) {a : Deal × Lots} {p : List Int} (hp : PIn p m) (lo : LO m 4000 a.2) :
    ∃ d' lot, lotStep t1 ls a p = some (d', aPut a.2 p lot) ∧ LO m 4000 (aPut a.2 p lot) := by
  have hpl := pin_len hp
  have hml := hm.2.1
  have put : ∀ lot ∈ ls, LO m 4000 (aPut a.2 p lot) ∧ aPutO a.2 p lot = some (aPut a.2 p lot) := fun lot hl => ⟨lo.put hp (by have := (hg lot hl).1; omega), aPutO_lo lo hm.2.2⟩
  unfold lotStep
  by_cases c : t1 = 4
  · rw [if_pos (decide_eq_true c)]
    have e1 : lcP (fun (x105 : (List Int)) => ((lcP (fun (x106 : Int) => ((atI p x106).bind fun t107 => some (some t107) : Option (Option Int))) x105).bind fun t108 => (lenP t108).bind fun t109 => some (some t109.sum) : Option (Option Int))) ls = some (ls.map fun lot => (lot.map fun x => (p[x.toNat]?).getD 0).sum) := lcP_map (fun lot => (lot.map fun x => (p[x.toNat]?).getD 0).sum) ls fun lot hl => by
      have hgl := hg lot hl
      have e2 : lcP (fun (x106 : Int) => ((atI p x106).bind fun t107 => some (some t107) : Option (Option Int))) lot = some (lot.map fun x => (p[x.toNat]?).getD 0) := lcP_map (fun x => (p[x.toNat]?).getD 0) lot fun x hx => by
        have hx := hgl.2 x hx
        rw [atI_int hx.1 (by omega), Option.bind_some, List.getElem?_eq_getElem (by omega)]; rfl
      rw [e2, Option.bind_some, lenP_ok (by rw [List.length_map]; unfold LINE; have := hgl.1; omega)]; rfl
    generalize hS : (ls.map fun lot => (lot.map fun x => (p[x.toNat]?).getD 0).sum) = S at e1
    have hSl : S.length = ls.length := by rw [← hS, List.length_map]
    have hSn : S ≠ [] := by
      intro z; rw [z] at hSl
      exact h0 (List.length_eq_zero_iff.mp hSl.symm)
    obtain ⟨hM, _⟩ := maxL_mem hSn
    obtain ⟨i, hi, e3, _⟩ := idxO_mem hM
    have hi' : i < ls.length := by omega
    obtain ⟨g1, g2⟩ := put ls[i] (List.getElem_mem hi')
    refine ⟨a.1, ls[i], ?_, g1⟩
    rw [bnd e1, bnd (lenP_ok (by unfold LINE; omega)), bnd (show maxO S = some (maxL S) from if_pos (List.length_pos_iff.mpr hSn)), bnd e3, bnd (show atI ls (i : Int) = some ls[i] from atI_nat hi'), bnd g2]
  · rw [if_neg (by simpa using c)]
    obtain ⟨lot, d', e, hl⟩ := of_some' a.1 h0 (by omega)
    obtain ⟨g1, g2⟩ := put lot hl
    exact ⟨d', lot, by rw [bnd e, bnd g2], g1⟩
noncomputable def turnStep (m : List (List Int)) (a38 : Deal × Lots) (x7 : Int) : Option (Deal × Lots) := ((lcO (fun (d41 : Deal) (x39 : (List Int)) => ((F__law_of_1 d41 x39).bind fun t42 => some (some t42.1, t42.2) : Option (Option Int × Deal))) a38.1 m).bind fun t43 => (lenO t43).bind fun t44 => (anyO t44.2 (m.length : Int)).bind fun t45 => (aGet a38.2 t44.1).bind fun t46 => (if (decide ((t45.1 : Int) ∈ (t46 : (List Int)))) = true then (lcP (fun (x47 : Int) => (if (!(decide ((x47 : Int) = (t45.1 : Int)))) = true then some (some x47) else some none : Option (Option Int))) t46).bind fun t48 => (lenP t48).bind fun t49 => some t49 else (catO t46 [t45.1]).bind fun t50 => some (sortI t50)).bind fun t51 => (aPutO a38.2 t44.1 t51).bind fun t52 => some (t45.2, t52))
theorem turnStep_ok {m : List (List Int)} {B : Nat} (hm : MkOk m) (h0 : 0 < m.length) (hB : B ≤ 5000) {a : Deal × Lots} {x : Int} (lo : LO m B a.2) (lf : LF m a.2) : ∃ d' lots', turnStep m a x = some (d', lots') ∧ LO m (B + 1) lots' ∧ LF m lots' := by
  obtain ⟨p, d1, e1, hp⟩ := prof_some a.1 hm
  have hpl := pin_len hp
  have hml := hm.2.1
  obtain ⟨b, d2, e2, _, _⟩ := any_le d1 (m := (m.length : Int)) (by omega) (by omega)
  obtain ⟨lot, e3, hlot⟩ := lot_of lo lf hp
  have fin : ∀ l : List Int, l.length ≤ B + 1 → ∃ d' lots', (aPutO a.2 p l).bind (fun t52 => some (d2, t52)) = some (d', lots') ∧ LO m (B + 1) lots' ∧ LF m lots' := fun l hl =>
    ⟨d2, aPut a.2 p l, by rw [aPutO_lo lo hm.2.2]; rfl, (lo.mono (by omega)).put hp hl, lf.put⟩
  unfold turnStep
  rw [bnd e1, bnd (lenO_ok (show p.length ≤ LINE by unfold LINE; omega))]
  dsimp only
  rw [bnd e2, bnd e3]
  dsimp only
  by_cases c : b ∈ lot
  · rw [if_pos (decide_eq_true c)]
    have e4 : lcP (fun (x47 : Int) => (if (!(decide ((x47 : Int) = (b : Int)))) = true then some (some x47) else some none : Option (Option Int))) lot = some ((lot.filter fun z => !(decide ((z : Int) = (b : Int)))).map fun z => z) := lcP_filter (fun z => !(decide ((z : Int) = (b : Int)))) (fun z => z) lot fun z _ => by split <;> simp_all
    have hl : ((lot.filter fun z => !(decide ((z : Int) = (b : Int)))).map fun z => z).length ≤ lot.length := by
      rw [List.length_map]; exact List.length_filter_le _ _
    rw [bnd e4, bnd (lenP_ok (by unfold LINE; omega)), Option.bind_some]
    exact fin _ (by omega)
  · rw [if_neg (by simpa using c), bnd (catO_ok (by unfold LINE; simp; omega)), Option.bind_some]
    exact fin _ (by rw [sortI_length]; simp; omega)
theorem lots_ok (d : Deal) {m : List (List Int)} (hm : MkOk m) (h0 : 0 < m.length) : ∃ lots d', F__law_lots d m = some (lots, d') ∧ LO m 5000 lots ∧ LF m lots := by
  have hml := hm.2.1
  obtain ⟨t1, d1, e1, _, _⟩ := any_le d (m := 6) (by omega) (by omega)
  unfold F__law_lots
  rw [bnd e1]
  dsimp only
  by_cases c : t1 < 4
  · rw [if_pos (decide_eq_true c)]
    obtain ⟨st, d2, e2, hst⟩ := of_some' d1 (l := [(3 : Int), 6, 12]) (by simp) (by decide)
    have hst' : 0 < st ∧ st ≤ 100 := by simp at hst; omega
    obtain ⟨lots, d3, e3, lo, lf⟩ := clock_ok d2 hm hst'.1 hst'.2
    rw [bnd e2]
    dsimp only
    rw [bnd e3]
    dsimp only
    obtain ⟨k, d4, e4, k0, k3⟩ : ∃ k d4, (if (decide ((1 : Int) < t1)) = true then (F__law_of d3 ([(1 : Int), (1 : Int), (3 : Int)])).bind fun t4 => some (t4.1, t4.2) else some ((0 : Int), d3)) = some (k, d4) ∧ 0 ≤ k ∧ k ≤ 3 := by
      by_cases c1 : 1 < t1
      · obtain ⟨k, d4, e, hk⟩ := of_some' d3 (l := [(1 : Int), 1, 3]) (by simp) (by decide)
        have hk' : 0 ≤ k ∧ k ≤ 3 := by simp at hk; omega
        exact ⟨k, d4, by rw [if_pos (decide_eq_true c1), bnd e], hk'⟩
      · exact ⟨0, d3, by rw [if_neg (by simpa using c1)], by omega, by omega⟩
    rw [bnd e4, bnd (rng1O_int (k := k) k0 (by omega))]
    obtain ⟨a, e5, i1, i2, _⟩ := loopO_inv (step := turnStep m) (fun a xs => LO m (4990 - xs.length) a.2 ∧ LF m a.2 ∧ xs.length ≤ 3) (fun a x xs h => by
      obtain ⟨j1, j2, j3⟩ := h
      rw [List.length_cons] at j1 j3
      obtain ⟨d', l', e, g1, g2⟩ := turnStep_ok (x := x) hm h0 (by omega) j1 j2
      exact ⟨(d', l'), e, g1.mono (by omega), g2, by omega⟩) ((List.range k.toNat).map fun (i : Nat) => (i : Int)) (d4, lots) ⟨lo.mono (by simp; omega), lf, by simp; omega⟩
    refine ⟨a.2, a.1, ?_, i1.mono (by simp), i2⟩
    exact congrArg (fun z => Option.bind z fun (t53 : Deal × Lots) => some (t53.2, t53.1)) e5
  · rw [if_neg (by simpa using c)]
    obtain ⟨k, d2, e2, hk⟩ := of_some' d1 (l := [(2 : Int), 3, 4]) (by simp) (by decide)
    have hk' : 2 ≤ k ∧ k ≤ 4 := by simp at hk; omega
    obtain ⟨ls, d3, e3, h1, h4, hg⟩ := lots_draw d2 (n := m.length) (k := k) hml hk'.1 hk'.2
    rw [bnd e2]
    dsimp only
    obtain ⟨r55, e55, e3⟩ := ob e3
    obtain ⟨r72, e72, e3⟩ := ob e3
    rw [bnd e55, bnd e72, bnd e3, bnd (profiles_ok hm)]
    obtain ⟨a, e5, i1, i2, _⟩ := loopO_inv (step := lotStep t1 ls) (fun a xs => LO m 4000 a.2 ∧ (∀ p ∈ pfs m, p ∈ a.2.map (·.1) ∨ p ∈ xs) ∧ ∀ p ∈ xs, PIn p m) (fun a x xs h => by
      obtain ⟨j1, j2, j3⟩ := h
      obtain ⟨d', lot, e, g1⟩ := lotStep_ok (t1 := t1) hm h1 h4 hg (j3 x List.mem_cons_self) j1
      refine ⟨(d', aPut a.2 x lot), e, g1, fun p hp => ?_, fun p hp => j3 p (List.mem_cons_of_mem _ hp)⟩
      rcases j2 p hp with z | z
      · exact .inl (put_keys (.inl z))
      · rcases List.mem_cons.mp z with z | z
        · exact .inl (put_keys (.inr z))
        · exact .inr z) (pfs m) (d3, []) ⟨⟨by simp, by simp, by simp⟩, fun p hp => .inr hp, fun p hp => pfs_mem.mp hp⟩
    refine ⟨a.2, a.1, ?_, i1.mono (by omega), fun p hp => ?_⟩
    · exact congrArg (fun z => Option.bind z fun (t53 : Deal × Lots) => some (t53.2, t53.1)) e5
    · rcases i2 p (pfs_mem.mpr hp) with z | z
      · exact z
      · cases z
end Pl

namespace Pl
open PySem L2 PySem.Spec PyProof.Rows
noncomputable def wonStep (lots : Lots) (b : Int) (o : List (Option Int)) (x239 : Int) : Option (Option Int) := ((catO (cut o none (some b)) ([x239].map (fun z => (some z)))).bind fun t240 => (catO t240 (cut o (some (b + (1 : Int))) none)).bind fun t241 => (aGetX lots (t241 : (List (Option Int)))).bind fun t242 => if (decide ((b : Int) ∈ (t242 : (List Int)))) = true then some (some x239) else some none : Option (Option Int))
noncomputable def toldStep (lots : Lots) (b : Int) (l : List Int) (a238 : Bool) (x213 : List (Option Int)) : Option Bool := ((lcP (wonStep lots b x213) l).bind fun t243 => (lenP t243).bind fun t244 => (if (!(decide ((Ls.mk (t244 : (List Int))) = (Ls.mk ([] : (List Int)))))) = true then (lcP (fun (x245 : Int) => ((atI t244 (0 : Int)).bind fun t246 => if (decide (t246 ≤ x245)) = true then some (some x245) else some none : Option (Option Int))) l).bind fun t247 => (lenP t247).bind fun t248 => some (!(decide ((Ls.mk (t248 : (List Int))) = (Ls.mk (t244 : (List Int)))))) else some false).bind fun t249 => if t249 = true then some false else some a238 : Option Bool)
noncomputable def drawStep (lots : Lots) (ru : (List (List Int)) × (List (List Int))) (b : Int) (l : List Int) (ws : List (List (Option Int))) (a287 : Deal) (x252 : Int) : Option (Ctl Deal Bool) := ((F__law_of a287 ws).bind fun t288 => (F__law_of_1 t288.2 l).bind fun t289 => (catO (cut t288.1 none (some b)) ([t289.1].map (fun z => (some z)))).bind fun t290 => (catO t290 (cut t288.1 (some (b + (1 : Int))) none)).bind fun t291 => (F_with_level t288.1 b t289.1).bind fun t292 => (sameO (en (t292 : (List (Option Int)))) (en (t291 : (List (Option Int))))).bind fun t293 => if (!t293) = true then some (.rt false) else (lcP (wonStep lots b t288.1) l).bind fun t298 => (lenP t298).bind fun t299 => (F_least_winning ru b t288.1).bind fun t300 => (if (!(decide ((Ls.mk (t299 : (List Int))) = (Ls.mk ([] : (List Int)))))) = true then (atI t299 (0 : Int)).bind fun t301 => some (some t301) else some (none : (Option Int))).bind fun t302 => (sameO (en (t300 : (Option Int))) (en (t302 : (Option Int)))).bind fun t303 => if (!t303) = true then some (.rt false) else some (.nx t289.2) : Option (Ctl Deal Bool))
noncomputable def lawStep (m : List (List Int)) (lots : Lots) (ru : (List (List Int)) × (List (List Int))) (a207 : Deal × Bool) (x8 : Pw Int (List Int)) : Option (Ctl (Deal × Bool) Bool) := ((catO ((cut m none (some x8.1)).map (fun z => (z.map (fun z => (some z))))) ([[()]].map (fun z => (z.map (fun z => (none : (Option Int))))))).bind fun t208 => (catO t208 ((cut m (some (x8.1 + (1 : Int))) none).map (fun z => (z.map (fun z => (some z)))))).bind fun t209 => (F__law_profiles_1 t209).bind fun t210 => (F_others_of m x8.1).bind fun t211 => (sameO (en (t211 : (List (List (Option Int))))) (en (t210 : (List (List (Option Int)))))).bind fun t212 => if (!t212) = true then some (.rt false) else (loopO (toldStep lots x8.1 x8.2) a207.2 t210).bind fun t250 => (rng1O (3 : Int)).bind fun t251 => ctlO (loopC (ρ := Bool) (drawStep lots ru x8.1 x8.2 t210) a207.1 t251) (fun t304 => some (.nx (t304, t250))) (fun r305 => some (.rt r305)) : Option (Ctl (Deal × Bool) Bool))

theorem way_cut {q r : List Int} {b : Nat} (hq : q.length = b) : cut (q.map some ++ [none] ++ r.map some) none (some (b : Int)) = q.map some ∧ cut (q.map some ++ [none] ++ r.map some) (some ((b : Int) + 1)) none = r.map some := by
  constructor
  · rw [cut_take (by omega), Int.toNat_natCast]
    have := mid_take (q := q.map some) (x := (none : Option Int)) (r := r.map some)
    rw [List.length_map, hq] at this
    exact this
  · rw [cut_drop (by omega)]
    have := mid_drop (q := q.map some) (x := (none : Option Int)) (r := r.map some)
    rw [List.length_map, hq] at this
    have e : ((b : Int) + 1).toNat = b + 1 := by omega
    rw [e]; exact this
theorem put_way {q r : List Int} {x : Int} : q.map some ++ [x].map (fun z => (some z)) ++ r.map some = (q ++ [x] ++ r).map some := by simp
theorem wonStep_ok {m : List (List Int)} {B : Nat} {lots : Lots} {b : Nat} (hm : MkOk m) (hb : b < m.length) (lo : LO m B lots) (lf : LF m lots) {q r : List Int} (h1 : PIn q (m.take b)) (h2 : PIn r (m.drop (b + 1))) {x : Int} (hx : x ∈ m[b]) :
    wonStep lots (b : Int) (q.map some ++ [none] ++ r.map some) x = some (if Wn lots b (q ++ [x] ++ r) = true then some x else none) := by
  obtain ⟨g1, g2⟩ := way_len hb hm h1 h2
  obtain ⟨c1, c2⟩ := way_cut (q := q) (r := r) g1
  obtain ⟨lot, e, _⟩ := lot_of lo lf (way_in hb h1 h2 hx)
  have hw : Wn lots b (q ++ [x] ++ r) = decide ((b : Int) ∈ lot) := by unfold Wn; rw [e]; rfl
  unfold wonStep
  rw [c1, c2, bnd (catO_ok (by unfold LINE; simp; omega)), bnd (catO_ok (by unfold LINE; simp; omega)), put_way, aGetX_some, bnd e, hw]
  split <;> rfl
theorem won_ok {m : List (List Int)} {B : Nat} {lots : Lots} {b : Nat} (hm : MkOk m) (hb : b < m.length) (lo : LO m B lots) (lf : LF m lots) {q r : List Int} (h1 : PIn q (m.take b)) (h2 : PIn r (m.drop (b + 1))) :
    lcP (wonStep lots (b : Int) (q.map some ++ [none] ++ r.map some)) m[b] = some ((m[b]).filter fun x => Wn lots b (q ++ [x] ++ r)) := by
  have := lcP_filter (step := wonStep lots (b : Int) (q.map some ++ [none] ++ r.map some)) (fun x => Wn lots b (q ++ [x] ++ r)) (fun x => x) m[b] fun x hx => wonStep_ok hm hb lo lf h1 h2 hx
  rw [List.map_id'] at this
  exact this
theorem won_len {m : List (List Int)} (hm : MkOk m) {b : Nat} (hb : b < m.length) (w : Int → Bool) : ((m[b]).filter w).length ≤ LINE := by
  have h1 := List.length_filter_le w m[b]
  have h2 := (hm.1 _ (List.getElem_mem hb)).2
  unfold LINE; omega
theorem toldStep_ok {m : List (List Int)} {B : Nat} {lots : Lots} {b : Nat} (hm : MkOk m) (hb : b < m.length) (hasc : (m[b]).Pairwise (· < ·)) (lo : LO m B lots) (lf : LF m lots) {q r : List Int} (h1 : PIn q (m.take b)) (h2 : PIn r (m.drop (b + 1))) (a : Bool) :
    ∃ a', toldStep lots (b : Int) m[b] a (q.map some ++ [none] ++ r.map some) = some a' ∧ (a' = true ↔ a = true ∧ upB (fun x => Wn lots b (q ++ [x] ++ r)) m[b]) := by
  have hup := up_iff (w := fun x => Wn lots b (q ++ [x] ++ r)) hasc
  unfold toldStep
  rw [bnd (won_ok hm hb lo lf h1 h2), bnd (lenP_ok (won_len hm hb _))]
  cases hf : (m[b]).filter (fun x => Wn lots b (q ++ [x] ++ r)) with
  | nil =>
    rw [if_neg (by simp), Option.bind_some, if_neg (by decide)]
    refine ⟨a, rfl, ⟨fun h => ⟨h, hup.mpr fun x t e => ?_⟩, fun h => h.1⟩⟩
    rw [hf] at e; cases e
  | cons w0 t =>
    rw [if_pos (by simp)]
    have e1 : lcP (fun (x245 : Int) => ((atI (w0 :: t) (0 : Int)).bind fun t246 => if (decide (t246 ≤ x245)) = true then some (some x245) else some none : Option (Option Int))) m[b] = some ((m[b]).filter fun y => decide (w0 ≤ y)) := by
      have e0 : atI (w0 :: t) (0 : Int) = some w0 := atI_nat (k := 0) (by simp)
      have := lcP_filter (step := fun (x245 : Int) => ((atI (w0 :: t) (0 : Int)).bind fun t246 => if (decide (t246 ≤ x245)) = true then some (some x245) else some none : Option (Option Int))) (fun y => decide (w0 ≤ y)) (fun x => x) m[b] fun x _ => by
        rw [e0, Option.bind_some]
        split <;> rfl
      rw [List.map_id'] at this
      exact this
    rw [bnd e1, bnd (lenP_ok (won_len hm hb _)), Option.bind_some]
    have key : upB (fun x => Wn lots b (q ++ [x] ++ r)) m[b] ↔ (m[b]).filter (fun y => decide (w0 ≤ y)) = w0 :: t := by
      rw [hup]
      constructor
      · intro h; rw [h w0 t hf, hf]
      · intro h x t' e
        rw [hf] at e
        cases e
        rw [h, hf]
    by_cases c : (m[b]).filter (fun y => decide (w0 ≤ y)) = w0 :: t
    · rw [if_neg (by rw [c]; simp)]
      exact ⟨a, rfl, ⟨fun h => ⟨h, key.mpr c⟩, fun h => h.1⟩⟩
    · rw [if_pos (by simpa using c)]
      exact ⟨false, rfl, ⟨fun h => (by cases h), fun h => absurd (key.mp h.2) c⟩⟩
theorem pln_prof {n : Nat} {p : List (Option Int)} (h : p.length ≤ LINE) : Pln (n + 1) (Rp.enc p) := pln_list p h fun a _ => pln_opt a fun z _ => pln_int z
theorem ways_plen {m : List (List Int)} {b : Nat} (hm : MkOk m) (hb : b < m.length) {o : List (Option Int)} (h : o ∈ ways m b) : o.length ≤ LINE := by
  obtain ⟨q, r, rfl, h1, h2⟩ := ways_mem.mp h
  obtain ⟨g1, g2⟩ := way_len hb hm h1 h2
  unfold LINE; simp; omega
theorem ways_plain {m : List (List Int)} {b : Nat} (hm : MkOk m) (hb : b < m.length) : Pln 7 (Rp.enc (ways m b)) := by
  refine pln_list (n := 6) _ ?_ fun p hp => pln_prof (n := 5) (ways_plen hm hb hp)
  have h1 := wayM_cnt hb fun l hl => (hm.1 l hl).1
  have h2 := hm.2.2
  unfold ways
  rw [pfs_len]
  unfold LINE; omega
theorem ways_ne {m : List (List Int)} {b : Nat} (hm : MkOk m) (hb : b < m.length) : ways m b ≠ [] ∧ (ways m b).length ≤ 2000 := by
  have h1 := wayM_cnt hb fun l hl => (hm.1 l hl).1
  have h2 := cnt_pos (m := wayM m b) fun l hl => (wayM_ok hm.1 l hl).1
  have h3 := pfs_len (wayM m b)
  have h4 := hm.2.2
  refine ⟨fun z => ?_, by unfold ways; omega⟩
  unfold ways at z
  rw [z] at h3
  simp at h3
  omega
theorem drawStep_ok {m : List (List Int)} {B : Nat} {lots : Lots} {b : Nat} (hm : MkOk m) (hb : b < m.length) (lo : LO m B lots) (lf : LF m lots) (d : Deal) (x0 : Int) :
    ∃ d', drawStep lots (m, lotR m lots) (b : Int) m[b] (ways m b) d x0 = some (.nx d') := by
  obtain ⟨w1, w2⟩ := ways_ne hm hb
  obtain ⟨o, d1, e1, ho⟩ := of_some' d w1 (by omega)
  obtain ⟨l1, l2⟩ := hm.1 _ (List.getElem_mem hb)
  obtain ⟨x, d2, e2, hx⟩ := of_some' d1 l1 (by omega)
  obtain ⟨q, r, rfl, h1, h2⟩ := ways_mem.mp ho
  obtain ⟨g1, g2⟩ := way_len hb hm h1 h2
  obtain ⟨c1, c2⟩ := way_cut (q := q) (r := r) g1
  refine ⟨d2, ?_⟩
  unfold drawStep
  rw [bnd e1]
  dsimp only
  rw [of1_eq, bnd e2]
  dsimp only
  rw [c1, c2, bnd (catO_ok (by unfold LINE; simp; omega)), bnd (catO_ok (by unfold LINE; simp; omega)), put_way, bnd (level_ok g1 g2), bnd (same_some rfl (pln_prof (n := 6) (by unfold LINE; simp; omega))), if_neg (by decide),
    bnd (won_ok hm hb lo lf h1 h2), bnd (lenP_ok (won_len hm hb _)), bnd (least_ok hm hb h1 h2)]
  generalize hW : (m[b]).filter (fun x => Wn lots b (q ++ [x] ++ r)) = W
  have e5 : (if (!(decide ((Ls.mk (W : (List Int))) = (Ls.mk ([] : (List Int)))))) = true then (atI W (0 : Int)).bind fun t301 => some (some t301) else some (none : (Option Int))) = some W.head? := by
    cases W with
    | nil => rw [if_neg (by simp)]; rfl
    | cons w0 t =>
      have e0 : atI (w0 :: t) (0 : Int) = some w0 := atI_nat (k := 0) (by simp)
      rw [if_pos (by simp), e0]; rfl
  rw [bnd e5, bnd (same_some rfl (pln_opt W.head? fun z _ => pln_int z)), if_neg (by decide)]
def RX (m : List (List Int)) (lots : Lots) (x : Pw Int (List Int)) : Prop := ∀ (b : Nat) (hb : b < m.length), x = Pw.of (b : Int) m[b] → Rises m lots b m[b]
theorem lawStep_ok {m : List (List Int)} {B : Nat} {lots : Lots} {b : Nat} (hm : MkOk m) (hb : b < m.length) (hasc : (m[b]).Pairwise (· < ·)) (lo : LO m B lots) (lf : LF m lots) (d : Deal) (a : Bool) :
    ∃ d' a', lawStep m lots (m, lotR m lots) (d, a) (Pw.of (b : Int) m[b]) = some (.nx (d', a')) ∧ (a' = true ↔ a = true ∧ Rises m lots b m[b]) := by
  have hml := hm.2.1
  have c1 : cut m none (some (b : Int)) = m.take b := by rw [cut_take (by omega), Int.toNat_natCast]
  have c2 : cut m (some ((b : Int) + 1)) none = m.drop (b + 1) := by
    rw [cut_drop (by omega)]
    have e : ((b : Int) + 1).toNat = b + 1 := by omega
    rw [e]
  obtain ⟨a', e1, i1⟩ := loopO_inv (step := toldStep lots (b : Int) m[b]) (fun s xs => (∀ o ∈ xs, o ∈ ways m b) ∧ ((s = true ∧ ∀ o ∈ xs, ∀ q r, o = q.map some ++ [none] ++ r.map some → PIn q (m.take b) → PIn r (m.drop (b + 1)) → upB (fun x => Wn lots b (q ++ [x] ++ r)) m[b]) ↔ (a = true ∧ Rises m lots b m[b]))) (fun s o xs h => by
    obtain ⟨j1, j2⟩ := h
    obtain ⟨q, r, rfl, h1, h2⟩ := ways_mem.mp (j1 o List.mem_cons_self)
    obtain ⟨s', e, hs⟩ := toldStep_ok hm hb hasc lo lf h1 h2 s
    refine ⟨s', e, fun z hz => j1 z (List.mem_cons_of_mem _ hz), ?_⟩
    rw [← j2, hs]
    constructor
    · rintro ⟨⟨k1, k2⟩, k3⟩
      refine ⟨k1, fun z hz q' r' ez g1 g2 => ?_⟩
      rcases List.mem_cons.mp hz with y | y
      · rw [y] at ez
        have p1 := pin_len h1
        have p2 := pin_len g1
        obtain ⟨e2, e3⟩ := way_inj (by omega) ez
        subst e2 e3
        exact k2
      · exact k3 z y q' r' ez g1 g2
    · rintro ⟨k1, k2⟩
      exact ⟨⟨k1, k2 _ List.mem_cons_self q r rfl h1 h2⟩, fun z hz => k2 z (List.mem_cons_of_mem _ hz)⟩) (ways m b) a ⟨fun _ h => h, ⟨fun h => ⟨h.1, fun q r h1 h2 => h.2 _ (ways_mem.mpr ⟨q, r, rfl, h1, h2⟩) q r rfl h1 h2⟩, fun h => ⟨h.1, fun o _ q r _ h1 h2 => h.2 q r h1 h2⟩⟩⟩
  have hr : rng1O 3 = some _ := rng1O_int (by omega) (by omega)
  rcases loopC_inv (ρ := Bool) (step := drawStep lots (m, lotR m lots) (b : Int) m[b] (ways m b)) (fun _ _ => True) (fun _ => True) (fun _ => False) (fun _ _ => trivial) (fun s x xs _ => by
    obtain ⟨d', e⟩ := drawStep_ok hm hb lo lf s x
    exact ⟨_, e, .nx trivial⟩) ((List.range (3 : Int).toNat).map fun (i : Nat) => (i : Int)) d trivial with ⟨d', e2, _⟩ | ⟨_, _, z⟩
  · refine ⟨d', a', ?_, ?_⟩
    · have e3 : lawStep m lots (m, lotR m lots) (d, a) (Pw.of (b : Int) m[b]) = ((catO ((cut m none (some (b : Int))).map (fun z => (z.map (fun z => (some z))))) ([[()]].map (fun z => (z.map (fun z => (none : (Option Int))))))).bind fun t208 => (catO t208 ((cut m (some ((b : Int) + (1 : Int))) none).map (fun z => (z.map (fun z => (some z)))))).bind fun t209 => (F__law_profiles_1 t209).bind fun t210 => (F_others_of m (b : Int)).bind fun t211 => (sameO (en (t211 : (List (List (Option Int))))) (en (t210 : (List (List (Option Int)))))).bind fun t212 => if (!t212) = true then some (.rt false) else (loopO (toldStep lots (b : Int) m[b]) a t210).bind fun t250 => (rng1O (3 : Int)).bind fun t251 => ctlO (loopC (ρ := Bool) (drawStep lots (m, lotR m lots) (b : Int) m[b] t210) d t251) (fun t304 => some (.nx (t304, t250))) (fun r305 => some (.rt r305)) : Option (Ctl (Deal × Bool) Bool)) := rfl
      have e4 : (m.take b).map (fun z => (z.map (fun z => (some z)))) ++ [[()]].map (fun z => (z.map (fun z => (none : (Option Int))))) ++ (m.drop (b + 1)).map (fun z => (z.map (fun z => (some z)))) = wayM m b := rfl
      rw [e3, c1, c2, bnd (catO_ok (by unfold LINE; simp; omega)), bnd (catO_ok (by unfold LINE; simp; omega)), e4, bnd (ways_ok1 hm hb), bnd (others_ok hm hb), bnd (same_some rfl (ways_plain hm hb)), if_neg (by decide), bnd e1, bnd hr, ctl_nx e2]
    · have := i1.2
      simpa using this
  · exact z.elim
theorem F_law_true {ns : List Int} (hn : ns.length ≤ 63) : F_law ns = some true := by
  obtain ⟨d, e1⟩ := draw_some (salt := 3) hn (by omega) (by omega)
  obtain ⟨m2, d2, e2, h2, g2, _⟩ := market_some d (bu := 6) (le := 8) (mo := 2000) (by omega) (by omega) (by omega) (by omega) (by omega)
  obtain ⟨m3, d3, e3, h3, g3, _⟩ := market_some d2 (bu := 4) (le := 4) (mo := 100) (by omega) (by omega) (by omega) (by omega) (by omega)
  obtain ⟨m4, d4, e4, h4, g4, _⟩ := market_some d3 (bu := 3) (le := 8) (mo := 200) (by omega) (by omega) (by omega) (by omega) (by omega)
  obtain ⟨m, d5, e5, hmm⟩ := of_some' d4 (l := [m2, m3, m4]) (by simp) (by simp)
  have hk : MktOk m ∧ cnt m ≤ 2000 := by
    simp at hmm
    rcases hmm with q | q | q <;> rw [q]
    · exact ⟨h2, by omega⟩
    · exact ⟨h3, by omega⟩
    · exact ⟨h4, by omega⟩
  have hm : MkOk m := ⟨fun l hl => by
    obtain ⟨a1, a2, _⟩ := hk.1.2.2 l hl
    exact ⟨List.length_pos_iff.mp a1, by omega⟩, by have := hk.1.2.1; omega, hk.2⟩
  obtain ⟨lots, d6, e6, lo, lf⟩ := lots_ok d5 hm hk.1.1
  have e7 := rule_ok hm lo lf
  obtain ⟨fr, e8, hf⟩ := fall_ok (lots := lots) hm
  have hall : (∀ x ∈ enumW m, RX m lots x) ↔ ∀ (b : Nat) (hb : b < m.length), Rises m lots b m[b] := by
    constructor
    · intro z b hb
      exact z (Pw.of (b : Int) m[b]) (by
        unfold enumW
        exact List.mem_iff_getElem.mpr ⟨b, by simpa using hb, by simp⟩) b hb rfl
    · intro z x _ b hb _
      exact z b hb
  rcases loopC_inv (ρ := Bool) (step := lawStep m lots (m, lotR m lots)) (fun s xs => (∀ x ∈ xs, x ∈ enumW m) ∧ ((s.2 = true ∧ ∀ x ∈ xs, RX m lots x) ↔ ∀ x ∈ enumW m, RX m lots x)) (fun s => s.2 = true ↔ ∀ x ∈ enumW m, RX m lots x) (fun _ => False) (fun s h => by simpa using h.2) (fun s x xs h => by
    obtain ⟨j1, j2⟩ := h
    obtain ⟨b, hb, rfl⟩ := enumW_mem (j1 x List.mem_cons_self)
    obtain ⟨dl, told⟩ := s
    obtain ⟨d', a', e, ha⟩ := lawStep_ok hm hb (hk.1.2.2 _ (List.getElem_mem hb)).2.2.1 lo lf dl told
    refine ⟨_, e, .nx ⟨fun z hz => j1 z (List.mem_cons_of_mem _ hz), ?_⟩⟩
    rw [← j2]
    dsimp only
    rw [ha]
    constructor
    · rintro ⟨⟨k1, k2⟩, k3⟩
      refine ⟨k1, fun z hz => ?_⟩
      rcases List.mem_cons.mp hz with y | y
      · subst y
        intro b' hb' e'
        have eb : (b : Int) = (b' : Int) := congrArg Prod.fst e'
        have eb' : b = b' := by omega
        subst eb'
        exact k2
      · exact k3 z y
    · rintro ⟨k1, k2⟩
      exact ⟨⟨k1, k2 _ List.mem_cons_self b hb rfl⟩, fun z hz => k2 z (List.mem_cons_of_mem _ hz)⟩) (enumW m) (d6, true) ⟨fun _ h => h, by simp⟩ with ⟨s, e9, hs⟩ | ⟨_, _, z⟩
  · have e10 : F_is_told_by_least (m, lotR m lots) = some fr.isNone := by
      unfold F_is_told_by_least F_is_rising
      rw [bnd e8]; rfl
    have e11 : fr.isNone = s.2 := by
      have h1 : fr.isNone = true ↔ s.2 = true := by
        rw [hs, hall, ← hf]
        cases fr <;> simp
      cases h3 : s.2 with
      | true => exact h1.mpr h3
      | false =>
        cases h4 : fr.isNone with
        | false => rfl
        | true => rw [h1.mp h4] at h3; cases h3
    have e12 : F_law ns = (drawO ns (3 : Int)).bind fun t1 => (F__law_market t1 (6 : Int) (8 : Int) (2000 : Int)).bind fun t2 => (F__law_market t2.2 (4 : Int) (4 : Int) (100 : Int)).bind fun t3 => (F__law_market t3.2 (3 : Int) (8 : Int) (200 : Int)).bind fun t4 => (F__law_of t4.2 ([t2.1, t3.1, t4.1])).bind fun t5 => (F__law_lots t5.2 t5.1).bind fun t6 => (F__law_rule t5.1 t6.1).bind fun t7 => ctlO (loopC (ρ := Bool) (lawStep t5.1 t6.1 t7) (t6.2, true) (enumW t5.1)) (fun t306 => (F_is_told_by_least t7).bind fun t307 => (sameO (en (t307 : Bool)) (en (t306.2 : Bool))).bind fun t308 => some t308) (fun r309 => some r309) := rfl
    rw [e12, bnd e1, bnd e2]
    dsimp only
    rw [bnd e3]
    dsimp only
    rw [bnd e4]
    dsimp only
    rw [bnd e5]
    dsimp only
    rw [bnd e6]
    dsimp only
    rw [bnd e7, ctl_nx e9, bnd e10, bnd (same_some (by rw [e11]) (pln_bool _))]
  · exact z.elim
theorem law_true : ∀ ns : List Int, ns.length ≤ 63 → ∃ outs, f_law [.dat (.list (ns.map PyData.int))] = .ret false (.dat (.bool true)) outs := fun ns hn => ⟨_, sim_law ns true (F_law_true hn)⟩
end Pl

namespace Pl
open PySem L2 PySem.Spec PyProof.Rows
/-! the head -/
def fnL : List He.DefD := [dd "profiles" (top 1), dd "place_of" (top 2), dd "lot_at" (top 4), dd "wins" (top 5), dd "others_of" (top 6), dd "with_level" (top 7), dd "falling_pair" (top 8), dd "is_rising" (top 9), dd "least_winning" (top 10), dd "is_told_by_least" (top 11), dd "_law_draw" (top 13), dd "_law_any" (top 14), dd "_law_of" (top 15), dd "_law_same" (top 16), dd "_law_profiles" (top 17), dd "_law_ladder" (top 18), dd "_law_market" (top 19), dd "_law_parted" (top 20), dd "_law_clock_lots" (top 21), dd "_law_rule" (top 22), dd "_law_lots" (top 23), dd "law" (top 24)]
def faL : List He.Fa := [.glo "profiles", .glo "place_of", .glo "lot_at", .glo "wins", .glo "others_of", .glo "with_level", .glo "falling_pair", .glo "is_rising", .glo "least_winning", .glo "is_told_by_least", .glo "_law_draw", .glo "_law_any", .glo "_law_of", .glo "_law_same", .glo "_law_profiles", .glo "_law_ladder", .glo "_law_market", .glo "_law_parted", .glo "_law_clock_lots", .glo "_law_rule", .glo "_law_lots", .glo "law", .free "tuple", .free "zip", .free "len", .free "enumerate", .free "int", .free "abs", .free "isinstance", .free "str", .free "bool", .free "sorted", .free "range", .free "dict", .free "max", .free "list", .free "sum"]
def tsL : List He.Tab := []
def exL (K : PySem.W.Frag) : Bool := true
abbrev Rw : PySem.W.OpenRow := PySem.W.OpenLaw.row PySem.Challenge.rw_plainlybest_k03_whole_others_and_least_w
abbrev hkL : PySem.W.Hook := He.hookX 5 faL fnL tsL [] exL
def obL (s : PySem.W.SharedT) : He.AlX := He.obsX 5 faL fnL tsL [] exL (HandSHeadRun.getT s)
theorem obL_eq (s : PySem.W.SharedT) : obL s = hkL.obs s.abs := He.obsX_eq (HandSHeadRun.getT_eq s)
def looseL0 : List Str := ["profiles", "place_of", "lot_at", "wins", "others_of", "with_level", "falling_pair", "is_rising", "least_winning", "is_told_by_least", "_law_draw", "_law_any", "_law_of", "_law_same", "_law_profiles", "_law_ladder", "_law_market", "_law_parted", "_law_clock_lots", "_law_rule", "_law_lots"]
abbrev looseL : List Str := looseL0
theorem runL (w : World) : HandSHeadRun.RunEq Rw (PySem.W.view Rw.prog [24]) hkL obL 1400 looseL w := by
  intro os
  kernel_rfl
theorem factsL {P : Program} {w : World} {K : PySem.W.Frag} {h : Heap} {mg : Str → Option Value} {f : Addr} (X : K.In h) (G : h.Ns mainGlobals mg) (hfa : mg ("law" : Str) = some (.ref f)) (c : He.SaysX faL fnL tsL [] exL w h K)
    (hg : ∀ ns : List Int, ns.length ≤ 63 → ∃ outs, f_law [.dat (.list (ns.map PyData.int))] = .ret false (.dat (.bool true)) outs) :
    ∃ fd : FuncData, (∀ (s : Shared) (v : Value), BindsTo s fd ⟨[v], []⟩ [("script", v)]) ∧ ∀ base : Heap, K.In base → base.Ns mainGlobals mg → FnOk P w K mg base L2.CX0 k_law f fd ["script"] (spLaw K) := by
  have a_profiles := at_of c.t.d X G 0 0 (x := "profiles") (st := top 1) rfl rfl
  have a_place_of := at_of c.t.d X G 1 1 (x := "place_of") (st := top 2) rfl rfl
  have a_lot_at := at_of c.t.d X G 2 2 (x := "lot_at") (st := top 4) rfl rfl
  have a_wins := at_of c.t.d X G 3 3 (x := "wins") (st := top 5) rfl rfl
  have a_others_of := at_of c.t.d X G 4 4 (x := "others_of") (st := top 6) rfl rfl
  have a_with_level := at_of c.t.d X G 5 5 (x := "with_level") (st := top 7) rfl rfl
  have a_falling_pair := at_of c.t.d X G 6 6 (x := "falling_pair") (st := top 8) rfl rfl
  have a_is_rising := at_of c.t.d X G 7 7 (x := "is_rising") (st := top 9) rfl rfl
  have a_least_winning := at_of c.t.d X G 8 8 (x := "least_winning") (st := top 10) rfl rfl
  have a_is_told_by_least := at_of c.t.d X G 9 9 (x := "is_told_by_least") (st := top 11) rfl rfl
  have a__law_draw := at_of c.t.d X G 10 10 (x := "_law_draw") (st := top 13) rfl rfl
  have a__law_any := at_of c.t.d X G 11 11 (x := "_law_any") (st := top 14) rfl rfl
  have a__law_of := at_of c.t.d X G 12 12 (x := "_law_of") (st := top 15) rfl rfl
  have a__law_same := at_of c.t.d X G 13 13 (x := "_law_same") (st := top 16) rfl rfl
  have a__law_profiles := at_of c.t.d X G 14 14 (x := "_law_profiles") (st := top 17) rfl rfl
  have a__law_ladder := at_of c.t.d X G 15 15 (x := "_law_ladder") (st := top 18) rfl rfl
  have a__law_market := at_of c.t.d X G 16 16 (x := "_law_market") (st := top 19) rfl rfl
  have a__law_parted := at_of c.t.d X G 17 17 (x := "_law_parted") (st := top 20) rfl rfl
  have a__law_clock_lots := at_of c.t.d X G 18 18 (x := "_law_clock_lots") (st := top 21) rfl rfl
  have a__law_rule := at_of c.t.d X G 19 19 (x := "_law_rule") (st := top 22) rfl rfl
  have a__law_lots := at_of c.t.d X G 20 20 (x := "_law_lots") (st := top 23) rfl rfl
  have a_law := at_of c.t.d X G 21 21 (x := "law") (st := top 24) rfl rfl
  have m_tuple := He.free_ok X G (c.t.d.fact 22 (f := .free "tuple") rfl)
  have m_zip := He.free_ok X G (c.t.d.fact 23 (f := .free "zip") rfl)
  have m_len := He.free_ok X G (c.t.d.fact 24 (f := .free "len") rfl)
  have m_enumerate := He.free_ok X G (c.t.d.fact 25 (f := .free "enumerate") rfl)
  have m_int := He.free_ok X G (c.t.d.fact 26 (f := .free "int") rfl)
  have m_abs := He.free_ok X G (c.t.d.fact 27 (f := .free "abs") rfl)
  have m_isinstance := He.free_ok X G (c.t.d.fact 28 (f := .free "isinstance") rfl)
  have m_str := He.free_ok X G (c.t.d.fact 29 (f := .free "str") rfl)
  have m_bool := He.free_ok X G (c.t.d.fact 30 (f := .free "bool") rfl)
  have m_sorted := He.free_ok X G (c.t.d.fact 31 (f := .free "sorted") rfl)
  have m_range := He.free_ok X G (c.t.d.fact 32 (f := .free "range") rfl)
  have m_dict := He.free_ok X G (c.t.d.fact 33 (f := .free "dict") rfl)
  have m_max := He.free_ok X G (c.t.d.fact 34 (f := .free "max") rfl)
  have m_list := He.free_ok X G (c.t.d.fact 35 (f := .free "list") rfl)
  have m_sum := He.free_ok X G (c.t.d.fact 36 (f := .free "sum") rfl)
  obtain ⟨f0, fd, hm, F⟩ := a_law.ex
  rw [hfa] at hm; cases hm
  refine ⟨fd, fun s v => FunD.bindsA (ps := ["script"]) F po_law s [v] rfl, fun base _ _ => ?_⟩
  have h_profiles := ok_profiles (P := P) (w := w) (K := K) (mg := mg) (base := base) (ca := fun _ => 0) a_profiles m_tuple
  have h_place_of := ok_place_of (P := P) (w := w) (K := K) (mg := mg) (base := base) (ca := fun _ => 0) a_place_of m_zip m_len
  have h_lot_at := ok_lot_at (P := P) (w := w) (K := K) (mg := mg) (base := base) (ca := fun _ => 0) a_lot_at h_place_of
  have h_wins := ok_wins (P := P) (w := w) (K := K) (mg := mg) (base := base) (ca := fun _ => 0) a_wins h_lot_at
  have h_others_of := ok_others_of (P := P) (w := w) (K := K) (mg := mg) (base := base) (ca := fun _ => 0) a_others_of m_enumerate h_profiles
  have h_with_level := ok_with_level (P := P) (w := w) (K := K) (mg := mg) (base := base) (ca := fun _ => 0) a_with_level
  have h_falling_pair := ok_falling_pair (P := P) (w := w) (K := K) (mg := mg) (base := base) (ca := fun _ => 0) a_falling_pair m_enumerate m_zip h_others_of h_wins h_with_level
  have h_is_rising := ok_is_rising (P := P) (w := w) (K := K) (mg := mg) (base := base) (ca := fun _ => 0) a_is_rising h_falling_pair
  have h_least_winning := ok_least_winning (P := P) (w := w) (K := K) (mg := mg) (base := base) (ca := fun _ => 0) a_least_winning h_wins h_with_level
  have h_is_told_by_least := ok_is_told_by_least (P := P) (w := w) (K := K) (mg := mg) (base := base) (ca := fun _ => 0) a_is_told_by_least h_is_rising
  have h__law_draw := ok__law_draw (P := P) (w := w) (K := K) (mg := mg) (base := base) (ca := fun _ => 0) a__law_draw m_int m_abs
  have h__law_any := ok__law_any (P := P) (w := w) (K := K) (mg := mg) (base := base) (ca := fun _ => 0) a__law_any m_int
  have h__law_of := ok__law_of (P := P) (w := w) (K := K) (mg := mg) (base := base) (ca := fun _ => 0) a__law_of m_len h__law_any
  have h__law_same := (ok__law_same (P := P) (w := w) (K := K) (mg := mg) (base := base) (ca := fun _ => 0) a__law_same m_isinstance m_str m_int m_bool m_tuple m_zip m_len 8).mono (show _ ≤ k__law_same by decide)
  have h__law_profiles := ok__law_profiles (P := P) (w := w) (K := K) (mg := mg) (base := base) (ca := fun _ => 0) a__law_profiles
  have h__law_ladder := ok__law_ladder (P := P) (w := w) (K := K) (mg := mg) (base := base) (ca := fun _ => 0) a__law_ladder m_tuple m_sorted m_range m_len m_dict h__law_any h__law_of
  have h__law_market := ok__law_market (P := P) (w := w) (K := K) (mg := mg) (base := base) (ca := fun _ => 0) a__law_market m_tuple m_range m_max h__law_ladder h__law_any h__law_of
  have h__law_parted := ok__law_parted (P := P) (w := w) (K := K) (mg := mg) (base := base) (ca := fun _ => 0) a__law_parted
  have h__law_clock_lots := ok__law_clock_lots (P := P) (w := w) (K := K) (mg := mg) (base := base) (ca := fun _ => 0) a__law_clock_lots m_tuple m_sorted m_list m_range m_len m_dict h__law_any h__law_profiles h__law_parted h__law_of
  have h__law_rule := ok__law_rule (P := P) (w := w) (K := K) (mg := mg) (base := base) (ca := fun _ => 0) a__law_rule m_tuple h__law_profiles
  have h__law_lots := ok__law_lots (P := P) (w := w) (K := K) (mg := mg) (base := base) (ca := fun _ => 0) a__law_lots m_max m_sum m_dict m_range m_tuple m_len m_sorted h__law_profiles h__law_of h__law_any h__law_clock_lots
  have h_law := ok_law (P := P) (w := w) (K := K) (mg := mg) (base := base) (ca := fun _ => 0) a_law m_enumerate m_range m_tuple h__law_same h_is_told_by_least h_least_winning h_with_level h__law_of h_others_of h__law_profiles h__law_rule h__law_lots h__law_market h__law_draw
  exact law_end h_law hfa F hg
end Pl

open PySem PySem.W PySem.Calls PyProof.Rows
theorem PySem.Challenge.cw_plainlybest_k03_whole_others_and_least_w_holds : PySem.Challenge.rw_plainlybest_k03_whole_others_and_least_w.Holds := by
  w_on; o_law
  refine HandSHeadRun.head_any (r := OpenLaw.row PySem.Challenge.rw_plainlybest_k03_whole_others_and_least_w) (q := view (OpenLaw.row PySem.Challenge.rw_plainlybest_k03_whole_others_and_least_w).prog [24]) (H := Pl.hkL) (ob := Pl.obL) (M := 1400) (loose := Pl.looseL) (d := HandSHeadRun.topDef (OpenLaw.row PySem.Challenge.rw_plainlybest_k03_whole_others_and_least_w).prog 24) (kwd := []) Pl.obL_eq
    (by kernel_rfl) (fun s => by kernel_rfl) Pl.runL (by kernel_rfl) (by kernel_rfl) (by kernel_rfl) (by rfl) (by first | assumption | decide +kernel) (by decide +kernel) ⟨rfl, rfl, rfl, rfl, rfl, by decide +kernel⟩ ?hw ?hc
  case hw => w_witness2
  case hc =>
    refine L2.walk_ofE (l := PySem.Challenge.rw_plainlybest_k03_whole_others_and_least_w) (n := 63) (k := Pl.k_law) (x := "script") (CX := L2.CX0) rfl (by decide) (by kernel_rfl) ⟨rfl, by decide, by decide⟩ ?F (fun _ _ _ _ z => z)
    intro w mg fa h Y G hmg0
    obtain ⟨K, KX, c⟩ := Y
    have hmg : mg ("law" : PySem.Str) = some (.ref fa) := by
      have e : (HandSHeadRun.topDef (OpenLaw.row PySem.Challenge.rw_plainlybest_k03_whole_others_and_least_w).prog 24).name = ("law" : PySem.Str) := by kernel_rfl
      rw [← e]
      exact hmg0
    obtain ⟨fd, hb, hF⟩ := Pl.factsL (P := (PySem.Challenge.rw_plainlybest_k03_whole_others_and_least_w).prog) (w := w) KX G hmg c Pl.law_true
    exact ⟨K, fd, Pl.spLaw K, KX, hb, fun H a ns hl _ hS => ⟨a, ns, rfl, hS, hl, fun v H' e => e⟩, hF⟩
